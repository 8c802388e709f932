import PyProof.Rows.All
import Wide.All
import OpenK.AllK
import Wide.FinOn
import HandS.ForMost
import HandS.ForExc
import HandS.Wide
import HandS.TupAny
import HandS.IsInst
import HandS.Flow
import HandS.Style
import HandS.Zip
import HandS.Conv
import HandS.TupMul
import KE.DataCmp
import KE.DataMinMax
import HandS.Exc
import HandS.ExcInit
import HandS.ExcField
import HandS.ExcIs
import HandS.TryMany
import HandS.Hot
import HandS.ExcCtx
import KE.KExcIs
import KE.KRevSl
import HandS.Sort
import HandS.More
import HandS.Strs
import KE.KDictSum
import HandS.SortInts
import HandS.DictComp
import KE.GoesEnum
import HandS.SortKw
import PySem.Challenge.RW_scatterrows_k22_whole_identities_in_tabl
set_option Elab.async false
set_option linter.all false
set_option autoImplicit false
set_option maxRecDepth 100000
set_option maxHeartbeats 8000000
namespace L2.Iv
open PySem
inductive PV where
  | non | bl (b : Bool) | int (i : Int) | str (s : Str) | tup (xs : List PV) | lsv (xs : List PV) | loc (i : Nat)
  /-- a caught error: the name of its class, the class, its value -/
  | exn (c : Str) (C : Nat) (v : PV)
  /-- a dict that is displayed and never written: its keys, what stands there -/
  | dct (ks : List Str) (xs : List PV)
mutual
def PV.free : PV → Bool
  | .loc _ => false
  | .tup xs => freeAll xs
  | .lsv xs => freeAll xs
  | .non => true
  | .bl _ => true
  | .int _ => true
  | .str _ => true
  | .exn _ _ v => v.free
  | .dct _ xs => freeAll xs
def freeAll : List PV → Bool
  | [] => true
  | x :: xs => x.free && freeAll xs
end
mutual
def PV.data : PV → Bool
  | .loc _ => false
  | .tup xs => dataAll xs
  | .lsv xs => dataAll xs
  | .non => true
  | .bl _ => true
  | .int _ => true
  | .str _ => true
  | .exn .. => false
  | .dct .. => false
def dataAll : List PV → Bool
  | [] => true
  | x :: xs => x.data && dataAll xs
end
mutual
def PV.toD : PV → PyData
  | .loc _ => .none
  | .tup xs => .tuple (toDs xs)
  | .lsv xs => .list (toDs xs)
  | .non => .none
  | .bl b => .bool b
  | .int i => .int i
  | .str s => .str s
  | .exn .. => .none
  | .dct .. => .none
def toDs : List PV → List PyData
  | [] => []
  | x :: xs => x.toD :: toDs xs
end
abbrev Store := List (List PV)
abbrev Env := List (Option PV)
inductive Out (α : Type) where
  | ok (a : α) (st : Store)
  | exc (c : Str) (v : PV) (st : Store)
  | bad
def Out.bind {α β : Type} (o : Out α) (f : α → Store → Out β) : Out β := match o with
  | .ok a st => f a st
  | .exc c v st => .exc c v st
  | .bad => .bad
def Out.of {α : Type} (o : Option α) (st : Store) : Out α := match o with
  | some a => .ok a st
  | none => .bad
def Out.quiet {α : Type} (o : Out α) : Out α := match o with
  | .ok a st => .ok a st
  | _ => .bad
@[simp] theorem bind_ok {α β : Type} (a : α) (st : Store) (f : α → Store → Out β) : (Out.ok a st).bind f = f a st := rfl
@[simp] theorem bind_exc {α β : Type} (c : Str) (v : PV) (st : Store) (f : α → Store → Out β) : (Out.exc c v st).bind f = .exc c v st := rfl
@[simp] theorem bind_bad {α β : Type} (f : α → Store → Out β) : (Out.bad).bind f = .bad := rfl
@[simp] theorem of_some {α : Type} (a : α) (st : Store) : Out.of (some a) st = .ok a st := rfl
@[simp] theorem of_none {α : Type} (st : Store) : Out.of (none : Option α) st = .bad := rfl
@[simp] theorem quiet_ok {α : Type} (a : α) (st : Store) : (Out.ok a st).quiet = .ok a st := rfl
def seqL (st : Store) : PV → Option (List PV)
  | .lsv xs => some xs
  | .loc i => st[i]?
  | _ => none
def seqA (st : Store) : PV → Option (List PV)
  | .tup xs => some xs
  | .lsv xs => some xs
  | .loc i => st[i]?
  | _ => none
def newL (fr : Bool) (xs : List PV) (st : Store) : Out PV := if fr = true then .ok (.lsv xs) st else .ok (.loc st.length) (st ++ [xs])
def truthy (st : Store) : PV → Option Bool
  | .non => some false
  | .bl b => some b
  | .int i => some (i != 0)
  | .str s => if s.length ≤ sizeLine then some ((s.length : Int) != 0) else none
  | .tup xs => some (!xs.isEmpty)
  | .lsv xs => some (!xs.isEmpty)
  | .loc i => (st[i]?).map fun xs => !xs.isEmpty
  | .exn .. => none
  | .dct .. => none
inductive Bop where
  | add | sub | mul | fdiv | mod | pow | shl | shr | band | bor
inductive Cop where
  | eq | ne | lt | le | gt | ge | isin | notin | is | isnot
def addL (fr : Bool) (st : Store) (a b : PV) : Out PV := match seqL st a, seqL st b with
  | some xs, some ys => if xs.length + ys.length ≤ sizeLine then newL fr (xs ++ ys) st else .bad
  | _, _ => .bad
def addV (fr : Bool) (st : Store) : PV → PV → Out PV
  | .int i, .int j => .ok (.int (i + j)) st
  | .str i, .str j => if i.length + j.length ≤ sizeLine then .ok (.str (i ++ j)) st else .bad
  | .tup xs, .tup ys => if xs.length + ys.length ≤ sizeLine then .ok (.tup (xs ++ ys)) st else .bad
  | a, b => addL fr st a b
def mulL (fr : Bool) (st : Store) (a : PV) (k : Int) : Out PV := match seqL st a with
  | some xs => if -(2 ^ 63) ≤ k ∧ k < 2 ^ 63 ∧ xs.length * k.toNat ≤ sizeLine then newL fr (List.replicate k.toNat xs).flatten st else .bad
  | none => .bad
def mulV (fr : Bool) (st : Store) : PV → PV → Out PV
  | .int i, .int j => if i.natAbs.log2 + j.natAbs.log2 < 1000000 then .ok (.int (i * j)) st else .bad
  | .tup xs, .int k => if k = 1 then .ok (.tup xs) st else if xs ≠ [] ∧ 2 ≤ k ∧ k ≤ 10000000 ∧ xs.length * k.toNat ≤ 10000000 then .ok (.tup (List.replicate k.toNat xs).flatten) st else .bad
  | a, .int k => mulL fr st a k
  | _, _ => .bad
def binV (o : Bop) (fr : Bool) (st : Store) (a b : PV) : Out PV := match o with
  | .add => addV fr st a b
  | .mul => mulV fr st a b
  | .sub => match a, b with
    | .int i, .int j => .ok (.int (i - j)) st
    | _, _ => .bad
  | .fdiv => match a, b with
    | .int i, .int j => if 0 < j ∧ j.natAbs.log2 < 9000 then .ok (.int (i / j)) st else .bad
    | _, _ => .bad
  | .mod => match a, b with
    | .int i, .int j => if 0 < j then .ok (.int (i % j)) st else .bad
    | _, _ => .bad
  | .pow => match a, b with
    | .int i, .int j => if 0 ≤ j ∧ j ≤ 1000000 ∧ i.natAbs < 2 ^ 64 then .ok (.int (i ^ j.toNat)) st else .bad
    | _, _ => .bad
  | .shl => match a, b with
    | .int i, .int j => if 0 ≤ j ∧ j ≤ 1000000 ∧ i.natAbs < 2 ^ 64 then .ok (.int (i * 2 ^ j.toNat)) st else .bad
    | _, _ => .bad
  | .shr => match a, b with
    | .int i, .int j => if 0 ≤ j then .ok (.int (i / 2 ^ j.toNat)) st else .bad
    | _, _ => .bad
  | .band => match a, b with
    | .int i, .int j => .ok (.int (Builtin.bitAnd i j)) st
    | _, _ => .bad
  | .bor => match a, b with
    | .int i, .int j => .ok (.int (Builtin.bitOr i j)) st
    | _, _ => .bad
def eqvD (a b : PV) : Option Bool :=
  if a.data = true ∧ b.data = true ∧ SeqAt.shaped a.toD = true ∧ SeqAt.shaped b.toD = true then some (PyData.eqv a.toD b.toD) else none
def eqvV (st : Store) : PV → PV → Option Bool
  | .str x, .str y => some (x == y)
  | .loc k, .lsv ys => match st[k]? with
    | some xs => eqvD (.lsv xs) (.lsv ys)
    | none => none
  | a, b => eqvD a b
def flatP : PV → Bool
  | .non => true
  | .bl _ => true
  | .int _ => true
  | .str _ => true
  | _ => false
def toV : PV → L2.V
  | .non => .non
  | .bl b => .bl b
  | .int i => .int i
  | .str s => .str s
  | _ => .non
def inP (x : PV) (xs : List PV) : Bool := xs.any fun y => L2.eqV (toV y) (toV x)
def intsOf : List PV → Option (List Int)
  | [] => some []
  | .int i :: r => (intsOf r).map (i :: ·)
  | _ :: _ => none
def blsOf : List PV → Option (List Bool)
  | [] => some []
  | .bl b :: r => (blsOf r).map (b :: ·)
  | _ :: _ => none
def alikeP (a b : PV) : Bool := a.data && b.data && PySem.W.alike a.toD a.toD && PySem.W.alike a.toD b.toD && PySem.W.alike b.toD a.toD && PySem.W.alike b.toD b.toD && decide (a.toD.depth ≤ 64) && decide (b.toD.depth ≤ 64)
def ltP (a b : PV) : Option Bool := if alikeP a b = true then some (PySem.W.dataLt a.toD b.toD) else none
def cmpV (o : Cop) (st : Store) (a b : PV) : Option Bool := match o with
  | .eq => eqvV st a b
  | .ne => (eqvV st a b).map (!·)
  | .lt => match a, b with
    | .int i, .int j => some (decide (i < j))
    | .tup xs, .tup ys => ltP (.tup xs) (.tup ys)
    | _, _ => none
  | .le => match a, b with
    | .int i, .int j => some (decide (i ≤ j))
    | _, _ => none
  | .gt => match a, b with
    | .int i, .int j => some (decide (j < i))
    | .tup xs, .tup ys => ltP (.tup ys) (.tup xs)
    | _, _ => none
  | .ge => match a, b with
    | .int i, .int j => some (decide (j ≤ i))
    | _, _ => none
  | .isin => match seqA st b with
    | some xs => if flatP a = true ∧ xs.all flatP = true then some (inP a xs) else none
    | none => none
  | .notin => match seqA st b with
    | some xs => if flatP a = true ∧ xs.all flatP = true then some (!inP a xs) else none
    | none => none
  | .is => match a, b with
    | .bl x, .bl y => some (decide (x = y))
    | x, .non => some (match x with | .non => true | _ => false)
    | _, _ => none
  | .isnot => match a, b with
    | .bl x, .bl y => some (!decide (x = y))
    | x, .non => some (match x with | .non => false | _ => true)
    | _, _ => none
def ixV (st : Store) : PV → PV → Option PV
  | .str z, .int i => if z.length ≤ sizeLine then (L2.atI z.cps.toList i).map fun c => .str ⟨#[c]⟩ else none
  | a, .int i => match seqA st a with
    | some xs => L2.atI xs i
    | none => none
  | _, _ => none
def cutP (xs : List PV) (lo hi : Option Int) : List PV := (xs.drop (HT.sIx xs.length 0 lo)).take (HT.sIx xs.length xs.length hi - HT.sIx xs.length 0 lo)
def slV (fr : Bool) (st : Store) (a : PV) (lo hi : Option Int) : Out PV := match a with
  | .tup xs => .ok (.tup (cutP xs lo hi)) st
  | a => match seqL st a with
    | some xs => newL fr (cutP xs lo hi) st
    | none => .bad
def backE (fr : Bool) (st : Store) (x : PV) : Out PV := match x with
  | .tup xs => .ok (.tup xs.reverse) st
  | x => match seqL st x with
    | some xs => newL fr xs.reverse st
    | none => .bad
def backN (fr : Bool) (st : Store) (x : PV) : Out PV := match x with
  | .tup xs => .ok (.tup (xs.drop 1).reverse) st
  | _ => .bad
def lookS : List Str → List PV → Str → Option PV
  | k :: ks, x :: xs, w => if k = w then some x else lookS ks xs w
  | _, _, _ => none
def dgetV (st : Store) (x y : PV) : Out PV := match x, y with
  | .dct ks xs, .str w => .of (lookS ks xs w) st
  | _, _ => .bad
def dinV (neg : Bool) (st : Store) (x y : PV) : Out PV := match x, y with
  | .str w, .dct ks xs => if ks.length = xs.length then .ok (.bl (decide (w ∈ ks) != neg)) st else .bad
  | _, _ => .bad
def stepL {α : Type} (k : Nat) (xs : List α) : List α := (sliceRange 0 xs.length k).filterMap (xs[·]?)
def stepV (fr : Bool) (st : Store) (x y : PV) : Out PV := match y with
  | .int i => if 1 ≤ i then match seqL st x with
    | some xs => newL fr (stepL i.toNat xs) st
    | none => .bad else .bad
  | _ => .bad
def insD (n : Int) : List Int → List Int
  | [] => [n]
  | m :: r => if n < m then n :: m :: r else if n = m then m :: r else m :: insD n r
def sortD (ns : List Int) : List Int := ns.foldl (fun a n => insD n a) []
def alikeL (xs : List PV) : Bool := xs.all fun x => x.data && decide (x.toD.depth ≤ 64) && (match x with | .non => false | _ => true) && xs.all fun y => PySem.W.alike x.toD y.toD
def leastP (x : PV) (xs : List PV) : PV := xs.foldl (fun a y => if PySem.W.dataLt y.toD a.toD = true then y else a) x
inductive Bi where
  | len | abs | max2 | min2 | maxl | minl | sum | any | all | int | tuple | list | repr | divmod | stri
def tyOfP : PV → Option String
  | .non => some "NoneType"
  | .bl _ => some "bool"
  | .int _ => some "int"
  | .str _ => some "str"
  | .tup _ => some "tuple"
  | .lsv _ => some "list"
  | .loc _ => some "list"
  | .exn .. => none
  | .dct .. => none
def biV (f : Bi) (fr : Bool) (st : Store) (as : List PV) : Out PV := match f, as with
  | .len, [.str s] => if s.length ≤ sizeLine then .ok (.int s.length) st else .bad
  | .len, [a] => match seqA st a with
    | some xs => .ok (.int xs.length) st
    | none => .bad
  | .abs, [.int i] => .ok (.int (if i < 0 then -i else i)) st
  | .max2, [.int i, .int j] => .ok (.int (if j > i then j else i)) st
  | .min2, [.int i, .int j] => .ok (.int (if j < i then j else i)) st
  | .max2, [.tup xs, .tup ys] => match ltP (.tup xs) (.tup ys) with
    | some b => .ok (if b = true then .tup ys else .tup xs) st
    | none => .bad
  | .min2, [.tup xs, .tup ys] => match ltP (.tup ys) (.tup xs) with
    | some b => .ok (if b = true then .tup ys else .tup xs) st
    | none => .bad
  | .maxl, [a] => match (seqL st a).bind intsOf with
    | some (n :: ns) => .ok (.int (ns.foldl max n)) st
    | _ => .bad
  | .minl, [a] => match (seqL st a).bind intsOf with
    | some (n :: ns) => .ok (.int (ns.foldl min n)) st
    | _ => match seqL st a with
      | some (x :: xs) => if alikeL (x :: xs) = true then .ok (leastP x xs) st else .bad
      | _ => .bad
  | .sum, [a] => match (seqL st a).bind intsOf with
    | some ns => .ok (.int ns.sum) st
    | _ => .bad
  | .any, [a] => match (seqL st a).bind blsOf with
    | some bs => .ok (.bl (bs.any id)) st
    | _ => .bad
  | .all, [a] => match (seqL st a).bind blsOf with
    | some bs => .ok (.bl (bs.all id)) st
    | _ => .bad
  | .int, [.int i] => .ok (.int i) st
  | .int, [.bl b] => .ok (.int (if b then 1 else 0)) st
  | .tuple, [.tup xs] => .ok (.tup xs) st
  | .tuple, [a] => match seqL st a with
    | some xs => .ok (.tup xs) st
    | none => .bad
  | .list, [a] => match seqA st a with
    | some xs => newL fr xs st
    | none => .bad
  | .repr, [a] => if a.data = true ∧ a.toD.showable = true ∧ a.toD.shown.length ≤ sizeLine ∧ a.toD.depth ≤ 64 then .ok (.str a.toD.shown) st else .bad
  | .divmod, [.int i, .int j] => if 0 < j ∧ j < 1073741824 then .ok (.tup [.int (i / j), .int (i % j)]) st else .bad
  | .stri, [.int i] => if i.natAbs.log2 < 1920 then .ok (.str (toString i)) st else .bad
  | _, _ => .bad
def coolBi : Bi → Bool
  | .len => true
  | .abs => true
  | .int => true
  | .tuple => true
  | .list => true
  | .repr => true
  | _ => false
inductive Me where
  | append | extend | pop
def meV (m : Me) (st : Store) (i : Nat) (as : List PV) : Out PV := match m, st[i]?, as with
  | .append, some xs, [y] => if xs.length < sizeLine then .ok .non (st.set i (xs ++ [y])) else .bad
  | .extend, some xs, [b] => match seqA st b with
    | some zs => if xs.length + zs.length ≤ sizeLine then .ok .non (st.set i (xs ++ zs)) else .bad
    | none => .bad
  | .pop, some xs, [] => match xs[xs.length - 1]? with
    | some y => .ok y (st.set i xs.dropLast)
    | none => .bad
  | _, _, _ => .bad
inductive Pt where
  | n (i : Nat)
  | t2 (a b : Pt)
  | t3 (a b c : Pt)
  | t4 (a b c d : Pt)
  | t5 (a b c d e : Pt)
def Pt.slots : Pt → List Nat
  | .n i => [i]
  | .t2 a b => a.slots ++ b.slots
  | .t3 a b c => a.slots ++ b.slots ++ c.slots
  | .t4 a b c d => a.slots ++ b.slots ++ c.slots ++ d.slots
  | .t5 a b c d e => a.slots ++ b.slots ++ c.slots ++ d.slots ++ e.slots
def asgP : Pt → PV → Env → Option Env
  | .n i, v, env => some (env.set i (some v))
  | .t2 a b, .tup [x, y], env => (asgP a x env).bind (asgP b y)
  | .t3 a b c, .tup [x, y, z], env => ((asgP a x env).bind (asgP b y)).bind (asgP c z)
  | .t4 a b c d, .tup [x, y, z, u], env => (((asgP a x env).bind (asgP b y)).bind (asgP c z)).bind (asgP d u)
  | .t5 a b c d e, .tup [x, y, z, u, v], env => ((((asgP a x env).bind (asgP b y)).bind (asgP c z)).bind (asgP d u)).bind (asgP e v)
  | _, _, _ => none
mutual
inductive Ex where
  /-- a constant -/
  | c (v : PV)
  /-- a name of the def -/
  | v (i : Nat)
  /-- a constant of the module -/
  | g (x : Str)
  | bin (o : Bop) (fr : Bool) (a b : Ex)
  | neg (a : Ex)
  | nt (a : Ex)
  | cmp (o : Cop) (a b : Ex)
  | chn (o o2 : Cop) (a b c : Ex)
  | ands (es : Exs)
  | ors (es : Exs)
  | ite (c a b : Ex)
  | tup (es : Exs)
  | lst (fr : Bool) (es : Exs)
  | ix (a b : Ex)
  /-- a slice: from, to; a part left out -/
  | slA (fr : Bool) (a lo hi : Ex)
  | slF (fr : Bool) (a lo : Ex)
  | slT (fr : Bool) (a hi : Ex)
  /-- x[::-1] -/
  | slR (fr : Bool) (a : Ex)
  /-- x[:0:-1] -/
  | slN (fr : Bool) (a : Ex)
  /-- {"a": x, ..} kept; d[e]; e in d, e not in d -/
  | dct (ks : List Str) (es : Exs)
  | dget (a b : Ex)
  | din (neg : Bool) (a b : Ex)
  /-- x[::k] -/
  | slK (fr : Bool) (a k : Ex)
  | call (f : Str) (es : Exs)
  /-- with keywords: the written ones from the left, then for each parameter its place among these -/
  | callk (f : Str) (es : Exs) (ks : Exs) (perm : List Nat)
  | bi (f : Bi) (fr : Bool) (es : Exs)
  | isi (e : Ex) (T : String)
  /-- the value of a caught error; whether something is an error of an own class, of ValueError -/
  | fld (i : Nat)
  | ise (e : Ex) (c : Str)
  | me (m : Me) (i : Nat) (es : Exs)
  /-- a list comprehension, of one clause, of two: own the slots of its own names -/
  | lc (fr : Bool) (own : List Nat) (p : Pt) (it : Ix) (cs : Exs) (e : Ex)
  | lc2 (fr : Bool) (own : List Nat) (p : Pt) (it : Ix) (cs : Exs) (vs2 : List Nat) (p2 : Pt) (it2 : Ix) (cs2 : Exs) (e : Ex)
  /-- {"a": x, "b": y}[i] -/
  | dsp (ks : List Str) (es : Exs) (i : Ex)
  /-- sorted({e: True for p in it}), ints -/
  | srt (fr : Bool) (own : List Nat) (p : Pt) (it : Ix) (e : Ex)
  /-- what is never reached -/
  | nev
  /-- range(a), kept in a name; list(range(a)); max(a, default=d), a list of ints -/
  | rg1 (a : Ex)
  | lrg (fr : Bool) (a : Ex)
  | maxd (a d : Ex)
inductive Exs where
  | nil
  | cons (e : Ex) (es : Exs)
inductive Ix where
  | val (e : Ex)
  | rng1 (a : Ex)
  | rng2 (a b : Ex)
  | rng3 (a b : Ex) (c : Int)
  | zip (a b : Ex)
  | enm (a : Ex)
  /-- a range that is kept in a name -/
  | kr (e : Ex)
end
def Exs.length : Exs → Nat
  | .nil => 0
  | .cons _ es => es.length + 1
abbrev Watch := List (Nat × List PV)
def watchOk (w : Watch) (st : Store) : Prop := ∀ p ∈ w, st[p.1]? = some p.2
def watchOf : PV → List PV → Watch
  | .loc i, xs => [(i, xs)]
  | _, _ => []
def rngL (lo : Int) (c : Int) (n : Nat) : List PV := (List.range n).map fun i => .int (lo + (i : Nat) * c)
def in62 (i : Int) : Prop := -(2 ^ 62) ≤ i ∧ i < 2 ^ 62
def in60 (i : Int) : Prop := -(2 ^ 60) ≤ i ∧ i < 2 ^ 60
open Classical in
noncomputable def rngV1 (st : Store) (x : PV) : Out (List PV × Watch) := match x with
  | .int j => if in62 j then .ok (rngL 0 1 j.toNat, []) st else .bad
  | _ => .bad
open Classical in
noncomputable def rngV2 (st : Store) (x y : PV) : Out (List PV × Watch) := match x, y with
  | .int i, .int j => if in62 i ∧ in62 j then .ok (rngL i 1 (j - i).toNat, []) st else .bad
  | _, _ => .bad
open Classical in
noncomputable def rngV3 (c : Int) (st : Store) (x y : PV) : Out (List PV × Watch) := match x, y with
  | .int i, .int j => if c = -1 ∧ in60 i ∧ in60 j then .ok (rngL i c (i - j).toNat, []) st else .bad
  | _, _ => .bad
open Classical in
/-- a range that is kept: told as a dict without keys -/
noncomputable def rgkV (st : Store) (x : PV) : Out PV := match x with
  | .int j => if in62 j then .ok (.dct [] [.int 0, .int j]) st else .bad
  | _ => .bad
noncomputable def krV (st : Store) (x : PV) : Out (List PV × Watch) := match x with
  | .dct [] [i, j] => rngV2 st i j
  | _ => .bad
open Classical in
noncomputable def lrgV (fr : Bool) (st : Store) (x : PV) : Out PV := match x with
  | .int j => if in62 j ∧ j.toNat ≤ 16777216 then newL fr (rngL 0 1 j.toNat) st else .bad
  | _ => .bad
def maxdV (st : Store) (x y : PV) : Out PV := match (seqL st x).bind intsOf, y with
  | some [], .int d => .ok (.int d) st
  | some (n :: ns), .int _ => .ok (.int (ns.foldl max n)) st
  | _, _ => .bad
def wipeE (env : Env) : List Nat → Env
  | [] => env
  | v :: vs => (wipeE env vs).set v none
def zipL (st : Store) (a b : PV) : Out (List PV × Watch) := match seqL st a, seqL st b with
  | some xs, some ys => .ok ((xs.zip ys).map fun p => .tup [p.1, p.2], watchOf a xs ++ watchOf b ys) st
  | _, _ => .bad
def zipV (st : Store) : PV → PV → Out (List PV × Watch)
  | .tup xs, .tup ys => .ok ((xs.zip ys).map fun p => .tup [p.1, p.2], []) st
  | a, b => zipL st a b
structure Ctx where
  fn : Str → List PV → Store → Out PV
  gl : Str → Option PV
  /-- where the error classes stand -/
  cl : Str → Nat
  /-- the error classes, each with those that it is one of -/
  ec : List (Str × List Str)
def Ctx.sub (C : Ctx) (c x : Str) : Option Bool := (C.ec.lookup c).map fun l => decide (x ∈ l)
def iseV (C : Ctx) (x : Str) : PV → Option Bool
  | .non => some false
  | .exn c D _ => if D = C.cl c then C.sub c x else none
  | _ => none
open Classical in
/-- a comprehension's turns -/
noncomputable def compF (w : Watch) (f : PV → Store → Out (List PV)) : List PV → List PV → Store → Out (List PV)
  | [], acc, st => if watchOk w st then .ok acc st else .bad
  | x :: xs, acc, st => if watchOk w st then (f x st).bind fun ys st1 => if acc.length + ys.length ≤ sizeLine then compF w f xs (acc ++ ys) st1 else .bad else .bad
mutual
noncomputable def evE (C : Ctx) : Ex → Env → Store → Out PV
  | .c v, _, st => .ok v st
  | .v i, env, st => match env[i]? with
    | some (some v) => .ok v st
    | _ => .bad
  | .g x, _, st => .of (C.gl x) st
  | .bin o fr a b, env, st => (evE C a env st).bind fun x st1 => (evE C b env st1).bind fun y st2 => binV o fr st2 x y
  | .neg a, env, st => (evE C a env st).bind fun x st1 => match x with
    | .int i => .ok (.int (-i)) st1
    | _ => .bad
  | .nt a, env, st => (evE C a env st).bind fun x st1 => match truthy st1 x with
    | some b => .ok (.bl (!b)) st1
    | none => .bad
  | .cmp o a b, env, st => (evE C a env st).bind fun x st1 => (evE C b env st1).bind fun y st2 => (Out.of (cmpV o st2 x y) st2).bind fun b st3 => .ok (.bl b) st3
  | .chn o o2 a b c, env, st => (evE C a env st).bind fun x st1 => (evE C b env st1).bind fun y st2 => (Out.of (cmpV o st2 x y) st2).bind fun k st3 =>
      if k = true then (evE C c env st3).bind fun z st4 => (Out.of (cmpV o2 st4 y z) st4).bind fun b st5 => .ok (.bl b) st5 else .ok (.bl false) st3
  | .ands es, env, st => evAnd C es env st
  | .ors es, env, st => evOr C es env st
  | .ite c a b, env, st => (evE C c env st).bind fun x st1 => match truthy st1 x with
    | some true => evE C a env st1
    | some false => evE C b env st1
    | none => .bad
  | .tup es, env, st => (evEs C es env st).bind fun xs st1 => if xs.length ≤ sizeLine then .ok (.tup xs) st1 else .bad
  | .lst fr es, env, st => (evEs C es env st).bind fun xs st1 => if xs.length ≤ sizeLine then newL fr xs st1 else .bad
  | .ix a b, env, st => (evE C a env st).bind fun x st1 => (evE C b env st1).bind fun y st2 => .of (ixV st2 x y) st2
  | .slA fr a lo hi, env, st => (evE C a env st).bind fun x st1 => (evE C lo env st1).bind fun y st2 => match y with
    | .int i => (evE C hi env st2).bind fun z st3 => match z with
      | .int j => slV fr st3 x (some i) (some j)
      | _ => .bad
    | _ => .bad
  | .slF fr a lo, env, st => (evE C a env st).bind fun x st1 => (evE C lo env st1).bind fun y st2 => match y with
    | .int i => slV fr st2 x (some i) none
    | _ => .bad
  | .slT fr a hi, env, st => (evE C a env st).bind fun x st1 => (evE C hi env st1).bind fun y st2 => match y with
    | .int i => slV fr st2 x none (some i)
    | _ => .bad
  | .slR fr a, env, st => (evE C a env st).bind fun x st1 => backE fr st1 x
  | .dsp ks es i, env, st => (evEs C es env st).bind fun xs st1 => (evE C i env st1).bind fun y st2 => match y with
    | .str w => .of (lookS ks xs w) st2
    | _ => .bad
  | .nev, _, _ => .bad
  | .rg1 a, env, st => (evE C a env st).bind fun x st1 => rgkV st1 x
  | .lrg fr a, env, st => (evE C a env st).bind fun x st1 => lrgV fr st1 x
  | .maxd a d, env, st => (evE C a env st).bind fun x st1 => (evE C d env st1).bind fun y st2 => maxdV st2 x y
  | .slN fr a, env, st => (evE C a env st).bind fun x st1 => backN fr st1 x
  | .dct ks es, env, st => (evEs C es env st).bind fun xs st1 => .ok (.dct ks xs) st1
  | .dget a b, env, st => (evE C a env st).bind fun x st1 => (evE C b env st1).bind fun y st2 => dgetV st2 x y
  | .din neg a b, env, st => (evE C a env st).bind fun x st1 => (evE C b env st1).bind fun y st2 => dinV neg st2 x y
  | .slK fr a k, env, st => (evE C a env st).bind fun x st1 => (evE C k env st1).bind fun y st2 => stepV fr st2 x y
  | .srt fr own p it e, env, st => (evIx C it env st).bind fun xw st1 => (compF xw.2 (fun x st => match asgP p x (wipeE env own) with
      | some env1 => (evE C e env1 st).quiet.bind fun y st2 => match y with
        | .int i => .ok [.int i] st2
        | _ => .bad
      | none => .bad) xw.1 [] st1).bind fun ys st2 => match intsOf ys with
        | some ns => newL fr ((sortD ns).map .int) st2
        | none => .bad
  | .call f es, env, st => (evEs C es env st).bind fun xs st1 => C.fn f xs st1
  | .callk f es ks perm, env, st => (evEs C es env st).bind fun xs st1 => (evEs C ks env st1).bind fun ys st2 => match perm.mapM fun i => (xs ++ ys)[i]? with
    | some zs => C.fn f zs st2
    | none => .bad
  | .bi f fr es, env, st => (evEs C es env st).bind fun xs st1 => biV f fr st1 xs
  | .isi e T, env, st => (evE C e env st).bind fun x st1 => match (tyOfP x).bind fun U => L2.kitB U T with
    | some b => .ok (.bl b) st1
    | none => .bad
  | .fld i, env, st => match env[i]? with
    | some (some (.exn c D v)) => if D = C.cl c ∧ (C.ec.lookup c).isSome = true then .ok v st else .bad
    | _ => .bad
  | .ise e c, env, st => (evE C e env st).bind fun x st1 => match iseV C c x with
    | some b => .ok (.bl b) st1
    | none => .bad
  | .me m i es, env, st => match env[i]? with
    | some (some (.loc l)) => (evEs C es env st).bind fun ys st2 => meV m st2 l ys
    | _ => .bad
  | .lc fr own p it cs e, env, st => (evIx C it env st).bind fun xw st1 => (compF xw.2 (fun x st => match asgP p x (wipeE env own) with
      | some env1 => (evTests C cs env1 st).quiet.bind fun b st1 => if b = true then (evE C e env1 st1).quiet.bind fun y st2 => .ok [y] st2 else .ok [] st1
      | none => .bad) xw.1 [] st1).bind fun ys st2 => newL fr ys st2
  | .lc2 fr own p it cs vs2 p2 it2 cs2 e, env, st => (evIx C it env st).bind fun xw st1 => (compF xw.2 (fun x st => match asgP p x (wipeE env own) with
      | some env1 => (evTests C cs env1 st).quiet.bind fun b st1 => if b = true then (evIx C it2 env1 st1).quiet.bind fun xw2 st2 => compF xw2.2 (fun x2 st => match asgP p2 x2 (wipeE env1 vs2) with
          | some env2 => (evTests C cs2 env2 st).quiet.bind fun b st1 => if b = true then (evE C e env2 st1).quiet.bind fun y st2 => .ok [y] st2 else .ok [] st1
          | none => .bad) xw2.1 [] st2 else .ok [] st1
      | none => .bad) xw.1 [] st1).bind fun ys st2 => newL fr ys st2
noncomputable def evEs (C : Ctx) : Exs → Env → Store → Out (List PV)
  | .nil, _, st => .ok [] st
  | .cons e es, env, st => (evE C e env st).bind fun x st1 => (evEs C es env st1).bind fun xs st2 => .ok (x :: xs) st2
noncomputable def evAnd (C : Ctx) : Exs → Env → Store → Out PV
  | .nil, _, _ => .bad
  | .cons e .nil, env, st => evE C e env st
  | .cons e es, env, st => (evE C e env st).bind fun x st1 => match truthy st1 x with
    | some true => evAnd C es env st1
    | some false => .ok x st1
    | none => .bad
noncomputable def evOr (C : Ctx) : Exs → Env → Store → Out PV
  | .nil, _, _ => .bad
  | .cons e .nil, env, st => evE C e env st
  | .cons e es, env, st => (evE C e env st).bind fun x st1 => match truthy st1 x with
    | some true => .ok x st1
    | some false => evOr C es env st1
    | none => .bad
noncomputable def evTests (C : Ctx) : Exs → Env → Store → Out Bool
  | .nil, _, st => .ok true st
  | .cons e _, env, st => (evE C e env st).bind fun x st1 => .of (truthy st1 x) st1
noncomputable def evIx (C : Ctx) : Ix → Env → Store → Out (List PV × Watch)
  | .val e, env, st => (evE C e env st).bind fun x st1 => match seqA st1 x with
    | some xs => .ok (xs, watchOf x xs) st1
    | none => .bad
  | .kr a, env, st => (evE C a env st).bind fun x st1 => krV st1 x
  | .rng1 a, env, st => (evE C a env st).bind fun x st1 => rngV1 st1 x
  | .rng2 a b, env, st => (evE C a env st).bind fun x st1 => (evE C b env st1).bind fun y st2 => rngV2 st2 x y
  | .rng3 a b c, env, st => (evE C a env st).bind fun x st1 => (evE C b env st1).bind fun y st2 => rngV3 c st2 x y
  | .zip a b, env, st => (evE C a env st).bind fun x st1 => (evE C b env st1).bind fun y st2 => zipV st2 x y
  | .enm a, env, st => (evE C a env st).bind fun x st1 => match seqA st1 x with
    | some xs => .ok (xs.zipIdx.map fun p => .tup [.int (p.2 : Nat), p.1], watchOf x xs) st1
    | none => .bad
end
def augV (o : Bop) : PV → PV → Option PV
  | .int a, .int b => match o with
    | .add => some (.int (a + b))
    | .sub => some (.int (a - b))
    | _ => none
  | .str a, .str b => match o with
    | .add => if a.length + b.length ≤ sizeLine then some (.str (a ++ b)) else none
    | _ => none
  | _, _ => none
def locV (st : Store) : PV → PV → Option PV
  | .loc l, .int k => match st[l]? with
    | some xs => L2.atI xs k
    | none => none
  | _, _ => none
def setV (st : Store) : PV → PV → PV → Option Store
  | .loc l, .int k, x => match st[l]? with
    | some xs => (L2.ixN xs.length k).map fun j => st.set l (xs.set j x)
    | none => none
  | _, _, _ => none
inductive Fl where
  | nx (env : Env)
  | bk (env : Env)
  | ct (env : Env)
  | rt (v : PV)
  /-- an error of the class c with the value v, the names as they are -/
  | rz (c : Str) (v : PV) (env : Env)
def Out.lift {α : Type} (o : Out α) (env : Env) (f : α → Store → Out Fl) : Out Fl := match o with
  | .ok a st => f a st
  | .exc c v st => .ok (.rz c v env) st
  | .bad => .bad
@[simp] theorem lift_ok {α : Type} (a : α) (st : Store) (env : Env) (f : α → Store → Out Fl) : (Out.ok a st).lift env f = f a st := rfl
@[simp] theorem lift_exc {α : Type} (c : Str) (v : PV) (st : Store) (env : Env) (f : α → Store → Out Fl) : (Out.exc c v st : Out α).lift env f = .ok (.rz c v env) st := rfl
@[simp] theorem lift_bad {α : Type} (env : Env) (f : α → Store → Out Fl) : (Out.bad : Out α).lift env f = .bad := rfl
inductive Ta where
  | p (p : Pt)
  | sub (o i : Ex)
mutual
inductive Sx where
  | expr (e : Ex)
  | asg (t : Ta) (e : Ex)
  | aug (i : Nat) (o : Bop) (e : Ex)
  /-- o[i] op= e, a list that is written -/
  | augS (o i : Ex) (op : Bop) (e : Ex)
  | iff (c : Ex) (a b : Sxs)
  | fr (p : Pt) (it : Ix) (b : Sxs)
  | wh (c : Ex) (b : Sxs)
  | ret (e : Ex)
  | retn
  | brk
  | cont
  | pass
  /-- a raise that is never reached -/
  | nev
  /-- raise c(e) -/
  | rs (c : Str) (e : Ex)
  /-- try: b, except .. -/
  | tr (b : Sxs) (hs : Hds)
inductive Sxs where
  | nil
  | cons (s : Sx) (r : Sxs)
inductive Hds where
  | nil
  | cons (c : Str) (i : Option Nat) (b : Sxs) (r : Hds)
end
open Classical in
noncomputable def loopF (w : Watch) (f : PV → Env → Store → Out Fl) : List PV → Env → Store → Out Fl
  | [], env, st => if watchOk w st then .ok (.nx env) st else .bad
  | x :: xs, env, st => if watchOk w st then (f x env st).bind fun r st1 => match r with
    | .nx e => loopF w f xs e st1
    | .ct e => loopF w f xs e st1
    | .bk e => .ok (.nx e) st1
    | .rt v => .ok (.rt v) st1
    | .rz c v e => .ok (.rz c v e) st1 else .bad
def whN (c : Env → Store → Out Bool) (f : Env → Store → Out Fl) : Nat → Env → Store → Out Fl
  | 0, _, _ => .bad
  | n + 1, env, st => (c env st).lift env fun t st1 => if t = true then (f env st1).bind fun r st2 => match r with
    | .nx e => whN c f n e st2
    | .ct e => whN c f n e st2
    | .bk e => .ok (.nx e) st2
    | .rt v => .ok (.rt v) st2
    | .rz c v e => .ok (.rz c v e) st2 else .ok (.nx env) st1
def wfuel : Nat := 1000000000
noncomputable def evC (C : Ctx) (c : Ex) (env : Env) (st : Store) : Out Bool := (evE C c env st).bind fun x st1 => .of (truthy st1 x) st1
def inH (C : Ctx) (i : Option Nat) (c : Str) (v : PV) (env : Env) : Env := match i with
  | some i => env.set i (some (.exn c (C.cl c) v))
  | none => env
def outH (i : Option Nat) (env : Env) : Env := match i with
  | some i => env.set i none
  | none => env
mutual
noncomputable def evS (C : Ctx) : Sx → Env → Store → Out Fl
  | .expr e, env, st => (evE C e env st).lift env fun _ st1 => .ok (.nx env) st1
  | .asg (.p p) e, env, st => (evE C e env st).lift env fun x st1 => match asgP p x env with
    | some env1 => .ok (.nx env1) st1
    | none => .bad
  | .asg (.sub o i) e, env, st => (evE C e env st).lift env fun x st1 => (evE C o env st1).lift env fun y st2 => (evE C i env st2).lift env fun z st3 => match setV st3 y z x with
    | some st4 => .ok (.nx env) st4
    | none => .bad
  | .aug i o e, env, st => match env[i]? with
    | some (some v) => (evE C e env st).lift env fun x st1 => match augV o v x with
      | some z => .ok (.nx (env.set i (some z))) st1
      | none => .bad
    | _ => .bad
  | .augS o i op e, env, st => (evE C o env st).lift env fun x st1 => (evE C i env st1).lift env fun y st2 => match locV st2 x y with
    | some v => (evE C e env st2).lift env fun z st3 => match augV op v z with
      | some u => match setV st3 x y u with
        | some st4 => .ok (.nx env) st4
        | none => .bad
      | none => .bad
    | none => .bad
  | .iff c a b, env, st => (evC C c env st).lift env fun t st1 => if t = true then evSs C a env st1 else evSs C b env st1
  | .fr p it b, env, st => (evIx C it env st).lift env fun xw st1 => loopF xw.2 (fun x env st => match asgP p x env with
    | some env1 => evSs C b env1 st
    | none => .bad) xw.1 env st1
  | .wh c b, env, st => whN (evC C c) (evSs C b) wfuel env st
  | .ret e, env, st => (evE C e env st).lift env fun x st1 => .ok (.rt x) st1
  | .retn, _, st => .ok (.rt .non) st
  | .brk, env, st => .ok (.bk env) st
  | .cont, env, st => .ok (.ct env) st
  | .pass, env, st => .ok (.nx env) st
  | .nev, _, _ => .bad
  | .rs c e, env, st => (evE C e env st).lift env fun x st1 => if (C.ec.lookup c).isSome = true then .ok (.rz c x env) st1 else .bad
  | .tr b hs, env, st => (evSs C b env st).bind fun f st1 => match f with
    | .rz c v e => evH C hs c v e st1
    | f => .ok f st1
noncomputable def evSs (C : Ctx) : Sxs → Env → Store → Out Fl
  | .nil, env, st => .ok (.nx env) st
  | .cons s r, env, st => (evS C s env st).bind fun f st1 => match f with
    | .nx env1 => evSs C r env1 st1
    | .bk e => .ok (.bk e) st1
    | .ct e => .ok (.ct e) st1
    | .rt v => .ok (.rt v) st1
    | .rz c v e => .ok (.rz c v e) st1
noncomputable def evH (C : Ctx) : Hds → Str → PV → Env → Store → Out Fl
  | .nil, c, v, env, st => .ok (.rz c v env) st
  | .cons x i b r, c, v, env, st => match C.sub c x with
    | some true => (evSs C b (inH C i c v env) st).bind fun f st1 => match f with
      | .nx e => .ok (.nx (outH i e)) st1
      | .bk e => .ok (.bk (outH i e)) st1
      | .ct e => .ok (.ct (outH i e)) st1
      | .rt p => .ok (.rt p) st1
      | .rz .. => .bad
    | some false => evH C r c v env st
    | none => .bad
end
structure Fn where
  ps : List Str
  N : List Str
  body : Sxs
  /-- it hands back a list of its own that the caller may write -/
  mt : Bool
def locs : List PV → List Nat
  | [] => []
  | .loc i :: r => if i ∈ locs r then locs r else i :: locs r
  | _ :: r => locs r
def ren (ls : List Nat) : PV → PV
  | .loc i => .loc (ls.idxOf i)
  | v => v
def argOk : PV → Bool
  | .loc _ => true
  | v => v.free
def subSt (st : Store) : List Nat → Option Store
  | [] => some []
  | i :: r => match st[i]? with
    | some xs => if freeAll xs = true then (subSt st r).map (xs :: ·) else none
    | none => none
def putSt (st : Store) : List Nat → Store → Store
  | i :: r, xs :: s => (putSt st r s).set i xs
  | _, _ => st
def flatSt (st : Store) : Bool := st.all freeAll
def frz (m : Nat) (st : Store) : Nat → PV → Option PV
  | 0, v => if v.free = true then some v else none
  | k + 1, v => if v.free = true then some v else match v with
    | .loc i => if i < m then none else match st[i]? with
      | some xs => (xs.mapM (frz m st k)).map .lsv
      | none => none
    | .tup xs => (xs.mapM (frz m st k)).map .tup
    | .lsv xs => (xs.mapM (frz m st k)).map .lsv
    | _ => none
noncomputable def runB (C : Ctx) (fn : Fn) (args : List PV) (st : Store) : Out PV := (evSs C fn.body (args.map some ++ List.replicate (fn.N.length - args.length) none) st).quiet.bind fun f st1 => match f with
  | .rt v => .ok v st1
  | .nx _ => .ok .non st1
  | .rz c v _ => .exc c v st1
  | _ => .bad
def backV (mt : Bool) (ls : List Nat) (st : Store) (v : PV) (s2 : Store) : Out PV :=
  let m := ls.length
  if m ≤ s2.length ∧ flatSt (s2.take m) = true then
    let st2 := putSt st ls (s2.take m)
    if mt = true then match v with
      | .loc j => match s2[j]? with
        | some xs => if m ≤ j ∧ freeAll xs = true then .ok (.loc st2.length) (st2 ++ [xs]) else .bad
        | none => .bad
      | _ => .bad
    else match frz m s2 64 v with
      | some v' => .ok v' st2
      | none => .bad
  else .bad
noncomputable def callF (cl : Str → Nat) (ec : List (Str × List Str)) (tb : List (Str × Fn)) (gl : Str → Option PV) : Nat → Str → List PV → Store → Out PV
  | 0, _, _, _ => .bad
  | n + 1, f, args, st => match tb.lookup f with
    | none => .bad
    | some fn => if args.length = fn.ps.length ∧ args.all argOk = true then match subSt st (locs args) with
        | some sub => match runB ⟨callF cl ec tb gl n, gl, cl, ec⟩ fn (args.map (ren (locs args))) sub with
          | .ok v s2 => backV fn.mt (locs args) st v s2
          | .exc c v s2 => (backV false (locs args) st v s2).bind fun v' st2 => .exc c v' st2
          | .bad => .bad
        | none => .bad
      else .bad
end L2.Iv
namespace L2.Iv
open PySem PySem.Spec PyProof.Rows HotX
section
variable {prog : Program} {w : World} {A : Around} {E : Value → Shared → Prop} {s : Shared}
theorem next_tuple_end_hot {x1 it t : Addr} {i : Nat} {items} {Q : Option Value → Shared → Prop} (hot : HotAt A x1 s.heap) (hxi : x1 ≠ it)
    (hit : IsTupIter s.heap it t i) (ht : IsTup s.heap t items) (hx : items[i]? = none)
    (hQ : ∀ h', Heap.ExtBut it s.heap h' → Q none { s with heap := h' }) : wpAny (model prog w) A (pyNext (.ref it)) Q E s := by
  obtain ⟨o, ho, hc, hd⟩ := id hit
  obtain ⟨ol, hol, _, nl, hdl⟩ := ht
  obtain ⟨hh, o1, vs1, h1, d1, c1⟩ := hot
  unfold pyNext
  refine wpAny_bind (wpAny_attempt (wpAny_callSpecial?_slot (name := Str.ofString "__next__") hit.typeIs slot_tupleiter_next
    (wpAny_call_entry slot_tupleiter_next hit.typeIs entry_tupleiter_next ?_ (args_tupleiter_next _))))
  show wpAny _ _ (field (.ref it) 0 >>= _) _ _ s
  refine wpAny_bind (wpAny_field ho hd (x := .ref t) rfl ?_)
  show wpAny _ _ (if (Value.ref t == Value.none) = true then _ else _) _ _ s
  rw [if_neg (show ¬ ((Value.ref t == Value.none) = true) from Bool.false_ne_true)]
  show wpAny _ _ (field (.ref it) 1 >>= _) _ _ s
  refine wpAny_bind (wpAny_field ho hd (x := .int i 0) rfl ?_)
  show wpAny _ _ (seqItems? (.ref t) >>= _) _ _ s
  refine wpAny_bind (wpAny_seqItems hol hdl ?_)
  simp only [Int.toNat_natCast, hx]
  refine wpAny_bind (wpAny_rule (wpAny_bind (wpAny_setField ho hd (by simp) ?_)))
  show wpAny _ _ (newExc (.type "StopIteration") [] >>= _) _ _ _
  refine wpAny_bind ?_
  simp only [newExc, newTuple]
  refine wpAny_bind (wpAny_newObj_type ?_ (by size_fits))
  refine wpAny_bind (m := firstArgMember _ _) (wpAny_of_eq (a := Value.none) (by first | rfl | (simp only [firstArgMember]; rfl)) ?_)
  refine wpAny_newObj_type ?_ (by size_fits)
  have u1 : (s.heap.update it (Obj.mapFields (·.setIfInBounds 0 Value.none))).get? x1 = some o1 := (Heap.get?_update_other _ _ (Ne.symm hxi)).trans h1
  have p1 := Heap.get?_push_of_some (h := s.heap.update it (Obj.mapFields (·.setIfInBounds 0 Value.none))) { cls := .type "tuple", data := .seq [].toArray } u1
  refine raiseNew_hot ⟨hh, o1, vs1, Heap.get?_push_of_some _ p1, d1, c1⟩ (Nat.ne_of_lt (Heap.lt_size p1)) (Heap.get?_push_size _ rfl) rfl (by first | (simp; done) | (simp; omega) | (simp only [Array.size_append]; simp; omega)) ?_
  refine wpAny_bind (wpAny_isInstance (T := "StopIteration") (b := true) ⟨_, Heap.get?_update_self _ (Heap.get?_push_size _ rfl) rfl, rfl⟩ isSubtype_stop ?_)
  refine wpAny_pure (hQ _ fun b o hb e => ?_)
  have e2 := ((Heap.SameBut.update (h := s.heap) (a := it) (f := Obj.mapFields (·.setIfInBounds 0 Value.none))).extBut b o hb e)
  have e3 := Heap.get?_push_of_some { cls := .type "tuple", data := .seq [].toArray } e2
  rw [Heap.get?_update_other _ _ (Nat.ne_of_gt (Heap.lt_size e3))]
  exact Heap.get?_push_of_some _ e3
theorem unpackItems_tuple_hot {x1 t : Addr} {items : Array Value} {Q : List Value → Shared → Prop} (hot : HotAt A x1 s.heap) (ht : IsTup s.heap t items)
    (hQ : ∀ h', Heap.ExtBut s.heap.objs.size s.heap h' → Q items.toList { s with heap := h' }) : wpAny (model prog w) A (unpackItems (.ref t) items.size none) Q E s := by
  have hlt : t ≠ s.heap.objs.size := by obtain ⟨o, ho, _⟩ := ht; exact Nat.ne_of_lt (Heap.lt_size ho)
  obtain ⟨hh, o1, vs1, h1, d1, c1⟩ := hot
  have hx1 : x1 ≠ s.heap.objs.size := Nat.ne_of_lt (Heap.lt_size h1)
  unfold unpackItems
  refine wpAny_bind ?_
  · unfold notIterableAtAll
    refine wpAny_bind (wpAny_specialOf ht.typeIs slot_tuple_iter.lookup ?_)
    refine wpAny_pure ?_
    simp only [Bool.false_eq_true, if_false]
    refine wpAny_bind (wpAny_holding (iter_tuple ht ?_))
    refine wpAny_bind (wpAny_holding (draw_tuple hlt items.size 0 _ _ ⟨_, Heap.get?_push_size _ rfl, rfl, rfl⟩ (ht.push _) (by omega) fun h₁ hit₁ hs₁ => ?_))
    have hall : List.take items.size (List.drop 0 items.toList) = items.toList := by
      rw [List.drop_zero]; exact List.take_of_length_le (by simp)
    rw [hall]
    rw [if_neg (by simp)]
    have ht₁ : IsTup h₁ t items := (ht.push _).extBut hs₁.extBut hlt
    refine wpAny_bind (wpAny_holding (next_tuple_end_hot ⟨hh, o1, vs1, hs₁.extBut x1 o1 hx1 (Heap.get?_push_of_some _ h1), d1, c1⟩ hx1 hit₁ ht₁ (by simp) fun h₂ he₂ => ?_))
    simp only [Option.isSome_none, Bool.false_eq_true, if_false]
    refine wpAny_pure (hQ h₂ fun b o hb e => he₂ b o hb (hs₁.extBut b o hb (Heap.get?_push_of_some _ e)))
end
section
variable {X : Cx} {e : Expr} {es : List Expr} {ta : TA} {p pos : Pos}
theorem pmk_ctx {CX : CXT} {x : Str} {C fI : Addr} {k : Nat} {fd : FuncData} {ps : List Str} {sp : Sp} {ds : List Value} {dvs : List V} (T : OexC X.K C) (iC : PySem.W.findIn X.K (.ref C) "__init__" = some (some (.ref fI))) (tI : PySem.W.typeIn X.K (.ref fI) = some (.type "function"))
    (F1 : FnOk X.prog X.w X.K X.mg X.base CX k fI fd ps sp) (hr : Room (k + 1) X.A) (hb : Binds X.K fd ps ds) (hd : Vals dvs ds) (hx : Passes CX X (fun _ _ _ => False)) (hg : Gl X x) (hm : X.mg x = some (.ref C)) (ha : PA X (e :: es) ta)
    (hdb : (x == ("__debug__" : Str)) = false) (he : starEach (e :: es) X.env = (false, eval e X.env) :: starEach es X.env) (hpl : (backTo pos (starEach es X.env)).any (·.1) = false) :
    L2N.PMk X (.Call (.Name x p) (e :: es) [] pos) (tMkO C sp dvs ta) := by
  intro pins s σ H Q I h
  obtain ⟨_, _, _, _, bm, _, _, _, _, _, _, _, _, _, _, hC, hbm⟩ := T.cls
  refine wpAny_Call_Name_kw (ld_glob I hg hm ?_ hdb)
  refine PySem.W.callWith_K (h₀ := X.base) I.ok.mod.kin T.kC (thn (ha.run pos pins s σ H _ I h) fun us s1 hh => ?_) he hpl
  obtain ⟨vs, H1, I1, r1, _, q1⟩ := hh
  refine ⟨I1.kIn, ?_⟩
  show wpAny _ _ (call (.ref C) us) _ _ _
  obtain ⟨hp, g, dr, tk, os⟩ := s1
  -- the new object stands at D, behind the tuple of its arguments
  obtain ⟨D, hD⟩ : ∃ D, hp.objs.size + 1 = D := ⟨_, rfl⟩
  have hsz : hp.objs.size ≤ D := by omega
  have hq := q1 D (I1.hok.fresh hsz)
  obtain ⟨G, hG⟩ : ∃ G : Heap, (hp.push (PySem.W.kdv_tup us)).push (PySem.HandSPX.excO C hp.objs.size) = G := ⟨_, rfl⟩
  have kk : ∀ b o, hp.get? b = some o → G.get? b = some o := fun b o z => by rw [← hG]; exact Heap.get?_push_of_some _ (Heap.get?_push_of_some _ z)
  have hget : G.get? D = some (PySem.HandSPX.excO C hp.objs.size) := by rw [← hG, ← hD]; heap_get
  have I2 : Inv X pins σ (upd H1 D (exo D C none)) ⟨G, g, dr, tk, os⟩ := I1.laid (t' := tk) (a := D) (o := exo D C none) (h' := G) kk hsz (exo_ok hget)
  have r2 : Vals (V.ref D :: (vs ++ dvs)) (Value.ref D :: (us ++ ds)) := .cons rfl (r1.append hd)
  have hl : (Value.ref D :: us ++ ds).length = ps.length := by
    have z := r2.length
    rw [F1.len _ _ _ _ hq] at z
    exact z.symm
  have hus : us.length ≤ sizeLine := by rw [← Paired.length r1, sizeLine_eq]; omega
  subst hG
  subst hD
  refine wpAny_call (PySem.HandSPX.call_own F.excBase_ValueError (fun Y => PySem.HandSPX.refsVE_contains Y bm hbm) (I1.kIn _ _ hC) (PySem.W.looks_findIn I1.kIn iC) (fun self => PySem.W.bind_fn I1.kIn self tI) hus
    (codeAny_mono (F1.run _ X.stack _ _ ⟨Value.ref (hp.objs.size + 1) :: us, []⟩ (Value.ref (hp.objs.size + 1) :: (us ++ ds)) _ _ (fun _ _ _ => False) (hr.make C us []) (I2.env0.make C us []) (hb _ (Value.ref (hp.objs.size + 1) :: us) I2.kIn hl) r2 hq) fun r s' hq' => ?_))
  match r, hq' with
  | .error er, hq' => exact hx pins σ _ _ er s' I2 hq'
  | .ok (.ret u), hq' =>
    obtain ⟨v, H2, os2, bare2, un2, hok2, rv, ev, d, fs, ea, ed, hd1, q2⟩ := hq'
    subst ev
    obtain ⟨h2, g2, d2, t2, os'⟩ := s'
    refine ⟨rv, ?_⟩
    obtain ⟨t0, G2, J, kG, ge, hoe, na⟩ := mk_end0 (d2 := d2) (t2 := t2) I1 hsz kk un2 hok2 os2 bare2 ea ed hd1
    exact ⟨hp.objs.size + 1, _, _, ⟨G2, g2, d2, t2, os'⟩, _, .ref C, some d, rfl, J, kG, ge, hoe, ⟨rfl, rfl, fun vs z => by cases z; rfl⟩, rfl, rfl, na, rfl, bare2, raises_own T.exC T.tyC, q2⟩
  | .ok .next, hq' => exact False.elim hq'
  | .ok .brk, hq' => exact False.elim hq'
  | .ok .cont, hq' => exact False.elim hq'
end
end L2.Iv
namespace L2.Iv
open PySem PySem.Spec PyProof.Rows
def SqF (K : PySem.W.Frag) (F : List Addr) (H : Hp) (r : List Addr) (a : Addr) (vs : List V) : Prop :=
  (H a = some (.lst vs) ∧ a ∉ r ∧ a ∉ F) ∨ (∃ o, H a = some (.frz o (.lst vs))) ∨
    ∃ (o : Obj) (its : Array Value) (n : Nat), K.lookup a = some o ∧ o.cls = .type "list" ∧ o.dict = none ∧ o.data = .seq its n ∧ its.size ≤ sizeLine ∧ Vals vs its.toList
theorem SqF.seq {K : PySem.W.Frag} {F : List Addr} {H : Hp} {r : List Addr} {a : Addr} {vs : List V} (h : SqF K F H r a vs) : SqL K H a vs := by
  rcases h with ⟨h, _⟩ | h | h
  · exact .inl (.inl h)
  · exact .inl (.inr h)
  · exact .inr h
def excP (a C dd : Addr) : Heap → Prop := fun h => ∃ o, h.get? a = some o ∧ L2N.Zn (.ref C) (some dd) o ∧ ∃ vs, o.data = .fields vs
abbrev kz (ks : List Str) (vs : List V) : List (Key × V) := List.zipWith (fun k v => ((Sum.inr k : Key), v)) ks vs
mutual
inductive Rep (K : PySem.W.Frag) (F : List Addr) (H : Hp) (r : List Addr) : V → PV → Prop
  | non : Rep K F H r .non .non
  | bl (b : Bool) : Rep K F H r (.bl b) (.bl b)
  | int (i : Int) : Rep K F H r (.int i) (.int i)
  | str (x : Str) : Rep K F H r (.str x) (.str x)
  | lsv {a : Addr} {vs : List V} {ds : List PV} : SqF K F H r a vs → Reps K F H r vs ds → Rep K F H r (.ref a) (.lsv ds)
  | tup {a : Addr} {vs : List V} {ds : List PV} : SqT K H a vs → Reps K F H r vs ds → Rep K F H r (.ref a) (.tup ds)
  | loc {a : Addr} {i : Nat} : r[i]? = some a → Rep K F H r (.ref a) (.loc i)
  | exn {a C dd : Addr} {c : Str} {v : V} {d : PV} : H a = some (.ext (excP a C dd)) → H dd = some (.xd [("value", v)]) → Rep K F H r v d → Rep K F H r (.ref a) (.exn c C d)
  | dct {a : Addr} {ks : List Str} {vs : List V} {ds : List PV} : H a = some (.dK (kz ks vs)) → kz ks vs ≠ [] → Reps K F H r vs ds → Rep K F H r (.ref a) (.dct ks ds)
  | rgo {a : Addr} {lo hi : Int} : H a = some (.rng lo hi) → Rep K F H r (.ref a) (.dct [] [.int lo, .int hi])
inductive Reps (K : PySem.W.Frag) (F : List Addr) (H : Hp) (r : List Addr) : List V → List PV → Prop
  | nil : Reps K F H r [] []
  | cons {v : V} {vs : List V} {d : PV} {ds : List PV} : Rep K F H r v d → Reps K F H r vs ds → Reps K F H r (v :: vs) (d :: ds)
end
structure Rel (K : PySem.W.Frag) (F : List Addr) (H : Hp) (r : List Addr) (st : Store) : Prop where
  len : r.length = st.length
  nd : r.Nodup
  cells : ∀ (i : Nat) (a : Addr) (xs : List PV), r[i]? = some a → st[i]? = some xs → ∃ vs, H a = some (.lst vs) ∧ Reps K F H r vs xs
  apart : ∀ a ∈ r, a ∉ F
  fs : ∀ a ∈ F, ∃ vs : List V, H a = some (.lst vs)
structure Aft (r : List Addr) (H : Hp) (r' : List Addr) (H' : Hp) : Prop where
  pre : ∃ r2, r' = r ++ r2
  keep : ∀ a o, H a = some o → a ∉ r → H' a = some o ∧ a ∉ r'
section
variable {K : PySem.W.Frag} {F : List Addr} {H H' H1 H2 : Hp} {r r' r1 r2 : List Addr} {st st' : Store} {v : V} {p : PV} {vs : List V} {ps : List PV}
theorem Aft.refl : Aft r H r H := ⟨⟨[], by simp⟩, fun _ _ e n => ⟨e, n⟩⟩
theorem Aft.trans (a : Aft r H r1 H1) (b : Aft r1 H1 r2 H2) : Aft r H r2 H2 := by
  obtain ⟨x, e1⟩ := a.pre
  obtain ⟨y, e2⟩ := b.pre
  refine ⟨⟨x ++ y, by rw [e2, e1, List.append_assoc]⟩, fun c o e n => ?_⟩
  obtain ⟨q1, q2⟩ := a.keep c o e n
  exact b.keep c o q1 q2
theorem Aft.get {i : Nat} {a : Addr} (x : Aft r H r' H') (e : r[i]? = some a) : r'[i]? = some a := by
  obtain ⟨y, e1⟩ := x.pre
  rw [e1, List.getElem?_append_left (List.getElem?_eq_some_iff.mp e).1]
  exact e
theorem Rel.isl (R : Rel K F H r st) {a : Addr} (h : a ∈ r) : ∃ vs, H a = some (.lst vs) := by
  obtain ⟨i, hi, e⟩ := List.mem_iff_getElem.mp h
  have hi2 : i < st.length := by rw [← R.len]; exact hi
  obtain ⟨vs, q, _⟩ := R.cells i a st[i] (by rw [List.getElem?_eq_getElem hi, e]) (List.getElem?_eq_getElem hi2)
  exact ⟨vs, q⟩
theorem Rel.notin (R : Rel K F H r st) {a : Addr} {o : HO} (h : H a = some o) (n : ∀ vs, o ≠ .lst vs) : a ∉ r := fun m => by
  obtain ⟨vs, e⟩ := R.isl m
  rw [h] at e; cases e; exact n vs rfl
theorem SqT.aft {a : Addr} (R : Rel K F H r st) (A : Aft r H r' H') (h : SqT K H a vs) : SqT K H' a vs := by
  rcases h with (h | ⟨o, h⟩) | h
  · exact .inl (.inl (A.keep a _ h (R.notin h (fun _ z => nomatch z))).1)
  · exact .inl (.inr ⟨o, (A.keep a _ h (R.notin h (fun _ z => nomatch z))).1⟩)
  · exact .inr h
theorem SqF.aft {a : Addr} (R : Rel K F H r st) (A : Aft r H r' H') (h : SqF K F H r a vs) : SqF K F H' r' a vs := by
  rcases h with ⟨h, n1, n2⟩ | ⟨o, h⟩ | h
  · exact .inl ⟨(A.keep a _ h n1).1, (A.keep a _ h n1).2, n2⟩
  · exact .inr (.inl ⟨o, (A.keep a _ h (R.notin h (fun _ z => nomatch z))).1⟩)
  · exact .inr (.inr h)
mutual
theorem Rep.aft (R : Rel K F H r st) (A : Aft r H r' H') : ∀ {v : V} {p : PV}, Rep K F H r v p → Rep K F H' r' v p
  | _, _, .non => .non
  | _, _, .bl b => .bl b
  | _, _, .int i => .int i
  | _, _, .str x => .str x
  | _, _, .lsv h q => .lsv (h.aft R A) (Reps.aft R A q)
  | _, _, .tup h q => .tup (SqT.aft R A h) (Reps.aft R A q)
  | _, _, .loc e => .loc (A.get e)
  | _, _, .exn h1 h2 q => .exn (A.keep _ _ h1 (R.notin h1 (fun _ z => nomatch z))).1 (A.keep _ _ h2 (R.notin h2 (fun _ z => nomatch z))).1 (Rep.aft R A q)
  | _, _, .dct h n q => .dct (A.keep _ _ h (R.notin h (fun _ z => nomatch z))).1 n (Reps.aft R A q)
  | _, _, .rgo h => .rgo (A.keep _ _ h (R.notin h (fun _ z => nomatch z))).1
theorem Reps.aft (R : Rel K F H r st) (A : Aft r H r' H') : ∀ {vs : List V} {ps : List PV}, Reps K F H r vs ps → Reps K F H' r' vs ps
  | _, _, .nil => .nil
  | _, _, .cons h q => .cons (Rep.aft R A h) (Reps.aft R A q)
end
theorem Reps.length : ∀ {vs : List V} {ps : List PV}, Reps K F H r vs ps → vs.length = ps.length
  | _, _, .nil => rfl
  | _, _, .cons _ q => congrArg (· + 1) q.length
theorem Reps.get : ∀ {vs : List V} {ps : List PV} {i : Nat} {v : V}, Reps K F H r vs ps → vs[i]? = some v → ∃ p, ps[i]? = some p ∧ Rep K F H r v p
  | _, _, _, _, .nil, e => by simp at e
  | _, _, 0, _, .cons h q, e => by simp at e; subst e; exact ⟨_, rfl, h⟩
  | _, _, i + 1, v, .cons h q, e => by
    obtain ⟨p, h1, h2⟩ := Reps.get (i := i) (v := v) q (by simpa using e)
    exact ⟨p, by simpa using h1, h2⟩
theorem Reps.get2 : ∀ {vs : List V} {ps : List PV} {i : Nat} {p : PV}, Reps K F H r vs ps → ps[i]? = some p → ∃ v, vs[i]? = some v ∧ Rep K F H r v p
  | _, _, _, _, .nil, e => by simp at e
  | _, _, 0, _, .cons h q, e => by simp at e; subst e; exact ⟨_, rfl, h⟩
  | _, _, i + 1, v, .cons h q, e => by
    obtain ⟨p, h1, h2⟩ := Reps.get2 (i := i) (p := v) q (by simpa using e)
    exact ⟨p, by simpa using h1, h2⟩
theorem Reps.append : ∀ {vs ws : List V} {ps qs : List PV}, Reps K F H r vs ps → Reps K F H r ws qs → Reps K F H r (vs ++ ws) (ps ++ qs)
  | _, _, _, _, .nil, s => s
  | _, _, _, _, .cons h q, s => .cons h (q.append s)
theorem Reps.take : ∀ {vs : List V} {ps : List PV} (n : Nat), Reps K F H r vs ps → Reps K F H r (vs.take n) (ps.take n)
  | _, _, 0, _ => .nil
  | _, _, _ + 1, .nil => .nil
  | _, _, n + 1, .cons h q => .cons h (q.take n)
theorem Reps.reverse : ∀ {vs : List V} {ps : List PV}, Reps K F H r vs ps → Reps K F H r vs.reverse ps.reverse
  | _, _, .nil => .nil
  | _, _, .cons h q => by
    rw [List.reverse_cons, List.reverse_cons]
    exact q.reverse.append (.cons h .nil)
theorem Reps.drop : ∀ {vs : List V} {ps : List PV} (n : Nat), Reps K F H r vs ps → Reps K F H r (vs.drop n) (ps.drop n)
  | _, _, 0, q => q
  | _, _, _ + 1, .nil => .nil
  | _, _, n + 1, .cons _ q => q.drop n
theorem Reps.set {v : V} {p : PV} (h : Rep K F H r v p) : ∀ {vs : List V} {ps : List PV} (i : Nat), Reps K F H r vs ps → Reps K F H r (vs.set i v) (ps.set i p)
  | _, _, _, .nil => .nil
  | _, _, 0, .cons _ q => .cons h q
  | _, _, i + 1, .cons h2 q => .cons h2 (q.set h i)
theorem Reps.dropLast {vs : List V} {ps : List PV} (h : Reps K F H r vs ps) : Reps K F H r vs.dropLast ps.dropLast := by
  rw [List.dropLast_eq_take, List.dropLast_eq_take, h.length]
  exact h.take _
theorem Reps.rep {vs : List V} {ps : List PV} (h : Reps K F H r vs ps) : ∀ k : Nat, Reps K F H r (List.replicate k vs).flatten (List.replicate k ps).flatten
  | 0 => .nil
  | k + 1 => by
    rw [List.replicate_succ, List.flatten_cons, List.replicate_succ, List.flatten_cons]
    exact h.append (h.rep k)
theorem Reps.none_of {vs : List V} {ps : List PV} {i : Nat} (h : Reps K F H r vs ps) (e : ps[i]? = none) : vs[i]? = none := by
  have := h.length
  rw [List.getElem?_eq_none_iff] at e ⊢
  omega
theorem Aft.new {a : Addr} {o : HO} (h : H a = none) : Aft r H r (upd H a o) := ⟨⟨[], by simp⟩, fun b u e n => ⟨by rw [upd_ne (ne_of_none e h)]; exact e, n⟩⟩
theorem Rel.new (R : Rel K F H r st) {a : Addr} {o : HO} (h : H a = none) : Rel K F (upd H a o) r st := by
  refine ⟨R.len, R.nd, fun i b xs e1 e2 => ?_, R.apart, fun b hb => ?_⟩
  · obtain ⟨vs, q1, q2⟩ := R.cells i b xs e1 e2
    exact ⟨vs, by rw [upd_ne (ne_of_none q1 h)]; exact q1, Reps.aft R (Aft.new h) q2⟩
  · obtain ⟨vs, q⟩ := R.fs b hb
    exact ⟨vs, by rw [upd_ne (ne_of_none q h)]; exact q⟩
theorem Rel.fresh (R : Rel K F H r st) {a : Addr} (h : H a = none) : a ∉ r ∧ a ∉ F := by
  refine ⟨fun m => ?_, fun m => ?_⟩
  · obtain ⟨vs, e⟩ := R.isl m
    rw [h] at e; cases e
  · obtain ⟨vs, e⟩ := R.fs a m
    rw [h] at e; cases e
theorem Rep.newT (R : Rel K F H r st) {a : Addr} (h : H a = none) (q : Reps K F H r vs ps) : Rep K F (upd H a (.tup vs)) r (.ref a) (.tup ps) :=
  .tup (.inl (.inl upd_same)) (Reps.aft R (Aft.new h) q)
theorem Rep.newF (R : Rel K F H r st) {a : Addr} (h : H a = none) (q : Reps K F H r vs ps) : Rep K F (upd H a (.lst vs)) r (.ref a) (.lsv ps) :=
  .lsv (.inl ⟨upd_same, (R.fresh h).1, (R.fresh h).2⟩) (Reps.aft R (Aft.new h) q)
theorem Aft.newL {a : Addr} {o : HO} (h : H a = none) : Aft r H (r ++ [a]) (upd H a o) := ⟨⟨[a], rfl⟩, fun b u e n => by
  have ne := ne_of_none e h
  exact ⟨by rw [upd_ne ne]; exact e, by simp [n, ne]⟩⟩
theorem Rel.newL (R : Rel K F H r st) {a : Addr} (h : H a = none) (q : Reps K F H r vs ps) : Rel K F (upd H a (.lst vs)) (r ++ [a]) (st ++ [ps]) := by
  obtain ⟨n1, n2⟩ := R.fresh h
  have A : Aft r H (r ++ [a]) (upd H a (.lst vs)) := Aft.newL h
  refine ⟨by simp [R.len], ?_, fun i b xs e1 e2 => ?_, fun b hb => ?_, fun b hb => ?_⟩
  · rw [List.nodup_append]
    refine ⟨R.nd, by simp, fun x hx y hy => ?_⟩
    rw [List.mem_singleton] at hy
    rintro rfl
    exact n1 (hy ▸ hx)
  · by_cases hi : i < r.length
    · rw [List.getElem?_append_left hi] at e1
      rw [List.getElem?_append_left (by rw [← R.len]; exact hi)] at e2
      obtain ⟨ws, q1, q2⟩ := R.cells i b xs e1 e2
      exact ⟨ws, by rw [upd_ne (ne_of_none q1 h)]; exact q1, Reps.aft R A q2⟩
    · have hl := R.len
      rw [List.getElem?_append_right (by omega)] at e1
      rw [List.getElem?_append_right (by omega)] at e2
      have hz : i - r.length = 0 := by
        have := (List.getElem?_eq_some_iff.mp e1).1
        simp at this; omega
      rw [hz] at e1
      rw [← hl, hz] at e2
      simp at e1 e2
      subst e1; subst e2
      exact ⟨vs, upd_same, Reps.aft R A q⟩
  · rcases List.mem_append.mp hb with hb | hb
    · exact R.apart b hb
    · rw [List.mem_singleton] at hb; subst hb; exact n2
  · obtain ⟨ws, e⟩ := R.fs b hb
    exact ⟨ws, by rw [upd_ne (ne_of_none e h)]; exact e⟩
theorem Aft.write {a : Addr} {o : HO} (h : a ∈ r) : Aft r H r (upd H a o) := ⟨⟨[], by simp⟩, fun b u e n => ⟨by
  rw [upd_ne (by rintro rfl; exact n h)]; exact e, n⟩⟩
theorem Rel.write (R : Rel K F H r st) {a : Addr} {i : Nat} (e : r[i]? = some a) (q : Reps K F H r vs ps) : Rel K F (upd H a (.lst vs)) r (st.set i ps) := by
  have ha : a ∈ r := List.mem_of_getElem? e
  have A : Aft r H r (upd H a (.lst vs)) := Aft.write ha
  refine ⟨by simp [R.len], R.nd, fun j b xs e1 e2 => ?_, R.apart, fun b hb => ?_⟩
  · by_cases hj : j = i
    · subst hj
      rw [e] at e1; cases e1
      have hl : j < st.length := by rw [← R.len]; exact (List.getElem?_eq_some_iff.mp e).1
      rw [List.getElem?_set_self hl] at e2
      cases e2
      exact ⟨vs, upd_same, Reps.aft R A q⟩
    · rw [List.getElem?_set_ne (Ne.symm hj)] at e2
      obtain ⟨ws, q1, q2⟩ := R.cells j b xs e1 e2
      have hb : b ≠ a := by
        rintro rfl
        exact hj (nd_ix R.nd e1 e)
      exact ⟨ws, by rw [upd_ne hb]; exact q1, Reps.aft R A q2⟩
  · obtain ⟨ws, e2⟩ := R.fs b hb
    have hb : b ≠ a := by
      rintro rfl
      exact R.apart b ha hb
    exact ⟨ws, by rw [upd_ne hb]; exact e2⟩
theorem Rel.cell (R : Rel K F H r st) {i : Nat} {a : Addr} (e : r[i]? = some a) : ∃ xs vs, st[i]? = some xs ∧ H a = some (.lst vs) ∧ Reps K F H r vs xs := by
  have hi : i < st.length := by rw [← R.len]; exact (List.getElem?_eq_some_iff.mp e).1
  obtain ⟨vs, h1, h2⟩ := R.cells i a st[i] e (List.getElem?_eq_getElem hi)
  exact ⟨st[i], vs, List.getElem?_eq_getElem hi, h1, h2⟩
theorem Rep.seqL (R : Rel K F H r st) {xs : List PV} (h : Rep K F H r v p) (e : seqL st p = some xs) : ∃ a vs, v = .ref a ∧ SqL K H a vs ∧ Reps K F H r vs xs := by
  cases h with
  | lsv h q => cases e; exact ⟨_, _, rfl, h.seq, q⟩
  | loc h =>
    obtain ⟨ys, vs, e1, e2, e3⟩ := R.cell h
    have e : st[_]? = some xs := e
    rw [e1] at e; cases e
    exact ⟨_, vs, rfl, .of e2, e3⟩
  | _ => cases e
theorem Rep.seqA (R : Rel K F H r st) {xs : List PV} (h : Rep K F H r v p) (e : seqA st p = some xs) : ∃ a vs, v = .ref a ∧ (SqL K H a vs ∨ SqT K H a vs) ∧ Reps K F H r vs xs := by
  cases h with
  | lsv h q => cases e; exact ⟨_, _, rfl, .inl h.seq, q⟩
  | tup h q => cases e; exact ⟨_, _, rfl, .inr h, q⟩
  | loc h =>
    obtain ⟨ys, vs, e1, e2, e3⟩ := R.cell h
    have e : st[_]? = some xs := e
    rw [e1] at e; cases e
    exact ⟨_, vs, rfl, .inl (.of e2), e3⟩
  | _ => cases e
mutual
theorem Rep.dp : ∀ {v : V} {p : PV}, Rep K F H r v p → p.data = true → Dp K H v p.toD
  | _, _, .non, _ => .non
  | _, _, .bl b, _ => .bl b
  | _, _, .int i, _ => .int i
  | _, _, .str x, _ => .str x
  | _, _, .lsv h q, f => .lst h.seq (Reps.dp q (by simpa [PV.data] using f))
  | _, _, .tup h q, f => .tup h (Reps.dp q (by simpa [PV.data] using f))
  | _, _, .loc e, f => by simp [PV.data] at f
  | _, _, .exn .., f => by simp [PV.data] at f
  | _, _, .dct .., f => by simp [PV.data] at f
  | _, _, .rgo _, f => by simp [PV.data] at f
theorem Reps.dp : ∀ {vs : List V} {ps : List PV}, Reps K F H r vs ps → dataAll ps = true → DpAll K H vs (toDs ps)
  | _, _, .nil, _ => .nil
  | _, _, .cons h q, f => by
    simp [dataAll] at f
    exact .cons (Rep.dp h f.1) (Reps.dp q f.2)
end
theorem SqF.back {a : Addr} {F2 r2 : List Addr} (hF : ∀ b, b ∈ r2 → (b ∈ r ∨ b ∈ F)) (hF2 : ∀ b, b ∈ F2 → (b ∈ r ∨ b ∈ F)) (h : SqF K F H r a vs) : SqF K F2 H r2 a vs := by
  rcases h with ⟨h, n1, n2⟩ | h | h
  · refine .inl ⟨h, fun m => ?_, fun m => ?_⟩
    · rcases hF a m with z | z
      · exact n1 z
      · exact n2 z
    · rcases hF2 a m with z | z
      · exact n1 z
      · exact n2 z
  · exact .inr (.inl h)
  · exact .inr (.inr h)
mutual
theorem Rep.back {F2 r2 : List Addr} (hF : ∀ b, b ∈ r2 → (b ∈ r ∨ b ∈ F)) (hF2 : ∀ b, b ∈ F2 → (b ∈ r ∨ b ∈ F)) : ∀ {v : V} {p : PV}, Rep K F H r v p → p.free = true → Rep K F2 H r2 v p
  | _, _, .non, _ => .non
  | _, _, .bl b, _ => .bl b
  | _, _, .int i, _ => .int i
  | _, _, .str x, _ => .str x
  | _, _, .lsv h q, f => .lsv (h.back hF hF2) (Reps.back hF hF2 q (by simpa [PV.free] using f))
  | _, _, .tup h q, f => .tup h (Reps.back hF hF2 q (by simpa [PV.free] using f))
  | _, _, .loc e, f => by simp [PV.free] at f
  | _, _, .exn h1 h2 q, f => .exn h1 h2 (Rep.back hF hF2 q (by simpa [PV.free] using f))
  | _, _, .dct h n q, f => .dct h n (Reps.back hF hF2 q (by simpa [PV.free] using f))
  | _, _, .rgo h, f => .rgo h
theorem Reps.back {F2 r2 : List Addr} (hF : ∀ b, b ∈ r2 → (b ∈ r ∨ b ∈ F)) (hF2 : ∀ b, b ∈ F2 → (b ∈ r ∨ b ∈ F)) : ∀ {vs : List V} {ps : List PV}, Reps K F H r vs ps → freeAll ps = true → Reps K F2 H r2 vs ps
  | _, _, .nil, _ => .nil
  | _, _, .cons h q, f => by
    simp [freeAll] at f
    exact .cons (Rep.back hF hF2 h f.1) (Reps.back hF hF2 q f.2)
end
end
structure EnvRel (K : PySem.W.Frag) (F : List Addr) (H : Hp) (r : List Addr) (env : Env) (σ : St) : Prop where
  len : env.length = σ.length
  get : ∀ (i : Nat) (p : PV), env[i]? = some (some p) → ∃ v : V, σ[i]? = some (some v) ∧ Rep K F H r v p
section
variable {K : PySem.W.Frag} {F : List Addr} {H H' : Hp} {r r' : List Addr} {st : Store} {v : V} {p : PV} {env : Env} {σ : St}
theorem EnvRel.aft (R : Rel K F H r st) (A : Aft r H r' H') (e : EnvRel K F H r env σ) : EnvRel K F H' r' env σ :=
  ⟨e.len, fun i p h => let ⟨v, h1, h2⟩ := e.get i p h; ⟨v, h1, h2.aft R A⟩⟩
theorem EnvRel.set (e : EnvRel K F H r env σ) (i : Nat) (h : Rep K F H r v p) : EnvRel K F H r (env.set i (some p)) (σ.set i (some v)) := by
  refine ⟨by simp [e.len], fun j q hq => ?_⟩
  by_cases hj : j = i
  · subst hj
    have hl : j < env.length := by
      have := (List.getElem?_eq_some_iff.mp hq).1
      simpa using this
    rw [List.getElem?_set_self hl] at hq
    cases hq
    exact ⟨v, List.getElem?_set_self (by rw [← e.len]; exact hl), h⟩
  · rw [List.getElem?_set_ne (Ne.symm hj)] at hq
    rw [List.getElem?_set_ne (Ne.symm hj)]
    exact e.get j q hq
theorem EnvRel.unset (e : EnvRel K F H r env σ) (i : Nat) : EnvRel K F H r (env.set i none) (σ.set i none) := by
  refine ⟨by simp [e.len], fun j q hq => ?_⟩
  by_cases hj : j = i
  · subst hj
    have hl : j < env.length := by
      have := (List.getElem?_eq_some_iff.mp hq).1
      simpa using this
    rw [List.getElem?_set_self hl] at hq
    cases hq
  · rw [List.getElem?_set_ne (Ne.symm hj)] at hq
    rw [List.getElem?_set_ne (Ne.symm hj)]
    exact e.get j q hq
theorem EnvRel.wipe (e : EnvRel K F H r env σ) : ∀ vs : List Nat, EnvRel K F H r (wipeE env vs) (wipe σ vs)
  | [] => e
  | v :: vs => (e.wipe vs).unset v
end
abbrev EW := Str → V → Hp → Prop
abbrev SW := St → EW
def PostX (K : PySem.W.Frag) (F : List Addr) (B : EW) (r : List Addr) (H : Hp) (c : Str) (p : PV) (st' : Store) : Prop := ∀ v H' r', Aft r H r' H' → Rel K F H' r' st' → Rep K F H' r' v p → B c v H'
theorem PostX.aft {K : PySem.W.Frag} {F : List Addr} {B : EW} {H H' : Hp} {r r' : List Addr} {c : Str} {p : PV} {st' : Store} (h : PostX K F B r H c p st') (A : Aft r H r' H') : PostX K F B r' H' c p st' := fun v H2 r2 A2 => h v H2 r2 (A.trans A2)
def Post (K : PySem.W.Frag) (F : List Addr) (B : EW) (r : List Addr) (H : Hp) (Q : VK) : Out PV → Prop
  | .ok p st' => ∀ v H' r', Aft r H r' H' → Rel K F H' r' st' → Rep K F H' r' v p → Q v H'
  | .exc c p st' => PostX K F B r H c p st'
  | .bad => False
theorem Post.aft {K : PySem.W.Frag} {F : List Addr} {B : EW} {H H' : Hp} {r r' : List Addr} {Q : VK} {o : Out PV} (h : Post K F B r H Q o) (A : Aft r H r' H') : Post K F B r' H' Q o := by
  cases o with
  | ok p st' => exact fun v H2 r2 A2 => h v H2 r2 (A.trans A2)
  | exc => exact PostX.aft h A
  | bad => exact h.elim
def PostT (K : PySem.W.Frag) (F : List Addr) (B : EW) (r : List Addr) (H : Hp) (Q : Bool → Hp → Prop) : Out Bool → Prop
  | .ok b st' => ∀ H' r', Aft r H r' H' → Rel K F H' r' st' → Q b H'
  | .exc c p st' => PostX K F B r H c p st'
  | .bad => False
def PostA (K : PySem.W.Frag) (F : List Addr) (B : EW) (r : List Addr) (H : Hp) (Q : List V → Hp → Prop) : Out (List PV) → Prop
  | .ok ps st' => ∀ vs H' r', Aft r H r' H' → Rel K F H' r' st' → Reps K F H' r' vs ps → Q vs H'
  | .exc c p st' => PostX K F B r H c p st'
  | .bad => False
def tI (K : PySem.W.Frag) (F : List Addr) (W : SW) (o : Env → Store → Out PV) : TE := fun σ H Q => ∃ r env st, Rel K F H r st ∧ EnvRel K F H r env σ ∧ Post K F (W σ) r H Q (o env st)
def tIT (K : PySem.W.Frag) (F : List Addr) (W : SW) (o : Env → Store → Out Bool) : TT := fun σ H Q => ∃ r env st, Rel K F H r st ∧ EnvRel K F H r env σ ∧ PostT K F (W σ) r H Q (o env st)
def tIA (K : PySem.W.Frag) (F : List Addr) (W : SW) (o : Env → Store → Out (List PV)) : TA := fun σ H Q => ∃ r env st, Rel K F H r st ∧ EnvRel K F H r env σ ∧ PostA K F (W σ) r H Q (o env st)
def PostS (K : PySem.W.Frag) (F : List Addr) (W : SW) (r : List Addr) (H : Hp) (D : Ends) : Out Fl → Prop
  | .ok (.nx e) st' => ∀ σ' H' r', Aft r H r' H' → Rel K F H' r' st' → EnvRel K F H' r' e σ' → D.nx σ' H'
  | .ok (.bk e) st' => ∀ σ' H' r', Aft r H r' H' → Rel K F H' r' st' → EnvRel K F H' r' e σ' → D.bk σ' H'
  | .ok (.ct e) st' => ∀ σ' H' r', Aft r H r' H' → Rel K F H' r' st' → EnvRel K F H' r' e σ' → D.ct σ' H'
  | .ok (.rt p) st' => ∀ v H' r', Aft r H r' H' → Rel K F H' r' st' → Rep K F H' r' v p → D.rt v H'
  | .ok (.rz c p e) st' => ∀ σ' v H' r', Aft r H r' H' → Rel K F H' r' st' → EnvRel K F H' r' e σ' → Rep K F H' r' v p → W σ' c v H'
  | .exc .. => False
  | .bad => False
theorem PostS.aft {K : PySem.W.Frag} {F : List Addr} {W : SW} {H H' : Hp} {r r' : List Addr} {D : Ends} {o : Out Fl} (h : PostS K F W r H D o) (A : Aft r H r' H') : PostS K F W r' H' D o := by
  cases o with
  | ok p st' =>
    cases p with
    | rz c p e => exact fun σ v H2 r2 A2 => h σ v H2 r2 (A.trans A2)
    | _ => exact fun v H2 r2 A2 => h v H2 r2 (A.trans A2)
  | exc => exact h.elim
  | bad => exact h.elim
def tIS (K : PySem.W.Frag) (F : List Addr) (W : SW) (o : Env → Store → Out Fl) : TS := fun D σ H => ∃ r env st, Rel K F H r st ∧ EnvRel K F H r env σ ∧ PostS K F W r H D (o env st)
theorem PE.imp {X : Cx} {e : Expr} {t t' : TE} (h : PE X e t) (i : ∀ σ H Q, t' σ H Q → t σ H Q) : PE X e t' := ⟨fun pins s σ H Q I q => h.run pins s σ H Q I (i _ _ _ q)⟩
theorem PT.imp {X : Cx} {e : Expr} {t t' : TT} (h : PT X e t) (i : ∀ σ H Q, t' σ H Q → t σ H Q) : PT X e t' := ⟨fun pins s σ H Q I q => h.run pins s σ H Q I (i _ _ _ q)⟩
theorem PA.imp {X : Cx} {e : List Expr} {t t' : TA} (h : PA X e t) (i : ∀ σ H Q, t' σ H Q → t σ H Q) : PA X e t' := ⟨fun pos pins s σ H Q I q => h.run pos pins s σ H Q I (i _ _ _ q)⟩
theorem PS.imp {X : Cx} {e : Stmt} {t t' : TS} (h : PS X e t) (i : ∀ D σ H, t' D σ H → t D σ H) : PS X e t' := ⟨fun pins s σ H D I q => h.run pins s σ H D I (i _ _ _ q)⟩
theorem PSs.imp {X : Cx} {e : List Stmt} {t t' : TS} (h : PSs X e t) (i : ∀ D σ H, t' D σ H → t D σ H) : PSs X e t' := ⟨fun pins s σ H D I q => h.run pins s σ H D I (i _ _ _ q)⟩
theorem tI.step {K : PySem.W.Frag} {F : List Addr} {W : SW} {σ : St} {H : Hp} {Q : VK} {o : Env → Store → Out PV} {f : PV → Env → Store → Out PV}
    (h : tI K F W (fun env st => (o env st).bind fun x st1 => f x env st1) σ H Q) :
    tI K F W o σ H fun v H1 => ∃ r env st p, Rel K F H1 r st ∧ EnvRel K F H1 r env σ ∧ Rep K F H1 r v p ∧ Post K F (W σ) r H1 Q (f p env st) := by
  obtain ⟨r, env, st, R, E, q⟩ := h
  refine ⟨r, env, st, R, E, ?_⟩
  dsimp only at q
  cases e : o env st with
  | ok p st1 =>
    rw [e] at q
    exact fun v H1 r1 A R1 r2 => ⟨r1, env, st1, p, R1, E.aft R A, r2, q.aft A⟩
  | exc => rw [e] at q; exact q
  | bad => rw [e] at q; exact q.elim
theorem tIA.step {K : PySem.W.Frag} {F : List Addr} {W : SW} {σ : St} {H : Hp} {Q : VK} {o : Env → Store → Out (List PV)} {f : List PV → Env → Store → Out PV}
    (h : tI K F W (fun env st => (o env st).bind fun x st1 => f x env st1) σ H Q) :
    tIA K F W o σ H fun vs H1 => ∃ r env st ps, Rel K F H1 r st ∧ EnvRel K F H1 r env σ ∧ Reps K F H1 r vs ps ∧ Post K F (W σ) r H1 Q (f ps env st) := by
  obtain ⟨r, env, st, R, E, q⟩ := h
  refine ⟨r, env, st, R, E, ?_⟩
  dsimp only at q
  cases e : o env st with
  | ok p st1 =>
    rw [e] at q
    exact fun v H1 r1 A R1 r2 => ⟨r1, env, st1, p, R1, E.aft R A, r2, q.aft A⟩
  | exc => rw [e] at q; exact q
  | bad => rw [e] at q; exact q.elim
theorem tIS.step {K : PySem.W.Frag} {F : List Addr} {W : SW} {σ : St} {H : Hp} {D : Ends} {o : Env → Store → Out PV} {f : PV → Env → Store → Out Fl}
    (h : tIS K F W (fun env st => (o env st).lift env fun x st1 => f x env st1) D σ H) :
    tI K F W o σ H fun v H1 => ∃ r env st p, Rel K F H1 r st ∧ EnvRel K F H1 r env σ ∧ Rep K F H1 r v p ∧ PostS K F W r H1 D (f p env st) := by
  obtain ⟨r, env, st, R, E, q⟩ := h
  refine ⟨r, env, st, R, E, ?_⟩
  dsimp only at q
  cases e : o env st with
  | ok p st1 =>
    rw [e] at q
    exact fun v H1 r1 A R1 r2 => ⟨r1, env, st1, p, R1, E.aft R A, r2, q.aft A⟩
  | exc => rw [e] at q; exact fun v H1 r1 A R1 r2 => q σ v H1 r1 A R1 (E.aft R A) r2
  | bad => rw [e] at q; exact q.elim
end L2.Iv
namespace L2.Iv
open PySem PySem.Spec PyProof.Rows
structure Cal (X : Cx) (n : Nat) (hot : Bool) : Prop where
  dp : X.A.depth + 3 * n + 5 < recursionLimit
  un : X.A.units + 16 * n + 200 < cLine
  gd : X.A.guards = some []
  hd : hot = false → X.A.handled = none
  calm : hot = false → X.calm = true
theorem Cal.room {X : Cx} {n : Nat} {hot : Bool} (C : Cal X n hot) (h : hot = false) : Room n X.A := ⟨C.hd h, C.dp, C.un⟩
theorem Cal.units {X : Cx} {n : Nat} {hot : Bool} (C : Cal X n hot) : X.A.units + 64 < cLine := by have := C.un; omega
section
variable {K : PySem.W.Frag} {F : List Addr} {H : Hp} {r : List Addr} {st : Store} {Q : VK} {v : V} {p : PV}
theorem Post.here {B : EW} (R : Rel K F H r st) (h : Post K F B r H Q (.ok p st)) (e : Rep K F H r v p) : Q v H := h v H r .refl R e
theorem Post.tup {B : EW} {ps : List PV} {vs : List V} (R : Rel K F H r st) (h : Post K F B r H Q (.ok (.tup ps) st)) (e : Reps K F H r vs ps) : ∀ a, H a = none → Q (.ref a) (upd H a (.tup vs)) :=
  fun a ha => h _ _ r (.new ha) (R.new ha) (.newT R ha e)
theorem Post.lst {B : EW} {fr : Bool} {ps : List PV} {vs : List V} (R : Rel K F H r st) (h : Post K F B r H Q (newL fr ps st)) (e : Reps K F H r vs ps) : ∀ a, H a = none → Q (.ref a) (upd H a (.lst vs)) := by
  intro a ha
  cases fr with
  | true => exact h _ _ r (.new ha) (R.new ha) (.newF R ha e)
  | false =>
    refine h _ _ (r ++ [a]) (.newL ha) (R.newL ha e) (.loc ?_)
    rw [← R.len]
    simp
theorem reps_ints : ∀ {vs : List V} {ps : List PV} {ns : List Int}, Reps K F H r vs ps → intsOf ps = some ns → vs = ns.map V.int
  | _, _, _, .nil, e => by cases e; rfl
  | _, _, ns, .cons h q, e => by
    cases h with
    | int i =>
      simp only [intsOf, Option.map_eq_some_iff] at e
      obtain ⟨ms, e1, rfl⟩ := e
      rw [reps_ints q e1]; rfl
    | _ => simp [intsOf] at e
theorem reps_bls : ∀ {vs : List V} {ps : List PV} {ns : List Bool}, Reps K F H r vs ps → blsOf ps = some ns → vs = ns.map V.bl
  | _, _, _, .nil, e => by cases e; rfl
  | _, _, ns, .cons h q, e => by
    cases h with
    | bl i =>
      simp only [blsOf, Option.map_eq_some_iff] at e
      obtain ⟨ms, e1, rfl⟩ := e
      rw [reps_bls q e1]; rfl
    | _ => simp [blsOf] at e
theorem rep_flat (h : Rep K F H r v p) (f : flatP p = true) : v = toV p ∧ flatV v = true := by
  cases h <;> first | exact ⟨rfl, rfl⟩ | cases f
theorem reps_flat : ∀ {vs : List V} {ps : List PV}, Reps K F H r vs ps → ps.all flatP = true → vs = ps.map toV ∧ vs.all flatV = true
  | _, _, .nil, _ => ⟨rfl, rfl⟩
  | _, _, .cons h q, f => by
    simp only [List.all_cons, Bool.and_eq_true] at f ⊢
    obtain ⟨e1, f1⟩ := rep_flat h f.1
    obtain ⟨e2, f2⟩ := reps_flat q f.2
    exact ⟨by rw [List.map_cons, ← e1, ← e2], f1, f2⟩
theorem inV_eq (x : PV) : ∀ xs : List PV, L2.inV (toV x) (xs.map toV) = inP x xs
  | [] => rfl
  | y :: ys => by
    have := inV_eq x ys
    simp only [L2.inV, inP, List.map_cons, List.any_cons] at this ⊢
    rw [this]
end
section
variable {X : Cx} {F : List Addr}
theorem op_catS : OpR X (binaryOp .Add) (fun x y H Q => ∃ l b xs zs, x = .ref l ∧ y = .ref b ∧ SqL X.K H l xs ∧ SqL X.K H b zs ∧ xs.length + zs.length ≤ sizeLine ∧ ∀ p, H p = none → Q (.ref p) (upd H p (.lst (xs ++ zs)))) := by
  intro pins s σ H x y v u Q I rx ry h
  obtain ⟨l, b, xs, zs, rfl, rfl, h1, h2, hz, q⟩ := h
  cases rx; cases ry
  obtain ⟨us, r1, ⟨⟨c1, d1, t1, s1⟩, n1, g1, rfl, rfl, rfl⟩, _⟩ := I.list h1
  obtain ⟨ws, r2, ⟨⟨c2, d2, t2, s2⟩, n2, g2, rfl, rfl, rfl⟩, _⟩ := I.list h2
  have l1 := r1.length
  have l2 := r2.length
  refine concat_meets ⟨_, g1, rfl⟩ ⟨_, g2, rfl⟩ noFill_list_add seq_list_add PySem.F.slot_list_add PySem.F.entry_list_add
    (PySem.F.args_list_add_2 _ _) (list_addW l b us.toArray ws.toArray n1 n2 none none s1 s2 (by simp; omega)) ⟨g1, g2, ?_⟩
  have e : us.toArray ++ ws.toArray = (us ++ ws).toArray := by simp
  rw [e]
  exact ⟨.ref _, _, I.lnew (t' := s.toks) (r1.append r2) (by rw [List.length_append]; omega), rfl, q _ I.fresh⟩
theorem op_repS : OpR X (binaryOp .Mult) (fun x y H Q => ∃ l k xs, x = .ref l ∧ y = .int k ∧ SqL X.K H l xs ∧ -(2 ^ 63) ≤ k ∧ k < 2 ^ 63 ∧ xs.length * k.toNat ≤ sizeLine ∧
    ∀ p, H p = none → Q (.ref p) (upd H p (.lst (List.replicate k.toNat xs).flatten))) := by
  intro pins s σ H x y v u Q I rx ry h
  obtain ⟨l, k, xs, rfl, rfl, h1, hlo, hhi, hz, q⟩ := h
  cases rx
  obtain ⟨t, rfl⟩ := ry
  obtain ⟨us, r1, ⟨⟨c1, d1, t1, s1⟩, n1, g1, rfl, rfl, rfl⟩, _⟩ := I.list h1
  have l1 := r1.length
  have hz' : us.toArray.size * k.toNat ≤ 2 ^ 24 := by
    rw [List.size_toArray, ← l1]
    exact hz
  refine wpAny_binaryOp_repeat_ref (T := "list") (U := "int") (by decide) ⟨_, g1, rfl⟩ (fun s' => typeIs_int s' k t)
    noFill_list_mul F.fills_int_mul F.slot_int_rmul repeat_list F.slot_int_index.lookup ?_
  refine call_meets F.slot_int_rmul (typeIs_int s k t) F.entry_int_rmul (F.args_int_rmul_2 _ _)
    (lm_int_rmul_list_any k t l us.toArray n1 none s1) ⟨g1, rfl, ⟨_, g1, rfl⟩, ?_⟩
  refine call_meets F.slot_list_mul ⟨_, g1, rfl⟩ F.entry_list_mul (F.args_list_mul_2 _ _)
    (lm_list_mul_any l us.toArray n1 none s1 k t (by simp [Builtin.List.listFitsIndex]; omega) (by omega)
      (by simp [Builtin.List.listTooLong, sizeLine]; simp at hz'; omega)) ⟨g1, ?_⟩
  have e : List.foldl (fun x1 x2 => x1 ++ x2) #[] (List.replicate (if us.toArray.isEmpty = true then 0 else k.toNat) us.toArray) = (List.replicate k.toNat us).flatten.toArray := by
    rw [listMul_foldl_if]
  rw [e]
  exact ⟨.ref _, _, I.lnew (t' := s.toks) (r1.rep k.toNat) (by rw [PyProof.Rows.lm_len_rep_flat, Nat.mul_comm]; exact hz), rfl, q _ I.fresh⟩
theorem opr_imp {f : Value → Value → Sem Value} {r r' : R2} (h : OpR X f r) (i : ∀ x y H Q, r' x y H Q → r x y H Q) : OpR X f r' :=
  fun pins s σ H x y v u Q I rx ry q => h pins s σ H x y v u Q I rx ry (i _ _ _ _ q)
def opB : Bop → Operator
  | .add => .Add | .sub => .Sub | .mul => .Mult | .fdiv => .FloorDiv | .mod => .Mod | .pow => .Pow | .shl => .LShift | .shr => .RShift | .band => .BitAnd | .bor => .BitOr
def rB (K : PySem.W.Frag) (F : List Addr) (o : Store → PV → PV → Out PV) : R2 := fun x y H Q => ∃ B r st p q, Rel K F H r st ∧ Rep K F H r x p ∧ Rep K F H r y q ∧ Post K F B r H Q (o st p q)
theorem op_addI (fr : Bool) : OpR X (binaryOp .Add) (rB X.K F (addV fr)) := by
  intro pins s σ H x y v u Q I rx ry h
  obtain ⟨B, r, st, p, q, R, hp, hq, h⟩ := h
  have gen : addV fr st p q = addL fr st p q → wpAny (model X.prog X.w) X.A (binaryOp .Add v u) (EP X pins σ Q) X.xe s := by
    intro e
    rw [e] at h
    unfold addL at h
    split at h
    · rename_i xs ys e1 e2
      split at h
      · rename_i hz
        obtain ⟨a, vs, rfl, s1, q1⟩ := hp.seqL R e1
        obtain ⟨b, ws, rfl, s2, q2⟩ := hq.seqL R e2
        exact op_catS pins s σ H _ _ v u Q I rx ry ⟨a, b, vs, ws, rfl, rfl, s1, s2, by rw [q1.length, q2.length]; exact hz, h.lst R (q1.append q2)⟩
      · exact h.elim
    · exact h.elim
  cases hp with
  | int i =>
    cases hq with
    | int j => exact op_add pins s σ H _ _ v u Q I rx ry ⟨i, j, rfl, rfl, h.here R (.int _)⟩
    | _ => exact gen rfl
  | str i =>
    cases hq with
    | str j =>
      simp only [addV] at h
      split at h
      · exact op_add_str pins s σ H _ _ v u Q I rx ry ⟨i, j, rfl, rfl, by assumption, h.here R (.str _)⟩
      · exact h.elim
    | _ => exact gen rfl
  | @tup a1 vs1 xs h1 q1 =>
    cases hq with
    | @tup a2 vs2 ys h2 q2 =>
      simp only [addV] at h
      split at h
      · rename_i hz
        refine op_catA pins s σ H _ _ v u Q I rx ry ⟨_, _, _, _, rfl, rfl, h1, h2, by rw [q1.length, q2.length]; exact hz, ?_⟩
        refine ⟨fun e => ?_, fun e1 e2 => ?_, fun e1 e2 => h.tup R (q1.append q2)⟩
        · subst e
          have : xs = [] := by cases q1; rfl
          subst this
          exact h.here R (.tup h2 q2)
        · subst e2
          have : ys = [] := by cases q2; rfl
          subst this
          exact h.here R (.tup h1 (by rw [List.append_nil]; exact q1))
      · exact h.elim
    | _ => exact gen rfl
  | _ => exact gen rfl
theorem tuple_mul1 (l : Addr) (items : Array Value) (n : Nat) (dd : Option Addr) (sl : Array (Option Value)) (x : Int) (u : Tok) (c0 : (decide (x < -(2 ^ 63)) || decide (x ≥ 2 ^ 63)) = false) (c1 : (items.isEmpty || x == 1) = true) :
    Meets (Builtin.«tuple.__mul__» ⟨[.ref l, .int x u], []⟩) (fun _ R s => s.heap.get? l = some { cls := .type "tuple", dict := dd, data := .seq items n, slots := sl } ∧ R (.ok (.ret (Value.ref l))) s) :=
  .of_wp fun prog w A R s h => by
    obtain ⟨hp, g, d, tk, os⟩ := s
    obtain ⟨hl, h⟩ := h
    have f1 := AutoSeq1.idx_int
    wp_walk using wpAny_loadPart' hl
    repeat (first
      | (refine wpAny_ite_false (decide_eq_false (by rw [c0]; exact Bool.false_ne_true)) ?_; wp_walk using wpAny_loadPart' hl)
      | (refine wpAny_ite_true (decide_eq_true c1) ?_; wp_walk using wpAny_loadPart' hl))
    exact ⟨_, rfl, h⟩
theorem op_rep1 : OpR X (binaryOp .Mult) (fun x y H Q => ∃ t ws, x = .ref t ∧ y = .int 1 ∧ SqT X.K H t ws ∧ Q (.ref t) H) := by
  intro pins s σ H x y v u Q I hx hy hh
  obtain ⟨t, ws, rfl, rfl, hT, q⟩ := hh
  cases hx
  obtain ⟨tk, rfl⟩ := hy
  obtain ⟨items, rv, ⟨⟨cc, dd, da, ss⟩, at0, c9, m, d9⟩, hsz⟩ := I.tuple hT
  dsimp only at c9 d9
  subst c9 d9
  have times := tuple_mul1 t items.toArray m dd ss 1 tk (by decide) (by rw [Bool.or_eq_true]; exact .inr rfl)
  refine wpAny_binaryOp_repeat_ref (T := "tuple") (U := "int") (by decide) ⟨_, at0, rfl⟩ (fun s' => typeIs_int s' 1 tk) noFill_tuple_mul F.fills_int_mul
    F.slot_int_rmul repeat_tuple F.slot_int_index.lookup (call_meets F.slot_int_rmul (typeIs_int s 1 tk) F.entry_int_rmul (F.args_int_rmul_2 _ _)
      (int_rmul_tuple 1 tk t items.toArray m dd ss) ⟨at0, rfl, ⟨_, at0, rfl⟩, call_meets F.slot_tuple_mul ⟨_, at0, rfl⟩ F.entry_tuple_mul (F.args_tuple_mul_2 _ _) times ⟨at0, ?_⟩⟩)
  exact ⟨V.ref t, H, I, rfl, q⟩
theorem op_repL : OpR X (binaryOp .Mult) (fun x y H Q => ∃ t k ws, x = .ref t ∧ y = .int k ∧ SqT X.K H t ws ∧ ws ≠ [] ∧ 2 ≤ k ∧ k ≤ 10000000 ∧ ws.length * k.toNat ≤ 10000000 ∧ ∀ p, H p = none → Q (.ref p) (upd H p (.tup (List.replicate k.toNat ws).flatten))) := by
  intro pins s σ H x y v u Q I hx hy hh
  obtain ⟨t, k, ws, rfl, rfl, hT, h0, k2, kb, hz, q⟩ := hh
  cases hx
  obtain ⟨tk, rfl⟩ := hy
  obtain ⟨items, rv, ⟨⟨cc, dd, da, ss⟩, at0, c9, m, d9⟩, hsz⟩ := I.tuple hT
  dsimp only at c9 d9
  subst c9 d9
  have ln : items.length = ws.length := rv.length.symm
  have ne : items.toArray.isEmpty = false := by
    cases items with
    | nil => exact absurd (List.eq_nil_of_length_eq_zero ln.symm) h0
    | cons a b => rfl
  have sz0 : items.toArray.size = ws.length := by rw [List.size_toArray, ln]
  have big : (10000000 : Nat) < sizeLine := by decide
  have prod : ((items.toArray.size : Nat) : Int) * k ≤ 10000000 := by
    have e : k = (k.toNat : Int) := by omega
    rw [sz0, e, ← Int.natCast_mul]
    omega
  have len : (List.replicate k.toNat items).flatten.length ≤ sizeLine := by
    rw [PyProof.Rows.lm_len_rep_flat, ln, Nat.mul_comm]
    omega
  have z0 : (decide (k < -(2 ^ 63)) || decide (k ≥ 2 ^ 63)) = false := by
    rw [decide_eq_false (by omega), decide_eq_false (by omega)]
    rfl
  have z1 : (items.toArray.isEmpty || k == 1) = false := by
    rw [ne]
    exact beq_eq_false_iff_ne.mpr (by omega)
  have z2 : (decide (k ≤ 0) || items.toArray.isEmpty) = false := by
    rw [ne, decide_eq_false (by omega)]
    rfl
  have z4 : Builtin.Tuple.tupleTooMany (((items.toArray.size : Nat) : Int) * k) = false := by
    unfold Builtin.Tuple.tupleTooMany
    exact decide_eq_false (by omega)
  have times := tuple_mulW t items.toArray m dd ss k tk z0 z1 z2 (by omega) z4 (by rw [size_rep, List.size_toArray]; exact len)
  refine wpAny_binaryOp_repeat_ref (T := "tuple") (U := "int") (by decide) ⟨_, at0, rfl⟩ (fun s' => typeIs_int s' k tk) noFill_tuple_mul F.fills_int_mul
    F.slot_int_rmul repeat_tuple F.slot_int_index.lookup (call_meets F.slot_int_rmul (typeIs_int s k tk) F.entry_int_rmul (F.args_int_rmul_2 _ _)
      (int_rmul_tuple k tk t items.toArray m dd ss) ⟨at0, rfl, ⟨_, at0, rfl⟩, call_meets F.slot_tuple_mul ⟨_, at0, rfl⟩ F.entry_tuple_mul (F.args_tuple_mul_2 _ _) times ⟨at0, ?_⟩⟩)
  rw [size_rep]
  refine ⟨V.ref s.heap.objs.size, _, I.laid (t' := s.toks) (o := .tup (List.replicate k.toNat ws).flatten) (fun b ob e => Heap.get?_push_of_some _ e) (Nat.le_refl _) ⟨?_, _, rv.rep k.toNat, IsTup.new _ _⟩, rfl, q _ (I.hok.fresh (Nat.le_refl _))⟩
  rw [PyProof.Rows.lm_len_rep_flat, Nat.mul_comm]
  omega
theorem op_mulI (fr : Bool) : OpR X (binaryOp .Mult) (rB X.K F (mulV fr)) := by
  intro pins s σ H x y v u Q I rx ry h
  obtain ⟨B, r, st, p, q, R, hp, hq, h⟩ := h
  have gen : ∀ k, q = .int k → mulV fr st p q = mulL fr st p k → wpAny (model X.prog X.w) X.A (binaryOp .Mult v u) (EP X pins σ Q) X.xe s := by
    intro k eq e
    subst eq
    rw [e] at h
    unfold mulL at h
    split at h
    · rename_i xs e1
      split at h
      · rename_i hz
        obtain ⟨a, vs, rfl, s1, q1⟩ := hp.seqL R e1
        cases hq
        exact op_repS pins s σ H _ _ v u Q I rx ry ⟨a, k, vs, rfl, rfl, s1, hz.1, hz.2.1, by rw [q1.length]; exact hz.2.2, h.lst R (q1.rep _)⟩
      · exact h.elim
    · exact h.elim
  cases hq with
  | int k =>
    cases hp with
    | int i =>
      simp only [mulV] at h
      split at h
      · exact op_mulW pins s σ H _ _ v u Q I rx ry ⟨i, k, rfl, rfl, by assumption, h.here R (.int _)⟩
      · exact h.elim
    | @tup a1 vs1 xs h1 q1 =>
      simp only [mulV] at h
      split at h
      · rename_i hz
        subst hz
        exact op_rep1 pins s σ H _ _ v u Q I rx ry ⟨a1, vs1, rfl, rfl, h1, h.here R (.tup h1 q1)⟩
      split at h
      · rename_i hz
        refine op_repL pins s σ H _ _ v u Q I rx ry ⟨a1, k, vs1, rfl, rfl, h1, ?_, hz.2.1, hz.2.2.1, by rw [q1.length]; exact hz.2.2.2, h.tup R (q1.rep _)⟩
        intro e
        subst e
        cases q1
        exact hz.1 rfl
      · exact h.elim
    | _ => exact gen k rfl rfl
  | _ => cases hp <;> exact h.elim
theorem rI_of {f : Value → Value → Sem Value} {C : Int → Int → Prop} {g : Int → Int → V} {o : Store → PV → PV → Out PV} (h : OpR X f (rI C g))
    (ho : ∀ st p q, (∃ i j, p = .int i ∧ q = .int j ∧ C i j ∧ ∃ k, g i j = .int k ∧ o st p q = .ok (.int k) st) ∨ o st p q = .bad) : OpR X f (rB X.K F o) := opr_imp h fun x y H Q h => by
  obtain ⟨B, r, st, p, q, R, hp, hq, h⟩ := h
  rcases ho st p q with ⟨i, j, rfl, rfl, hc, k, e1, e2⟩ | e
  · cases hp; cases hq
    rw [e2] at h
    exact ⟨i, j, rfl, rfl, hc, by rw [e1]; exact h.here R (.int _)⟩
  · rw [e] at h; exact h.elim
theorem op_bin (o : Bop) (fr : Bool) : OpR X (binaryOp (opB o)) (rB X.K F (binV o fr)) := by
  cases o with
  | add => exact op_addI fr
  | mul => exact op_mulI fr
  | sub =>
    exact rI_of (C := fun _ _ => True) (opr_imp op_sub fun x y H Q ⟨i, j, a, b, _, q⟩ => ⟨i, j, a, b, q⟩) fun st p q => by
      cases p <;> cases q <;> first | exact .inr rfl | exact .inl ⟨_, _, rfl, rfl, trivial, _, rfl, rfl⟩
  | fdiv =>
    exact rI_of op_fdivW fun st p q => by
      cases p <;> cases q <;> first | exact .inr rfl | (simp only [binV]; split; exact .inl ⟨_, _, rfl, rfl, by assumption, _, rfl, rfl⟩; exact .inr rfl)
  | mod =>
    exact rI_of op_mod fun st p q => by
      cases p <;> cases q <;> first | exact .inr rfl | (simp only [binV]; split; exact .inl ⟨_, _, rfl, rfl, by assumption, _, rfl, rfl⟩; exact .inr rfl)
  | pow =>
    exact rI_of op_pow fun st p q => by
      cases p <;> cases q <;> first | exact .inr rfl | (simp only [binV]; split; exact .inl ⟨_, _, rfl, rfl, by assumption, _, rfl, rfl⟩; exact .inr rfl)
  | shl =>
    exact rI_of op_shl fun st p q => by
      cases p <;> cases q <;> first | exact .inr rfl | (simp only [binV]; split; exact .inl ⟨_, _, rfl, rfl, by assumption, _, rfl, rfl⟩; exact .inr rfl)
  | shr =>
    exact rI_of op_shr fun st p q => by
      cases p <;> cases q <;> first | exact .inr rfl | (simp only [binV]; split; exact .inl ⟨_, _, rfl, rfl, by assumption, _, rfl, rfl⟩; exact .inr rfl)
  | band =>
    exact rI_of (C := fun _ _ => True) (opr_imp op_and fun x y H Q ⟨i, j, a, b, _, q⟩ => ⟨i, j, a, b, q⟩) fun st p q => by
      cases p <;> cases q <;> first | exact .inr rfl | exact .inl ⟨_, _, rfl, rfl, trivial, _, rfl, rfl⟩
  | bor =>
    exact rI_of (C := fun _ _ => True) (opr_imp op_or fun x y H Q ⟨i, j, a, b, _, q⟩ => ⟨i, j, a, b, q⟩) fun st p q => by
      cases p <;> cases q <;> first | exact .inr rfl | exact .inl ⟨_, _, rfl, rfl, trivial, _, rfl, rfl⟩
def opC : Cop → CmpOp
  | .eq => .Eq | .ne => .NotEq | .lt => .Lt | .le => .LtE | .gt => .Gt | .ge => .GtE | .isin => .In | .notin => .NotIn | .is => .Is | .isnot => .IsNot
def rC (K : PySem.W.Frag) (F : List Addr) (o : Cop) : R2 := fun x y H Q => ∃ r st p q b, Rel K F H r st ∧ Rep K F H r x p ∧ Rep K F H r y q ∧ cmpV o st p q = some b ∧ Q (.bl b) H
theorem rC_int {o : Cop} {f : Int → Int → Bool} (h : OpR X (compareOp (opC o)) (rI0 fun i j => .bl (f i j)))
    (ho : ∀ st p q, (∃ i j, p = .int i ∧ q = .int j ∧ cmpV o st p q = some (f i j)) ∨ cmpV o st p q = none) : OpR X (compareOp (opC o)) (rC X.K F o) := opr_imp h fun x y H Q h => by
  obtain ⟨r, st, p, q, b, R, hp, hq, e, h⟩ := h
  rcases ho st p q with ⟨i, j, rfl, rfl, e2⟩ | e2
  · cases hp; cases hq
    rw [e2] at e; cases e
    exact ⟨i, j, rfl, rfl, h⟩
  · rw [e2] at e; cases e
def rLtD (K : PySem.W.Frag) (g : PyData → PyData → Bool) : R2 := fun x y H Q => ∃ d e, Dp K H x d ∧ Dp K H y e ∧ PySem.W.alike d e = true ∧ (d ≠ .none ∧ e ≠ .none ∧ min d.depth e.depth ≤ 64) ∧ Q (.bl (g d e)) H
theorem op_ltD (hu : X.A.units + 64 < cLine) : OpR X (compareOp .Lt) (rLtD X.K PySem.W.dataLt) := by
  intro pins s σ H x y v u Q I rx ry h
  obtain ⟨d, e, hd, he, ha, ⟨n1, n2, hz⟩, q⟩ := h
  obtain ⟨as, r1⟩ := Dp.reads I d x v hd rx
  obtain ⟨bs, r2⟩ := Dp.reads I e y u he ry
  exact PySem.W.lt_data r1 r2 ha n1 (by omega) ⟨.bl _, H, I, rfl, q⟩
theorem op_gtD (hu : X.A.units + 64 < cLine) : OpR X (compareOp .Gt) (rLtD X.K fun d e => PySem.W.dataLt e d) := by
  intro pins s σ H x y v u Q I rx ry h
  obtain ⟨d, e, hd, he, ha, ⟨n1, n2, hz⟩, q⟩ := h
  obtain ⟨as, r1⟩ := Dp.reads I d x v hd rx
  obtain ⟨bs, r2⟩ := Dp.reads I e y u he ry
  exact PySem.W.gt_data r1 r2 ha n1 (by omega) ⟨.bl _, H, I, rfl, q⟩
theorem op_cmp (n : Nat) {hot : Bool} (C : Cal X n hot) (o : Cop) : OpR X (compareOp (opC o)) (rC X.K F o) := by
  have eqs : ∀ {H : Hp} {r : List Addr} {st : Store} {p q : PV} {b : Bool} {x y : V}, Rel X.K F H r st → Rep X.K F H r x p → Rep X.K F H r y q → eqvV st p q = some b →
      (∃ d e, Dp X.K H x d ∧ Dp X.K H y e ∧ SeqAt.shaped d = true ∧ SeqAt.shaped e = true ∧ PyData.eqv d e = b) ∨ ∃ i j, x = .str i ∧ y = .str j ∧ (i == j) = b := by
    intro H r st p q b x y RR hp hq e
    have gen : eqvD p q = some b → (∃ d e, Dp X.K H x d ∧ Dp X.K H y e ∧ SeqAt.shaped d = true ∧ SeqAt.shaped e = true ∧ PyData.eqv d e = b) := by
      intro e
      unfold eqvD at e
      split at e
      · rename_i c
        exact ⟨_, _, hp.dp c.1, hq.dp c.2.1, c.2.2.1, c.2.2.2, Option.some.inj e⟩
      · cases e
    have lgen : ∀ {k : Nat} {ys : List PV}, Rep X.K F H r x (.loc k) → Rep X.K F H r y (.lsv ys) → eqvV st (.loc k) (.lsv ys) = some b → (∃ d e, Dp X.K H x d ∧ Dp X.K H y e ∧ SeqAt.shaped d = true ∧ SeqAt.shaped e = true ∧ PyData.eqv d e = b) := by
      intro k ys h1 h2 e
      have e : (match st[k]? with
        | some xs => eqvD (.lsv xs) (.lsv ys)
        | none => none) = some b := e
      cases hk : st[k]? with
      | none => rw [hk] at e; cases e
      | some xs =>
        rw [hk] at e
        have e : eqvD (.lsv xs) (.lsv ys) = some b := e
        obtain ⟨a, vs, rfl, s1, s2⟩ := h1.seqL RR (xs := xs) hk
        unfold eqvD at e
        split at e
        · rename_i c
          have c1 : dataAll xs = true := c.1
          exact ⟨_, _, .lst s1 (Reps.dp s2 c1), h2.dp c.2.1, c.2.2.1, c.2.2.2, Option.some.inj e⟩
        · cases e
    have hp' := hp
    have hq' := hq
    cases hp <;> first
      | exact .inl (gen e)
      | (cases hq <;> first
          | exact .inl (gen e)
          | exact .inl (lgen hp' hq' e)
          | exact .inr ⟨_, _, rfl, rfl, Option.some.inj e⟩)
  have ords : ∀ {H : Hp} {r : List Addr} {st : Store} {p q : PV} {b : Bool} {x y : V}, Rep X.K F H r x p → Rep X.K F H r y q → cmpV .lt st p q = some b →
      (∃ i j, x = .int i ∧ y = .int j ∧ decide (i < j) = b) ∨ ∃ d e, Dp X.K H x d ∧ Dp X.K H y e ∧ PySem.W.alike d e = true ∧ (d ≠ .none ∧ e ≠ .none ∧ min d.depth e.depth ≤ 64) ∧ PySem.W.dataLt d e = b := by
    intro H r st p q b x y hp hq e
    have gen : ∀ {xs ys : List PV}, Rep X.K F H r x (.tup xs) → Rep X.K F H r y (.tup ys) → ltP (.tup xs) (.tup ys) = some b → ∃ d e, Dp X.K H x d ∧ Dp X.K H y e ∧ PySem.W.alike d e = true ∧ (d ≠ .none ∧ e ≠ .none ∧ min d.depth e.depth ≤ 64) ∧ PySem.W.dataLt d e = b := by
      intro xs ys hp hq e
      unfold ltP at e
      split at e
      · rename_i c
        simp only [alikeP, Bool.and_eq_true, decide_eq_true_eq] at c
        obtain ⟨⟨⟨⟨⟨⟨⟨c1, c2⟩, c3⟩, c4⟩, c5⟩, c6⟩, c7⟩, c8⟩ := c
        exact ⟨_, _, hp.dp c1, hq.dp c2, c4, ⟨fun z => (nomatch z), fun z => (nomatch z), Nat.le_trans (Nat.min_le_left _ _) c7⟩, Option.some.inj e⟩
      · cases e
    cases p <;> first | (cases hp <;> cases e; done) | skip
    · cases q <;> first | (cases hq <;> cases e; done) | skip
      cases hp
      cases hq
      exact .inl ⟨_, _, rfl, rfl, Option.some.inj e⟩
    · cases q <;> first | (cases hq <;> cases e; done) | skip
      exact .inr (gen hp hq e)
  cases o with
  | eq =>
    exact opr_imp (OpR.or (op_eqD C.units) op_eq) fun x y H Q h => by
      obtain ⟨r, st, p, q, b, R, hp, hq, e, h⟩ := h
      rcases eqs (st := st) R hp hq e with ⟨d, e, d1, d2, d3, d4, d5⟩ | ⟨i, j, rfl, rfl, d5⟩
      · exact .inl ⟨_, _, d1, d2, d3, d4, by rw [d5]; exact h⟩
      · exact .inr ⟨rfl, by rw [dec_str, d5]; exact h⟩
  | ne =>
    exact opr_imp (OpR.or (op_neD C.units) op_ne) fun x y H Q h => by
      obtain ⟨r, st, p, q, b, R, hp, hq, e, h⟩ := h
      simp only [cmpV, Option.map_eq_some_iff] at e
      obtain ⟨b', e, rfl⟩ := e
      rcases eqs (st := st) R hp hq e with ⟨d, e, d1, d2, d3, d4, d5⟩ | ⟨i, j, rfl, rfl, d5⟩
      · exact .inl ⟨_, _, d1, d2, d3, d4, by rw [d5]; exact h⟩
      · exact .inr ⟨rfl, by rw [dec_str, d5]; exact h⟩
  | lt =>
    exact opr_imp (OpR.or op_lt (op_ltD C.units)) fun x y H Q h => by
      obtain ⟨r, st, p, q, b, R, hp, hq, e, h⟩ := h
      rcases ords (st := st) hp hq e with ⟨i, j, rfl, rfl, rfl⟩ | ⟨d, f, d1, d2, d3, d4, rfl⟩
      · exact .inl ⟨i, j, rfl, rfl, h⟩
      · exact .inr ⟨d, f, d1, d2, d3, d4, h⟩
  | le => exact rC_int op_le fun st p q => by cases p <;> cases q <;> first | exact .inr rfl | exact .inl ⟨_, _, rfl, rfl, rfl⟩
  | gt =>
    exact opr_imp (OpR.or op_gt (op_gtD C.units)) fun x y H Q h => by
      obtain ⟨r, st, p, q, b, R, hp, hq, e, h⟩ := h
      rcases ords (st := st) (b := b) hq hp (by cases p <;> cases q <;> exact e) with ⟨i, j, rfl, rfl, rfl⟩ | ⟨d, f, d1, d2, d3, d4, rfl⟩
      · exact .inl ⟨j, i, rfl, rfl, h⟩
      · exact .inr ⟨f, d, d2, d1, by rw [PySem.W.alike_comm]; exact d3, ⟨d4.2.1, d4.1, by rw [Nat.min_comm]; exact d4.2.2⟩, h⟩
  | ge => exact rC_int op_ge fun st p q => by cases p <;> cases q <;> first | exact .inr rfl | exact .inl ⟨_, _, rfl, rfl, rfl⟩
  | isin =>
    exact opr_imp op_in_seq fun x y H Q h => by
      obtain ⟨r, st, p, q, b, R, hp, hq, e, h⟩ := h
      simp only [cmpV] at e
      split at e
      · rename_i xs e1
        split at e
        · rename_i c
          cases e
          obtain ⟨a, vs, rfl, s1, q1⟩ := hq.seqA R e1
          obtain ⟨rfl, f1⟩ := rep_flat hp c.1
          obtain ⟨rfl, f2⟩ := reps_flat q1 c.2
          exact ⟨a, _, rfl, s1, f1, f2, by rw [inV_eq]; exact h⟩
        · cases e
      · cases e
  | notin =>
    exact opr_imp op_notIn_seq fun x y H Q h => by
      obtain ⟨r, st, p, q, b, R, hp, hq, e, h⟩ := h
      simp only [cmpV] at e
      split at e
      · rename_i xs e1
        split at e
        · rename_i c
          cases e
          obtain ⟨a, vs, rfl, s1, q1⟩ := hq.seqA R e1
          obtain ⟨rfl, f1⟩ := rep_flat hp c.1
          obtain ⟨rfl, f2⟩ := reps_flat q1 c.2
          exact ⟨a, _, rfl, s1, f1, f2, by rw [inV_eq]; exact h⟩
        · cases e
      · cases e
  | is =>
    exact opr_imp (OpR.or op_isBl op_isN) fun x y H Q h => by
      obtain ⟨r, st, p, q, b, R, hp, hq, e, h⟩ := h
      cases hq with
      | bl c =>
        cases hp with
        | bl d => cases e; exact .inl ⟨_, _, rfl, rfl, h⟩
        | _ => cases e
      | non =>
        refine .inr ⟨rfl, ?_⟩
        cases hp <;> (cases e; exact h)
      | _ => cases hp <;> cases e
  | isnot =>
    exact opr_imp (OpR.or op_notBl op_notN) fun x y H Q h => by
      obtain ⟨r, st, p, q, b, R, hp, hq, e, h⟩ := h
      cases hq with
      | bl c =>
        cases hp with
        | bl d => cases e; exact .inl ⟨_, _, rfl, rfl, h⟩
        | _ => cases e
      | non =>
        refine .inr ⟨rfl, ?_⟩
        cases hp <;> (cases e; exact h)
      | _ => cases hp <;> cases e
theorem ix_all : IxR X (fun x y H Q => ∃ r st p q z, Rel X.K F H r st ∧ Rep X.K F H r x p ∧ Rep X.K F H r y q ∧ ixV st p q = some z ∧ ∀ v, Rep X.K F H r v z → Q v H) := by
  intro value slice pins s σ H x y v u Q I rx ry h hs
  refine ix_seq value slice pins s σ H x y v u Q I rx ry ?_ hs
  obtain ⟨r, st, p, q, z, R, hp, hq, e, h⟩ := h
  have gen : ∀ k, q = .int k → ((seqA st p).bind fun xs => atI xs k) = some z → rIx X.K x y H Q := by
    intro k eq e0
    subst eq
    cases hq
    rw [Option.bind_eq_some_iff] at e0
    obtain ⟨xs, e1, e2⟩ := e0
    obtain ⟨a, vs, rfl, s1, q1⟩ := hp.seqA R e1
    have e3 : ∃ w, atI vs k = some w ∧ Rep X.K F H r w z := by
      unfold atI at e2 ⊢
      rw [Option.bind_eq_some_iff] at e2
      obtain ⟨j, e3, e4⟩ := e2
      obtain ⟨w, e5, e6⟩ := q1.get2 e4
      exact ⟨w, by rw [q1.length, e3]; exact e5, e6⟩
    obtain ⟨w, e4, e5⟩ := e3
    rcases s1 with s1 | s1
    · exact .inl ⟨a, vs, k, w, rfl, rfl, s1, e4, h w e5⟩
    · exact .inr (.inl ⟨a, vs, k, w, rfl, rfl, s1, e4, h w e5⟩)
  cases hq with
  | int k =>
    cases hp with
    | str i =>
      simp only [ixV] at e
      split at e
      · rw [Option.map_eq_some_iff] at e
        obtain ⟨c, e1, rfl⟩ := e
        exact .inr (.inr ⟨i, k, c, rfl, rfl, by assumption, e1, h _ (.str _)⟩)
      · cases e
    | non => cases e
    | bl => cases e
    | int => cases e
    | _ =>
      refine gen k rfl ?_
      simp only [ixV] at e
      split at e
      · rename_i xs e1
        rw [e1]; exact e
      · cases e
  | _ => cases hp <;> cases e
theorem reps_cut {K : PySem.W.Frag} {H : Hp} {r : List Addr} {vs : List V} {ps : List PV} (h : Reps K F H r vs ps) (lo hi : Option Int) : Reps K F H r (cutV vs lo hi) (cutP ps lo hi) := by
  unfold cutV cutP
  rw [h.length]
  exact (h.drop _).take _
def rSl (K : PySem.W.Frag) (F : List Addr) (fr : Bool) : V → Option Int → Option Int → Hp → VK → Prop := fun x lo hi H Q => ∃ B r st p, Rel K F H r st ∧ Rep K F H r x p ∧ Post K F B r H Q (slV fr st p lo hi)
theorem cut_whole (ps : List PV) (lo hi : Option Int) (h1 : HT.sIx ps.length 0 lo = 0) (h2 : HT.sIx ps.length ps.length hi = ps.length) : cutP ps lo hi = ps := by
  unfold cutP
  rw [h1, h2]
  simp
theorem sl_all (fr : Bool) : SlR X (rSl X.K F fr) := by
  intro pins s σ H x v vl vu lo hi sl Q I rx hs pl pu h
  obtain ⟨B, r, st, p, R, hp, h⟩ := h
  have gen : ∀ xs, seqL st p = some xs → Post X.K F B r H Q (newL fr (cutP xs lo hi) st) → ∃ T id, typeLookup (.type T) "__getitem__" = pure (some (.builtin id)) ∧ s.TypeIs v T ∧ wpAny (model X.prog X.w) X.A (getItem v (.ref sl)) (EP X pins σ Q) X.xe s := by
    intro xs e h
    obtain ⟨a, vs, rfl, s1, q1⟩ := hp.seqL R e
    exact sl_list pins s σ H _ v vl vu lo hi sl Q I rx hs pl pu ⟨a, vs, rfl, s1, h.lst R (reps_cut q1 lo hi)⟩
  cases hp with
  | @tup a vs ps h1 q1 =>
    refine sl_tupA pins s σ H _ v vl vu lo hi sl Q I rx hs pl pu ⟨a, vs, rfl, h1, fun w => ?_, fun _ => h.tup R (reps_cut q1 lo hi)⟩
    refine h.here R ?_
    rw [q1.length] at w
    rw [cut_whole ps lo hi w.1 w.2]
    exact .tup h1 q1
  | @lsv a vs ps h1 q1 => exact gen ps rfl h
  | @loc a i e =>
    simp only [slV] at h
    split at h
    · rename_i xs e1
      exact gen xs e1 h
    · exact h.elim
  | _ => exact h.elim
theorem tru_of {K : PySem.W.Frag} {H : Hp} {r : List Addr} {st : Store} {v : V} {p : PV} {b : Bool} (R : Rel K F H r st) (hp : Rep K F H r v p) (e : truthy st p = some b) : TruV K v H b := by
  cases hp with
  | non => cases e; rfl
  | bl => cases e; rfl
  | int => cases e; rfl
  | str x =>
    simp only [truthy] at e
    split at e
    · cases e; exact ⟨by assumption, rfl⟩
    · cases e
  | @lsv a vs ps h q =>
    cases e
    refine .inl ⟨vs, h.seq, ?_⟩
    cases q <;> rfl
  | @tup a vs ps h q =>
    cases e
    refine .inr (.inl ⟨vs, h, ?_⟩)
    cases q <;> rfl
  | @loc a i h =>
    obtain ⟨xs, vs, e1, e2, q⟩ := R.cell h
    simp only [truthy, e1, Option.map_some] at e
    cases e
    refine .inl ⟨vs, .of e2, ?_⟩
    cases q <;> rfl
  | exn => cases e
  | dct => cases e
  | rgo => cases e
theorem ty_of {K : PySem.W.Frag} {H : Hp} {r : List Addr} {st : Store} {v : V} {p : PV} {T : String} (R : Rel K F H r st) (hp : Rep K F H r v p) (e : tyOfP p = some T) : TyX K H v (.type T) := by
  cases hp with
  | non => cases e; exact .base .non
  | bl b => cases e; exact .base (.bl b)
  | int i => cases e; exact .base (.int i)
  | str x => cases e; exact .base (.str x)
  | lsv h q =>
    cases e
    rcases h with ⟨h, _⟩ | ⟨o, h⟩ | ⟨o, its, n, h1, h2, _⟩
    · exact .base (.lst h)
    · exact .base (.frz h)
    · exact .kList h1 h2
  | tup h q =>
    cases e
    rcases h with (h | ⟨o, h⟩) | ⟨o, its, n, h1, h2, _⟩
    · exact .base (.tup h)
    · exact .fTuple h
    · exact .kTuple h1 h2
  | loc h =>
    cases e
    obtain ⟨xs, vs, e1, e2, q⟩ := R.cell h
    exact .base (.lst e2)
  | exn => cases e
  | dct => cases e
  | rgo => cases e
theorem callr_imp {f : Value} {r r' : List V → Hp → VK → Prop} (h : CallR X f r) (i : ∀ x H Q, r' x H Q → r x H Q) : CallR X f r' :=
  fun pins s σ H x v Q I rx q => h pins s σ H x v Q I rx (i _ _ _ q)
mutual
theorem nodict {K : PySem.W.Frag} {H : Hp} : ∀ (d : PyData) {v : V}, Dp K H v d → d.hasDict = false
  | .none, _, _ => rfl
  | .bool _, _, _ => rfl
  | .int _, _, _ => rfl
  | .str _, _, _ => rfl
  | .list xs, _, h => by
    cases h with
    | lst _ q => exact nodicts xs q
  | .tuple xs, _, h => by
    cases h with
    | tup _ q => exact nodicts xs q
  | .dict _, _, h => by cases h
theorem nodicts {K : PySem.W.Frag} {H : Hp} : ∀ (ds : List PyData) {vs : List V}, DpAll K H vs ds → PyData.hasDictAll ds = false
  | [], _, _ => rfl
  | d :: ds, _, h => by
    cases h with
    | cons h q => simp only [PyData.hasDictAll, nodict d h, nodicts ds q, Bool.or_false]
end
theorem call_reprD (n : Nat) {hot : Bool} (C : Cal X n hot) : CallR X (.builtin "repr") (fun xs H Q => ∃ v d, xs = [v] ∧ Dp X.K H v d ∧ d.showable = true ∧ d.shown.length ≤ sizeLine ∧ d.depth ≤ 64 ∧ Q (.str d.shown) H) := by
  intro pins s σ H xs us Q I rv h
  obtain ⟨v, d, rfl, hd, hs, hz, hdep, q⟩ := h
  obtain ⟨u, rfl, ru⟩ := vals1 rv
  obtain ⟨as, rd⟩ := Dp.reads I d v u hd ru
  have nd : d.hasDict = true → sysModules ∉ as := by
    rw [nodict d hd]
    exact fun z => Bool.noConfusion z
  have hu := C.units
  cases hd with
  | non => cases ru; exact PySem.P.repr_of_none ⟨.str _, H, I.tok _, ⟨_, rfl⟩, q⟩
  | bl b => cases ru; exact PySem.P.repr_of_bool ⟨.str _, H, I.tok _, ⟨_, rfl⟩, q⟩
  | int i =>
    obtain ⟨t, rfl⟩ := ru
    exact PySem.P.repr_of_int (of_decide_eq_true hs) ⟨.str _, H, I.tok _, ⟨_, rfl⟩, q⟩
  | str x =>
    obtain ⟨t, rfl⟩ := ru
    exact PySem.P.repr_of_str ⟨.str _, H, I.tok _, ⟨_, rfl⟩, q⟩ hz
  | lst _ _ =>
    cases ru
    exact repr_of_reads' rd hs nd C.gd (by have := C.un; omega) (fun _ _ e => e) (fun h' u tk kp => ⟨.str _, H, I.kept kp, ⟨_, rfl⟩, q⟩) hz
  | tup _ _ =>
    cases ru
    exact repr_of_reads' rd hs nd C.gd (by have := C.un; omega) (fun _ _ e => e) (fun h' u tk kp => ⟨.str _, H, I.kept kp, ⟨_, rfl⟩, q⟩) hz
def rBi (K : PySem.W.Frag) (F : List Addr) (f : Bi) (fr : Bool) : List V → Hp → VK → Prop := fun xs H Q => ∃ B r st ps, Rel K F H r st ∧ Reps K F H r xs ps ∧ Post K F B r H Q (biV f fr st ps)
theorem reps1 {K : PySem.W.Frag} {H : Hp} {r : List Addr} {vs : List V} {p : PV} (h : Reps K F H r vs [p]) : ∃ v, vs = [v] ∧ Rep K F H r v p := by
  cases h with
  | cons h q => cases q; exact ⟨_, rfl, h⟩
theorem reps2 {K : PySem.W.Frag} {H : Hp} {r : List Addr} {vs : List V} {p q : PV} (h : Reps K F H r vs [p, q]) : ∃ v u, vs = [v, u] ∧ Rep K F H r v p ∧ Rep K F H r u q := by
  cases h with
  | cons h q =>
    obtain ⟨u, rfl, h2⟩ := reps1 q
    exact ⟨_, _, rfl, h, h2⟩
theorem foldl_max (ns : List Int) : ∀ (n m : Int), m ∈ n :: ns → (∀ y, y ∈ n :: ns → y ≤ m) → m = ns.foldl max n := by
  induction ns with
  | nil => intro n m h _; simpa using h
  | cons a ns ih =>
    intro n m h1 h2
    rw [List.foldl_cons]
    refine ih (max n a) m ?_ ?_
    · have hn := h2 n (by simp)
      have ha := h2 a (by simp)
      simp only [List.mem_cons] at h1 ⊢
      rcases h1 with rfl | rfl | h1
      · left; omega
      · left; omega
      · exact .inr h1
    · intro y hy
      have hn := h2 n (by simp)
      have ha := h2 a (by simp)
      rcases List.mem_cons.mp hy with rfl | hy
      · omega
      · exact h2 y (by simp [hy])
theorem foldl_min (ns : List Int) : ∀ (n m : Int), m ∈ n :: ns → (∀ y, y ∈ n :: ns → m ≤ y) → m = ns.foldl min n := by
  induction ns with
  | nil => intro n m h _; simpa using h
  | cons a ns ih =>
    intro n m h1 h2
    rw [List.foldl_cons]
    refine ih (min n a) m ?_ ?_
    · have hn := h2 n (by simp)
      have ha := h2 a (by simp)
      simp only [List.mem_cons] at h1 ⊢
      rcases h1 with rfl | rfl | h1
      · left; omega
      · left; omega
      · exact .inr h1
    · intro y hy
      have hn := h2 n (by simp)
      have ha := h2 a (by simp)
      rcases List.mem_cons.mp hy with rfl | hy
      · omega
      · exact h2 y (by simp [hy])
section
variable {X : Cx}
theorem two_max {prog : Program} {w : World} {A : Around} {E : Value → Shared → Prop} {s : Shared} {a b : Value} {Q : Value → Shared → Prop}
    (h : wpAny (model prog w) A.in1 (pyIter (.ref s.heap.objs.size)) (fun it s₂ => ∃ I fp wr G n P St H bt, it = .ref I ∧ WalksS prog w A.in1 I fp wr G n P St ∧ St 0 s₂ ∧ (∀ b ∈ fp, b < s₂.heap.objs.size) ∧ 0 < n ∧
      (∀ b o, H.get? b = some o → b ∉ wr) ∧ (∀ b o, H.get? b = some o → s₂.heap.get? b = some o) ∧ CmpIn prog w A.in1 .Gt H P bt ∧ ∀ v s', P (argBest bt (n - 1)) v → Moved wr G s₂ s' → Q v s') E
      { s with heap := s.heap.push { cls := .type "tuple", data := .seq #[a, b] } }) : wpAny (model prog w) A (call (.builtin "max") [a, b]) Q E s := by
  have loopName : (toString "max" ++ toString ".loop" : String) = "max.loop" := by decide
  have noKw : Builtin.Builtins.bindParams "max" ["key", "default"] 0 ⟨[], []⟩ = pure [none, none] := rfl
  refine call_function_tree F.kind_max F.plain_max F.entry_max (F.args_max2 _ _) ?_
  show wpAny _ A.in1 (Builtin.Builtins.bindParams "max" ["key", "default"] 0 ⟨[], []⟩ >>= _) _ _ s
  refine wpAny_bind (wpAny_of_eq noKw ?_)
  show wpAny _ A.in1 (newTuple [a, b] >>= _) _ _ s
  refine wpAny_bind (wpAny_newObj_type (wpAny_bind (wpAny_mono h (fun it s₂ got => ?_) fun _ _ z => z)))
  obtain ⟨I, fp, wr, G, n, P, St, H, bt, rfl, wk, at0, below, pos, apart, stands, cmp, fin⟩ := got
  rw [loopName]
  refine wpAny_bind (wpAny_newObj_type (wpAny_pure ⟨plainId_quiet F.plain_max_loop _, ?_⟩))
  have out : s₂.heap.objs.size ∉ fp := fun m => absurd (below _ m) (Nat.lt_irrefl _)
  refine codeAny_max_loop_firstH wk H apart bt cmp s₂.heap.objs.size out (fresh_in stands) _ pos (fun b o e => Heap.get?_push_of_some _ (stands b o e)) (wk.frame 0 s₂ _ s₂.toks at0 (Nat.le_refl _) fun b _ o e => Heap.get?_push_of_some _ e) (Heap.get?_push_size _ rfl) fun v s' got mv => ?_
  exact fin v s' got (Moved.drop_new (tk := s₂.toks) mv (Nat.le_refl _))
theorem call_max2D (n : Nat) {hot : Bool} (C : Cal X n hot) (hh : hot = false) : CallR X (.builtin "max") (fun xs H Q => ∃ x y d e, xs = [x, y] ∧ Dp X.K H x d ∧ Dp X.K H y e ∧ PySem.W.AlikeAll [d, e] ∧ (d.depth ≤ 64 ∧ e.depth ≤ 64) ∧ Q (if PySem.W.dataLt d e = true then y else x) H) := by
  intro pins s σ H xs us Q I rv h
  obtain ⟨x, y, d, e, rfl, hd, he, ha, ⟨z1, z2⟩, q⟩ := h
  obtain ⟨v, u, rfl, r1, r2⟩ := vals2 rv
  obtain ⟨as, rd⟩ := Dp.reads I d x v hd r1
  obtain ⟨bs, re⟩ := Dp.reads I e y u he r2
  have keep : ∀ b o, s.heap.get? b = some o → (s.heap.push { cls := .type "tuple", data := .seq #[v, u] }).get? b = some o := fun b o z => Heap.get?_push_of_some _ z
  have all : ReadsAll (s.heap.push { cls := .type "tuple", data := .seq #[v, u] }) (#[v, u] : Array Value).toList [d, e] (as ++ (bs ++ [])) := .cons (Reads.keeps keep rd) (.cons (Reads.keeps keep re) .nil)
  have tup : (s.heap.push { cls := .type "tuple", data := .seq #[v, u] }).IsTuple s.heap.objs.size #[v, u] := ⟨_, Heap.get?_push_size _ rfl, rfl, 0, rfl⟩
  have room := C.un
  refine two_max (PySem.W.iter_tupleW (A := X.A.in1) (I.ok.hd (C.calm hh)) tup fun s₂ e2 wk at0 below apart stands => ?_)
  refine ⟨_, _, _, _, _, _, _, s.heap.push { cls := .type "tuple", data := .seq #[v, u] }, _, rfl, wk, at0, below, Nat.succ_pos 1, apart, stands, PySem.W.cmpIn_gt (s := { s with heap := s.heap.push { cls := .type "tuple", data := .seq #[v, u] } }) (A := X.A.in1) all ha (by
    show X.A.units + 1 + max d.depth (max e.depth 0) < cLine
    omega), fun v' s' got mv => ?_⟩
  obtain ⟨h', tk, rfl, hk⟩ := PySem.W.moved_old e2 rfl mv
  have I2 : Inv X pins σ H { s with heap := h', toks := tk } := I.kept fun b o z => hk b o (keep b o z)
  have got : (#[v, u] : Array Value)[argBest (fun i j => PySem.W.dataLt ([d, e].getD j .none) ([d, e].getD i .none)) 1]? = some v' := got
  have ab : argBest (fun i j => PySem.W.dataLt ([d, e].getD j .none) ([d, e].getD i .none)) 1 = if PySem.W.dataLt d e = true then 1 else 0 := rfl
  rw [ab] at got
  by_cases c : PySem.W.dataLt d e = true
  · rw [if_pos c] at got q
    cases got
    exact ⟨y, H, I2, r2, q⟩
  · rw [if_neg c] at got q
    cases got
    exact ⟨x, H, I2, r1, q⟩
theorem two_min {prog : Program} {w : World} {A : Around} {E : Value → Shared → Prop} {s : Shared} {a b : Value} {Q : Value → Shared → Prop}
    (h : wpAny (model prog w) A.in1 (pyIter (.ref s.heap.objs.size)) (fun it s₂ => ∃ I fp wr G n P St H bt, it = .ref I ∧ WalksS prog w A.in1 I fp wr G n P St ∧ St 0 s₂ ∧ (∀ b ∈ fp, b < s₂.heap.objs.size) ∧ 0 < n ∧
      (∀ b o, H.get? b = some o → b ∉ wr) ∧ (∀ b o, H.get? b = some o → s₂.heap.get? b = some o) ∧ CmpIn prog w A.in1 .Lt H P bt ∧ ∀ v s', P (argBest bt (n - 1)) v → Moved wr G s₂ s' → Q v s') E
      { s with heap := s.heap.push { cls := .type "tuple", data := .seq #[a, b] } }) : wpAny (model prog w) A (call (.builtin "min") [a, b]) Q E s := by
  have loopName : (toString "min" ++ toString ".loop" : String) = "min.loop" := by decide
  have noKw : Builtin.Builtins.bindParams "min" ["key", "default"] 0 ⟨[], []⟩ = pure [none, none] := rfl
  refine call_function_tree F.kind_min F.plain_min F.entry_min (F.args_min2 _ _) ?_
  show wpAny _ A.in1 (Builtin.Builtins.bindParams "min" ["key", "default"] 0 ⟨[], []⟩ >>= _) _ _ s
  refine wpAny_bind (wpAny_of_eq noKw ?_)
  show wpAny _ A.in1 (newTuple [a, b] >>= _) _ _ s
  refine wpAny_bind (wpAny_newObj_type (wpAny_bind (wpAny_mono h (fun it s₂ got => ?_) fun _ _ z => z)))
  obtain ⟨I, fp, wr, G, n, P, St, H, bt, rfl, wk, at0, below, pos, apart, stands, cmp, fin⟩ := got
  rw [loopName]
  refine wpAny_bind (wpAny_newObj_type (wpAny_pure ⟨plainId_quiet F.plain_min_loop _, ?_⟩))
  have out : s₂.heap.objs.size ∉ fp := fun m => absurd (below _ m) (Nat.lt_irrefl _)
  refine codeAny_min_loop_firstH wk H apart bt cmp s₂.heap.objs.size out (fresh_in stands) _ pos (fun b o e => Heap.get?_push_of_some _ (stands b o e)) (wk.frame 0 s₂ _ s₂.toks at0 (Nat.le_refl _) fun b _ o e => Heap.get?_push_of_some _ e) (Heap.get?_push_size _ rfl) fun v s' got mv => ?_
  exact fin v s' got (Moved.drop_new (tk := s₂.toks) mv (Nat.le_refl _))
theorem call_min2D (n : Nat) {hot : Bool} (C : Cal X n hot) (hh : hot = false) : CallR X (.builtin "min") (fun xs H Q => ∃ x y d e, xs = [x, y] ∧ Dp X.K H x d ∧ Dp X.K H y e ∧ PySem.W.AlikeAll [d, e] ∧ (d.depth ≤ 64 ∧ e.depth ≤ 64) ∧ Q (if PySem.W.dataLt e d = true then y else x) H) := by
  intro pins s σ H xs us Q I rv h
  obtain ⟨x, y, d, e, rfl, hd, he, ha, ⟨z1, z2⟩, q⟩ := h
  obtain ⟨v, u, rfl, r1, r2⟩ := vals2 rv
  obtain ⟨as, rd⟩ := Dp.reads I d x v hd r1
  obtain ⟨bs, re⟩ := Dp.reads I e y u he r2
  have keep : ∀ b o, s.heap.get? b = some o → (s.heap.push { cls := .type "tuple", data := .seq #[v, u] }).get? b = some o := fun b o z => Heap.get?_push_of_some _ z
  have all : ReadsAll (s.heap.push { cls := .type "tuple", data := .seq #[v, u] }) (#[v, u] : Array Value).toList [d, e] (as ++ (bs ++ [])) := .cons (Reads.keeps keep rd) (.cons (Reads.keeps keep re) .nil)
  have tup : (s.heap.push { cls := .type "tuple", data := .seq #[v, u] }).IsTuple s.heap.objs.size #[v, u] := ⟨_, Heap.get?_push_size _ rfl, rfl, 0, rfl⟩
  have room := C.un
  refine two_min (PySem.W.iter_tupleW (A := X.A.in1) (I.ok.hd (C.calm hh)) tup fun s₂ e2 wk at0 below apart stands => ?_)
  refine ⟨_, _, _, _, _, _, _, s.heap.push { cls := .type "tuple", data := .seq #[v, u] }, _, rfl, wk, at0, below, Nat.succ_pos 1, apart, stands, PySem.W.cmpIn_lt (s := { s with heap := s.heap.push { cls := .type "tuple", data := .seq #[v, u] } }) (A := X.A.in1) all ha (by
    show X.A.units + 1 + max d.depth (max e.depth 0) < cLine
    omega), fun v' s' got mv => ?_⟩
  obtain ⟨h', tk, rfl, hk⟩ := PySem.W.moved_old e2 rfl mv
  have I2 : Inv X pins σ H { s with heap := h', toks := tk } := I.kept fun b o z => hk b o (keep b o z)
  have got : (#[v, u] : Array Value)[argBest (fun i j => PySem.W.dataLt ([d, e].getD i .none) ([d, e].getD j .none)) 1]? = some v' := got
  have ab : argBest (fun i j => PySem.W.dataLt ([d, e].getD i .none) ([d, e].getD j .none)) 1 = if PySem.W.dataLt e d = true then 1 else 0 := rfl
  rw [ab] at got
  by_cases c : PySem.W.dataLt e d = true
  · rw [if_pos c] at got q
    cases got
    exact ⟨y, H, I2, r2, q⟩
  · rw [if_neg c] at got q
    cases got
    exact ⟨x, H, I2, r1, q⟩
end
mutual
theorem toD_inj : ∀ {a b : PV}, a.data = true → b.data = true → a.toD = b.toD → a = b
  | .non, b, _, h, e => by cases b <;> first | rfl | (cases h; done) | cases e
  | .bl _, b, _, h, e => by cases b <;> first | (cases h; done) | (cases e; rfl) | cases e
  | .int _, b, _, h, e => by cases b <;> first | (cases h; done) | (cases e; rfl) | cases e
  | .str _, b, _, h, e => by cases b <;> first | (cases h; done) | (cases e; rfl) | cases e
  | .tup xs, b, g, h, e => by
    cases b <;> first | (cases h; done) | skip
    case tup ys =>
      have e : toDs xs = toDs ys := PyData.tuple.inj e
      rw [toDs_inj g h e]
    all_goals cases e
  | .lsv xs, b, g, h, e => by
    cases b <;> first | (cases h; done) | skip
    case lsv ys =>
      have e : toDs xs = toDs ys := PyData.list.inj e
      rw [toDs_inj g h e]
    all_goals cases e
theorem toDs_inj : ∀ {a b : List PV}, dataAll a = true → dataAll b = true → toDs a = toDs b → a = b
  | [], [], _, _, _ => rfl
  | [], _ :: _, _, _, e => by cases e
  | _ :: _, [], _, _, e => by cases e
  | x :: xs, y :: ys, g, h, e => by
    simp only [dataAll, Bool.and_eq_true] at g h
    have e : x.toD :: toDs xs = y.toD :: toDs ys := e
    obtain ⟨e1, e2⟩ := List.cons.inj e
    rw [toD_inj g.1 h.1 e1, toDs_inj g.2 h.2 e2]
end
theorem least_mem : ∀ (xs : List PV) (x : PV), leastP x xs ∈ x :: xs
  | [], x => by simp [leastP]
  | z :: xs, x => by
    have e : leastP x (z :: xs) = leastP (if PySem.W.dataLt z.toD x.toD = true then z else x) xs := rfl
    rw [e]
    rcases List.mem_cons.mp (least_mem xs (if PySem.W.dataLt z.toD x.toD = true then z else x)) with h | h
    · rw [h]; split <;> simp
    · exact List.mem_cons_of_mem _ (List.mem_cons_of_mem _ h)
theorem least_toD : ∀ (xs : List PV) (x : PV), (leastP x xs).toD = PySem.W.minD x.toD (xs.map PV.toD)
  | [], x => rfl
  | z :: xs, x => by
    have e : leastP x (z :: xs) = leastP (if PySem.W.dataLt z.toD x.toD = true then z else x) xs := rfl
    have e2 : PySem.W.minD x.toD ((z :: xs).map PV.toD) = PySem.W.minD (if PySem.W.dataLt z.toD x.toD = true then z.toD else x.toD) (xs.map PV.toD) := rfl
    rw [e, e2, least_toD xs]
    congr 1
    split <;> rfl
theorem toDs_map2 : ∀ xs : List PV, toDs xs = xs.map PV.toD
  | [] => rfl
  | x :: xs => by rw [toDs, List.map_cons, toDs_map2 xs]
section
variable {X : Cx}
theorem call_minL (n : Nat) {hot : Bool} (C : Cal X n hot) (hh : hot = false) : CallR X (.builtin "min") (fun xs H Q => ∃ (a : Addr) (vs : List V) (d : PyData) (ds : List PyData), xs = [.ref a] ∧ SqL X.K H a vs ∧ DpAll X.K H vs (d :: ds) ∧ PySem.W.AlikeAll (d :: ds) ∧ PyData.depthAll (d :: ds) ≤ 64 ∧
    ∀ (i : Nat) (v : V), vs[i]? = some v → (d :: ds)[i]? = some (PySem.W.minD d ds) → Q v H) := by
  intro pins s σ H xs us Q I rv h
  obtain ⟨a, vs, d, ds, rfl, hs, hd, ha, hz, q⟩ := h
  obtain ⟨its, rw', hl, _⟩ := I.list hs
  rw [Vals.ref1 rv]
  obtain ⟨as, all⟩ := Dp.readsAll I (d :: ds) vs its hd rw'
  have room := C.un
  refine PySem.W.min_list_data (I.ok.hd (C.calm hh)) hl.isList (by simpa using all) ha (by omega) fun i v h' tk bs hv rd keep => ?_
  have hv : its[i]? = some v := by simpa using hv
  obtain ⟨bs2, r2, i2, m2, _⟩ := PySem.W.readsAll_at all i v hv
  have e2 : (d :: ds).getD i .none = PySem.W.minD d ds := by
    refine PySem.W.alike_unique _ _ v _ _ (ha.1 _ m2 _ ?_) (Reads.keeps keep r2) rd
    have : ∀ (xs : List PyData) (x : PyData), PySem.W.minD x xs ∈ x :: xs := by
      intro xs
      induction xs with
      | nil => intro x; simp [PySem.W.minD]
      | cons z xs ih =>
        intro x
        have e : PySem.W.minD x (z :: xs) = PySem.W.minD (if PySem.W.dataLt z x = true then z else x) xs := rfl
        rw [e]
        rcases List.mem_cons.mp (ih (if PySem.W.dataLt z x = true then z else x)) with h | h
        · rw [h]; split <;> simp
        · exact List.mem_cons_of_mem _ (List.mem_cons_of_mem _ h)
    exact this ds d
  obtain ⟨w, hw, rl⟩ : ∃ w, vs[i]? = some w ∧ RelV w v := by
    have l1 := (List.getElem?_eq_some_iff.mp hv).1
    have l2 := rw'.length
    refine ⟨vs[i]'(by omega), List.getElem?_eq_getElem (by omega), ?_⟩
    obtain ⟨u, h1, h2⟩ := Vals.get rw' (List.getElem?_eq_getElem (show i < vs.length by omega))
    rw [hv] at h1
    cases h1
    exact h2
  have e3 : (d :: ds)[i]? = some (PySem.W.minD d ds) := by
    rw [← e2, List.getD_eq_getElem?_getD, List.getElem?_eq_getElem i2]; rfl
  exact ⟨w, H, I.kept keep, rl, q i w hw e3⟩
end
def biName : Bi → Str
  | .len => "len" | .abs => "abs" | .max2 => "max" | .min2 => "min" | .maxl => "max" | .minl => "min" | .sum => "sum" | .any => "any" | .all => "all" | .int => "int" | .tuple => "tuple" | .list => "list" | .repr => "repr" | .divmod => "divmod" | .stri => "str"
def biVal : Bi → Value
  | .len => .builtin "len" | .abs => .builtin "abs" | .max2 => .builtin "max" | .min2 => .builtin "min" | .maxl => .builtin "max" | .minl => .builtin "min" | .sum => .builtin "sum" | .any => .builtin "any" | .all => .builtin "all"
  | .int => .type "int" | .tuple => .type "tuple" | .list => .type "list" | .repr => .builtin "repr" | .divmod => .builtin "divmod" | .stri => .type "str"
theorem call_bi (n : Nat) {hot : Bool} (C : Cal X n hot) (f : Bi) (fr : Bool) (hf : hot = false ∨ coolBi f = true) : CallR X (biVal f) (rBi X.K F f fr) := by
  have one : ∀ {B : EW} {H : Hp} {r : List Addr} {st : Store} {ps : List PV} {Q : VK}, Post X.K F B r H Q (biV f fr st ps) → ps ≠ [] := by
    intro B H r st ps Q h e
    subst e
    cases f <;> exact h.elim
  cases f with
  | stri =>
    refine callr_imp call_str_int fun xs H Q h => ?_
    obtain ⟨B, r, st, ps, R, hp, h⟩ := h
    match ps, hp, h with
    | [], _, h => exact h.elim
    | p :: _ :: _, _, h => cases p <;> exact h.elim
    | [p], hp, h =>
      obtain ⟨v, rfl, hv⟩ := reps1 hp
      cases hv with
      | int i =>
        simp only [biV] at h
        split at h
        · exact ⟨i, rfl, by assumption, h.here R (.str _)⟩
        · exact h.elim
      | _ => exact h.elim
  | len =>
    refine callr_imp (CallR.or call_len_str call_len_seq) fun xs H Q h => ?_
    obtain ⟨B, r, st, ps, R, hp, h⟩ := h
    match ps, hp, h with
    | [], _, h => exact h.elim
    | p :: _ :: _, _, h => cases p <;> exact h.elim
    | [p], hp, h =>
      obtain ⟨v, rfl, hv⟩ := reps1 hp
      cases hv with
      | str x =>
        simp only [biV] at h
        split at h
        · exact .inl ⟨x, rfl, by assumption, h.here R (.int _)⟩
        · exact h.elim
      | @lsv a vs ps e q => exact .inr ⟨a, vs, rfl, .inl e.seq, by rw [q.length]; exact h.here R (.int _)⟩
      | @tup a vs ps e q => exact .inr ⟨a, vs, rfl, .inr e, by rw [q.length]; exact h.here R (.int _)⟩
      | @loc a i e =>
        obtain ⟨xs, vs, e1, e2, q⟩ := R.cell e
        simp only [biV, seqA, e1] at h
        exact .inr ⟨a, vs, rfl, .inl (.of e2), by rw [q.length]; exact h.here R (.int _)⟩
      | _ => exact h.elim
  | abs =>
    refine callr_imp call_abs fun xs H Q h => ?_
    obtain ⟨B, r, st, ps, R, hp, h⟩ := h
    match ps, hp, h with
    | [], _, h => exact h.elim
    | p :: _ :: _, _, h => cases p <;> exact h.elim
    | [p], hp, h =>
      obtain ⟨v, rfl, hv⟩ := reps1 hp
      cases hv with
      | int i => exact ⟨i, rfl, h.here R (.int _)⟩
      | _ => exact h.elim
  | max2 =>
    have hh : hot = false := hf.elim id fun z => by cases z
    refine callr_imp (CallR.or (call_max2 (C.calm hh)) (call_max2D n C hh)) fun xs H Q h => ?_
    obtain ⟨B, r, st, ps, R, hp, h⟩ := h
    match ps, hp, h with
    | [], _, h => exact h.elim
    | [p], _, h => cases p <;> exact h.elim
    | p :: q :: _ :: _, _, h => cases p <;> first | exact h.elim | (cases q <;> exact h.elim)
    | [p, q], hp, h =>
      obtain ⟨v, u, rfl, hv, hq⟩ := reps2 hp
      cases p <;> first | (cases q <;> exact h.elim) | skip
      · cases q <;> first | exact h.elim | skip
        cases hv
        cases hq
        exact .inl ⟨_, _, rfl, h.here R (.int _)⟩
      · cases q <;> first | exact h.elim | skip
        rename_i xs ys
        refine .inr ?_
        simp only [biV] at h
        unfold ltP at h
        split at h
        · rename_i b hb
          split at hb
          · rename_i c
            cases hb
            simp only [alikeP, Bool.and_eq_true, decide_eq_true_eq] at c
            obtain ⟨⟨⟨⟨⟨⟨⟨c1, c2⟩, c3⟩, c4⟩, c5⟩, c6⟩, c7⟩, c8⟩ := c
            refine ⟨v, u, (PV.tup xs).toD, (PV.tup ys).toD, rfl, hv.dp c1, hq.dp c2, ⟨fun x hx y hy => ?_, fun x hx => ?_⟩, ⟨c7, c8⟩, ?_⟩
            · simp only [List.mem_cons, List.not_mem_nil, or_false] at hx hy
              rcases hx with rfl | rfl <;> rcases hy with rfl | rfl <;> assumption
            · simp only [List.mem_cons, List.not_mem_nil, or_false] at hx
              rcases hx with rfl | rfl <;> exact fun z => (nomatch z)
            · split at h
              · rename_i k
                rw [if_pos k]; exact h.here R hq
              · rename_i k
                rw [if_neg k]; exact h.here R hv
          · cases hb
        · exact h.elim
  | min2 =>
    have hh : hot = false := hf.elim id fun z => by cases z
    refine callr_imp (CallR.or (call_min2 (C.calm hh)) (call_min2D n C hh)) fun xs H Q h => ?_
    obtain ⟨B, r, st, ps, R, hp, h⟩ := h
    match ps, hp, h with
    | [], _, h => exact h.elim
    | [p], _, h => cases p <;> exact h.elim
    | p :: q :: _ :: _, _, h => cases p <;> first | exact h.elim | (cases q <;> exact h.elim)
    | [p, q], hp, h =>
      obtain ⟨v, u, rfl, hv, hq⟩ := reps2 hp
      cases p <;> first | (cases q <;> exact h.elim) | skip
      · cases q <;> first | exact h.elim | skip
        cases hv
        cases hq
        exact .inl ⟨_, _, rfl, h.here R (.int _)⟩
      · cases q <;> first | exact h.elim | skip
        rename_i xs ys
        refine .inr ?_
        simp only [biV] at h
        unfold ltP at h
        split at h
        · rename_i b hb
          split at hb
          · rename_i c
            cases hb
            simp only [alikeP, Bool.and_eq_true, decide_eq_true_eq] at c
            obtain ⟨⟨⟨⟨⟨⟨⟨c1, c2⟩, c3⟩, c4⟩, c5⟩, c6⟩, c7⟩, c8⟩ := c
            refine ⟨v, u, (PV.tup xs).toD, (PV.tup ys).toD, rfl, hv.dp c2, hq.dp c1, ⟨fun x hx y hy => ?_, fun x hx => ?_⟩, ⟨c8, c7⟩, ?_⟩
            · simp only [List.mem_cons, List.not_mem_nil, or_false] at hx hy
              rcases hx with rfl | rfl <;> rcases hy with rfl | rfl <;> assumption
            · simp only [List.mem_cons, List.not_mem_nil, or_false] at hx
              rcases hx with rfl | rfl <;> exact fun z => (nomatch z)
            · split at h
              · rename_i k
                rw [if_pos k]; exact h.here R hq
              · rename_i k
                rw [if_neg k]; exact h.here R hv
          · cases hb
        · exact h.elim
  | maxl =>
    have hh : hot = false := hf.elim id fun z => by cases z
    refine callr_imp (cr_max (C.calm hh)) fun xs H Q h => ?_
    obtain ⟨B, r, st, ps, R, hp, h⟩ := h
    match ps, hp, h with
    | [], _, h => exact h.elim
    | p :: _ :: _, _, h => exact h.elim
    | [p], hp, h =>
      obtain ⟨v, rfl, hv⟩ := reps1 hp
      simp only [biV] at h
      split at h
      · rename_i k ks e
        rw [Option.bind_eq_some_iff] at e
        obtain ⟨ys, e1, e2⟩ := e
        obtain ⟨a, vs, rfl, s1, q1⟩ := hv.seqL R e1
        have e3 := reps_ints q1 e2
        subst e3
        refine ⟨a, k :: ks, rfl, s1, by simp, fun m h1 h2 => ?_⟩
        rw [foldl_max ks k m h1 h2]
        exact h.here R (.int _)
      · exact h.elim
  | minl =>
    have hh : hot = false := hf.elim id fun z => by cases z
    refine callr_imp (CallR.or (cr_min (C.calm hh)) (call_minL n C hh)) fun xs H Q h => ?_
    obtain ⟨B, r, st, ps, R, hp, h⟩ := h
    match ps, hp, h with
    | [], _, h => exact h.elim
    | p :: _ :: _, _, h => exact h.elim
    | [p], hp, h =>
      obtain ⟨v, rfl, hv⟩ := reps1 hp
      simp only [biV] at h
      split at h
      · refine .inl ?_
        rename_i k ks e
        rw [Option.bind_eq_some_iff] at e
        obtain ⟨ys, e1, e2⟩ := e
        obtain ⟨a, vs, rfl, s1, q1⟩ := hv.seqL R e1
        have e3 := reps_ints q1 e2
        subst e3
        refine ⟨a, k :: ks, rfl, s1, by simp, fun m h1 h2 => ?_⟩
        rw [foldl_min ks k m h1 h2]
        exact h.here R (.int _)
      · refine .inr ?_
        split at h
        · rename_i x ys e1
          split at h
          · rename_i al
            obtain ⟨a, vs, rfl, s1, q1⟩ := hv.seqL R e1
            unfold alikeL at al
            rw [List.all_eq_true] at al
            have al : ∀ z ∈ x :: ys, (z.data = true ∧ z.toD.depth ≤ 64) ∧ z ≠ .non ∧ ∀ y ∈ x :: ys, PySem.W.alike z.toD y.toD = true := fun z hz => by
              have q := al z hz
              simp only [Bool.and_eq_true, decide_eq_true_eq, List.all_eq_true] at q
              exact ⟨q.1.1, fun e => by rw [e] at q; exact absurd q.1.2 (by simp), q.2⟩
            have da : dataAll (x :: ys) = true := by
              have : ∀ l : List PV, (∀ z ∈ l, z.data = true) → dataAll l = true := by
                intro l
                induction l with
                | nil => intro _; rfl
                | cons z l ih => intro hz; rw [dataAll, hz z List.mem_cons_self, ih fun y hy => hz y (List.mem_cons_of_mem _ hy)]; rfl
              exact this _ fun z hz => (al z hz).1.1
            have dp := Reps.dp q1 da
            have tm := toDs_map2 (x :: ys)
            have tm2 := toDs_map2 ys
            have ne : ∀ z : PV, z.data = true → z ≠ .non → z.toD ≠ .none := fun z h1 h2 h3 => by
              cases z <;> first | (cases h1; done) | (exact h2 rfl) | (cases h3)
            refine ⟨a, vs, x.toD, toDs ys, rfl, s1, dp, ⟨?_, ?_⟩, ?_, ?_⟩
            · intro d hd e he
              have hd : d ∈ toDs (x :: ys) := hd
              have he : e ∈ toDs (x :: ys) := he
              rw [tm] at hd he
              obtain ⟨z, hz, rfl⟩ := List.mem_map.mp hd
              obtain ⟨y, hy, rfl⟩ := List.mem_map.mp he
              exact (al z hz).2.2 y hy
            · intro d hd
              have hd : d ∈ toDs (x :: ys) := hd
              rw [tm] at hd
              obtain ⟨z, hz, rfl⟩ := List.mem_map.mp hd
              exact ne z (al z hz).1.1 (al z hz).2.1
            · have : ∀ l : List PV, (∀ z ∈ l, z.toD.depth ≤ 64) → PyData.depthAll (toDs l) ≤ 64 := by
                intro l
                induction l with
                | nil => intro _; exact Nat.zero_le _
                | cons z l ih => intro hz; exact Nat.max_le.mpr ⟨hz z List.mem_cons_self, ih fun y hy => hz y (List.mem_cons_of_mem _ hy)⟩
              exact this (x :: ys) fun z hz => (al z hz).1.2
            · intro i v e2 e3
              obtain ⟨p, e4, e5⟩ := Reps.get q1 e2
              have e6 : (toDs (x :: ys))[i]? = some (PySem.W.minD x.toD (toDs ys)) := e3
              rw [tm, List.getElem?_map, e4, tm2, ← least_toD] at e6
              have e6 : p.toD = (leastP x ys).toD := Option.some.inj e6
              have mp : p ∈ x :: ys := List.mem_of_getElem? e4
              have := toD_inj (al p mp).1.1 (al _ (least_mem ys x)).1.1 e6
              subst this
              exact h.here R e5
          · exact h.elim
        · exact h.elim
  | sum =>
    have hh : hot = false := hf.elim id fun z => by cases z
    refine callr_imp (cr_sum (C.calm hh)) fun xs H Q h => ?_
    obtain ⟨B, r, st, ps, R, hp, h⟩ := h
    match ps, hp, h with
    | [], _, h => exact h.elim
    | p :: _ :: _, _, h => exact h.elim
    | [p], hp, h =>
      obtain ⟨v, rfl, hv⟩ := reps1 hp
      simp only [biV] at h
      split at h
      · rename_i ks e
        rw [Option.bind_eq_some_iff] at e
        obtain ⟨ys, e1, e2⟩ := e
        obtain ⟨a, vs, rfl, s1, q1⟩ := hv.seqL R e1
        have e3 := reps_ints q1 e2
        subst e3
        exact ⟨a, ks, rfl, s1, h.here R (.int _)⟩
      · exact h.elim
  | any =>
    have hh : hot = false := hf.elim id fun z => by cases z
    refine callr_imp (cr_any (C.calm hh)) fun xs H Q h => ?_
    obtain ⟨B, r, st, ps, R, hp, h⟩ := h
    match ps, hp, h with
    | [], _, h => exact h.elim
    | p :: _ :: _, _, h => exact h.elim
    | [p], hp, h =>
      obtain ⟨v, rfl, hv⟩ := reps1 hp
      simp only [biV] at h
      split at h
      · rename_i ks e
        rw [Option.bind_eq_some_iff] at e
        obtain ⟨ys, e1, e2⟩ := e
        obtain ⟨a, vs, rfl, s1, q1⟩ := hv.seqL R e1
        have e3 := reps_bls q1 e2
        subst e3
        exact ⟨a, ks, rfl, s1, h.here R (.bl _)⟩
      · exact h.elim
  | all =>
    have hh : hot = false := hf.elim id fun z => by cases z
    refine callr_imp (cr_all (C.calm hh)) fun xs H Q h => ?_
    obtain ⟨B, r, st, ps, R, hp, h⟩ := h
    match ps, hp, h with
    | [], _, h => exact h.elim
    | p :: _ :: _, _, h => exact h.elim
    | [p], hp, h =>
      obtain ⟨v, rfl, hv⟩ := reps1 hp
      simp only [biV] at h
      split at h
      · rename_i ks e
        rw [Option.bind_eq_some_iff] at e
        obtain ⟨ys, e1, e2⟩ := e
        obtain ⟨a, vs, rfl, s1, q1⟩ := hv.seqL R e1
        have e3 := reps_bls q1 e2
        subst e3
        exact ⟨a, ks, rfl, s1, h.here R (.bl _)⟩
      · exact h.elim
  | int =>
    refine callr_imp call_int1 fun xs H Q h => ?_
    obtain ⟨B, r, st, ps, R, hp, h⟩ := h
    match ps, hp, h with
    | [], _, h => exact h.elim
    | p :: _ :: _, _, h => cases p <;> exact h.elim
    | [p], hp, h =>
      obtain ⟨v, rfl, hv⟩ := reps1 hp
      cases hv with
      | int i => exact .inl ⟨i, rfl, h.here R (.int _)⟩
      | bl b => exact .inr ⟨b, rfl, h.here R (.int _)⟩
      | _ => exact h.elim
  | tuple =>
    refine callr_imp call_tuple_of fun xs H Q h => ?_
    obtain ⟨B, r, st, ps, R, hp, h⟩ := h
    match ps, hp, h with
    | [], _, h => exact h.elim
    | p :: _ :: _, _, h => cases p <;> exact h.elim
    | [p], hp, h =>
      obtain ⟨v, rfl, hv⟩ := reps1 hp
      cases hv with
      | @lsv a vs ps e q => exact ⟨a, vs, rfl, .inl ⟨e.seq, h.tup R q⟩⟩
      | @tup a vs ps e q => exact ⟨a, vs, rfl, .inr ⟨e, h.here R (.tup e q)⟩⟩
      | @loc a i e =>
        obtain ⟨xs, vs, e1, e2, q⟩ := R.cell e
        simp only [biV, seqL, e1] at h
        exact ⟨a, vs, rfl, .inl ⟨.of e2, h.tup R q⟩⟩
      | _ => exact h.elim
  | list =>
    refine callr_imp call_list_of fun xs H Q h => ?_
    obtain ⟨B, r, st, ps, R, hp, h⟩ := h
    match ps, hp, h with
    | [], _, h => exact h.elim
    | p :: _ :: _, _, h => exact h.elim
    | [p], hp, h =>
      obtain ⟨v, rfl, hv⟩ := reps1 hp
      simp only [biV] at h
      split at h
      · rename_i ys e1
        obtain ⟨a, vs, rfl, s1, q1⟩ := hv.seqA R e1
        exact ⟨a, vs, rfl, s1, h.lst R q1⟩
      · exact h.elim
  | repr =>
    refine callr_imp (call_reprD n C) fun xs H Q h => ?_
    obtain ⟨B, r, st, ps, R, hp, h⟩ := h
    match ps, hp, h with
    | [], _, h => exact h.elim
    | p :: _ :: _, _, h => exact h.elim
    | [p], hp, h =>
      obtain ⟨v, rfl, hv⟩ := reps1 hp
      simp only [biV] at h
      split at h
      · rename_i c
        exact ⟨v, _, rfl, hv.dp c.1, c.2.1, c.2.2.1, c.2.2.2, h.here R (.str _)⟩
      · exact h.elim
  | divmod =>
    refine callr_imp call_divmod fun xs H Q h => ?_
    obtain ⟨B, r, st, ps, R, hp, h⟩ := h
    match ps, hp, h with
    | [], _, h => exact h.elim
    | [p], _, h => cases p <;> exact h.elim
    | p :: q :: _ :: _, _, h => cases p <;> first | exact h.elim | (cases q <;> exact h.elim)
    | [p, q], hp, h =>
      obtain ⟨v, u, rfl, hv, hq⟩ := reps2 hp
      cases p <;> first | (cases q <;> exact h.elim) | skip
      cases q <;> first | exact h.elim | skip
      cases hv
      cases hq
      simp only [biV] at h
      split at h
      · rename_i c
        exact ⟨_, _, rfl, c, h.tup R (.cons (.int _) (.cons (.int _) .nil))⟩
      · exact h.elim
end
theorem ext_any (T : String) (hT : T = "list" ∨ T = "tuple") (l : Addr) (xs : Array Value) (n : Nat) (b : Addr) (ys : Array Value) (m : Nat) (dd : Option Addr) (sl : Array (Option Value))
    (h0 : ¬(!xs.isEmpty && Builtin.List.listTooLong (xs.size + ys.size)) = true) (h1 : xs.size ≤ sizeLine) (h2 : xs.size + ys.size ≤ sizeLine + 1) :
    Meets (Builtin.«list.extend» ⟨[.ref l, .ref b], []⟩) (fun _ R s =>
      s.heap.get? l = some { cls := .type "list", dict := none, data := .seq xs n, slots := #[] } ∧
      s.heap.get? b = some { cls := .type T, dict := dd, data := .seq ys m, slots := sl } ∧
      R (.ok (.ret Value.none)) { s with heap := s.heap.update l (Obj.mapSeq fun x => x ++ ys), toks := s.toks }) := by
  refine .of_wp fun prog w A R s h => ?_
  obtain ⟨hp, g, d, tk, os⟩ := s
  obtain ⟨hl, hb, h⟩ := h
  have q1 := AutoSeq1.idx_int
  have q2 := AutoSeq1.sub_tuple_tuple
  have q3 := AutoSeq1.sub_list_list
  have q4 := AutoSeq1.sub_tuple_list
  have q5 := AutoSeq1.sub_list_tuple
  have hz : (xs ++ ys).size ≤ sizeLine + 1 := by
    rw [Array.size_append]; exact h2
  rcases hT with rfl | rfl
  · wp_walk using (PySem.wpAny_updateSeq hl rfl (hz := h1) (_hz' := hz)), AutoSeq1.wpAny_loadPart' hl, AutoSeq1.wpAny_loadPart' hb
    exact ⟨_, rfl, h⟩
  · wp_walk using (PySem.wpAny_updateSeq hl rfl (hz := h1) (_hz' := hz)), AutoSeq1.wpAny_loadPart' hl, AutoSeq1.wpAny_loadPart' hb
    exact ⟨_, rfl, h⟩
section
variable {X : Cx} {F : List Addr}
theorem mt_extS : MtR X "list.extend" (fun x vs H Q => ∃ l b xs zs, x = .ref l ∧ vs = [.ref b] ∧ H l = some (.lst xs) ∧ (SqL X.K H b zs ∨ SqT X.K H b zs) ∧ xs.length + zs.length ≤ sizeLine ∧ Q .non (upd H l (.lst (xs ++ zs)))) := by
  intro pins s σ H x vs v us Q I rx rv h
  obtain ⟨l, b, xs, zs, rfl, rfl, hH, hB, hz, q⟩ := h
  cases rx
  obtain ⟨u, rfl, ru⟩ := rv.one
  cases ru
  obtain ⟨z, its, n, r, hl, e⟩ := I.lstM hH
  have big : ∀ k : Nat, its.toArray.size + k ≤ sizeLine → ¬ (!its.toArray.isEmpty && Builtin.List.listTooLong (its.toArray.size + k)) = true := by
    intro k hk
    rw [notLongL hk, Bool.and_false]
    exact Bool.false_ne_true
  have done : ∀ (T : String) (ws : List Value) (dd : Option Addr) (m : Nat) (sl : Array (Option Value)), T = "list" ∨ T = "tuple" → Vals zs ws → s.heap.get? b = some { cls := .type T, dict := dd, data := .seq ws.toArray m, slots := sl } →
      wpAny (model X.prog X.w) X.A (call (.builtin "list.extend") [.ref l, .ref b]) (EP X pins σ Q) X.xe s := by
    intro T ws dd m sl hT r2 g2
    have hl2 := r2.length
    have hz2 : its.toArray.size + ws.toArray.size ≤ sizeLine := by rw [List.size_toArray, List.size_toArray]; omega
    refine call_meets F.slot_list_extend ⟨_, e, rfl⟩ F.entry_list_extend (F.args_list_extend_2 _ _)
      (ext_any T hT l its.toArray n b ws.toArray m dd sl (big _ hz2) (by omega) (by omega)) ⟨e, g2, ?_⟩
    exact ⟨.non, _, I.lset (its' := its ++ ws) hH e (by simp) (r.append r2) (by rw [List.length_append]; omega), rfl, q⟩
  rcases hB with hB | hB
  · obtain ⟨ws, r2, ⟨⟨c2, d2, t2, s2⟩, n2, g2, rfl, rfl, rfl⟩, _⟩ := I.list hB
    exact done "list" ws none n2 s2 (.inl rfl) r2 g2
  · obtain ⟨ws, r2, ⟨⟨c2, d2, t2, s2⟩, g2, rfl, n2, rfl⟩, _⟩ := I.tuple hB
    exact done "tuple" ws d2 n2 s2 (.inr rfl) r2 g2
def meId : Me → String
  | .append => "list.append" | .extend => "list.extend" | .pop => "list.pop"
def meName : Me → Str
  | .append => "append" | .extend => "extend" | .pop => "pop"
def rMe (K : PySem.W.Frag) (F : List Addr) (m : Me) : V → List V → Hp → VK → Prop := fun x vs H Q => ∃ B r st i a ps, x = .ref a ∧ Rel K F H r st ∧ r[i]? = some a ∧ Reps K F H r vs ps ∧ Post K F B r H Q (meV m st i ps)
theorem mtr_imp {id : String} {r r' : V → List V → Hp → VK → Prop} (h : MtR X id r) (i : ∀ x xs H Q, r' x xs H Q → r x xs H Q) : MtR X id r' :=
  fun pins s σ H x xs v us Q I rx rs q => h pins s σ H x xs v us Q I rx rs (i _ _ _ _ q)
theorem mt_me (m : Me) : MtR X (meId m) (rMe X.K F m) := by
  cases m with
  | append =>
    refine mtr_imp (r := rAppend) mt_append fun x vs H Q h => ?_
    obtain ⟨B, r, st, i, a, ps, rfl, R, ha, hp, h⟩ := h
    obtain ⟨xs, ws, e1, e2, q⟩ := R.cell ha
    match ps, hp, h with
    | [], _, h => simp only [meV, e1] at h; exact h.elim
    | p :: _ :: _, _, h => simp only [meV, e1] at h; exact h.elim
    | [p], hp, h =>
      obtain ⟨v, rfl, hv⟩ := reps1 hp
      simp only [meV, e1] at h
      split at h
      · rename_i hz
        have q2 : Reps X.K F H r (ws ++ [v]) (xs ++ [p]) := q.append (.cons hv .nil)
        exact ⟨a, ws, v, rfl, rfl, e2, by rw [q.length]; exact hz, h _ _ r (.write (List.mem_of_getElem? ha)) (R.write ha q2) .non⟩
      · exact h.elim
  | extend =>
    refine mtr_imp mt_extS fun x vs H Q h => ?_
    obtain ⟨B, r, st, i, a, ps, rfl, R, ha, hp, h⟩ := h
    obtain ⟨xs, ws, e1, e2, q⟩ := R.cell ha
    match ps, hp, h with
    | [], _, h => simp only [meV, e1] at h; exact h.elim
    | p :: _ :: _, _, h => simp only [meV, e1] at h; exact h.elim
    | [p], hp, h =>
      obtain ⟨v, rfl, hv⟩ := reps1 hp
      simp only [meV, e1] at h
      split at h
      · rename_i zs e3
        split at h
        · rename_i hz
          obtain ⟨b, us, rfl, s1, q1⟩ := hv.seqA R e3
          refine ⟨a, b, ws, us, rfl, rfl, e2, s1, by rw [q.length, q1.length]; exact hz, ?_⟩
          exact h _ _ r (.write (List.mem_of_getElem? ha)) (R.write ha (q.append q1)) .non
        · exact h.elim
      · exact h.elim
  | pop =>
    refine mtr_imp (r := rPop) mt_pop fun x vs H Q h => ?_
    obtain ⟨B, r, st, i, a, ps, rfl, R, ha, hp, h⟩ := h
    obtain ⟨xs, ws, e1, e2, q⟩ := R.cell ha
    match ps, hp, h with
    | _ :: _, _, h => simp only [meV, e1] at h; exact h.elim
    | [], hp, h =>
      cases hp
      simp only [meV, e1] at h
      split at h
      · rename_i y e3
        obtain ⟨v, e4, hv⟩ := q.get2 e3
        have A : Aft r H r (upd H a (.lst ws.dropLast)) := .write (List.mem_of_getElem? ha)
        exact ⟨a, ws, v, rfl, rfl, e2, by rw [q.length]; exact e4, h _ _ r A (R.write ha q.dropLast) (hv.aft R A)⟩
      · exact h.elim
end
end L2.Iv
namespace L2.Iv
open PySem PySem.Spec PyProof.Rows
structure KitC (K : PySem.W.Frag) (C : Addr) : Prop where
  cl : (PySem.W.clsIn K C).isSome = true
  ga : PySem.W.findIn K (.ref C) "__getattribute__" = some (some (.builtin "BaseException.__getattribute__"))
  gg : PySem.W.findIn K (.ref C) "__getattr__" = some none
  ex : PySem.W.subIn K (.ref C) (.type "BaseException") = some true
  hd : PySem.W.hasDictIn K C = true
  ca : PySem.W.findIn K (.ref C) "__class__" = some (some (.builtin "object.__class__"))
  cg : PySem.W.specialIn K (.builtin "object.__class__") "__get__" = some (some (.builtin "getset_descriptor.__get__"))
  ct : PySem.W.takesIn K (.builtin "object.__class__") = some true
  mo : PySem.W.mroIn K C (.type "object") = some true
  nv : PySem.W.findIn K (.ref C) "value" = some none
section
variable {X : Cx} {pins : List (Addr × Obj)} {σ : St} {H : Hp} {s : Shared} {a C dd : Addr}
theorem exc_at (I : Inv X pins σ H s) (h : H a = some (.ext (excP a C dd))) : ∃ o, s.heap.get? a = some o ∧ L2N.Zn (.ref C) (some dd) o ∧ ∃ vs, o.data = .fields vs := by
  obtain ⟨h1, _⟩ : ObjOk X.prog X.w H s.heap a (.ext (excP a C dd)) := I.hok a _ h
  exact h1
theorem exc_inst {fs : List (Str × V)} (I : Inv X pins σ H s) (h : H a = some (.ext (excP a C dd))) (hx : H dd = some (.xd fs)) : ∃ o od, PySem.W.InstAt s.heap a o C (some od) ∧ ∀ f, RelO (fs.lookup f) (((PySem.W.lookIn f od).getD none)) ∧ (PySem.W.lookIn f od).isSome = true := by
  obtain ⟨o, ho, hz, vs, hv⟩ := exc_at I h
  obtain ⟨mA, hns, hr⟩ : ObjOk X.prog X.w H s.heap dd (.xd fs) := I.hok dd _ hx
  obtain ⟨od, hod, hl⟩ := lookIn_ns hns
  refine ⟨o, od, ⟨ho, hz.1, by unfold PySem.W.notCls; rw [hv] <;> rfl, by rw [hz.2.1]; exact hod⟩, fun f => ?_⟩
  rw [hl f]
  exact ⟨hr f, rfl⟩
def tFv (K : PySem.W.Frag) (te : TE) : TE := fun σ H Q => te σ H fun x H1 => ∃ (a C dd : Addr) (v : V), x = .ref a ∧ H1 a = some (.ext (excP a C dd)) ∧ H1 dd = some (.xd [("value", v)]) ∧ KitC K C ∧ Q v H1
theorem pe_fv {e : Expr} {te : TE} {pos : Pos} (he : PE X e te) (hb : attributeBase e "value" X.env (eval e X.env) = eval e X.env) : PE X (.Attribute e "value" pos) (tFv X.K te) := by
  refine ⟨fun pins s σ H Q I h => attr_of hb (thn (he.run pins s σ H _ I h) fun u s1 hh => ?_)⟩
  obtain ⟨x, H1, I1, rx, a, C, dd, v, rfl, h1, h2, T, q⟩ := hh
  obtain rfl : u = Value.ref a := rx
  obtain ⟨o, od, J, hl⟩ := exc_inst I1 h1 h2
  obtain ⟨hl1, hl2⟩ := hl "value"
  obtain ⟨r, hr⟩ := Option.isSome_iff_exists.mp hl2
  rw [hr] at hl1
  have hl1 : RelO (some v) r := hl1
  cases r with
  | none => exact hl1.elim
  | some w =>
    have rv : RelV v w := hl1
    exact HandSPX.exc_get I1.kIn J T.ga T.gg T.ex (PySem.W.findObj_own T.hd T.nv rfl (by first | exact hr | (rw [hr]))) (handed_of rv) ⟨v, H1, I1.tok _, rv, q⟩
def rIse (K : PySem.W.Frag) : List V → Hp → VK → Prop := fun xs H Q => ∃ (x c : V) (u : Value) (b : Bool), xs = [x, c] ∧ ClsV c u ∧ Q (.bl b) H ∧
  ((x = .non ∧ PySem.W.kitOne K (.type "NoneType") u = some b) ∨ ∃ (a C dd : Addr) (fs : List (Str × V)), x = .ref a ∧ H a = some (.ext (excP a C dd)) ∧ H dd = some (.xd fs) ∧ KitC K C ∧ PySem.W.kitOne K (.ref C) u = some b)
theorem call_ise : CallR X (.builtin "isinstance") (rIse X.K) := by
  intro pins s σ H xs us Q I r h
  obtain ⟨x, c, u, b, rfl, hc, q, h⟩ := h
  obtain ⟨u1, u2, rfl, r1, r2⟩ := vals2 r
  have e2 := hc.eq r2
  subst e2
  rcases h with ⟨rfl, hk⟩ | ⟨a, C, dd, fs, rfl, h1, h2, T, hk⟩
  · cases (show u1 = Value.none from r1)
    exact PySem.W.kia_one PySem.W.kitx_none I.kIn True.intro hk (fun z => nomatch z) fun tk => ⟨.bl b, H, I.tok tk, rfl, q⟩
  · cases (show u1 = Value.ref a from r1)
    obtain ⟨o, od, J, _⟩ := exc_inst I h1 h2
    exact PySem.W.kia_one (PySem.W.kitx_exc T.cl T.ga T.gg T.ex T.ca T.cg T.ct T.mo) I.kIn J hk (fun z => nomatch z) fun tk => ⟨.bl b, H, I.tok tk, rfl, q⟩
theorem Inv.track {oe : Obj} (I : Inv X pins σ H s) (hg : s.heap.get? a = some oe) (hz : L2N.Zn (.ref C) (some dd) oe) (hf : ∃ vs, oe.data = .fields vs) (na : H a = none) (n0 : X.s_0.heap.get? a = none) (nl : a ≠ X.env.locals) (np : ∀ p ∈ X.pn ++ pins, p.1 ≠ a) :
    Inv X pins σ (upd H a (.ext (excP a C dd))) s := by
  have old : ∀ {b : Addr} {o : HO}, H b = some o → upd H a (.ext (excP a C dd)) b = some o := fun {b o} e => by rw [upd_ne (ne_of_none e na)]; exact e
  have off : ∀ {b : Addr}, b ≠ a → H b = none → upd H a (.ext (excP a C dd)) b = none := fun {b} n e => by rw [upd_ne n]; exact e
  refine ⟨I.ok, I.os, I.bare, ⟨I.base.keep, I.base.slot, fun b o e n hx => ?_, I.base.there, fun b xs e => old (I.base.tups b xs e), fun b o u e => old (I.base.frzs b o u e), fun b ps e => ?_⟩, I.loc, I.cell, off (Ne.symm nl) I.free, fun x c e => ?_, fun p hp => ?_, fun b o e => ?_, I.len⟩
  · refine off (fun z => ?_) (I.base.free b o e n hx)
    rw [z, n0] at e; cases e
  · obtain ⟨more, q⟩ := I.base.tbls b ps e
    exact ⟨more, old q⟩
  · refine off (fun z => ?_) (I.freeC x c e)
    obtain ⟨w, hw⟩ := I.cell x c e
    obtain ⟨vs, hv⟩ := hf
    obtain ⟨oc, h1, h2⟩ := hw
    rw [z, hg] at h1
    cases h1
    have h2 : oe.data = .cell w := h2
    rw [hv] at h2; cases h2
  · obtain ⟨q1, q2, q3⟩ := I.pin p hp
    exact ⟨q1, off (np p hp) q2, q3⟩
  · by_cases hb : b = a
    · subst hb
      rw [upd_same] at e
      cases e
      exact ⟨⟨oe, hg, hz, hf⟩, ⟨oe, hg⟩, fun h1 h2 ⟨o, w1, w2⟩ k => ⟨o, k o w1, w2⟩⟩
    · rw [upd_ne hb] at e
      exact (I.hok b o e).stay (fun _ _ _ q => q) (fun c q => old q) fun c xs q => old q
end
theorem hot_at {X : Cx} {pins : List (Addr × Obj)} {σ : St} {H : Hp} {s : Shared} {a C dd : Addr} (hA : X.A.handled = some (.ref a)) (I : Inv X pins σ H s) (h : H a = some (.ext (excP a C dd))) : HotX.HotAt X.A a s.heap := by
  obtain ⟨o, ho, hz, vs, hv⟩ := exc_at I h
  exact ⟨hA, o, vs, ho, hv, hz.2.2 vs hv⟩
theorem ps_parH {X : Cx} {c : Addr} (hA : X.A.handled = some (.ref c)) {i j : Nat} {x y : Str} {a b : Expr} {ta : TA} {px py pt pos : Pos} {kt k2 pt2} (hN : X.N.Nodup) (hi : X.N[i]? = some x) (hj : X.N[j]? = some y) (hij : i ≠ j)
    (hx : X.env.scope.names.lookup x = some .local) (hy : X.env.scope.names.lookup y = some .local) (ha : PA X [a, b] ta)
    (hw : swappedStores [.Tuple [.Name x px, .Name y py] kt pt] (.Tuple [a, b] k2 pt2) X.env = pure (some [x, y]))
    (hs : swapsWithSole [.Tuple [.Name x px, .Name y py] kt pt] (.Tuple [a, b] k2 pt2) pos.line X.env = pure false := by rfl) :
    PS X (.Assign [.Tuple [.Name x px, .Name y py] kt pt] (.Tuple [a, b] k2 pt2) pos) (fun D σ H => ta σ H fun vs H1 => (∃ C dd : Addr, H1 c = some (.ext (excP c C dd))) ∧ ∃ v w, vs = [v, w] ∧ D.nx ((σ.set i (some v)).set j (some w)) H1) := by
  refine ⟨fun pins s σ H D I h => ?_⟩
  rw [exec_Assign_arm]
  refine wpAny_bind (wpAny_standAt ?_)
  rw [hs]
  refine wpAny_bind (wpAny_pure ?_)
  rw [if_neg (by decide)]
  refine wpAny_bind (Tuple_ (thn (ha.run _ pins s σ H _ I h) fun us s1 hh => ?_))
  obtain ⟨_, H1, I1, r1, ⟨C, dd, hc⟩, v, w, rfl, q1⟩ := hh
  cases r1 with
  | @cons _ u1 _ us' rv r2 =>
    cases r2 with
    | @cons _ u2 _ us'' rw' r3 =>
      cases r3
      refine wpAny_newObj_type ?_ (by show 2 ≤ sizeLine; decide)
      have I2 : Inv X pins σ H1 { s1 with heap := s1.heap.push { cls := .type "tuple", data := .seq [u1, u2].toArray } } := I1.kept (t' := s1.toks) fun b o e => Heap.get?_push_of_some _ e
      rw [hw]
      refine wpAny_bind (wpAny_pure ?_)
      show wpAny (model X.prog X.w) X.A (do rule "assign.swapped-stores"; let items ← unpackItems (.ref s1.heap.objs.size) 2 none; assignInOrder [fun v => bindName X.env y v, fun v => bindName X.env x v] items.reverse; pure Flow.next) _ _ _
      refine wpAny_bind (wpAny_rule (wpAny_bind (unpackItems_tuple_hot (items := #[u1, u2]) (hot_at hA I2 hc) (IsTup.new s1.heap _) fun h' hx' => ?_)))
      have I3 := I2.kept (h' := h') (t' := s1.toks) fun b o e => hx' b o (Nat.ne_of_lt (Heap.lt_size e)) e
      show wpAny _ _ (assignInOrder [fun v => bindName X.env y v, fun v => bindName X.env x v] [u2, u1] >>= fun _ => pure Flow.next) _ _ _
      refine wpAny_bind (assignInOrder_cons (wpAny_bindName (store_ok I3 hN hj (.inl hy) rw' (fun s2 I4 => ?_) (.inr hy))))
      refine assignInOrder_cons (wpAny_bindName (store_ok I4 hN hi (.inl hx) rv (fun s3 I5 => assignInOrder_nil (wpAny_pure ?_)) (.inr hx)))
      rw [List.set_comm _ _ (Ne.symm hij)] at I5
      exact ⟨_, H1, I5, q1⟩
def slotIn (i : Option Nat) (a : Addr) (σ : St) : St := match i with
  | some i => σ.set i (some (.ref a))
  | none => σ
def slotOut (i : Option Nat) (σ : St) : St := match i with
  | some i => σ.set i none
  | none => σ
def endsOut (i : Option Nat) (D : Ends) : Ends := { nx := fun σ' H' => D.nx (slotOut i σ') H', rt := D.rt, bk := fun σ' H' => D.bk (slotOut i σ') H', ct := fun σ' H' => D.ct (slotOut i σ') H' }
def wTry (K : PySem.W.Frag) (Wout : WX) (D : Ends) : List (Value × Option Nat × TS) → WX
  | [] => Wout
  | (c, i, ts) :: l => fun cls d σ H => ∃ b, PySem.W.exmOne K cls c = some b ∧ (b = false → wTry K Wout D l cls d σ H) ∧
      (b = true → ∃ C dd : Addr, cls = .ref C ∧ d = some dd ∧ ∀ a : Addr, H a = none → ts (endsOut i D) (slotIn i a σ) (upd H a (.ext (excP a C dd))))
def hotT (a : Addr) (ts : TS) : TS := fun D σ H => (∃ C dd : Addr, H a = some (.ext (excP a C dd))) ∧ ts D σ H
inductive Clauses (X : Cx) : List ExceptHandler → List (Value × Option Nat × TS) → Prop
  | nil : Clauses X [] []
  | bare {x : Str} {c : Value} {ts : TS} {b0 : Stmt} {bs : List Stmt} {p1 p2 : Pos} {hds : List ExceptHandler} {l : List (Value × Option Nat × TS)} (hc : Names X x c)
      (su : ∀ (a : Addr) (pn : List (Addr × Obj)), PSs (X.suite a pn) (b0 :: bs) (hotT a ts)) (more : Clauses X hds l) : Clauses X (.ExceptHandler (some (.Name x p1)) none (b0 :: bs) p2 :: hds) ((c, none, ts) :: l)
  | named {x n : Str} {i : Nat} {c : Value} {ts : TS} {b0 : Stmt} {bs : List Stmt} {p1 p2 : Pos} {hds : List ExceptHandler} {l : List (Value × Option Nat × TS)} (hc : Names X x c) (hi : X.N[i]? = some n) (hk : X.env.kindOf n = some .local)
      (su : ∀ (a : Addr) (pn : List (Addr × Obj)), PSs (X.suite a pn) (b0 :: bs) (hotT a ts)) (more : Clauses X hds l) : Clauses X (.ExceptHandler (some (.Name x p1)) (some n) (b0 :: bs) p2 :: hds) ((c, some i, ts) :: l)
section
variable {X : Cx} {pins : List (Addr × Obj)} {σ : St} {H : Hp} {s : Shared}
theorem toSuite (I : Inv X pins σ H s) (a : Addr) : Inv (X.suite a (X.pn ++ pins)) [] σ H s := by
  refine ⟨I.ok.suite a _, I.os, I.bare, I.base, I.loc, I.cell, I.free, I.freeC, fun p hp => I.pin p ?_, I.hok, I.len⟩
  rwa [List.append_nil] at hp
theorem ofSuite {a : Addr} {pn' : List (Addr × Obj)} (J : Inv (X.suite a (X.pn ++ pins)) pn' σ H s) (ok : X.Ok) : Inv X pins σ H s :=
  ⟨ok, J.os, J.bare, J.base, J.loc, J.cell, J.free, J.freeC, fun p hp => J.pin p (List.mem_append_left _ hp), J.hok, J.len⟩
end
section
variable {X : Cx} {tb : WX → TS} {Wout : WX} {body : List Stmt} {h0 : ExceptHandler} {hds : List ExceptHandler} {l : List (Value × Option Nat × TS)} {pos : Pos}
theorem ps_tryK (stk : X.stack = X.env :: X.outer) (fr : X.env.frame = some X.env.locals) (noex : X.ex = []) (nd : X.N.Nodup) (tk : L2N.Takes X Wout)
    (hbody : ∀ (W : WX) (pn : List (Addr × Obj)) (xe : Value → Shared → Prop), L2N.Takes (X.tr pn xe) W → PassesOwn (model X.prog X.w) X.A X.env xe → PSs (X.tr pn xe) body (tb W))
    (cl : Clauses X (h0 :: hds) l) : PS X (.Try body (h0 :: hds) [] [] pos) (fun D σ H => tb (wTry X.K Wout D l) D σ H) := by
  refine ⟨fun pins s σ H D I want => ?_⟩
  have ok := I.ok
  have frames : X.A.frames = some (X.env :: X.outer) := by rw [ok.frames, stk]
  refine wpAny_Try_except (wpAny_mono ((hbody (wTry X.K Wout D l) (X.pn ++ pins) _ (fun u s' air => ?_) PassesOwn.looking).run [] s σ H D (I.toTry _) want) (fun fl s1 done => ?_) (fun e s1 he => he))
  · obtain ⟨a, B, sI, pins2, σ2, H2, cls, d, rfl, J0, ground, up, sky, na, os, bare, wish⟩ := air
    have J := J0.ofTry ok
    rw [show (X.tr (X.pn ++ pins) _).stack = X.env :: X.outer from stk] at sky
    refine L2N.Sky.land L2N.Zn.steady frames fr sky fun h3 fly3 up3 => ?_
    have up3 := up.trans up3
    have J3 : Inv X pins σ2 H2 { s' with heap := h3 } := J.landed ground fly3.1 up3 os bare
    have apart : ∀ {h : Heap} {o : Obj} {vs : Array Value}, h.FunFrames B (X.env :: X.outer) → h.get? a = some o → o.data = .fields vs → a ∉ frs (X.env :: X.outer) := fun ff e e2 m => by
      obtain ⟨_, o2, e3, no⟩ := ff.mem m
      exact no _ (by rw [e] at e3; cases e3; exact e2)
    obtain ⟨oe3, vs3, at3, z3, f3⟩ := fly3.there
    have nfr := apart fly3.2.2.1 at3 f3
    have nL : a ≠ X.env.locals := fun z => nfr (List.mem_filterMap.mpr ⟨X.env, List.mem_cons_self, by rw [fr, z]⟩)
    have new1 : sI.heap.get? a = none := by
      cases e : sI.heap.get? a with
      | none => rfl
      | some o =>
        have z := ground a o e (by rw [stk]; exact nfr)
        rw [fly3.2.1] at z; cases z
    have new0 : X.s_0.heap.get? a = none := by
      cases e : X.s_0.heap.get? a with
      | none => rfl
      | some o =>
        obtain ⟨o2, z⟩ := J.base.there a o e (by rw [noex]; exact fun m => nomatch m)
        rw [new1] at z; cases z
    have npin : ∀ p ∈ X.pn ++ pins, p.1 ≠ a := fun p hp z => by
      have q := (J.pin p hp).1
      rw [z, new1] at q; cases q
    -- clause by clause
    suffices main : ∀ {hs : List ExceptHandler} {ls : List (Value × Option Nat × TS)}, Clauses X hs ls → wTry X.K Wout D ls cls d σ2 H2 → wpAny (model X.prog X.w) X.A (handleBy (.ref a) X.env hs) (SP X pins D) X.xe { s' with heap := h3 } from main cl wish
    intro hs ls ck
    have S3 : Inv (X.suite a (X.pn ++ pins)) [] σ2 H2 { s' with heap := h3 } := toSuite J3 a
    have look : ∀ {x : Str} {c : Value} {p1 : Pos} {Q : Value → Shared → Prop} {E : Value → Shared → Prop}, Names X x c → Q c { s' with heap := h3 } → wpAny (model X.prog X.w) (X.A.mark (some (.ref a))) (eval (.Name x p1) X.env) Q E { s' with heap := h3 } := fun hc q => by
      obtain ⟨g1, g2, g3 | ⟨g3, g4, g5⟩⟩ := hc
      · exact ld_glob S3 g1 g3 q g2
      · exact ld_blt S3 g1 g3 g4 q g5 g2
    have kind : PySem.W.Looks (model X.prog X.w) h3 (typeOf (.ref a)) cls := fun A Q E s k q => wpAny_typeOf_ref (k _ _ at3) (by rw [z3.1]; exact q)
    have fits : ∀ {c : Value} {b : Bool}, PySem.W.exmOne X.K cls c = some b → PySem.W.Looks (model X.prog X.w) h3 (excMatches (.ref a) c) b := fun e => PySem.W.exm_one J3.kIn kind e
    -- into a suite: what stands there
    have enter : ∀ {C dd : Addr} {Q : Shared → Prop} {E : Value → Shared → Prop} {A : Around}, cls = .ref C → d = some dd → (∀ s4, Inv (X.suite a (X.pn ++ pins)) [] σ2 (upd H2 a (.ext (excP a C dd))) s4 → Q s4) → wpAny (model X.prog X.w) A (setFlight (.ref a) none) (fun _ s4 => Q s4) E { s' with heap := h3 } := fun {C dd Q E A} e1 e2 q => by
      refine HandSPX.lands_againZ fly3 fun h4 fly4 up4 => q _ ?_
      have J4 : Inv X pins σ2 H2 { s' with heap := h4 } := J.landed ground fly4.1 (up3.trans up4) os bare
      obtain ⟨oe4, vs4, at4, z4, f4⟩ := fly4.there
      rw [e1, e2] at z4
      exact toSuite (Inv.track J4 at4 z4 ⟨_, f4⟩ na new0 nL npin) a
    induction ck with
    | nil =>
      intro w
      refine wpAny_handleBy_nil ?_
      obtain ⟨_, _, _, o5, vs5, T5, _, _, e5, _, d5, t5, _⟩ := id fly3
      unfold PySem.passOn
      refine wpAny_bind (wpAny_field e5 d5 t5 ?_)
      rw [if_neg (by simp)]
      have away : wpAny (model X.prog X.w) X.A (setFlight (.ref a) X.env.frame) (fun _ s4 => wpAny (model X.prog X.w) X.A (throw (.ref a) : Sem Flow) (SP X pins D) X.xe s4) X.xe { s' with heap := h3 } := by
        rw [fr]
        refine HandSPX.setFlight_upZ fly3 fun h4 held4 up4 => wpAny_throw (tk _ _ ⟨a, B, sI, pins, σ2, H2, cls, d, rfl, J, ground, up3.trans up4, .inr (.inr ?_), na, os, bare, w⟩)
        rw [stk]
        exact held4
      first
        | exact wpAny_bind (wpAny_pure (wpAny_bind away))
        | exact wpAny_bind away
    | @bare x c ts b0 bs p1 p2 hs2 l2 hc su more ih =>
      intro w
      obtain ⟨b, hb, hno, hyes⟩ := w
      refine wpAny_handleBy_cons (codeAny_handlers_test (look hc ((fits hb).here ?_))) (by intro q; cases q)
      cases b with
      | false => exact ih (hno rfl)
      | true =>
        obtain ⟨C, dd, e1, e2, hyes⟩ := hyes rfl
        refine codeAny_handlers_suite (enter e1 e2 fun s4 S4 => ?_)
        refine wpAny_mono ((su a (X.pn ++ pins)).run [] s4 _ _ _ S4 ⟨⟨C, dd, upd_same⟩, hyes a na⟩) (fun fl s6 hf => ?_) fun _ _ z => False.elim z
        cases fl with
        | next => obtain ⟨σ6, H6, S6, q6⟩ := hf; exact ⟨_, _, ofSuite S6 ok, q6⟩
        | brk => obtain ⟨σ6, H6, S6, q6⟩ := hf; exact ⟨_, _, ofSuite S6 ok, q6⟩
        | cont => obtain ⟨σ6, H6, S6, q6⟩ := hf; exact ⟨_, _, ofSuite S6 ok, q6⟩
        | ret u => obtain ⟨v6, σ6, H6, S6, r6, q6⟩ := hf; exact ⟨_, _, _, ofSuite S6 ok, r6, q6⟩
    | @named x n i c ts b0 bs p1 p2 hs2 l2 hc hi hk su more ih =>
      intro w
      obtain ⟨b, hb, hno, hyes⟩ := w
      refine wpAny_handleBy_cons (codeAny_handlers_test (look hc ((fits hb).here ?_))) (by intro q; cases q)
      cases b with
      | false => exact ih (hno rfl)
      | true =>
        obtain ⟨C, dd, e1, e2, hyes⟩ := hyes rfl
        refine codeAny_handlers_suite_as (enter e1 e2 fun s4 S4 => ?_)
        refine store_ok (X := X.suite a (X.pn ++ pins)) (v := .ref a) S4 nd hi (.inl hk) rfl (fun s5 S5 => ?_) (.inr hk)
        refine wpAny_mono ((su a (X.pn ++ pins)).run [] s5 _ _ _ S5 ⟨⟨C, dd, upd_same⟩, hyes a na⟩) (fun fl s6 hf => ?_) fun _ _ z => False.elim z
        have over : ∀ {σ6 : St} {H6 : Hp} {Q : Shared → Prop}, Inv (X.suite a (X.pn ++ pins)) [] σ6 H6 s6 → (∀ s7, Inv X pins (σ6.set i none) H6 s7 → Q s7) →
            wpAny (model X.prog X.w) X.A (do bindName X.env n .none; unbindBehindTheSuite X.env n p2) (fun _ s7 => Q s7) X.xe s6 := fun S6 q => gone_ok (ofSuite S6 ok) nd hi hk q
        cases fl with
        | next => obtain ⟨σ6, H6, S6, q6⟩ := hf; exact over S6 fun s7 J7 => ⟨_, _, J7, q6⟩
        | brk => obtain ⟨σ6, H6, S6, q6⟩ := hf; exact over S6 fun s7 J7 => ⟨_, _, J7, q6⟩
        | cont => obtain ⟨σ6, H6, S6, q6⟩ := hf; exact over S6 fun s7 J7 => ⟨_, _, J7, q6⟩
        | ret u => obtain ⟨v6, σ6, H6, S6, r6, q6⟩ := hf; exact over S6 fun s7 J7 => ⟨_, _, _, J7, r6, q6⟩
  · cases fl with
    | next => obtain ⟨σ1, H1, J1, q1⟩ := done; exact wpAny_execs_nil ⟨σ1, H1, J1.ofTry ok, q1⟩
    | brk => obtain ⟨σ1, H1, J1, q1⟩ := done; exact ⟨σ1, H1, J1.ofTry ok, q1⟩
    | cont => obtain ⟨σ1, H1, J1, q1⟩ := done; exact ⟨σ1, H1, J1.ofTry ok, q1⟩
    | ret u => obtain ⟨v1, σ1, H1, J1, r1, q1⟩ := done; exact ⟨v1, σ1, H1, J1.ofTry ok, r1, q1⟩
end
end L2.Iv
namespace L2.Iv
open PySem PySem.Spec PyProof.Rows
section
variable {prog : Program} {w : World} {A : Around} {E : Value → Shared → Prop} {s : Shared}
theorem back_places (n : Nat) : Builtin.Slice.slicePlaces ((n : Int) - 1) (-1) (-1) = n := by
  unfold Builtin.Slice.slicePlaces
  rw [if_neg (by omega)]
  by_cases h : n = 0
  · subst h; rfl
  · rw [if_pos (by omega)]
    have : ((n : Int) - 1 - -1 - 1) / (- -1) + 1 = n := by
      rw [show (- -1 : Int) = 1 from rfl, Int.ediv_one]
      omega
    rw [this]; rfl
theorem fm_congr {α β : Type} {f g : α → Option β} : ∀ {l : List α}, (∀ x ∈ l, f x = g x) → l.filterMap f = l.filterMap g
  | [], _ => rfl
  | x :: l, h => by
    rw [List.filterMap_cons, List.filterMap_cons, h x List.mem_cons_self, fm_congr fun y hy => h y (List.mem_cons_of_mem _ hy)]
theorem back_pick (xs : Array Value) : ((List.range xs.size).filterMap fun (k : Nat) => xs[(((xs.size : Int) - 1) + (k : Int) * (-1)).toNat]?) = xs.toList.reverse := by
  have e : ∀ k ∈ List.range xs.size, xs[(((xs.size : Int) - 1) + (k : Int) * (-1)).toNat]? = (fun j => xs[j]?) (xs.size - 1 - k) := fun k hk => by
    rw [List.mem_range] at hk
    have : (((xs.size : Int) - 1) + (k : Int) * (-1)).toNat = xs.size - 1 - k := by omega
    rw [this]
  have e2 : ((List.range xs.size).filterMap fun (k : Nat) => xs[(((xs.size : Int) - 1) + (k : Int) * (-1)).toNat]?) = ((List.range xs.size).map fun k => xs.size - 1 - k).filterMap fun j => xs[j]? := by
    rw [List.filterMap_map]
    exact fm_congr e
  rw [e2, PySem.W.krv_range, List.filterMap_reverse, PySem.W.krv_all]
theorem slice_back {sl : Addr} {n : Nat} {v : Value} {Q : Int × Int × Nat → Shared → Prop} (hs : s.heap.IsSliceOf sl .none .none v) (ps : IsPart v (some (-1))) (h : Q ((n : Int) - 1, -1, n) s) : wpAny (model prog w) A (Builtin.Slice.sliceApplied (.ref sl) (pure (n : Int))) Q E s := by
  obtain ⟨o, ho, _, hd⟩ := id hs
  unfold Builtin.Slice.sliceApplied Builtin.Slice.sliceFields
  refine wpAny_bind (wpAny_bind (wpAny_field ho hd (x := .none) rfl (wpAny_bind (wpAny_field ho hd (x := .none) rfl (wpAny_bind (wpAny_field ho hd (x := v) rfl (wpAny_pure ?_)))))))
  refine wpAny_bind (HT.slicePart_ ps ?_)
  show wpAny _ _ (if ((-1 : Int) == 0) = true then _ else _) _ _ s
  rw [if_neg (by decide)]
  refine wpAny_bind (HT.slicePart_ .none (wpAny_bind (HT.slicePart_ .none (wpAny_bind (wpAny_pure ?_)))))
  show wpAny _ _ (pure (((n : Int) - 1), (-1 : Int), Builtin.Slice.slicePlaces ((n : Int) - 1) (-1) (-1))) _ _ s
  rw [back_places]
  exact wpAny_pure h
theorem getItem_back {t sl : Addr} {its : Array Value} {v : Value} {Q : Value → Shared → Prop} (ht : IsTup s.heap t its) (hs : s.heap.IsSliceOf sl .none .none v) (ps : IsPart v (some (-1)))
    (h : Q (.ref s.heap.objs.size) { s with heap := s.heap.push { cls := .type "tuple", data := .seq its.toList.reverse.toArray } }) (hz : its.size ≤ sizeLine) : wpAny (model prog w) A (getItem (.ref t) (.ref sl)) Q E s := by
  have room : sizeOk (.seq its.toList.reverse.toArray) := by
    show its.toList.reverse.toArray.size ≤ sizeLine
    rw [List.size_toArray, List.length_reverse, Array.length_toList]
    exact hz
  obtain ⟨o, ho, hc, _⟩ := id hs
  unfold getItem
  try with_reducible refine wpAny_holding ?_
  first | refine wpAny_bind (wpAny_pure ?_) | skip
  refine wpAny_bind (wpAny_sequenceKey ht.typeIs (by decide) ?_)
  refine wpAny_bind (wpAny_callSpecial?_slot (name := Str.ofString "__getitem__") ht.typeIs PyProof.Rows.slot_tuple_getitem (wpAny_call_entry PyProof.Rows.slot_tuple_getitem ht.typeIs entry_tuple_getitem ?_ (args_tuple_getitem _ _)))
  show wpAny (model prog w) _ (Builtin.Tuple.tupleItemsOf (Value.ref t) >>= _) _ _ _
  refine wpAny_bind (tupleItemsOf_ ht ?_)
  refine wpAny_bind (wpAny_typeOf ⟨o, ho, hc⟩ ?_)
  rw [if_pos (by decide)]
  refine wpAny_bind (slice_back hs ps ?_)
  show wpAny _ _ (if ((its.size : Int) - 1 == 0 && (-1 : Int) == 1 && its.size == its.size) = true then _ else _) _ _ s
  rw [if_neg (by rw [Bool.and_eq_true, Bool.and_eq_true]; exact fun z => absurd z.1.2 (by decide)), back_pick]
  first
    | exact wpAny_bind (m := Builtin.Tuple.tupleExact _) (wpAny_newObj_type (wpAny_pure ⟨_, rfl, wpAny_pure h⟩) room)
    | exact wpAny_bind (m := Builtin.Tuple.tupleExact _) (wpAny_newObj_type (wpAny_bind (wpAny_pure (wpAny_pure ⟨_, rfl, wpAny_pure h⟩))) room)
    | exact wpAny_bind (wpAny_bind (m := Builtin.Tuple.tupleExact _) (wpAny_newObj_type (wpAny_pure (wpAny_pure ⟨_, rfl, wpAny_pure h⟩)) room))
    | exact wpAny_bind (wpAny_bind (m := Builtin.Tuple.tupleExact _) (wpAny_newObj_type (wpAny_pure ⟨_, rfl, wpAny_pure h⟩) room))
theorem tail_places (n : Nat) : Builtin.Slice.slicePlaces ((n : Int) - 1) (min 0 ((n : Int) - 1)) (-1) = n - 1 := by
  unfold Builtin.Slice.slicePlaces
  rw [if_neg (by omega)]
  by_cases h : n = 0
  · subst h; rfl
  · rw [show min (0 : Int) ((n : Int) - 1) = 0 by omega]
    by_cases h1 : n = 1
    · subst h1; rfl
    · rw [if_pos (by omega)]
      have : ((n : Int) - 1 - 0 - 1) / (- -1) + 1 = (n : Int) - 1 := by
        rw [show (- -1 : Int) = 1 from rfl, Int.ediv_one]
        omega
      rw [this]; omega
theorem fm_total {α : Type} {f : Nat → Option α} : ∀ {m : Nat}, (∀ k < m, (f k).isSome = true) → ((List.range m).filterMap f).length = m ∧ ∀ k < m, ((List.range m).filterMap f)[k]? = f k
  | 0, _ => ⟨rfl, fun k h => absurd h (Nat.not_lt_zero _)⟩
  | m + 1, h => by
    obtain ⟨h1, h2⟩ := fm_total (m := m) fun k hk => h k (Nat.lt_succ_of_lt hk)
    obtain ⟨y, hy⟩ := Option.isSome_iff_exists.mp (h m (Nat.lt_succ_self m))
    have e : (List.range (m + 1)).filterMap f = (List.range m).filterMap f ++ [y] := by
      rw [List.range_succ, List.filterMap_append, List.filterMap_cons, hy]; rfl
    rw [e]
    refine ⟨by rw [List.length_append, h1]; rfl, fun k hk => ?_⟩
    by_cases hkm : k < m
    · rw [List.getElem?_append_left (by rw [h1]; exact hkm), h2 k hkm]
    · have : k = m := by omega
      subst this
      rw [List.getElem?_append_right (by rw [h1]; exact Nat.le_refl _), h1, Nat.sub_self, hy]; rfl
theorem tail_pick (xs : Array Value) : ((List.range (xs.size - 1)).filterMap fun (k : Nat) => xs[(((xs.size : Int) - 1) + (k : Int) * (-1)).toNat]?) = (xs.toList.drop 1).reverse := by
  have hx : ∀ k < xs.size - 1, xs[(((xs.size : Int) - 1) + (k : Int) * (-1)).toNat]? = xs.toList[xs.size - 1 - k]? := fun k hk => by
    have : (((xs.size : Int) - 1) + (k : Int) * (-1)).toNat = xs.size - 1 - k := by omega
    rw [this, Array.getElem?_toList]
  obtain ⟨h1, h2⟩ := fm_total (m := xs.size - 1) (f := fun (k : Nat) => xs[(((xs.size : Int) - 1) + (k : Int) * (-1)).toNat]?) fun k hk => by
    show (xs[(((xs.size : Int) - 1) + (k : Int) * (-1)).toNat]?).isSome = true
    rw [hx k hk, List.getElem?_eq_getElem (by rw [Array.length_toList]; omega)]; rfl
  apply List.ext_getElem?
  intro i
  by_cases hi : i < xs.size - 1
  · rw [h2 i hi, hx i hi, List.getElem?_reverse (by rw [List.length_drop, Array.length_toList]; exact hi), List.getElem?_drop, List.length_drop, Array.length_toList]
    congr 1
    omega
  · rw [List.getElem?_eq_none (by rw [h1]; omega), List.getElem?_eq_none (by rw [List.length_reverse, List.length_drop, Array.length_toList]; omega)]
theorem slice_tail {sl : Addr} {n : Nat} {u v : Value} {Q : Int × Int × Nat → Shared → Prop} (hs : s.heap.IsSliceOf sl .none u v) (pu : IsPart u (some 0)) (ps : IsPart v (some (-1))) (h : Q ((n : Int) - 1, -1, n - 1) s) : wpAny (model prog w) A (Builtin.Slice.sliceApplied (.ref sl) (pure (n : Int))) Q E s := by
  obtain ⟨o, ho, _, hd⟩ := id hs
  unfold Builtin.Slice.sliceApplied Builtin.Slice.sliceFields
  refine wpAny_bind (wpAny_bind (wpAny_field ho hd (x := .none) rfl (wpAny_bind (wpAny_field ho hd (x := u) rfl
    (wpAny_bind (wpAny_field ho hd (x := v) rfl (wpAny_pure ?_)))))))
  refine wpAny_bind (HT.slicePart_ ps ?_)
  show wpAny _ _ (if ((-1 : Int) == 0) = true then _ else _) _ _ s
  rw [if_neg (by decide)]
  refine wpAny_bind (HT.slicePart_ .none (wpAny_bind (HT.slicePart_ pu (wpAny_bind (wpAny_pure ?_)))))
  show wpAny _ _ (pure (((n : Int) - 1), (-1 : Int), Builtin.Slice.slicePlaces ((n : Int) - 1) (min 0 ((n : Int) - 1)) (-1))) _ _ s
  rw [tail_places]
  exact wpAny_pure h
theorem getItem_tail {t sl : Addr} {its : Array Value} {u v : Value} {Q : Value → Shared → Prop} (ht : IsTup s.heap t its) (hs : s.heap.IsSliceOf sl .none u v) (pu : IsPart u (some 0)) (ps : IsPart v (some (-1)))
    (h : Q (.ref s.heap.objs.size) { s with heap := s.heap.push { cls := .type "tuple", data := .seq (its.toList.drop 1).reverse.toArray } }) (hz : its.size ≤ sizeLine) : wpAny (model prog w) A (getItem (.ref t) (.ref sl)) Q E s := by
  have room : sizeOk (.seq (its.toList.drop 1).reverse.toArray) := by
    show (its.toList.drop 1).reverse.toArray.size ≤ sizeLine
    rw [List.size_toArray, List.length_reverse, List.length_drop, Array.length_toList]
    omega
  obtain ⟨o, ho, hc, _⟩ := id hs
  unfold getItem
  try with_reducible refine wpAny_holding ?_
  first | refine wpAny_bind (wpAny_pure ?_) | skip
  refine wpAny_bind (wpAny_sequenceKey ht.typeIs (by decide) ?_)
  refine wpAny_bind (wpAny_callSpecial?_slot (name := Str.ofString "__getitem__") ht.typeIs PyProof.Rows.slot_tuple_getitem (wpAny_call_entry PyProof.Rows.slot_tuple_getitem ht.typeIs entry_tuple_getitem ?_ (args_tuple_getitem _ _)))
  show wpAny (model prog w) _ (Builtin.Tuple.tupleItemsOf (Value.ref t) >>= _) _ _ _
  refine wpAny_bind (tupleItemsOf_ ht ?_)
  refine wpAny_bind (wpAny_typeOf ⟨o, ho, hc⟩ ?_)
  rw [if_pos (by decide)]
  refine wpAny_bind (slice_tail hs pu ps ?_)
  show wpAny _ _ (if ((its.size : Int) - 1 == 0 && (-1 : Int) == 1 && its.size - 1 == its.size) = true then _ else _) _ _ s
  rw [if_neg (by rw [Bool.and_eq_true, Bool.and_eq_true]; exact fun z => absurd z.1.2 (by decide)), tail_pick]
  first
    | exact wpAny_bind (m := Builtin.Tuple.tupleExact _) (wpAny_newObj_type (wpAny_pure ⟨_, rfl, wpAny_pure h⟩) room)
    | exact wpAny_bind (m := Builtin.Tuple.tupleExact _) (wpAny_newObj_type (wpAny_bind (wpAny_pure (wpAny_pure ⟨_, rfl, wpAny_pure h⟩))) room)
    | exact wpAny_bind (wpAny_bind (m := Builtin.Tuple.tupleExact _) (wpAny_newObj_type (wpAny_pure (wpAny_pure ⟨_, rfl, wpAny_pure h⟩)) room))
    | exact wpAny_bind (wpAny_bind (m := Builtin.Tuple.tupleExact _) (wpAny_newObj_type (wpAny_pure ⟨_, rfl, wpAny_pure h⟩) room))
end
def tBack (K : PySem.W.Frag) (te : TE) : TE := fun σ H Q => te σ H fun x H1 => ∃ (a : Addr) (xs : List V), x = .ref a ∧
  ((SqL K H1 a xs ∧ ∀ p, H1 p = none → Q (.ref p) (upd H1 p (.lst xs.reverse))) ∨ (SqT K H1 a xs ∧ ∀ p, H1 p = none → Q (.ref p) (upd H1 p (.tup xs.reverse))))
section
variable {X : Cx}
theorem pe_back {e : Expr} {te : TE} {k : Nat} {p1 p2 p3 pos : Pos} (he : PE X e te) : PE X (.Subscript e (.Slice none none (some (.UnaryOp .USub (.Constant (.int 1) k p1) p2)) p3) pos) (tBack X.K te) := by
  refine ⟨fun pins s σ H Q I h => Subscript_ (thn (he.run pins s σ H _ I h) fun v s1 ⟨x, H1, I1, r1, q1⟩ => ?_)⟩
  obtain ⟨a, xs, rfl, q⟩ := q1
  cases r1
  have part : PO X (some (.UnaryOp .USub (.Constant (.int 1) k p1) p2)) (tPart (tUn (rU fun i => .int (-i)) (tC (.int 1)))) := po_some (pe_un un_neg pe_int)
  refine wpAny_Slice (thn (po_none.run pins s1 σ H1 (fun o H2 => o = none ∧ H2 = H1) I1 ⟨rfl, rfl⟩) fun v2 s2 ⟨o2, H2, I2, p2, e2, f2⟩ => ?_)
  subst e2 f2
  refine thn (po_none.run pins s2 σ H2 (fun o H3 => o = none ∧ H3 = H2) I2 ⟨rfl, rfl⟩) fun v3 s3 ⟨o3, H3, I3, p3, e3, f3⟩ => ?_
  subst e3 f3
  refine thn (part.run pins s3 σ H3 (fun o H4 => o = some (-1) ∧ H4 = H3) I3 ⟨1, rfl, -1, rfl, rfl, rfl⟩) fun v4 s4 ⟨o4, H4, I4, p4, e4, f4⟩ => ?_
  subst e4 f4
  have I5 : Inv X pins σ H4 { s4 with heap := s4.heap.push { cls := .type "slice", data := .fields #[v2, v3, v4] } } := I4.kept (t' := s4.toks) fun b ob q => Heap.get?_push_of_some _ q
  cases p2
  cases p3
  rcases q with ⟨hx, q⟩ | ⟨hx, q⟩
  · obtain ⟨its, r, ht, hz⟩ := I5.list hx
    have hlen := r.length
    refine tail_any (ops := [.ref a, .ref s4.heap.objs.size]) ht.isList.typeIs (PySem.slot_list_getitem.lookup) ?_ (by with_unfolding_all rfl)
    refine wpAny_getItem_list_slice ht.isList (Heap.IsSliceOf.new _ .none .none v4) .none .none p4 (by decide) ?_ (by rw [List.size_toArray]; omega)
    rw [PySem.W.krv_pick]
    refine ⟨.ref _, _, I5.laid (t' := s4.toks) (o := .lst xs.reverse) (fun b ob q => Heap.get?_push_of_some _ q) (Nat.le_refl _) ?_, rfl, q _ (I5.hok.fresh (Nat.le_refl _))⟩
    exact ⟨by rw [List.length_reverse]; exact hz, _, 0, r.reverse, Heap.get?_push_size _ rfl⟩
  · obtain ⟨its, r, ht, hz⟩ := I5.tuple hx
    have hlen := r.length
    refine tail_any (ops := [.ref a, .ref s4.heap.objs.size]) ht.typeIs (PyProof.Rows.slot_tuple_getitem.lookup) ?_ (by with_unfolding_all rfl)
    refine getItem_back ht (Heap.IsSliceOf.new _ .none .none v4) p4 ?_ (by rw [List.size_toArray]; omega)
    refine ⟨.ref _, _, I5.laid (t' := s4.toks) (o := .tup xs.reverse) (fun b ob q => Heap.get?_push_of_some _ q) (Nat.le_refl _) ?_, rfl, q _ (I5.hok.fresh (Nat.le_refl _))⟩
    exact ⟨by rw [List.length_reverse]; exact hz, _, r.reverse, _, Heap.get?_push_size _ rfl, rfl, 0, rfl⟩
def tStep (K : PySem.W.Frag) (te tk : TE) : TE := fun σ H Q => te σ H fun x H1 => tPart tk σ H1 fun y H2 => ∃ (a : Addr) (xs : List V) (k : Int), x = .ref a ∧ y = some k ∧ 1 ≤ k ∧ SqL K H2 a xs ∧ ∀ p, H2 p = none → Q (.ref p) (upd H2 p (.lst (stepL k.toNat xs)))
theorem step_bounds {k : Int} (hk : 1 ≤ k) (n : Nat) : sliceBounds none none (some k) n = (0, (n : Int), ((k.toNat : Nat) : Int)) := by
  unfold sliceBounds
  have h : k > 0 := by omega
  simp only [Option.getD_some, h, if_true]
  rw [Int.toNat_of_nonneg (by omega)]
theorem step_pick {k : Int} (hk : 1 ≤ k) (its : List Value) : slicePick its.toArray none none (some k) = (stepL k.toNat its).toArray := by
  unfold slicePick stepL
  rw [step_bounds hk]
  simp
theorem step_few {α : Type} {k : Nat} (hk : 1 ≤ k) (xs : List α) : (stepL k xs).length ≤ xs.length := by
  unfold stepL
  refine Nat.le_trans (List.length_filterMap_le _ _) ?_
  unfold sliceRange
  rw [List.length_map, List.length_range]
  have h : (k : Int) > 0 := by omega
  simp only [h, if_true]
  split
  · have := ceilDiv_le ((xs.length : Int) - 0) k (by omega) (by omega)
    omega
  · omega
theorem vals_pick {xs : List V} {us : List Value} (r : Vals xs us) : ∀ idx : List Nat, Vals (idx.filterMap (xs[·]?)) (idx.filterMap (us[·]?))
  | [] => .nil
  | i :: idx => by
    rw [List.filterMap_cons, List.filterMap_cons]
    cases e : xs[i]? with
    | none => rw [r.none_of e]; exact vals_pick r idx
    | some x =>
      obtain ⟨u, e1, e2⟩ := r.get e
      rw [e1]; exact .cons e2 (vals_pick r idx)
theorem pe_step {e ek : Expr} {te tk : TE} {p3 pos : Pos} (he : PE X e te) (hk : PE X ek tk) : PE X (.Subscript e (.Slice none none (some ek) p3) pos) (tStep X.K te tk) := by
  refine ⟨fun pins s σ H Q I h => Subscript_ (thn (he.run pins s σ H _ I h) fun v s1 ⟨x, H1, I1, r1, q1⟩ => ?_)⟩
  refine wpAny_Slice (thn (po_none.run pins s1 σ H1 (fun o H2 => o = none ∧ H2 = H1) I1 ⟨rfl, rfl⟩) fun v2 s2 ⟨o2, H2, I2, p2, e2, f2⟩ => ?_)
  subst e2 f2
  refine thn (po_none.run pins s2 σ H2 (fun o H3 => o = none ∧ H3 = H2) I2 ⟨rfl, rfl⟩) fun v3 s3 ⟨o3, H3, I3, p3, e3, f3⟩ => ?_
  subst e3 f3
  refine thn ((po_some hk).run pins s3 σ H3 (fun o H4 => ∃ (a : Addr) (xs : List V) (k : Int), x = .ref a ∧ o = some k ∧ 1 ≤ k ∧ SqL X.K H4 a xs ∧ ∀ p, H4 p = none → Q (.ref p) (upd H4 p (.lst (stepL k.toNat xs)))) I3 q1) fun v4 s4 ⟨o4, H4, I4, p4, a, xs, k, e1, e4, k1, hx, q⟩ => ?_
  subst e1 e4
  cases r1
  have I5 : Inv X pins σ H4 { s4 with heap := s4.heap.push { cls := .type "slice", data := .fields #[v2, v3, v4] } } := I4.kept (t' := s4.toks) fun b ob q => Heap.get?_push_of_some _ q
  cases p2
  cases p3
  obtain ⟨its, r, ht, hz⟩ := I5.list hx
  have hlen := r.length
  refine tail_any (ops := [.ref a, .ref s4.heap.objs.size]) ht.isList.typeIs (PySem.slot_list_getitem.lookup) ?_ (by with_unfolding_all rfl)
  refine wpAny_getItem_list_slice ht.isList (Heap.IsSliceOf.new _ .none .none v4) .none .none p4 (by intro z; cases z; omega) ?_ (by rw [List.size_toArray]; omega)
  rw [step_pick k1]
  have few := step_few (k := k.toNat) (by omega) xs
  refine ⟨.ref _, _, I5.laid (t' := s4.toks) (o := .lst (stepL k.toNat xs)) (fun b ob q => Heap.get?_push_of_some _ q) (Nat.le_refl _) ?_, rfl, q _ (I5.hok.fresh (Nat.le_refl _))⟩
  refine ⟨by omega, _, 0, ?_, Heap.get?_push_size _ rfl⟩
  unfold stepL
  rw [hlen]
  exact vals_pick r _
theorem pe_tail {e : Expr} {te : TE} {k k0 : Nat} {p0 p1 p2 p3 pos : Pos} (he : PE X e te) : PE X (.Subscript e (.Slice none (some (.Constant (.int 0) k0 p0)) (some (.UnaryOp .USub (.Constant (.int 1) k p1) p2)) p3) pos)
    (fun σ H Q => te σ H fun x H1 => ∃ (a : Addr) (xs : List V), x = .ref a ∧ SqT X.K H1 a xs ∧ ∀ p, H1 p = none → Q (.ref p) (upd H1 p (.tup (xs.drop 1).reverse))) := by
  refine ⟨fun pins s σ H Q I h => Subscript_ (thn (he.run pins s σ H _ I h) fun v s1 ⟨x, H1, I1, r1, q1⟩ => ?_)⟩
  obtain ⟨a, xs, rfl, hx, q⟩ := q1
  cases r1
  have part : PO X (some (.UnaryOp .USub (.Constant (.int 1) k p1) p2)) (tPart (tUn (rU fun i => .int (-i)) (tC (.int 1)))) := po_some (pe_un un_neg pe_int)
  have zero : PO X (some (.Constant (.int 0) k0 p0)) (tPart (tC (.int 0))) := po_some pe_int
  refine wpAny_Slice (thn (po_none.run pins s1 σ H1 (fun o H2 => o = none ∧ H2 = H1) I1 ⟨rfl, rfl⟩) fun v2 s2 ⟨o2, H2, I2, p2, e2, f2⟩ => ?_)
  subst e2 f2
  refine thn (zero.run pins s2 σ H2 (fun o H3 => o = some 0 ∧ H3 = H2) I2 ⟨0, rfl, rfl, rfl⟩) fun v3 s3 ⟨o3, H3, I3, p3, e3, f3⟩ => ?_
  subst e3 f3
  refine thn (part.run pins s3 σ H3 (fun o H4 => o = some (-1) ∧ H4 = H3) I3 ⟨1, rfl, -1, rfl, rfl, rfl⟩) fun v4 s4 ⟨o4, H4, I4, p4, e4, f4⟩ => ?_
  subst e4 f4
  have I5 : Inv X pins σ H4 { s4 with heap := s4.heap.push { cls := .type "slice", data := .fields #[v2, v3, v4] } } := I4.kept (t' := s4.toks) fun b ob q => Heap.get?_push_of_some _ q
  cases p2
  obtain ⟨its, r, ht, hz⟩ := I5.tuple hx
  have hlen := r.length
  refine tail_any (ops := [.ref a, .ref s4.heap.objs.size]) ht.typeIs (PyProof.Rows.slot_tuple_getitem.lookup) ?_ (by with_unfolding_all rfl)
  refine getItem_tail ht (Heap.IsSliceOf.new _ .none v3 v4) p3 p4 ?_ (by rw [List.size_toArray]; omega)
  refine ⟨.ref _, _, I5.laid (t' := s4.toks) (o := .tup (xs.drop 1).reverse) (fun b ob q => Heap.get?_push_of_some _ q) (Nat.le_refl _) ?_, rfl, q _ (I5.hok.fresh (Nat.le_refl _))⟩
  exact ⟨by rw [List.length_reverse, List.length_drop]; omega, _, (r.drop 1).reverse, _, Heap.get?_push_size _ rfl, rfl, 0, rfl⟩
end
end L2.Iv
namespace L2
open PySem PySem.Spec PyProof.Rows PySem.Calls SrtO
section
variable {prog : Program} {w : World} {A : Around} {E : Value → Shared → Prop} {s : Shared}
theorem items_at {P : Nat → Value → Prop} {acc : Array Value} {n : Nat} (h : ItemsOf P acc n) : acc.toList.length = n ∧ ∀ j v, acc.toList[j]? = some v → P j v :=
  ⟨by rw [Array.length_toList]; exact h.1, fun j v e => h.2 j v (by rw [← Array.getElem?_toList]; exact e)⟩
theorem ints_at : ∀ {vs : List Value} {ns : List Int}, vs.length = ns.length → (∀ (j : Nat) (v : Value) (i : Int), vs[j]? = some v → ns[j]? = some i → ∃ t, v = Value.int i t) → IntsAre vs ns
  | [], [], _, _ => .nil
  | [], _ :: _, h, _ => by cases h
  | _ :: _, [], h, _ => by cases h
  | v :: vs, n :: ns, h, q => by
    obtain ⟨t, rfl⟩ := q 0 v n rfl rfl
    exact .cons n t (ints_at (Nat.succ.inj h) fun j v i a b => q (j + 1) v i a b)
theorem drawn_dict {d : Addr} {m : Nat} {P : Nat → Value → Prop} {OK : Heap → Prop} {R : List Value → Shared → Prop} (L : PySem.W.KdlSrc prog w "dict" d d m P OK) (calm : A.handled = none) (ok : OK s.heap) (few : m ≤ sizeLine)
    (go : ∀ (g : Heap) (tk : Nat) (xs : Array Value), (∀ b o, s.heap.get? b = some o → g.get? b = some o) → s.heap.objs.size < g.objs.size → ItemsOf P xs m → R xs.toList { s with heap := g, toks := tk }) :
    wpAny (model prog w) A (collect (.ref d)) R E s := by
  have ld := L.there _ ok
  unfold collect
  refine wpAny_bind (wpAny_runValue
    (codeAny_builtin entry_proto_collect' ?_))
  rw [Around.under_plainId
    PySem.F.plain_proto_collect _]
  show wpAny _ A.in1 (newList [] >>= fun z => again (.builtin "list.__iadd__" ⟨[z, .ref d], []⟩)) _ _ s
  refine wpAny_bind (wpAny_newObj_type ?_)
  refine wpAny_pure ⟨plainId_quiet PySem.F.plain_list_iadd _,
    codeAny_builtin entry_list_iadd' ?_⟩
  rw [Around.under_plainId
    PySem.F.plain_list_iadd _]
  have at0 : (s.heap.push { cls := .type "list", data := .seq ([] : List Value).toArray }).get? s.heap.objs.size = some { cls := .type "list", data := .seq #[] } :=
    Heap.get?_push_size _ rfl
  show wpAny _ A.in1 (Builtin.List.listExtendWith (.ref s.heap.objs.size) (.ref d)
    (.ref s.heap.objs.size)) _ _ _
  have run := PySem.W.kdl_extend (A := A) (s := { s with heap := s.heap.push { cls := .type "list", data := .seq ([] : List Value).toArray } })
    (R := fun (q : Result) (z : Shared) => ∃ (g : Heap) (tk : Nat) (xs : Array Value) (c : Nat), q = .ok (.ret (.ref s.heap.objs.size)) ∧ z = { s with heap := g, toks := tk } ∧
      (∀ b o, s.heap.get? b = some o → g.get? b = some o) ∧ g.get? s.heap.objs.size = some { cls := .type "list", dict := none, data := .seq xs c, slots := #[] } ∧ ItemsOf P xs m)
    L calm (L.keep _ _ ok fun b _ o e => Heap.get?_push_of_some _ e) s.heap.objs.size (Nat.ne_of_gt ld.1) (Nat.ne_of_gt ld.2) (.ref s.heap.objs.size) 0 at0
    (fun g tk xs c k1 k2 k3 => ⟨g, tk, xs, c, rfl, rfl, fun b o e => k1 b o (Nat.ne_of_lt (Heap.lt_size e)) (Heap.get?_push_of_some _ e), k2, k3⟩) few
  refine wpAny_mono run (fun fin z y => ?_) fun e z y => ?_
  · cases fin with
    | done f =>
      obtain ⟨g, tk, xs, c, e, rfl, k1, k2, k3⟩ := y
      cases e
      show wpAny _ A (load s.heap.objs.size >>= _) _ _ _
      exact wpAny_bind (wpAny_load k2 (wpAny_pure (go g tk xs k1 (Heap.lt_size k2) k3)))
    | again c₁ =>
      refine ⟨y.1, codeAny_mono y.2 fun q z₂ y2 => ?_⟩
      obtain ⟨g, tk, xs, c, rfl, rfl, k1, k2, k3⟩ := y2
      show wpAny _ A (load s.heap.objs.size >>= _) _ _ _
      exact wpAny_bind (wpAny_load k2 (wpAny_pure (go g tk xs k1 (Heap.lt_size k2) k3)))
  · obtain ⟨_, _, _, _, z, _⟩ := y
    cases z
theorem sorted_dict {d : Addr} {kvs : List (Key × Value)} {ns : List Int} {Q : Value → Shared → Prop} (hh : A.handled = none) (lo : (d == sysModules) = false) (hD : s.heap.DictOf (mixKind prog w) d kvs) (hz : kvs.length ≤ sizeLine) (hk : kvs.map (·.1) = ns.map Sum.inl)
    (h : ∀ (h' : Heap) (tk : Nat) (p : Addr) (out : List Value) (ns' : List Int) (e : Nat), (∀ b o, s.heap.get? b = some o → h'.get? b = some o) → s.heap.objs.size ≤ p → h'.get? p = some (seqObj "list" out.toArray e) → IntsAre out ns' → ns'.Perm ns → ns'.Pairwise (· ≤ ·) → Q (.ref p) { s with heap := h', toks := tk }) :
    wpAny (model prog w) A (call (.builtin "sorted") [.ref d]) Q E s := by
  obtain ⟨ep, hat⟩ := hD.dictAt
  refine call_function_entry kind_sorted plain_sorted entry_sorted (args_sorted1 _) ?_
  unfold Builtin.«sorted»
  refine wpAny_bind (m := checkCount "sorted" 1 1 _) (wpAny_pure ?_)
  refine wpAny_bind (drawn_dict (A := A.in1) (PySem.W.kdl_dict (knd := mixKind prog w) (kvs := kvs) (ep := ep) lo) hh hat hz fun h' tk acc hkp hbig hacc => ?_)
  obtain ⟨hl, hv⟩ := items_at hacc
  refine wpAny_bind (wpAny_newList ?_ (by rw [hl]; exact hz))
  have hI : IntsAre acc.toList ns := ints_at (by rw [hl]; have := congrArg List.length hk; simpa using this) fun j v i e1 e2 => by
    obtain ⟨k, x, e3, e4⟩ := hv j v e1
    have e5 : (kvs.map (·.1))[j]? = some k := by rw [List.getElem?_map, e3]; rfl
    rw [hk, List.getElem?_map, e2] at e5
    cases e5
    rcases keyIs_shape (show keyIs (.inl i) v = true from e4) with ⟨i', t, z, e⟩ | ⟨x', t, z, e⟩
    · cases z; exact ⟨t, e⟩
    · cases z
  have hoL : (h'.push (seqObj "list" acc.toList.toArray 0)).get? h'.objs.size = some (seqObj "list" acc.toList.toArray 0) := Heap.get?_push_size _ rfl
  show wpAny _ _ _ _ _ { s with heap := h'.push (seqObj "list" acc.toList.toArray 0), toks := tk }
  refine wpAny_bind (wpAny_holding (wpAny_call_entry slot_list_sort ⟨_, hoL, rfl⟩ entry_list_sort (list_sort_ord swo_int hoL (by rw [hl]; exact hz) (fun h2 => ints_sortable hI h2) fun out hs hb => ⟨_, rfl, ?_⟩) (args_list_sort _)))
  refine wpAny_pure ⟨_, rfl, ?_⟩
  obtain ⟨k1, k2, k3⟩ := ints_out hI hs hb
  have hlt : ∀ b o, s.heap.get? b = some o → b < h'.objs.size := fun b o q => Heap.lt_size (hkp b o q)
  obtain ⟨e, he⟩ := sortedHeap_at (vs := acc.toList) (out := out.toArray) hoL
  refine h _ tk _ out (out.map iv) e (fun b o q => ?_) (Nat.le_of_lt hbig) he k1 k2 k3
  rw [sortedHeap_old (Nat.ne_of_lt (hlt b o q)) (by rw [size_push']; exact Nat.lt_succ_of_lt (hlt b o q)), Heap.get?_push_ne _ _ _ (Nat.ne_of_lt (hlt b o q))]
  exact hkp b o q
end
end L2
namespace L2
open PySem PySem.Spec PyProof.Rows
def rSortedD : List V → Hp → VK → Prop := fun vs H Q => ∃ (a : Addr) (kvs : List (Key × V)) (ns : List Int), vs = [V.ref a] ∧ H a = some (.dK kvs) ∧ kvs.map (·.1) = ns.map Sum.inl ∧
  ∀ (ns' : List Int) (p : Addr), ns'.Perm ns → ns'.Pairwise (· ≤ ·) → H p = none → Q (.ref p) (upd H p (.lst (ns'.map V.int)))
theorem kv_keys {κ : Type} : ∀ {kvs : List (κ × V)} {vs : List (κ × Value)}, KV kvs vs → vs.map (·.1) = kvs.map (·.1)
  | _, _, .nil => rfl
  | _, _, .cons h q => by
    rw [List.map_cons, List.map_cons, kv_keys q, h.1]
section
variable {X : Cx}
theorem cr_sortedD (hc : X.calm = true) : CallR X (.builtin "sorted") rSortedD := by
  intro pins s σ H vs us Q I r h
  obtain ⟨a, kvs, ns, rfl, ha, hk, q⟩ := h
  obtain ⟨z, lo, ws, rel, dd⟩ := dk_of I.hok ha
  rw [Vals.ref1 r]
  refine sorted_dict (I.ok.hd hc) lo dd (by rw [← rel.length]; exact z) (by rw [kv_keys rel, hk]) fun h' tk p out ns' e k hp hg hi hperm hs => ?_
  have hlen : (ns'.map V.int).length ≤ sizeLine := by
    have h1 := congrArg List.length hk
    rw [List.length_map, List.length_map] at h1
    rw [List.length_map, hperm.length_eq, ← h1]
    exact z
  exact ⟨.ref p, upd H p (.lst (ns'.map V.int)), I.laid (t' := tk) k hp ⟨hlen, out, e, vals_of_ints hi, hg⟩, rfl, q ns' p hperm hs (I.hok.fresh hp)⟩
end
end L2
namespace L2.Iv
open PySem PySem.Spec PyProof.Rows
theorem insD_mem (n : Int) : ∀ (l : List Int) (x : Int), x ∈ insD n l ↔ x = n ∨ x ∈ l
  | [], x => by simp [insD]
  | m :: r, x => by
    unfold insD
    split
    · simp
    · split
      · rename_i h; subst h; simp
      · rw [List.mem_cons, insD_mem n r x, List.mem_cons]
        constructor
        · rintro (h | h | h)
          · exact .inr (.inl h)
          · exact .inl h
          · exact .inr (.inr h)
        · rintro (h | h | h)
          · exact .inr (.inl h)
          · exact .inl h
          · exact .inr (.inr h)
theorem insD_sorted (n : Int) : ∀ (l : List Int), l.Pairwise (· < ·) → (insD n l).Pairwise (· < ·)
  | [], _ => by simp [insD]
  | m :: r, h => by
    obtain ⟨h1, h2⟩ := List.pairwise_cons.mp h
    unfold insD
    split
    · rename_i z
      refine List.pairwise_cons.mpr ⟨fun x hx => ?_, h⟩
      rcases List.mem_cons.mp hx with rfl | hx
      · exact z
      · exact Int.lt_trans z (h1 x hx)
    · split
      · exact h
      · refine List.pairwise_cons.mpr ⟨fun x hx => ?_, insD_sorted n r h2⟩
        rcases (insD_mem n r x).mp hx with rfl | hx
        · omega
        · exact h1 x hx
theorem foldD_mem : ∀ (ns a : List Int) (x : Int), x ∈ ns.foldl (fun a n => insD n a) a ↔ x ∈ a ∨ x ∈ ns
  | [], a, x => by simp
  | n :: ns, a, x => by
    rw [List.foldl_cons, foldD_mem ns, insD_mem, List.mem_cons]
    constructor
    · rintro ((h | h) | h)
      · exact .inr (.inl h)
      · exact .inl h
      · exact .inr (.inr h)
    · rintro (h | h | h)
      · exact .inl (.inr h)
      · exact .inl (.inl h)
      · exact .inr h
theorem foldD_sorted : ∀ (ns a : List Int), a.Pairwise (· < ·) → (ns.foldl (fun a n => insD n a) a).Pairwise (· < ·)
  | [], a, h => h
  | n :: ns, a, h => by rw [List.foldl_cons]; exact foldD_sorted ns _ (insD_sorted n a h)
theorem sortD_mem (ns : List Int) (x : Int) : x ∈ sortD ns ↔ x ∈ ns := by rw [sortD, foldD_mem]; simp
theorem sortD_sorted (ns : List Int) : (sortD ns).Pairwise (· < ·) := foldD_sorted ns [] (by simp)
theorem srt_uniq : ∀ {a b : List Int}, a.Pairwise (· < ·) → b.Pairwise (· < ·) → (∀ x, x ∈ a ↔ x ∈ b) → a = b
  | [], [], _, _, _ => rfl
  | [], y :: b, _, _, h => absurd ((h y).mpr List.mem_cons_self) (by simp)
  | x :: a, [], _, _, h => absurd ((h x).mp List.mem_cons_self) (by simp)
  | x :: a, y :: b, ha, hb, h => by
    obtain ⟨a1, a2⟩ := List.pairwise_cons.mp ha
    obtain ⟨b1, b2⟩ := List.pairwise_cons.mp hb
    have e : x = y := by
      rcases List.mem_cons.mp ((h x).mp List.mem_cons_self) with e | e
      · exact e
      · rcases List.mem_cons.mp ((h y).mpr List.mem_cons_self) with e2 | e2
        · exact e2.symm
        · have := b1 x e; have := a1 y e2; omega
    subst e
    refine congrArg (x :: ·) (srt_uniq a2 b2 fun z => ⟨fun hz => ?_, fun hz => ?_⟩)
    · rcases List.mem_cons.mp ((h z).mp (List.mem_cons_of_mem _ hz)) with e | e
      · subst e; exact absurd (a1 z hz) (by omega)
      · exact e
    · rcases List.mem_cons.mp ((h z).mpr (List.mem_cons_of_mem _ hz)) with e | e
      · subst e; exact absurd (b1 z hz) (by omega)
      · exact e
theorem srt_of {ks ns ns' : List Int} (nd : ks.Nodup) (hm : ∀ x, x ∈ ks ↔ x ∈ ns) (hp : ns'.Perm ks) (hs : ns'.Pairwise (· ≤ ·)) : ns' = sortD ns := by
  refine srt_uniq ?_ (sortD_sorted ns) fun x => by rw [hp.mem_iff, hm, sortD_mem]
  have nd' : ns'.Nodup := hp.nodup_iff.mpr nd
  have := List.Pairwise.and hs nd'
  exact this.imp fun {x y} h => by have := h.1; have := h.2; omega
theorem keys_put {kvs : List (Key × V)} {ks : List Int} {i : Int} {v : V} (h : kvs.map (·.1) = ks.map Sum.inl) (nd : ks.Nodup) :
    ∃ ks' : List Int, (putK kvs (.inl i) v).map (·.1) = ks'.map Sum.inl ∧ ks'.Nodup ∧ (∀ x, x ∈ ks' ↔ x ∈ ks ∨ x = i) := by
  have hin : (Sum.inl i : Key) ∈ kvs.map (·.1) ↔ i ∈ ks := by
    rw [h, List.mem_map]
    exact ⟨fun ⟨j, hj, e⟩ => by cases e; exact hj, fun hi => ⟨i, hi, rfl⟩⟩
  by_cases hi : i ∈ ks
  · refine ⟨ks, ?_, nd, fun x => ⟨.inl, fun hx => by rcases hx with hx | rfl; exact hx; exact hi⟩⟩
    have ha : (kvs.any fun kv => decide (kv.1 = Sum.inl i)) = true := by
      obtain ⟨p, hp, e⟩ := List.mem_map.mp (hin.mpr hi)
      exact List.any_eq_true.mpr ⟨p, hp, decide_eq_true e⟩
    unfold putK
    rw [if_pos ha, List.map_map, ← h]
    refine List.map_congr_left fun p _ => ?_
    show (if p.1 = Sum.inl i then (p.1, v) else p).1 = p.1
    split <;> rfl
  · refine ⟨ks ++ [i], ?_, ?_, fun x => by simp⟩
    · have ha : ¬ (kvs.any fun kv => decide (kv.1 = Sum.inl i)) = true := fun hz => by
        obtain ⟨p, hp, e⟩ := List.any_eq_true.mp hz
        exact hi (hin.mp (List.mem_map.mpr ⟨p, hp, of_decide_eq_true e⟩))
      unfold putK
      rw [if_neg ha, List.map_append, List.map_append, h]; rfl
    · rw [List.nodup_append]
      exact ⟨nd, by simp, fun x hx y hy => by rw [List.mem_singleton] at hy; subst hy; rintro rfl; exact hi hx⟩
end L2.Iv
namespace L2
open PySem PySem.Spec PyProof.Rows
theorem enum_new_tup (t : Addr) (items : Array Value) :
    Meets (Builtin.«enumerate.__new__» ⟨[.type "enumerate", .ref t], []⟩) (fun _ R s => s.heap.IsTuple t items ∧
      R (.ok (.ret (.ref (s.heap.push { cls := .type "tuple_iterator", data := .fields #[.ref t, .int 0 0] }).objs.size)))
        { s with heap := (s.heap.push { cls := .type "tuple_iterator", data := .fields #[.ref t, .int 0 0] }).push { cls := .type "enumerate", data := .fields #[.none, .bool false, .ref s.heap.objs.size, rawInt 0, .none, .none] } }) :=
  .of_wp fun prog w A R s h => by
    obtain ⟨hp, g, d, tk, os⟩ := s
    obtain ⟨hT, h⟩ := h
    have hsub := sub_enumerate
    have hT : Heap.IsTuple (Shared.heap ⟨hp, g, d, tk, os⟩) t items := hT
    wp_walk using wpAny_pyIter_tuple hT
    refine wpAny_stack_any fun st => wpAny_pure ?_
    split
    · rename_i c _ _ _ _ _
      cases (c == Value.type "enumerate")
      · wp_walk using wpAny_pyIter_tuple hT
        exact ⟨_, rfl, h⟩
      · wp_walk using wpAny_pyIter_tuple hT
        exact ⟨_, rfl, h⟩
    · wp_walk using wpAny_pyIter_tuple hT
      exact ⟨_, rfl, h⟩
section
variable {prog : Program} {w : World} {A : Around} {E : Value → Shared → Prop} {s : Shared}
theorem call_enum_tup {t : Addr} {items : Array Value} {Q : Value → Shared → Prop} (hT : s.heap.IsTuple t items)
    (h : ∀ g, IsEnum g (s.heap.objs.size + 1) s.heap.objs.size 0 .none → g.IsTupleIter s.heap.objs.size t 0 →
      (∀ b o, s.heap.get? b = some o → g.get? b = some o) → Q (.ref (s.heap.objs.size + 1)) { s with heap := g }) :
    wpAny (model prog w) A (call (.type "enumerate") [.ref t]) Q E s := by
  refine callType_new F.called_enumerate (by decide) (F.typeCall_enumerate_1 _) (F.newCall_enumerate_1 _)
    (fun obj => F.args_object_init_2 obj _) F.entry_enumerate_new (enum_new_tup t items) ⟨hT, ?_⟩
  have hz : (s.heap.push { cls := .type "tuple_iterator", data := .fields #[.ref t, .int 0 0] }).objs.size = s.heap.objs.size + 1 := Heap.size_push ..
  show _ ∧ _
  rw [hz]
  have he : IsEnum ((s.heap.push { cls := .type "tuple_iterator", data := .fields #[.ref t, .int 0 0] }).push
      { cls := .type "enumerate", data := .fields #[.none, .bool false, .ref s.heap.objs.size, rawInt 0, .none, .none] }) (s.heap.objs.size + 1) s.heap.objs.size 0 .none := by
    have z := Heap.get?_push_size (s.heap.push { cls := .type "tuple_iterator", data := .fields #[.ref t, .int 0 0] })
      (o := { cls := .type "enumerate", data := .fields #[.none, .bool false, .ref s.heap.objs.size, rawInt 0, .none, .none] }) rfl
    rw [hz] at z; exact z
  exact ⟨⟨_, he, rfl⟩, h _ he ⟨_, Heap.get?_push_of_some _ (Heap.get?_push_size _ rfl), rfl, rfl⟩ fun b o x => Heap.get?_push_of_some _ (Heap.get?_push_of_some _ x)⟩
theorem enum_end_tup {e it t : Addr} {i : Nat} {items : Array Value} {c : Int} {old : Value} {Q : Option Value → Shared → Prop} (hh : A.handled = none) (he : IsEnum s.heap e it c old) (hit : s.heap.IsTupleIter it t i)
    (ht : s.heap.IsTuple t items) (hx : items[i]? = none) (go : ∀ g, Heap.ExtBut it s.heap g → Q none { s with heap := g }) : wpAny (model prog w) A (pyNext (.ref e)) Q E s := by
  have ty : s.TypeIs (.ref e) "enumerate" := ⟨_, he, rfl⟩
  unfold pyNext
  refine wpAny_bind (wpAny_attempt (wpAny_callSpecial?_slot (name := Str.ofString "__next__") ty F.slot_enumerate_next
    (wpAny_call_entry F.slot_enumerate_next ty F.entry_enumerate_next ?_
      (F.args_enumerate_next_1 _))))
  show wpAny _ _ (field (.ref e) 2 >>= _) _ _ s
  refine wpAny_bind (wpAny_field he rfl
    (x := .ref it) rfl ?_)
  refine wpAny_bind (wpAny_nextOf_tuple_end hh hit ht hx fun g x k hx2 => ?_)
  obtain ⟨o, ho, hc⟩ := hx2
  exact wpAny_bind (wpAny_isInstance (T := "StopIteration") (b := true) ⟨o, ho, hc⟩ isSubtype_stop (wpAny_pure (go _ k)))
end
def IteT (K : PySem.W.Frag) (a : Addr) : It :=
  ⟨fun i H => ∃ (xs : List V) (x : V), SqT K H a xs ∧ xs[i]? = some x, fun i H v H' => ∃ T x, v = .ref T ∧ H T = none ∧ H' = upd H T (.tup [.int (i : Nat), x]) ∧ ∀ xs, SqT K H a xs → xs[i]? = some x, fun i H => ∃ xs : List V, SqT K H a xs ∧ xs.length ≤ i⟩
theorem turn_enumT {P : Program} {w : World} {K : PySem.W.Frag} {elts : List Expr} {kk : Nat} {tpos : Pos} (a e it : Addr) :
    Turn P w K (.Tuple elts kk tpos) (IteT K a) [e, it] e (fun i h => (∃ old, IsEnum h e it ((i : Nat) : Int) old) ∧ h.IsTupleIter it a i ∧ e ≠ it ∧ e ≠ a ∧ a ≠ it) where
  mem := by simp
  obj := fun i h st b hb => by
    obtain ⟨⟨old, he⟩, ⟨o, ho, hc, hd⟩, _⟩ := st
    rcases (show b = e ∨ b = it by simpa using hb) with z | z
    · rw [z]; exact ⟨_, he, fun v q => nomatch q⟩
    · rw [z]; exact ⟨o, ho, fun v q => by rw [hd] at q; cases q⟩
  keep := fun i h h' st k => let ⟨⟨old, he⟩, hi, hne⟩ := st; ⟨⟨old, k e (by simp) _ he⟩, hi.at fun o q => k it (by simp) o q, hne⟩
  item := by
    intro X hP hw hK hc i pins s σ H E I hf st hg
    subst hP hw hK
    obtain ⟨⟨old, he⟩, hit, hne, hea, hai⟩ := st
    obtain ⟨xs, x, hq, hx⟩ := hg
    obtain ⟨its, rv, p, hz⟩ := I.tuple hq
    obtain ⟨u, hu, ru⟩ := rv.get hx
    have hel : e < s.heap.objs.size := Heap.lt_size he
    have hil : it < s.heap.objs.size := by obtain ⟨_, q, _⟩ := hit; exact Heap.lt_size q
    have D := Draws.tuple (prog := X.prog) (w := X.w) (A := X.A.in1) (I.ok.hd hc) it a hai its.toArray
    refine wpAny_pyNext_enum_itemD D he (i := i) ⟨hit, p⟩ (by have := (List.getElem?_eq_some_iff.mp hu).1; simpa using this) hne (by simp [hne, hea]) fun u2 h' tk hu2 ho st' hT hsz hk => ?_
    have e2 : u2 = u := by
      have hu2 : its.toArray[i]? = some u2 := hu2
      rw [List.getElem?_toArray, hu] at hu2
      exact (Option.some.inj hu2).symm
    subst e2
    refine ⟨_, rfl, wpAny_letOwnedTupleGo_enum (s := { s with heap := h', toks := tk + 1 }) ho fun h'' he' sb => ?_⟩
    have hT2 : h''.get? s.heap.objs.size = some { cls := .type "tuple", data := .seq #[.int i tk, u2] } := (sb.2 _ (Nat.ne_of_gt hel)).trans hT
    have new : ObjOk X.prog X.w (upd H s.heap.objs.size (.tup [.int (i : Nat), x])) h'' s.heap.objs.size (.tup [.int (i : Nat), x]) :=
      ⟨by show 2 ≤ sizeLine; decide, [.int i tk, u2], .cons ⟨_, rfl⟩ (.cons ru .nil), ⟨_, hT2, rfl, _, rfl⟩⟩
    have I1 : Inv X pins σ (upd H s.heap.objs.size (.tup [.int (i : Nat), x])) { s with heap := h'', toks := tk + 1 } :=
      I.turnedNew (ch := [e, it]) (fun b ob hb q => (sb.2 b (fun z => hb (by simp [z]))).trans (hk b ob (fun z => hb (by simp [z])) (fun z => hb (by simp [z])) q)) hf (Nat.le_refl _) new
    refine ⟨.ref s.heap.objs.size, _, I1, rfl, ⟨_, x, rfl, I.hok.fresh (Nat.le_refl _), rfl, fun ys hy => by rw [I.tuple_inj hy hq]; exact hx⟩, ⟨⟨u2, ?_⟩, st'.1.at fun o q => (sb.2 it (Ne.symm hne)).trans q, hne, hea, hai⟩, fun b hb => ?_⟩
    · rw [show ((i + 1 : Nat) : Int) = (i : Int) + 1 by omega]
      exact he'
    · have hb' : b < s.heap.objs.size := by
        rcases (show b = e ∨ b = it by simpa using hb) with z | z
        · rw [z]; exact hel
        · rw [z]; exact hil
      rw [upd_ne (Nat.ne_of_lt hb')]
      exact (hf b hb).1
  done := by
    intro X hP hw hK hc i pins s σ H E I hf st hg
    subst hP hw hK
    obtain ⟨⟨old, he⟩, hit, hne, hea, hai⟩ := st
    obtain ⟨xs, hq, hx⟩ := hg
    obtain ⟨its, rv, p, hz⟩ := I.tuple hq
    obtain ⟨f0, f1, f2, f3, f4, f5⟩ := hf it (by simp)
    have hl := rv.length
    exact enum_end_tup (I.ok.hd hc) he hit p (by rw [List.getElem?_toArray]; exact List.getElem?_eq_none (by omega)) fun h' eb => ⟨rfl, I.turned (t' := s.toks) (fun b o hb q => eb b o hb q) f0 f1 f3 f4 f5⟩
  self := fun A i s Q E st h => let ⟨⟨_, he⟩, _⟩ := st; wpAny_pyIter_enum he h
def iEnumE (K : PySem.W.Frag) (ta : TA) : TI := fun σ H R => ta σ H fun vs H1 => ∃ a xs, vs = [.ref a] ∧ ((SqL K H1 a xs ∧ R (Ite K a) H1) ∨ (SqT K H1 a xs ∧ R (IteT K a) H1))
theorem pi_enumE {X : Cx} {e : Expr} {ta : TA} {p pos tpos : Pos} {elts : List Expr} {kk : Nat} (hg : Gl X "enumerate") (hm : X.mg "enumerate" = none) (ha : PA X [e] ta) (hs : starEach [e] X.env = [(false, eval e X.env)] := by rfl) :
    PI X (.Tuple elts kk tpos) (.Call (.Name "enumerate" p) [e] [] pos) (iEnumE X.K ta) := by
  refine ⟨fun pins s σ H R I h => ?_⟩
  refine Call_ (ld_blt I hg hm boot_enumerate
    (PyProof.Rows.callWith_type1 (thn (ha.run pos pins s σ H _ I h) fun us s1 ⟨vs, H1, I1, r1, q1⟩ => ?_) hs rfl))
  obtain ⟨a, xs, ex, q⟩ := q1
  subst ex
  cases r1 with
  | cons r rr =>
    cases rr
    cases r
    have fp : ∀ (h' : Heap), Inv X pins σ H1 { s1 with heap := h' } → ∀ b ∈ [s1.heap.objs.size + 1, s1.heap.objs.size], FpOk X pins H1 b := fun h' I2 b hb => by
      have hle : s1.heap.objs.size ≤ b := by
        rcases (show b = s1.heap.objs.size + 1 ∨ b = s1.heap.objs.size by simpa using hb) with z | z
        · rw [z]; exact Nat.le_add_right _ _
        · rw [z]; exact Nat.le_refl _
      exact I1.fpOk hle (I1.hok.fresh hle)
    rcases q with ⟨hq, q⟩ | ⟨hq, q⟩
    · obtain ⟨its, rv, p', hz⟩ := I1.list hq
      refine call_enumerate_list p'.isList fun h' he hit hsz hk => wpAny_pyIter_enum he ?_
      have I2 : Inv X pins σ H1 { s1 with heap := h' } := I1.kept (t' := s1.toks) hk
      exact ⟨s1.heap.objs.size + 1, [s1.heap.objs.size + 1, s1.heap.objs.size], _, _, H1, rfl, I2, turn_enum a (s1.heap.objs.size + 1) s1.heap.objs.size, ⟨⟨.none, he⟩, hit, Nat.succ_ne_self _⟩, fp h' I2, q⟩
    · obtain ⟨its, rv, p', hz⟩ := I1.tuple hq
      have hlt : a < s1.heap.objs.size := by obtain ⟨o, ho, _⟩ := p'; exact Heap.lt_size ho
      refine call_enum_tup p' fun h' he hit hk => wpAny_pyIter_enum he ?_
      have I2 : Inv X pins σ H1 { s1 with heap := h' } := I1.kept (t' := s1.toks) hk
      exact ⟨s1.heap.objs.size + 1, [s1.heap.objs.size + 1, s1.heap.objs.size], _, _, H1, rfl, I2, turn_enumT a (s1.heap.objs.size + 1) s1.heap.objs.size, ⟨⟨.none, he⟩, hit, Nat.succ_ne_self _, Nat.ne_of_gt (Nat.lt_succ_of_lt hlt), Nat.ne_of_lt hlt⟩, fp h' I2, q⟩
end L2
namespace L2.Iv
open PySem PySem.Spec PyProof.Rows
structure FnG (P : Program) (w : World) (K : PySem.W.Frag) (mg : Str → Option Value) (base : Heap) (n : Nat) (f : Addr) (fd : FuncData) (ps : List Str) (sp : List V → Hp → VK → XK → Prop) : Prop where
  len : ∀ vs H Q E, sp vs H Q E → vs.length = ps.length
  run : ∀ (A : Around) (outer : List PySem.Env) (s : Shared) (H : Hp) (args : Args) (us : List Value) (vs : List V) (Q : VK) (E : XK),
    Room (n + 2) A → A.guards = some [] → Env0 P w K mg base A outer s H → BindsTo s fd args (ps.zip us) → Vals vs us → sp vs H Q E →
      codeAny (model P w) A (.call (.ref f) args) (CR (L2N.CX P w) outer P w H s Q E) s
section
variable {X : Cx} {n : Nat} {f : Addr} {fd : FuncData} {ps : List Str} {sp : List V → Hp → VK → XK → Prop} {W : WX}
def xAt (W : WX) (σ : St) : XK := fun cls d H' => W cls d σ H'
theorem run_G {pins : List (Addr × Obj)} {σ : St} {H : Hp} {s : Shared} {Q : VK} {args : Args} {us : List Value} {vs : List V} (G : FnG X.prog X.w X.K X.mg X.base n f fd ps sp) (C : Cal X (n + 2) false) (hT : L2N.Takes X W)
    (I : Inv X pins σ H s) (hb : BindsTo s fd args (ps.zip us)) (r : Vals vs us) (h : sp vs H Q (xAt W σ)) : codeAny (model X.prog X.w) X.A (.call (.ref f) args) (fun r s' => match r with
      | .ok (.ret u) => EP X pins σ Q u s'
      | .ok _ => False
      | .error e => X.xe e s') s := by
  refine codeAny_mono (G.run X.A X.stack s H args us vs Q (xAt W σ) (C.room rfl) C.gd I.env0 hb r h) fun r s' hq => ?_
  cases r with
  | error e => exact hT e s' (L2N.XE.of_call I (fun cls d H' z => z) hq)
  | ok fl =>
    cases fl with
    | ret u => exact I.after hq
    | next => exact False.elim hq
    | brk => exact False.elim hq
    | cont => exact False.elim hq
theorem run_G2 {pins : List (Addr × Obj)} {σ : St} {H : Hp} {s : Shared} {Q : VK} {us0 : List Value} {kw : List (Str × Value)} {us : List Value} {vs : List V} (G : FnG X.prog X.w X.K X.mg X.base n f fd ps sp) (C : Cal X (n + 2) false) (hT : L2N.Takes X W)
    (I : Inv X pins σ H s) (hb : BindsTo s fd ⟨us0, kw⟩ (ps.zip us)) (r : Vals vs us) (h : sp vs H Q (xAt W σ)) : wpAny (model X.prog X.w) X.A (call (.ref f) us0 kw) (EP X pins σ Q) X.xe s := by
  refine wpAny_call (codeAny_mono (run_G G C hT I hb r h) fun r s' hq => ?_)
  cases r with
  | error e => exact hq
  | ok fl =>
    cases fl with
    | ret u => exact hq
    | next => exact False.elim hq
    | brk => exact False.elim hq
    | cont => exact False.elim hq
theorem pe_cG {x : Str} {e : Expr} {es : List Expr} {p pos : Pos} {t : TA} (G : FnG X.prog X.w X.K X.mg X.base n f fd ps sp) (C : Cal X (n + 2) false) (hT : L2N.Takes X W) (hg : Gl X x) (hm : X.mg x = some (.ref f)) (hk : PySem.W.keepIn X.K (.ref f) = true)
    (hb : ∀ (s : Shared) (us : List Value), us.length = ps.length → BindsTo s fd ⟨us, []⟩ (ps.zip us)) (ha : PA X (e :: es) t) (hdb : (x == ("__debug__" : Str)) = false)
    (he : starEach (e :: es) X.env = (false, eval e X.env) :: starEach es X.env) (hpl : (backTo pos (starEach es X.env)).any (·.1) = false) :
    PE X (.Call (.Name x p) (e :: es) [] pos) (fun σ H Q => t σ H fun vs H1 => sp vs H1 Q (xAt W σ)) := by
  refine ⟨fun pins s σ H Q I h => ?_⟩
  refine wpAny_Call_Name_kw (ld_glob I hg hm ?_ hdb)
  refine PySem.W.callWith_K (h₀ := X.base) I.ok.mod.kin hk (thn (ha.run pos pins s σ H _ I h) fun us s1 ⟨vs, H1, I1, r, q⟩ => ⟨I1.kIn, ?_⟩) he hpl
  exact run_G2 G C hT I1 (hb s1 us (by rw [← r.length]; exact G.len _ _ _ _ q)) r q
theorem pe_cGk {x : Str} {e : Expr} {es : List Expr} {kws : List Keyword} {p pos : Pos} {t tk : TA} {ks : List Str} {g : List Value → List Value → List Value} {gV : List V → List V → List V}
    (G : FnG X.prog X.w X.K X.mg X.base n f fd ps sp) (C : Cal X (n + 2) false) (hT : L2N.Takes X W) (hg : Gl X x) (hm : X.mg x = some (.ref f)) (hk : PySem.W.keepIn X.K (.ref f) = true)
    (hb : ∀ (s : Shared) (us ws : List Value), (g us ws).length = ps.length → ws.length = ks.length → us.length = (e :: es).length → BindsTo s fd ⟨us, ks.zip ws⟩ (ps.zip (g us ws)))
    (rel : ∀ {vs us zs ws}, Vals vs us → Vals zs ws → Vals (gV vs zs) (g us ws))
    (ha : PA X (e :: es) t) (hkw : PK X kws tk) (hdb : (x == ("__debug__" : Str)) = false)
    (hall : (backToKw pos (keywordEach kws X.env)).all (·.1.isSome) = true) (hks : (backToKw pos (keywordEach kws X.env)).filterMap (·.1) = ks)
    (he : starEach (e :: es) X.env = (false, eval e X.env) :: starEach es X.env)
    (hpl : ((backTo pos (starEach (e :: es) X.env)).any (·.1) || (backToKw pos (keywordEach kws X.env)).any (·.1.isNone)) = false) :
    PE X (.Call (.Name x p) (e :: es) kws pos) (fun σ H Q => t σ H fun vs H1 => vs.length = (e :: es).length ∧ tk σ H1 fun zs H2 => zs.length = ks.length ∧ sp (gV vs zs) H2 Q (xAt W σ)) := by
  refine ⟨fun pins s σ H Q I h => ?_⟩
  refine wpAny_Call_Name_kw (ld_glob I hg hm ?_ hdb)
  refine PySem.W.callWith_KW (h₀ := X.base) I.ok.mod.kin hk hall (thn (ha.run pos pins s σ H _ I h) fun us s1 ⟨vs, H1, I1, r, l1, q⟩ => ?_) hpl he
  refine thn (hkw.run pos pins s1 σ H1 _ I1 q) fun ws s2 ⟨zs, H2, I2, rz, l2, q2⟩ => ⟨I2.kIn, ?_⟩
  rw [hks]
  have r3 := rel r rz
  exact run_G2 G C hT I2 (hb s2 us ws (by rw [← r3.length]; exact G.len _ _ _ _ q2) (by rw [← rz.length]; exact l2) (by rw [← r.length]; exact l1)) r3 q2
theorem pe_cGk0 {x : Str} {kws : List Keyword} {p pos : Pos} {tk : TA} {ks : List Str} {g : List Value → List Value → List Value} {gV : List V → List V → List V}
    (G : FnG X.prog X.w X.K X.mg X.base n f fd ps sp) (C : Cal X (n + 2) false) (hT : L2N.Takes X W) (hg : Gl X x) (hm : X.mg x = some (.ref f)) (hk : PySem.W.keepIn X.K (.ref f) = true)
    (hb : ∀ (s : Shared) (us ws : List Value), (g us ws).length = ps.length → ws.length = ks.length → us.length = 0 → BindsTo s fd ⟨us, ks.zip ws⟩ (ps.zip (g us ws)))
    (rel : ∀ {vs us zs ws}, Vals vs us → Vals zs ws → Vals (gV vs zs) (g us ws))
    (hkw : PK X kws tk) (hdb : (x == ("__debug__" : Str)) = false)
    (hall : (backToKw pos (keywordEach kws X.env)).all (·.1.isSome) = true) (hks : (backToKw pos (keywordEach kws X.env)).filterMap (·.1) = ks)
    (hpl : ((backTo pos (starEach [] X.env)).any (·.1) || (backToKw pos (keywordEach kws X.env)).any (·.1.isNone)) = false) :
    PE X (.Call (.Name x p) [] kws pos) (fun σ H Q => tk σ H fun zs H2 => zs.length = ks.length ∧ sp (gV [] zs) H2 Q (xAt W σ)) := by
  refine ⟨fun pins s σ H Q I h => ?_⟩
  refine wpAny_Call_Name_kw (ld_glob I hg hm ?_ hdb)
  refine PySem.W.callWith_KW0 (h₀ := X.base) I.ok.mod.kin hk hall (thn (hkw.run pos pins s σ H _ I h) fun ws s2 ⟨zs, H2, I2, rz, l2, q2⟩ => ⟨I2.kIn, ?_⟩) hpl
  rw [hks]
  have r3 := rel (vs := []) (us := []) .nil rz
  exact run_G2 G C hT I2 (hb s2 [] ws (by rw [← r3.length]; exact G.len _ _ _ _ q2) (by rw [← rz.length]; exact l2) rfl) r3 q2
end
structure Sg where
  tb : List (Str × Fn)
  gl : List (Str × PV)
  bs : List Str
  kcs : List (Str × List Str × Nat × List Nat)
  /-- the error classes, each with those that it is one of -/
  ecs : List (Str × List Str)
  /-- in an except suite -/
  hot : Bool
def Sg.heat (g : Sg) : Sg := { g with hot := true }
noncomputable def Sg.ctx (g : Sg) (cl : Str → Nat) (n : Nat) : Ctx := ⟨callF cl g.ecs g.tb (fun x => g.gl.lookup x) n, fun x => g.gl.lookup x, cl, g.ecs⟩
def clOf (mg : Str → Option Value) (c : Str) : Nat := match mg c with
  | some (.ref C) => C
  | _ => 0
theorem clOf_eq {mg : Str → Option Value} {c : Str} {C : Addr} (h : mg c = some (.ref C)) : clOf mg c = C := by unfold clOf; rw [h]
def sw (mg : Str → Option Value) (W : WX) : SW := fun σ c v H' => ∀ C dd, mg c = some (.ref C) → H' dd = none → W (.ref C) (some dd) σ (upd H' dd (.xd [("value", v)]))
def xw (mg : Str → Option Value) (E : XK) : EW := fun c v H' => ∀ C dd, mg c = some (.ref C) → H' dd = none → E (.ref C) (some dd) (upd H' dd (.xd [("value", v)]))
def spI (K : PySem.W.Frag) (mg : Str → Option Value) (g : Sg) (n : Nat) (f : Str) : List V → Hp → VK → XK → Prop := fun vs H Q E => ∃ F r st ps, Rel K F H r st ∧ Reps K F H r vs ps ∧ Post K F (xw mg E) r H Q ((g.ctx (clOf mg) n).fn f ps st)
inductive ExN (mg : Str → Option Value) (g : Sg) (x : Str) : V → Value → Prop
  | own {l : List Str} {D : Addr} : g.ecs.lookup x = some l → mg x = some (.ref D) → ExN mg g x (.ref D) (.ref D)
  | ve : x = ("ValueError" : Str) → mg x = none → ExN mg g x (.ty "ValueError") (.type "ValueError")
def spInit (K : PySem.W.Frag) : Sp := fun vs H Q E => ∃ (a C : Addr) (v : V), vs = [.ref a, v] ∧ OexC K C ∧ PySem.W.findIn K (.ref C) "value" = some none ∧ H a = some (exo a C none) ∧
  ∀ dx, H dx = none → dx ≠ a → Q .non (upd (upd H dx (exd dx [("value", v)])) a (exo a C (some dx)))
structure EcF (P : Program) (w : World) (K : PySem.W.Frag) (mg : Str → Option Value) (base : Heap) (g : Sg) (c : Str) (anc : List Str) (C : Addr) : Prop where
  mgc : mg c = some (.ref C)
  ox : OexC K C
  kit : KitC K C
  nn : PySem.W.kitOne K (.type "NoneType") (.ref C) = some false
  isa : ∀ x cv u, ExN mg g x cv u → PySem.W.kitOne K (.ref C) u = some (decide (x ∈ anc)) ∧ PySem.W.exmOne K (.ref C) u = some (decide (x ∈ anc))
  made : ∃ fI fd, PySem.W.findIn K (.ref C) "__init__" = some (some (.ref fI)) ∧ PySem.W.typeIn K (.ref fI) = some (.type "function") ∧ FnOk P w K mg base CX0 1 fI fd ["self", "value"] (spInit K) ∧ Binds K fd ["self", "value"] []
structure Link (P : Program) (w : World) (K : PySem.W.Frag) (mg : Str → Option Value) (base : Heap) (g : Sg) (n : Nat) : Prop where
  fn : ∀ f fn, g.tb.lookup f = some fn → ∃ a fd, mg f = some (.ref a) ∧ PySem.W.keepIn K (.ref a) = true ∧ FnG P w K mg base n a fd fn.ps (spI K mg g n f) ∧
    (∀ (s : Shared) (us : List Value), us.length = fn.ps.length → BindsTo s fd ⟨us, []⟩ (fn.ps.zip us)) ∧
    ∀ ks np perm, (f, ks, np, perm) ∈ g.kcs → ∀ (s : Shared) (us ws : List Value), us.length = np → ws.length = ks.length → BindsTo s fd ⟨us, ks.zip ws⟩ (fn.ps.zip (perm.map fun i => (us ++ ws).getD i .none))
  gl : ∀ x p, g.gl.lookup x = some p → ∃ u v, mg x = some u ∧ RelV v u ∧ ∀ F H r, Rep K F H r v p
  bs : ∀ x, x ∈ g.bs → mg x = none
  ec : ∀ c anc, g.ecs.lookup c = some anc → ∃ C, EcF P w K mg base g c anc C
structure Std (X : Cx) (g : Sg) (n : Nat) (N : List Str) (sc so : Scope) (W : WX) : Prop where
  cal : Cal X (n + 2) g.hot
  link : Link X.prog X.w X.K X.mg X.base g n
  eN : X.N = N
  nd : N.Nodup
  eS : X.env.scope = sc
  so : ∀ x, (so.names.lookup x = some .local ∨ so.names.lookup x = some .cell) → Loc sc x ∧ (X.fn x = true ∨ sc.names.lookup x = some .local)
  tk : L2N.Takes X W
def okS : Expr → Bool
  | .BoolOp .. => true
  | .BinOp .. => true
  | .UnaryOp .. => true
  | .IfExp .. => true
  | .ListComp .. => true
  | .Compare .. => true
  | .Call .. => true
  | .Constant .. => true
  | .Subscript .. => true
  | .Name .. => true
  | .List .. => true
  | .Tuple .. => true
  | .Attribute .. => true
  | .Dict .. => true
  | _ => false
def isLC : Expr → Bool
  | .ListComp .. => true
  | _ => false
theorem okS_star {e : Expr} (h : okS e = true) (es : List Expr) (env : PySem.Env) : starEach (e :: es) env = (false, eval e env) :: starEach es env := by
  cases e <;> first | rfl | cases h
theorem okS_ix {e : Expr} (h : okS e = true) : PlainIx e := by
  cases e <;> first | exact fun _ _ => rfl | cases h
theorem okS_set {e : Expr} (h : okS e = true) (env : PySem.Env) (x : Value) : foldedSetIterable e env x = pure x := by
  cases e <;> first | rfl | cases h
theorem okS_sw {e : Expr} (h : okS e = true) (h2 : isLC e = false) (t : Option Expr) (l : Nat) (env : PySem.Env) : swapsWith e t l env = pure false := by
  cases e <;> first | rfl | exact Bool.noConfusion h | exact Bool.noConfusion h2
theorem okS_in {e : Expr} (h : okS e = true) (op : CmpOp) : behindInMarks op e = false := by
  cases e <;> first | rfl | cases h
theorem okS_aug {e : Expr} (h : okS e = true) (ov iv new : Value) : augStore e ov iv new = (do holding [new, ov, iv] (setItem ov iv new); release [new, ov, iv] []; pure .next) := by
  cases e <;> first | rfl | cases h
theorem okS_asg {i : Expr} (h : okS i = true) (o : Expr) (pos : Pos) (env : PySem.Env) (v : Value) : assign (.Subscript o i pos) env v = (do
      let ov ← holding [v] (eval o env)
      let iv ← holding [v, ov] (eval i env)
      standAt pos
      holding [v, ov, iv] (setItem ov iv v)
      release [v, ov, iv] []) := by
  cases i <;> first | rfl | cases h
theorem okS_any {es : List Expr} (h : es.all okS = true) (pos : Pos) (env : PySem.Env) : (backTo pos (starEach es env)).any (·.1) = false := by
  induction es with
  | nil => rfl
  | cons e es ih =>
    simp only [List.all_cons, Bool.and_eq_true] at h
    rw [okS_star h.1]
    show (false || (backTo pos (starEach es env)).any (·.1)) = false
    rw [ih h.2, Bool.or_false]
def cstOk : PV → Const → Bool
  | .non, .none => true
  | .bl b, .bool c => b == c
  | .int i, .int j => i == j
  | .str s, .str t => s == t
  | _, _ => false
def vis (sc : Scope) (x : Str) : Bool := match sc.names.lookup x with
  | some .local => true
  | some .cell => true
  | some .free => true
  | _ => false
def loc (sc : Scope) (x : Str) : Bool := match sc.names.lookup x with
  | some .local => true
  | some .cell => true
  | _ => false
def glb (sc : Scope) (x : Str) : Bool := (match sc.names.lookup x with
  | some .globalImplicit => true
  | _ => false) && !(x == ("__debug__" : Str))
theorem vis_of {sc : Scope} {x : Str} (h : vis sc x = true) : Vis sc x := by
  unfold vis at h
  split at h
  · exact .inl (by assumption)
  · exact .inr (.inl (by assumption))
  · exact .inr (.inr (by assumption))
  · cases h
theorem loc_of {sc : Scope} {x : Str} (h : loc sc x = true) : sc.names.lookup x = some .local ∨ sc.names.lookup x = some .cell := by
  unfold loc at h
  split at h
  · exact .inl (by assumption)
  · exact .inr (by assumption)
  · cases h
theorem glb_of {sc : Scope} {x : Str} (h : glb sc x = true) : sc.names.lookup x = some .globalImplicit ∧ (x == ("__debug__" : Str)) = false := by
  unfold glb at h
  simp only [Bool.and_eq_true, Bool.not_eq_true'] at h
  refine ⟨?_, h.2⟩
  have := h.1
  split at this
  · assumption
  · cases this
def nmOk (N : List Str) (sc : Scope) (i : Nat) (x : Str) : Bool := decide (N[i]? = some x) && vis sc x && !(x == ("__debug__" : Str)) && !(x == ("__classdict__" : Str))
def ownL (N : List Str) (own : List Nat) : List (Str × Nat) := own.map fun i => (N.getD i "", i)
def chkP (N : List Str) (so : Scope) : Pt → Expr → Bool
  | .n i, .Name x _ => decide (N[i]? = some x) && loc so x
  | .t2 a b, .Tuple [x, y] _ _ => chkP N so a x && chkP N so b y
  | .t3 a b c, .Tuple [x, y, z] _ _ => chkP N so a x && chkP N so b y && chkP N so c z
  | .t4 a b c d, .Tuple [x, y, z, u] _ _ => chkP N so a x && chkP N so b y && chkP N so c z && chkP N so d u
  | .t5 a b c d e, .Tuple [x, y, z, u, v] _ _ => chkP N so a x && chkP N so b y && chkP N so c z && chkP N so d u && chkP N so e v
  | _, _ => false
def tyNames : List String := ["int", "bool", "str", "tuple", "list"]
def kwNames : List Keyword → List Str
  | [] => []
  | ⟨some k, _, _⟩ :: r => k :: kwNames r
  | ⟨none, _, _⟩ :: r => kwNames r
def isTgT : Expr → Bool
  | .Tuple .. => true
  | _ => false
def needsT : Ix → Bool
  | .zip .. => true
  | .enm .. => true
  | _ => false
def excOk (g : Sg) (c : Str) : Bool := (g.ecs.lookup c).isSome || (decide (c = ("ValueError" : Str)) && decide (c ∈ g.bs))
def keysOk : List Str → List (Option Expr) → Bool
  | [], [] => true
  | k :: ks, some (.Constant (.str x) _ _) :: r => decide (x = k) && keysOk ks r
  | _, _ => false
def keysG (g : Sg) (sc : Scope) : List Str → List (Option Expr) → Bool
  | [], [] => true
  | k :: ks, some (.Constant (.str x) _ _) :: r => decide (x = k) && keysG g sc ks r
  | k :: ks, some (.Name x _) :: r => glb sc x && (match g.gl.lookup x with | some (.str y) => decide (y = k) | _ => false) && keysG g sc ks r
  | _, _ => false
mutual
def chkE (g : Sg) (N : List Str) (sc : Scope) : Ex → Expr → Bool
  | .c v, .Constant k _ _ => cstOk v k
  | .v i, .Name x _ => nmOk N sc i x
  | .g y, .Name x _ => decide (x = y) && glb sc x && (g.gl.lookup x).isSome
  | .bin o _ a b, .BinOp ea op eb _ => decide (op = opB o) && chkE g N sc a ea && chkE g N sc b eb
  | .neg a, .UnaryOp .USub ea _ => chkE g N sc a ea
  | .nt a, .UnaryOp .Not ea _ => chkE g N sc a ea
  | .cmp o a b, .Compare ea [op] [eb] _ => decide (op = opC o) && chkE g N sc a ea && chkE g N sc b eb
  | .chn o o2 a b c, .Compare ea [op, op2] [eb, ec] _ => decide (op = opC o) && decide (op2 = opC o2) && chkE g N sc a ea && chkE g N sc b eb && chkE g N sc c ec
  | .ands es, .BoolOp .And ees _ => decide (2 ≤ ees.length) && chkEs g N sc es ees
  | .ors es, .BoolOp .Or ees _ => decide (2 ≤ ees.length) && chkEs g N sc es ees
  | .ite c a b, .IfExp ec ea eb _ => chkE g N sc c ec && chkE g N sc a ea && chkE g N sc b eb
  | .tup es, .Tuple ees _ _ => chkEs g N sc es ees
  | .lst _ es, .List ees _ => chkEs g N sc es ees
  | .ix a b, .Subscript ea eb _ => chkE g N sc a ea && chkE g N sc b eb
  | .slA _ a lo hi, .Subscript ea (.Slice (some el) (some eh) none _) _ => chkE g N sc a ea && chkE g N sc lo el && chkE g N sc hi eh
  | .slF _ a lo, .Subscript ea (.Slice (some el) none none _) _ => chkE g N sc a ea && chkE g N sc lo el
  | .slT _ a hi, .Subscript ea (.Slice none (some eh) none _) _ => chkE g N sc a ea && chkE g N sc hi eh
  | .slR _ a, .Subscript ea (.Slice none none (some (.UnaryOp .USub (.Constant (.int 1) _ _) _)) _) _ => chkE g N sc a ea
  | .dsp ks es i, .Subscript (.Dict keys values _) ei _ => okS ei && keysOk ks keys && decide (ks.length = values.length) && decide (ks.length ≤ 15) && decide (ks ≠ []) && decide ks.Nodup && chkEs g N sc es values && chkE g N sc i ei
  | .nev, .Call a b c d => okS (.Call a b c d)
  | .rg1 a, .Call (.Name x _) [ea] [] _ => !g.hot && (decide (x = ("range" : Str)) && glb sc x && decide (x ∈ g.bs) && okS ea && chkE g N sc a ea)
  | .lrg _ a, .Call (.Name y _) [.Call (.Name x _) [ea] [] _] [] _ => !g.hot && (decide (y = ("list" : Str)) && glb sc y && decide (y ∈ g.bs) && decide (x = ("range" : Str)) && glb sc x && decide (x ∈ g.bs) && okS ea && chkE g N sc a ea)
  | .maxd a d, .Call (.Name x _) [ea] [⟨some k, ed, _⟩] _ => !g.hot && (decide (x = ("max" : Str)) && glb sc x && decide (x ∈ g.bs) && decide (k = ("default" : Str)) && okS ea && okS ed && chkE g N sc a ea && chkE g N sc d ed)
  | .slN _ a, .Subscript ea (.Slice none (some (.Constant (.int 0) _ _)) (some (.UnaryOp .USub (.Constant (.int 1) _ _) _)) _) _ => chkE g N sc a ea
  | .dct ks es, .Dict keys values _ => keysG g sc ks keys && decide (ks.length = values.length) && decide (ks.length ≤ 15) && decide (ks ≠ []) && decide ks.Nodup && chkEs g N sc es values
  | .dget a b, .Subscript ea eb _ => okS eb && chkE g N sc a ea && chkE g N sc b eb
  | .din neg a b, .Compare ea [op] [eb] _ => decide (op = if neg = true then .NotIn else .In) && chkE g N sc a ea && chkE g N sc b eb
  | .slK _ a k, .Subscript ea (.Slice none none (some ek) _) _ => chkE g N sc a ea && chkE g N sc k ek
  | .srt _ own p it e, .Call (.Name x _) [.DictComp kx (.Constant (.bool true) _ _) [⟨tg, iter, [], 0⟩] scope _] [] _ => !g.hot && (decide (x = ("sorted" : Str)) && glb sc x && decide (x ∈ g.bs) && blkC N sc scope (ownL N own) && chkI g N sc it iter && okS iter && (!needsT it || isTgT tg) && decide (∀ i ∈ p.slots, i ∈ own) && chkP N scope p tg && chkE g N (relS scope sc) e kx)
  | .call f es, .Call (.Name x _) (a :: ees) [] _ => !g.hot && (decide (x = f) && glb sc x && (g.tb.lookup f).isSome && chkEs g N sc es (a :: ees))
  | .callk f es ks perm, .Call (.Name x _) ees kws _ => !g.hot && (decide (x = f) && glb sc x && (g.tb.lookup f).isSome && kws.all (fun k => k.arg.isSome) && !kws.isEmpty && decide ((f, kwNames kws, ees.length, perm) ∈ g.kcs) && chkEs g N sc es ees && chkEs g N sc ks (kws.map (·.value)))
  | .bi f _ es, .Call (.Name x _) (a :: ees) [] _ => (!g.hot || coolBi f) && (decide (x = biName f) && glb sc x && decide (x ∈ g.bs) && chkEs g N sc es (a :: ees))
  | .isi e T, .Call (.Name x _) [ee, .Name t _] [] _ => decide (x = ("isinstance" : Str)) && glb sc x && decide (x ∈ g.bs) && decide (t = Str.ofString T) && glb sc t && decide (t ∈ g.bs) && decide (T ∈ tyNames) && chkE g N sc e ee
  | .fld i, .Attribute (.Name x _) y _ => nmOk N sc i x && decide (y = ("value" : Str))
  | .ise e c, .Call (.Name x _) [ee, .Name t _] [] _ => decide (x = ("isinstance" : Str)) && glb sc x && decide (x ∈ g.bs) && decide (t = c) && glb sc t && excOk g c && chkE g N sc e ee
  | .me m i es, .Call (.Attribute (.Name y _) x apos) ees [] cpos => nmOk N sc i y && decide (x = meName m) && (apos.endLine == cpos.line) && decide (ees.length ≤ 1) && chkEs g N sc es ees
  | .lc _ own p it cs e, .ListComp elt [⟨tg, iter, ifs, 0⟩] scope _ => !g.hot && (blkC N sc scope (ownL N own) && chkI g N sc it iter && okS iter && (!needsT it || isTgT tg) && decide (∀ i ∈ p.slots, i ∈ own) && chkP N scope p tg && decide (ifs.length ≤ 1) && chkEs g N (relS scope sc) cs ifs && chkE g N (relS scope sc) e elt)
  | .lc2 _ own p it cs vs2 p2 it2 cs2 e, .ListComp elt [⟨tg, iter, ifs, 0⟩, ⟨tg2, iter2, ifs2, 0⟩] scope _ => !g.hot && (blkC N sc scope (ownL N own) && chkI g N sc it iter && okS iter && (!needsT it || isTgT tg) && decide (∀ i ∈ p.slots, i ∈ own) && chkP N scope p tg && decide (ifs.length ≤ 1) && chkEs g N (relS scope sc) cs ifs &&
      decide (∀ i ∈ vs2, i ∈ own) && chkI g N (relS scope sc) it2 iter2 && okS iter2 && (!needsT it2 || isTgT tg2) && decide (∀ i ∈ p2.slots, i ∈ vs2) && chkP N scope p2 tg2 && decide (ifs2.length ≤ 1) && chkEs g N (relS scope sc) cs2 ifs2 && chkE g N (relS scope sc) e elt)
  | _, _ => false
def chkEs (g : Sg) (N : List Str) (sc : Scope) : Exs → List Expr → Bool
  | .nil, [] => true
  | .cons e es, ee :: ees => okS ee && chkE g N sc e ee && chkEs g N sc es ees
  | _, _ => false
def chkI (g : Sg) (N : List Str) (sc : Scope) : Ix → Expr → Bool
  | .rng1 a, .Call (.Name x _) [ea] [] _ => decide (x = ("range" : Str)) && glb sc x && decide (x ∈ g.bs) && okS ea && chkE g N sc a ea
  | .rng2 a b, .Call (.Name x _) [ea, eb] [] _ => decide (x = ("range" : Str)) && glb sc x && decide (x ∈ g.bs) && okS ea && okS eb && chkE g N sc a ea && chkE g N sc b eb
  | .rng3 a b c, .Call (.Name x _) [ea, eb, .UnaryOp .USub (.Constant (.int k) _ _) _] [] _ => decide (x = ("range" : Str)) && glb sc x && decide (x ∈ g.bs) && okS ea && okS eb && decide (c = -k) && chkE g N sc a ea && chkE g N sc b eb
  | .zip a b, .Call (.Name x _) [ea, eb] [] _ => decide (x = ("zip" : Str)) && glb sc x && decide (x ∈ g.bs) && okS ea && okS eb && chkE g N sc a ea && chkE g N sc b eb
  | .enm a, .Call (.Name x _) [ea] [] _ => decide (x = ("enumerate" : Str)) && glb sc x && decide (x ∈ g.bs) && okS ea && chkE g N sc a ea
  | .val e, ee => okS ee && chkE g N sc e ee
  | .kr e, ee => okS ee && chkE g N sc e ee
  | _, _ => false
end
end L2.Iv
namespace L2.Iv
open PySem PySem.Spec PyProof.Rows
section
variable {K : PySem.W.Frag} {F F2 : List Addr} {H H' : Hp} {r r' : List Addr} {st : Store} {v : V} {p : PV} {vs : List V} {ps : List PV} {env : Env} {σ : St}
structure AftF (F : List Addr) (r : List Addr) (H : Hp) (r' : List Addr) (H' : Hp) : Prop where
  pre : ∃ r2, r' = r ++ r2
  keep : ∀ a o, H a = some o → a ∉ r → a ∉ F → H' a = some o ∧ a ∉ r'
theorem Aft.toF (A : Aft r H r' H') : AftF F r H r' H' := ⟨A.pre, fun a o e n _ => A.keep a o e n⟩
theorem AftF.trans {r1 r2 : List Addr} {H1 H2 : Hp} (a : AftF F r H r1 H1) (b : AftF F r1 H1 r2 H2) : AftF F r H r2 H2 := by
  obtain ⟨x, e1⟩ := a.pre
  obtain ⟨y, e2⟩ := b.pre
  refine ⟨⟨x ++ y, by rw [e2, e1, List.append_assoc]⟩, fun c o e n m => ?_⟩
  obtain ⟨q1, q2⟩ := a.keep c o e n m
  exact b.keep c o q1 q2 m
theorem AftF.get {i : Nat} {a : Addr} (x : AftF F r H r' H') (e : r[i]? = some a) : r'[i]? = some a := by
  obtain ⟨y, e1⟩ := x.pre
  rw [e1, List.getElem?_append_left (List.getElem?_eq_some_iff.mp e).1]
  exact e
theorem AftF.less (A : AftF F2 r H r' H') (h : ∀ b ∈ F2, b ∈ F) : AftF F r H r' H' := ⟨A.pre, fun a o e n m => A.keep a o e n fun z => m (h a z)⟩
theorem Rel.notF (R : Rel K F H r st) {a : Addr} {o : HO} (h : H a = some o) (n : ∀ vs, o ≠ .lst vs) : a ∉ F := fun m => by
  obtain ⟨vs, e⟩ := R.fs a m
  rw [h] at e; cases e; exact n vs rfl
theorem SqT.aftF {a : Addr} (R : Rel K F H r st) (A : AftF F r H r' H') (h : SqT K H a vs) : SqT K H' a vs := by
  rcases h with (h | ⟨o, h⟩) | h
  · exact .inl (.inl (A.keep a _ h (R.notin h (fun _ z => nomatch z)) (R.notF h (fun _ z => nomatch z))).1)
  · exact .inl (.inr ⟨o, (A.keep a _ h (R.notin h (fun _ z => nomatch z)) (R.notF h (fun _ z => nomatch z))).1⟩)
  · exact .inr h
theorem SqF.aft2 {a : Addr} (R : Rel K F H r st) (A : AftF F r H r' H') (hF : ∀ b ∈ F2, b ∈ F ∨ H b = none) (h : SqF K F H r a vs) : SqF K F2 H' r' a vs := by
  rcases h with ⟨h, n1, n2⟩ | ⟨o, h⟩ | h
  · refine .inl ⟨(A.keep a _ h n1 n2).1, (A.keep a _ h n1 n2).2, fun m => ?_⟩
    rcases hF a m with z | z
    · exact n2 z
    · rw [h] at z; cases z
  · exact .inr (.inl ⟨o, (A.keep a _ h (R.notin h (fun _ z => nomatch z)) (R.notF h (fun _ z => nomatch z))).1⟩)
  · exact .inr (.inr h)
mutual
theorem Rep.aft2 (R : Rel K F H r st) (A : AftF F r H r' H') (hF : ∀ b ∈ F2, b ∈ F ∨ H b = none) : ∀ {v : V} {p : PV}, Rep K F H r v p → Rep K F2 H' r' v p
  | _, _, .non => .non
  | _, _, .bl b => .bl b
  | _, _, .int i => .int i
  | _, _, .str x => .str x
  | _, _, .lsv h q => .lsv (h.aft2 R A hF) (Reps.aft2 R A hF q)
  | _, _, .tup h q => .tup (SqT.aftF R A h) (Reps.aft2 R A hF q)
  | _, _, .loc e => .loc (A.get e)
  | _, _, .exn h1 h2 q => .exn (A.keep _ _ h1 (R.notin h1 (fun _ z => nomatch z)) (R.notF h1 (fun _ z => nomatch z))).1 (A.keep _ _ h2 (R.notin h2 (fun _ z => nomatch z)) (R.notF h2 (fun _ z => nomatch z))).1 (Rep.aft2 R A hF q)
  | _, _, .dct h n q => .dct (A.keep _ _ h (R.notin h (fun _ z => nomatch z)) (R.notF h (fun _ z => nomatch z))).1 n (Reps.aft2 R A hF q)
  | _, _, .rgo h => .rgo (A.keep _ _ h (R.notin h (fun _ z => nomatch z)) (R.notF h (fun _ z => nomatch z))).1
theorem Reps.aft2 (R : Rel K F H r st) (A : AftF F r H r' H') (hF : ∀ b ∈ F2, b ∈ F ∨ H b = none) : ∀ {vs : List V} {ps : List PV}, Reps K F H r vs ps → Reps K F2 H' r' vs ps
  | _, _, .nil => .nil
  | _, _, .cons h q => .cons (Rep.aft2 R A hF h) (Reps.aft2 R A hF q)
end
theorem EnvRel.aft2 (R : Rel K F H r st) (A : AftF F r H r' H') (hF : ∀ b ∈ F2, b ∈ F ∨ H b = none) (e : EnvRel K F H r env σ) : EnvRel K F2 H' r' env σ :=
  ⟨e.len, fun i p h => let ⟨v, h1, h2⟩ := e.get i p h; ⟨v, h1, h2.aft2 R A hF⟩⟩
theorem SqF.less {a : Addr} (hF : ∀ b ∈ F2, b ∈ F) (h : SqF K F H r a vs) : SqF K F2 H r a vs := by
  rcases h with ⟨h, n1, n2⟩ | h | h
  · exact .inl ⟨h, n1, fun m => n2 (hF a m)⟩
  · exact .inr (.inl h)
  · exact .inr (.inr h)
mutual
theorem Rep.less (hF : ∀ b ∈ F2, b ∈ F) : ∀ {v : V} {p : PV}, Rep K F H r v p → Rep K F2 H r v p
  | _, _, .non => .non
  | _, _, .bl b => .bl b
  | _, _, .int i => .int i
  | _, _, .str x => .str x
  | _, _, .lsv h q => .lsv (h.less hF) (Reps.less hF q)
  | _, _, .tup h q => .tup h (Reps.less hF q)
  | _, _, .loc e => .loc e
  | _, _, .exn h1 h2 q => .exn h1 h2 (Rep.less hF q)
  | _, _, .dct h n q => .dct h n (Reps.less hF q)
  | _, _, .rgo h => .rgo h
theorem Reps.less (hF : ∀ b ∈ F2, b ∈ F) : ∀ {vs : List V} {ps : List PV}, Reps K F H r vs ps → Reps K F2 H r vs ps
  | _, _, .nil => .nil
  | _, _, .cons h q => .cons (Rep.less hF h) (Reps.less hF q)
end
theorem Rel.less (R : Rel K F H r st) (hF : ∀ b ∈ F2, b ∈ F) : Rel K F2 H r st :=
  ⟨R.len, R.nd, fun i a xs e1 e2 => let ⟨vs, h1, h2⟩ := R.cells i a xs e1 e2; ⟨vs, h1, h2.less hF⟩, fun a ha m => R.apart a ha (hF a m), fun a ha => R.fs a (hF a ha)⟩
theorem EnvRel.less (e : EnvRel K F H r env σ) (hF : ∀ b ∈ F2, b ∈ F) : EnvRel K F2 H r env σ :=
  ⟨e.len, fun i p h => let ⟨v, h1, h2⟩ := e.get i p h; ⟨v, h1, h2.less hF⟩⟩
theorem Rel.shut (R : Rel K F H r st) {D : Addr} (h : H D = none) : Rel K (D :: F) (upd H D (.lst [])) r st := by
  have hF : ∀ b ∈ D :: F, b ∈ F ∨ H b = none := fun b hb => by
    rcases List.mem_cons.mp hb with rfl | hb
    · exact .inr h
    · exact .inl hb
  refine ⟨R.len, R.nd, fun i a xs e1 e2 => ?_, fun a ha m => ?_, fun a ha => ?_⟩
  · obtain ⟨vs, h1, h2⟩ := R.cells i a xs e1 e2
    exact ⟨vs, by rw [upd_ne (ne_of_none h1 h)]; exact h1, h2.aft2 R (Aft.toF (.new h)) hF⟩
  · rcases List.mem_cons.mp m with rfl | m
    · exact (R.fresh h).1 ha
    · exact R.apart a ha m
  · rcases List.mem_cons.mp ha with rfl | ha
    · exact ⟨[], upd_same⟩
    · obtain ⟨vs, e⟩ := R.fs a ha
      exact ⟨vs, by rw [upd_ne (ne_of_none e h)]; exact e⟩
theorem SqF.wr {a D : Addr} {o : HO} {ws : List V} (hD : D ∈ F) (hl : H D = some (.lst ws)) (h : SqF K F H r a vs) : SqF K F (upd H D o) r a vs := by
  rcases h with ⟨h, n1, n2⟩ | ⟨u, h⟩ | h
  · exact .inl ⟨by rw [upd_ne (by rintro rfl; exact n2 hD)]; exact h, n1, n2⟩
  · exact .inr (.inl ⟨u, by rw [upd_ne (by rintro rfl; rw [hl] at h; cases h)]; exact h⟩)
  · exact .inr (.inr h)
theorem SqT.wr {a D : Addr} {o : HO} {ws : List V} (hl : H D = some (.lst ws)) (h : SqT K H a vs) : SqT K (upd H D o) a vs := by
  rcases h with (h | ⟨u, h⟩) | h
  · exact .inl (.inl (by rw [upd_ne (by rintro rfl; rw [hl] at h; cases h)]; exact h))
  · exact .inl (.inr ⟨u, by rw [upd_ne (by rintro rfl; rw [hl] at h; cases h)]; exact h⟩)
  · exact .inr h
mutual
theorem Rep.wr {D : Addr} {o : HO} {ws : List V} (hD : D ∈ F) (hl : H D = some (.lst ws)) : ∀ {v : V} {p : PV}, Rep K F H r v p → Rep K F (upd H D o) r v p
  | _, _, .non => .non
  | _, _, .bl b => .bl b
  | _, _, .int i => .int i
  | _, _, .str x => .str x
  | _, _, .lsv h q => .lsv (h.wr hD hl) (Reps.wr hD hl q)
  | _, _, .tup h q => .tup (SqT.wr hl h) (Reps.wr hD hl q)
  | _, _, .loc e => .loc e
  | _, _, .exn h1 h2 q => .exn (by rw [upd_ne (by rintro rfl; rw [hl] at h1; cases h1)]; exact h1) (by rw [upd_ne (by rintro rfl; rw [hl] at h2; cases h2)]; exact h2) (Rep.wr hD hl q)
  | _, _, .dct h n q => .dct (by rw [upd_ne (by rintro rfl; rw [hl] at h; cases h)]; exact h) n (Reps.wr hD hl q)
  | _, _, .rgo h => .rgo (by rw [upd_ne (by rintro rfl; rw [hl] at h; cases h)]; exact h)
theorem Reps.wr {D : Addr} {o : HO} {ws : List V} (hD : D ∈ F) (hl : H D = some (.lst ws)) : ∀ {vs : List V} {ps : List PV}, Reps K F H r vs ps → Reps K F (upd H D o) r vs ps
  | _, _, .nil => .nil
  | _, _, .cons h q => .cons (Rep.wr hD hl h) (Reps.wr hD hl q)
end
theorem Rel.wr (R : Rel K F H r st) {D : Addr} {ws us : List V} (hD : D ∈ F) (hl : H D = some (.lst ws)) : Rel K F (upd H D (.lst us)) r st := by
  refine ⟨R.len, R.nd, fun i a xs e1 e2 => ?_, R.apart, fun a ha => ?_⟩
  · obtain ⟨vs, h1, h2⟩ := R.cells i a xs e1 e2
    have ne : a ≠ D := by
      rintro rfl
      exact R.apart _ (List.mem_of_getElem? e1) hD
    exact ⟨vs, by rw [upd_ne ne]; exact h1, h2.wr hD hl⟩
  · by_cases ne : a = D
    · subst ne; exact ⟨us, upd_same⟩
    · obtain ⟨vs, e⟩ := R.fs a ha
      exact ⟨vs, by rw [upd_ne ne]; exact e⟩
theorem EnvRel.wr {D : Addr} {ws us : List V} (e : EnvRel K F H r env σ) (hD : D ∈ F) (hl : H D = some (.lst ws)) : EnvRel K F (upd H D (.lst us)) r env σ :=
  ⟨e.len, fun i p h => let ⟨v, h1, h2⟩ := e.get i p h; ⟨v, h1, h2.wr hD hl⟩⟩
end
theorem wipe_set_in (σ : St) (x : Option V) : ∀ (vs : List Nat) (i : Nat), i ∈ vs → wipe (σ.set i x) vs = wipe σ vs
  | [], _, h => by cases h
  | v :: vs, i, h => by
    have comm : ∀ (ws : List Nat) (τ : St), wipe (τ.set i x) ws = wipe τ ws ∨ wipe (τ.set i x) ws = (wipe τ ws).set i x := by
      intro ws
      induction ws with
      | nil => intro τ; exact .inr rfl
      | cons a ws ih =>
        intro τ
        show (wipe (τ.set i x) ws).set a none = (wipe τ ws).set a none ∨ (wipe (τ.set i x) ws).set a none = ((wipe τ ws).set a none).set i x
        rcases ih τ with e | e
        · rw [e]; exact .inl rfl
        · rw [e]
          by_cases ha : a = i
          · subst ha; rw [List.set_set]; exact .inl rfl
          · exact .inr (List.set_comm _ _ (Ne.symm ha))
    show (wipe (σ.set i x) vs).set v none = (wipe σ vs).set v none
    by_cases hv : v = i
    · subst hv
      rcases comm vs σ with e | e
      · rw [e]
      · rw [e, List.set_set]
    · have hi : i ∈ vs := by
        rcases List.mem_cons.mp h with e | h
        · exact absurd e.symm hv
        · exact h
      rw [wipe_set_in σ x vs i hi]
def gI (K : PySem.W.Frag) (F : List Addr) (p : Pt) : TG := fun v σ H Q => ∃ r st env q env', Rel K F H r st ∧ EnvRel K F H r env σ ∧ Rep K F H r v q ∧ asgP p q env = some env' ∧
  ∀ σ', EnvRel K F H r env' σ' → (∀ vs : List Nat, (∀ i ∈ p.slots, i ∈ vs) → wipe σ' vs = wipe σ vs) → Q σ' H
theorem PG.imp {X : Cx} {e : Expr} {t t' : TG} (h : PG X e t) (i : ∀ v σ H Q, t' v σ H Q → t v σ H Q) : PG X e t' := ⟨fun pins s σ H v u Q I r q => h.run pins s σ H v u Q I r (i _ _ _ _ q)⟩
section
variable {X : Cx} {g : Sg} {n : Nat} {N : List Str} {sc so : Scope} {W : WX}
theorem pg_I (S : Std X g n N sc so W) (hh : g.hot = false) (F : List Addr) : ∀ (p : Pt) (e : Expr), chkP N so p e = true → PG X e (gI X.K F p) ∧ (∀ es env, assignEach (e :: es) env = (false, assign e env) :: assignEach es env) := by
  intro p
  induction p with
  | n i =>
    intro e h
    cases e <;> first | (cases h; done) | skip
    rename_i x pos
    simp only [chkP, Bool.and_eq_true, decide_eq_true_eq] at h
    obtain ⟨hl, hf⟩ := S.so x (loc_of h.2)
    have hN : X.N.Nodup := by rw [S.eN]; exact S.nd
    refine ⟨PG.imp (pg_name hN (by rw [S.eN]; exact h.1) (by rw [S.eS]; exact hl) (by rw [S.eS]; exact hf)) fun v σ H Q q => ?_, fun _ _ => rfl⟩
    obtain ⟨r, st, env, q, env', R, E, hv, e1, h⟩ := q
    cases e1
    exact h _ (E.set i hv) fun vs hvs => wipe_set_in σ _ vs i (hvs i (by simp [Pt.slots]))
  | t2 a b iha ihb =>
    intro e h
    cases e <;> first | (cases h; done) | skip
    rename_i es k pos
    match es, h with
    | [x, y], h =>
      simp only [chkP, Bool.and_eq_true] at h
      obtain ⟨g1, a1⟩ := iha x h.1
      obtain ⟨g2, a2⟩ := ihb y h.2
      refine ⟨PG.imp (pg_tup (S.cal.calm hh) (pgs_cons g1 (pgs_cons g2 pgs_nil (by rw [a2]; rfl)) (by rw [a1]; rfl)) (n := 2) (by rw [a1, a2]; rfl) (by rw [a1, a2]; rfl)) fun v σ H Q q => ?_, fun _ _ => rfl⟩
      obtain ⟨r, st, env, q, env', R, E, hv, e1, h⟩ := q
      cases hv with
      | @tup ad vs ds hs hq =>
        match ds, e1, hq with
        | [p1, p2], e1, hq =>
          simp only [asgP, Option.bind_eq_some_iff] at e1
          obtain ⟨env1, e1, e2⟩ := e1
          refine ⟨ad, vs, rfl, hs, hq.length, ?_⟩
          cases hq with | cons h1 hq => cases hq with | cons h2 hq =>
          cases hq
          refine ⟨_, _, rfl, r, st, env, p1, env1, R, E, h1, e1, fun σ1 E1 w1 => ⟨_, _, rfl, r, st, env1, p2, env', R, E1, h2, e2, fun σ2 E2 w2 => ⟨rfl, h σ2 E2 fun vs hvs => ?_⟩⟩⟩
          rw [w2 vs fun i hi => hvs i (by simp [Pt.slots, hi]), w1 vs fun i hi => hvs i (by simp [Pt.slots, hi])]
        | [], e1, _ => cases e1
        | [_], e1, _ => cases e1
        | _ :: _ :: _ :: _, e1, _ => cases e1
      | _ => cases e1
    | [], h => cases h
    | [_], h => cases h
    | _ :: _ :: _ :: _, h => cases h
  | t3 a b c iha ihb ihc =>
    intro e h
    cases e <;> first | (cases h; done) | skip
    rename_i es k pos
    match es, h with
    | [x, y, z], h =>
      simp only [chkP, Bool.and_eq_true] at h
      obtain ⟨g1, a1⟩ := iha x h.1.1
      obtain ⟨g2, a2⟩ := ihb y h.1.2
      obtain ⟨g3, a3⟩ := ihc z h.2
      refine ⟨PG.imp (pg_tup (S.cal.calm hh) (pgs_cons g1 (pgs_cons g2 (pgs_cons g3 pgs_nil (by rw [a3]; rfl)) (by rw [a2]; rfl)) (by rw [a1]; rfl)) (n := 3) (by rw [a1, a2, a3]; rfl) (by rw [a1, a2, a3]; rfl)) fun v σ H Q q => ?_, fun _ _ => rfl⟩
      obtain ⟨r, st, env, q, env', R, E, hv, e1, h⟩ := q
      cases hv with
      | @tup ad vs ds hs hq =>
        match ds, e1, hq with
        | [p1, p2, p3], e1, hq =>
          simp only [asgP, Option.bind_eq_some_iff] at e1
          obtain ⟨env2, ⟨env1, e1, e2⟩, e3⟩ := e1
          refine ⟨ad, vs, rfl, hs, hq.length, ?_⟩
          cases hq with | cons h1 hq => cases hq with | cons h2 hq => cases hq with | cons h3 hq =>
          cases hq
          refine ⟨_, _, rfl, r, st, env, p1, env1, R, E, h1, e1, fun σ1 E1 w1 => ⟨_, _, rfl, r, st, env1, p2, env2, R, E1, h2, e2, fun σ2 E2 w2 => ⟨_, _, rfl, r, st, env2, p3, env', R, E2, h3, e3, fun σ3 E3 w3 => ⟨rfl, h σ3 E3 fun vs hvs => ?_⟩⟩⟩⟩
          rw [w3 vs fun i hi => hvs i (by simp [Pt.slots, hi]), w2 vs fun i hi => hvs i (by simp [Pt.slots, hi]), w1 vs fun i hi => hvs i (by simp [Pt.slots, hi])]
        | [], e1, _ => cases e1
        | [_], e1, _ => cases e1
        | [_, _], e1, _ => cases e1
        | _ :: _ :: _ :: _ :: _, e1, _ => cases e1
      | _ => cases e1
    | [], h => cases h
    | [_], h => cases h
    | [_, _], h => cases h
    | _ :: _ :: _ :: _ :: _, h => cases h
  | t4 a b c d iha ihb ihc ihd =>
    intro e h
    cases e <;> first | (cases h; done) | skip
    rename_i es k pos
    match es, h with
    | [x, y, z, u], h =>
      simp only [chkP, Bool.and_eq_true] at h
      obtain ⟨g1, a1⟩ := iha x h.1.1.1
      obtain ⟨g2, a2⟩ := ihb y h.1.1.2
      obtain ⟨g3, a3⟩ := ihc z h.1.2
      obtain ⟨g4, a4⟩ := ihd u h.2
      refine ⟨PG.imp (pg_tup (S.cal.calm hh) (pgs_cons g1 (pgs_cons g2 (pgs_cons g3 (pgs_cons g4 pgs_nil (by rw [a4]; rfl)) (by rw [a3]; rfl)) (by rw [a2]; rfl)) (by rw [a1]; rfl)) (n := 4) (by rw [a1, a2, a3, a4]; rfl) (by rw [a1, a2, a3, a4]; rfl)) fun v σ H Q q => ?_, fun _ _ => rfl⟩
      obtain ⟨r, st, env, q, env', R, E, hv, e1, h⟩ := q
      cases hv with
      | @tup ad vs ds hs hq =>
        match ds, e1, hq with
        | [p1, p2, p3, p4], e1, hq =>
          simp only [asgP, Option.bind_eq_some_iff] at e1
          obtain ⟨env3, ⟨env2, ⟨env1, e1, e2⟩, e3⟩, e4⟩ := e1
          refine ⟨ad, vs, rfl, hs, hq.length, ?_⟩
          cases hq with | cons h1 hq => cases hq with | cons h2 hq => cases hq with | cons h3 hq => cases hq with | cons h4 hq =>
          cases hq
          refine ⟨_, _, rfl, r, st, env, p1, env1, R, E, h1, e1, fun σ1 E1 w1 => ⟨_, _, rfl, r, st, env1, p2, env2, R, E1, h2, e2, fun σ2 E2 w2 => ⟨_, _, rfl, r, st, env2, p3, env3, R, E2, h3, e3, fun σ3 E3 w3 => ⟨_, _, rfl, r, st, env3, p4, env', R, E3, h4, e4, fun σ4 E4 w4 => ⟨rfl, h σ4 E4 fun vs hvs => ?_⟩⟩⟩⟩⟩
          rw [w4 vs fun i hi => hvs i (by simp [Pt.slots, hi]), w3 vs fun i hi => hvs i (by simp [Pt.slots, hi]), w2 vs fun i hi => hvs i (by simp [Pt.slots, hi]), w1 vs fun i hi => hvs i (by simp [Pt.slots, hi])]
        | [], e1, _ => cases e1
        | [_], e1, _ => cases e1
        | [_, _], e1, _ => cases e1
        | [_, _, _], e1, _ => cases e1
        | _ :: _ :: _ :: _ :: _ :: _, e1, _ => cases e1
      | _ => cases e1
    | [], h => cases h
    | [_], h => cases h
    | [_, _], h => cases h
    | [_, _, _], h => cases h
    | _ :: _ :: _ :: _ :: _ :: _, h => cases h
  | t5 a b c d f iha ihb ihc ihd ihf =>
    intro e h
    cases e <;> first | (cases h; done) | skip
    rename_i es k pos
    match es, h with
    | [x, y, z, u, w], h =>
      simp only [chkP, Bool.and_eq_true] at h
      obtain ⟨g1, a1⟩ := iha x h.1.1.1.1
      obtain ⟨g2, a2⟩ := ihb y h.1.1.1.2
      obtain ⟨g3, a3⟩ := ihc z h.1.1.2
      obtain ⟨g4, a4⟩ := ihd u h.1.2
      obtain ⟨g5, a5⟩ := ihf w h.2
      refine ⟨PG.imp (pg_tup (S.cal.calm hh) (pgs_cons g1 (pgs_cons g2 (pgs_cons g3 (pgs_cons g4 (pgs_cons g5 pgs_nil (by rw [a5]; rfl)) (by rw [a4]; rfl)) (by rw [a3]; rfl)) (by rw [a2]; rfl)) (by rw [a1]; rfl)) (n := 5) (by rw [a1, a2, a3, a4, a5]; rfl) (by rw [a1, a2, a3, a4, a5]; rfl)) fun v σ H Q q => ?_, fun _ _ => rfl⟩
      obtain ⟨r, st, env, q, env', R, E, hv, e1, h⟩ := q
      cases hv with
      | @tup ad vs ds hs hq =>
        match ds, e1, hq with
        | [p1, p2, p3, p4, p5], e1, hq =>
          simp only [asgP, Option.bind_eq_some_iff] at e1
          obtain ⟨env4, ⟨env3, ⟨env2, ⟨env1, e1, e2⟩, e3⟩, e4⟩, e5⟩ := e1
          refine ⟨ad, vs, rfl, hs, hq.length, ?_⟩
          cases hq with | cons h1 hq => cases hq with | cons h2 hq => cases hq with | cons h3 hq => cases hq with | cons h4 hq => cases hq with | cons h5 hq =>
          cases hq
          refine ⟨_, _, rfl, r, st, env, p1, env1, R, E, h1, e1, fun σ1 E1 w1 => ⟨_, _, rfl, r, st, env1, p2, env2, R, E1, h2, e2, fun σ2 E2 w2 => ⟨_, _, rfl, r, st, env2, p3, env3, R, E2, h3, e3, fun σ3 E3 w3 => ⟨_, _, rfl, r, st, env3, p4, env4, R, E3, h4, e4, fun σ4 E4 w4 => ⟨_, _, rfl, r, st, env4, p5, env', R, E4, h5, e5, fun σ5 E5 w5 => ⟨rfl, h σ5 E5 fun vs hvs => ?_⟩⟩⟩⟩⟩⟩
          rw [w5 vs fun i hi => hvs i (by simp [Pt.slots, hi]), w4 vs fun i hi => hvs i (by simp [Pt.slots, hi]), w3 vs fun i hi => hvs i (by simp [Pt.slots, hi]), w2 vs fun i hi => hvs i (by simp [Pt.slots, hi]), w1 vs fun i hi => hvs i (by simp [Pt.slots, hi])]
        | [], e1, _ => cases e1
        | [_], e1, _ => cases e1
        | [_, _], e1, _ => cases e1
        | [_, _, _], e1, _ => cases e1
        | [_, _, _, _], e1, _ => cases e1
        | _ :: _ :: _ :: _ :: _ :: _ :: _, e1, _ => cases e1
      | _ => cases e1
    | [], h => cases h
    | [_], h => cases h
    | [_, _], h => cases h
    | [_, _, _], h => cases h
    | [_, _, _, _], h => cases h
    | _ :: _ :: _ :: _ :: _ :: _ :: _, h => cases h
end
def JOk (K : PySem.W.Frag) (F : List Addr) (J : It) (xs : List PV) (w : Watch) (r0 : List Addr) (H0 : Hp) : Prop :=
  ∀ (F2 : List Addr) (i : Nat) (H : Hp) (r : List Addr) (st : Store), (∀ b ∈ F2, b ∈ F ∨ H0 b = none) → AftF F r0 H0 r H → Rel K F2 H r st → watchOk w st →
    (∀ p, xs[i]? = some p → J.go i H ∧ ∀ x H', J.yld i H x H' → Aft r H r H' ∧ Rel K F2 H' r st ∧ Rep K F2 H' r x p) ∧ (xs.length ≤ i → J.stop i H)
def PostI (K : PySem.W.Frag) (F : List Addr) (B : EW) (r : List Addr) (H : Hp) (R : It → Hp → Prop) : Out (List PV × Watch) → Prop
  | .ok xw st' => ∀ H' r' J, Aft r H r' H' → Rel K F H' r' st' → JOk K F J xw.1 xw.2 r' H' → R J H'
  | .exc c p st' => PostX K F B r H c p st'
  | .bad => False
theorem PostI.aft {K : PySem.W.Frag} {F : List Addr} {B : EW} {H H' : Hp} {r r' : List Addr} {R : It → Hp → Prop} {o : Out (List PV × Watch)} (h : PostI K F B r H R o) (A : Aft r H r' H') : PostI K F B r' H' R o := by
  cases o with
  | ok p st' => exact fun H2 r2 J A2 => h H2 r2 J (A.trans A2)
  | exc => exact PostX.aft h A
  | bad => exact h.elim
def iI (K : PySem.W.Frag) (F : List Addr) (W : SW) (o : Env → Store → Out (List PV × Watch)) : TI := fun σ H R => ∃ r env st, Rel K F H r st ∧ EnvRel K F H r env σ ∧ PostI K F (W σ) r H R (o env st)
section
variable {K : PySem.W.Frag} {F : List Addr} {H : Hp} {r : List Addr} {st : Store} {a b : Addr} {vs ws : List V} {xs ys : List PV}
theorem JOk.tup (R : Rel K F H r st) (h : SqT K H a vs) (q : Reps K F H r vs xs) : JOk K F (Itt K a) xs [] r H := by
  intro F2 i H1 r1 st1 hF A R1 _
  have h1 := SqT.aftF R A h
  have q1 := Reps.aft2 R A hF q
  refine ⟨fun p e => ?_, fun hl => ⟨vs, h1, by rw [q1.length]; exact hl⟩⟩
  obtain ⟨v, e1, e2⟩ := q1.get2 e
  refine ⟨⟨vs, v, h1, e1⟩, fun x H' y => ?_⟩
  obtain ⟨rfl, y⟩ := y
  have e3 := y vs h1
  rw [e1] at e3; cases e3
  exact ⟨.refl, R1, e2⟩
theorem JOk.lsv (R : Rel K F H r st) (h : SqF K F H r a vs) (q : Reps K F H r vs xs) : JOk K F (Itl K a) xs [] r H := by
  intro F2 i H1 r1 st1 hF A R1 _
  have h1 := (SqF.aft2 R A hF h).seq
  have q1 := Reps.aft2 R A hF q
  refine ⟨fun p e => ?_, fun hl => ⟨vs, h1, by rw [q1.length]; exact hl⟩⟩
  obtain ⟨v, e1, e2⟩ := q1.get2 e
  refine ⟨⟨vs, v, h1, e1⟩, fun x H' y => ?_⟩
  obtain ⟨rfl, y⟩ := y
  have e3 := y vs h1
  rw [e1] at e3; cases e3
  exact ⟨.refl, R1, e2⟩
theorem JOk.loc {j : Nat} (h : r[j]? = some a) : JOk K F (Itl K a) xs [(j, xs)] r H := by
  intro F2 i H1 r1 st1 hF A R1 hw
  have hj : st1[j]? = some xs := hw (j, xs) (by simp)
  obtain ⟨us, h1, q1⟩ := R1.cells j a xs (A.get h) hj
  have h2 : SqL K H1 a us := .of h1
  refine ⟨fun p e => ?_, fun hl => ⟨us, h2, by rw [q1.length]; exact hl⟩⟩
  obtain ⟨v, e1, e2⟩ := q1.get2 e
  refine ⟨⟨us, v, h2, e1⟩, fun x H' y => ?_⟩
  obtain ⟨rfl, y⟩ := y
  have e3 := y us h2
  rw [e1] at e3; cases e3
  exact ⟨.refl, R1, e2⟩
theorem JOk.rng (lo : Int) (n : Nat) : JOk K F (Itr lo n) (rngL lo 1 n) [] r H := by
  intro F2 i H1 r1 st1 hF A R1 _
  have hl : (rngL lo 1 n).length = n := by simp [rngL]
  refine ⟨fun p e => ?_, fun h => by rw [hl] at h; exact h⟩
  have hi : i < n := by rw [← hl]; exact (List.getElem?_eq_some_iff.mp e).1
  have e2 : p = .int (lo + (i : Nat) * 1) := by
    simp only [rngL, List.getElem?_map, List.getElem?_range hi, Option.map_some, Option.some.injEq] at e
    exact e.symm
  refine ⟨hi, fun x H' y => ?_⟩
  obtain ⟨rfl, rfl⟩ := y
  rw [e2, Int.mul_one]
  exact ⟨.refl, R1, .int _⟩
theorem JOk.rngC (lo c : Int) (n : Nat) : JOk K F (Itc lo c n) (rngL lo c n) [] r H := by
  intro F2 i H1 r1 st1 hF A R1 _
  have hl : (rngL lo c n).length = n := by simp [rngL]
  refine ⟨fun p e => ?_, fun h => by rw [hl] at h; exact h⟩
  have hi : i < n := by rw [← hl]; exact (List.getElem?_eq_some_iff.mp e).1
  have e2 : p = .int (lo + (i : Nat) * c) := by
    simp only [rngL, List.getElem?_map, List.getElem?_range hi, Option.map_some, Option.some.injEq] at e
    exact e.symm
  refine ⟨hi, fun x H' y => ?_⟩
  obtain ⟨rfl, rfl⟩ := y
  rw [e2]
  exact ⟨.refl, R1, .int _⟩
theorem seq_later {v : V} {p : PV} (R : Rel K F H r st) (h : Rep K F H r v p) (e : seqL st p = some xs) : ∃ a, v = .ref a ∧ ∀ (F2 : List Addr) (H1 : Hp) (r1 : List Addr) (st1 : Store), (∀ b ∈ F2, b ∈ F ∨ H b = none) → AftF F r H r1 H1 → Rel K F2 H1 r1 st1 → watchOk (watchOf p xs) st1 →
    ∃ us, SqL K H1 a us ∧ Reps K F2 H1 r1 us xs := by
  cases h with
  | @lsv a vs ds h q =>
    cases e
    exact ⟨a, rfl, fun F2 H1 r1 st1 hF A R1 _ => ⟨vs, (SqF.aft2 R A hF h).seq, Reps.aft2 R A hF q⟩⟩
  | @loc a i h =>
    refine ⟨a, rfl, fun F2 H1 r1 st1 hF A R1 hw => ?_⟩
    have hj : st1[i]? = some xs := hw (i, xs) (by simp [watchOf])
    obtain ⟨us, h1, q1⟩ := R1.cells i a xs (A.get h) hj
    exact ⟨us, .of h1, q1⟩
  | _ => cases e
theorem JOk.enm {v : V} {p : PV} (R : Rel K F H r st) (h : Rep K F H r v p) (e : seqL st p = some xs) : ∃ a, v = .ref a ∧ JOk K F (Ite K a) (xs.zipIdx.map fun q => .tup [.int (q.2 : Nat), q.1]) (watchOf p xs) r H := by
  obtain ⟨a, rfl, later⟩ := seq_later R h e
  refine ⟨a, rfl, fun F2 i H1 r1 st1 hF A R1 hw => ?_⟩
  obtain ⟨us, h1, q1⟩ := later F2 H1 r1 st1 hF A R1 hw
  refine ⟨fun p e => ?_, fun hl => ⟨us, h1, by rw [q1.length]; simpa using hl⟩⟩
  rw [List.getElem?_map, List.getElem?_zipIdx, Option.map_map, Option.map_eq_some_iff] at e
  obtain ⟨z, e1, rfl⟩ := e
  obtain ⟨u, e2, e3⟩ := q1.get2 e1
  refine ⟨⟨us, u, h1, e2⟩, fun x H' y => ?_⟩
  obtain ⟨T, w, rfl, hT, rfl, y⟩ := y
  have e4 := y us h1
  rw [e2] at e4; cases e4
  refine ⟨.new hT, R1.new hT, ?_⟩
  have : Reps K F2 H1 r1 [.int (i : Nat), u] [.int ((0 + i : Nat) : Nat), z] := by
    rw [Nat.zero_add]
    exact .cons (.int _) (.cons e3 .nil)
  exact .newT R1 hT this
theorem JOk.enmT (R : Rel K F H r st) (h : SqT K H a vs) (q : Reps K F H r vs xs) : JOk K F (IteT K a) (xs.zipIdx.map fun q => .tup [.int (q.2 : Nat), q.1]) [] r H := by
  intro F2 i H1 r1 st1 hF A R1 _
  have h1 := SqT.aftF R A h
  have q1 := Reps.aft2 R A hF q
  refine ⟨fun p e => ?_, fun hl => ⟨vs, h1, by rw [q1.length]; simpa using hl⟩⟩
  rw [List.getElem?_map, List.getElem?_zipIdx, Option.map_map, Option.map_eq_some_iff] at e
  obtain ⟨z, e1, rfl⟩ := e
  obtain ⟨u, e2, e3⟩ := q1.get2 e1
  refine ⟨⟨vs, u, h1, e2⟩, fun x H' y => ?_⟩
  obtain ⟨T, w, rfl, hT, rfl, y⟩ := y
  have e4 := y vs h1
  rw [e2] at e4; cases e4
  refine ⟨.new hT, R1.new hT, ?_⟩
  have : Reps K F2 H1 r1 [.int (i : Nat), u] [.int ((0 + i : Nat) : Nat), z] := by
    rw [Nat.zero_add]
    exact .cons (.int _) (.cons e3 .nil)
  exact .newT R1 hT this
theorem zip_get {α β : Type} {l : List α} {m : List β} {i : Nat} {p : α × β} (h : (l.zip m)[i]? = some p) : l[i]? = some p.1 ∧ m[i]? = some p.2 := by
  rw [List.getElem?_zip_eq_some] at h
  exact h
theorem JOk.zipL {v u : V} {p q : PV} (R : Rel K F H r st) (h : Rep K F H r v p) (e : seqL st p = some xs) (h2 : Rep K F H r u q) (e2 : seqL st q = some ys) :
    ∃ a b, v = .ref a ∧ u = .ref b ∧ JOk K F (Itz K a b) ((xs.zip ys).map fun q => .tup [q.1, q.2]) (watchOf p xs ++ watchOf q ys) r H := by
  obtain ⟨a, rfl, later⟩ := seq_later R h e
  obtain ⟨b, rfl, later2⟩ := seq_later R h2 e2
  refine ⟨a, b, rfl, rfl, fun F2 i H1 r1 st1 hF A R1 hw => ?_⟩
  obtain ⟨us, h1, q1⟩ := later F2 H1 r1 st1 hF A R1 fun z hz => hw z (List.mem_append_left _ hz)
  obtain ⟨ws, h3, q3⟩ := later2 F2 H1 r1 st1 hF A R1 fun z hz => hw z (List.mem_append_right _ hz)
  refine ⟨fun p e => ?_, fun hl => ⟨us, ws, h1, h3, ?_⟩⟩
  · rw [List.getElem?_map, Option.map_eq_some_iff] at e
    obtain ⟨z, e, rfl⟩ := e
    obtain ⟨ea, eb⟩ := zip_get e
    obtain ⟨s1, f1, g1⟩ := q1.get2 ea
    obtain ⟨s2, f2, g2⟩ := q3.get2 eb
    refine ⟨⟨us, ws, s1, s2, h1, h3, f1, f2⟩, fun x H' y => ?_⟩
    obtain ⟨T, w1, w2, rfl, hT, rfl, y1, y2⟩ := y
    have k1 := y1 us h1
    rw [f1] at k1; cases k1
    have k2 := y2 ws h3
    rw [f2] at k2; cases k2
    exact ⟨.new hT, R1.new hT, .newT R1 hT (.cons g1 (.cons g2 .nil))⟩
  · rw [q1.length, q3.length]
    simp only [List.length_map, List.length_zip] at hl
    omega
theorem JOk.zipT (R : Rel K F H r st) (h : SqT K H a vs) (q : Reps K F H r vs xs) (h2 : SqT K H b ws) (q2 : Reps K F H r ws ys) : JOk K F (RZ.ItzT K a b) ((xs.zip ys).map fun q => .tup [q.1, q.2]) [] r H := by
  intro F2 i H1 r1 st1 hF A R1 hw
  have h1 := SqT.aftF R A h
  have q1 := Reps.aft2 R A hF q
  have h3 := SqT.aftF R A h2
  have q3 := Reps.aft2 R A hF q2
  refine ⟨fun p e => ?_, fun hl => ⟨vs, ws, h1, h3, ?_⟩⟩
  · rw [List.getElem?_map, Option.map_eq_some_iff] at e
    obtain ⟨z, e, rfl⟩ := e
    obtain ⟨ea, eb⟩ := zip_get e
    obtain ⟨s1, f1, g1⟩ := q1.get2 ea
    obtain ⟨s2, f2, g2⟩ := q3.get2 eb
    refine ⟨⟨vs, ws, s1, s2, h1, h3, f1, f2⟩, fun x H' y => ?_⟩
    obtain ⟨T, w1, w2, rfl, hT, rfl, y1, y2⟩ := y
    have k1 := y1 vs h1
    rw [f1] at k1; cases k1
    have k2 := y2 ws h3
    rw [f2] at k2; cases k2
    exact ⟨.new hT, R1.new hT, .newT R1 hT (.cons g1 (.cons g2 .nil))⟩
  · rw [q1.length, q3.length]
    simp only [List.length_map, List.length_zip] at hl
    omega
end
end L2.Iv
namespace L2.Iv
open PySem PySem.Spec PyProof.Rows
section
def noW : WX := fun _ _ _ _ => False
def noS : SW := fun _ _ _ _ => False
variable {X : Cx} {g : Sg} {n : Nat} {N : List Str} {sc so : Scope} {W : WX}
theorem Std.blk (S : Std X g n N sc so W) {scope : Scope} {s : Shared} {H : Hp} {cl : List (Str × Addr)} {C : Addr} {fp : List Addr} : Std (X.blk s H scope (compEnvC scope cl C X.env) fp) g n N (relS scope sc) scope noW := by
  refine ⟨⟨S.cal.dp, S.cal.un, S.cal.gd, S.cal.hd, S.cal.calm⟩, S.link, S.eN, S.nd, ?_, fun x hx => ?_, fun e s h => by obtain ⟨a, B, sI, pins, σ, H1, cls, d, _, _, _, _, _, _, _, _, z⟩ := h; exact False.elim z⟩
  · show relS scope X.env.scope = relS scope sc
    rw [S.eS]
  · rcases hx with e | e
    · have q := lookup_relS_keep (sc := sc) (names := scope.names) (x := x) (k := .local) (by decide) e
      exact ⟨.inl q, .inr q⟩
    · have q := lookup_relS_keep (sc := sc) (names := scope.names) (x := x) (k := .cell) (by decide) e
      refine ⟨.inr q, .inl ?_⟩
      show (scope.names.lookup x == some NameKind.cell) = true
      rw [e]; rfl
end
section
variable {K : PySem.W.Frag} {F : List Addr} {H H' : Hp} {r r' : List Addr} {st : Store} {v : V} {p : PV} {vs : List V} {ps : List PV} {env : Env} {σ : St} {D : Addr}
theorem SqF.opn {a : Addr} (h : SqF K (D :: F) H r a vs) : SqF K F H (r ++ [D]) a vs := by
  rcases h with ⟨h, n1, n2⟩ | h | h
  · simp only [List.mem_cons, not_or] at n2
    exact .inl ⟨h, by simp [n1, n2.1], n2.2⟩
  · exact .inr (.inl h)
  · exact .inr (.inr h)
mutual
theorem Rep.opn : ∀ {v : V} {p : PV}, Rep K (D :: F) H r v p → Rep K F H (r ++ [D]) v p
  | _, _, .non => .non
  | _, _, .bl b => .bl b
  | _, _, .int i => .int i
  | _, _, .str x => .str x
  | _, _, .lsv h q => .lsv h.opn (Reps.opn q)
  | _, _, .tup h q => .tup h (Reps.opn q)
  | _, _, .loc e => .loc (by rw [List.getElem?_append_left (List.getElem?_eq_some_iff.mp e).1]; exact e)
  | _, _, .exn h1 h2 q => .exn h1 h2 (Rep.opn q)
  | _, _, .dct h n q => .dct h n (Reps.opn q)
  | _, _, .rgo h => .rgo h
theorem Reps.opn : ∀ {vs : List V} {ps : List PV}, Reps K (D :: F) H r vs ps → Reps K F H (r ++ [D]) vs ps
  | _, _, .nil => .nil
  | _, _, .cons h q => .cons (Rep.opn h) (Reps.opn q)
end
theorem Rel.opn (R : Rel K (D :: F) H r st) (hD : D ∉ r) (hF : D ∉ F) (h : H D = some (.lst vs)) (q : Reps K (D :: F) H r vs ps) : Rel K F H (r ++ [D]) (st ++ [ps]) := by
  refine ⟨by simp [R.len], ?_, fun i b xs e1 e2 => ?_, fun b hb => ?_, fun b hb => R.fs b (by simp [hb])⟩
  · rw [List.nodup_append]
    refine ⟨R.nd, by simp, fun x hx y hy => ?_⟩
    rw [List.mem_singleton] at hy
    rintro rfl
    exact hD (hy ▸ hx)
  · by_cases hi : i < r.length
    · rw [List.getElem?_append_left hi] at e1
      rw [List.getElem?_append_left (by rw [← R.len]; exact hi)] at e2
      obtain ⟨ws, q1, q2⟩ := R.cells i b xs e1 e2
      exact ⟨ws, q1, q2.opn⟩
    · have hl := R.len
      rw [List.getElem?_append_right (by omega)] at e1
      rw [List.getElem?_append_right (by omega)] at e2
      have hz : i - r.length = 0 := by
        have := (List.getElem?_eq_some_iff.mp e1).1
        simp at this; omega
      rw [hz] at e1
      rw [← hl, hz] at e2
      simp at e1 e2
      subst e1; subst e2
      exact ⟨vs, h, q.opn⟩
  · rcases List.mem_append.mp hb with hb | hb
    · exact fun m => R.apart b hb (by simp [m])
    · rw [List.mem_singleton] at hb; subst hb; exact hF
end
def gX (K : PySem.W.Frag) (p : Pt) : TG := fun v σ H Q => ∃ F, gI K F p v σ H Q
def tTX (K : PySem.W.Frag) (o : Env → Store → Out Bool) : TT := fun σ H Q => ∃ F, tIT K F noS o σ H Q
def tX (K : PySem.W.Frag) (o : Env → Store → Out PV) : TE := fun σ H Q => ∃ F, tI K F noS o σ H Q
def iX (K : PySem.W.Frag) (o : Env → Store → Out (List PV × Watch)) : TI := fun σ H R => ∃ F, iI K F noS o σ H R
theorem wipe_wipe (σ : St) (vs : List Nat) : ∀ ws : List Nat, (∀ i ∈ ws, i ∈ vs) → wipe (wipe σ ws) vs = wipe σ vs
  | [], _ => rfl
  | w :: ws, h => by
    show wipe ((wipe σ ws).set w none) vs = _
    rw [wipe_set_in _ _ _ _ (h w (by simp))]
    exact wipe_wipe σ vs ws fun i hi => h i (by simp [hi])
noncomputable def lcTurn (C : Ctx) (env : Env) (p : Pt) (cs : Exs) (e : Ex) : PV → Store → Out (List PV) := fun x st => match asgP p x env with
  | some env1 => (evTests C cs env1 st).quiet.bind fun b st1 => if b = true then (evE C e env1 st1).quiet.bind fun y st2 => .ok [y] st2 else .ok [] st1
  | none => .bad
theorem quiet_eq {α : Type} {o : Out α} {a : α} {st : Store} (h : o.quiet = .ok a st) : o = .ok a st := by
  cases o <;> first | exact h | cases h
theorem bind_eq {α β : Type} {o : Out α} {f : α → Store → Out β} {b : β} {st : Store} (h : o.bind f = .ok b st) : ∃ a st1, o = .ok a st1 ∧ f a st1 = .ok b st := by
  cases o with
  | ok a st1 => exact ⟨a, st1, rfl, h⟩
  | exc => cases h
  | bad => cases h
def LcIn (K : PySem.W.Frag) (F : List Addr) (D : Addr) (r1 : List Addr) (H1 : Hp) (es : List (Env × St)) (r : List Addr) (st : Store) (acc : List PV) (H : Hp) : Prop :=
  ∃ vs, Aft r1 H1 r H ∧ Rel K (D :: F) H r st ∧ (∀ x ∈ es, EnvRel K (D :: F) H r x.1 x.2) ∧ D ∉ r ∧ H D = some (.lst vs) ∧ Reps K (D :: F) H r vs acc
theorem LcIn.go {K : PySem.W.Frag} {F : List Addr} {D : Addr} {r1 : List Addr} {H1 : Hp} {es : List (Env × St)} {r r' : List Addr} {st st' : Store} {acc : List PV} {H H' : Hp} (L : LcIn K F D r1 H1 es r st acc H)
    (A : Aft r H r' H') (R' : Rel K (D :: F) H' r' st') : LcIn K F D r1 H1 es r' st' acc H' := by
  obtain ⟨vs, a, R, E, n, e, q⟩ := L
  obtain ⟨e2, n2⟩ := A.keep D _ e n
  exact ⟨vs, a.trans A, R', fun x hx => (E x hx).aft R A, n2, e2, q.aft R A⟩
theorem LcIn.add {K : PySem.W.Frag} {F : List Addr} {D : Addr} {r1 : List Addr} {H1 : Hp} {es : List (Env × St)} {r : List Addr} {st : Store} {acc : List PV} {H : Hp} {v : V} {p : PV} (L : LcIn K F D r1 H1 es r st acc H) (hD : H1 D = none)
    (h : Rep K (D :: F) H r v p) : ∃ vs, H D = some (.lst vs) ∧ vs.length = acc.length ∧ LcIn K F D r1 H1 es r st (acc ++ [p]) (upd H D (.lst (vs ++ [v]))) := by
  obtain ⟨vs, a, R, E, n, e, q⟩ := L
  have hm : D ∈ D :: F := by simp
  refine ⟨vs, e, q.length, vs ++ [v], ⟨a.pre, fun b o eb nb => ?_⟩, R.wr hm e, fun x hx => (E x hx).wr hm e, n, upd_same, Reps.append (q.wr hm e) (.cons (h.wr hm e) .nil)⟩
  obtain ⟨z1, z2⟩ := a.keep b o eb nb
  exact ⟨by rw [upd_ne (ne_of_none eb hD)]; exact z1, z2⟩
theorem lc_turns {C : Ctx} {K : PySem.W.Frag} {F : List Addr} {D : Addr} {r1 r0 : List Addr} {H1 H0 : Hp} {env : Env} {σ : St} {es : List (Env × St)} {p : Pt} {cs : Exs} {e : Ex} {own : List Nat} {J : It} {xs : List PV} {w : Watch}
    (hD : H1 D = none) (hes : (env, σ) ∈ es) (hown : ∀ i ∈ p.slots, i ∈ own) {i : Nat} {r : List Addr} {st : Store} {acc : List PV} {H : Hp} {F0 : List Addr} (j : JOk K F0 J xs w r0 H0) (hF : ∀ b ∈ D :: F, b ∈ F0 ∨ H0 b = none) (A0 : AftF F0 r0 H0 r H)
    (L : LcIn K F D r1 H1 es r st acc H) {x : PV} (hx : xs[i]? = some x) (hw : watchOk w st) {ys : List PV} {st' : Store}
    (hf : lcTurn C (wipeE env own) p cs e x st = .ok ys st') (hz : acc.length + ys.length ≤ sizeLine) (Nx : Hp → Prop) (hN : ∀ H' r', LcIn K F D r1 H1 es r' st' (acc ++ ys) H' → AftF (D :: F) r H r' H' → Nx H') :
    J.go i H ∧ ∀ x H', J.yld i H x H' → gX K p x (wipe σ own) H' fun σ2 H2 => wipe σ2 own = wipe σ own ∧ tTX K (evTests C cs) σ2 H2 fun b H3 =>
      if b = true then tX K (evE C e) σ2 H3 fun y H4 => ∃ acc, H4 D = some (.lst acc) ∧ acc.length < sizeLine ∧ Nx (upd H4 D (.lst (acc ++ [y]))) else Nx H3 := by
  obtain ⟨vs, a, R, E, nD, eD, q⟩ := id L
  obtain ⟨go, yl⟩ := (j (D :: F) i H r st hF A0 R hw).1 x hx
  refine ⟨go, fun v H' hy => ?_⟩
  obtain ⟨A1, R1, hv⟩ := yl v H' hy
  have L1 := L.go A1 R1
  obtain ⟨_, _, _, E1, _, _, _⟩ := id L1
  unfold lcTurn at hf
  split at hf
  · rename_i env1 he1
    obtain ⟨b, st1, h1, h2⟩ := bind_eq hf
    have h1 := quiet_eq h1
    refine ⟨D :: F, r, st, wipeE env own, x, env1, R1, (E1 _ hes).wipe own, hv, he1, fun σ2 E2 w2 => ⟨(w2 own hown).trans (wipe_wipe σ own own fun _ z => z), D :: F, r, env1, st, R1, E2, ?_⟩⟩
    rw [h1]
    intro H3 r3 A3 R3
    have L3 := L1.go A3 R3
    cases b with
    | true =>
      rw [if_pos rfl]
      rw [if_pos rfl] at h2
      obtain ⟨y, st2, h3, h4⟩ := bind_eq h2
      have h3 := quiet_eq h3
      cases h4
      refine ⟨D :: F, r3, env1, st1, R3, E2.aft R1 A3, ?_⟩
      rw [h3]
      intro v4 H4 r4 A4 R4 hv4
      obtain ⟨ws, e4, l4, L4⟩ := (L3.go A4 R4).add hD hv4
      refine ⟨ws, e4, ?_, hN _ r4 L4 ((Aft.toF (A1.trans (A3.trans A4))).trans ⟨⟨[], by simp⟩, fun b o eb nb mb => ⟨by rw [upd_ne (by rintro rfl; exact mb (by simp))]; exact eb, nb⟩⟩)⟩
      rw [l4]
      simp only [List.length_singleton] at hz
      omega
    | false =>
      rw [if_neg Bool.false_ne_true]
      rw [if_neg Bool.false_ne_true] at h2
      cases h2
      refine hN H3 r3 ?_ (Aft.toF (A1.trans A3))
      rw [List.append_nil]
      exact L3
  · cases hf
theorem compF_cons {w : Watch} {f : PV → Store → Out (List PV)} {x : PV} {xs acc : List PV} {st : Store} {zs : List PV} {st2 : Store} (h : compF w f (x :: xs) acc st = .ok zs st2) :
    watchOk w st ∧ ∃ ys st1, f x st = .ok ys st1 ∧ acc.length + ys.length ≤ sizeLine ∧ compF w f xs (acc ++ ys) st1 = .ok zs st2 := by
  unfold compF at h
  split at h
  · rename_i hw
    obtain ⟨ys, st1, h1, h2⟩ := bind_eq h
    split at h2
    · exact ⟨hw, ys, st1, h1, by assumption, h2⟩
    · cases h2
  · cases h
theorem compF_nil {w : Watch} {f : PV → Store → Out (List PV)} {acc : List PV} {st : Store} {zs : List PV} {st2 : Store} (h : compF w f [] acc st = .ok zs st2) : watchOk w st ∧ acc = zs ∧ st = st2 := by
  unfold compF at h
  split at h
  · cases h; exact ⟨by assumption, rfl, rfl⟩
  · cases h
theorem drop_get {α : Type} {l : List α} {i : Nat} (h : i < l.length) : ∃ x, l[i]? = some x ∧ l.drop i = x :: l.drop (i + 1) :=
  ⟨l[i], List.getElem?_eq_getElem h, List.drop_eq_getElem_cons h⟩
theorem quiet_exc {α β : Type} {o : Out α} {f : α → Store → Out β} {c : Str} {v : PV} {st : Store} (h : o.quiet.bind f = .exc c v st) : ∃ a st1, o = .ok a st1 ∧ f a st1 = .exc c v st := by
  cases o with
  | ok a st1 => exact ⟨a, st1, rfl, h⟩
  | exc => cases h
  | bad => cases h
theorem bind_exc' {α β : Type} {o : Out α} {f : α → Store → Out β} {c : Str} {v : PV} {st : Store} (h : o.bind f = .exc c v st) : o = .exc c v st ∨ ∃ a st1, o = .ok a st1 ∧ f a st1 = .exc c v st := by
  cases o with
  | ok a st1 => exact .inr ⟨a, st1, rfl, h⟩
  | exc => cases h; exact .inl rfl
  | bad => cases h
theorem compF_exc {w : Watch} {f : PV → Store → Out (List PV)} (hf : ∀ x st c v st', f x st ≠ .exc c v st') : ∀ {xs acc : List PV} {st : Store} {c : Str} {v : PV} {st' : Store}, compF w f xs acc st ≠ .exc c v st'
  | [], acc, st, c, v, st', h => by
    unfold compF at h
    split at h <;> cases h
  | x :: xs, acc, st, c, v, st', h => by
    unfold compF at h
    split at h
    · rcases bind_exc' h with h | ⟨ys, st1, _, h⟩
      · exact hf _ _ _ _ _ h
      · split at h
        · exact compF_exc hf h
        · cases h
    · cases h
theorem lcTurn_exc (C : Ctx) (env : Env) (p : Pt) (cs : Exs) (e : Ex) (x : PV) (st : Store) (c : Str) (v : PV) (st' : Store) : lcTurn C env p cs e x st ≠ .exc c v st' := by
  intro h
  unfold lcTurn at h
  split at h
  · obtain ⟨b, st1, _, h⟩ := quiet_exc h
    split at h
    · obtain ⟨y, st2, _, h⟩ := quiet_exc h
      cases h
    · cases h
  · cases h
theorem lc_read {C : Ctx} {K : PySem.W.Frag} {F : List Addr} {σ : St} {H : Hp} {W : SW} {Q : VK} {fr : Bool} {own : List Nat} {p : Pt} {it : Ix} {cs : Exs} {e : Ex} (hown : ∀ i ∈ p.slots, i ∈ own)
    (h : tI K F W (evE C (.lc fr own p it cs e)) σ H Q) : tLc (iI K F W (evIx C it)) (gX K p) (tTX K (evTests C cs)) (tX K (evE C e)) own σ H Q := by
  obtain ⟨r, env, st, R, E, h⟩ := h
  have h : Post K F (W σ) r H Q ((evIx C it env st).bind fun xw st1 => (compF xw.2 (lcTurn C (wipeE env own) p cs e) xw.1 [] st1).bind fun ys st2 => newL fr ys st2) := h
  refine ⟨r, env, st, R, E, ?_⟩
  cases hi : evIx C it env st with
  | exc => rw [hi] at h; exact h
  | bad => rw [hi] at h; exact h.elim
  | ok xw st1 =>
    rw [hi] at h
    intro H1 r1 J A1 R1 j D hD
    have h : Post K F (W σ) r H Q ((compF xw.2 (lcTurn C (wipeE env own) p cs e) xw.1 [] st1).bind fun ys st2 => newL fr ys st2) := h
    cases hc : compF xw.2 (lcTurn C (wipeE env own) p cs e) xw.1 [] st1 with
    | exc => exact absurd hc (compF_exc (lcTurn_exc _ _ _ _ _))
    | bad => rw [hc] at h; exact h.elim
    | ok zs st2 =>
      rw [hc] at h
      have h : Post K F (W σ) r1 H1 Q (newL fr zs st2) := h.aft A1
      have hF : ∀ b ∈ D :: F, b ∈ F ∨ H1 b = none := fun b hb => by
        rcases List.mem_cons.mp hb with rfl | hb
        · exact .inr hD
        · exact .inl hb
      have E1 := E.aft R A1
      have nF := (R1.fresh hD).2
      refine ⟨fun i m H2 => i ≤ xw.1.length ∧ m = xw.1.length - i ∧ ∃ r2 st3 acc, LcIn K F D r1 H1 [(env, σ)] r2 st3 acc H2 ∧ compF xw.2 (lcTurn C (wipeE env own) p cs e) (xw.1.drop i) acc st3 = .ok zs st2,
        ⟨_, Nat.zero_le _, rfl, r1, st1, [], ⟨[], .new hD, R1.shut hD, fun x hx => by
          rw [List.mem_singleton] at hx; subst hx; exact E1.aft2 R1 (Aft.toF (.new hD)) hF, (R1.fresh hD).1, upd_same, .nil⟩, by rw [List.drop_zero]; exact hc⟩, ?_⟩
      rintro i m H2 ⟨hi2, rfl, r2, st3, acc, L, hc2⟩
      by_cases hlt : i < xw.1.length
      · right
        obtain ⟨x, hx, hd⟩ := drop_get hlt
        rw [hd] at hc2
        obtain ⟨hw, ys, st4, hf, hz, hc3⟩ := compF_cons hc2
        have T := lc_turns (env := env) (σ := σ) hD (by simp) hown j hF (by obtain ⟨_, a, _⟩ := L; exact a.toF) L hx hw hf hz (fun H' => i + 1 ≤ xw.1.length ∧ ∃ r2 st3 acc, LcIn K F D r1 H1 [(env, σ)] r2 st3 acc H' ∧ compF xw.2 (lcTurn C (wipeE env own) p cs e) (xw.1.drop (i + 1)) acc st3 = .ok zs st2)
          fun H' r' L' _ => ⟨hlt, r', st4, acc ++ ys, L', hc3⟩
        exact ⟨T.1, _, fun H' hN => ⟨xw.1.length - (i + 1), by omega, hN.1, rfl, hN.2⟩, T.2⟩
      · left
        have hi3 : i = xw.1.length := by omega
        subst hi3
        rw [List.drop_length] at hc2
        obtain ⟨hw, rfl, rfl⟩ := compF_nil hc2
        obtain ⟨vs, a, R2, E2, nD, eD, q⟩ := L
        refine ⟨(j (D :: F) _ H2 r2 st3 hF a.toF R2 hw).2 (Nat.le_refl _), ?_⟩
        · cases fr with
          | true => exact h _ _ r2 a (R2.less fun b hb => by simp [hb]) (.lsv (.inl ⟨eD, nD, nF⟩) (q.less fun b hb => by simp [hb]))
          | false =>
            refine h _ _ (r2 ++ [D]) ⟨?_, fun b o eb nb => ?_⟩ (R2.opn nD nF eD q) (.loc ?_)
            · obtain ⟨z, e⟩ := a.pre
              exact ⟨z ++ [D], by rw [e, List.append_assoc]⟩
            · obtain ⟨z1, z2⟩ := a.keep b o eb nb
              exact ⟨z1, by simp [z2, ne_of_none eb hD]⟩
            · rw [← R2.len]; simp
theorem compF_le {w : Watch} {f : PV → Store → Out (List PV)} : ∀ {xs acc : List PV} {st : Store} {zs : List PV} {st2 : Store}, compF w f xs acc st = .ok zs st2 → acc.length ≤ zs.length
  | [], acc, st, zs, st2, h => by
    obtain ⟨_, rfl, _⟩ := compF_nil h
    exact Nat.le_refl _
  | x :: xs, acc, st, zs, st2, h => by
    obtain ⟨_, ys, st1, _, _, h2⟩ := compF_cons h
    have := compF_le h2
    rw [List.length_append] at this
    omega
noncomputable def lcTurn2 (C : Ctx) (env : Env) (p : Pt) (cs : Exs) (vs2 : List Nat) (p2 : Pt) (it2 : Ix) (cs2 : Exs) (e : Ex) : PV → Store → Out (List PV) := fun x st => match asgP p x env with
  | some env1 => (evTests C cs env1 st).quiet.bind fun b st1 => if b = true then (evIx C it2 env1 st1).quiet.bind fun xw2 st2 => compF xw2.2 (lcTurn C (wipeE env1 vs2) p2 cs2 e) xw2.1 [] st2 else .ok [] st1
  | none => .bad
theorem lcTurn2_exc (C : Ctx) (env : Env) (p : Pt) (cs : Exs) (vs2 : List Nat) (p2 : Pt) (it2 : Ix) (cs2 : Exs) (e : Ex) (x : PV) (st : Store) (c : Str) (v : PV) (st' : Store) : lcTurn2 C env p cs vs2 p2 it2 cs2 e x st ≠ .exc c v st' := by
  intro h
  unfold lcTurn2 at h
  split at h
  · obtain ⟨b, st1, _, h⟩ := quiet_exc h
    split at h
    · obtain ⟨y, st2, _, h⟩ := quiet_exc h
      exact compF_exc (lcTurn_exc _ _ _ _ _) h
    · cases h
  · cases h
theorem lc2_read {C : Ctx} {K : PySem.W.Frag} {F : List Addr} {σ : St} {H : Hp} {W : SW} {Q : VK} {fr : Bool} {own vs2 : List Nat} {p p2 : Pt} {it it2 : Ix} {cs cs2 : Exs} {e : Ex} (hown : ∀ i ∈ p.slots, i ∈ own) (hown2 : ∀ i ∈ p2.slots, i ∈ vs2)
    (h : tI K F W (evE C (.lc2 fr own p it cs vs2 p2 it2 cs2 e)) σ H Q) : tLc2 (iI K F W (evIx C it)) (gX K p) (tTX K (evTests C cs)) (iX K (evIx C it2)) (gX K p2) (tTX K (evTests C cs2)) (tX K (evE C e)) own vs2 σ H Q := by
  obtain ⟨r, env, st, R, E, h⟩ := h
  have h : Post K F (W σ) r H Q ((evIx C it env st).bind fun xw st1 => (compF xw.2 (lcTurn2 C (wipeE env own) p cs vs2 p2 it2 cs2 e) xw.1 [] st1).bind fun ys st2 => newL fr ys st2) := h
  refine ⟨r, env, st, R, E, ?_⟩
  cases hi : evIx C it env st with
  | exc => rw [hi] at h; exact h
  | bad => rw [hi] at h; exact h.elim
  | ok xw st1 =>
    rw [hi] at h
    intro H1 r1 J A1 R1 j D hD
    have h : Post K F (W σ) r H Q ((compF xw.2 (lcTurn2 C (wipeE env own) p cs vs2 p2 it2 cs2 e) xw.1 [] st1).bind fun ys st2 => newL fr ys st2) := h
    cases hc : compF xw.2 (lcTurn2 C (wipeE env own) p cs vs2 p2 it2 cs2 e) xw.1 [] st1 with
    | exc => exact absurd hc (compF_exc (lcTurn2_exc _ _ _ _ _ _ _ _ _))
    | bad => rw [hc] at h; exact h.elim
    | ok zs st2 =>
      rw [hc] at h
      have h : Post K F (W σ) r1 H1 Q (newL fr zs st2) := h.aft A1
      have hF : ∀ b ∈ D :: F, b ∈ F ∨ H1 b = none := fun b hb => by
        rcases List.mem_cons.mp hb with rfl | hb
        · exact .inr hD
        · exact .inl hb
      have E1 := E.aft R A1
      have nF := (R1.fresh hD).2
      refine ⟨fun i m H2 => i ≤ xw.1.length ∧ m = xw.1.length - i ∧ ∃ r2 st3 acc, LcIn K F D r1 H1 [(env, σ)] r2 st3 acc H2 ∧ compF xw.2 (lcTurn2 C (wipeE env own) p cs vs2 p2 it2 cs2 e) (xw.1.drop i) acc st3 = .ok zs st2,
        ⟨_, Nat.zero_le _, rfl, r1, st1, [], ⟨[], .new hD, R1.shut hD, fun x hx => by
          rw [List.mem_singleton] at hx; subst hx; exact E1.aft2 R1 (Aft.toF (.new hD)) hF, (R1.fresh hD).1, upd_same, .nil⟩, by rw [List.drop_zero]; exact hc⟩, ?_⟩
      rintro i m H2 ⟨hi2, rfl, r2, st3, acc, L, hc2⟩
      by_cases hlt : i < xw.1.length
      · right
        obtain ⟨x, hx, hd⟩ := drop_get hlt
        rw [hd] at hc2
        obtain ⟨hw, ys, st4, hf, hz, hc3⟩ := compF_cons hc2
        obtain ⟨vs, a, R2, E2, nD, eD, q⟩ := id L
        obtain ⟨go, yl⟩ := (j (D :: F) i H2 r2 st3 hF a.toF R2 hw).1 x hx
        refine ⟨go, fun H' => i + 1 ≤ xw.1.length ∧ ∃ r2 st3 acc, LcIn K F D r1 H1 [(env, σ)] r2 st3 acc H' ∧ compF xw.2 (lcTurn2 C (wipeE env own) p cs vs2 p2 it2 cs2 e) (xw.1.drop (i + 1)) acc st3 = .ok zs st2, fun H' hN => ⟨xw.1.length - (i + 1), by omega, hN.1, rfl, hN.2⟩, fun v H' hy => ?_⟩
        have hN : ∀ H' r', LcIn K F D r1 H1 [(env, σ)] r' st4 (acc ++ ys) H' → (i + 1 ≤ xw.1.length ∧ ∃ r2 st3 acc, LcIn K F D r1 H1 [(env, σ)] r2 st3 acc H' ∧ compF xw.2 (lcTurn2 C (wipeE env own) p cs vs2 p2 it2 cs2 e) (xw.1.drop (i + 1)) acc st3 = .ok zs st2) :=
          fun H' r' L' => ⟨hlt, r', st4, acc ++ ys, L', hc3⟩
        obtain ⟨A3, R3, hv⟩ := yl v H' hy
        have L1 := L.go A3 R3
        obtain ⟨_, _, _, E3, _, _, _⟩ := id L1
        unfold lcTurn2 at hf
        split at hf
        · rename_i env1 he1
          obtain ⟨b, st5, h1, h2⟩ := bind_eq hf
          have h1 := quiet_eq h1
          refine ⟨D :: F, r2, st3, wipeE env own, x, env1, R3, (E3 (env, σ) (by simp)).wipe own, hv, he1, fun σ2 E2 w2 => ⟨(w2 own hown).trans (wipe_wipe σ own own fun _ z => z), D :: F, r2, env1, st3, R3, E2, ?_⟩⟩
          rw [h1]
          intro H5 r5 A5 R5
          have L5 := L1.go A5 R5
          have E5 := E2.aft R3 A5
          cases b with
          | false =>
            rw [if_neg Bool.false_ne_true]
            rw [if_neg Bool.false_ne_true] at h2
            cases h2
            refine hN H5 r5 ?_
            rw [List.append_nil]
            exact L5
          | true =>
            rw [if_pos rfl]
            rw [if_pos rfl] at h2
            obtain ⟨xw2, st6, h3, h4⟩ := bind_eq h2
            have h3 := quiet_eq h3
            refine ⟨D :: F, r5, env1, st5, R5, E5, ?_⟩
            rw [h3]
            intro H6 r6 J1 A6 R6 j1
            have L6 : LcIn K F D r1 H1 [(env, σ), (env1, σ2)] r6 st6 acc H6 := by
              obtain ⟨vs, a, R, E, n, e, q⟩ := L5.go A6 R6
              refine ⟨vs, a, R, fun y hy => ?_, n, e, q⟩
              rcases List.mem_cons.mp hy with rfl | hy
              · exact E _ (by simp)
              · rw [List.mem_singleton] at hy; subst hy; exact E5.aft R5 A6
            refine ⟨fun k m H2 => k ≤ xw2.1.length ∧ m = xw2.1.length - k ∧ ∃ r2 st3 ac, LcIn K F D r1 H1 [(env, σ), (env1, σ2)] r2 st3 (acc ++ ac) H2 ∧ AftF (D :: F) r6 H6 r2 H2 ∧ compF xw2.2 (lcTurn C (wipeE env1 vs2) p2 cs2 e) (xw2.1.drop k) ac st3 = .ok ys st4,
              ⟨_, Nat.zero_le _, rfl, r6, st6, [], by rw [List.append_nil]; exact L6, Aft.toF .refl, by rw [List.drop_zero]; exact h4⟩, ?_⟩
            rintro k m H7 ⟨hk2, rfl, r7, st7, ac, L7, A7, hc7⟩
            have hF6 : ∀ b ∈ D :: F, b ∈ D :: F ∨ H6 b = none := fun b hb => .inl hb
            by_cases hlt2 : k < xw2.1.length
            · right
              obtain ⟨x2, hx2, hd2⟩ := drop_get hlt2
              rw [hd2] at hc7
              obtain ⟨hw2, ys2, st8, hf2, hz2, hc8⟩ := compF_cons hc7
              have hle := compF_le hc8
              have T := lc_turns (env := env1) (σ := σ2) hD (by simp) hown2 j1 hF6 A7 L7 hx2 hw2 hf2 (by rw [List.length_append] at hle ⊢; omega)
                (fun H' => k + 1 ≤ xw2.1.length ∧ ∃ r2 st3 ac, LcIn K F D r1 H1 [(env, σ), (env1, σ2)] r2 st3 (acc ++ ac) H' ∧ AftF (D :: F) r6 H6 r2 H' ∧ compF xw2.2 (lcTurn C (wipeE env1 vs2) p2 cs2 e) (xw2.1.drop (k + 1)) ac st3 = .ok ys st4)
                fun H' r' L' A' => ⟨hlt2, r', st8, ac ++ ys2, by rw [← List.append_assoc]; exact L', A7.trans A', hc8⟩
              exact ⟨T.1, _, fun H' hN => ⟨xw2.1.length - (k + 1), by omega, hN.1, rfl, hN.2⟩, T.2⟩
            · left
              have hk3 : k = xw2.1.length := by omega
              subst hk3
              rw [List.drop_length] at hc7
              obtain ⟨hw2, rfl, rfl⟩ := compF_nil hc7
              obtain ⟨vs8, a8, R8, E8, nD8, eD8, q8⟩ := L7
              refine ⟨(j1 (D :: F) _ H7 r7 st7 hF6 A7 R8 hw2).2 (Nat.le_refl _), hN H7 r7 ⟨vs8, a8, R8, fun y hy => ?_, nD8, eD8, q8⟩⟩
              rw [List.mem_singleton] at hy
              subst hy
              exact E8 _ (by simp)
        · cases hf
      · left
        have hi3 : i = xw.1.length := by omega
        subst hi3
        rw [List.drop_length] at hc2
        obtain ⟨hw, rfl, rfl⟩ := compF_nil hc2
        obtain ⟨vs, a, R2, E2, nD, eD, q⟩ := L
        refine ⟨(j (D :: F) _ H2 r2 st3 hF a.toF R2 hw).2 (Nat.le_refl _), ?_⟩
        · cases fr with
          | true => exact h _ _ r2 a (R2.less fun b hb => by simp [hb]) (.lsv (.inl ⟨eD, nD, nF⟩) (q.less fun b hb => by simp [hb]))
          | false =>
            refine h _ _ (r2 ++ [D]) ⟨?_, fun b o eb nb => ?_⟩ (R2.opn nD nF eD q) (.loc ?_)
            · obtain ⟨z, e⟩ := a.pre
              exact ⟨z ++ [D], by rw [e, List.append_assoc]⟩
            · obtain ⟨z1, z2⟩ := a.keep b o eb nb
              exact ⟨z1, by simp [z2, ne_of_none eb hD]⟩
            · rw [← R2.len]; simp
end L2.Iv
namespace L2.Iv
open PySem PySem.Spec PyProof.Rows
section
variable {X : Cx} {g : Sg} {n : Nat} {N : List Str} {sc so : Scope} {W : WX} {F : List Addr} {e : Expr}
theorem chk_okS {ex : Ex} (h : chkE g N sc ex e = true) : okS e = true := by
  cases ex <;> cases e <;> first | rfl | cases h
theorem tI_val {K : PySem.W.Frag} {Y : SW} {σ : St} {H : Hp} {Q : VK} {v : V} {p : PV} {f : Env → Store → Out PV} (h : tI K F Y f σ H Q) (hf : ∀ env st, f env st = .ok p st) (hp : ∀ r, Rep K F H r v p) : Q v H := by
  obtain ⟨r, env, st, R, E, h⟩ := h
  rw [hf] at h
  exact h.here R (hp r)
theorem pt_plain (C : Ctx) {ex : Ex} (h : PE X e (tI X.K F (sw X.mg W) (evE C ex))) (he : ∀ whole, isTrue e X.env whole = (do let v ← whole; standAt e.pos; holding [v] (PySem.truthy v))) : PT X e (tIT X.K F (sw X.mg W) (evC C ex)) := by
  refine PT.imp (pt_truth h he) fun σ H Q h => ?_
  obtain ⟨r, env, st, R, E, h⟩ := h
  refine ⟨r, env, st, R, E, ?_⟩
  unfold evC at h
  cases hx : evE C ex env st with
  | exc => rw [hx] at h; exact h
  | bad => rw [hx] at h; exact h.elim
  | ok p st1 =>
    rw [hx] at h
    intro v H1 r1 A1 R1 hv
    simp only [bind_ok] at h
    cases hb : truthy st1 p with
    | none => rw [hb] at h; exact h.elim
    | some b =>
      rw [hb] at h
      exact ⟨b, tru_of R1 hv hb, h H1 r1 A1 R1⟩
theorem PostT.aft {K : PySem.W.Frag} {B : EW} {H H' : Hp} {r r' : List Addr} {Q : Bool → Hp → Prop} {o : Out Bool} (h : PostT K F B r H Q o) (A : Aft r H r' H') : PostT K F B r' H' Q o := by
  cases o with
  | ok p st' => exact fun H2 r2 A2 => h H2 r2 (A.trans A2)
  | exc => exact PostX.aft h A
  | bad => exact h.elim
theorem PostA.aft {K : PySem.W.Frag} {B : EW} {H H' : Hp} {r r' : List Addr} {Q : List V → Hp → Prop} {o : Out (List PV)} (h : PostA K F B r H Q o) (A : Aft r H r' H') : PostA K F B r' H' Q o := by
  cases o with
  | ok p st' => exact fun v H2 r2 A2 => h v H2 r2 (A.trans A2)
  | exc => exact PostX.aft h A
  | bad => exact h.elim
theorem tIT.step {K : PySem.W.Frag} {Y : SW} {σ : St} {H : Hp} {Q : VK} {o : Env → Store → Out Bool} {f : Bool → Env → Store → Out PV} (h : tI K F Y (fun env st => (o env st).bind fun b st1 => f b env st1) σ H Q) :
    tIT K F Y o σ H fun b H1 => tI K F Y (f b) σ H1 Q := by
  obtain ⟨r, env, st, R, E, h⟩ := h
  refine ⟨r, env, st, R, E, ?_⟩
  dsimp only at h
  cases hx : o env st with
  | exc => rw [hx] at h; exact h
  | bad => rw [hx] at h; exact h.elim
  | ok b st1 =>
    rw [hx] at h
    exact fun H1 r1 A1 R1 => ⟨r1, env, st1, R1, E.aft R A1, h.aft A1⟩
theorem tIT.step2 {K : PySem.W.Frag} {Y : SW} {σ : St} {H : Hp} {Q : Bool → Hp → Prop} {o : Env → Store → Out Bool} {f : Bool → Env → Store → Out Bool} (h : tIT K F Y (fun env st => (o env st).bind fun b st1 => f b env st1) σ H Q) :
    tIT K F Y o σ H fun b H1 => tIT K F Y (f b) σ H1 Q := by
  obtain ⟨r, env, st, R, E, h⟩ := h
  refine ⟨r, env, st, R, E, ?_⟩
  dsimp only at h
  cases hx : o env st with
  | exc => rw [hx] at h; exact h
  | bad => rw [hx] at h; exact h.elim
  | ok b st1 =>
    rw [hx] at h
    exact fun H1 r1 A1 R1 => ⟨r1, env, st1, R1, E.aft R A1, h.aft A1⟩
theorem bind_assoc' {α β γ : Type} (o : Out α) (f : α → Store → Out β) (k : β → Store → Out γ) : (o.bind f).bind k = o.bind fun a st => (f a st).bind k := by
  cases o <;> rfl
theorem tI.eq {K : PySem.W.Frag} {Y : SW} {σ : St} {H : Hp} {Q : VK} {o o' : Env → Store → Out PV} (h : tI K F Y o σ H Q) (e : ∀ env st, o env st = o' env st) : tI K F Y o' σ H Q := by
  obtain ⟨r, env, st, R, E, h⟩ := h
  exact ⟨r, env, st, R, E, by rw [← e]; exact h⟩
theorem tIT.eq {K : PySem.W.Frag} {Y : SW} {σ : St} {H : Hp} {Q : Bool → Hp → Prop} {o o' : Env → Store → Out Bool} (h : tIT K F Y o σ H Q) (e : ∀ env st, o env st = o' env st) : tIT K F Y o' σ H Q := by
  obtain ⟨r, env, st, R, E, h⟩ := h
  exact ⟨r, env, st, R, E, by rw [← e]; exact h⟩
theorem two_read {K : PySem.W.Frag} {Y : SW} {σ : St} {H : Hp} {Q : VK} {oa ob : Env → Store → Out PV} {f : PV → PV → Store → Out PV}
    (h : tI K F Y (fun env st => (oa env st).bind fun x st1 => (ob env st1).bind fun y st2 => f x y st2) σ H Q) :
    tI K F Y oa σ H fun x H1 => tI K F Y ob σ H1 fun y H2 => ∃ r st p q, Rel K F H2 r st ∧ Rep K F H2 r x p ∧ Rep K F H2 r y q ∧ Post K F (Y σ) r H2 Q (f p q st) := by
  obtain ⟨r, env, st, R, E, h⟩ := h
  refine ⟨r, env, st, R, E, ?_⟩
  dsimp only at h
  cases hx : oa env st with
  | exc => rw [hx] at h; exact h
  | bad => rw [hx] at h; exact h.elim
  | ok p st1 =>
    rw [hx] at h
    intro v H1 r1 A1 R1 hv
    have h := h.aft A1
    refine ⟨r1, env, st1, R1, E.aft R A1, ?_⟩
    simp only [bind_ok] at h
    cases hy : ob env st1 with
    | exc => rw [hy] at h; exact h
    | bad => rw [hy] at h; exact h.elim
    | ok q st2 =>
      rw [hy] at h
      exact fun u H2 r2 A2 R2 hu => ⟨r2, st2, p, q, R2, hv.aft R1 A2, hu, h.aft A2⟩
theorem two_readB {K : PySem.W.Frag} {Y : SW} {σ : St} {H : Hp} {Q : VK} {oa ob : Env → Store → Out PV} {f : PV → PV → Store → Out PV}
    (h : tI K F Y (fun env st => (oa env st).bind fun x st1 => (ob env st1).bind fun y st2 => f x y st2) σ H Q) :
    tI K F Y oa σ H fun x H1 => tI K F Y ob σ H1 fun y H2 => ∃ B r st p q, Rel K F H2 r st ∧ Rep K F H2 r x p ∧ Rep K F H2 r y q ∧ Post K F B r H2 Q (f p q st) := by
  obtain ⟨r, env, st, R, E, h⟩ := h
  refine ⟨r, env, st, R, E, ?_⟩
  dsimp only at h
  cases hx : oa env st with
  | exc => rw [hx] at h; exact h
  | bad => rw [hx] at h; exact h.elim
  | ok p st1 =>
    rw [hx] at h
    intro v H1 r1 A1 R1 hv
    have h := h.aft A1
    refine ⟨r1, env, st1, R1, E.aft R A1, ?_⟩
    simp only [bind_ok] at h
    cases hy : ob env st1 with
    | exc => rw [hy] at h; exact h
    | bad => rw [hy] at h; exact h.elim
    | ok q st2 =>
      rw [hy] at h
      exact fun u H2 r2 A2 R2 hu => ⟨_, r2, st2, p, q, R2, hv.aft R1 A2, hu, h.aft A2⟩
theorem two_readT {K : PySem.W.Frag} {Y : SW} {σ : St} {H : Hp} {Q : Bool → Hp → Prop} {oa ob : Env → Store → Out PV} {f : PV → PV → Store → Out Bool}
    (h : tIT K F Y (fun env st => (oa env st).bind fun x st1 => (ob env st1).bind fun y st2 => f x y st2) σ H Q) :
    tI K F Y oa σ H fun x H1 => tI K F Y ob σ H1 fun y H2 => ∃ r st p q, Rel K F H2 r st ∧ Rep K F H2 r x p ∧ Rep K F H2 r y q ∧ PostT K F (Y σ) r H2 Q (f p q st) := by
  obtain ⟨r, env, st, R, E, h⟩ := h
  refine ⟨r, env, st, R, E, ?_⟩
  dsimp only at h
  cases hx : oa env st with
  | exc => rw [hx] at h; exact h
  | bad => rw [hx] at h; exact h.elim
  | ok p st1 =>
    rw [hx] at h
    intro v H1 r1 A1 R1 hv
    have h := h.aft A1
    refine ⟨r1, env, st1, R1, E.aft R A1, ?_⟩
    simp only [bind_ok] at h
    cases hy : ob env st1 with
    | exc => rw [hy] at h; exact h
    | bad => rw [hy] at h; exact h.elim
    | ok q st2 =>
      rw [hy] at h
      exact fun u H2 r2 A2 R2 hu => ⟨r2, st2, p, q, R2, hv.aft R1 A2, hu, h.aft A2⟩
theorem post_cmp {K : PySem.W.Frag} {B : EW} {H : Hp} {r : List Addr} {st : Store} {Q : VK} {o : Option Bool} (R : Rel K F H r st) (h : Post K F B r H Q ((Out.of o st).bind fun b st3 => .ok (.bl b) st3)) : ∃ b, o = some b ∧ Q (.bl b) H := by
  cases o with
  | none => exact h.elim
  | some b => exact ⟨b, rfl, Post.here R h (.bl b)⟩
theorem post_tru {K : PySem.W.Frag} {B : EW} {H : Hp} {r : List Addr} {st : Store} {Q : Bool → Hp → Prop} {o : Option Bool} (R : Rel K F H r st) (h : PostT K F B r H Q (((Out.of o st).bind fun b st3 => .ok (PV.bl b) st3).bind fun x st1 => Out.of (truthy st1 x) st1)) : ∃ b, o = some b ∧ Q b H := by
  cases o with
  | none => exact h.elim
  | some b => exact ⟨b, rfl, h H r .refl R⟩
theorem reps_perm {K : PySem.W.Frag} {H : Hp} {r : List Addr} {vs : List V} {ps : List PV} (h : Reps K F H r vs ps) : ∀ (perm : List Nat) (zs : List PV), perm.mapM (fun i => ps[i]?) = some zs → Reps K F H r (perm.map fun i => vs.getD i .non) zs
  | [], zs, e => by
    simp at e; subst e; exact .nil
  | i :: perm, zs, e => by
    simp only [List.mapM_cons, Option.bind_eq_bind, Option.bind_eq_some_iff] at e
    obtain ⟨z, e1, zs', e2, e3⟩ := e
    cases e3
    obtain ⟨v, e4, hv⟩ := h.get2 e1
    rw [List.map_cons]
    have : vs.getD i .non = v := by rw [List.getD_eq_getElem?_getD, e4]; rfl
    rw [this]
    exact .cons hv (reps_perm h perm zs' e2)
theorem vals_perm {vs : List V} {us : List Value} (h : Vals vs us) : ∀ perm : List Nat, Vals (perm.map fun i => vs.getD i .non) (perm.map fun i => us.getD i .none)
  | [] => .nil
  | i :: perm => by
    rw [List.map_cons, List.map_cons]
    refine .cons ?_ (vals_perm h perm)
    rw [List.getD_eq_getElem?_getD, List.getD_eq_getElem?_getD]
    cases e : vs[i]? with
    | none => rw [h.none_of e]; exact rfl
    | some v =>
      obtain ⟨u, e2, r⟩ := h.get e
      rw [e2]; exact r
theorem kw_facts : ∀ (kws : List Keyword), kws.all (fun k => k.arg.isSome) = true → ∀ (pos : Pos) (env : PySem.Env),
    (backToKw pos (keywordEach kws env)).all (·.1.isSome) = true ∧ (backToKw pos (keywordEach kws env)).filterMap (·.1) = kwNames kws ∧ (backToKw pos (keywordEach kws env)).any (·.1.isNone) = false
  | [], _, _, _ => ⟨rfl, rfl, rfl⟩
  | ⟨some k, v, p⟩ :: r, h, pos, env => by
    simp only [List.all_cons, Bool.and_eq_true] at h
    obtain ⟨h1, h2, h3⟩ := kw_facts r h.2 pos env
    refine ⟨?_, ?_, ?_⟩
    · show (true && (backToKw pos (keywordEach r env)).all (·.1.isSome)) = true
      rw [h1]; rfl
    · show k :: (backToKw pos (keywordEach r env)).filterMap (·.1) = k :: kwNames r
      rw [h2]
    · show (false || (backToKw pos (keywordEach r env)).any (·.1.isNone)) = false
      rw [h3]; rfl
  | ⟨none, v, p⟩ :: r, h, pos, env => by simp at h
theorem kwNames_len : ∀ (kws : List Keyword), kws.all (fun k => k.arg.isSome) = true → (kwNames kws).length = kws.length
  | [], _ => rfl
  | ⟨some k, v, p⟩ :: r, h => by
    simp only [List.all_cons, Bool.and_eq_true] at h
    exact congrArg (· + 1) (kwNames_len r h.2)
  | ⟨none, v, p⟩ :: r, h => by simp at h
theorem boot_bi (f : Bi) : bootBuiltins (biName f) = some (biVal f) := by cases f <;> decide +kernel
theorem boot_ty {T : String} (h : T ∈ tyNames) : bootBuiltins (Str.ofString T) = some (.type T) := by
  simp only [tyNames, List.mem_cons, List.not_mem_nil, or_false] at h
  rcases h with rfl | rfl | rfl | rfl | rfl <;> decide +kernel
theorem name_bi (f : Bi) : biName f ≠ "__name__" := by cases f <;> decide
theorem name_ty {T : String} (h : T ∈ tyNames) : (Str.ofString T) ≠ ("__name__" : Str) := by
  simp only [tyNames, List.mem_cons, List.not_mem_nil, or_false] at h
  rcases h with rfl | rfl | rfl | rfl | rfl <;> decide
theorem Std.gl (S : Std X g n N sc so W) {x : Str} (h : glb sc x = true) : Gl X x ∧ (x == ("__debug__" : Str)) = false := by
  obtain ⟨h1, h2⟩ := glb_of h
  refine ⟨?_, h2⟩
  show X.env.scope.names.lookup x = _
  rw [S.eS]; exact h1
end
end L2.Iv
namespace L2.Iv
open PySem PySem.Spec PyProof.Rows
theorem pt_if {X : Cx} {c a b : Expr} {tc ta tb : TT} {pos : Pos} (hc : PT X c tc) (ha : PT X a ta) (hb : PT X b tb) : PT X (.IfExp c a b pos) (fun σ H Q => tc σ H fun k H1 => if k = true then ta σ H1 Q else tb σ H1 Q) := by
  refine ⟨fun pins s σ H Q I h => ?_⟩
  refine isTrue_IfExp (thn (hc.run pins s σ H _ I h) fun k s1 ⟨H1, I1, q⟩ => ?_)
  cases k with
  | true => exact ha.run pins s1 σ H1 Q I1 q
  | false => exact hb.run pins s1 σ H1 Q I1 q
theorem evAnd_test (C : Ctx) (a b : Ex) (es : Exs) (env : Env) (st : Store) : ((evAnd C (.cons a (.cons b es)) env st).bind fun x st1 => Out.of (truthy st1 x) st1) =
    (evC C a env st).bind fun k st1 => if k = true then (evAnd C (.cons b es) env st1).bind fun x st1 => Out.of (truthy st1 x) st1 else .ok false st1 := by
  unfold evC
  rw [evAnd]
  cases evE C a env st with
  | ok x st1 =>
    simp only [bind_ok]
    cases e : truthy st1 x with
    | none => rfl
    | some k =>
      cases k with
      | true => rfl
      | false => simp only [bind_ok, e, of_some]; rfl
  | exc => rfl
  | bad => rfl
  · intro e; cases e
theorem evOr_test (C : Ctx) (a b : Ex) (es : Exs) (env : Env) (st : Store) : ((evOr C (.cons a (.cons b es)) env st).bind fun x st1 => Out.of (truthy st1 x) st1) =
    (evC C a env st).bind fun k st1 => if k = true then .ok true st1 else (evOr C (.cons b es) env st1).bind fun x st1 => Out.of (truthy st1 x) st1 := by
  unfold evC
  rw [evOr]
  cases evE C a env st with
  | ok x st1 =>
    simp only [bind_ok]
    cases e : truthy st1 x with
    | none => rfl
    | some k =>
      cases k with
      | false => rfl
      | true => simp only [bind_ok, e, of_some]; rfl
  | exc => rfl
  | bad => rfl
  · intro e; cases e
section
variable {X : Cx} {g : Sg} {n : Nat} {N : List Str} {sc so : Scope} {W : WX} {F : List Addr} {e : Expr}
theorem snd_c (v : PV) (h : chkE g N sc (.c v) e = true) : PE X e (tI X.K F (sw X.mg W) (evE (g.ctx (clOf X.mg) n) (.c v))) ∧ PT X e (tIT X.K F (sw X.mg W) (evC (g.ctx (clOf X.mg) n) (.c v))) := by
  cases e <;> first | (cases h; done) | skip
  rename_i k kk pos
  have h : cstOk v k = true := h
  have main : PE X (.Constant k kk pos) (tI X.K F (sw X.mg W) (evE (g.ctx (clOf X.mg) n) (.c v))) := by
    cases v <;> cases k <;> first | (cases h; done) | skip
    · exact PE.imp pe_non fun σ H Q q => tI_val q (fun _ _ => rfl) fun r => .non
    · simp only [cstOk, beq_iff_eq] at h
      subst h
      exact PE.imp pe_bl fun σ H Q q => tI_val q (fun _ _ => rfl) fun r => .bl _
    · simp only [cstOk, beq_iff_eq] at h
      subst h
      exact PE.imp pe_int fun σ H Q q => tI_val q (fun _ _ => rfl) fun r => .int _
    · simp only [cstOk, beq_iff_eq] at h
      subst h
      exact PE.imp pe_str fun σ H Q q => tI_val q (fun _ _ => rfl) fun r => .str _
  exact ⟨main, pt_plain _ main fun _ => rfl⟩
theorem snd_v (S : Std X g n N sc so W) (i : Nat) (h : chkE g N sc (.v i) e = true) : PE X e (tI X.K F (sw X.mg W) (evE (g.ctx (clOf X.mg) n) (.v i))) ∧ PT X e (tIT X.K F (sw X.mg W) (evC (g.ctx (clOf X.mg) n) (.v i))) := by
  cases e <;> first | (cases h; done) | skip
  rename_i x pos
  have h : nmOk N sc i x = true := h
  simp only [nmOk, Bool.and_eq_true, decide_eq_true_eq, Bool.not_eq_true'] at h
  have main : PE X (.Name x pos) (tI X.K F (sw X.mg W) (evE (g.ctx (clOf X.mg) n) (.v i))) := by
    refine PE.imp (pe_var (i := i) (by rw [S.eN]; exact h.1.1.1) (by rw [S.eS]; exact vis_of h.1.1.2) h.1.2 h.2) fun σ H Q q => ?_
    obtain ⟨r, env, st, R, E, q⟩ := q
    simp only [evE] at q
    split at q
    · rename_i p e1
      obtain ⟨v, e2, hv⟩ := E.get i p e1
      exact ⟨v, e2, q.here R hv⟩
    · exact q.elim
  exact ⟨main, pt_plain _ main fun _ => rfl⟩
theorem snd_g (S : Std X g n N sc so W) (y : Str) (h : chkE g N sc (.g y) e = true) : PE X e (tI X.K F (sw X.mg W) (evE (g.ctx (clOf X.mg) n) (.g y))) ∧ PT X e (tIT X.K F (sw X.mg W) (evC (g.ctx (clOf X.mg) n) (.g y))) := by
  cases e <;> first | (cases h; done) | skip
  rename_i x pos
  have h : (decide (x = y) && glb sc x && (g.gl.lookup x).isSome) = true := h
  simp only [Bool.and_eq_true, decide_eq_true_eq] at h
  obtain ⟨⟨rfl, h1⟩, h2⟩ := h
  obtain ⟨p, hp⟩ := Option.isSome_iff_exists.mp h2
  obtain ⟨u, v, hm, rv, rep⟩ := S.link.gl x p hp
  obtain ⟨hg, hd⟩ := S.gl h1
  have main : PE X (.Name x pos) (tI X.K F (sw X.mg W) (evE (g.ctx (clOf X.mg) n) (.g x))) := by
    refine PE.imp (pe_glob hg hm rv hd) fun σ H Q q => tI_val (p := p) q (fun env st => ?_) fun r => rep F H r
    simp only [evE]
    show Out.of (g.gl.lookup x) st = _
    rw [hp]; rfl
  exact ⟨main, pt_plain _ main fun _ => rfl⟩
theorem snd_fld (S : Std X g n N sc so W) (i : Nat) (h : chkE g N sc (.fld i) e = true) : PE X e (tI X.K F (sw X.mg W) (evE (g.ctx (clOf X.mg) n) (.fld i))) ∧ PT X e (tIT X.K F (sw X.mg W) (evC (g.ctx (clOf X.mg) n) (.fld i))) := by
  cases e <;> first | (cases h; done) | skip
  rename_i oe y pos
  cases oe <;> first | (cases h; done) | skip
  rename_i x px
  have h : (nmOk N sc i x && decide (y = ("value" : Str))) = true := h
  simp only [nmOk, Bool.and_eq_true, decide_eq_true_eq, Bool.not_eq_true'] at h
  obtain ⟨hy, rfl⟩ := h
  have ho : PE X (.Name x px) (tVar i) := pe_var (i := i) (by rw [S.eN]; exact hy.1.1.1) (by rw [S.eS]; exact vis_of hy.1.1.2) hy.1.2 hy.2
  have main : PE X (.Attribute (.Name x px) "value" pos) (tI X.K F (sw X.mg W) (evE (g.ctx (clOf X.mg) n) (.fld i))) := by
    refine PE.imp (pe_fv ho rfl) fun σ H Q q => ?_
    obtain ⟨r, env, st, R, E, q⟩ := q
    simp only [evE] at q
    split at q
    · rename_i c D v e1
      obtain ⟨u, e2, hu⟩ := E.get i _ e1
      split at q
      · rename_i hc
        obtain ⟨anc, hanc⟩ := Option.isSome_iff_exists.mp hc.2
        obtain ⟨C, T⟩ := S.link.ec c anc hanc
        cases hu with
        | @exn a _ dd _ w _ h1 h2 h3 =>
          have eD : D = C := hc.1.trans (clOf_eq T.mgc)
          subst eD
          exact ⟨_, e2, a, D, dd, w, rfl, h1, h2, T.kit, q.here R h3⟩
      · exact q.elim
    · exact q.elim
  exact ⟨main, pt_plain _ main fun _ => rfl⟩
theorem cool_of {b : Bool} (h : (!g.hot && b) = true) : g.hot = false ∧ b = true := by
  rw [Bool.and_eq_true, Bool.not_eq_true'] at h
  exact h
theorem exn_of (S : Std X g n N sc so W) {c : Str} (h : excOk g c = true) : ∃ cv u, ExN X.mg g c cv u := by
  unfold excOk at h
  rw [Bool.or_eq_true, Bool.and_eq_true, decide_eq_true_eq, decide_eq_true_eq] at h
  rcases h with h | ⟨h1, h2⟩
  · obtain ⟨anc, hanc⟩ := Option.isSome_iff_exists.mp h
    obtain ⟨C, T⟩ := S.link.ec c anc hanc
    exact ⟨_, _, .own hanc T.mgc⟩
  · exact ⟨_, _, .ve h1 (S.link.bs c h2)⟩
theorem pe_exn (S : Std X g n N sc so W) {c : Str} {cv : V} {u : Value} {p : Pos} (h : ExN X.mg g c cv u) (hg : glb sc c = true) : PE X (.Name c p) (tC cv) := by
  obtain ⟨hgl, hd⟩ := S.gl hg
  cases h with
  | own h1 h2 => exact pe_glob hgl h2 rfl hd
  | ve h1 h2 =>
    subst h1
    exact pe_bltn hgl h2 PyProof.Rows.Boot.«ValueError» rfl (by decide) hd
theorem ExN.cls {mg : Str → Option Value} {c : Str} {cv : V} {u : Value} (h : ExN mg g c cv u) : ClsV cv u := by
  cases h with
  | own => exact .own _
  | ve => exact .ty _
theorem ExN.none (S : Std X g n N sc so W) {c : Str} {cv : V} {u : Value} (h : ExN X.mg g c cv u) : PySem.W.kitOne X.K (.type "NoneType") u = some false := by
  cases h with
  | own h1 h2 =>
    obtain ⟨C, T⟩ := S.link.ec _ _ h1
    have := T.mgc
    rw [h2] at this
    cases this
    exact T.nn
  | ve => exact kit_ty (by decide +kernel)
theorem sub_call (S : Std X g n N sc so W) (hh : g.hot = false) (f : Str) {x : Str} {a : Expr} {ees : List Expr} {p pos : Pos} {es : Exs} (hx : x = f) (hg : glb sc x = true) (ht : (g.tb.lookup f).isSome = true) (hs : (a :: ees).all okS = true) (hl : es.length = (a :: ees).length)
    (ha : PA X (a :: ees) (tIA X.K F (sw X.mg W) (evEs (g.ctx (clOf X.mg) n) es))) : PE X (.Call (.Name x p) (a :: ees) [] pos) (tI X.K F (sw X.mg W) (evE (g.ctx (clOf X.mg) n) (.call f es))) := by
  subst hx
  obtain ⟨fn, hf⟩ := Option.isSome_iff_exists.mp ht
  obtain ⟨ad, fd, hm, hk, G, hb, _⟩ := S.link.fn x fn hf
  obtain ⟨hgl, hd⟩ := S.gl hg
  have hs2 := List.all_cons ▸ hs
  simp only [Bool.and_eq_true] at hs2
  refine PE.imp (pe_cG G (hh ▸ S.cal) S.tk hgl hm hk hb ha hd (okS_star hs2.1 _ _) (okS_any hs2.2 _ _)) fun σ H Q q => ?_
  obtain ⟨r, env, st, R, E, q⟩ := q
  refine ⟨r, env, st, R, E, ?_⟩
  simp only [evE] at q
  cases h1 : evEs (g.ctx (clOf X.mg) n) es env st with
  | exc => rw [h1] at q; exact q
  | bad => rw [h1] at q; exact q.elim
  | ok ps st1 =>
    rw [h1] at q
    exact fun vs H1 r1 A1 R1 hv => ⟨F, r1, st1, ps, R1, hv, q.aft A1⟩
theorem kw_read {K : PySem.W.Frag} {mg : Str → Option Value} {f : Str} {es ks : Exs} {perm : List Nat} {σ : St} {H : Hp} {Q : VK} {a b : Nat} (ha : ∀ (env : Env) st ps st1, evEs (g.ctx (clOf mg) n) es env st = .ok ps st1 → ps.length = a) (hb : ∀ (env : Env) st ps st1, evEs (g.ctx (clOf mg) n) ks env st = .ok ps st1 → ps.length = b)
    (q : tI K F (sw mg W) (evE (g.ctx (clOf mg) n) (.callk f es ks perm)) σ H Q) : tIA K F (sw mg W) (evEs (g.ctx (clOf mg) n) es) σ H fun vs H1 => vs.length = a ∧ tIA K F (sw mg W) (evEs (g.ctx (clOf mg) n) ks) σ H1 fun zs H2 => zs.length = b ∧ spI K mg g n f (perm.map fun i => (vs ++ zs).getD i .non) H2 Q (xAt W σ) := by
  obtain ⟨r, env, st, R, E, q⟩ := q
  refine ⟨r, env, st, R, E, ?_⟩
  simp only [evE] at q
  cases h1 : evEs (g.ctx (clOf mg) n) es env st with
  | exc => rw [h1] at q; exact q
  | bad => rw [h1] at q; exact q.elim
  | ok ps st1 =>
    rw [h1] at q
    intro vs H1 r1 A1 R1 hv
    refine ⟨by rw [hv.length]; exact ha _ _ _ _ h1, r1, env, st1, R1, E.aft R A1, ?_⟩
    have q := q.aft A1
    simp only [bind_ok] at q
    cases h2 : evEs (g.ctx (clOf mg) n) ks env st1 with
    | exc => rw [h2] at q; exact q
    | bad => rw [h2] at q; exact q.elim
    | ok ps2 st2 =>
      rw [h2] at q
      intro zs H2 r2 A2 R2 hz
      refine ⟨by rw [hz.length]; exact hb _ _ _ _ h2, ?_⟩
      have q := q.aft A2
      simp only [bind_ok] at q
      split at q
      · rename_i ws e1
        exact ⟨F, r2, st2, ws, R2, reps_perm ((hv.aft R1 A2).append hz) perm ws e1, q⟩
      · exact q.elim
theorem evEs_len (C : Ctx) : ∀ (es : Exs) (env : Env) (st : Store) (ps : List PV) (st1 : Store), evEs C es env st = .ok ps st1 → ps.length = es.length
  | .nil, env, st, ps, st1, h => by simp only [evEs] at h; cases h; rfl
  | .cons e es, env, st, ps, st1, h => by
    simp only [evEs] at h
    obtain ⟨x, st2, _, h2⟩ := bind_eq h
    obtain ⟨xs, st3, h3, h4⟩ := bind_eq h2
    cases h4
    exact congrArg (· + 1) (evEs_len C es env st2 xs _ h3)
theorem bi_read {cl : Str → Nat} {K : PySem.W.Frag} {Y : SW} {f : Bi} {fr : Bool} {es : Exs} {σ : St} {H : Hp} {Q : VK} (q : tI K F Y (evE (g.ctx cl n) (.bi f fr es)) σ H Q) : tIA K F Y (evEs (g.ctx cl n) es) σ H fun vs H1 => rBi K F f fr vs H1 Q := by
  obtain ⟨r, env, st, R, E, q⟩ := q
  refine ⟨r, env, st, R, E, ?_⟩
  simp only [evE] at q
  cases h1 : evEs (g.ctx cl n) es env st with
  | exc => rw [h1] at q; exact q
  | bad => rw [h1] at q; exact q.elim
  | ok ps st1 =>
    rw [h1] at q
    exact fun vs H1 r1 A1 R1 hv => ⟨_, r1, st1, ps, R1, hv, q.aft A1⟩
theorem sub_bi (S : Std X g n N sc so W) (f : Bi) (fr : Bool) {x : Str} {a : Expr} {ees : List Expr} {p pos : Pos} {es : Exs} (hx : x = biName f) (hg : glb sc x = true) (hb : x ∈ g.bs) (hf : g.hot = false ∨ coolBi f = true) (hs : (a :: ees).all okS = true)
    (ha : PA X (a :: ees) (tIA X.K F (sw X.mg W) (evEs (g.ctx (clOf X.mg) n) es))) : PE X (.Call (.Name x p) (a :: ees) [] pos) (tI X.K F (sw X.mg W) (evE (g.ctx (clOf X.mg) n) (.bi f fr es))) := by
  obtain ⟨hgl, hd⟩ := S.gl hg
  have hm := S.link.bs x hb
  have hs2 := List.all_cons ▸ hs
  simp only [Bool.and_eq_true] at hs2
  have hv : bootBuiltins x = some (biVal f) := by rw [hx]; exact boot_bi f
  have hn : x ≠ "__name__" := by rw [hx]; exact name_bi f
  have hc := call_bi (F := F) (n + 2) S.cal f fr hf
  have h1 := okS_star hs2.1 ees X.env
  have h2 := okS_any hs2.2 pos X.env
  cases f <;> first
    | exact PE.imp (pe_callB hc hgl hm hv ha hn hd h1 h2) fun σ H Q q => bi_read q
    | exact PE.imp (pe_callTy hc hgl hm hv ha hn hd h1 h2) fun σ H Q q => bi_read q
theorem me_read {cl : Str → Nat} {K : PySem.W.Frag} {Y : SW} {m : Me} {i : Nat} {es : Exs} {σ : St} {H : Hp} {Q : VK} (q : tI K F Y (evE (g.ctx cl n) (.me m i es)) σ H Q) :
    ∃ x, σ[i]? = some (some x) ∧ tyV K "list" x H ∧ tIA K F Y (evEs (g.ctx cl n) es) σ H fun vs H1 => rMe K F m x vs H1 Q := by
  obtain ⟨r, env, st, R, E, q⟩ := q
  simp only [evE] at q
  split at q
  · rename_i l e1
    obtain ⟨v, e2, hv⟩ := E.get i _ e1
    cases hv with
    | @loc a _ hl =>
      obtain ⟨xs, ws, c1, c2, _⟩ := R.cell hl
      refine ⟨_, e2, .inl ⟨rfl, _, .of c2⟩, r, env, st, R, E, ?_⟩
      cases h1 : evEs (g.ctx cl n) es env st with
      | exc => rw [h1] at q; exact q
      | bad => rw [h1] at q; exact q.elim
      | ok ps st1 =>
        rw [h1] at q
        exact fun vs H1 r1 A1 R1 hv => ⟨_, r1, st1, l, a, ps, rfl, R1, A1.get hl, hv, q.aft A1⟩
  · exact q.elim
theorem sub_me (S : Std X g n N sc so W) (m : Me) (i : Nat) {x y : Str} {ees : List Expr} {py apos cpos : Pos} {es : Exs} (hy : nmOk N sc i y = true) (hx : x = meName m) (hline : (apos.endLine == cpos.line) = true) (hl : ees.length ≤ 1) (hs : ees.all okS = true)
    (ha : PA X ees (tIA X.K F (sw X.mg W) (evEs (g.ctx (clOf X.mg) n) es))) (hes : es.length = ees.length) : PE X (.Call (.Attribute (.Name y py) x apos) ees [] cpos) (tI X.K F (sw X.mg W) (evE (g.ctx (clOf X.mg) n) (.me m i es))) := by
  simp only [nmOk, Bool.and_eq_true, decide_eq_true_eq, Bool.not_eq_true'] at hy
  have ho : PE X (.Name y py) (tVar i) := pe_var (i := i) (by rw [S.eN]; exact hy.1.1.1) (by rw [S.eS]; exact vis_of hy.1.1.2) hy.1.2 hy.2
  have hm := mt_me (X := X) (F := F) m
  subst hx
  match ees, hl, hs, ha, hes with
  | [], _, _, ha, hes =>
    have main : ∀ {name : Str} {id : String} {r}, Slot "list" name id → typeOf (.builtin id) = pure (.type "method_descriptor") → MtR X id r → PE X (.Call (.Attribute (.Name y py) name apos) [] [] cpos) (tBM0 X.K "list" r (tVar i)) :=
      fun s t h => pe_bm0 PySem.F.plainAttrs_list s t h ho rfl hline
    have rd : ∀ σ H Q, tI X.K F (sw X.mg W) (evE (g.ctx (clOf X.mg) n) (.me m i es)) σ H Q → tBM0 X.K "list" (rMe X.K F m) (tVar i) σ H Q := fun σ H Q q => by
      obtain ⟨x, e1, ty, r, env, st, R, E, q⟩ := me_read q
      refine ⟨x, e1, ty, ?_⟩
      cases es with
      | nil => exact q [] H r .refl R .nil
      | cons _ _ => cases hes
    cases m with
    | append => exact PE.imp (main PySem.F.slot_list_append PySem.F.type_list_append hm) rd
    | extend => exact PE.imp (main PySem.F.slot_list_extend PySem.F.type_list_extend hm) rd
    | pop => exact PE.imp (main PySem.F.slot_list_pop PySem.F.type_list_pop hm) rd
  | [a], _, hs, ha, _ =>
    have hs2 := List.all_cons ▸ hs
    simp only [Bool.and_eq_true] at hs2
    have h1 := okS_star hs2.1 [] X.env
    have main : ∀ {name : Str} {id : String} {r}, Slot "list" name id → typeOf (.builtin id) = pure (.type "method_descriptor") → MtR X id r → PE X (.Call (.Attribute (.Name y py) name apos) [a] [] cpos) (tBM X.K "list" r (tVar i) (tIA X.K F (sw X.mg W) (evEs (g.ctx (clOf X.mg) n) es))) :=
      fun s t h => pe_bm PySem.F.plainAttrs_list s t h ho ha rfl (by rw [h1]; rfl) hline h1 rfl
    have rd : ∀ σ H Q, tI X.K F (sw X.mg W) (evE (g.ctx (clOf X.mg) n) (.me m i es)) σ H Q → tBM X.K "list" (rMe X.K F m) (tVar i) (tIA X.K F (sw X.mg W) (evEs (g.ctx (clOf X.mg) n) es)) σ H Q := fun σ H Q q => by
      obtain ⟨x, e1, ty, q⟩ := me_read q
      exact ⟨x, e1, ty, q⟩
    cases m with
    | append => exact PE.imp (main PySem.F.slot_list_append PySem.F.type_list_append hm) rd
    | extend => exact PE.imp (main PySem.F.slot_list_extend PySem.F.type_list_extend hm) rd
    | pop => exact PE.imp (main PySem.F.slot_list_pop PySem.F.type_list_pop hm) rd
  | _ :: _ :: _, hl, _, _, _ => simp at hl
end
end L2.Iv
namespace L2.Iv
open PySem PySem.Spec PyProof.Rows
section
variable {K : PySem.W.Frag} {F : List Addr} {H : Hp} {r : List Addr} {st : Store} {D : Addr} {o : HO} {ws : List (Key × V)} {env : Env} {σ : St}
theorem SqF.wrK {a : Addr} {vs : List V} (hl : H D = some (.dK ws)) (h : SqF K F H r a vs) : SqF K F (upd H D o) r a vs := by
  rcases h with ⟨h, n1, n2⟩ | ⟨u, h⟩ | h
  · exact .inl ⟨by rw [upd_ne (by rintro rfl; rw [hl] at h; cases h)]; exact h, n1, n2⟩
  · exact .inr (.inl ⟨u, by rw [upd_ne (by rintro rfl; rw [hl] at h; cases h)]; exact h⟩)
  · exact .inr (.inr h)
theorem SqT.wrK {a : Addr} {vs : List V} (hl : H D = some (.dK ws)) (h : SqT K H a vs) : SqT K (upd H D o) a vs := by
  rcases h with (h | ⟨u, h⟩) | h
  · exact .inl (.inl (by rw [upd_ne (by rintro rfl; rw [hl] at h; cases h)]; exact h))
  · exact .inl (.inr ⟨u, by rw [upd_ne (by rintro rfl; rw [hl] at h; cases h)]; exact h⟩)
  · exact .inr h
theorem kz_no {ks : List Str} {vs : List V} (hk : ∀ kv ∈ ws, ∃ i : Int, kv.1 = .inl i) (n : kz ks vs ≠ []) (e : kz ks vs = ws) : False := by
  cases ks with
  | nil => exact n (by simp [kz])
  | cons k ks =>
    cases vs with
    | nil => exact n (by simp [kz])
    | cons v vs =>
      obtain ⟨i, h⟩ := hk ((Sum.inr k : Key), v) (by rw [← e]; simp [kz])
      cases h
mutual
theorem Rep.wrK (hl : H D = some (.dK ws)) (hk : ∀ kv ∈ ws, ∃ i : Int, kv.1 = .inl i) : ∀ {v : V} {p : PV}, Rep K F H r v p → Rep K F (upd H D o) r v p
  | _, _, .non => .non
  | _, _, .bl b => .bl b
  | _, _, .int i => .int i
  | _, _, .str x => .str x
  | _, _, .lsv h q => .lsv (h.wrK hl) (Reps.wrK hl hk q)
  | _, _, .tup h q => .tup (SqT.wrK hl h) (Reps.wrK hl hk q)
  | _, _, .loc e => .loc e
  | _, _, .exn h1 h2 q => .exn (by rw [upd_ne (by rintro rfl; rw [hl] at h1; cases h1)]; exact h1) (by rw [upd_ne (by rintro rfl; rw [hl] at h2; cases h2)]; exact h2) (Rep.wrK hl hk q)
  | _, _, .dct h n q => .dct (by rw [upd_ne (by rintro rfl; rw [hl] at h; cases h; exact kz_no hk n rfl)]; exact h) n (Reps.wrK hl hk q)
  | _, _, .rgo h => .rgo (by rw [upd_ne (by rintro rfl; rw [hl] at h; cases h)]; exact h)
theorem Reps.wrK (hl : H D = some (.dK ws)) (hk : ∀ kv ∈ ws, ∃ i : Int, kv.1 = .inl i) : ∀ {vs : List V} {ps : List PV}, Reps K F H r vs ps → Reps K F (upd H D o) r vs ps
  | _, _, .nil => .nil
  | _, _, .cons h q => .cons (Rep.wrK hl hk h) (Reps.wrK hl hk q)
end
theorem Rel.wrK (R : Rel K F H r st) (hl : H D = some (.dK ws)) (hk : ∀ kv ∈ ws, ∃ i : Int, kv.1 = .inl i) : Rel K F (upd H D o) r st := by
  refine ⟨R.len, R.nd, fun i a xs e1 e2 => ?_, R.apart, fun a ha => ?_⟩
  · obtain ⟨vs, h1, h2⟩ := R.cells i a xs e1 e2
    exact ⟨vs, by rw [upd_ne (by rintro rfl; rw [hl] at h1; cases h1)]; exact h1, h2.wrK hl hk⟩
  · obtain ⟨vs, e⟩ := R.fs a ha
    exact ⟨vs, by rw [upd_ne (by rintro rfl; rw [hl] at e; cases e)]; exact e⟩
theorem EnvRel.wrK (e : EnvRel K F H r env σ) (hl : H D = some (.dK ws)) (hk : ∀ kv ∈ ws, ∃ i : Int, kv.1 = .inl i) : EnvRel K F (upd H D o) r env σ :=
  ⟨e.len, fun i p h => let ⟨v, h1, h2⟩ := e.get i p h; ⟨v, h1, h2.wrK hl hk⟩⟩
end
noncomputable def dcTurn (C : Ctx) (env : Env) (p : Pt) (e : Ex) : PV → Store → Out (List PV) := fun x st => match asgP p x env with
  | some env1 => (evE C e env1 st).quiet.bind fun y st2 => match y with
    | .int i => .ok [.int i] st2
    | _ => .bad
  | none => .bad
theorem dcTurn_exc (C : Ctx) (env : Env) (p : Pt) (e : Ex) (x : PV) (st : Store) (c : Str) (v : PV) (st' : Store) : dcTurn C env p e x st ≠ .exc c v st' := by
  intro h
  unfold dcTurn at h
  split at h
  · obtain ⟨y, st2, _, h⟩ := quiet_exc h
    cases y <;> cases h
  · cases h
def DcIn (K : PySem.W.Frag) (F : List Addr) (D : Addr) (r1 : List Addr) (H1 : Hp) (env : Env) (σ : St) (r : List Addr) (st : Store) (acc : List PV) (H : Hp) : Prop :=
  ∃ (kvs : List (Key × V)) (ks ns : List Int), Aft r1 H1 r H ∧ Rel K F H r st ∧ EnvRel K F H r env σ ∧ D ∉ r ∧ H D = some (.dK kvs) ∧ kvs.map (·.1) = ks.map Sum.inl ∧ ks.Nodup ∧ intsOf acc = some ns ∧ (∀ x, x ∈ ks ↔ x ∈ ns) ∧ kvs.length ≤ acc.length
theorem DcIn.go {K : PySem.W.Frag} {F : List Addr} {D : Addr} {r1 : List Addr} {H1 : Hp} {env : Env} {σ : St} {r r' : List Addr} {st st' : Store} {acc : List PV} {H H' : Hp} (L : DcIn K F D r1 H1 env σ r st acc H)
    (A : Aft r H r' H') (R' : Rel K F H' r' st') : DcIn K F D r1 H1 env σ r' st' acc H' := by
  obtain ⟨kvs, ks, ns, a, R, E, n, e, q⟩ := L
  obtain ⟨e2, n2⟩ := A.keep D _ e n
  exact ⟨kvs, ks, ns, a.trans A, R', E.aft R A, n2, e2, q⟩
theorem ints_app1 : ∀ {acc : List PV} {ns : List Int} {i : Int}, intsOf acc = some ns → intsOf (acc ++ [.int i]) = some (ns ++ [i])
  | [], _, i, h => by cases h; rfl
  | .int j :: r, ns, i, h => by
    have h : (intsOf r).map (j :: ·) = some ns := h
    cases h1 : intsOf r with
    | none => rw [h1] at h; cases h
    | some ms =>
      rw [h1] at h
      cases h
      show (intsOf (r ++ [.int i])).map (j :: ·) = _
      rw [ints_app1 h1]; rfl
  | .non :: _, _, _, h => by cases h
  | .bl _ :: _, _, _, h => by cases h
  | .str _ :: _, _, _, h => by cases h
  | .tup _ :: _, _, _, h => by cases h
  | .lsv _ :: _, _, _, h => by cases h
  | .loc _ :: _, _, _, h => by cases h
  | .exn .. :: _, _, _, h => by cases h
  | .dct .. :: _, _, _, h => by cases h
theorem len_put {kvs : List (Key × V)} {k : Key} {v : V} : (putK kvs k v).length ≤ kvs.length + 1 := length_putK kvs k v
theorem DcIn.add {K : PySem.W.Frag} {F : List Addr} {D : Addr} {r1 : List Addr} {H1 : Hp} {env : Env} {σ : St} {r : List Addr} {st : Store} {acc : List PV} {H : Hp} {i : Int} (w : V) (L : DcIn K F D r1 H1 env σ r st acc H) (hD : H1 D = none) :
    ∃ kvs, H D = some (.dK kvs) ∧ kvs.length ≤ acc.length ∧ DcIn K F D r1 H1 env σ r st (acc ++ [.int i]) (upd H D (.dK (putK kvs (.inl i) w))) := by
  obtain ⟨kvs, ks, ns, a, R, E, n, e, h1, h2, h3, h4, h5⟩ := L
  obtain ⟨ks', k1, k2, k3⟩ := keys_put (i := i) (v := w) h1 h2
  have hk : ∀ kv ∈ kvs, ∃ i : Int, kv.1 = .inl i := fun kv hkv => by
    have m : kv.1 ∈ kvs.map (·.1) := List.mem_map.mpr ⟨kv, hkv, rfl⟩
    rw [h1] at m
    obtain ⟨j, _, e⟩ := List.mem_map.mp m
    exact ⟨j, e.symm⟩
  refine ⟨kvs, e, h5, _, ks', ns ++ [i], ⟨a.pre, fun b o eb nb => ?_⟩, R.wrK e hk, E.wrK e hk, n, upd_same, k1, k2, ints_app1 h3, fun x => ?_, ?_⟩
  · obtain ⟨z1, z2⟩ := a.keep b o eb nb
    exact ⟨by rw [upd_ne (ne_of_none eb hD)]; exact z1, z2⟩
  · rw [k3, h4, List.mem_append, List.mem_singleton]
  · have := len_put (kvs := kvs) (k := .inl i) (v := w)
    rw [List.length_append, List.length_singleton]; omega
theorem dc_turns {C : Ctx} {K : PySem.W.Frag} {F : List Addr} {D : Addr} {r1 : List Addr} {H1 : Hp} {env : Env} {σ : St} {p : Pt} {e : Ex} {own : List Nat} {J : It} {xs : List PV} {w : Watch}
    (hD : H1 D = none) (hown : ∀ i ∈ p.slots, i ∈ own) {i : Nat} {r : List Addr} {st : Store} {acc : List PV} {H : Hp} (j : JOk K F J xs w r1 H1)
    (L : DcIn K F D r1 H1 env σ r st acc H) {x : PV} (hx : xs[i]? = some x) (hw : watchOk w st) {ys : List PV} {st' : Store}
    (hf : dcTurn C (wipeE env own) p e x st = .ok ys st') (hz : acc.length + ys.length ≤ sizeLine) (Nx : Hp → Prop) (hN : ∀ H' r', DcIn K F D r1 H1 env σ r' st' (acc ++ ys) H' → Nx H') :
    J.go i H ∧ ∀ x H', J.yld i H x H' → gX K p x (wipe σ own) H' fun σ2 H2 => wipe σ2 own = wipe σ own ∧ tYes σ2 H2 fun b H3 =>
      if b = true then tX K (evE C e) σ2 H3 fun y H4 => tC (.bl true) σ2 H4 fun z H5 => ∃ kvs k, y = kV k ∧ H5 D = some (.dK kvs) ∧ kvs.length < sizeLine ∧ Nx (upd H5 D (.dK (putK kvs k z))) else Nx H3 := by
  obtain ⟨kvs, ks, ns, a, R, E, nD, eD, q⟩ := id L
  obtain ⟨go, yl⟩ := (j F i H r st (fun b hb => .inl hb) a.toF R hw).1 x hx
  refine ⟨go, fun v H' hy => ?_⟩
  obtain ⟨A1, R1, hv⟩ := yl v H' hy
  have L1 := L.go A1 R1
  obtain ⟨_, _, _, _, _, E1, _⟩ := id L1
  unfold dcTurn at hf
  split at hf
  · rename_i env1 he1
    obtain ⟨y, st2, h3, h4⟩ := bind_eq hf
    have h3 := quiet_eq h3
    cases y <;> first | (cases h4; done) | skip
    rename_i iy _
    cases h4
    refine ⟨F, r, st, wipeE env own, x, env1, R1, E1.wipe own, hv, he1, fun σ2 E2 w2 => ⟨(w2 own hown).trans (wipe_wipe σ own own fun _ z => z), ?_⟩⟩
    dsimp only [tYes]
    rw [if_pos rfl]
    refine ⟨F, r, env1, st, R1, E2, ?_⟩
    rw [h3]
    intro v4 H4 r4 A4 R4 hv4
    cases hv4
    obtain ⟨ws, e4, l4, L4⟩ := (L1.go A4 R4).add (i := iy) (.bl true) hD
    refine ⟨ws, .inl iy, rfl, e4, ?_, hN _ r4 L4⟩
    simp only [List.length_singleton] at hz
    omega
  · cases hf
theorem srt_read {C : Ctx} {K : PySem.W.Frag} {F : List Addr} {σ : St} {H : Hp} {W : SW} {Q : VK} {fr : Bool} {own : List Nat} {p : Pt} {it : Ix} {e : Ex} (hown : ∀ i ∈ p.slots, i ∈ own)
    (h : tI K F W (evE C (.srt fr own p it e)) σ H Q) : tCB rSortedD (tCons (tDc (iI K F W (evIx C it)) (gX K p) tYes (tX K (evE C e)) (tC (.bl true)) own) tNil) σ H Q := by
  obtain ⟨r, env, st, R, E, h⟩ := h
  have h : Post K F (W σ) r H Q ((evIx C it env st).bind fun xw st1 => (compF xw.2 (dcTurn C (wipeE env own) p e) xw.1 [] st1).bind fun ys st2 => match intsOf ys with
    | some ns => newL fr ((sortD ns).map .int) st2
    | none => .bad) := h
  refine ⟨r, env, st, R, E, ?_⟩
  cases hi : evIx C it env st with
  | exc => rw [hi] at h; exact h
  | bad => rw [hi] at h; exact h.elim
  | ok xw st1 =>
    rw [hi] at h
    intro H1 r1 J A1 R1 j D hD
    have h : Post K F (W σ) r H Q ((compF xw.2 (dcTurn C (wipeE env own) p e) xw.1 [] st1).bind fun ys st2 => match intsOf ys with
      | some ns => newL fr ((sortD ns).map .int) st2
      | none => .bad) := h
    cases hc : compF xw.2 (dcTurn C (wipeE env own) p e) xw.1 [] st1 with
    | exc => exact absurd hc (compF_exc (dcTurn_exc _ _ _ _))
    | bad => rw [hc] at h; exact h.elim
    | ok zs st2 =>
      rw [hc] at h
      have h : Post K F (W σ) r1 H1 Q (match intsOf zs with
        | some ns => newL fr ((sortD ns).map .int) st2
        | none => .bad) := Post.aft h A1
      have E1 := E.aft R A1
      have nr := (R1.fresh hD).1
      have A0 : Aft r1 H1 r1 (upd H1 D (.dK [])) := .new hD
      refine ⟨fun i m H2 => i ≤ xw.1.length ∧ m = xw.1.length - i ∧ ∃ r2 st3 acc, DcIn K F D r1 H1 env σ r2 st3 acc H2 ∧ compF xw.2 (dcTurn C (wipeE env own) p e) (xw.1.drop i) acc st3 = .ok zs st2,
        ⟨_, Nat.zero_le _, rfl, r1, st1, [], ⟨[], [], [], A0, R1.new hD, E1.aft R1 A0, nr, upd_same, rfl, List.nodup_nil, rfl, fun x => Iff.rfl, Nat.le_refl _⟩, by rw [List.drop_zero]; exact hc⟩, ?_⟩
      rintro i m H2 ⟨hi2, rfl, r2, st3, acc, L, hc2⟩
      by_cases hlt : i < xw.1.length
      · right
        obtain ⟨x, hx, hd⟩ := drop_get hlt
        rw [hd] at hc2
        obtain ⟨hw, ys, st4, hf, hz, hc3⟩ := compF_cons hc2
        have T := dc_turns hD hown j L hx hw hf hz (fun H' => i + 1 ≤ xw.1.length ∧ ∃ r2 st3 acc, DcIn K F D r1 H1 env σ r2 st3 acc H' ∧ compF xw.2 (dcTurn C (wipeE env own) p e) (xw.1.drop (i + 1)) acc st3 = .ok zs st2)
          fun H' r' L' => ⟨hlt, r', st4, acc ++ ys, L', hc3⟩
        exact ⟨T.1, _, fun H' hN => ⟨xw.1.length - (i + 1), by omega, hN.1, rfl, hN.2⟩, T.2⟩
      · left
        have hi3 : i = xw.1.length := by omega
        subst hi3
        rw [List.drop_length] at hc2
        obtain ⟨hw, rfl, rfl⟩ := compF_nil hc2
        obtain ⟨kvs, ks, ns, a, R2, E2, nD, eD, k1, k2, k3, k4, k5⟩ := L
        refine ⟨(j F _ H2 r2 st3 (fun b hb => .inl hb) a.toF R2 hw).2 (Nat.le_refl _), ?_⟩
        rw [k3] at h
        refine ⟨D, kvs, ks, rfl, eD, k1, fun ns' q hp hs hq => ?_⟩
        have e : ns' = sortD ns := srt_of k2 k4 hp hs
        subst e
        have hr : Reps K F H2 r2 ((sortD ns).map V.int) ((sortD ns).map PV.int) := by
          have : ∀ l : List Int, Reps K F H2 r2 (l.map V.int) (l.map PV.int) := by
            intro l
            induction l with
            | nil => exact .nil
            | cons x l ih => exact .cons (.int x) ih
          exact this _
        exact Post.lst R2 (Post.aft h a) hr q hq
end L2.Iv
namespace L2.Iv
open PySem PySem.Spec PyProof.Rows
noncomputable def trsD (C : Ctx) (K : PySem.W.Frag) (F : List Addr) (W : SW) : List Str → Exs → List (TE × TE)
  | k :: ks, .cons e es => (tC (.str k), tI K F W (evE C e)) :: trsD C K F W ks es
  | _, _ => []
theorem keysOk_some : ∀ {ks : List Str} {r : List (Option Expr)}, keysOk ks r = true → r.all (·.isSome) = true ∧ r.length = ks.length
  | [], [], _ => ⟨rfl, rfl⟩
  | [], _ :: _, h => by cases h
  | k :: ks, [], h => by cases h
  | k :: ks, none :: r, h => by cases h
  | k :: ks, some e :: r, h => by
    unfold keysOk at h
    split at h
    · rename_i z; cases z
    · rename_i z1 z2
      cases z1; cases z2
      rw [Bool.and_eq_true] at h
      obtain ⟨h1, h2⟩ := keysOk_some h.2
      exact ⟨by rw [List.all_cons, h1]; rfl, congrArg (· + 1) h2⟩
    · cases h
section
variable {C : Ctx} {K : PySem.W.Frag} {F : List Addr} {W : SW} {σ : St}
theorem pairs_read : ∀ (es : Exs) (ks : List Str) {r : List Addr} {env : Env} {st : Store} {H : Hp} {Q' : List V → Hp → Prop} {Kc : List (V × V) → Hp → Prop}, ks.length = es.length → Rel K F H r st → EnvRel K F H r env σ →
    PostA K F (W σ) r H Q' (evEs C es env st) → (∀ vs H', Q' vs H' → Kc (List.zipWith (fun k v => (V.str k, v)) ks vs) H') → tPairs (trsD C K F W ks es) σ H Kc
  | .nil, [], r, env, st, H, Q', Kc, _, R, E, q, h => by
    have q : PostA K F (W σ) r H Q' (.ok [] st) := q
    exact h [] H (q [] H r .refl R .nil)
  | .nil, _ :: _, _, _, _, _, _, _, hl, _, _, _, _ => by cases hl
  | .cons _ _, [], _, _, _, _, _, _, hl, _, _, _, _ => by cases hl
  | .cons e es, k :: ks, r, env, st, H, Q', Kc, hl, R, E, q, h => by
    have q : PostA K F (W σ) r H Q' ((evE C e env st).bind fun x st1 => (evEs C es env st1).bind fun xs st2 => .ok (x :: xs) st2) := q
    refine ⟨r, env, st, R, E, ?_⟩
    cases k1 : evE C e env st with
    | exc => rw [k1] at q; exact q
    | bad => rw [k1] at q; exact q.elim
    | ok p st1 =>
      rw [k1] at q
      intro v H1 r1 A1 R1 hv
      have q : PostA K F (W σ) r H Q' ((evEs C es env st1).bind fun xs st2 => .ok (p :: xs) st2) := q
      have q := PostA.aft q A1
      refine pairs_read es ks (Q' := fun vs H' => Q' (v :: vs) H') (Nat.succ.inj hl) R1 (E.aft R A1) ?_ fun vs H' hq => h (v :: vs) H' hq
      cases k2 : evEs C es env st1 with
      | exc => rw [k2] at q; exact q
      | bad => rw [k2] at q; exact q.elim
      | ok ps st2 =>
        rw [k2] at q
        intro vs H2 r2 A2 R2 hvs
        exact q (v :: vs) H2 r2 A2 R2 (.cons (hv.aft R1 A2) hvs)
theorem mergeK_id : ∀ (more kvs : List (Key × V)), ((kvs ++ more).map (·.1)).Nodup → mergeK kvs more = kvs ++ more
  | [], kvs, _ => by rw [List.append_nil]; rfl
  | p :: r, kvs, h => by
    show mergeK (putK kvs p.1 p.2) r = _
    have hn : ¬ (kvs.any fun kv => decide (kv.1 = p.1)) = true := fun z => by
      obtain ⟨x, hx, e⟩ := List.any_eq_true.mp z
      rw [List.map_append, List.nodup_append] at h
      exact h.2.2 x.1 (List.mem_map.mpr ⟨x, hx, rfl⟩) p.1 (by simp) (of_decide_eq_true e)
    have e : putK kvs p.1 p.2 = kvs ++ [p] := by unfold putK; rw [if_neg hn]
    rw [e, mergeK_id r (kvs ++ [p]) (by rw [List.append_assoc]; exact h), List.append_assoc]; rfl
theorem lookS_val : ∀ {ks : List Str} {vs : List V} {xs : List PV} {w : Str} {x : PV} {H : Hp} {r : List Addr}, Reps K F H r vs xs → lookS ks xs w = some x →
    ∃ v, valV (List.zipWith (fun k v => ((Sum.inr k : Key), v)) ks vs) (Sum.inr w) = some v ∧ Rep K F H r v x
  | [], _, _, _, _, _, _, _, h => by cases h
  | _ :: _, _, _, _, _, _, _, .nil, h => by cases h
  | k :: ks, _, _, w, x, H, r, .cons (v := v) (d := d) hv q, h => by
    unfold lookS at h
    by_cases e : k = w
    · rw [if_pos e] at h
      cases h
      refine ⟨v, ?_, hv⟩
      show valV (((Sum.inr k : Key), v) :: _) _ = _
      exact valV_pos (by rw [e])
    · rw [if_neg e] at h
      obtain ⟨u, h1, h2⟩ := lookS_val q h
      refine ⟨u, ?_, h2⟩
      show valV (((Sum.inr k : Key), v) :: _) _ = _
      unfold valV at h1 ⊢
      rw [List.find?_cons_of_neg (by simpa using e)]
      exact h1
theorem keys_zip : ∀ {ks : List Str} {vs : List V}, (List.zipWith (fun k v => ((Sum.inr k : Key), v)) ks vs).map (·.1) = (ks.take vs.length).map Sum.inr
  | [], _ => by simp
  | k :: ks, [] => by simp
  | k :: ks, v :: vs => by
    rw [List.zipWith_cons_cons, List.map_cons, keys_zip (ks := ks) (vs := vs)]; rfl
theorem zip_kv : ∀ {ks : List Str} {vs : List V}, List.zipWith (fun k v => (V.str k, v)) ks vs = (List.zipWith (fun k v => ((Sum.inr k : Key), v)) ks vs).map fun kv => (kV kv.1, kv.2)
  | [], _ => by simp
  | k :: ks, [] => by simp
  | k :: ks, v :: vs => by
    rw [List.zipWith_cons_cons, List.zipWith_cons_cons, List.map_cons, zip_kv]; rfl
theorem reps_pick {K : PySem.W.Frag} {F : List Addr} {H : Hp} {r : List Addr} {vs : List V} {ps : List PV} (h : Reps K F H r vs ps) : ∀ idx : List Nat, Reps K F H r (idx.filterMap (vs[·]?)) (idx.filterMap (ps[·]?))
  | [] => .nil
  | i :: idx => by
    rw [List.filterMap_cons, List.filterMap_cons]
    cases e : vs[i]? with
    | none =>
      have : ps[i]? = none := by
        rw [List.getElem?_eq_none_iff] at e ⊢
        have := h.length
        omega
      rw [this]; exact reps_pick h idx
    | some x =>
      obtain ⟨u, e1, e2⟩ := h.get e
      rw [e1]; exact .cons e2 (reps_pick h idx)
theorem step_read {C : Ctx} {K : PySem.W.Frag} {F : List Addr} {σ : St} {H : Hp} {W : SW} {Q : VK} {fr : Bool} {a k : Ex} (q : tI K F W (evE C (.slK fr a k)) σ H Q) :
    tStep K (tI K F W (evE C a)) (tI K F W (evE C k)) σ H Q := by
  have q := two_readB (oa := evE C a) (ob := evE C k) (f := fun x y st2 => stepV fr st2 x y) (K := K) (F := F) (Y := W) (σ := σ) (H := H) (Q := Q) (by
    obtain ⟨r, env, st, R, E, q⟩ := q
    refine ⟨r, env, st, R, E, ?_⟩
    have e : evE C (.slK fr a k) env st = (evE C a env st).bind fun x st1 => (evE C k env st1).bind fun y st2 => stepV fr st2 x y := by
      first | rfl | (simp only [evE]; done) | (rw [evE]; all_goals (intro z; cases z))
    dsimp only
    rw [← e]
    exact q)
  obtain ⟨r, env, st, R, E, q⟩ := q
  refine ⟨r, env, st, R, E, ?_⟩
  cases h1 : evE C a env st with
  | exc => rw [h1] at q; exact q
  | bad => rw [h1] at q; exact q.elim
  | ok p st1 =>
    rw [h1] at q
    intro v H1 r1 A1 R1 hv
    obtain ⟨r2, env2, st2, R2, E2, q⟩ := q v H1 r1 A1 R1 hv
    refine ⟨r2, env2, st2, R2, E2, ?_⟩
    cases h3 : evE C k env2 st2 with
    | exc => rw [h3] at q; exact q
    | bad => rw [h3] at q; exact q.elim
    | ok p2 st3 =>
      rw [h3] at q
      intro v2 H4 r4 A4 R4 hv4
      obtain ⟨B, r5, st5, p5, q5, R5, hp, hq, q9⟩ := q v2 H4 r4 A4 R4 hv4
      unfold stepV at q9
      cases hq with
      | int i =>
        dsimp only at q9
        by_cases h1 : 1 ≤ i
        · rw [if_pos h1] at q9
          split at q9
          · rename_i xs e1
            obtain ⟨ad, vs, rfl, s1, q1⟩ := hp.seqL R5 e1
            refine ⟨i, rfl, ad, vs, i, rfl, rfl, h1, s1, ?_⟩
            have rr := reps_pick q1 (sliceRange 0 xs.length i.toNat)
            have el : stepL i.toNat vs = (sliceRange 0 xs.length i.toNat).filterMap (vs[·]?) := by unfold stepL; rw [q1.length]
            rw [el]
            exact Post.lst R5 q9 rr
          · exact q9.elim
        · rw [if_neg h1] at q9; exact q9.elim
      | _ => exact q9.elim
theorem dsp_read {H : Hp} {Q : VK} {ks : List Str} {es : Exs} {i : Ex} (hl : ks.length = es.length) (h15 : ks.length ≤ 15) (hn : ks.Nodup) (q : tI K F W (evE C (.dsp ks es i)) σ H Q) :
    tDGet (tDisp (trsD C K F W ks es)) (tI K F W (evE C i)) σ H Q := by
  obtain ⟨r, env, st, R, E, q⟩ := q
  have q : Post K F (W σ) r H Q ((evEs C es env st).bind fun xs st1 => (evE C i env st1).bind fun y st2 => match y with
    | .str w => .of (lookS ks xs w) st2
    | _ => .bad) := q
  intro p hp
  have nr := (R.fresh hp).1
  have A0 : Aft r H r (upd H p (.dK [])) := .new hp
  have R0 : Rel K F (upd H p (.dK [])) r st := R.new hp
  have E0 := E.aft R A0
  cases k1 : evEs C es env st with
  | bad => rw [k1] at q; exact q.elim
  | exc c pv st1 =>
    rw [k1] at q
    exact pairs_read es ks (Q' := fun _ _ => False) hl R0 E0 (by rw [k1]; exact PostX.aft q A0) fun vs H' z => z.elim
  | ok xs st1 =>
    rw [k1] at q
    have q : Post K F (W σ) r H Q ((evE C i env st1).bind fun y st2 => match y with
      | .str w => .of (lookS ks xs w) st2
      | _ => .bad) := q
    refine pairs_read es ks (Q' := fun vs H2 => ∃ r2, Aft r (upd H p (.dK [])) r2 H2 ∧ Rel K F H2 r2 st1 ∧ Reps K F H2 r2 vs xs) hl R0 E0 ?_ ?_
    · rw [k1]
      exact fun vs H2 r2 A2 R2 hvs => ⟨r2, A2, R2, hvs⟩
    · rintro vs H2 ⟨r2, A2, R2, hvs⟩
      obtain ⟨e2, n2⟩ := A2.keep p _ upd_same nr
      have kz := keys_zip (ks := ks) (vs := vs)
      refine ⟨e2, List.zipWith (fun k v => ((Sum.inr k : Key), v)) ks vs, zip_kv, by rw [List.length_zipWith]; omega, ?_⟩
      rw [mergeK_id _ [] (by rw [List.nil_append, kz]; exact List.pairwise_map.mpr ((hn.sublist (List.take_sublist _ _)).imp fun {a b} h e => h (by cases e; rfl))), List.nil_append]
      have A3 : Aft r H r2 (upd H2 p (.dK (List.zipWith (fun k v => ((Sum.inr k : Key), v)) ks vs))) := ⟨A2.pre, fun b o eb nb => by
        have nbp := ne_of_none eb hp
        obtain ⟨z1, z2⟩ := A2.keep b o (by rw [upd_ne nbp]; exact eb) nb
        exact ⟨by rw [upd_ne nbp]; exact z1, z2⟩⟩
      have hk0 : ∀ kv ∈ ([] : List (Key × V)), ∃ i : Int, kv.1 = .inl i := fun _ h => by cases h
      refine ⟨r2, env, st1, R2.wrK e2 hk0, (E0.aft R0 A2).wrK e2 hk0, ?_⟩
      have q := Post.aft q A3
      cases k2 : evE C i env st1 with
      | exc => rw [k2] at q; exact q
      | bad => rw [k2] at q; exact q.elim
      | ok y st2 =>
        rw [k2] at q
        intro v4 H4 r4 A4 R4 hv4
        cases hv4 with
        | str w =>
          have q : Post K F (W σ) r2 (upd H2 p (.dK (List.zipWith (fun k v => ((Sum.inr k : Key), v)) ks vs))) Q (.of (lookS ks xs w) st2) := q
          cases k3 : lookS ks xs w with
          | none => rw [k3] at q; exact q.elim
          | some x =>
            rw [k3] at q
            obtain ⟨u, h1, h2⟩ := lookS_val ((hvs.wrK e2 hk0).aft (R2.wrK e2 hk0) A4) k3
            obtain ⟨e5, _⟩ := A4.keep p _ upd_same n2
            exact ⟨p, u, rfl, .inl ⟨_, .inr w, .inl e5, rfl, h1.symm⟩, q u H4 r4 A4 R4 h2⟩
        | _ => exact q.elim
end
end L2.Iv
namespace L2.Iv
open PySem PySem.Spec PyProof.Rows
def KeysP (X : Cx) : List Str → List (Option Expr) → Prop
  | [], [] => True
  | k :: ks, some e :: r => PE X e (tC (.str k)) ∧ KeysP X ks r
  | _, _ => False
theorem KeysP.haves {X : Cx} : ∀ {ks : List Str} {r : List (Option Expr)}, KeysP X ks r → r.all (·.isSome) = true ∧ r.length = ks.length
  | [], [], _ => ⟨rfl, rfl⟩
  | [], _ :: _, h => h.elim
  | k :: ks, [], h => h.elim
  | k :: ks, none :: r, h => h.elim
  | k :: ks, some e :: r, h => by
    obtain ⟨h1, h2⟩ := KeysP.haves h.2
    exact ⟨by rw [List.all_cons, h1]; rfl, congrArg (· + 1) h2⟩
theorem keysOk_P {X : Cx} : ∀ {ks : List Str} {r : List (Option Expr)}, keysOk ks r = true → KeysP X ks r
  | [], [], _ => True.intro
  | [], _ :: _, h => by cases h
  | k :: ks, [], h => by cases h
  | k :: ks, none :: r, h => by cases h
  | k :: ks, some e :: r, h => by
    unfold keysOk at h
    split at h
    · rename_i z; cases z
    · rename_i z1 z2
      cases z1; cases z2
      rw [Bool.and_eq_true, decide_eq_true_eq] at h
      obtain ⟨h1, h2⟩ := h
      subst h1
      exact ⟨pe_str, keysOk_P h2⟩
    · cases h
section
variable {X : Cx} {g : Sg} {n : Nat} {N : List Str} {sc so : Scope} {W : WX}
theorem keysG_P (S : Std X g n N sc so W) : ∀ {ks : List Str} {r : List (Option Expr)}, keysG g sc ks r = true → KeysP X ks r
  | [], [], _ => True.intro
  | [], _ :: _, h => by cases h
  | k :: ks, [], h => by cases h
  | k :: ks, none :: r, h => by cases h
  | k :: ks, some e :: r, h => by
    unfold keysG at h
    split at h
    · rename_i z; cases z
    · rename_i z1 z2
      cases z1; cases z2
      rw [Bool.and_eq_true, decide_eq_true_eq] at h
      obtain ⟨h1, h2⟩ := h
      subst h1
      exact ⟨pe_str, keysG_P S h2⟩
    · rename_i z1 z2
      cases z1; cases z2
      rw [Bool.and_eq_true, Bool.and_eq_true] at h
      obtain ⟨⟨h1, h3⟩, h2⟩ := h
      refine ⟨?_, keysG_P S h2⟩
      split at h3
      · rename_i y hp
        have h3 := of_decide_eq_true h3
        subst h3
        obtain ⟨u, v, hm, rv, rep⟩ := S.link.gl _ _ hp
        obtain ⟨hg, hd⟩ := S.gl h1
        have e := rep [] (fun _ => none) []
        cases e
        exact pe_glob hg hm rv hd
      · cases h3
    · cases h
end
section
variable {C : Ctx} {K : PySem.W.Frag} {F : List Addr} {W : SW} {σ : St}
theorem dct_read {H : Hp} {Q : VK} {ks : List Str} {es : Exs} (hl : ks.length = es.length) (h0 : ks ≠ []) (h15 : ks.length ≤ 15) (hn : ks.Nodup) (q : tI K F W (evE C (.dct ks es)) σ H Q) :
    tDisp (trsD C K F W ks es) σ H Q := by
  obtain ⟨r, env, st, R, E, q⟩ := q
  have q : Post K F (W σ) r H Q ((evEs C es env st).bind fun xs st1 => .ok (.dct ks xs) st1) := q
  intro p hp
  have nr := (R.fresh hp).1
  have A0 : Aft r H r (upd H p (.dK [])) := .new hp
  have R0 : Rel K F (upd H p (.dK [])) r st := R.new hp
  have E0 := E.aft R A0
  cases k1 : evEs C es env st with
  | bad => rw [k1] at q; exact q.elim
  | exc c pv st1 =>
    rw [k1] at q
    exact pairs_read es ks (Q' := fun _ _ => False) hl R0 E0 (by rw [k1]; exact PostX.aft q A0) fun vs H' z => z.elim
  | ok xs st1 =>
    rw [k1] at q
    have q : Post K F (W σ) r H Q (.ok (.dct ks xs) st1) := q
    refine pairs_read es ks (Q' := fun vs H2 => ∃ r2, Aft r (upd H p (.dK [])) r2 H2 ∧ Rel K F H2 r2 st1 ∧ Reps K F H2 r2 vs xs ∧ xs.length = es.length) hl R0 E0 ?_ ?_
    · rw [k1]
      exact fun vs H2 r2 A2 R2 hvs => ⟨r2, A2, R2, hvs, evEs_len C es env st xs st1 k1⟩
    · rintro vs H2 ⟨r2, A2, R2, hvs, hlen⟩
      obtain ⟨e2, n2⟩ := A2.keep p _ upd_same nr
      have kzz := keys_zip (ks := ks) (vs := vs)
      refine ⟨e2, List.zipWith (fun k v => ((Sum.inr k : Key), v)) ks vs, zip_kv, by rw [List.length_zipWith]; omega, ?_⟩
      rw [mergeK_id _ [] (by rw [List.nil_append, kzz]; exact List.pairwise_map.mpr ((hn.sublist (List.take_sublist _ _)).imp fun {a b} h e => h (by cases e; rfl))), List.nil_append]
      have A3 : Aft r H r2 (upd H2 p (.dK (List.zipWith (fun k v => ((Sum.inr k : Key), v)) ks vs))) := ⟨A2.pre, fun b o eb nb => by
        have nbp := ne_of_none eb hp
        obtain ⟨z1, z2⟩ := A2.keep b o (by rw [upd_ne nbp]; exact eb) nb
        exact ⟨by rw [upd_ne nbp]; exact z1, z2⟩⟩
      have hk0 : ∀ kv ∈ ([] : List (Key × V)), ∃ i : Int, kv.1 = .inl i := fun _ h => by cases h
      have ne : kz ks vs ≠ [] := by
        have l1 := hvs.length
        intro z
        have := congrArg List.length z
        rw [List.length_zipWith, List.length_nil] at this
        have := List.length_pos_iff.mpr h0
        omega
      exact q _ _ r2 A3 (R2.wrK e2 hk0) (.dct upd_same ne (hvs.wrK e2 hk0))
theorem mem_kz {ks : List Str} {vs : List V} {w : Str} (h : ks.length = vs.length) : (valV (kz ks vs) (Sum.inr w)).isSome = decide (w ∈ ks) := by
  induction ks generalizing vs with
  | nil => rfl
  | cons k ks ih =>
    cases vs with
    | nil => cases h
    | cons v vs =>
      by_cases e : k = w
      · subst e
        have : valV (kz (k :: ks) (v :: vs)) (Sum.inr k) = some v := valV_pos rfl
        rw [this, decide_eq_true List.mem_cons_self]; rfl
      · have : valV (kz (k :: ks) (v :: vs)) (Sum.inr w) = valV (kz ks vs) (Sum.inr w) := by
          unfold valV kz
          rw [List.zipWith_cons_cons, List.find?_cons_of_neg (by simpa using e)]
        rw [this, ih (Nat.succ.inj h)]
        refine decide_eq_decide.mpr ⟨List.mem_cons_of_mem k, fun z => ?_⟩
        rcases List.mem_cons.mp z with rfl | z
        · exact absurd rfl e
        · exact z
theorem two_cases {H : Hp} {Q : VK} {a b : Ex} {f : PV → PV → Store → Out PV} {P : V → V → Hp → Prop} (q : tI K F W (fun env st => (evE C a env st).bind fun x st1 => (evE C b env st1).bind fun y st2 => f x y st2) σ H Q)
    (h : ∀ (B : EW) (r : List Addr) (st : Store) (x y : V) (p q : PV) (H2 : Hp), Rel K F H2 r st → Rep K F H2 r x p → Rep K F H2 r y q → Post K F B r H2 Q (f p q st) → P x y H2) :
    tI K F W (evE C a) σ H fun x H1 => tI K F W (evE C b) σ H1 fun y H2 => P x y H2 := by
  have q := two_readB (oa := evE C a) (ob := evE C b) (f := f) (K := K) (F := F) (Y := W) (σ := σ) (H := H) (Q := Q) q
  obtain ⟨r, env, st, R, E, q⟩ := q
  refine ⟨r, env, st, R, E, ?_⟩
  cases h1 : evE C a env st with
  | exc => rw [h1] at q; exact q
  | bad => rw [h1] at q; exact q.elim
  | ok p st1 =>
    rw [h1] at q
    intro v H1 r1 A1 R1 hv
    obtain ⟨r2, env2, st2, R2, E2, q⟩ := q v H1 r1 A1 R1 hv
    refine ⟨r2, env2, st2, R2, E2, ?_⟩
    cases h3 : evE C b env2 st2 with
    | exc => rw [h3] at q; exact q
    | bad => rw [h3] at q; exact q.elim
    | ok p2 st3 =>
      rw [h3] at q
      intro v2 H4 r4 A4 R4 hv4
      obtain ⟨B, r5, st5, p5, q5, R5, hp, hq, q9⟩ := q v2 H4 r4 A4 R4 hv4
      exact h B r5 st5 _ _ p5 q5 H4 R5 hp hq q9
theorem dget_read {H : Hp} {Q : VK} {a b : Ex} (q : tI K F W (evE C (.dget a b)) σ H Q) : tDGet (tI K F W (evE C a)) (tI K F W (evE C b)) σ H Q := by
  refine two_cases (f := fun x y st => dgetV st x y) (by
    obtain ⟨r, env, st, R, E, q⟩ := q
    refine ⟨r, env, st, R, E, ?_⟩
    have e : evE C (.dget a b) env st = (evE C a env st).bind fun x st1 => (evE C b env st1).bind fun y st2 => dgetV st2 x y := by
      first | rfl | (simp only [evE]; done) | (rw [evE]; all_goals (intro z; cases z))
    dsimp only
    rw [← e]
    exact q) fun B r st x y p q H2 R hp hq q9 => ?_
  unfold dgetV at q9
  cases hp with
  | @dct ad ks vs ds e0 n0 hvs =>
    cases hq with
    | str w =>
      have q9 : Post K F B r H2 Q (.of (lookS ks ds w) st) := q9
      cases k3 : lookS ks ds w with
      | none => rw [k3] at q9; exact q9.elim
      | some x =>
        rw [k3] at q9
        obtain ⟨u, h1, h2⟩ := lookS_val hvs k3
        exact ⟨ad, u, rfl, .inl ⟨_, .inr w, .inl e0, rfl, h1.symm⟩, Post.here R q9 h2⟩
    | _ => exact q9.elim
  | rgo e0 =>
    cases hq with
    | str w => exact q9.elim
    | _ => exact q9.elim
  | _ => exact q9.elim
theorem din_read {H : Hp} {Q : VK} {neg : Bool} {a b : Ex} (q : tI K F W (evE C (.din neg a b)) σ H Q) :
    tI K F W (evE C a) σ H fun y H1 => tI K F W (evE C b) σ H1 fun x H2 => ∃ ad o, x = .ref ad ∧ DGet H2 ad y o ∧ Q (.bl (o.isSome != neg)) H2 := by
  refine two_cases (f := fun x y st => dinV neg st x y) (by
    obtain ⟨r, env, st, R, E, q⟩ := q
    refine ⟨r, env, st, R, E, ?_⟩
    have e : evE C (.din neg a b) env st = (evE C a env st).bind fun x st1 => (evE C b env st1).bind fun y st2 => dinV neg st2 x y := by
      first | rfl | (simp only [evE]; done) | (rw [evE]; all_goals (intro z; cases z))
    dsimp only
    rw [← e]
    exact q) fun B r st y x q p H2 R hq hp q9 => ?_
  unfold dinV at q9
  cases hq with
  | str w =>
    cases hp with
    | @dct ad ks vs ds e0 n0 hvs =>
      dsimp only at q9
      by_cases hl : ks.length = ds.length
      · rw [if_pos hl] at q9
        refine ⟨ad, valV (kz ks vs) (Sum.inr w), rfl, .inl ⟨_, .inr w, .inl e0, rfl, rfl⟩, ?_⟩
        rw [mem_kz (by rw [hvs.length]; exact hl)]
        exact Post.here R q9 (.bl _)
      · rw [if_neg hl] at q9; exact q9.elim
    | rgo e0 => exact q9.elim
    | _ => exact q9.elim
  | _ => exact q9.elim
theorem din_bl {neg : Bool} {st st1 : Store} {x y p : PV} (h : dinV neg st x y = .ok p st1) : ∃ b, p = .bl b := by
  unfold dinV at h
  split at h
  · split at h
    · cases h; exact ⟨_, rfl⟩
    · cases h
  · cases h
theorem din_test {H : Hp} {Q : Bool → Hp → Prop} {neg : Bool} {a b : Ex} (q : tIT K F W (evC C (.din neg a b)) σ H Q) : tI K F W (evE C (.din neg a b)) σ H fun v H' => ∃ b, v = .bl b ∧ Q b H' := by
  obtain ⟨r, env, st, R, E, q⟩ := q
  refine ⟨r, env, st, R, E, ?_⟩
  unfold evC at q
  have e : evE C (.din neg a b) env st = (evE C a env st).bind fun x st1 => (evE C b env st1).bind fun y st2 => dinV neg st2 x y := by
    first | rfl | (simp only [evE]; done) | (rw [evE]; all_goals (intro z; cases z))
  cases hx : evE C (.din neg a b) env st with
  | exc => rw [hx] at q; exact q
  | bad => rw [hx] at q; exact q.elim
  | ok p st1 =>
    rw [hx] at q
    rw [e] at hx
    obtain ⟨x, s1, _, h2⟩ := bind_eq hx
    obtain ⟨y, s2, _, h4⟩ := bind_eq h2
    obtain ⟨k, rfl⟩ := din_bl h4
    have q : PostT K F (W σ) r H Q (.ok k st1) := q
    intro v H1 r1 A1 R1 hv
    cases hv
    exact ⟨k, rfl, q H1 r1 A1 R1⟩
end
end L2.Iv
namespace L2.Iv
open PySem PySem.Spec PyProof.Rows
section
variable {X : Cx} {tg : Expr}
def tRgk (ta : TA) : TE := fun σ H Q => ta σ H fun vs H1 => ∃ j : Int, vs = [.int j] ∧ ∀ p, H1 p = none → Q (.ref p) (upd H1 p (.rng 0 j))
theorem pe_rgk {a : Expr} {ta : TA} {p pos : Pos} (hg : Gl X "range") (hm : X.mg "range" = none) (ha : PA X [a] ta) (hs : starEach [a] X.env = [(false, eval a X.env)] := by rfl) : PE X (.Call (.Name "range" p) [a] [] pos) (tRgk ta) := by
  refine ⟨fun pins s σ H Q I h => ?_⟩
  refine Call_ (ld_blt I hg hm boot_range (PyProof.Rows.callWith_type1 (thn (ha.run pos pins s σ H _ I h) fun us s1 ⟨vs, H1, I1, r1, q1⟩ => ?_) hs rfl))
  obtain ⟨j, e, q⟩ := q1
  subst e
  cases r1 with
  | cons r rr =>
    cases rr
    obtain ⟨t, rfl⟩ := r
    refine call_range_1 ⟨.ref s1.heap.objs.size, upd H1 s1.heap.objs.size (.rng 0 j), I1.laid (t' := s1.toks + 1 + 1) (fun b o e => Heap.get?_push_of_some _ e) (Nat.le_refl _) ?_, rfl, q _ (I1.hok.fresh (Nat.le_refl _))⟩
    exact ⟨s1.toks, t, s1.toks + 1, Heap.get?_push_size _ rfl⟩
def iKr (te : TE) : TI := fun σ H R => te σ H fun x H1 => ∃ a lo hi, x = .ref a ∧ H1 a = some (.rng lo hi) ∧ (-(2 ^ 62) ≤ lo ∧ lo < 2 ^ 62 ∧ -(2 ^ 62) ≤ hi ∧ hi < 2 ^ 62) ∧ R (Itr lo (hi - lo).toNat) H1
theorem pi_kr {e : Expr} {te : TE} (he : PE X e te) : PI X tg e (iKr te) := by
  refine ⟨fun pins s σ H R I h => ?_⟩
  refine thn (he.run pins s σ H _ I h) fun v s1 ⟨x, H1, I1, r1, q1⟩ => ?_
  obtain ⟨a, lo, hi, e, hr, ⟨h1, h2, h3, h4⟩, q⟩ := q1
  subst e
  cases r1
  obtain ⟨t, u, w, ho⟩ := I1.hok _ _ hr
  refine wpAny_pyIter_range (show IsRange s1.heap a lo hi 1 t u w from ho) (small_one h1 h2 h3 h4) ?_
  refine ⟨s1.heap.objs.size, [s1.heap.objs.size], _, _, H1, rfl, I1.kept (t' := s1.toks) fun b o e => Heap.get?_push_of_some _ e, turn_range _ lo (hi - lo).toNat, ?_, fun b hb => ?_, q⟩
  · have e1 : lo + ((0 : Nat) : Int) * 1 = lo := by simp
    have e2 : (((hi - lo).toNat : Nat) : Int) - ((0 : Nat) : Int) = Builtin.Range.rangeSize lo hi 1 := by rw [rangeSize_one]; split <;> omega
    show IsRangeIter _ _ (lo + ((0 : Nat) : Int) * 1) ((((hi - lo).toNat : Nat) : Int) - ((0 : Nat) : Int)) 1
    rw [e1, e2]
    exact Heap.get?_push_size _ rfl
  · have e : b = s1.heap.objs.size := by simpa using hb
    subst e
    exact I1.fpOk (Nat.le_refl _) (I1.hok.fresh (Nat.le_refl _))
def rMaxD (K : PySem.W.Frag) : List V → List V → Hp → VK → Prop := fun vs zs H Q => ∃ (a : Addr) (ns : List Int) (d : Int), vs = [.ref a] ∧ zs = [.int d] ∧ SqL K H a (ns.map V.int) ∧
  Q (.int (match ns with
    | [] => d
    | n :: r => r.foldl max n)) H
theorem cr_maxD (n : Nat) {hot : Bool} (C : Cal X n hot) (hh : hot = false) : CallRK X (.builtin "max") ["default"] (rMaxD X.K) := by
  intro pins s σ H vs zs us ws Q I r1 r2 h
  obtain ⟨a, ns, d, rfl, rfl, hs, q⟩ := h
  obtain ⟨its, rw', hl, _⟩ := I.list hs
  rw [Vals.ref1 r1]
  obtain ⟨u, rfl, ru⟩ := vals1 r2
  obtain ⟨t, rfl⟩ := ru
  have hd : DpAll X.K H (ns.map V.int) (ns.map PyData.int) := by
    have : ∀ l : List Int, DpAll X.K H (l.map V.int) (l.map PyData.int) := by
      intro l
      induction l with
      | nil => exact .nil
      | cons x l ih => exact .cons (.int x) ih
    exact this ns
  obtain ⟨as, all⟩ := Dp.readsAll I (ns.map PyData.int) (ns.map V.int) its hd rw'
  have room := C.un
  have al : PySem.W.AlikeAll (ns.map PyData.int) := by
    refine ⟨fun x hx y hy => ?_, fun x hx => ?_⟩
    · obtain ⟨i, _, rfl⟩ := List.mem_map.mp hx
      obtain ⟨j, _, rfl⟩ := List.mem_map.mp hy
      rfl
    · obtain ⟨i, _, rfl⟩ := List.mem_map.mp hx
      intro z
      cases z
  have dz : PyData.depthAll (ns.map PyData.int) = 0 := by
    have : ∀ l : List Int, PyData.depthAll (l.map PyData.int) = 0 := by
      intro l
      induction l with
      | nil => rfl
      | cons x l ih =>
        show max (PyData.depth (.int x)) (PyData.depthAll (l.map PyData.int)) = 0
        rw [ih]; rfl
    exact this ns
  refine PySem.W.max_list_default (I.ok.hd (C.calm hh)) hl.isList (by simpa using all) al (by rw [dz]; omega) (fun e h' tk keep => ?_) fun y ys i v h' tk bs e hv rd keep => ?_
  · have e0 : ns = [] := List.map_eq_nil_iff.mp e
    subst e0
    exact ⟨V.int d, H, I.kept keep, ⟨t, rfl⟩, q⟩
  · match ns, e, q with
    | m :: r, e, q =>
      rw [List.map_cons] at e
      obtain ⟨e1, e2⟩ := List.cons.inj e
      subst e1 e2
      rw [PySem.W.maxD_ints] at rd
      have q : Q (.int (r.foldl max m)) H := q
      cases rd
      exact ⟨V.int (r.foldl max m), H, I.kept keep, ⟨_, rfl⟩, q⟩
end
section
variable {C : Ctx} {K : PySem.W.Frag} {F : List Addr} {W : SW} {σ : St}
theorem rgk_read {H : Hp} {Q : VK} {a : Ex} (q : tI K F W (evE C (.rg1 a)) σ H Q) : tRgk (tCons (tI K F W (evE C a)) tNil) σ H Q := by
  obtain ⟨r, env, st, R, E, q⟩ := q
  have q : Post K F (W σ) r H Q ((evE C a env st).bind fun x st1 => rgkV st1 x) := q
  refine ⟨r, env, st, R, E, ?_⟩
  cases k1 : evE C a env st with
  | exc => rw [k1] at q; exact q
  | bad => rw [k1] at q; exact q.elim
  | ok p st1 =>
    rw [k1] at q
    simp only [bind_ok] at q
    intro v H1 r1 A1 R1 hv
    cases hv with
    | int j =>
      unfold rgkV at q
      dsimp only at q
      split at q
      · exact ⟨j, rfl, fun p hp => q _ _ r1 (A1.trans (Aft.new hp)) (R1.new hp) (.rgo upd_same)⟩
      · exact q.elim
    | _ => exact q.elim
theorem lrg_read {H : Hp} {Q : VK} {fr : Bool} {a : Ex} (q : tI K F W (evE C (.lrg fr a)) σ H Q) : tLstRg (L2.tRg1 (tI K F W (evE C a))) σ H Q := by
  obtain ⟨r, env, st, R, E, q⟩ := q
  have q : Post K F (W σ) r H Q ((evE C a env st).bind fun x st1 => lrgV fr st1 x) := q
  refine ⟨r, env, st, R, E, ?_⟩
  cases k1 : evE C a env st with
  | exc => rw [k1] at q; exact q
  | bad => rw [k1] at q; exact q.elim
  | ok p st1 =>
    rw [k1] at q
    simp only [bind_ok] at q
    intro v H1 r1 A1 R1 hv
    cases hv with
    | int j =>
      unfold lrgV at q
      dsimp only at q
      split at q
      · rename_i hz
        obtain ⟨hz, hz2⟩ := hz
        have hz : -(2 ^ 62) ≤ j ∧ j < 2 ^ 62 := hz
        refine ⟨j, rfl, ⟨by decide, by decide, hz.1, hz.2, by simpa using hz2⟩, fun p hp => ?_⟩
        have hr : Reps K F H1 r1 (rgV 0 j) (rngL 0 1 j.toNat) := by
          unfold rgV rngL
          rw [Int.sub_zero]
          have : ∀ l : List Nat, Reps K F H1 r1 (l.map fun i => V.int (0 + (i : Nat))) (l.map fun i => PV.int (0 + (i : Nat) * 1)) := by
            intro l
            induction l with
            | nil => exact .nil
            | cons x l ih => exact .cons (by show Rep K F H1 r1 (V.int (0 + (x : Nat))) (PV.int (0 + (x : Nat) * 1)); rw [Int.mul_one]; exact .int _) ih
          exact this _
        exact Post.lst R1 (Post.aft q A1) hr p hp
      · exact q.elim
    | _ => exact q.elim
theorem maxd_read {H : Hp} {Q : VK} {a d : Ex} (q : tI K F W (evE C (.maxd a d)) σ H Q) : tCKw (rMaxD K) (tCons (tI K F W (evE C a)) tNil) (tCons (tI K F W (evE C d)) tNil) σ H Q := by
  refine two_cases (f := fun x y st => maxdV st x y) (by
    obtain ⟨r, env, st, R, E, q⟩ := q
    refine ⟨r, env, st, R, E, ?_⟩
    have e : evE C (.maxd a d) env st = (evE C a env st).bind fun x st1 => (evE C d env st1).bind fun y st2 => maxdV st2 x y := by
      first | rfl | (simp only [evE]; done) | (rw [evE]; all_goals (intro z; cases z))
    dsimp only
    rw [← e]
    exact q) fun B r st x y p q H2 R hp hq q9 => ?_
  unfold maxdV at q9
  split at q9
  · rename_i dd e
    rw [Option.bind_eq_some_iff] at e
    obtain ⟨ys, e1, e2⟩ := e
    obtain ⟨a, vs, rfl, s1, q1⟩ := hp.seqL R e1
    have e3 := reps_ints q1 e2
    subst e3
    cases hq
    exact ⟨a, [], dd, rfl, rfl, s1, Post.here R q9 (.int _)⟩
  · rename_i k ks dd e
    rw [Option.bind_eq_some_iff] at e
    obtain ⟨ys, e1, e2⟩ := e
    obtain ⟨a, vs, rfl, s1, q1⟩ := hp.seqL R e1
    have e3 := reps_ints q1 e2
    subst e3
    cases hq
    exact ⟨a, k :: ks, dd, rfl, rfl, s1, Post.here R q9 (.int _)⟩
  · exact q9.elim
theorem kr_read {H : Hp} {R' : It → Hp → Prop} {a : Ex} (q : iI K F W (evIx C (.kr a)) σ H R') : iKr (tI K F W (evE C a)) σ H R' := by
  obtain ⟨r, env, st, R, E, q⟩ := q
  have q : PostI K F (W σ) r H R' ((evE C a env st).bind fun x st1 => krV st1 x) := q
  refine ⟨r, env, st, R, E, ?_⟩
  cases k1 : evE C a env st with
  | exc => rw [k1] at q; exact q
  | bad => rw [k1] at q; exact q.elim
  | ok p st1 =>
    rw [k1] at q
    simp only [bind_ok] at q
    intro v H1 r1 A1 R1 hv
    cases hv with
    | @rgo a lo hi e0 =>
      have q : PostI K F (W σ) r H R' (rngV2 st1 (.int lo) (.int hi)) := q
      unfold rngV2 at q
      dsimp only at q
      split at q
      · rename_i hz
        obtain ⟨⟨h1, h2⟩, h3, h4⟩ := hz
        exact ⟨a, lo, hi, rfl, e0, ⟨h1, h2, h3, h4⟩, q H1 r1 _ A1 R1 (JOk.rng lo (hi - lo).toNat)⟩
      · exact q.elim
    | @dct ad ks vs ds e0 n0 hvs =>
      have : ks ≠ [] := fun z => n0 (by subst z; rfl)
      cases ks with
      | nil => exact absurd rfl this
      | cons k ks => exact q.elim
    | _ => exact q.elim
end
end L2.Iv
namespace L2.Iv
open PySem PySem.Spec PyProof.Rows
section
variable {X : Cx} {g : Sg} {n : Nat} {N : List Str} {sc so : Scope} {W : WX} {F : List Addr} {e : Expr}
theorem in_last {op : CmpOp} {b : Expr} (h : okS b = true) : behindInMarks op b = false := okS_in h op
theorem last_marks {op op' : CmpOp} {b c : Expr} (h : okS c = true) : lastMarks [op, op'] [b, c] = false := okS_in h op'
structure SndEs (X : Cx) (W : WX) (g : Sg) (n : Nat) (es : Exs) (ees : List Expr) : Prop where
  ok : ees.all okS = true
  len : es.length = ees.length
  pa : ∀ F, PA X ees (tIA X.K F (sw X.mg W) (evEs (g.ctx (clOf X.mg) n) es))
  pk : ∀ (kws : List Keyword), kws.map (·.value) = ees → ∀ F, PK X kws (tIA X.K F (sw X.mg W) (evEs (g.ctx (clOf X.mg) n) es))
  and : ees ≠ [] → ∀ F pos, PE X (.BoolOp .And ees pos) (tI X.K F (sw X.mg W) (evAnd (g.ctx (clOf X.mg) n) es)) ∧ PW X (.BoolOp .And ees pos) (tIT X.K F (sw X.mg W) fun env st => (evAnd (g.ctx (clOf X.mg) n) es env st).bind fun x st1 => Out.of (truthy st1 x) st1)
  or : ees ≠ [] → ∀ F pos, PE X (.BoolOp .Or ees pos) (tI X.K F (sw X.mg W) (evOr (g.ctx (clOf X.mg) n) es)) ∧ PW X (.BoolOp .Or ees pos) (tIT X.K F (sw X.mg W) fun env st => (evOr (g.ctx (clOf X.mg) n) es env st).bind fun x st1 => Out.of (truthy st1 x) st1)
  ts : ees.length ≤ 1 → PTs X ees (tTX X.K (evTests (g.ctx (clOf X.mg) n) es))
  pp : ∀ F pos (ks : List Str) (keys : List (Option Expr)), KeysP X ks keys → ks.length = ees.length → PPs X pos keys ees (trsD (g.ctx (clOf X.mg) n) X.K F (sw X.mg W) ks es)
theorem PW.imp {e : Expr} {t t' : TT} (h : PW X e t) (i : ∀ σ H Q, t' σ H Q → t σ H Q) : PW X e t' := ⟨fun w pins s σ H Q I q => h.run w pins s σ H Q I (i _ _ _ q)⟩
theorem PTs.imp {e : List Expr} {t t' : TT} (h : PTs X e t) (i : ∀ σ H Q, t' σ H Q → t σ H Q) : PTs X e t' := ⟨fun pins s σ H Q I q => h.run pins s σ H Q I (i _ _ _ q)⟩
theorem PI.imp {tg e : Expr} {t t' : TI} (h : PI X tg e t) (i : ∀ σ H Q, t' σ H Q → t σ H Q) : PI X tg e t' := ⟨fun pins s σ H Q I q => h.run pins s σ H Q I (i _ _ _ q)⟩
theorem PK.imp {e : List Keyword} {t t' : TA} (h : PK X e t) (i : ∀ σ H Q, t' σ H Q → t σ H Q) : PK X e t' := ⟨fun pos pins s σ H Q I q => h.run pos pins s σ H Q I (i _ _ _ q)⟩
theorem PostX.no {K : PySem.W.Frag} {B : EW} {σ : St} {H : Hp} {r : List Addr} {c : Str} {p : PV} {st : Store} (h : PostX K F (noS σ) r H c p st) : PostX K F B r H c p st := fun v H' r' A R q => (h v H' r' A R q).elim
theorem tI.no {K : PySem.W.Frag} {Y : SW} {o : Env → Store → Out PV} {σ : St} {H : Hp} {Q : VK} (h : tI K F noS o σ H Q) : tI K F Y o σ H Q := by
  obtain ⟨r, env, st, R, E, h⟩ := h
  refine ⟨r, env, st, R, E, ?_⟩
  cases hx : o env st with
  | ok => rw [hx] at h; exact h
  | exc => rw [hx] at h; exact PostX.no h
  | bad => rw [hx] at h; exact h
theorem tIT.no {K : PySem.W.Frag} {Y : SW} {o : Env → Store → Out Bool} {σ : St} {H : Hp} {Q : Bool → Hp → Prop} (h : tIT K F noS o σ H Q) : tIT K F Y o σ H Q := by
  obtain ⟨r, env, st, R, E, h⟩ := h
  refine ⟨r, env, st, R, E, ?_⟩
  cases hx : o env st with
  | ok => rw [hx] at h; exact h
  | exc => rw [hx] at h; exact PostX.no h
  | bad => rw [hx] at h; exact h
theorem iI.no {K : PySem.W.Frag} {Y : SW} {o : Env → Store → Out (List PV × Watch)} {σ : St} {H : Hp} {Q : It → Hp → Prop} (h : iI K F noS o σ H Q) : iI K F Y o σ H Q := by
  obtain ⟨r, env, st, R, E, h⟩ := h
  refine ⟨r, env, st, R, E, ?_⟩
  cases hx : o env st with
  | ok => rw [hx] at h; exact h
  | exc => rw [hx] at h; exact PostX.no h
  | bad => rw [hx] at h; exact h
theorem pts_any {Y : SW} {ifs : List Expr} {o : Env → Store → Out Bool} (h : ∀ F, PTs X ifs (tIT X.K F Y o)) : PTs X ifs (tTX X.K o) := ⟨fun pins s σ H Q I ⟨F, q⟩ => (h F).run pins s σ H Q I q.no⟩
theorem pe_any {Y : SW} {e : Expr} {o : Env → Store → Out PV} (h : ∀ F, PE X e (tI X.K F Y o)) : PE X e (tX X.K o) := ⟨fun pins s σ H Q I ⟨F, q⟩ => (h F).run pins s σ H Q I q.no⟩
theorem pi_any {Y : SW} {tg e : Expr} {o : Env → Store → Out (List PV × Watch)} (h : ∀ F, PI X tg e (iI X.K F Y o)) : PI X tg e (iX X.K o) := ⟨fun pins s σ H Q I ⟨F, q⟩ => (h F).run pins s σ H Q I q.no⟩
theorem pg_any {tg : Expr} {p : Pt} (h : ∀ F, PG X tg (gI X.K F p)) : PG X tg (gX X.K p) := ⟨fun pins s σ H v u Q I r ⟨F, q⟩ => (h F).run pins s σ H v u Q I r q⟩
theorem cons_read {K : PySem.W.Frag} {Y : SW} {C : Ctx} {a : Ex} {es : Exs} {σ : St} {H : Hp} {Q : List V → Hp → Prop} (q : tIA K F Y (evEs C (.cons a es)) σ H Q) : tCons (tI K F Y (evE C a)) (tIA K F Y (evEs C es)) σ H Q := by
  obtain ⟨r, env, st, R, E, q⟩ := q
  refine ⟨r, env, st, R, E, ?_⟩
  simp only [evEs] at q
  cases h1 : evE C a env st with
  | exc => rw [h1] at q; exact q
  | bad => rw [h1] at q; exact q.elim
  | ok p st1 =>
    rw [h1] at q
    intro v H1 r1 A1 R1 hv
    refine ⟨r1, env, st1, R1, E.aft R A1, ?_⟩
    have q := q.aft A1
    simp only [bind_ok] at q
    cases h2 : evEs C es env st1 with
    | exc => rw [h2] at q; exact q
    | bad => rw [h2] at q; exact q.elim
    | ok ps st2 =>
      rw [h2] at q
      exact fun vs H2 r2 A2 R2 hvs => q (v :: vs) H2 r2 A2 R2 (.cons (hv.aft R1 A2) hvs)
theorem nil_read {K : PySem.W.Frag} {Y : SW} {C : Ctx} {σ : St} {H : Hp} {Q : List V → Hp → Prop} (q : tIA K F Y (evEs C .nil) σ H Q) : Q [] H := by
  obtain ⟨r, env, st, R, E, q⟩ := q
  exact q [] H r .refl R .nil
theorem and_read {K : PySem.W.Frag} {Y : SW} {C : Ctx} {a b : Ex} {es : Exs} {σ : St} {H : Hp} {Q : VK} (q : tI K F Y (evAnd C (.cons a (.cons b es))) σ H Q) : tAndT K (tI K F Y (evE C a)) (tI K F Y (evAnd C (.cons b es))) σ H Q := by
  have q : tI K F Y (fun env st => (evE C a env st).bind fun x st1 => match truthy st1 x with
    | some true => evAnd C (.cons b es) env st1
    | some false => .ok x st1
    | none => .bad) σ H Q := tI.eq q fun env st => by
    rw [evAnd] <;> first
      | rfl
      | (intro z; cases z)
  have q := tI.step q
  obtain ⟨r, env, st, R, E, q⟩ := q
  refine ⟨r, env, st, R, E, ?_⟩
  cases h1 : evE C a env st with
  | exc => rw [h1] at q; exact q
  | bad => rw [h1] at q; exact q.elim
  | ok p st1 =>
    rw [h1] at q
    intro v H1 r1 A1 R1 hv
    obtain ⟨r2, env2, st2, p2, R2, E2, hv2, q⟩ := q v H1 r1 A1 R1 hv
    split at q
    · rename_i e1
      exact ⟨true, tru_of R2 hv2 e1, by rw [if_pos rfl]; exact ⟨r2, env2, st2, R2, E2, q⟩⟩
    · rename_i e1
      exact ⟨false, tru_of R2 hv2 e1, by rw [if_neg Bool.false_ne_true]; exact q.here R2 hv2⟩
    · exact q.elim
theorem or_read {K : PySem.W.Frag} {Y : SW} {C : Ctx} {a b : Ex} {es : Exs} {σ : St} {H : Hp} {Q : VK} (q : tI K F Y (evOr C (.cons a (.cons b es))) σ H Q) : tOrT K (tI K F Y (evE C a)) (tI K F Y (evOr C (.cons b es))) σ H Q := by
  have q : tI K F Y (fun env st => (evE C a env st).bind fun x st1 => match truthy st1 x with
    | some true => .ok x st1
    | some false => evOr C (.cons b es) env st1
    | none => .bad) σ H Q := tI.eq q fun env st => by
    rw [evOr] <;> first
      | rfl
      | (intro z; cases z)
  have q := tI.step q
  obtain ⟨r, env, st, R, E, q⟩ := q
  refine ⟨r, env, st, R, E, ?_⟩
  cases h1 : evE C a env st with
  | exc => rw [h1] at q; exact q
  | bad => rw [h1] at q; exact q.elim
  | ok p st1 =>
    rw [h1] at q
    intro v H1 r1 A1 R1 hv
    obtain ⟨r2, env2, st2, p2, R2, E2, hv2, q⟩ := q v H1 r1 A1 R1 hv
    split at q
    · rename_i e1
      exact ⟨true, tru_of R2 hv2 e1, by rw [if_pos rfl]; exact q.here R2 hv2⟩
    · rename_i e1
      exact ⟨false, tru_of R2 hv2 e1, by rw [if_neg Bool.false_ne_true]; exact ⟨r2, env2, st2, R2, E2, q⟩⟩
    · exact q.elim
mutual
theorem snd_E : ∀ (ex : Ex) {X : Cx} {N : List Str} {sc so : Scope} {W : WX} (S : Std X g n N sc so W) {e : Expr}, chkE g N sc ex e = true → ∀ F, PE X e (tI X.K F (sw X.mg W) (evE (g.ctx (clOf X.mg) n) ex)) ∧ PT X e (tIT X.K F (sw X.mg W) (evC (g.ctx (clOf X.mg) n) ex))
  | .c v, _, _, _, _, _, S, _, h, F => snd_c v h
  | .v i, _, _, _, _, _, S, _, h, F => snd_v S i h
  | .g y, _, _, _, _, _, S, _, h, F => snd_g S y h
  | .bin o fr a b, X, N, sc, so, W, S, e, h, F => by
    cases e <;> first | (cases h; done) | skip
    rename_i ea op eb pos
    have h : (decide (op = opB o) && chkE g N sc a ea && chkE g N sc b eb) = true := h
    simp only [Bool.and_eq_true, decide_eq_true_eq] at h
    obtain ⟨⟨rfl, h1⟩, h2⟩ := h
    have main : PE X (.BinOp ea (opB o) eb pos) (tI X.K F (sw X.mg W) (evE (g.ctx (clOf X.mg) n) (.bin o fr a b))) :=
      PE.imp (pe_op (op_bin (F := F) o fr) (snd_E a S h1 F).1 (snd_E b S h2 F).1) fun σ H Q q => two_readB (f := fun p q st => binV o fr st p q) q
    exact ⟨main, pt_plain _ main fun _ => rfl⟩
  | .neg a, X, N, sc, so, W, S, e, h, F => by
    cases e <;> first | (cases h; done) | skip
    rename_i op ea pos
    cases op <;> first | (cases h; done) | skip
    have h : chkE g N sc a ea = true := h
    have main : PE X (.UnaryOp .USub ea pos) (tI X.K F (sw X.mg W) (evE (g.ctx (clOf X.mg) n) (.neg a))) := PE.imp (pe_un un_neg (snd_E a S h F).1) fun σ H Q q => by
      have q := tI.step q
      obtain ⟨r, env, st, R, E, q⟩ := q
      refine ⟨r, env, st, R, E, ?_⟩
      cases h1 : evE (g.ctx (clOf X.mg) n) a env st with
      | exc => rw [h1] at q; exact q
      | bad => rw [h1] at q; exact q.elim
      | ok p st1 =>
        rw [h1] at q
        intro v H1 r1 A1 R1 hv
        obtain ⟨r2, env2, st2, p2, R2, E2, hv2, q⟩ := q v H1 r1 A1 R1 hv
        cases hv2 with
        | int i => exact ⟨i, rfl, q.here R2 (.int _)⟩
        | _ => exact q.elim
    exact ⟨main, pt_plain _ main fun _ => rfl⟩
  | .nt a, X, N, sc, so, W, S, e, h, F => by
    cases e <;> first | (cases h; done) | skip
    rename_i op ea pos
    cases op <;> first | (cases h; done) | skip
    have h : chkE g N sc a ea = true := h
    refine ⟨PE.imp (pe_notT (snd_E a S h F).1) fun σ H Q q => ?_, PT.imp (pt_not (snd_E a S h F).2) fun σ H Q q => ?_⟩
    · have q := tI.step q
      obtain ⟨r, env, st, R, E, q⟩ := q
      refine ⟨r, env, st, R, E, ?_⟩
      cases h1 : evE (g.ctx (clOf X.mg) n) a env st with
      | exc => rw [h1] at q; exact q
      | bad => rw [h1] at q; exact q.elim
      | ok p st1 =>
        rw [h1] at q
        intro v H1 r1 A1 R1 hv
        obtain ⟨r2, env2, st2, p2, R2, E2, hv2, q⟩ := q v H1 r1 A1 R1 hv
        split at q
        · exact ⟨_, tru_of R2 hv2 (by assumption), q.here R2 (.bl _)⟩
        · exact q.elim
    · have q := tIT.step2 (o := evC (g.ctx (clOf X.mg) n) a) (f := fun b env st => .ok (!b) st) (tIT.eq q fun env st => by
        unfold evC
        simp only [evE]
        cases evE (g.ctx (clOf X.mg) n) a env st with
        | exc => rfl
        | bad => rfl
        | ok p st1 =>
          simp only [bind_ok]
          cases truthy st1 p <;> rfl)
      obtain ⟨r, env, st, R, E, q⟩ := q
      refine ⟨r, env, st, R, E, ?_⟩
      cases h1 : evC (g.ctx (clOf X.mg) n) a env st with
      | exc => rw [h1] at q; exact q
      | bad => rw [h1] at q; exact q.elim
      | ok p st1 =>
        rw [h1] at q
        intro H1 r1 A1 R1
        obtain ⟨r2, env2, st2, R2, E2, q⟩ := q H1 r1 A1 R1
        exact q H1 r2 .refl R2
  | .cmp o a b, X, N, sc, so, W, S, e, h, F => by
    cases e <;> first | (cases h; done) | skip
    rename_i ea ops ebs pos
    match ops, ebs, h with
    | [op], [eb], h =>
      have h : (decide (op = opC o) && chkE g N sc a ea && chkE g N sc b eb) = true := h
      simp only [Bool.and_eq_true, decide_eq_true_eq] at h
      obtain ⟨⟨rfl, h1⟩, h2⟩ := h
      refine ⟨PE.imp (pe_cmpR (op_cmp (F := F) (n + 2) S.cal o) (snd_E a S h1 F).1 (snd_E b S h2 F).1 (in_last (chk_okS h2))) fun σ H Q q => ?_,
        PT.imp (pt_cmpR (op_cmp (F := F) (n + 2) S.cal o) (snd_E a S h1 F).1 (snd_E b S h2 F).1 (in_last (chk_okS h2))) fun σ H Q q => ?_⟩
      · have q := two_read (f := fun p q st => (Out.of (cmpV o st p q) st).bind fun b st3 => .ok (.bl b) st3) q
        obtain ⟨r, env, st, R, E, q⟩ := q
        refine ⟨r, env, st, R, E, ?_⟩
        cases h1 : evE (g.ctx (clOf X.mg) n) a env st with
        | exc => rw [h1] at q; exact q
        | bad => rw [h1] at q; exact q.elim
        | ok p st1 =>
          rw [h1] at q
          intro v H1 r1 A1 R1 hv
          obtain ⟨r2, env2, st2, R2, E2, q⟩ := q v H1 r1 A1 R1 hv
          refine ⟨r2, env2, st2, R2, E2, ?_⟩
          cases h3 : evE (g.ctx (clOf X.mg) n) b env2 st2 with
          | exc => rw [h3] at q; exact q
          | bad => rw [h3] at q; exact q.elim
          | ok p2 st3 =>
            rw [h3] at q
            intro v2 H4 r4 A4 R4 hv4
            obtain ⟨r5, st5, p5, q5, R5, hp, hq, q⟩ := q v2 H4 r4 A4 R4 hv4
            obtain ⟨k, e1, q⟩ := post_cmp R5 q
            exact ⟨r5, st5, p5, q5, k, R5, hp, hq, e1, q⟩
      · have q := two_readT (f := fun p q st => ((Out.of (cmpV o st p q) st).bind fun b st3 => .ok (PV.bl b) st3).bind fun x st1 => Out.of (truthy st1 x) st1) (tIT.eq q fun env st => by
          unfold evC
          simp only [evE]
          rw [bind_assoc']
          congr 1
          funext x st1
          rw [bind_assoc'])
        obtain ⟨r, env, st, R, E, q⟩ := q
        refine ⟨r, env, st, R, E, ?_⟩
        cases h1 : evE (g.ctx (clOf X.mg) n) a env st with
        | exc => rw [h1] at q; exact q
        | bad => rw [h1] at q; exact q.elim
        | ok p st1 =>
          rw [h1] at q
          intro v H1 r1 A1 R1 hv
          obtain ⟨r2, env2, st2, R2, E2, q⟩ := q v H1 r1 A1 R1 hv
          refine ⟨r2, env2, st2, R2, E2, ?_⟩
          cases h3 : evE (g.ctx (clOf X.mg) n) b env2 st2 with
          | exc => rw [h3] at q; exact q
          | bad => rw [h3] at q; exact q.elim
          | ok p2 st3 =>
            rw [h3] at q
            intro v2 H4 r4 A4 R4 hv4
            obtain ⟨r5, st5, p5, q5, R5, hp, hq, q⟩ := q v2 H4 r4 A4 R4 hv4
            obtain ⟨k, e1, q⟩ := post_tru R5 q
            exact ⟨r5, st5, p5, q5, k, R5, hp, hq, e1, k, rfl, q⟩
    | [], _, h => cases h
    | _ :: _ :: _, [], h => cases h
    | _ :: _ :: _, _ :: _, h => cases h
    | [_], [], h => cases h
    | [_], _ :: _ :: _, h => cases h
  | .chn o o2 a b c, X, N, sc, so, W, S, e, h, F => by
    cases e <;> first | (cases h; done) | skip
    rename_i ea ops ebs pos
    match ops, ebs, h with
    | [op, op2], [eb, ec], h =>
      have h : (decide (op = opC o) && decide (op2 = opC o2) && chkE g N sc a ea && chkE g N sc b eb && chkE g N sc c ec) = true := h
      simp only [Bool.and_eq_true, decide_eq_true_eq] at h
      obtain ⟨⟨⟨⟨rfl, rfl⟩, h1⟩, h2⟩, h3⟩ := h
      have rd : ∀ σ H Q, tI X.K F (sw X.mg W) (evE (g.ctx (clOf X.mg) n) (.chn o o2 a b c)) σ H Q → tChain (rC X.K F o) (rC X.K F o2) (tI X.K F (sw X.mg W) (evE (g.ctx (clOf X.mg) n) a)) (tI X.K F (sw X.mg W) (evE (g.ctx (clOf X.mg) n) b)) (tI X.K F (sw X.mg W) (evE (g.ctx (clOf X.mg) n) c)) σ H Q := by
        intro σ H Q q
        obtain ⟨r, env, st, R, E, q⟩ := q
        refine ⟨r, env, st, R, E, ?_⟩
        simp only [evE] at q
        cases k1 : evE (g.ctx (clOf X.mg) n) a env st with
        | exc => rw [k1] at q; exact q
        | bad => rw [k1] at q; exact q.elim
        | ok p st1 =>
          rw [k1] at q
          intro v H1 r1 A1 R1 hv
          have q := q.aft A1
          simp only [bind_ok] at q
          refine ⟨r1, env, st1, R1, E.aft R A1, ?_⟩
          cases k2 : evE (g.ctx (clOf X.mg) n) b env st1 with
          | exc => rw [k2] at q; exact q
          | bad => rw [k2] at q; exact q.elim
          | ok p2 st2 =>
            rw [k2] at q
            intro v2 H2 r2 A2 R2 hv2
            have q := q.aft A2
            simp only [bind_ok] at q
            cases k3 : cmpV o st2 p p2 with
            | none => rw [k3] at q; exact q.elim
            | some k =>
              rw [k3] at q
              simp only [of_some, bind_ok] at q
              refine ⟨r2, st2, p, p2, k, R2, hv.aft R1 A2, hv2, k3, k, rfl, ?_⟩
              cases k with
              | false => rw [if_neg Bool.false_ne_true] at q ⊢; exact q.here R2 (.bl _)
              | true =>
                rw [if_pos rfl] at q ⊢
                refine ⟨r2, env, st2, R2, (E.aft R A1).aft R1 A2, ?_⟩
                cases k4 : evE (g.ctx (clOf X.mg) n) c env st2 with
                | exc => rw [k4] at q; exact q
                | bad => rw [k4] at q; exact q.elim
                | ok p3 st3 =>
                  rw [k4] at q
                  intro v3 H3 r3 A3 R3 hv3
                  have q := q.aft A3
                  simp only [bind_ok] at q
                  obtain ⟨b, e1, q⟩ := post_cmp R3 q
                  exact ⟨r3, st3, p2, p3, b, R3, hv2.aft R2 A3, hv3, e1, q⟩
      refine ⟨PE.imp (pe_chain (op_cmp (F := F) (n + 2) S.cal o) (op_cmp (F := F) (n + 2) S.cal o2) (snd_E a S h1 F).1 (snd_E b S h2 F).1 (snd_E c S h3 F).1 (last_marks (chk_okS h3))) rd,
        PT.imp (pt_chain (op_cmp (F := F) (n + 2) S.cal o) (op_cmp (F := F) (n + 2) S.cal o2) (snd_E a S h1 F).1 (snd_E b S h2 F).1 (snd_E c S h3 F).1 (last_marks (chk_okS h3))) fun σ H Q q => rd σ H _ ?_⟩
      obtain ⟨r, env, st, R, E, q⟩ := q
      refine ⟨r, env, st, R, E, ?_⟩
      unfold evC at q
      cases k1 : evE (g.ctx (clOf X.mg) n) (.chn o o2 a b c) env st with
      | exc => rw [k1] at q; exact q
      | bad => rw [k1] at q; exact q.elim
      | ok p st1 =>
        rw [k1] at q
        have isb : ∃ k, p = .bl k := by
          simp only [evE] at k1
          obtain ⟨_, _, _, k1⟩ := bind_eq k1
          obtain ⟨_, _, _, k1⟩ := bind_eq k1
          obtain ⟨k, _, _, k1⟩ := bind_eq k1
          cases k with
          | false => rw [if_neg Bool.false_ne_true] at k1; cases k1; exact ⟨_, rfl⟩
          | true =>
            rw [if_pos rfl] at k1
            obtain ⟨_, _, _, k1⟩ := bind_eq k1
            obtain ⟨_, _, _, k1⟩ := bind_eq k1
            cases k1; exact ⟨_, rfl⟩
        obtain ⟨k, rfl⟩ := isb
        intro v H1 r1 A1 R1 hv
        cases hv
        exact ⟨k, rfl, q H1 r1 A1 R1⟩
    | [], _, h => cases h
    | [_], [], h => cases h
    | [_], _ :: _, h => cases h
    | _ :: _ :: _ :: _, [], h => cases h
    | _ :: _ :: _ :: _, _ :: _, h => cases h
    | [_, _], [], h => cases h
    | [_, _], [_], h => cases h
    | [_, _], _ :: _ :: _ :: _, h => cases h
  | .ands es, X, N, sc, so, W, S, e, h, F => by
    cases e <;> first | (cases h; done) | skip
    rename_i op ees pos
    cases op <;> first | (cases h; done) | skip
    have h : (decide (2 ≤ ees.length) && chkEs g N sc es ees) = true := h
    simp only [Bool.and_eq_true, decide_eq_true_eq] at h
    obtain ⟨q1, q2⟩ := (snd_Es es S h.2).and (fun z => by rw [z] at h; simp at h) F pos
    exact ⟨q1, q2.pt⟩
  | .ors es, X, N, sc, so, W, S, e, h, F => by
    cases e <;> first | (cases h; done) | skip
    rename_i op ees pos
    cases op <;> first | (cases h; done) | skip
    have h : (decide (2 ≤ ees.length) && chkEs g N sc es ees) = true := h
    simp only [Bool.and_eq_true, decide_eq_true_eq] at h
    obtain ⟨q1, q2⟩ := (snd_Es es S h.2).or (fun z => by rw [z] at h; simp at h) F pos
    exact ⟨q1, q2.pt⟩
  | .ite c a b, X, N, sc, so, W, S, e, h, F => by
    cases e <;> first | (cases h; done) | skip
    rename_i ec ea eb pos
    have h : (chkE g N sc c ec && chkE g N sc a ea && chkE g N sc b eb) = true := h
    simp only [Bool.and_eq_true] at h
    obtain ⟨⟨h1, h2⟩, h3⟩ := h
    have eqn : ∀ env st, evE (g.ctx (clOf X.mg) n) (.ite c a b) env st = (evC (g.ctx (clOf X.mg) n) c env st).bind fun k st1 => if k = true then evE (g.ctx (clOf X.mg) n) a env st1 else evE (g.ctx (clOf X.mg) n) b env st1 := by
      intro env st
      unfold evC
      simp only [evE]
      cases evE (g.ctx (clOf X.mg) n) c env st with
      | exc => rfl
      | bad => rfl
      | ok p st1 =>
        simp only [bind_ok]
        cases truthy st1 p with
        | none => rfl
        | some k => cases k <;> rfl
    refine ⟨PE.imp (pe_ifExp (snd_E c S h1 F).2 (snd_E a S h2 F).1 (snd_E b S h3 F).1) fun σ H Q q => ?_, PT.imp (pt_if (snd_E c S h1 F).2 (snd_E a S h2 F).2 (snd_E b S h3 F).2) fun σ H Q q => ?_⟩
    · have q := tIT.step (f := fun k env st1 => if k = true then evE (g.ctx (clOf X.mg) n) a env st1 else evE (g.ctx (clOf X.mg) n) b env st1) (tI.eq q eqn)
      obtain ⟨r, env, st, R, E, q⟩ := q
      refine ⟨r, env, st, R, E, ?_⟩
      cases k1 : evC (g.ctx (clOf X.mg) n) c env st with
      | exc => rw [k1] at q; exact q
      | bad => rw [k1] at q; exact q.elim
      | ok k st1 =>
        rw [k1] at q
        intro H1 r1 A1 R1
        have q := q H1 r1 A1 R1
        cases k <;> exact q
    · have q := tIT.step2 (f := fun k env st1 => if k = true then evC (g.ctx (clOf X.mg) n) a env st1 else evC (g.ctx (clOf X.mg) n) b env st1) (tIT.eq q fun env st => by
        show (evE (g.ctx (clOf X.mg) n) (.ite c a b) env st).bind _ = _
        rw [eqn, bind_assoc']
        congr 1
        funext k st1
        cases k <;> rfl)
      obtain ⟨r, env, st, R, E, q⟩ := q
      refine ⟨r, env, st, R, E, ?_⟩
      cases k1 : evC (g.ctx (clOf X.mg) n) c env st with
      | exc => rw [k1] at q; exact q
      | bad => rw [k1] at q; exact q.elim
      | ok k st1 =>
        rw [k1] at q
        intro H1 r1 A1 R1
        have q := q H1 r1 A1 R1
        cases k <;> exact q
  | .tup es, X, N, sc, so, W, S, e, h, F => by
    cases e <;> first | (cases h; done) | skip
    rename_i ees k pos
    have h : chkEs g N sc es ees = true := h
    have main : PE X (.Tuple ees k pos) (tI X.K F (sw X.mg W) (evE (g.ctx (clOf X.mg) n) (.tup es))) := PE.imp (pe_tup ((snd_Es es S h).pa F)) fun σ H Q q => by
      obtain ⟨r, env, st, R, E, q⟩ := q
      refine ⟨r, env, st, R, E, ?_⟩
      simp only [evE] at q
      cases k1 : evEs (g.ctx (clOf X.mg) n) es env st with
      | exc => rw [k1] at q; exact q
      | bad => rw [k1] at q; exact q.elim
      | ok ps st1 =>
        rw [k1] at q
        intro vs H1 r1 A1 R1 hv
        have q := q.aft A1
        simp only [bind_ok] at q
        split at q
        · exact ⟨by rw [hv.length]; assumption, q.tup R1 hv⟩
        · exact q.elim
    exact ⟨main, pt_plain _ main fun _ => rfl⟩
  | .lst fr es, X, N, sc, so, W, S, e, h, F => by
    cases e <;> first | (cases h; done) | skip
    rename_i ees pos
    have h : chkEs g N sc es ees = true := h
    have main : PE X (.List ees pos) (tI X.K F (sw X.mg W) (evE (g.ctx (clOf X.mg) n) (.lst fr es))) := PE.imp (pe_lst ((snd_Es es S h).pa F)) fun σ H Q q => by
      obtain ⟨r, env, st, R, E, q⟩ := q
      refine ⟨r, env, st, R, E, ?_⟩
      simp only [evE] at q
      cases k1 : evEs (g.ctx (clOf X.mg) n) es env st with
      | exc => rw [k1] at q; exact q
      | bad => rw [k1] at q; exact q.elim
      | ok ps st1 =>
        rw [k1] at q
        intro vs H1 r1 A1 R1 hv
        have q := q.aft A1
        simp only [bind_ok] at q
        split at q
        · exact ⟨by rw [hv.length]; assumption, q.lst R1 hv⟩
        · exact q.elim
    exact ⟨main, pt_plain _ main fun _ => rfl⟩
  | .ix a b, X, N, sc, so, W, S, e, h, F => by
    cases e <;> first | (cases h; done) | skip
    rename_i ea eb pos
    have h : (chkE g N sc a ea && chkE g N sc b eb) = true := h
    simp only [Bool.and_eq_true] at h
    have main : PE X (.Subscript ea eb pos) (tI X.K F (sw X.mg W) (evE (g.ctx (clOf X.mg) n) (.ix a b))) := PE.imp (pe_ix (ix_all (F := F)) (snd_E a S h.1 F).1 (snd_E b S h.2 F).1 (okS_ix (chk_okS h.2))) fun σ H Q q => by
      have q := two_read (f := fun p q st => Out.of (ixV st p q) st) q
      obtain ⟨r, env, st, R, E, q⟩ := q
      refine ⟨r, env, st, R, E, ?_⟩
      cases h1 : evE (g.ctx (clOf X.mg) n) a env st with
      | exc => rw [h1] at q; exact q
      | bad => rw [h1] at q; exact q.elim
      | ok p st1 =>
        rw [h1] at q
        intro v H1 r1 A1 R1 hv
        obtain ⟨r2, env2, st2, R2, E2, q⟩ := q v H1 r1 A1 R1 hv
        refine ⟨r2, env2, st2, R2, E2, ?_⟩
        cases h3 : evE (g.ctx (clOf X.mg) n) b env2 st2 with
        | exc => rw [h3] at q; exact q
        | bad => rw [h3] at q; exact q.elim
        | ok p2 st3 =>
          rw [h3] at q
          intro v2 H4 r4 A4 R4 hv4
          obtain ⟨r5, st5, p5, q5, R5, hp, hq, q⟩ := q v2 H4 r4 A4 R4 hv4
          cases e1 : ixV st5 p5 q5 with
          | none => rw [e1] at q; exact q.elim
          | some z =>
            rw [e1] at q
            exact ⟨r5, st5, p5, q5, z, R5, hp, hq, e1, fun w hw => Post.here R5 q hw⟩
    exact ⟨main, pt_plain _ main fun _ => rfl⟩
  | .slA fr a lo hi, X, N, sc, so, W, S, e, h, F => by
    cases e <;> first | (cases h; done) | skip
    rename_i ea es pos
    cases es <;> first | (cases h; done) | skip
    rename_i l u t p2
    match l, u, t, h with
    | some el, some eh, none, h =>
      have h : (chkE g N sc a ea && chkE g N sc lo el && chkE g N sc hi eh) = true := h
      simp only [Bool.and_eq_true] at h
      have main : PE X (.Subscript ea (.Slice (some el) (some eh) none p2) pos) (tI X.K F (sw X.mg W) (evE (g.ctx (clOf X.mg) n) (.slA fr a lo hi))) :=
        PE.imp (pe_slice (sl_all (F := F) fr) (snd_E a S h.1.1 F).1 (po_some (snd_E lo S h.1.2 F).1) (po_some (snd_E hi S h.2 F).1)) fun σ H Q q => by
          obtain ⟨r, env, st, R, E, q⟩ := q
          refine ⟨r, env, st, R, E, ?_⟩
          simp only [evE] at q
          cases k1 : evE (g.ctx (clOf X.mg) n) a env st with
          | exc => rw [k1] at q; exact q
          | bad => rw [k1] at q; exact q.elim
          | ok p st1 =>
            rw [k1] at q
            intro v H1 r1 A1 R1 hv
            have q := q.aft A1
            simp only [bind_ok] at q
            refine ⟨r1, env, st1, R1, E.aft R A1, ?_⟩
            cases k2 : evE (g.ctx (clOf X.mg) n) lo env st1 with
            | exc => rw [k2] at q; exact q
            | bad => rw [k2] at q; exact q.elim
            | ok p2 st2 =>
              rw [k2] at q
              intro v2 H2 r2 A2 R2 hv2
              have q := q.aft A2
              simp only [bind_ok] at q
              cases hv2 with
              | int i =>
                refine ⟨i, rfl, r2, env, st2, R2, (E.aft R A1).aft R1 A2, ?_⟩
                cases k3 : evE (g.ctx (clOf X.mg) n) hi env st2 with
                | exc => rw [k3] at q; exact q
                | bad => rw [k3] at q; exact q.elim
                | ok p3 st3 =>
                  rw [k3] at q
                  simp only [bind_ok] at q
                  intro v3 H3 r3 A3 R3 hv3
                  have q := q.aft A3
                  cases hv3 with
                  | int j => exact ⟨j, rfl, _, r3, st3, p, R3, (hv.aft R1 A2).aft R2 A3, q⟩
                  | _ => exact q.elim
              | _ => exact q.elim
      exact ⟨main, pt_plain _ main fun _ => rfl⟩
    | none, none, _, h => cases h
    | none, some _, _, h => cases h
    | some _, none, _, h => cases h
    | some _, some _, some _, h => cases h
  | .slF fr a lo, X, N, sc, so, W, S, e, h, F => by
    cases e <;> first | (cases h; done) | skip
    rename_i ea es pos
    cases es <;> first | (cases h; done) | skip
    rename_i l u t p2
    match l, u, t, h with
    | some el, none, none, h =>
      have h : (chkE g N sc a ea && chkE g N sc lo el) = true := h
      simp only [Bool.and_eq_true] at h
      have main : PE X (.Subscript ea (.Slice (some el) none none p2) pos) (tI X.K F (sw X.mg W) (evE (g.ctx (clOf X.mg) n) (.slF fr a lo))) :=
        PE.imp (pe_slice (sl_all (F := F) fr) (snd_E a S h.1 F).1 (po_some (snd_E lo S h.2 F).1) po_none) fun σ H Q q => by
          have q := two_read (f := fun x y st2 => match y with
            | .int i => slV fr st2 x (some i) none
            | _ => .bad) q
          obtain ⟨r, env, st, R, E, q⟩ := q
          refine ⟨r, env, st, R, E, ?_⟩
          cases h1 : evE (g.ctx (clOf X.mg) n) a env st with
          | exc => rw [h1] at q; exact q
          | bad => rw [h1] at q; exact q.elim
          | ok p st1 =>
            rw [h1] at q
            intro v H1 r1 A1 R1 hv
            obtain ⟨r2, env2, st2, R2, E2, q⟩ := q v H1 r1 A1 R1 hv
            refine ⟨r2, env2, st2, R2, E2, ?_⟩
            cases h3 : evE (g.ctx (clOf X.mg) n) lo env2 st2 with
            | exc => rw [h3] at q; exact q
            | bad => rw [h3] at q; exact q.elim
            | ok p2 st3 =>
              rw [h3] at q
              intro v2 H4 r4 A4 R4 hv4
              obtain ⟨r5, st5, p5, q5, R5, hp, hq, q⟩ := q v2 H4 r4 A4 R4 hv4
              cases hq with
              | int i => exact ⟨i, rfl, _, r5, st5, p5, R5, hp, q⟩
              | _ => exact q.elim
      exact ⟨main, pt_plain _ main fun _ => rfl⟩
    | none, _, _, h => cases h
    | some _, some _, none, h => cases h
    | some _, none, some _, h => cases h
    | some _, some _, some _, h => cases h
  | .slT fr a hi, X, N, sc, so, W, S, e, h, F => by
    cases e <;> first | (cases h; done) | skip
    rename_i ea es pos
    cases es <;> first | (cases h; done) | skip
    rename_i l u t p2
    match l, u, t, h with
    | none, some eh, none, h =>
      have h : (chkE g N sc a ea && chkE g N sc hi eh) = true := h
      simp only [Bool.and_eq_true] at h
      have main : PE X (.Subscript ea (.Slice none (some eh) none p2) pos) (tI X.K F (sw X.mg W) (evE (g.ctx (clOf X.mg) n) (.slT fr a hi))) :=
        PE.imp (pe_slice (sl_all (F := F) fr) (snd_E a S h.1 F).1 po_none (po_some (snd_E hi S h.2 F).1)) fun σ H Q q => by
          have q := two_read (f := fun x y st2 => match y with
            | .int i => slV fr st2 x none (some i)
            | _ => .bad) q
          obtain ⟨r, env, st, R, E, q⟩ := q
          refine ⟨r, env, st, R, E, ?_⟩
          cases h1 : evE (g.ctx (clOf X.mg) n) a env st with
          | exc => rw [h1] at q; exact q
          | bad => rw [h1] at q; exact q.elim
          | ok p st1 =>
            rw [h1] at q
            intro v H1 r1 A1 R1 hv
            obtain ⟨r2, env2, st2, R2, E2, q⟩ := q v H1 r1 A1 R1 hv
            refine ⟨r2, env2, st2, R2, E2, ?_⟩
            cases h3 : evE (g.ctx (clOf X.mg) n) hi env2 st2 with
            | exc => rw [h3] at q; exact q
            | bad => rw [h3] at q; exact q.elim
            | ok p2 st3 =>
              rw [h3] at q
              intro v2 H4 r4 A4 R4 hv4
              obtain ⟨r5, st5, p5, q5, R5, hp, hq, q⟩ := q v2 H4 r4 A4 R4 hv4
              cases hq with
              | int i => exact ⟨i, rfl, _, r5, st5, p5, R5, hp, q⟩
              | _ => exact q.elim
      exact ⟨main, pt_plain _ main fun _ => rfl⟩
    | some _, _, _, h => cases h
    | none, none, _, h => cases h
    | none, some _, some _, h => cases h
  | .slR fr a, X, N, sc, so, W, S, e, h, F => by
    obtain ⟨ea, k, p1, p2, p3, pos, rfl, h⟩ : ∃ ea k p1 p2 p3 pos, e = .Subscript ea (.Slice none none (some (.UnaryOp .USub (.Constant (.int 1) k p1) p2)) p3) pos ∧ chkE g N sc a ea = true := by
      unfold chkE at h
      split at h <;> first | (cases h; done) | (rename_i z; cases z; done) | skip
      rename_i z
      cases z
      exact ⟨_, _, _, _, _, _, rfl, h⟩
    have main : PE X (.Subscript ea (.Slice none none (some (.UnaryOp .USub (.Constant (.int 1) k p1) p2)) p3) pos) (tI X.K F (sw X.mg W) (evE (g.ctx (clOf X.mg) n) (.slR fr a))) :=
      PE.imp (pe_back (snd_E a S h F).1) fun σ H Q q => by
        have q := tI.step q
        obtain ⟨r, env, st, R, E, q⟩ := q
        refine ⟨r, env, st, R, E, ?_⟩
        cases k1 : evE (g.ctx (clOf X.mg) n) a env st with
        | exc => rw [k1] at q; exact q
        | bad => rw [k1] at q; exact q.elim
        | ok p st1 =>
          rw [k1] at q
          intro v H1 r1 A1 R1 hv
          obtain ⟨r2, env2, st2, p2, R2, E2, hv2, q⟩ := q v H1 r1 A1 R1 hv
          have gen : ∀ {xs : List PV}, seqL st2 p2 = some xs → Post X.K F (sw X.mg W σ) r2 H1 Q (newL fr xs.reverse st2) → ∃ (a : Addr) (vs : List V), v = .ref a ∧ ((SqL X.K H1 a vs ∧ ∀ p, H1 p = none → Q (.ref p) (upd H1 p (.lst vs.reverse))) ∨ (SqT X.K H1 a vs ∧ ∀ p, H1 p = none → Q (.ref p) (upd H1 p (.tup vs.reverse)))) := fun e q => by
            obtain ⟨a, vs, rfl, s1, q1⟩ := hv2.seqL R2 e
            exact ⟨a, vs, rfl, .inl ⟨s1, q.lst R2 q1.reverse⟩⟩
          unfold backE at q
          cases hv2 with
          | @tup a vs ps h1 q1 => exact ⟨a, vs, rfl, .inr ⟨h1, q.tup R2 q1.reverse⟩⟩
          | @lsv a vs ps h1 q1 => exact gen rfl q
          | @loc a i e1 =>
            dsimp only at q
            split at q
            · rename_i xs e2
              exact gen e2 q
            · exact q.elim
          | _ => exact q.elim
    exact ⟨main, pt_plain _ main fun _ => rfl⟩
  | .call f es, X, N, sc, so, W, S, e, h, F => by
    cases e <;> first | (cases h; done) | skip
    rename_i fe ees kws pos
    cases fe <;> first | (cases h; done) | skip
    rename_i x p
    match ees, kws, h with
    | a :: ees, [], h =>
      obtain ⟨hh, h⟩ := cool_of h
      have h : (decide (x = f) && glb sc x && (g.tb.lookup f).isSome && chkEs g N sc es (a :: ees)) = true := h
      simp only [Bool.and_eq_true, decide_eq_true_eq] at h
      have q := snd_Es es S h.2
      have main : PE X (.Call (.Name x p) (a :: ees) [] pos) (tI X.K F (sw X.mg W) (evE (g.ctx (clOf X.mg) n) (.call f es))) := sub_call S hh f h.1.1.1 h.1.1.2 h.1.2 q.ok q.len (q.pa F)
      exact ⟨main, pt_plain _ main fun _ => rfl⟩
    | [], _, h => cases h
    | _ :: _, _ :: _, h => cases h
  | .callk f es ks perm, X, N, sc, so, W, S, e, h, F => by
    cases e <;> first | (cases h; done) | skip
    rename_i fe ees kws pos
    cases fe <;> first | (cases h; done) | skip
    rename_i x p
    obtain ⟨hh, h⟩ := cool_of h
    have h : (decide (x = f) && glb sc x && (g.tb.lookup f).isSome && kws.all (fun k => k.arg.isSome) && !kws.isEmpty && decide ((f, kwNames kws, ees.length, perm) ∈ g.kcs) && chkEs g N sc es ees && chkEs g N sc ks (kws.map (·.value))) = true := h
    simp only [Bool.and_eq_true, decide_eq_true_eq] at h
    obtain ⟨⟨⟨⟨⟨⟨⟨hx, hg⟩, ht⟩, hkw⟩, hne⟩, hmem⟩, h1⟩, h2⟩ := h
    have q1 := snd_Es es S h1
    have q2 := snd_Es ks S h2
    subst hx
    obtain ⟨fn, hf⟩ := Option.isSome_iff_exists.mp ht
    obtain ⟨ad, fd, hm, hk, G, _, hb⟩ := S.link.fn x fn hf
    obtain ⟨hgl, hd⟩ := S.gl hg
    obtain ⟨w1, w2, w3⟩ := kw_facts kws hkw pos X.env
    have hbk := hb _ _ _ hmem
    have hkl : (kwNames kws).length = ks.length := by rw [kwNames_len kws hkw, q2.len, List.length_map]
    have main : PE X (.Call (.Name x p) ees kws pos) (tI X.K F (sw X.mg W) (evE (g.ctx (clOf X.mg) n) (.callk x es ks perm))) := by
      match ees, q1, hbk with
      | [], q1, hbk =>
        refine PE.imp (pe_cGk0 (tk := tIA X.K F (sw X.mg W) (evEs (g.ctx (clOf X.mg) n) ks)) (g := fun us ws => perm.map fun i => (us ++ ws).getD i .none) (gV := fun vs zs => perm.map fun i => (vs ++ zs).getD i .non) G (hh ▸ S.cal) S.tk hgl hm hk (fun s us ws _ l2 l3 => hbk s us ws l3 l2) (fun r1 r2 => vals_perm (r1.append r2) perm)
          (q2.pk kws rfl F) hd w1 w2 (by show (false || _) = false; rw [w3]; rfl)) fun σ H Q q => ?_
        have q := kw_read (a := 0) (b := (kwNames kws).length) (fun env st ps st1 e => by rw [evEs_len _ es env st ps st1 e]; exact q1.len) (fun env st ps st1 e => by rw [evEs_len _ ks env st ps st1 e]; exact hkl.symm) q
        obtain ⟨r, env, st, R, E, q⟩ := q
        cases es with
        | nil =>
          obtain ⟨_, q⟩ := q [] H r .refl R .nil
          exact q
        | cons a b => have := q1.len; simp [Exs.length] at this
      | a :: ees, q1, hbk =>
        have hs2 := List.all_cons ▸ q1.ok
        simp only [Bool.and_eq_true] at hs2
        refine PE.imp (pe_cGk (tk := tIA X.K F (sw X.mg W) (evEs (g.ctx (clOf X.mg) n) ks)) (t := tIA X.K F (sw X.mg W) (evEs (g.ctx (clOf X.mg) n) es)) (g := fun us ws => perm.map fun i => (us ++ ws).getD i .none) (gV := fun vs zs => perm.map fun i => (vs ++ zs).getD i .non) G (hh ▸ S.cal) S.tk hgl hm hk (fun s us ws _ l2 l3 => hbk s us ws l3 l2) (fun r1 r2 => vals_perm (r1.append r2) perm)
          (q1.pa F) (q2.pk kws rfl F) hd w1 w2 (okS_star hs2.1 _ _) (by rw [w3, okS_any q1.ok]; rfl)) fun σ H Q q => ?_
        exact kw_read (a := (a :: ees).length) (b := (kwNames kws).length) (fun env st ps st1 e => by rw [evEs_len _ es env st ps st1 e]; exact q1.len) (fun env st ps st1 e => by rw [evEs_len _ ks env st ps st1 e]; exact hkl.symm) q
    exact ⟨main, pt_plain _ main fun _ => rfl⟩
  | .bi f fr es, X, N, sc, so, W, S, e, h, F => by
    cases e <;> first | (cases h; done) | skip
    rename_i fe ees kws pos
    cases fe <;> first | (cases h; done) | skip
    rename_i x p
    match ees, kws, h with
    | a :: ees, [], h =>
      have h0 : ((!g.hot || coolBi f) && (decide (x = biName f) && glb sc x && decide (x ∈ g.bs) && chkEs g N sc es (a :: ees))) = true := h
      rw [Bool.and_eq_true, Bool.or_eq_true, Bool.not_eq_true'] at h0
      obtain ⟨hf, h⟩ := h0
      have h : (decide (x = biName f) && glb sc x && decide (x ∈ g.bs) && chkEs g N sc es (a :: ees)) = true := h
      simp only [Bool.and_eq_true, decide_eq_true_eq] at h
      have q := snd_Es es S h.2
      have main : PE X (.Call (.Name x p) (a :: ees) [] pos) (tI X.K F (sw X.mg W) (evE (g.ctx (clOf X.mg) n) (.bi f fr es))) := sub_bi S f fr h.1.1.1 h.1.1.2 h.1.2 hf q.ok (q.pa F)
      exact ⟨main, pt_plain _ main fun _ => rfl⟩
    | [], _, h => cases h
    | _ :: _, _ :: _, h => cases h
  | .isi a T, X, N, sc, so, W, S, e, h, F => by
    cases e <;> first | (cases h; done) | skip
    rename_i fe ees kws pos
    cases fe <;> first | (cases h; done) | skip
    rename_i x p
    have hh : ∃ ee t tp, ees = [ee, .Name t tp] ∧ kws = [] := by
      rcases ees with _ | ⟨a1, _ | ⟨b1, _ | ⟨c1, r1⟩⟩⟩ <;> rcases kws with _ | ⟨k1, ks1⟩ <;> first
        | (cases h; done)
        | (cases b1 <;> first | (cases h; done) | exact ⟨_, _, _, rfl, rfl⟩)
    obtain ⟨ee, t, tp, rfl, rfl⟩ := hh
    have h : (decide (x = ("isinstance" : Str)) && glb sc x && decide (x ∈ g.bs) && decide (t = Str.ofString T) && glb sc t && decide (t ∈ g.bs) && decide (T ∈ tyNames) && chkE g N sc a ee) = true := h
    simp only [Bool.and_eq_true, decide_eq_true_eq] at h
    obtain ⟨⟨⟨⟨⟨⟨⟨hx, hg⟩, hb⟩, ht⟩, hgt⟩, hbt⟩, hT⟩, h1⟩ := h
    subst hx
    obtain ⟨hgl, hd⟩ := S.gl hg
    obtain ⟨hgl2, hd2⟩ := S.gl hgt
    have ok1 := chk_okS h1
    have pt : PE X (.Name t tp) (tC (.ty T)) := pe_bltn hgl2 (S.link.bs t hbt) (by rw [ht]; exact boot_ty hT) rfl (by rw [ht]; exact name_ty hT) hd2
    have ha : PA X [ee, .Name t tp] (tCons (tI X.K F (sw X.mg W) (evE (g.ctx (clOf X.mg) n) a)) (tCons (tC (.ty T)) tNil)) := pa_cons (snd_E a S h1 F).1 (pa_cons pt pa_nil) (okS_star ok1 _ _)
    have main : PE X (.Call (.Name "isinstance" p) [ee, .Name t tp] [] pos) (tI X.K F (sw X.mg W) (evE (g.ctx (clOf X.mg) n) (.isi a T))) := PE.imp (pe_callB call_isi hgl (S.link.bs _ hb) boot_isinstance ha (by decide) hd (okS_star ok1 _ _) rfl) fun σ H Q q => by
      have q := tI.step q
      obtain ⟨r, env, st, R, E, q⟩ := q
      refine ⟨r, env, st, R, E, ?_⟩
      cases k1 : evE (g.ctx (clOf X.mg) n) a env st with
      | exc => rw [k1] at q; exact q
      | bad => rw [k1] at q; exact q.elim
      | ok p st1 =>
        rw [k1] at q
        intro v H1 r1 A1 R1 hv
        obtain ⟨r2, env2, st2, p2, R2, E2, hv2, q⟩ := q v H1 r1 A1 R1 hv
        split at q
        · rename_i b e1
          rw [Option.bind_eq_some_iff] at e1
          obtain ⟨U, e2, e3⟩ := e1
          exact ⟨v, .ty T, .type U, .type T, b, rfl, .ty T, ty_of R2 hv2 e2, kit_ty e3, q.here R2 (.bl _)⟩
        · exact q.elim
    exact ⟨main, pt_plain _ main fun _ => rfl⟩
  | .fld i, X, N, sc, so, W, S, e, h, F => snd_fld S i h
  | .ise a c, X, N, sc, so, W, S, e, h, F => by
    cases e <;> first | (cases h; done) | skip
    rename_i fe ees kws pos
    cases fe <;> first | (cases h; done) | skip
    rename_i x p
    have hh : ∃ ee t tp, ees = [ee, .Name t tp] ∧ kws = [] := by
      rcases ees with _ | ⟨a1, _ | ⟨b1, _ | ⟨c1, r1⟩⟩⟩ <;> rcases kws with _ | ⟨k1, ks1⟩ <;> first
        | (cases h; done)
        | (cases b1 <;> first | (cases h; done) | exact ⟨_, _, _, rfl, rfl⟩)
    obtain ⟨ee, t, tp, rfl, rfl⟩ := hh
    have h : (decide (x = ("isinstance" : Str)) && glb sc x && decide (x ∈ g.bs) && decide (t = c) && glb sc t && excOk g c && chkE g N sc a ee) = true := h
    simp only [Bool.and_eq_true, decide_eq_true_eq] at h
    obtain ⟨⟨⟨⟨⟨⟨hx, hg⟩, hb⟩, ht⟩, hgt⟩, hc⟩, h1⟩ := h
    subst hx
    subst ht
    obtain ⟨hgl, hd⟩ := S.gl hg
    have ok1 := chk_okS h1
    obtain ⟨cv, u, nm⟩ := exn_of S hc
    have pt : PE X (.Name t tp) (tC cv) := pe_exn S nm hgt
    have ha : PA X [ee, .Name t tp] (tCons (tI X.K F (sw X.mg W) (evE (g.ctx (clOf X.mg) n) a)) (tCons (tC cv) tNil)) := pa_cons (snd_E a S h1 F).1 (pa_cons pt pa_nil) (okS_star ok1 _ _)
    have main : PE X (.Call (.Name "isinstance" p) [ee, .Name t tp] [] pos) (tI X.K F (sw X.mg W) (evE (g.ctx (clOf X.mg) n) (.ise a t))) := PE.imp (pe_callB call_ise hgl (S.link.bs _ hb) boot_isinstance ha (by decide) hd (okS_star ok1 _ _) rfl) fun σ H Q q => by
      have q := tI.step q
      obtain ⟨r, env, st, R, E, q⟩ := q
      refine ⟨r, env, st, R, E, ?_⟩
      cases k1 : evE (g.ctx (clOf X.mg) n) a env st with
      | exc => rw [k1] at q; exact q
      | bad => rw [k1] at q; exact q.elim
      | ok p st1 =>
        rw [k1] at q
        intro v H1 r1 A1 R1 hv
        obtain ⟨r2, env2, st2, p2, R2, E2, hv2, q⟩ := q v H1 r1 A1 R1 hv
        split at q
        · rename_i b e1
          refine ⟨v, cv, u, b, rfl, nm.cls, q.here R2 (.bl _), ?_⟩
          cases hv2 with
          | non => cases e1; exact .inl ⟨rfl, nm.none S⟩
          | @exn ad D dd c w d z1 z2 z3 =>
            simp only [iseV] at e1
            split at e1
            · rename_i hD
              have e2 : ((g.ecs.lookup c).map fun l => decide (t ∈ l)) = some b := e1
              rw [Option.map_eq_some_iff] at e2
              obtain ⟨anc, hanc, rfl⟩ := e2
              obtain ⟨C, T⟩ := S.link.ec c anc hanc
              have eD : D = C := hD.trans (clOf_eq T.mgc)
              subst eD
              exact .inr ⟨ad, D, dd, _, rfl, z1, z2, T.kit, (T.isa t cv u nm).1⟩
            · cases e1
          | _ => cases e1
        · exact q.elim
    exact ⟨main, pt_plain _ main fun _ => rfl⟩
  | .me m i es, X, N, sc, so, W, S, e, h, F => by
    cases e <;> first | (cases h; done) | skip
    rename_i fe ees kws pos
    cases fe <;> first | (cases h; done) | skip
    rename_i o x apos
    cases o <;> first | (cases h; done) | skip
    rename_i y py
    match kws, h with
    | [], h =>
      have h : (nmOk N sc i y && decide (x = meName m) && (apos.endLine == pos.line) && decide (ees.length ≤ 1) && chkEs g N sc es ees) = true := h
      simp only [Bool.and_eq_true, decide_eq_true_eq] at h
      have q := snd_Es es S h.2
      have main : PE X (.Call (.Attribute (.Name y py) x apos) ees [] pos) (tI X.K F (sw X.mg W) (evE (g.ctx (clOf X.mg) n) (.me m i es))) := sub_me S m i (by rw [h.1.1.1.1]) h.1.1.1.2 h.1.1.2 h.1.2 q.ok (q.pa F) q.len
      exact ⟨main, pt_plain _ main fun _ => rfl⟩
    | _ :: _, h => cases h
  | .dsp ks es i, X, N, sc, so, W, S, e, h, F => by
    obtain ⟨keys, values, pd, ei, pos, rfl, hq⟩ : ∃ keys values pd ei pos, e = .Subscript (.Dict keys values pd) ei pos ∧
        (okS ei && keysOk ks keys && decide (ks.length = values.length) && decide (ks.length ≤ 15) && decide (ks ≠ []) && decide ks.Nodup && chkEs g N sc es values && chkE g N sc i ei) = true := by
      unfold chkE at h
      split at h <;> first | (cases h; done) | (rename_i z; cases z; done) | skip
      rename_i z
      cases z
      exact ⟨_, _, _, _, _, rfl, h⟩
    simp only [Bool.and_eq_true, decide_eq_true_eq] at hq
    obtain ⟨⟨⟨⟨⟨⟨⟨ho, hk⟩, hl⟩, h15⟩, h0⟩, hn⟩, hes⟩, hi⟩ := hq
    have qs := snd_Es es S hes
    obtain ⟨k1, k2⟩ := keysOk_some hk
    have main : PE X (.Subscript (.Dict keys values pd) ei pos) (tI X.K F (sw X.mg W) (evE (g.ctx (clOf X.mg) n) (.dsp ks es i))) :=
      PE.imp (pe_dget (Nat.lt_of_le_of_lt (by have := S.cal.un; omega) S.cal.units) (pe_disp (qs.pp F pd ks keys (keysOk_P hk) hl) k1 (by rw [k2]; exact hl) (by rintro rfl; exact h0 (List.eq_nil_of_length_eq_zero k2.symm)) (by rw [k2]; exact h15)) (snd_E i S hi F).1 (okS_ix ho)) fun σ H Q q =>
        dsp_read (by rw [hl]; exact qs.len.symm) h15 hn q
    exact ⟨main, pt_plain _ main fun _ => rfl⟩
  | .nev, X, N, sc, so, W, S, e, h, F => by
    refine ⟨⟨fun pins s σ H Q I hq => ?_⟩, ⟨fun pins s σ H Q I hq => ?_⟩⟩
    · obtain ⟨r, env, st, R, E, q⟩ := hq
      exact q.elim
    · obtain ⟨r, env, st, R, E, q⟩ := hq
      exact q.elim
  | .slN fr a, X, N, sc, so, W, S, e, h, F => by
    obtain ⟨ea, k, k0, p0, p1, p2, p3, pos, rfl, h⟩ : ∃ ea k k0 p0 p1 p2 p3 pos, e = .Subscript ea (.Slice none (some (.Constant (.int 0) k0 p0)) (some (.UnaryOp .USub (.Constant (.int 1) k p1) p2)) p3) pos ∧ chkE g N sc a ea = true := by
      unfold chkE at h
      split at h <;> first | (cases h; done) | (rename_i z; cases z; done) | skip
      rename_i z
      cases z
      exact ⟨_, _, _, _, _, _, _, _, rfl, h⟩
    have main : PE X (.Subscript ea (.Slice none (some (.Constant (.int 0) k0 p0)) (some (.UnaryOp .USub (.Constant (.int 1) k p1) p2)) p3) pos) (tI X.K F (sw X.mg W) (evE (g.ctx (clOf X.mg) n) (.slN fr a))) :=
      PE.imp (pe_tail (snd_E a S h F).1) fun σ H Q q => by
        have q := tI.step q
        obtain ⟨r, env, st, R, E, q⟩ := q
        refine ⟨r, env, st, R, E, ?_⟩
        cases k1 : evE (g.ctx (clOf X.mg) n) a env st with
        | exc => rw [k1] at q; exact q
        | bad => rw [k1] at q; exact q.elim
        | ok p st1 =>
          rw [k1] at q
          intro v H1 r1 A1 R1 hv
          obtain ⟨r2, env2, st2, p2, R2, E2, hv2, q⟩ := q v H1 r1 A1 R1 hv
          cases hv2 with
          | @tup a vs ps h1 q1 => exact ⟨a, vs, rfl, h1, Post.tup R2 q (q1.drop 1).reverse⟩
          | _ => exact q.elim
    exact ⟨main, pt_plain _ main fun _ => rfl⟩
  | .dct ks es, X, N, sc, so, W, S, e, h, F => by
    obtain ⟨keys, values, pos, rfl, hq⟩ : ∃ keys values pos, e = .Dict keys values pos ∧ (keysG g sc ks keys && decide (ks.length = values.length) && decide (ks.length ≤ 15) && decide (ks ≠ []) && decide ks.Nodup && chkEs g N sc es values) = true := by
      unfold chkE at h
      split at h <;> first | (cases h; done) | (rename_i z; cases z; done) | skip
      rename_i z
      cases z
      exact ⟨_, _, _, rfl, h⟩
    simp only [Bool.and_eq_true, decide_eq_true_eq] at hq
    obtain ⟨⟨⟨⟨⟨hk, hl⟩, h15⟩, h0⟩, hn⟩, hes⟩ := hq
    have qs := snd_Es es S hes
    have kp := keysG_P S hk
    obtain ⟨k1, k2⟩ := kp.haves
    have main : PE X (.Dict keys values pos) (tI X.K F (sw X.mg W) (evE (g.ctx (clOf X.mg) n) (.dct ks es))) :=
      PE.imp (pe_disp (qs.pp F pos ks keys kp hl) k1 (by rw [k2]; exact hl) (by rintro rfl; exact h0 (List.eq_nil_of_length_eq_zero k2.symm)) (by rw [k2]; exact h15)) fun σ H Q q =>
        dct_read (by rw [hl]; exact qs.len.symm) h0 h15 hn q
    exact ⟨main, pt_plain _ main fun _ => rfl⟩
  | .dget a b, X, N, sc, so, W, S, e, h, F => by
    obtain ⟨ea, eb, pos, rfl, hq⟩ : ∃ ea eb pos, e = .Subscript ea eb pos ∧ (okS eb && chkE g N sc a ea && chkE g N sc b eb) = true := by
      unfold chkE at h
      split at h <;> first | (cases h; done) | (rename_i z; cases z; done) | skip
      rename_i z
      cases z
      exact ⟨_, _, _, rfl, h⟩
    simp only [Bool.and_eq_true] at hq
    have main : PE X (.Subscript ea eb pos) (tI X.K F (sw X.mg W) (evE (g.ctx (clOf X.mg) n) (.dget a b))) :=
      PE.imp (pe_dget (Nat.lt_of_le_of_lt (by have := S.cal.un; omega) S.cal.units) (snd_E a S hq.1.2 F).1 (snd_E b S hq.2 F).1 (okS_ix hq.1.1)) fun σ H Q q => dget_read q
    exact ⟨main, pt_plain _ main fun _ => rfl⟩
  | .din neg a b, X, N, sc, so, W, S, e, h, F => by
    obtain ⟨ea, op, eb, pos, rfl, hq⟩ : ∃ ea op eb pos, e = .Compare ea [op] [eb] pos ∧ (decide (op = if neg = true then .NotIn else .In) && chkE g N sc a ea && chkE g N sc b eb) = true := by
      unfold chkE at h
      split at h <;> first | (cases h; done) | (rename_i z; cases z; done) | skip
      rename_i z
      cases z
      exact ⟨_, _, _, _, rfl, h⟩
    simp only [Bool.and_eq_true, decide_eq_true_eq] at hq
    obtain ⟨⟨ho, h1⟩, h2⟩ := hq
    have hu : X.A.units + 1 < cLine := Nat.lt_of_le_of_lt (by have := S.cal.un; omega) S.cal.units
    have main : PE X (.Compare ea [op] [eb] pos) (tI X.K F (sw X.mg W) (evE (g.ctx (clOf X.mg) n) (.din neg a b))) := by
      cases neg with
      | false =>
        subst ho
        refine PE.imp (pe_cmp (pc_din hu (snd_E a S h1 F).1 (snd_E b S h2 F).1) (in_last (chk_okS h2))) fun σ H Q q => ?_
        have q := din_read q
        simp only [Bool.bne_false] at q
        exact q
      | true =>
        subst ho
        refine PE.imp (pe_cmp (pc_dnotin hu (snd_E a S h1 F).1 (snd_E b S h2 F).1) (in_last (chk_okS h2))) fun σ H Q q => ?_
        have q := din_read q
        simp only [Bool.bne_true] at q
        exact q
    have test : PT X (.Compare ea [op] [eb] pos) (tIT X.K F (sw X.mg W) (evC (g.ctx (clOf X.mg) n) (.din neg a b))) := by
      cases neg with
      | false =>
        subst ho
        refine PT.imp (pt_cmp (pc_din hu (snd_E a S h1 F).1 (snd_E b S h2 F).1) (in_last (chk_okS h2))) fun σ H Q q => ?_
        have q := din_read (din_test q)
        simp only [Bool.bne_false] at q
        exact q
      | true =>
        subst ho
        refine PT.imp (pt_cmp (pc_dnotin hu (snd_E a S h1 F).1 (snd_E b S h2 F).1) (in_last (chk_okS h2))) fun σ H Q q => ?_
        have q := din_read (din_test q)
        simp only [Bool.bne_true] at q
        exact q
    exact ⟨main, test⟩
  | .slK fr a k, X, N, sc, so, W, S, e, h, F => by
    obtain ⟨ea, ek, p3, pos, rfl, hq⟩ : ∃ ea ek p3 pos, e = .Subscript ea (.Slice none none (some ek) p3) pos ∧ (chkE g N sc a ea && chkE g N sc k ek) = true := by
      unfold chkE at h
      split at h <;> first | (cases h; done) | (rename_i z; cases z; done) | skip
      rename_i z
      cases z
      exact ⟨_, _, _, _, rfl, h⟩
    simp only [Bool.and_eq_true] at hq
    have main : PE X (.Subscript ea (.Slice none none (some ek) p3) pos) (tI X.K F (sw X.mg W) (evE (g.ctx (clOf X.mg) n) (.slK fr a k))) :=
      PE.imp (pe_step (snd_E a S hq.1 F).1 (snd_E k S hq.2 F).1) fun σ H Q q => step_read q
    exact ⟨main, pt_plain _ main fun _ => rfl⟩
  | .rg1 a, X, N, sc, so, W, S, e, h, F => by
    obtain ⟨x, px, ea, pos, rfl, hq⟩ : ∃ x px ea pos, e = .Call (.Name x px) [ea] [] pos ∧ (!g.hot && (decide (x = ("range" : Str)) && glb sc x && decide (x ∈ g.bs) && okS ea && chkE g N sc a ea)) = true := by
      unfold chkE at h
      split at h <;> first | (cases h; done) | (rename_i z; cases z; done) | skip
      rename_i z
      cases z
      exact ⟨_, _, _, _, rfl, h⟩
    obtain ⟨hh, hq⟩ := cool_of hq
    simp only [Bool.and_eq_true, decide_eq_true_eq] at hq
    obtain ⟨⟨⟨⟨rfl, hg⟩, hb⟩, ho⟩, h1⟩ := hq
    obtain ⟨hgl, hd⟩ := S.gl hg
    have ha : PA X [ea] (tCons (tI X.K F (sw X.mg W) (evE (g.ctx (clOf X.mg) n) a)) tNil) := pa_cons (snd_E a S h1 F).1 pa_nil (okS_star ho _ _)
    have main : PE X (.Call (.Name "range" px) [ea] [] pos) (tI X.K F (sw X.mg W) (evE (g.ctx (clOf X.mg) n) (.rg1 a))) :=
      PE.imp (pe_rgk hgl (S.link.bs _ hb) ha (okS_star ho _ _)) fun σ H Q q => rgk_read q
    exact ⟨main, pt_plain _ main fun _ => rfl⟩
  | .lrg fr a, X, N, sc, so, W, S, e, h, F => by
    obtain ⟨y, py, x, px, ea, pi, pos, rfl, hq⟩ : ∃ y py x px ea pi pos, e = .Call (.Name y py) [.Call (.Name x px) [ea] [] pi] [] pos ∧ (!g.hot && (decide (y = ("list" : Str)) && glb sc y && decide (y ∈ g.bs) && decide (x = ("range" : Str)) && glb sc x && decide (x ∈ g.bs) && okS ea && chkE g N sc a ea)) = true := by
      unfold chkE at h
      split at h <;> first | (cases h; done) | (rename_i z; cases z; done) | skip
      rename_i z
      cases z
      exact ⟨_, _, _, _, _, _, _, rfl, h⟩
    obtain ⟨hh, hq⟩ := cool_of hq
    simp only [Bool.and_eq_true, decide_eq_true_eq] at hq
    obtain ⟨⟨⟨⟨⟨⟨⟨rfl, hg2⟩, hb2⟩, rfl⟩, hg⟩, hb⟩, ho⟩, h1⟩ := hq
    obtain ⟨hgl, hd⟩ := S.gl hg
    obtain ⟨hgl2, hd2⟩ := S.gl hg2
    have main : PE X (.Call (.Name "list" py) [.Call (.Name "range" px) [ea] [] pi] [] pos) (tI X.K F (sw X.mg W) (evE (g.ctx (clOf X.mg) n) (.lrg fr a))) :=
      PE.imp (pe_listRg (S.cal.calm hh) hgl2 (S.link.bs _ hb2) (prg_1 hgl (S.link.bs _ hb) (snd_E a S h1 F).1 (okS_star ho _ _)) (okS_star rfl _ _)) fun σ H Q q => lrg_read q
    exact ⟨main, pt_plain _ main fun _ => rfl⟩
  | .maxd a d, X, N, sc, so, W, S, e, h, F => by
    obtain ⟨x, px, ea, k, ed, kp, pos, rfl, hq⟩ : ∃ x px ea k ed kp pos, e = .Call (.Name x px) [ea] [⟨some k, ed, kp⟩] pos ∧ (!g.hot && (decide (x = ("max" : Str)) && glb sc x && decide (x ∈ g.bs) && decide (k = ("default" : Str)) && okS ea && okS ed && chkE g N sc a ea && chkE g N sc d ed)) = true := by
      unfold chkE at h
      split at h <;> first | (cases h; done) | (rename_i z; cases z; done) | skip
      rename_i z
      cases z
      exact ⟨_, _, _, _, _, _, _, rfl, h⟩
    obtain ⟨hh, hq⟩ := cool_of hq
    simp only [Bool.and_eq_true, decide_eq_true_eq] at hq
    obtain ⟨⟨⟨⟨⟨⟨⟨rfl, hg⟩, hb⟩, rfl⟩, ho⟩, ho2⟩, h1⟩, h2⟩ := hq
    obtain ⟨hgl, hd⟩ := S.gl hg
    have ha : PA X [ea] (tCons (tI X.K F (sw X.mg W) (evE (g.ctx (clOf X.mg) n) a)) tNil) := pa_cons (snd_E a S h1 F).1 pa_nil (okS_star ho _ _)
    have hk : PK X [⟨some "default", ed, kp⟩] (tCons (tI X.K F (sw X.mg W) (evE (g.ctx (clOf X.mg) n) d)) tNil) := pk_cons (snd_E d S h2 F).1 pk_nil
    have main : PE X (.Call (.Name "max" px) [ea] [⟨some "default", ed, kp⟩] pos) (tI X.K F (sw X.mg W) (evE (g.ctx (clOf X.mg) n) (.maxd a d))) :=
      PE.imp (pe_callBK (cr_maxD (n + 2) S.cal hh) hgl (S.link.bs _ hb) PyProof.Rows.Boot.«max» ha hk (by decide) hd (by rw [okS_star ho]; rfl) (by rw [okS_star ho]; rfl)) fun σ H Q q => maxd_read q
    exact ⟨main, pt_plain _ main fun _ => rfl⟩
  | .srt fr own p it el, X, N, sc, so, W, S, e, h, F => by
    obtain ⟨x, px, kx, jb, pb, tg, iter, scope, pd, pos, rfl, h⟩ : ∃ x px kx jb pb tg iter scope pd pos, e = .Call (.Name x px) [.DictComp kx (.Constant (.bool true) jb pb) [⟨tg, iter, [], 0⟩] scope pd] [] pos ∧
        (!g.hot && (decide (x = ("sorted" : Str)) && glb sc x && decide (x ∈ g.bs) && blkC N sc scope (ownL N own) && chkI g N sc it iter && okS iter && (!needsT it || isTgT tg) && decide (∀ i ∈ p.slots, i ∈ own) && chkP N scope p tg && chkE g N (relS scope sc) el kx)) = true := by
      unfold chkE at h
      split at h <;> first | (cases h; done) | (rename_i z; cases z; done) | skip
      rename_i z
      cases z
      exact ⟨_, _, _, _, _, _, _, _, _, _, rfl, h⟩
    obtain ⟨hh, h⟩ := cool_of h
    simp only [Bool.and_eq_true, decide_eq_true_eq] at h
    obtain ⟨⟨⟨⟨⟨⟨⟨⟨⟨rfl, hg⟩, hb⟩, hk⟩, hi⟩, ho⟩, ht⟩, hown⟩, hp⟩, he⟩ := h
    have own2 : (ownL N own).map (·.2) = own := by simp [ownL, List.map_map, Function.comp_def]
    obtain ⟨hgl, hd⟩ := S.gl hg
    have hm := S.link.bs _ hb
    have main : PE X (.Call (.Name "sorted" px) [.DictComp kx (.Constant (.bool true) jb pb) [⟨tg, iter, [], 0⟩] scope pd] [] pos) (tI X.K F (sw X.mg W) (evE (g.ctx (clOf X.mg) n) (.srt fr own p it el))) := by
      have dc := pe_dc (kx := kx) (vx := .Constant (.bool true) jb pb) (tg := tg) (iter := iter) (ifs := []) (scope := scope) (pos := pd) (own := ownL N own) (g := gX X.K p) (tt := tYes) (tk := tX X.K (evE (g.ctx (clOf X.mg) n) el)) (tv := tC (.bl true)) (S.cal.calm hh) (by rw [S.eN]; exact S.nd)
        (snd_I it S hi (fun z => by rw [z] at ht; simpa using ht) F) (blkOk_by (by rw [S.eN, S.eS]; exact hk))
        (fun s H C cl fp => pg_any fun F => (pg_I (S.blk) hh F p tg hp).1) (fun s H C cl fp => pts_nil) (fun s H C cl fp => pe_any fun F => (snd_E el (S.blk) he F).1) (fun s H C cl fp => pe_bl) (fun x => okS_set ho _ _)
      rw [own2] at dc
      exact PE.imp (pe_callB (cr_sortedD (S.cal.calm hh)) hgl hm PyProof.Rows.Boot.«sorted» (pa_cons dc pa_nil) (by decide) hd) fun σ H Q q => srt_read hown q
    exact ⟨main, pt_plain _ main fun _ => rfl⟩
  | .lc fr own p it cs el, X, N, sc, so, W, S, e, h, F => by
    cases e <;> first | (cases h; done) | skip
    rename_i elt gens scope pos
    match gens, h with
    | [⟨tg, iter, ifs, 0⟩], h =>
      obtain ⟨hh, h⟩ := cool_of h
      have h : (blkC N sc scope (ownL N own) && chkI g N sc it iter && okS iter && (!needsT it || isTgT tg) && decide (∀ i ∈ p.slots, i ∈ own) && chkP N scope p tg && decide (ifs.length ≤ 1) && chkEs g N (relS scope sc) cs ifs && chkE g N (relS scope sc) el elt) = true := h
      simp only [Bool.and_eq_true, decide_eq_true_eq] at h
      obtain ⟨⟨⟨⟨⟨⟨⟨⟨hb, hi⟩, ho⟩, ht⟩, hown⟩, hp⟩, hl⟩, hcs⟩, he⟩ := h
      have own2 : (ownL N own).map (·.2) = own := by simp [ownL, List.map_map, Function.comp_def]
      have main : PE X (.ListComp elt [⟨tg, iter, ifs, 0⟩] scope pos) (tI X.K F (sw X.mg W) (evE (g.ctx (clOf X.mg) n) (.lc fr own p it cs el))) := by
        refine PE.imp (pe_lc (own := ownL N own) (g := gX X.K p) (tt := tTX X.K (evTests (g.ctx (clOf X.mg) n) cs)) (te := tX X.K (evE (g.ctx (clOf X.mg) n) el)) (S.cal.calm hh) (by rw [S.eN]; exact S.nd) (snd_I it S hi (fun z => by rw [z] at ht; simpa using ht) F) (blkOk_by (by rw [S.eN, S.eS]; exact hb))
          (fun s H C cl fp => pg_any fun F => (pg_I (S.blk) hh F p tg hp).1) (fun s H C cl fp => (snd_Es cs (S.blk) hcs).ts hl) (fun s H C cl fp => pe_any fun F => (snd_E el (S.blk) he F).1) (fun x => okS_set ho _ _)) fun σ H Q q => ?_
        rw [own2]
        exact lc_read hown q
      exact ⟨main, pt_plain _ main fun _ => rfl⟩
    | [], h => cases h
    | ⟨_, _, _, 0⟩ :: ⟨_, _, _, 0⟩ :: _, h => cases h
    | ⟨_, _, _, 0⟩ :: ⟨_, _, _, (_ + 1 : Nat)⟩ :: _, h => cases h
    | ⟨_, _, _, 0⟩ :: ⟨_, _, _, Int.negSucc _⟩ :: _, h => cases h
    | ⟨_, _, _, (_ + 1 : Nat)⟩ :: _, h => cases h
    | ⟨_, _, _, Int.negSucc _⟩ :: _, h => cases h
  | .lc2 fr own p it cs vs2 p2 it2 cs2 el, X, N, sc, so, W, S, e, h, F => by
    cases e <;> first | (cases h; done) | skip
    rename_i elt gens scope pos
    match gens, h with
    | [⟨tg, iter, ifs, 0⟩, ⟨tg2, iter2, ifs2, 0⟩], h =>
      obtain ⟨hh, h⟩ := cool_of h
      have h : (blkC N sc scope (ownL N own) && chkI g N sc it iter && okS iter && (!needsT it || isTgT tg) && decide (∀ i ∈ p.slots, i ∈ own) && chkP N scope p tg && decide (ifs.length ≤ 1) && chkEs g N (relS scope sc) cs ifs &&
        decide (∀ i ∈ vs2, i ∈ own) && chkI g N (relS scope sc) it2 iter2 && okS iter2 && (!needsT it2 || isTgT tg2) && decide (∀ i ∈ p2.slots, i ∈ vs2) && chkP N scope p2 tg2 && decide (ifs2.length ≤ 1) && chkEs g N (relS scope sc) cs2 ifs2 && chkE g N (relS scope sc) el elt) = true := h
      simp only [Bool.and_eq_true, decide_eq_true_eq] at h
      obtain ⟨⟨⟨⟨⟨⟨⟨⟨⟨⟨⟨⟨⟨⟨⟨⟨hb, hi⟩, ho⟩, ht⟩, hown⟩, hp⟩, hl⟩, hcs⟩, hv⟩, hi2⟩, ho2⟩, ht2⟩, hown2⟩, hp2⟩, hl2⟩, hcs2⟩, he⟩ := h
      have own2 : (ownL N own).map (·.2) = own := by simp [ownL, List.map_map, Function.comp_def]
      have main : PE X (.ListComp elt [⟨tg, iter, ifs, 0⟩, ⟨tg2, iter2, ifs2, 0⟩] scope pos) (tI X.K F (sw X.mg W) (evE (g.ctx (clOf X.mg) n) (.lc2 fr own p it cs vs2 p2 it2 cs2 el))) := by
        refine PE.imp (pe_lc2 (own := ownL N own) (g := gX X.K p) (tt := tTX X.K (evTests (g.ctx (clOf X.mg) n) cs)) (g1 := gX X.K p2) (tt1 := tTX X.K (evTests (g.ctx (clOf X.mg) n) cs2)) (wi1 := iX X.K (evIx (g.ctx (clOf X.mg) n) it2)) (te := tX X.K (evE (g.ctx (clOf X.mg) n) el)) (S.cal.calm hh) (by rw [S.eN]; exact S.nd) (snd_I it S hi (fun z => by rw [z] at ht; simpa using ht) F) (blkOk_by (by rw [S.eN, S.eS]; exact hb)) (by rw [own2]; exact hv)
          (fun s H C cl fp => pg_any fun F => (pg_I (S.blk) hh F p tg hp).1) (fun s H C cl fp => (snd_Es cs (S.blk) hcs).ts hl) (fun s H C cl fp => pi_any fun F => snd_I it2 (S.blk) hi2 (fun z => by rw [z] at ht2; simpa using ht2) F)
          (fun s H C cl fp => pg_any fun F => (pg_I (S.blk) hh F p2 tg2 hp2).1) (fun s H C cl fp => (snd_Es cs2 (S.blk) hcs2).ts hl2) (fun s H C cl fp => pe_any fun F => (snd_E el (S.blk) he F).1) (fun x => okS_set ho _ _) (fun env x => okS_set ho2 _ _)) fun σ H Q q => ?_
        rw [own2]
        exact lc2_read hown hown2 q
      exact ⟨main, pt_plain _ main fun _ => rfl⟩
    | [], h => cases h
    | [⟨_, _, _, 0⟩], h => cases h
    | ⟨_, _, _, 0⟩ :: ⟨_, _, _, 0⟩ :: _ :: _, h => cases h
    | ⟨_, _, _, 0⟩ :: ⟨_, _, _, (_ + 1 : Nat)⟩ :: _, h => cases h
    | ⟨_, _, _, 0⟩ :: ⟨_, _, _, Int.negSucc _⟩ :: _, h => cases h
    | ⟨_, _, _, (_ + 1 : Nat)⟩ :: _, h => cases h
    | ⟨_, _, _, Int.negSucc _⟩ :: _, h => cases h
theorem snd_Es : ∀ (es : Exs) {X : Cx} {N : List Str} {sc so : Scope} {W : WX} (S : Std X g n N sc so W) {ees : List Expr}, chkEs g N sc es ees = true → SndEs X W g n es ees
  | .nil, X, N, sc, so, W, S, ees, h => by
    cases ees with
    | cons a b => cases h
    | nil =>
      refine ⟨rfl, rfl, fun F => PA.imp pa_nil fun σ H Q q => nil_read q, fun kws e F => ?_, fun z => (z rfl).elim, fun z => (z rfl).elim, fun _ => pts_any (Y := sw X.mg W) fun F => PTs.imp pts_nil fun σ H Q q => ?_, fun F pos ks keys hk hl => ?_⟩
      · have : kws = [] := by simpa using e
        subst this
        exact PK.imp pk_nil fun σ H Q q => nil_read q
      · obtain ⟨r, env, st, R, E, q⟩ := q
        exact q H r .refl R
      · cases ks with
        | cons a b => cases hl
        | nil =>
          cases keys with
          | cons a b => exact hk.elim
          | nil => exact pps_nil
  | .cons ex es, X, N, sc, so, W, S, ees, h => by
    cases ees with
    | nil => cases h
    | cons a as =>
      have h : (okS a && chkE g N sc ex a && chkEs g N sc es as) = true := h
      simp only [Bool.and_eq_true] at h
      have q1 := snd_E ex S h.1.2
      have q2 := snd_Es es S h.2
      refine ⟨by rw [List.all_cons, h.1.1, q2.ok]; rfl, congrArg (· + 1) q2.len, fun F => PA.imp (pa_cons (q1 F).1 (q2.pa F) (okS_star h.1.1 _ _)) fun σ H Q q => cons_read q, fun kws e F => ?_, fun _ F pos => ?_, fun _ F pos => ?_, fun hl => pts_any (Y := sw X.mg W) fun F => ?_, fun F pos ks keys hk hl => ?_⟩
      · cases kws with
        | nil => cases e
        | cons k ks =>
          obtain ⟨nm, v, kp⟩ := k
          simp only [List.map_cons, List.cons.injEq] at e
          obtain ⟨rfl, e⟩ := e
          exact PK.imp (pk_cons (q1 F).1 (q2.pk ks e F)) fun σ H Q q => cons_read q
      · match es, as, q2 with
        | .nil, [], q2 =>
          exact ⟨PE.imp (pe_one (q1 F).1) fun σ H Q q => q, PW.imp (pw_and1 (q1 F).2) fun σ H Q q => q⟩
        | .cons e2 es2, b :: bs, q2 =>
          obtain ⟨p1, p2⟩ := q2.and (by simp) F pos
          exact ⟨PE.imp (pe_andT (q1 F).1 p1) fun σ H Q q => and_read q, PW.imp (pw_and (q1 F).2 p2) fun σ H Q q => by
            have q := tIT.step2 (f := fun k env st1 => if k = true then (evAnd (g.ctx (clOf X.mg) n) (.cons e2 es2) env st1).bind fun x st1 => Out.of (truthy st1 x) st1 else .ok false st1) (tIT.eq q fun env st => evAnd_test _ ex e2 es2 env st)
            obtain ⟨r, env, st, R, E, q⟩ := q
            refine ⟨r, env, st, R, E, ?_⟩
            cases k1 : evC (g.ctx (clOf X.mg) n) ex env st with
            | exc => rw [k1] at q; exact q
            | bad => rw [k1] at q; exact q.elim
            | ok k st1 =>
              rw [k1] at q
              intro H1 r1 A1 R1
              have q := q H1 r1 A1 R1
              cases k with
              | true => exact q
              | false =>
                obtain ⟨r2, env2, st2, R2, E2, q⟩ := q
                exact q H1 r2 .refl R2⟩
        | .nil, _ :: _, q2 => have := q2.len; simp [Exs.length] at this
        | .cons _ _, [], q2 => have := q2.len; simp [Exs.length] at this
      · match es, as, q2 with
        | .nil, [], q2 =>
          exact ⟨PE.imp (pe_one (q1 F).1) fun σ H Q q => q, PW.imp (pw_or1 (q1 F).2) fun σ H Q q => q⟩
        | .cons e2 es2, b :: bs, q2 =>
          obtain ⟨p1, p2⟩ := q2.or (by simp) F pos
          exact ⟨PE.imp (pe_orT (q1 F).1 p1) fun σ H Q q => or_read q, PW.imp (pw_or (q1 F).2 p2) fun σ H Q q => by
            have q := tIT.step2 (f := fun k env st1 => if k = true then .ok true st1 else (evOr (g.ctx (clOf X.mg) n) (.cons e2 es2) env st1).bind fun x st1 => Out.of (truthy st1 x) st1) (tIT.eq q fun env st => evOr_test _ ex e2 es2 env st)
            obtain ⟨r, env, st, R, E, q⟩ := q
            refine ⟨r, env, st, R, E, ?_⟩
            cases k1 : evC (g.ctx (clOf X.mg) n) ex env st with
            | exc => rw [k1] at q; exact q
            | bad => rw [k1] at q; exact q.elim
            | ok k st1 =>
              rw [k1] at q
              intro H1 r1 A1 R1
              have q := q H1 r1 A1 R1
              cases k with
              | false => exact q
              | true =>
                obtain ⟨r2, env2, st2, R2, E2, q⟩ := q
                exact q H1 r2 .refl R2⟩
        | .nil, _ :: _, q2 => have := q2.len; simp [Exs.length] at this
        | .cons _ _, [], q2 => have := q2.len; simp [Exs.length] at this
      · cases as with
        | cons b bs => simp at hl
        | nil => exact PTs.imp (pts_one (q1 F).2) fun σ H Q q => q
      · match ks, keys, hk, hl with
        | [], [], _, hl => cases hl
        | [], _ :: _, hk, _ => exact hk.elim
        | _ :: _, [], hk, _ => exact hk.elim
        | _ :: _, none :: _, hk, _ => exact hk.elim
        | k :: ks, some e :: keys, hk, hl =>
          exact pps_cons hk.1 (q1 F).1 (q2.pp F pos ks keys hk.2 (Nat.succ.inj hl))
theorem snd_I : ∀ (it : Ix) {X : Cx} {N : List Str} {sc so : Scope} {W : WX} (S : Std X g n N sc so W) {iter : Expr}, chkI g N sc it iter = true → ∀ {tg : Expr}, (needsT it = true → isTgT tg = true) → ∀ F, PI X tg iter (iI X.K F (sw X.mg W) (evIx (g.ctx (clOf X.mg) n) it))
  | .val ex, X, N, sc, so, W, S, iter, h, tg, hT, F => by
    have h : (okS iter && chkE g N sc ex iter) = true := by
      unfold chkI at h
      exact h
    simp only [Bool.and_eq_true] at h
    have q1 := (snd_E ex S h.2 F).1
    have both : PI X tg iter (fun σ H R => iList X.K (tI X.K F (sw X.mg W) (evE (g.ctx (clOf X.mg) n) ex)) σ H R ∨ iTup X.K (tI X.K F (sw X.mg W) (evE (g.ctx (clOf X.mg) n) ex)) σ H R) :=
      ⟨fun pins s σ H R I q => q.elim (fun q => (pi_list q1).run pins s σ H R I q) fun q => (pi_tup q1).run pins s σ H R I q⟩
    refine PI.imp both fun σ H R q => ?_
    obtain ⟨r, env, st, Rr, E, q⟩ := q
    simp only [evIx] at q
    cases k1 : evE (g.ctx (clOf X.mg) n) ex env st with
    | exc => rw [k1] at q; exact .inl ⟨r, env, st, Rr, E, by rw [k1]; exact q⟩
    | bad => rw [k1] at q; exact q.elim
    | ok p st1 =>
      rw [k1] at q
      simp only [bind_ok] at q
      cases k2 : seqA st1 p with
      | none => rw [k2] at q; exact q.elim
      | some xs =>
        rw [k2] at q
        cases p with
        | tup ds =>
          cases k2
          refine .inr ⟨r, env, st, Rr, E, ?_⟩
          rw [k1]
          intro v H1 r1 A1 R1 hv
          cases hv with
          | @tup a vs _ hs hq => exact ⟨a, rfl, ⟨vs, hs⟩, q H1 r1 _ A1 R1 (JOk.tup R1 hs hq)⟩
        | lsv ds =>
          cases k2
          refine .inl ⟨r, env, st, Rr, E, ?_⟩
          rw [k1]
          intro v H1 r1 A1 R1 hv
          cases hv with
          | @lsv a vs _ hs hq => exact ⟨a, rfl, ⟨vs, hs.seq⟩, q H1 r1 _ A1 R1 (JOk.lsv R1 hs hq)⟩
        | loc i =>
          refine .inl ⟨r, env, st, Rr, E, ?_⟩
          rw [k1]
          intro v H1 r1 A1 R1 hv
          cases hv with
          | @loc a _ hl =>
            obtain ⟨ys, vs, c1, c2, _⟩ := R1.cell hl
            exact ⟨a, rfl, ⟨vs, .of c2⟩, q H1 r1 _ A1 R1 (JOk.loc hl)⟩
        | _ => cases k2
  | .kr a, X, N, sc, so, W, S, iter, h, tg, hT, F => by
    have h : (okS iter && chkE g N sc a iter) = true := by
      unfold chkI at h
      exact h
    simp only [Bool.and_eq_true] at h
    exact PI.imp (pi_kr (snd_E a S h.2 F).1) fun σ H R q => kr_read q
  | .rng1 a, X, N, sc, so, W, S, iter, h, tg, hT, F => by
    cases iter <;> first | (cases h; done) | skip
    rename_i fe ees kws pos
    cases fe <;> first | (cases h; done) | skip
    rename_i x p
    match ees, kws, h with
    | [ea], [], h =>
      have h : (decide (x = ("range" : Str)) && glb sc x && decide (x ∈ g.bs) && okS ea && chkE g N sc a ea) = true := h
      simp only [Bool.and_eq_true, decide_eq_true_eq] at h
      obtain ⟨⟨⟨⟨rfl, hg⟩, hb⟩, ho⟩, h1⟩ := h
      obtain ⟨hgl, hd⟩ := S.gl hg
      have ha : PA X [ea] (tCons (tI X.K F (sw X.mg W) (evE (g.ctx (clOf X.mg) n) a)) tNil) := pa_cons (snd_E a S h1 F).1 pa_nil (okS_star ho _ _)
      refine PI.imp (pi_range1 hgl (S.link.bs _ hb) ha (okS_star ho _ _)) fun σ H R q => ?_
      obtain ⟨r, env, st, Rr, E, q⟩ := q
      refine ⟨r, env, st, Rr, E, ?_⟩
      simp only [evIx] at q
      cases k1 : evE (g.ctx (clOf X.mg) n) a env st with
      | exc => rw [k1] at q; exact q
      | bad => rw [k1] at q; exact q.elim
      | ok p st1 =>
        rw [k1] at q
        simp only [bind_ok] at q
        intro v H1 r1 A1 R1 hv
        cases hv with
        | int j =>
          unfold rngV1 at q
          dsimp only at q
          split at q
          · rename_i hz
            have hz : -(2 ^ 62) ≤ j ∧ j < 2 ^ 62 := hz
            exact ⟨j, rfl, hz.1, hz.2, q H1 r1 _ A1 R1 (JOk.rng 0 j.toNat)⟩
          · exact q.elim
        | _ => exact q.elim
    | [], _, h => cases h
    | [_], _ :: _, h => cases h
    | _ :: _ :: _, [], h => cases h
    | _ :: _ :: _, _ :: _, h => cases h
  | .rng2 a b, X, N, sc, so, W, S, iter, h, tg, hT, F => by
    cases iter <;> first | (cases h; done) | skip
    rename_i fe ees kws pos
    cases fe <;> first | (cases h; done) | skip
    rename_i x p
    match ees, kws, h with
    | [ea, eb], [], h =>
      have h : (decide (x = ("range" : Str)) && glb sc x && decide (x ∈ g.bs) && okS ea && okS eb && chkE g N sc a ea && chkE g N sc b eb) = true := h
      simp only [Bool.and_eq_true, decide_eq_true_eq] at h
      obtain ⟨⟨⟨⟨⟨⟨rfl, hg⟩, hb⟩, ho⟩, ho2⟩, h1⟩, h2⟩ := h
      obtain ⟨hgl, hd⟩ := S.gl hg
      have ha : PA X [ea, eb] (tCons (tI X.K F (sw X.mg W) (evE (g.ctx (clOf X.mg) n) a)) (tCons (tI X.K F (sw X.mg W) (evE (g.ctx (clOf X.mg) n) b)) tNil)) := pa_cons (snd_E a S h1 F).1 (pa_cons (snd_E b S h2 F).1 pa_nil (okS_star ho2 _ _)) (okS_star ho _ _)
      refine PI.imp (pi_range2 hgl (S.link.bs _ hb) ha (by rw [okS_star ho, okS_star ho2]; rfl) (by rw [okS_star ho2]; rfl)) fun σ H R q => ?_
      obtain ⟨r, env, st, Rr, E, q⟩ := q
      refine ⟨r, env, st, Rr, E, ?_⟩
      simp only [evIx] at q
      cases k1 : evE (g.ctx (clOf X.mg) n) a env st with
      | exc => rw [k1] at q; exact q
      | bad => rw [k1] at q; exact q.elim
      | ok p st1 =>
        rw [k1] at q
        simp only [bind_ok] at q
        intro v H1 r1 A1 R1 hv
        refine ⟨r1, env, st1, R1, E.aft Rr A1, ?_⟩
        cases k2 : evE (g.ctx (clOf X.mg) n) b env st1 with
        | exc => rw [k2] at q; exact PostX.aft q A1
        | bad => rw [k2] at q; exact q.elim
        | ok p2 st2 =>
          rw [k2] at q
          simp only [bind_ok] at q
          intro v2 H2 r2 A2 R2 hv2
          cases hv with
          | int i =>
            cases hv2 with
            | int j =>
              unfold rngV2 at q
              dsimp only at q
              split at q
              · rename_i hz
                obtain ⟨y1, y2⟩ := hz
                have y1 : -(2 ^ 62) ≤ i ∧ i < 2 ^ 62 := y1
                have y2 : -(2 ^ 62) ≤ j ∧ j < 2 ^ 62 := y2
                exact ⟨i, j, rfl, ⟨y1.1, y1.2, y2.1, y2.2⟩, q H2 r2 _ (A1.trans A2) R2 (JOk.rng i (j - i).toNat)⟩
              · exact q.elim
            | _ => exact q.elim
          | _ => cases hv2 <;> exact q.elim
    | [], _, h => cases h
    | [_], [], h => cases h
    | [_], _ :: _, h => cases h
    | [_, _], _ :: _, h => cases h
    | _ :: _ :: _ :: _, [], h => cases h
    | _ :: _ :: _ :: _, _ :: _, h => cases h
  | .rng3 a b c, X, N, sc, so, W, S, iter, h, tg, hT, F => by
    cases iter <;> first | (cases h; done) | skip
    rename_i fe ees kws pos
    cases fe <;> first | (cases h; done) | skip
    rename_i x p
    have hh : ∃ ea eb k q1 q2 q3, ees = [ea, eb, .UnaryOp .USub (.Constant (.int k) q1 q2) q3] ∧ kws = [] := by
      rcases ees with _ | ⟨a1, _ | ⟨b1, _ | ⟨c1, _ | ⟨d1, r1⟩⟩⟩⟩ <;> rcases kws with _ | ⟨k1, ks1⟩ <;> first
        | (cases h; done)
        | (cases c1 <;> first
            | (cases h; done)
            | (rename_i o1 z1 p1
               cases o1 <;> first
                | (cases h; done)
                | (cases z1 <;> first
                    | (cases h; done)
                    | (rename_i c2 _ _
                       cases c2 <;> first
                        | (cases h; done)
                        | exact ⟨_, _, _, _, _, _, rfl, rfl⟩))))
    obtain ⟨ea, eb, k, q1, q2, q3, rfl, rfl⟩ := hh
    have h : (decide (x = ("range" : Str)) && glb sc x && decide (x ∈ g.bs) && okS ea && okS eb && decide (c = -k) && chkE g N sc a ea && chkE g N sc b eb) = true := h
    simp only [Bool.and_eq_true, decide_eq_true_eq] at h
    obtain ⟨⟨⟨⟨⟨⟨⟨rfl, hg⟩, hb⟩, ho⟩, ho2⟩, hc⟩, h1⟩, h2⟩ := h
    obtain ⟨hgl, hd⟩ := S.gl hg
    have ha : PA X [ea, eb, .UnaryOp .USub (.Constant (.int k) q1 q2) q3] (tCons (tI X.K F (sw X.mg W) (evE (g.ctx (clOf X.mg) n) a)) (tCons (tI X.K F (sw X.mg W) (evE (g.ctx (clOf X.mg) n) b)) (tCons (tUn (rU fun i => .int (-i)) (tC (.int k))) tNil))) :=
      pa_cons (snd_E a S h1 F).1 (pa_cons (snd_E b S h2 F).1 (pa_cons (pe_un un_neg pe_int) pa_nil) (okS_star ho2 _ _)) (okS_star ho _ _)
    refine PI.imp (pi_range3 hgl (S.link.bs _ hb) ha (by rw [okS_star ho]) (by rw [okS_star ho2]; rfl)) fun σ H R q => ?_
    obtain ⟨r, env, st, Rr, E, q⟩ := q
    refine ⟨r, env, st, Rr, E, ?_⟩
    simp only [evIx] at q
    cases k1 : evE (g.ctx (clOf X.mg) n) a env st with
    | exc => rw [k1] at q; exact q
    | bad => rw [k1] at q; exact q.elim
    | ok p st1 =>
      rw [k1] at q
      simp only [bind_ok] at q
      intro v H1 r1 A1 R1 hv
      refine ⟨r1, env, st1, R1, E.aft Rr A1, ?_⟩
      cases k2 : evE (g.ctx (clOf X.mg) n) b env st1 with
      | exc => rw [k2] at q; exact PostX.aft q A1
      | bad => rw [k2] at q; exact q.elim
      | ok p2 st2 =>
        rw [k2] at q
        simp only [bind_ok] at q
        intro v2 H2 r2 A2 R2 hv2
        refine ⟨k, rfl, ?_⟩
        cases hv with
        | int i =>
          cases hv2 with
          | int j =>
            unfold rngV3 at q
            dsimp only at q
            split at q
            · rename_i hz
              obtain ⟨z0, y1, y2⟩ := hz
              have y1 : -(2 ^ 60) ≤ i ∧ i < 2 ^ 60 := y1
              have y2 : -(2 ^ 60) ≤ j ∧ j < 2 ^ 60 := y2
              obtain ⟨z1, z2⟩ := y1
              obtain ⟨z3, z4⟩ := y2
              have hk : -k = -1 := by rw [← hc]; exact z0
              rw [z0] at q
              refine ⟨i, j, -1, (i - j).toNat, by show [V.int i, V.int j, V.int (-k)] = _; rw [hk], RgC.neg (by omega) (by omega) (by omega) (by omega), q H2 r2 _ (A1.trans A2) R2 (JOk.rngC i (-1) (i - j).toNat)⟩
            · exact q.elim
          | _ => exact q.elim
        | _ => cases hv2 <;> exact q.elim
  | .zip a b, X, N, sc, so, W, S, iter, h, tg, hT, F => by
    cases iter <;> first | (cases h; done) | skip
    rename_i fe ees kws pos
    cases fe <;> first | (cases h; done) | skip
    rename_i x p
    have hT := hT rfl
    cases tg <;> first | (cases hT; done) | skip
    match ees, kws, h with
    | [ea, eb], [], h =>
      have h : (decide (x = ("zip" : Str)) && glb sc x && decide (x ∈ g.bs) && okS ea && okS eb && chkE g N sc a ea && chkE g N sc b eb) = true := h
      simp only [Bool.and_eq_true, decide_eq_true_eq] at h
      obtain ⟨⟨⟨⟨⟨⟨rfl, hg⟩, hb⟩, ho⟩, ho2⟩, h1⟩, h2⟩ := h
      obtain ⟨hgl, hd⟩ := S.gl hg
      have ha : PA X [ea, eb] (tCons (tI X.K F (sw X.mg W) (evE (g.ctx (clOf X.mg) n) a)) (tCons (tI X.K F (sw X.mg W) (evE (g.ctx (clOf X.mg) n) b)) tNil)) := pa_cons (snd_E a S h1 F).1 (pa_cons (snd_E b S h2 F).1 pa_nil (okS_star ho2 _ _)) (okS_star ho _ _)
      refine PI.imp (RZ.pi_zipA hgl (S.link.bs _ hb) ha (by rw [okS_star ho]) (by rw [okS_star ho2]; rfl)) fun σ H R q => ?_
      obtain ⟨r, env, st, Rr, E, q⟩ := q
      refine ⟨r, env, st, Rr, E, ?_⟩
      simp only [evIx] at q
      cases k1 : evE (g.ctx (clOf X.mg) n) a env st with
      | exc => rw [k1] at q; exact q
      | bad => rw [k1] at q; exact q.elim
      | ok p st1 =>
        rw [k1] at q
        simp only [bind_ok] at q
        intro v H1 r1 A1 R1 hv
        refine ⟨r1, env, st1, R1, E.aft Rr A1, ?_⟩
        cases k2 : evE (g.ctx (clOf X.mg) n) b env st1 with
        | exc => rw [k2] at q; exact PostX.aft q A1
        | bad => rw [k2] at q; exact q.elim
        | ok p2 st2 =>
          rw [k2] at q
          simp only [bind_ok] at q
          intro v2 H2 r2 A2 R2 hv2
          have q := q.aft (A1.trans A2)
          have hv := hv.aft R1 A2
          have gen : ∀ {xs ys : List PV}, seqL st2 p = some xs → seqL st2 p2 = some ys → PostI X.K F (sw X.mg W σ) r2 H2 R (.ok ((xs.zip ys).map fun p => .tup [p.1, p.2], watchOf p xs ++ watchOf p2 ys) st2) →
              ∃ a b xs ys, [v, v2] = [.ref a, .ref b] ∧ ((SqL X.K H2 a xs ∧ SqL X.K H2 b ys ∧ R (Itz X.K a b) H2) ∨ (SqT X.K H2 a xs ∧ SqT X.K H2 b ys ∧ R (RZ.ItzT X.K a b) H2)) := by
            intro xs ys e1 e2 q
            obtain ⟨a1, b1, rfl, rfl, j⟩ := JOk.zipL R2 hv e1 hv2 e2
            obtain ⟨a2, us, z1, s1, _⟩ := hv.seqL R2 e1
            obtain ⟨b2, ws, z2, s2, _⟩ := hv2.seqL R2 e2
            cases z1; cases z2
            exact ⟨a1, b1, us, ws, rfl, .inl ⟨s1, s2, q H2 r2 _ .refl R2 j⟩⟩
          have lists : zipV st2 p p2 = zipL st2 p p2 ∨ ∃ xs ys, p = .tup xs ∧ p2 = .tup ys := by
            cases p <;> cases p2 <;> first | exact .inl rfl | exact .inr ⟨_, _, rfl, rfl⟩
          rcases lists with e | ⟨xs, ys, rfl, rfl⟩
          · rw [e] at q
            unfold zipL at q
            split at q
            · exact gen (by assumption) (by assumption) q
            · exact q.elim
          · cases hv with
            | @tup a1 us _ hs hq =>
              cases hv2 with
              | @tup b1 ws _ hs2 hq2 => exact ⟨a1, b1, us, ws, rfl, .inr ⟨hs, hs2, q H2 r2 _ .refl R2 (JOk.zipT R2 hs hq hs2 hq2)⟩⟩
    | [], _, h => cases h
    | [_], [], h => cases h
    | [_], _ :: _, h => cases h
    | [_, _], _ :: _, h => cases h
    | _ :: _ :: _ :: _, [], h => cases h
    | _ :: _ :: _ :: _, _ :: _, h => cases h
  | .enm a, X, N, sc, so, W, S, iter, h, tg, hT, F => by
    cases iter <;> first | (cases h; done) | skip
    rename_i fe ees kws pos
    cases fe <;> first | (cases h; done) | skip
    rename_i x p
    have hT := hT rfl
    cases tg <;> first | (cases hT; done) | skip
    match ees, kws, h with
    | [ea], [], h =>
      have h : (decide (x = ("enumerate" : Str)) && glb sc x && decide (x ∈ g.bs) && okS ea && chkE g N sc a ea) = true := h
      simp only [Bool.and_eq_true, decide_eq_true_eq] at h
      obtain ⟨⟨⟨⟨rfl, hg⟩, hb⟩, ho⟩, h1⟩ := h
      obtain ⟨hgl, hd⟩ := S.gl hg
      have ha : PA X [ea] (tCons (tI X.K F (sw X.mg W) (evE (g.ctx (clOf X.mg) n) a)) tNil) := pa_cons (snd_E a S h1 F).1 pa_nil (okS_star ho _ _)
      refine PI.imp (pi_enumE hgl (S.link.bs _ hb) ha (okS_star ho _ _)) fun σ H R q => ?_
      obtain ⟨r, env, st, Rr, E, q⟩ := q
      refine ⟨r, env, st, Rr, E, ?_⟩
      simp only [evIx] at q
      cases k1 : evE (g.ctx (clOf X.mg) n) a env st with
      | exc => rw [k1] at q; exact q
      | bad => rw [k1] at q; exact q.elim
      | ok p st1 =>
        rw [k1] at q
        simp only [bind_ok] at q
        intro v H1 r1 A1 R1 hv
        cases hv with
        | @tup a1 us ps h1 q1 => exact ⟨a1, us, rfl, .inr ⟨h1, q H1 r1 _ A1 R1 (JOk.enmT R1 h1 q1)⟩⟩
        | @lsv a1 us ps h1 q1 =>
          obtain ⟨a2, z2, j⟩ := JOk.enm (xs := ps) R1 (.lsv h1 q1) rfl
          cases z2
          exact ⟨a1, us, rfl, .inl ⟨h1.seq, q H1 r1 _ A1 R1 j⟩⟩
        | @loc a1 i h1 =>
          have q : PostI X.K F (sw X.mg W σ) r H R (match st1[i]? with
            | some xs => .ok (xs.zipIdx.map fun p => .tup [.int (p.2 : Nat), p.1], watchOf (.loc i) xs) st1
            | none => .bad) := q
          cases e1 : st1[i]? with
          | none => rw [e1] at q; exact q.elim
          | some xs =>
            rw [e1] at q
            obtain ⟨a2, z2, j⟩ := JOk.enm R1 (.loc h1) e1
            obtain ⟨a3, us, z1, s1, _⟩ := (Rep.loc h1).seqL R1 e1
            cases z1
            cases z2
            exact ⟨a1, us, rfl, .inl ⟨s1, q H1 r1 _ A1 R1 j⟩⟩
        | _ => exact q.elim
    | [], _, h => cases h
    | [_], _ :: _, h => cases h
    | _ :: _ :: _, [], h => cases h
    | _ :: _ :: _, _ :: _, h => cases h
end
end
end L2.Iv
namespace L2.Iv
open PySem PySem.Spec PyProof.Rows
def swNames (sc : Scope) (ts : List Expr) : List Str := ts.filterMap fun
  | .Name id pos => if sc.names.lookup id == some .local && pos.line == (ts.head?.map (·.pos.line)).getD 0 then some id else none
  | _ => none
def isStar : Expr → Bool
  | .Starred .. => true
  | _ => false
def swB (sc : Scope) (ts vs : List Expr) : Nat :=
  if !(ts.length == 2 || ts.length == 3) || vs.length != ts.length then 0
  else if vs.any isStar then 0
  else if (swNames sc ts).length != ts.length || (swNames sc ts).eraseDups.length != (swNames sc ts).length then 0
  else if vs.all (foldedForSure 8) then 0
  else if vs.all (constantsAlone 8) then 2
  else 1
theorem sw_form (env : PySem.Env) (ts vs : List Expr) (k k2 : Nat) (p p2 : Pos) : swappedStores [.Tuple ts k p] (.Tuple vs k2 p2) env =
    (if (!(ts.length == 2 || ts.length == 3) || vs.length != ts.length || env.blockKind != .function) = true then pure none
     else if (vs.any isStar) = true then pure none
     else if ((swNames env.scope ts).length != ts.length || (swNames env.scope ts).eraseDups.length != (swNames env.scope ts).length) = true then pure none
     else if vs.all (foldedForSure 8) = true then pure none
     else if vs.all (constantsAlone 8) = true then (do unsupported "assign.tuple-of-constant-expressions:order-of-the-stores"; pure (some (swNames env.scope ts)))
     else pure (some (swNames env.scope ts))) := by
  unfold swappedStores
  rfl
theorem sw_gen {sc : Scope} {env : PySem.Env} (hs : env.scope = sc) (hk : sc.kind = .function) (ts vs : List Expr) (k k2 : Nat) (p p2 : Pos) :
    (swB sc ts vs = 0 → swappedStores [.Tuple ts k p] (.Tuple vs k2 p2) env = pure none) ∧ (swB sc ts vs = 1 → swappedStores [.Tuple ts k p] (.Tuple vs k2 p2) env = pure (some (swNames sc ts))) := by
  have hb : (env.blockKind != .function) = false := by unfold Env.blockKind; rw [hs, hk]; rfl
  rw [sw_form, hb, Bool.or_false, hs]
  unfold swB
  by_cases c1 : (!(ts.length == 2 || ts.length == 3) || vs.length != ts.length) = true
  · rw [if_pos c1, if_pos c1]
    exact ⟨fun _ => rfl, fun z => by cases z⟩
  rw [if_neg c1, if_neg c1]
  by_cases c2 : (vs.any isStar) = true
  · rw [if_pos c2, if_pos c2]
    exact ⟨fun _ => rfl, fun z => by cases z⟩
  rw [if_neg c2, if_neg c2]
  by_cases c3 : ((swNames sc ts).length != ts.length || (swNames sc ts).eraseDups.length != (swNames sc ts).length) = true
  · rw [if_pos c3, if_pos c3]
    exact ⟨fun _ => rfl, fun z => by cases z⟩
  rw [if_neg c3, if_neg c3]
  by_cases c4 : vs.all (foldedForSure 8) = true
  · rw [if_pos c4, if_pos c4]
    exact ⟨fun _ => rfl, fun z => by cases z⟩
  rw [if_neg c4, if_neg c4]
  by_cases c5 : vs.all (constantsAlone 8) = true
  · rw [if_pos c5, if_pos c5]
    exact ⟨(fun z => by cases z), fun z => by cases z⟩
  rw [if_neg c5, if_neg c5]
  exact ⟨(fun z => by cases z), fun _ => rfl⟩
theorem sw_other {ts : List Expr} {k : Nat} {p : Pos} {e : Expr} (env : PySem.Env) (h : isTgT e = false) : swappedStores [.Tuple ts k p] e env = pure none := by
  cases e <;> first | rfl | cases h
theorem sw_sub {o i : Expr} {p : Pos} (e : Expr) (env : PySem.Env) : swappedStores [.Subscript o i p] e env = pure none := by
  cases e <;> rfl
def swLC (sc scope : Scope) (y : Str) (py pos : Pos) : Bool := (sc.names.lookup y == some .local) && (py.line == pos.line) && !(scope.names.any fun (n, k) => n == y && (k == .local || k == .cell))
theorem sw_lc {sc : Scope} {env : PySem.Env} (hs : env.scope = sc) (hk : sc.kind = .function) {elt : Expr} {gs : List Comprehension} {scope : Scope} {y : Str} {py pos : Pos} (l : Nat) :
    swapsWith (.ListComp elt gs scope pos) (some (.Name y py)) l env = pure (swLC sc scope y py pos) := by
  have hb : env.blockKind = .function := by unfold Env.blockKind; rw [hs, hk]; rfl
  have e : swapsWith (.ListComp elt gs scope pos) (some (.Name y py)) l env = pure (env.blockKind == .function && env.kindOf y == some .local && py.line == pos.line && !(scope.names.any fun (n, k) => n == y && (k == .local || k == .cell))) := rfl
  rw [e, hb]
  unfold swLC Env.kindOf
  rw [hs]
  rfl
theorem lk_local {o : Option NameKind} (h : (o == some .local) = true) : o = some .local := by
  cases o with
  | none => cases h
  | some k => cases k <;> first | rfl | cases h
def isLoc (sc : Scope) (x : Str) : Bool := sc.names.lookup x == some .local
def parOk (sc : Scope) : Pt → List Expr → Bool
  | .t2 (.n i) (.n j), [.Name x px, .Name y py] => decide (i ≠ j) && isLoc sc x && isLoc sc y && decide (swNames sc [.Name x px, .Name y py] = [x, y])
  | .t3 (.n i) (.n j) (.n l), [.Name x px, .Name y py, .Name z pz] => decide (i ≠ j) && decide (i ≠ l) && decide (j ≠ l) && isLoc sc x && isLoc sc y && isLoc sc z && decide (swNames sc [.Name x px, .Name y py, .Name z pz] = [x, y, z])
  | _, _ => false
def tupOk (sc : Scope) (p : Pt) (ts : List Expr) : Expr → Bool
  | .Tuple vs _ _ => decide (swB sc ts vs = 0) || (decide (swB sc ts vs = 1) && parOk sc p ts)
  | _ => true
def hotA (g : Sg) (N : List Str) (sc so : Scope) : Sx → Stmt → Bool
  | .asg (.p (.t2 (.n i) (.n j))) (.tup es), .Assign [.Tuple [.Name x px, .Name y py] _ _] (.Tuple [a, b] _ _) _ =>
    decide (N[i]? = some x) && loc so x && (decide (N[j]? = some y) && loc so y) && chkEs g N sc es [a, b] && decide (swB sc [.Name x px, .Name y py] [a, b] = 1) && parOk sc (.t2 (.n i) (.n j)) [.Name x px, .Name y py]
  | _, _ => false
mutual
def chkS (g : Sg) (N : List Str) (sc so : Scope) : Sx → Stmt → Bool
  | .expr e, .Expr ee _ => !isLC ee && chkE g N sc e ee
  | .asg (.p (.n i)) e, .Assign [.Name x px] ee pos => (!g.hot || !isLC ee) && chkP N so (.n i) (.Name x px) && chkE g N sc e ee
  | .asg (.p p) e, .Assign [.Tuple ts k pt] ee pos => !g.hot && (chkP N so p (.Tuple ts k pt) && !isLC ee && chkE g N sc e ee && tupOk sc p ts ee)
  | .asg (.sub o i) e, .Assign [.Subscript eo ei _] ee _ => okS ei && !isLC ee && chkE g N sc o eo && chkE g N sc i ei && chkE g N sc e ee
  | .aug i o e, .AugAssign (.Name x px) op ee _ => decide (op = opB o) && chkP N so (.n i) (.Name x px) && chkE g N sc e ee
  | .augS o i op e, .AugAssign (.Subscript eo ei _) eop ee _ => decide (eop = opB op) && okS ei && chkE g N sc o eo && chkE g N sc i ei && chkE g N sc e ee
  | .iff c a b, .If ec as bs _ => chkE g N sc c ec && chkSs g N sc so a as && chkSs g N sc so b bs
  | .fr p it b, .For tg iter bs [] _ => !g.hot && (chkI g N sc it iter && okS iter && (!needsT it || isTgT tg) && chkP N so p tg && chkSs g N sc so b bs)
  | .wh c b, .While ec bs [] _ => !g.hot && (chkE g N sc c ec && chkSs g N sc so b bs)
  | .ret e, .Return (some ee) _ => chkE g N sc e ee
  | .retn, .Return none _ => true
  | .brk, .Break _ => true
  | .cont, .Continue _ => true
  | .pass, .Pass _ => true
  | .nev, _ => true
  | .rs c e, .Raise (some (.Call (.Name x _) [ee] [] _)) none _ => !g.hot && (decide (x = c) && glb sc x && (g.ecs.lookup c).isSome && chkE g N sc e ee)
  | .tr b hs, .Try body hds [] [] _ => !g.hot && (chkSs g N sc so b body && !hds.isEmpty && chkH g N sc so hs hds)
  | _, _ => false
def chkSs (g : Sg) (N : List Str) (sc so : Scope) : Sxs → List Stmt → Bool
  | .nil, [] => true
  | .cons s r, st :: sts => chkS g N sc so s st && chkSs g N sc so r sts
  | _, _ => false
def chkH (g : Sg) (N : List Str) (sc so : Scope) : Hds → List ExceptHandler → Bool
  | .nil, [] => true
  | .cons c none (.cons s q) r, .ExceptHandler (some (.Name x _)) none (b0 :: bs) _ :: hds => decide (x = c) && glb sc x && excOk g c && ((chkS g.heat N sc so s b0 || hotA g.heat N sc so s b0) && chkSs g.heat N sc so q bs) && chkH g N sc so r hds
  | .cons c (some i) (.cons s q) r, .ExceptHandler (some (.Name x _)) (some n) (b0 :: bs) _ :: hds => decide (x = c) && glb sc x && excOk g c && decide (N[i]? = some n) && isLoc sc n && ((chkS g.heat N sc so s b0 || hotA g.heat N sc so s b0) && chkSs g.heat N sc so q bs) && chkH g N sc so r hds
  | _, _ => false
end
section
variable {K : PySem.W.Frag} {Y : SW} {F : List Addr} {H H' : Hp} {r r' : List Addr} {st : Store} {env : Env} {σ : St} {D : Ends}
theorem tIS.eq {o o' : Env → Store → Out Fl} (h : tIS K F Y o D σ H) (e : ∀ env st, o env st = o' env st) : tIS K F Y o' D σ H := by
  obtain ⟨r, env, st, R, E, h⟩ := h
  exact ⟨r, env, st, R, E, by rw [← e]; exact h⟩
theorem loop_step {w : Watch} {f : PV → Env → Store → Out Fl} {x : PV} {xs : List PV} {o : Out Fl} (h : loopF w f (x :: xs) env st = o) (hb : o ≠ .bad) (hx : ∀ c v s2, o ≠ .exc c v s2) : watchOk w st ∧ ∃ fl st1, f x env st = .ok fl st1 ∧ match fl with
    | .nx e => loopF w f xs e st1 = o
    | .ct e => loopF w f xs e st1 = o
    | .bk e => .ok (.nx e) st1 = o
    | .rt v => .ok (.rt v) st1 = o
    | .rz c v e => .ok (.rz c v e) st1 = o := by
  unfold loopF at h
  split at h
  · rename_i hw
    cases e : f x env st with
    | bad => rw [e] at h; exact absurd h.symm hb
    | exc c v s2 => rw [e] at h; exact absurd h.symm (hx c v s2)
    | ok fl st1 =>
      rw [e] at h
      refine ⟨hw, fl, st1, rfl, ?_⟩
      cases fl <;> exact h
  · exact absurd h.symm hb
theorem PostS.good {o : Out Fl} (h : PostS K F Y r H D o) : o ≠ .bad ∧ ∀ c v s2, o ≠ .exc c v s2 := by
  refine ⟨?_, ?_⟩
  · rintro rfl; exact h
  · rintro c v s2 rfl; exact h
theorem for_read {C : Ctx} {p : Pt} {it : Ix} {b : Sxs} (h : tIS K F Y (evS C (.fr p it b)) D σ H) : tFor (iI K F Y (evIx C it)) (gI K F p) (tIS K F Y (evSs C b)) D σ H := by
  obtain ⟨r, env, st, R, E, h⟩ := h
  simp only [evS] at h
  refine ⟨r, env, st, R, E, ?_⟩
  cases hi : evIx C it env st with
  | exc => rw [hi] at h; exact fun v H1 r1 A1 R1 hv => h σ v H1 r1 A1 R1 (E.aft R A1) hv
  | bad => rw [hi] at h; exact h.elim
  | ok xw st1 =>
    rw [hi] at h
    simp only [bind_ok, lift_ok] at h
    intro H1 r1 J A1 R1 j
    have h := h.aft A1
    generalize hf : (fun x env st => match asgP p x env with
      | some env1 => evSs C b env1 st
      | none => Out.bad) = f at h
    obtain ⟨hb, hx⟩ := h.good
    generalize hO : loopF xw.2 f xw.1 env st1 = O at h hb hx
    refine ⟨fun i m σ' H' => i ≤ xw.1.length ∧ m = xw.1.length - i ∧ ∃ r2 env2 st2, Aft r1 H1 r2 H' ∧ Rel K F H' r2 st2 ∧ EnvRel K F H' r2 env2 σ' ∧ loopF xw.2 f (xw.1.drop i) env2 st2 = O,
      ⟨_, Nat.zero_le _, rfl, r1, env, st1, .refl, R1, E.aft R A1, by rw [List.drop_zero]; exact hO⟩, ?_⟩
    rintro i m σ' H' ⟨hi2, rfl, r2, env2, st2, A2, R2, E2, hl⟩
    by_cases hlt : i < xw.1.length
    · right
      obtain ⟨x, hx2, hd⟩ := drop_get hlt
      rw [hd] at hl
      obtain ⟨hw, fl, st3, hfl, hO2⟩ := loop_step hl hb hx
      obtain ⟨go, yl⟩ := (j F i H' r2 st2 (fun b hb => .inl hb) A2.toF R2 hw).1 x hx2
      refine ⟨go, fun σ' H' => i + 1 ≤ xw.1.length ∧ ∃ r2 env2 st2, Aft r1 H1 r2 H' ∧ Rel K F H' r2 st2 ∧ EnvRel K F H' r2 env2 σ' ∧ loopF xw.2 f (xw.1.drop (i + 1)) env2 st2 = O, fun σ2 H2 hN => ⟨xw.1.length - (i + 1), by omega, hN.1, rfl, hN.2⟩, fun v H3 hy => ?_⟩
      obtain ⟨A3, R3, hv⟩ := yl v H3 hy
      have E3 := E2.aft R2 A3
      rw [← hf] at hfl
      dsimp only at hfl
      split at hfl
      · rename_i env1 he1
        refine ⟨r2, st2, env2, x, env1, R3, E3, hv, he1, fun σ4 E4 _ => ⟨r2, env1, st2, R3, E4, ?_⟩⟩
        rw [hfl]
        cases fl with
        | nx e => exact fun σ5 H5 r5 A5 R5 E5 => ⟨hlt, r5, e, st3, (A2.trans A3).trans A5, R5, E5, hO2⟩
        | ct e => exact fun σ5 H5 r5 A5 R5 E5 => ⟨hlt, r5, e, st3, (A2.trans A3).trans A5, R5, E5, hO2⟩
        | bk e =>
          rw [← hO2] at h
          exact fun σ5 H5 r5 A5 R5 E5 => h σ5 H5 r5 ((A2.trans A3).trans A5) R5 E5
        | rt v =>
          rw [← hO2] at h
          exact fun v5 H5 r5 A5 R5 E5 => h v5 H5 r5 ((A2.trans A3).trans A5) R5 E5
        | rz c v e =>
          rw [← hO2] at h
          exact fun σ5 v5 H5 r5 A5 R5 E5 hv5 => h σ5 v5 H5 r5 ((A2.trans A3).trans A5) R5 E5 hv5
      · cases hfl
    · left
      have hi3 : i = xw.1.length := by omega
      subst hi3
      rw [List.drop_length] at hl
      unfold loopF at hl
      split at hl
      · rename_i hw
        refine ⟨(j F _ H' r2 st2 (fun b hb => .inl hb) A2.toF R2 hw).2 (Nat.le_refl _), ?_⟩
        rw [← hl] at h
        exact h σ' H' r2 A2 R2 E2
      · exact absurd hl.symm hb
theorem while_read {C : Ctx} {c : Ex} {b : Sxs} (h : tIS K F Y (evS C (.wh c b)) D σ H) : tWhile (tIT K F Y (evC C c)) (tIS K F Y (evSs C b)) D σ H := by
  obtain ⟨r, env, st, R, E, h⟩ := h
  simp only [evS] at h
  obtain ⟨hb, hx⟩ := h.good
  generalize hO : whN (evC C c) (evSs C b) wfuel env st = O at h hb hx
  refine ⟨fun m σ' H' => ∃ r2 env2 st2, Aft r H r2 H' ∧ Rel K F H' r2 st2 ∧ EnvRel K F H' r2 env2 σ' ∧ whN (evC C c) (evSs C b) m env2 st2 = O, ⟨wfuel, r, env, st, .refl, R, E, hO⟩, ?_⟩
  rintro m σ' H' ⟨r2, env2, st2, A2, R2, E2, hl⟩
  cases m with
  | zero => exact absurd hl.symm hb
  | succ m =>
    simp only [whN] at hl
    refine ⟨r2, env2, st2, R2, E2, ?_⟩
    cases k1 : evC C c env2 st2 with
    | bad => rw [k1] at hl; exact absurd hl.symm hb
    | exc a v s2 =>
      rw [k1] at hl
      simp only [lift_exc] at hl
      rw [← hl] at h
      exact fun v H3 r3 A3 R3 hv => h σ' v H3 r3 (A2.trans A3) R3 (E2.aft R2 A3) hv
    | ok t st3 =>
      rw [k1] at hl
      simp only [bind_ok, lift_ok] at hl
      intro H3 r3 A3 R3
      cases t with
      | false =>
        rw [if_neg Bool.false_ne_true] at hl ⊢
        rw [← hl] at h
        exact h σ' H3 r3 (A2.trans A3) R3 (E2.aft R2 A3)
      | true =>
        rw [if_pos rfl] at hl ⊢
        refine ⟨fun σ' H' => ∃ r2 env2 st2, Aft r H r2 H' ∧ Rel K F H' r2 st2 ∧ EnvRel K F H' r2 env2 σ' ∧ whN (evC C c) (evSs C b) m env2 st2 = O, fun σ4 H4 q => ⟨m, Nat.lt_succ_self m, q⟩, r3, env2, st3, R3, E2.aft R2 A3, ?_⟩
        cases k2 : evSs C b env2 st3 with
        | bad => rw [k2] at hl; exact absurd hl.symm hb
        | exc a v s2 => rw [k2] at hl; exact absurd hl.symm (hx a v s2)
        | ok fl st4 =>
          rw [k2] at hl
          simp only [bind_ok, lift_ok] at hl
          cases fl with
          | nx e => exact fun σ5 H5 r5 A5 R5 E5 => ⟨r5, e, st4, (A2.trans A3).trans A5, R5, E5, hl⟩
          | ct e => exact fun σ5 H5 r5 A5 R5 E5 => ⟨r5, e, st4, (A2.trans A3).trans A5, R5, E5, hl⟩
          | bk e =>
            dsimp only at hl
            rw [← hl] at h
            exact fun σ5 H5 r5 A5 R5 E5 => h σ5 H5 r5 ((A2.trans A3).trans A5) R5 E5
          | rt v =>
            dsimp only at hl
            rw [← hl] at h
            exact fun v5 H5 r5 A5 R5 E5 => h v5 H5 r5 ((A2.trans A3).trans A5) R5 E5
          | rz c v e =>
            dsimp only at hl
            rw [← hl] at h
            exact fun σ5 v5 H5 r5 A5 R5 E5 hv5 => h σ5 v5 H5 r5 ((A2.trans A3).trans A5) R5 E5 hv5
theorem if_read {C : Ctx} {c : Ex} {a b : Sxs} (h : tIS K F Y (evS C (.iff c a b)) D σ H) : tIfS (tIT K F Y (evC C c)) (tIS K F Y (evSs C a)) (tIS K F Y (evSs C b)) D σ H := by
  obtain ⟨r, env, st, R, E, h⟩ := h
  simp only [evS] at h
  refine ⟨r, env, st, R, E, ?_⟩
  cases k1 : evC C c env st with
  | bad => rw [k1] at h; exact h.elim
  | exc => rw [k1] at h; exact fun v H1 r1 A1 R1 hv => h σ v H1 r1 A1 R1 (E.aft R A1) hv
  | ok t st1 =>
    rw [k1] at h
    simp only [bind_ok, lift_ok] at h
    intro H1 r1 A1 R1
    have h := h.aft A1
    cases t with
    | true => exact ⟨r1, env, st1, R1, E.aft R A1, h⟩
    | false => exact ⟨r1, env, st1, R1, E.aft R A1, h⟩
theorem seq_read {C : Ctx} {s : Sx} {rs : Sxs} (h : tIS K F Y (evSs C (.cons s rs)) D σ H) : tSeq (tIS K F Y (evS C s)) (tIS K F Y (evSs C rs)) D σ H := by
  obtain ⟨r, env, st, R, E, h⟩ := h
  simp only [evSs] at h
  refine ⟨r, env, st, R, E, ?_⟩
  cases k1 : evS C s env st with
  | bad => rw [k1] at h; exact h.elim
  | exc => rw [k1] at h; exact h.elim
  | ok fl st1 =>
    rw [k1] at h
    simp only [bind_ok, lift_ok] at h
    cases fl with
    | nx e => exact fun σ1 H1 r1 A1 R1 E1 => ⟨r1, e, st1, R1, E1, h.aft A1⟩
    | bk e => exact h
    | ct e => exact h
    | rt v => exact h
    | rz c v e => exact h
theorem asg_read {C : Ctx} {p : Pt} {e : Ex} (h : tIS K F Y (evS C (.asg (.p p) e)) D σ H) : tI K F Y (evE C e) σ H fun v H1 => gI K F p v σ H1 D.nx := by
  obtain ⟨r, env, st, R, E, h⟩ := h
  simp only [evS] at h
  refine ⟨r, env, st, R, E, ?_⟩
  cases k1 : evE C e env st with
  | bad => rw [k1] at h; exact h.elim
  | exc => rw [k1] at h; exact fun v H1 r1 A1 R1 hv => h σ v H1 r1 A1 R1 (E.aft R A1) hv
  | ok x st1 =>
    rw [k1] at h
    simp only [bind_ok, lift_ok] at h
    intro v H1 r1 A1 R1 hv
    have h := h.aft A1
    split at h
    · rename_i env1 he
      exact ⟨r1, st1, env, x, env1, R1, E.aft R A1, hv, he, fun σ' E' _ => h σ' H1 r1 .refl R1 E'⟩
    · exact h.elim
theorem gI_name {i : Nat} {v : V} {Q : St → Hp → Prop} (h : gI K F (.n i) v σ H Q) : gName i v σ H Q := by
  obtain ⟨r, st, env, q, env', R, E, hv, e1, h⟩ := h
  cases e1
  exact h _ (E.set i hv) fun vs hvs => wipe_set_in σ _ vs i (hvs i (by simp [Pt.slots]))
end
end L2.Iv
namespace L2.Iv
open PySem PySem.Spec PyProof.Rows
section
variable {g : Sg} {N : List Str} {sc so : Scope} {s : Stmt}
theorem chkS_asg {p : Pt} {e : Ex} (h : chkS g N sc so (.asg (.p p) e) s = true) :
    (∃ i x px ee pos, p = .n i ∧ s = .Assign [.Name x px] ee pos ∧ ((!g.hot || !isLC ee) && chkP N so (.n i) (.Name x px) && chkE g N sc e ee) = true) ∨
    ∃ ts k pt ee pos, s = .Assign [.Tuple ts k pt] ee pos ∧ (!g.hot && (chkP N so p (.Tuple ts k pt) && !isLC ee && chkE g N sc e ee && tupOk sc p ts ee)) = true := by
  unfold chkS at h
  split at h <;> first | (cases h; done) | (rename_i z; cases z; done) | skip
  · rename_i z
    cases z
    exact .inl ⟨_, _, _, _, _, rfl, rfl, h⟩
  · rename_i z
    cases z
    exact .inr ⟨_, _, _, _, _, rfl, h⟩
theorem chkS_expr {e : Ex} (h : chkS g N sc so (.expr e) s = true) : ∃ ee pos, s = .Expr ee pos ∧ (!isLC ee && chkE g N sc e ee) = true := by
  unfold chkS at h
  split at h <;> first | (cases h; done) | (rename_i z; cases z; done) | skip
  rename_i z
  cases z
  exact ⟨_, _, rfl, h⟩
theorem chkS_sub {o i e : Ex} (h : chkS g N sc so (.asg (.sub o i) e) s = true) : ∃ eo ei tp ee pos, s = .Assign [.Subscript eo ei tp] ee pos ∧ (okS ei && !isLC ee && chkE g N sc o eo && chkE g N sc i ei && chkE g N sc e ee) = true := by
  unfold chkS at h
  split at h <;> first | (cases h; done) | (rename_i z; cases z; done) | skip
  rename_i z
  cases z
  exact ⟨_, _, _, _, _, rfl, h⟩
theorem chkS_aug {i : Nat} {o : Bop} {e : Ex} (h : chkS g N sc so (.aug i o e) s = true) : ∃ x px op ee pos, s = .AugAssign (.Name x px) op ee pos ∧ (decide (op = opB o) && chkP N so (.n i) (.Name x px) && chkE g N sc e ee) = true := by
  unfold chkS at h
  split at h <;> first | (cases h; done) | (rename_i z; cases z; done) | skip
  rename_i z
  cases z
  exact ⟨_, _, _, _, _, rfl, h⟩
theorem chkS_augS {a i e : Ex} {o : Bop} (h : chkS g N sc so (.augS a i o e) s = true) : ∃ eo ei tp op ee pos, s = .AugAssign (.Subscript eo ei tp) op ee pos ∧ (decide (op = opB o) && okS ei && chkE g N sc a eo && chkE g N sc i ei && chkE g N sc e ee) = true := by
  unfold chkS at h
  split at h <;> first | (cases h; done) | (rename_i z; cases z; done) | skip
  rename_i z
  cases z
  exact ⟨_, _, _, _, _, _, rfl, h⟩
theorem chkS_iff {c : Ex} {a b : Sxs} (h : chkS g N sc so (.iff c a b) s = true) : ∃ ec as bs pos, s = .If ec as bs pos ∧ (chkE g N sc c ec && chkSs g N sc so a as && chkSs g N sc so b bs) = true := by
  unfold chkS at h
  split at h <;> first | (cases h; done) | (rename_i z; cases z; done) | skip
  rename_i z
  cases z
  exact ⟨_, _, _, _, rfl, h⟩
theorem chkS_fr {p : Pt} {it : Ix} {b : Sxs} (h : chkS g N sc so (.fr p it b) s = true) : ∃ tg iter bs pos, s = .For tg iter bs [] pos ∧ (!g.hot && (chkI g N sc it iter && okS iter && (!needsT it || isTgT tg) && chkP N so p tg && chkSs g N sc so b bs)) = true := by
  unfold chkS at h
  split at h <;> first | (cases h; done) | (rename_i z; cases z; done) | skip
  rename_i z
  cases z
  exact ⟨_, _, _, _, rfl, h⟩
theorem chkS_wh {c : Ex} {b : Sxs} (h : chkS g N sc so (.wh c b) s = true) : ∃ ec bs pos, s = .While ec bs [] pos ∧ (!g.hot && (chkE g N sc c ec && chkSs g N sc so b bs)) = true := by
  unfold chkS at h
  split at h <;> first | (cases h; done) | (rename_i z; cases z; done) | skip
  rename_i z
  cases z
  exact ⟨_, _, _, rfl, h⟩
theorem chkS_ret {e : Ex} (h : chkS g N sc so (.ret e) s = true) : ∃ ee pos, s = .Return (some ee) pos ∧ chkE g N sc e ee = true := by
  unfold chkS at h
  split at h <;> first | (cases h; done) | (rename_i z; cases z; done) | skip
  rename_i z
  cases z
  exact ⟨_, _, rfl, h⟩
theorem chkS_retn  (h : chkS g N sc so (.retn) s = true) : ∃ pos, s = .Return none pos := by
  unfold chkS at h
  split at h <;> first | (cases h; done) | (rename_i z; cases z; done) | skip
  rename_i z
  cases z
  exact ⟨_, rfl⟩
theorem chkS_brk  (h : chkS g N sc so (.brk) s = true) : ∃ pos, s = .Break pos := by
  unfold chkS at h
  split at h <;> first | (cases h; done) | (rename_i z; cases z; done) | skip
  rename_i z
  cases z
  exact ⟨_, rfl⟩
theorem chkS_cont  (h : chkS g N sc so (.cont) s = true) : ∃ pos, s = .Continue pos := by
  unfold chkS at h
  split at h <;> first | (cases h; done) | (rename_i z; cases z; done) | skip
  rename_i z
  cases z
  exact ⟨_, rfl⟩
theorem chkS_pass  (h : chkS g N sc so (.pass) s = true) : ∃ pos, s = .Pass pos := by
  unfold chkS at h
  split at h <;> first | (cases h; done) | (rename_i z; cases z; done) | skip
  rename_i z
  cases z
  exact ⟨_, rfl⟩
theorem chkS_rs {c : Str} {e : Ex} (h : chkS g N sc so (.rs c e) s = true) : ∃ x px ee p2 p3, s = .Raise (some (.Call (.Name x px) [ee] [] p2)) none p3 ∧ (!g.hot && (decide (x = c) && glb sc x && (g.ecs.lookup c).isSome && chkE g N sc e ee)) = true := by
  unfold chkS at h
  split at h <;> first | (cases h; done) | (rename_i z; cases z; done) | skip
  rename_i z
  cases z
  exact ⟨_, _, _, _, _, rfl, h⟩
theorem chkS_tr {b : Sxs} {hs : Hds} (h : chkS g N sc so (.tr b hs) s = true) : ∃ body hds pos, s = .Try body hds [] [] pos ∧ (!g.hot && (chkSs g N sc so b body && !hds.isEmpty && chkH g N sc so hs hds)) = true := by
  unfold chkS at h
  split at h <;> first | (cases h; done) | (rename_i z; cases z; done) | skip
  rename_i z
  cases z
  exact ⟨_, _, _, rfl, h⟩
end
end L2.Iv
namespace L2.Iv
open PySem PySem.Spec PyProof.Rows
section
variable {X : Cx} {g : Sg} {n : Nat} {N : List Str} {sc so : Scope} {F : List Addr}
def rAug (K : PySem.W.Frag) (F : List Addr) (o : Bop) : TIp := fun x y H Q => ∃ r st p q z, Rel K F H r st ∧ Rep K F H r x p ∧ Rep K F H r y q ∧ augV o p q = some z ∧ ∀ v, Rep K F H r v z → Q v H
theorem ip_aug (o : Bop) : PIp X (opB o) (rAug X.K F o) := by
  intro pins s σ H x y v u Q I rx ry h
  obtain ⟨r, st, p, q, z, R, hp, hq, e, k⟩ := h
  cases hp <;> cases hq <;> first | (cases e; done) | skip
  · cases o <;> first | (cases e; done) | skip
    · cases e
      exact iop_add pins s σ H _ _ v u Q I rx ry ⟨_, _, rfl, rfl, k _ (.int _)⟩
    · cases e
      exact iop_sub pins s σ H _ _ v u Q I rx ry ⟨_, _, rfl, rfl, k _ (.int _)⟩
  · cases o <;> first | (cases e; done) | skip
    rename_i a b
    simp only [augV] at e
    split at e
    · cases e
      exact iop_add_str pins s σ H _ _ v u Q I rx ry ⟨_, _, rfl, rfl, by assumption, k _ (.str _)⟩
    · cases e
def rLoc (K : PySem.W.Frag) (F : List Addr) : V → V → Hp → VK → Prop := fun x y H Q => ∃ r st p q z, Rel K F H r st ∧ Rep K F H r x p ∧ Rep K F H r y q ∧ locV st p q = some z ∧ ∀ v, Rep K F H r v z → Q v H
theorem get_loc : PGet X (rLoc X.K F) := by
  intro pins s σ H x y v u Q I rx ry h
  obtain ⟨r, st, p, q, z, R, hp, hq, e, k⟩ := h
  cases hp <;> cases hq <;> first | (cases e; done) | skip
  rename_i a l hl i
  simp only [locV] at e
  split at e
  · rename_i xs hx
    obtain ⟨ys, vs, e1, e2, e3⟩ := R.cell hl
    rw [hx] at e1; cases e1
    cases rx
    obtain ⟨t, rfl⟩ := ry
    obtain ⟨its, rr, pl, hz⟩ := I.list (SqL.of e2)
    obtain ⟨j, h1, h2, h3, h4, h5⟩ := atI_get e
    obtain ⟨w, ew, rw'⟩ := e3.get2 h2
    obtain ⟨w2, ew2, rw2⟩ := rr.get ew
    have hl1 := rr.length
    have hl2 := e3.length
    have hn := line63
    have fin : EP X pins σ Q w2 s := ⟨w, H, I, rw2, k w rw'⟩
    by_cases h0 : 0 ≤ i
    · have hj : i.toNat = j := by
        rw [seqIndex_of h0 h5] at h1
        exact Option.some.inj h1
      exact wpAny_getItem_list pl.isList h0 (by omega) (by rw [hj]; simpa using ew2) fin
    · have hj : (i + (its.toArray.size : Int)).toNat = j := by
        rw [seqIndex_neg (by omega) h4] at h1
        rw [List.size_toArray, ← hl1, hl2]
        exact Option.some.inj h1
      exact wpAny_getItem_list_neg pl.isList (by omega) (by rw [List.size_toArray] <;> omega) (by omega) (by rw [hj]; simpa using ew2) fin
  · cases e
def rSto (K : PySem.W.Frag) (F : List Addr) : TSet := fun o i v H Q => ∃ r st p q z st2, Rel K F H r st ∧ Rep K F H r o p ∧ Rep K F H r i q ∧ Rep K F H r v z ∧ setV st p q z = some st2 ∧ ∀ H2, Aft r H r H2 → Rel K F H2 r st2 → Q H2
theorem sto_loc : PSet X (rSto X.K F) := by
  intro pins s σ H o i v ov iv u Q I ro ri rv h
  obtain ⟨r, st, p, q, z, st2, R, hp, hq, hz, e, k⟩ := h
  cases hp <;> cases hq <;> first | (cases e; done) | skip
  rename_i a l hl i
  simp only [setV] at e
  split at e
  · rename_i xs hx
    obtain ⟨ys, vs, e1, e2, e3⟩ := R.cell hl
    rw [hx] at e1; cases e1
    cases hj : ixN xs.length i with
    | none => rw [hj] at e; cases e
    | some j =>
      rw [hj] at e
      cases e
      refine set_list pins s σ H _ _ v ov iv u Q I ro ri rv ⟨a, vs, i, j, rfl, rfl, e2, by rw [e3.length]; exact hj, ?_⟩
      exact k _ (Aft.write (List.mem_of_getElem? hl)) (R.write hl (e3.set hz j))
  · cases e
end
section
variable {X : Cx} {g : Sg} {n : Nat} {N : List Str} {sc so : Scope} {W : WX} {Y : SW} {F : List Addr}
theorem Std.nN (S : Std X g n N sc so W) : X.N.Nodup := by rw [S.eN]; exact S.nd
theorem Std.at (S : Std X g n N sc so W) {i : Nat} {x : Str} (h : chkP N so (.n i) (.Name x ⟨0, 0, 0, 0⟩) = true) : X.N[i]? = some x ∧ Loc X.env.scope x ∧ (X.fn x = true ∨ X.env.scope.names.lookup x = some .local) := by
  have h : (decide (N[i]? = some x) && loc so x) = true := h
  simp only [Bool.and_eq_true, decide_eq_true_eq] at h
  obtain ⟨q1, q2⟩ := S.so x (loc_of h.2)
  rw [S.eN, S.eS]
  exact ⟨h.1, q1, q2⟩
theorem aug_read {K : PySem.W.Frag} {C : Ctx} {i : Nat} {o : Bop} {e : Ex} {σ : St} {H : Hp} {D : Ends} (h : tIS K F Y (evS C (.aug i o e)) D σ H) : tAug i (tI K F Y (evE C e)) (rAug K F o) D σ H := by
  obtain ⟨r, env, st, R, E, h⟩ := h
  simp only [evS] at h
  split at h
  · rename_i v hv
    obtain ⟨x, hx, hr⟩ := E.get i v hv
    refine ⟨x, hx, r, env, st, R, E, ?_⟩
    cases k1 : evE C e env st with
    | bad => rw [k1] at h; exact h.elim
    | exc => rw [k1] at h; exact fun v H1 r1 A1 R1 hv => h σ v H1 r1 A1 R1 (E.aft R A1) hv
    | ok p st1 =>
      rw [k1] at h
      simp only [lift_ok] at h
      intro y H1 r1 A1 R1 hy
      have h := h.aft A1
      split at h
      · rename_i z hz
        exact ⟨r1, st1, v, p, z, R1, hr.aft R A1, hy, hz, fun u hu => h _ H1 r1 .refl R1 ((E.aft R A1).set i hu)⟩
      · exact h.elim
  · exact h.elim
theorem augS_read {K : PySem.W.Frag} {C : Ctx} {a i : Ex} {o : Bop} {e : Ex} {σ : St} {H : Hp} {D : Ends} (h : tIS K F Y (evS C (.augS a i o e)) D σ H) :
    tAugS (tI K F Y (evE C a)) (tI K F Y (evE C i)) (tI K F Y (evE C e)) (rLoc K F) (rAug K F o) (rSto K F) D σ H := by
  obtain ⟨r, env, st, R, E, h⟩ := h
  simp only [evS] at h
  refine ⟨r, env, st, R, E, ?_⟩
  cases k1 : evE C a env st with
  | bad => rw [k1] at h; exact h.elim
  | exc => rw [k1] at h; exact fun v H1 r1 A1 R1 hv => h σ v H1 r1 A1 R1 (E.aft R A1) hv
  | ok p st1 =>
    rw [k1] at h
    simp only [bind_ok, lift_ok] at h
    intro x H1 r1 A1 R1 hx
    have h := h.aft A1
    have E1 := E.aft R A1
    refine ⟨r1, env, st1, R1, E1, ?_⟩
    cases k2 : evE C i env st1 with
    | bad => rw [k2] at h; exact h.elim
    | exc => rw [k2] at h; exact fun v H2 r2 A2 R2 hv => h σ v H2 r2 A2 R2 (E1.aft R1 A2) hv
    | ok q st2 =>
      rw [k2] at h
      simp only [bind_ok, lift_ok] at h
      intro y H2 r2 A2 R2 hy
      have h := h.aft A2
      have E2 := E1.aft R1 A2
      have hx2 := hx.aft R1 A2
      split at h
      · rename_i v hv
        refine ⟨r2, st2, p, q, v, R2, hx2, hy, hv, fun old ho => ⟨r2, env, st2, R2, E2, ?_⟩⟩
        cases k3 : evE C e env st2 with
        | bad => rw [k3] at h; exact h.elim
        | exc => rw [k3] at h; exact fun v H3 r3 A3 R3 hv => h σ v H3 r3 A3 R3 (E2.aft R2 A3) hv
        | ok z st3 =>
          rw [k3] at h
          simp only [bind_ok, lift_ok] at h
          intro w H3 r3 A3 R3 hw
          have h := h.aft A3
          split at h
          · rename_i u hu
            refine ⟨r3, st3, v, z, u, R3, ho.aft R2 A3, hw, hu, fun nw hn => ?_⟩
            split at h
            · rename_i st4 h4
              exact ⟨r3, st3, p, q, u, st4, R3, hx2.aft R2 A3, hy.aft R2 A3, hn, h4, fun H4 A4 R4 => h σ H4 r3 A4 R4 ((E2.aft R2 A3).aft R3 A4)⟩
            · exact h.elim
          · exact h.elim
      · exact h.elim
theorem sub_read {K : PySem.W.Frag} {C : Ctx} {a i : Ex} {e : Ex} {σ : St} {H : Hp} {D : Ends} (h : tIS K F Y (evS C (.asg (.sub a i) e)) D σ H) :
    tAsg (tI K F Y (evE C e)) (gSub (tI K F Y (evE C a)) (tI K F Y (evE C i)) (rSto K F)) D σ H := by
  obtain ⟨r, env, st, R, E, h⟩ := h
  simp only [evS] at h
  refine ⟨r, env, st, R, E, ?_⟩
  cases k1 : evE C e env st with
  | bad => rw [k1] at h; exact h.elim
  | exc => rw [k1] at h; exact fun v H1 r1 A1 R1 hv => h σ v H1 r1 A1 R1 (E.aft R A1) hv
  | ok p st1 =>
    rw [k1] at h
    simp only [bind_ok, lift_ok] at h
    intro x H1 r1 A1 R1 hx
    have h := h.aft A1
    have E1 := E.aft R A1
    refine ⟨r1, env, st1, R1, E1, ?_⟩
    cases k2 : evE C a env st1 with
    | bad => rw [k2] at h; exact h.elim
    | exc => rw [k2] at h; exact fun v H2 r2 A2 R2 hv => h σ v H2 r2 A2 R2 (E1.aft R1 A2) hv
    | ok q st2 =>
      rw [k2] at h
      simp only [bind_ok, lift_ok] at h
      intro y H2 r2 A2 R2 hy
      have h := h.aft A2
      have E2 := E1.aft R1 A2
      have hx2 := hx.aft R1 A2
      refine ⟨r2, env, st2, R2, E2, ?_⟩
      cases k3 : evE C i env st2 with
      | bad => rw [k3] at h; exact h.elim
      | exc => rw [k3] at h; exact fun v H3 r3 A3 R3 hv => h σ v H3 r3 A3 R3 (E2.aft R2 A3) hv
      | ok z st3 =>
        rw [k3] at h
        simp only [bind_ok, lift_ok] at h
        intro w H3 r3 A3 R3 hw
        have h := h.aft A3
        split at h
        · rename_i st4 h4
          exact ⟨r3, st3, q, z, p, st4, R3, hy.aft R2 A3, hw, hx2.aft R2 A3, h4, fun H4 A4 R4 => h σ H4 r3 A4 R4 ((E2.aft R2 A3).aft R3 A4)⟩
        · exact h.elim
theorem par_read {K : PySem.W.Frag} {C : Ctx} {p : Pt} {es : Exs} {σ : St} {H : Hp} {D : Ends} (h : tIS K F Y (evS C (.asg (.p p) (.tup es))) D σ H) :
    tIA K F Y (evEs C es) σ H fun vs H1 => ∃ r1 st1 env ps env1, Rel K F H1 r1 st1 ∧ EnvRel K F H1 r1 env σ ∧ Reps K F H1 r1 vs ps ∧ asgP p (.tup ps) env = some env1 ∧ ∀ σ', EnvRel K F H1 r1 env1 σ' → D.nx σ' H1 := by
  obtain ⟨r, env, st, R, E, h⟩ := h
  simp only [evS, evE] at h
  refine ⟨r, env, st, R, E, ?_⟩
  cases k1 : evEs C es env st with
  | bad => rw [k1] at h; exact h.elim
  | exc => rw [k1] at h; exact fun v H1 r1 A1 R1 hv => h σ v H1 r1 A1 R1 (E.aft R A1) hv
  | ok ps st1 =>
    rw [k1] at h
    simp only [bind_ok, lift_ok] at h
    intro vs H1 r1 A1 R1 hv
    have h := h.aft A1
    split at h
    · simp only [bind_ok, lift_ok] at h
      split at h
      · rename_i env1 he
        exact ⟨r1, st1, env, ps, env1, R1, E.aft R A1, hv, he, fun σ' E' => h σ' H1 r1 .refl R1 E'⟩
      · exact h.elim
    · exact h.elim
theorem ret_read {K : PySem.W.Frag} {C : Ctx} {e : Ex} {σ : St} {H : Hp} {D : Ends} (h : tIS K F Y (evS C (.ret e)) D σ H) : tI K F Y (evE C e) σ H D.rt := by
  have h := tIS.step (o := evE C e) (f := fun x env st1 => .ok (.rt x) st1) h
  obtain ⟨r, env, st, R, E, h⟩ := h
  refine ⟨r, env, st, R, E, ?_⟩
  cases k1 : evE C e env st with
  | bad => rw [k1] at h; exact h
  | exc => rw [k1] at h; exact h
  | ok p st1 =>
    rw [k1] at h
    intro v H1 r1 A1 R1 hv
    obtain ⟨r2, env2, st2, p2, R2, E2, hv2, h⟩ := h v H1 r1 A1 R1 hv
    exact h v H1 r2 .refl R2 hv2
theorem expr_read {K : PySem.W.Frag} {C : Ctx} {e : Ex} {σ : St} {H : Hp} {D : Ends} (h : tIS K F Y (evS C (.expr e)) D σ H) : tI K F Y (evE C e) σ H fun _ H1 => D.nx σ H1 := by
  have h := tIS.step (o := evE C e) (f := fun x env st1 => .ok (.nx env) st1) h
  obtain ⟨r, env, st, R, E, h⟩ := h
  refine ⟨r, env, st, R, E, ?_⟩
  cases k1 : evE C e env st with
  | bad => rw [k1] at h; exact h
  | exc => rw [k1] at h; exact h
  | ok p st1 =>
    rw [k1] at h
    intro v H1 r1 A1 R1 hv
    obtain ⟨r2, env2, st2, p2, R2, E2, hv2, h⟩ := h v H1 r1 A1 R1 hv
    exact h σ H1 r2 .refl R2 E2
theorem sole_eq {t v : Expr} {l : Nat} {env : PySem.Env} : swapsWithSole [t] v l env = swapsWith v (some t) l env := rfl
theorem par_sw {ts vs : List Expr} {sc : Scope} {env : PySem.Env} {k k2 : Nat} {p p2 : Pos} {ns : List Str} (hs : env.scope = sc) (hk : sc.kind = .function) (h : swB sc ts vs = 1) (e : swNames sc ts = ns) :
    swappedStores [.Tuple ts k p] (.Tuple vs k2 p2) env = pure (some ns) := by
  rw [← e]; exact (sw_gen hs hk ts vs k k2 p p2).2 h
theorem rs_read {P : Program} {w : World} {K : PySem.W.Frag} {mg : Str → Option Value} {base : Heap} {C : Ctx} {c : Str} {anc : List Str} {D0 : Addr} {e : Ex} {σ : St} {H : Hp} {D : Ends} (T : EcF P w K mg base g c anc D0)
    (h : tIS K F (sw mg W) (evS C (.rs c e)) D σ H) : tMkO D0 (spInit K) [] (tCons (tI K F (sw mg W) (evE C e)) tNil) σ H fun cls d H' => W cls d σ H' := by
  obtain ⟨r, env, st, R, E, h⟩ := h
  simp only [evS] at h
  refine ⟨r, env, st, R, E, ?_⟩
  cases k1 : evE C e env st with
  | bad => rw [k1] at h; exact h.elim
  | exc => rw [k1] at h; exact fun v H1 r1 A1 R1 hv => h σ v H1 r1 A1 R1 (E.aft R A1) hv
  | ok p st1 =>
    rw [k1] at h
    simp only [lift_ok] at h
    split at h
    · intro v H1 r1 A1 R1 hv
      have h := h σ v H1 r1 A1 R1 (E.aft R A1) hv
      refine ⟨by show 1 ≤ 1000; decide, fun a ha => ⟨a, D0, v, rfl, T.ox, T.kit.nv, upd_same, fun dx hn ne => ⟨rfl, dx, [("value", v)], upd_same, by rw [upd_ne ne, upd_same], ?_, ?_⟩⟩⟩
      · rw [upd_ne ne] at hn
        exact hn
      · rw [upd_ne ne] at hn
        have q := h D0 dx T.mgc hn
        have eH : upd (del (upd (upd (upd H1 a (exo a D0 none)) dx (exd dx [("value", v)])) a (exo a D0 (some dx))) a) dx (.xd [("value", v)]) = upd H1 dx (.xd [("value", v)]) := by
          funext b
          by_cases hb : b = dx
          · rw [hb, upd_same, upd_same]
          · rw [upd_ne hb, upd_ne hb]
            by_cases hba : b = a
            · rw [hba, del_same, ha]
            · rw [del_ne hba, upd_ne hba, upd_ne hb, upd_ne hba]
        rw [eH]
        exact q
    · exact h.elim
noncomputable def clOfH (K : PySem.W.Frag) (mg : Str → Option Value) (F : List Addr) (C : Ctx) (g : Sg) : Hds → List (Value × Option Nat × TS)
  | .nil => []
  | .cons x i b r => (match mg x with
    | some u => u
    | none => .type "ValueError", i, tIS K F (sw mg noW) (evSs C b)) :: clOfH K mg F C g r
theorem exn_val {mg : Str → Option Value} {x : Str} {cv : V} {u : Value} (h : ExN mg g x cv u) : (match mg x with
    | some u => u
    | none => Value.type "ValueError") = u := by
  cases h with
  | own h1 h2 => rw [h2]
  | ve h1 h2 => rw [h2]
def clN (mg : Str → Option Value) (g : Sg) : Hds → Prop
  | .nil => True
  | .cons x _ _ r => (∃ cv u, ExN mg g x cv u) ∧ clN mg g r
theorem EnvRel.slotIn {K : PySem.W.Frag} {H : Hp} {r : List Addr} {env : Env} {σ : St} {C : Ctx} {i : Option Nat} {c : Str} {p : PV} {a : Addr} (E : EnvRel K F H r env σ) (h : Rep K F H r (.ref a) (.exn c (C.cl c) p)) : EnvRel K F H r (inH C i c p env) (slotIn i a σ) := by
  cases i with
  | none => exact E
  | some i => exact E.set i h
theorem EnvRel.slotOut {K : PySem.W.Frag} {H : Hp} {r : List Addr} {env : Env} {σ : St} {i : Option Nat} (E : EnvRel K F H r env σ) : EnvRel K F H r (outH i env) (slotOut i σ) := by
  cases i with
  | none => exact E
  | some i => exact E.unset i
theorem hds_read {P : Program} {w : World} {K : PySem.W.Frag} {mg : Str → Option Value} {base : Heap} {c : Str} {p : PV} {D : Ends} (hec : ∀ c anc, g.ecs.lookup c = some anc → ∃ C, EcF P w K mg base g c anc C) :
    ∀ (hs : Hds), clN mg g hs → ∀ {σ : St} {H : Hp} {r : List Addr} {env : Env} {st : Store} {v : V}, Rel K F H r st → EnvRel K F H r env σ → Rep K F H r v p → PostS K F (sw mg W) r H D (evH (g.ctx (clOf mg) n) hs c p env st) →
      sw mg (wTry K W D (clOfH K mg F (g.ctx (clOf mg) n) g hs)) σ c v H
  | .nil, _, σ, H, r, env, st, v, R, E, hv, h => h σ v H r .refl R E hv
  | .cons x i b rest, nm, σ, H, r, env, st, v, R, E, hv, h => by
    obtain ⟨⟨cv, u, ex⟩, nm⟩ := nm
    intro Ca dd hm hd
    simp only [evH] at h
    have hsub : (g.ctx (clOf mg) n).sub c x = (g.ecs.lookup c).map fun l => decide (x ∈ l) := rfl
    cases ha : g.ecs.lookup c with
    | none => rw [hsub, ha] at h; exact h.elim
    | some anc =>
      rw [hsub, ha] at h
      obtain ⟨C1, T⟩ := hec c anc ha
      have e1 : Ca = C1 := by
        have := T.mgc
        rw [hm] at this
        cases this
        rfl
      subst e1
      refine ⟨decide (x ∈ anc), ?_, fun hb => ?_, fun hb => ?_⟩
      · rw [exn_val ex]
        exact (T.isa x cv u ex).2
      · simp only [Option.map_some, hb] at h
        exact hds_read hec rest nm R E hv h Ca dd hm hd
      · simp only [Option.map_some, hb] at h
        refine ⟨Ca, dd, rfl, rfl, fun a hn => ?_⟩
        have nda : dd ≠ a := fun z => by rw [← z, upd_same] at hn; cases hn
        have A1 : Aft r H r (upd H dd (.xd [("value", v)])) := Aft.new hd
        have R1 := R.new (o := .xd [("value", v)]) hd
        have A2 : Aft r (upd H dd (.xd [("value", v)])) r (upd (upd H dd (.xd [("value", v)])) a (.ext (excP a Ca dd))) := Aft.new hn
        have R2 := R1.new (o := .ext (excP a Ca dd)) hn
        have hv2 := (hv.aft R A1).aft R1 A2
        have E2 := (E.aft R A1).aft R1 A2
        have hx : Rep K F (upd (upd H dd (.xd [("value", v)])) a (.ext (excP a Ca dd))) r (.ref a) (.exn c ((g.ctx (clOf mg) n).cl c) p) := by
          have ec : (g.ctx (clOf mg) n).cl c = Ca := clOf_eq hm
          rw [ec]
          exact .exn upd_same (by rw [upd_ne nda, upd_same]) hv2
        have h := h.aft (A1.trans A2)
        refine ⟨r, inH (g.ctx (clOf mg) n) i c p env, st, R2, E2.slotIn hx, ?_⟩
        cases k1 : evSs (g.ctx (clOf mg) n) b (inH (g.ctx (clOf mg) n) i c p env) st with
        | bad => rw [k1] at h; exact h.elim
        | exc => rw [k1] at h; exact h.elim
        | ok fl st1 =>
          rw [k1] at h
          simp only [bind_ok] at h
          cases fl with
          | nx e => exact fun σ' H' r' A R E => h _ H' r' A R E.slotOut
          | bk e => exact fun σ' H' r' A R E => h _ H' r' A R E.slotOut
          | ct e => exact fun σ' H' r' A R E => h _ H' r' A R E.slotOut
          | rt q => exact h
          | rz => exact h.elim
theorem try_read {P : Program} {w : World} {K : PySem.W.Frag} {mg : Str → Option Value} {base : Heap} {b : Sxs} {hs : Hds} {σ : St} {H : Hp} {D : Ends} (hec : ∀ c anc, g.ecs.lookup c = some anc → ∃ C, EcF P w K mg base g c anc C) (nm : clN mg g hs)
    (h : tIS K F (sw mg W) (evS (g.ctx (clOf mg) n) (.tr b hs)) D σ H) : tIS K F (sw mg (wTry K W D (clOfH K mg F (g.ctx (clOf mg) n) g hs))) (evSs (g.ctx (clOf mg) n) b) D σ H := by
  obtain ⟨r, env, st, R, E, h⟩ := h
  simp only [evS] at h
  refine ⟨r, env, st, R, E, ?_⟩
  cases k1 : evSs (g.ctx (clOf mg) n) b env st with
  | bad => rw [k1] at h; exact h.elim
  | exc => rw [k1] at h; exact h.elim
  | ok fl st1 =>
    rw [k1] at h
    simp only [bind_ok] at h
    cases fl with
    | nx e => exact h
    | bk e => exact h
    | ct e => exact h
    | rt q => exact h
    | rz c p e => exact fun σ' v H' r' A R' E' hv => hds_read hec hs nm R' E' hv (h.aft A)
theorem hot_asg {g : Sg} {X : Cx} {n : Nat} {N : List Str} {sc so : Scope} {W : WX} (S : Std X g n N sc so W) (hk : sc.kind = .function) {c : Addr} (hA : X.A.handled = some (.ref c)) {s : Sx} {st : Stmt} (h : hotA g N sc so s st = true) (F : List Addr) :
    PS X st (hotT c (tIS X.K F (sw X.mg W) (evS (g.ctx (clOf X.mg) n) s))) := by
  unfold hotA at h
  split at h
  · rename_i i j es x px y py kt pt a b k2 p2 pos
    simp only [Bool.and_eq_true, decide_eq_true_eq] at h
    obtain ⟨⟨⟨⟨⟨h1, _⟩, ⟨h2, _⟩⟩, h3⟩, h4⟩, h5⟩ := h
    simp only [parOk, Bool.and_eq_true, decide_eq_true_eq] at h5
    obtain ⟨⟨⟨hij, hx⟩, hy⟩, hn⟩ := h5
    have qs := snd_Es es S h3
    have hw := par_sw (k := kt) (k2 := k2) (p := pt) (p2 := p2) S.eS hk h4 hn
    refine PS.imp (ps_parH (pos := pos) hA S.nN (by rw [S.eN]; exact h1) (by rw [S.eN]; exact h2) hij (by rw [S.eS]; exact lk_local hx) (by rw [S.eS]; exact lk_local hy) (qs.pa F) hw) fun D σ H q => ?_
    obtain ⟨⟨C, dd, hc⟩, q⟩ := q
    obtain ⟨r, env, st, R, E, q⟩ := par_read q
    refine ⟨r, env, st, R, E, ?_⟩
    cases k1 : evEs (g.ctx (clOf X.mg) n) es env st with
    | bad => rw [k1] at q; exact q
    | exc => rw [k1] at q; exact q
    | ok ps st1 =>
      rw [k1] at q
      intro vs H1 r1 A1 R1 hv
      refine ⟨⟨C, dd, (A1.keep _ _ hc (R.notin hc (fun _ z => nomatch z))).1⟩, ?_⟩
      obtain ⟨r2, st2, env2, ps2, env3, R2, E2, hv2, e2, q⟩ := q vs H1 r1 A1 R1 hv
      match ps2, e2, hv2 with
      | [z1, z2], e2, .cons (v := v1) a1 (.cons (v := v2) a2 .nil) =>
        cases e2
        exact ⟨v1, v2, rfl, q _ ((E2.set i a1).set j a2)⟩
  · cases h
structure TopX (X : Cx) : Prop where
  stk : X.stack = X.env :: X.outer
  fr : X.env.frame = some X.env.locals
  noex : X.ex = []
  pass : PassesOwn (model X.prog X.w) X.A X.env X.xe
mutual
theorem snd_S : ∀ (sx : Sx) {g : Sg} {X : Cx} {N : List Str} {sc so : Scope} {W : WX} (S : Std X g n N sc so W) (Z : TopX X) (hk : sc.kind = .function) {s : Stmt}, chkS g N sc so sx s = true → ∀ F, PS X s (tIS X.K F (sw X.mg W) (evS (g.ctx (clOf X.mg) n) sx))
  | .expr e, g, X, N, sc, so, W, S, Z, hk, s, h, F => by
    have h9 := chkS_expr h
    clear h
    obtain ⟨ee, pos, rfl, h⟩ := h9
    simp only [Bool.and_eq_true, Bool.not_eq_true'] at h
    exact PS.imp (ps_expr (snd_E e S h.2 F).1 (okS_sw (chk_okS h.2) h.1 _ _ _)) fun D σ H q => expr_read q
  | .asg (.p p) e, g, X, N, sc, so, W, S, Z, hk, s, h, F => by
    have h9 := chkS_asg h
    clear h
    rcases h9 with ⟨i, x, px, ee, pos, rfl, rfl, h⟩ | ⟨ts, k, pt, ee, pos, rfl, h⟩
    · simp only [Bool.and_eq_true, Bool.or_eq_true, Bool.not_eq_true'] at h
      obtain ⟨⟨h0, h1⟩, h2⟩ := h
      obtain ⟨hi, hl, hf⟩ := S.at (i := i) (x := x) h1
      have hN := S.nN
      have plain : ∀ (hs : swapsWith ee (some (.Name x px)) pos.line X.env = pure false), PS X (.Assign [.Name x px] ee pos) (tIS X.K F (sw X.mg W) (evS (g.ctx (clOf X.mg) n) (.asg (.p (.n i)) e))) := fun hs =>
        PS.imp (ps_set (pos' := px) hN hi hl (snd_E e S h2 F).1 hs hf) fun D σ H q => by
          obtain ⟨r, env, st, R, E, q⟩ := asg_read q
          refine ⟨r, env, st, R, E, ?_⟩
          cases k1 : evE (g.ctx (clOf X.mg) n) e env st with
          | bad => rw [k1] at q; exact q
          | exc => rw [k1] at q; exact q
          | ok p st1 =>
            rw [k1] at q
            exact fun v H1 r1 A1 R1 hv => gI_name (q v H1 r1 A1 R1 hv)
      by_cases hlc : isLC ee = true
      · have hh : g.hot = false := h0.elim id fun z => by rw [hlc] at z; cases z
        cases ee <;> first | (cases hlc; done) | skip
        rename_i elt gens scope lpos
        cases hsw : swLC sc scope x px lpos with
        | false => exact plain (by rw [sw_lc S.eS hk, hsw])
        | true =>
          have hsl : X.env.scope.names.lookup x = some .local := by
            rw [S.eS]
            unfold swLC at hsw
            simp only [Bool.and_eq_true] at hsw
            exact lk_local hsw.1.1
          have hsw2 : swapsWith (.ListComp elt gens scope lpos) (some (.Name x px)) pos.line X.env = pure true := by rw [sw_lc S.eS hk, hsw]
          cases e <;> first | (cases h2; done) | skip
          · rename_i fr own p it cs el
            match gens, h2 with
            | [⟨tg, iter, ifs, 0⟩], h =>
              obtain ⟨hh, h⟩ := cool_of h
              have h : (blkC N sc scope (ownL N own) && chkI g N sc it iter && okS iter && (!needsT it || isTgT tg) && decide (∀ i ∈ p.slots, i ∈ own) && chkP N scope p tg && decide (ifs.length ≤ 1) && chkEs g N (relS scope sc) cs ifs && chkE g N (relS scope sc) el elt) = true := h
              simp only [Bool.and_eq_true, decide_eq_true_eq] at h
              obtain ⟨⟨⟨⟨⟨⟨⟨⟨hb, hi2⟩, ho⟩, ht⟩, hown⟩, hp⟩, hl2⟩, hcs⟩, he⟩ := h
              have own2 : (ownL N own).map (·.2) = own := by simp [ownL, List.map_map, Function.comp_def]
              refine PS.imp (ps_setLc (own := ownL N own) (g := gX X.K p) (tt := tTX X.K (evTests (g.ctx (clOf X.mg) n) cs)) (te := tX X.K (evE (g.ctx (clOf X.mg) n) el)) (S.cal.calm hh) hN hi hsl hsw2 (snd_I it S hi2 (fun z => by rw [z] at ht; simpa using ht) F) (blkOk_by (by rw [S.eN, S.eS]; exact hb))
                (fun s H C cl fp => pg_any fun F => (pg_I (S.blk) hh F p tg hp).1) (fun s H C cl fp => (snd_Es cs (S.blk) hcs).ts hl2) (fun s H C cl fp => pe_any fun F => (snd_E el (S.blk) he F).1) (fun x => okS_set ho _ _)) fun D σ H q => ?_
              rw [own2]
              refine lc_read (fr := fr) (Q := fun v H1 => gName i v σ H1 D.nx) hown ?_
              obtain ⟨r, env, st, R, E, q⟩ := asg_read q
              refine ⟨r, env, st, R, E, ?_⟩
              cases k1 : evE (g.ctx (clOf X.mg) n) (.lc fr own p it cs el) env st with
              | bad => rw [k1] at q; exact q
              | exc => rw [k1] at q; exact q
              | ok p st1 =>
                rw [k1] at q
                exact fun v H1 r1 A1 R1 hv => gI_name (q v H1 r1 A1 R1 hv)
            | [], h => cases h
            | ⟨_, _, _, 0⟩ :: ⟨_, _, _, 0⟩ :: _, h => cases h
            | ⟨_, _, _, 0⟩ :: ⟨_, _, _, (_ + 1 : Nat)⟩ :: _, h => cases h
            | ⟨_, _, _, 0⟩ :: ⟨_, _, _, Int.negSucc _⟩ :: _, h => cases h
            | ⟨_, _, _, (_ + 1 : Nat)⟩ :: _, h => cases h
            | ⟨_, _, _, Int.negSucc _⟩ :: _, h => cases h
          · rename_i fr own p it cs vs2 p2 it2 cs2 el
            match gens, h2 with
            | [⟨tg, iter, ifs, 0⟩, ⟨tg2, iter2, ifs2, 0⟩], h =>
              obtain ⟨hh, h⟩ := cool_of h
              have h : (blkC N sc scope (ownL N own) && chkI g N sc it iter && okS iter && (!needsT it || isTgT tg) && decide (∀ i ∈ p.slots, i ∈ own) && chkP N scope p tg && decide (ifs.length ≤ 1) && chkEs g N (relS scope sc) cs ifs &&
                decide (∀ i ∈ vs2, i ∈ own) && chkI g N (relS scope sc) it2 iter2 && okS iter2 && (!needsT it2 || isTgT tg2) && decide (∀ i ∈ p2.slots, i ∈ vs2) && chkP N scope p2 tg2 && decide (ifs2.length ≤ 1) && chkEs g N (relS scope sc) cs2 ifs2 && chkE g N (relS scope sc) el elt) = true := h
              simp only [Bool.and_eq_true, decide_eq_true_eq] at h
              obtain ⟨⟨⟨⟨⟨⟨⟨⟨⟨⟨⟨⟨⟨⟨⟨⟨hb, hi2⟩, ho⟩, ht⟩, hown⟩, hp⟩, hl2⟩, hcs⟩, hv⟩, hi3⟩, ho2⟩, ht2⟩, hown2⟩, hp2⟩, hl3⟩, hcs2⟩, he⟩ := h
              have own2 : (ownL N own).map (·.2) = own := by simp [ownL, List.map_map, Function.comp_def]
              refine PS.imp (ps_setLc2 (own := ownL N own) (g := gX X.K p) (tt := tTX X.K (evTests (g.ctx (clOf X.mg) n) cs)) (g1 := gX X.K p2) (tt1 := tTX X.K (evTests (g.ctx (clOf X.mg) n) cs2)) (wi1 := iX X.K (evIx (g.ctx (clOf X.mg) n) it2)) (te := tX X.K (evE (g.ctx (clOf X.mg) n) el)) (S.cal.calm hh) hN hi hsl hsw2 (snd_I it S hi2 (fun z => by rw [z] at ht; simpa using ht) F) (blkOk_by (by rw [S.eN, S.eS]; exact hb)) (by rw [own2]; exact hv)
                (fun s H C cl fp => pg_any fun F => (pg_I (S.blk) hh F p tg hp).1) (fun s H C cl fp => (snd_Es cs (S.blk) hcs).ts hl2) (fun s H C cl fp => pi_any fun F => snd_I it2 (S.blk) hi3 (fun z => by rw [z] at ht2; simpa using ht2) F)
                (fun s H C cl fp => pg_any fun F => (pg_I (S.blk) hh F p2 tg2 hp2).1) (fun s H C cl fp => (snd_Es cs2 (S.blk) hcs2).ts hl3) (fun s H C cl fp => pe_any fun F => (snd_E el (S.blk) he F).1) (fun x => okS_set ho _ _) (fun env x => okS_set ho2 _ _)) fun D σ H q => ?_
              rw [own2]
              refine lc2_read (fr := fr) (Q := fun v H1 => gName i v σ H1 D.nx) hown hown2 ?_
              obtain ⟨r, env, st, R, E, q⟩ := asg_read q
              refine ⟨r, env, st, R, E, ?_⟩
              cases k1 : evE (g.ctx (clOf X.mg) n) (.lc2 fr own p it cs vs2 p2 it2 cs2 el) env st with
              | bad => rw [k1] at q; exact q
              | exc => rw [k1] at q; exact q
              | ok p st1 =>
                rw [k1] at q
                exact fun v H1 r1 A1 R1 hv => gI_name (q v H1 r1 A1 R1 hv)
            | [], h => cases h
            | [⟨_, _, _, 0⟩], h => cases h
            | ⟨_, _, _, 0⟩ :: ⟨_, _, _, 0⟩ :: _ :: _, h => cases h
            | ⟨_, _, _, 0⟩ :: ⟨_, _, _, (_ + 1 : Nat)⟩ :: _, h => cases h
            | ⟨_, _, _, 0⟩ :: ⟨_, _, _, Int.negSucc _⟩ :: _, h => cases h
            | ⟨_, _, _, (_ + 1 : Nat)⟩ :: _, h => cases h
            | ⟨_, _, _, Int.negSucc _⟩ :: _, h => cases h
      · exact plain (okS_sw (chk_okS h2) (by simpa using hlc) _ _ _)
    · obtain ⟨hh, h⟩ := cool_of h
      simp only [Bool.and_eq_true, Bool.not_eq_true'] at h
      obtain ⟨⟨⟨h1, hlc⟩, h2⟩, h3⟩ := h
      have plain : ∀ (hw : swappedStores [.Tuple ts k pt] ee X.env = pure none), PS X (.Assign [.Tuple ts k pt] ee pos) (tIS X.K F (sw X.mg W) (evS (g.ctx (clOf X.mg) n) (.asg (.p p) e))) := fun hw =>
        PS.imp (ps_asg (snd_E e S h2 F).1 (pg_I S hh F p _ h1).1 (show swapsWithSole [.Tuple ts k pt] ee pos.line X.env = pure false from sole_eq.trans (okS_sw (chk_okS h2) hlc _ _ _)) hw) fun D σ H q => asg_read q
      cases ht : isTgT ee with
      | false => exact plain (sw_other _ ht)
      | true =>
        cases ee <;> first | (cases ht; done) | skip
        rename_i vs k2 p2
        unfold tupOk at h3
        rw [Bool.or_eq_true, decide_eq_true_eq, Bool.and_eq_true, decide_eq_true_eq] at h3
        rcases h3 with h3 | ⟨h3, h4⟩
        · exact plain ((sw_gen S.eS hk ts vs k k2 pt p2).1 h3)
        · cases e <;> first | (cases h2; done) | skip
          rename_i es
          have h2 : chkEs g N sc es vs = true := h2
          have qs := snd_Es es S h2
          unfold parOk at h4
          split at h4
          · rename_i i j x px y py
            simp only [Bool.and_eq_true, decide_eq_true_eq] at h4
            obtain ⟨⟨⟨hij, hx⟩, hy⟩, hn⟩ := h4
            have h1 : ((decide (N[i]? = some x) && loc so x) && (decide (N[j]? = some y) && loc so y)) = true := h1
            simp only [Bool.and_eq_true, decide_eq_true_eq] at h1
            have hw := par_sw (k := k) (k2 := k2) (p := pt) (p2 := p2) S.eS hk h3 hn
            match vs, hw, qs, hlc with
            | [a, b], hw, qs, hlc =>
              refine PS.imp (ps_par (pos := pos) (S.cal.calm hh) S.nN (by rw [S.eN]; exact h1.1.1) (by rw [S.eN]; exact h1.2.1) hij (by rw [S.eS]; exact lk_local hx) (by rw [S.eS]; exact lk_local hy) (qs.pa F) hw) fun D σ H q => ?_
              obtain ⟨r, env, st, R, E, q⟩ := par_read q
              refine ⟨r, env, st, R, E, ?_⟩
              cases k1 : evEs (g.ctx (clOf X.mg) n) es env st with
              | bad => rw [k1] at q; exact q
              | exc => rw [k1] at q; exact q
              | ok ps st1 =>
                rw [k1] at q
                intro vs H1 r1 A1 R1 hv
                obtain ⟨r2, st2, env2, ps2, env3, R2, E2, hv2, e2, q⟩ := q vs H1 r1 A1 R1 hv
                match ps2, e2, hv2 with
                | [z1, z2], e2, .cons (v := v1) a1 (.cons (v := v2) a2 .nil) =>
                  cases e2
                  exact ⟨v1, v2, rfl, q _ ((E2.set i a1).set j a2)⟩
            | [], _, _, _ => simp [swB] at h3
            | [_], _, _, _ => simp [swB] at h3
            | _ :: _ :: _ :: _, _, _, _ => simp [swB] at h3
          · rename_i i j l x px y py z pz
            simp only [Bool.and_eq_true, decide_eq_true_eq] at h4
            obtain ⟨⟨⟨⟨⟨⟨hij, hil⟩, hjl⟩, hx⟩, hy⟩, hz⟩, hn⟩ := h4
            have h1 : ((decide (N[i]? = some x) && loc so x) && (decide (N[j]? = some y) && loc so y) && (decide (N[l]? = some z) && loc so z)) = true := h1
            simp only [Bool.and_eq_true, decide_eq_true_eq] at h1
            have hw := par_sw (k := k) (k2 := k2) (p := pt) (p2 := p2) S.eS hk h3 hn
            match vs, hw, qs, hlc with
            | [a, b, c], hw, qs, hlc =>
              refine PS.imp (ps_par3 (pos := pos) (S.cal.calm hh) S.nN (by rw [S.eN]; exact h1.1.1.1) (by rw [S.eN]; exact h1.1.2.1) (by rw [S.eN]; exact h1.2.1) hij hil hjl (by rw [S.eS]; exact lk_local hx) (by rw [S.eS]; exact lk_local hy) (by rw [S.eS]; exact lk_local hz) (qs.pa F) hw) fun D σ H q => ?_
              obtain ⟨r, env, st, R, E, q⟩ := par_read q
              refine ⟨r, env, st, R, E, ?_⟩
              cases k1 : evEs (g.ctx (clOf X.mg) n) es env st with
              | bad => rw [k1] at q; exact q
              | exc => rw [k1] at q; exact q
              | ok ps st1 =>
                rw [k1] at q
                intro vs H1 r1 A1 R1 hv
                obtain ⟨r2, st2, env2, ps2, env3, R2, E2, hv2, e2, q⟩ := q vs H1 r1 A1 R1 hv
                match ps2, e2, hv2 with
                | [z1, z2, z3], e2, .cons (v := v1) a1 (.cons (v := v2) a2 (.cons (v := v3) a3 .nil)) =>
                  cases e2
                  exact ⟨v1, v2, v3, rfl, q _ (((E2.set i a1).set j a2).set l a3)⟩
            | [], _, _, _ => simp [swB] at h3
            | [_], _, _, _ => simp [swB] at h3
            | [_, _], _, _, _ => simp [swB] at h3
            | _ :: _ :: _ :: _ :: _, _, _, _ => simp [swB] at h3
          · cases h4
  | .asg (.sub o i) e, g, X, N, sc, so, W, S, Z, hk, s, h, F => by
    have h9 := chkS_sub h
    clear h
    obtain ⟨eo, ei, tp, ee, pos, rfl, h⟩ := h9
    · skip
      simp only [Bool.and_eq_true, Bool.not_eq_true'] at h
      obtain ⟨⟨⟨⟨h1, h2⟩, h3⟩, h4⟩, h5⟩ := h
      have hs : swapsWithSole [.Subscript eo ei tp] ee pos.line X.env = pure false := sole_eq.trans (okS_sw (chk_okS h5) h2 _ _ _)
      exact PS.imp (ps_asg (snd_E e S h5 F).1 (pg_sub (snd_E o S h3 F).1 (snd_E i S h4 F).1 (sto_loc (F := F)) (fun v => okS_asg h1 _ _ _ _)) hs (sw_sub _ _)) fun D σ H q => sub_read q
  | .aug i o e, g, X, N, sc, so, W, S, Z, hk, s, h, F => by
    have h9 := chkS_aug h
    clear h
    obtain ⟨x, px, op, ee, pos, rfl, h⟩ := h9
    · skip
      simp only [Bool.and_eq_true, decide_eq_true_eq] at h
      obtain ⟨⟨rfl, h1⟩, h2⟩ := h
      obtain ⟨hi, hl, hf⟩ := S.at (i := i) (x := x) h1
      exact PS.imp (ps_aug S.nN hi hl (snd_E e S h2 F).1 (ip_aug (F := F) o) hf) fun D σ H q => aug_read q
  | .augS a i o e, g, X, N, sc, so, W, S, Z, hk, s, h, F => by
    have h9 := chkS_augS h
    clear h
    obtain ⟨eo, ei, tp, op, ee, pos, rfl, h⟩ := h9
    simp only [Bool.and_eq_true, decide_eq_true_eq] at h
    obtain ⟨⟨⟨⟨rfl, h1⟩, h2⟩, h3⟩, h4⟩ := h
    exact PS.imp (ps_augS (snd_E a S h2 F).1 (snd_E i S h3 F).1 (get_loc (F := F)) (snd_E e S h4 F).1 (ip_aug (F := F) o) (sto_loc (F := F)) (fun _ _ _ => okS_aug h1 _ _ _)) fun D σ H q => augS_read q
  | .iff c a b, g, X, N, sc, so, W, S, Z, hk, s, h, F => by
    have h9 := chkS_iff h
    clear h
    obtain ⟨ec, as, bs, pos, rfl, h⟩ := h9
    simp only [Bool.and_eq_true] at h
    exact PS.imp (ps_if (snd_E c S h.1.1 F).2 (snd_Ss a S Z hk h.1.2 F) (snd_Ss b S Z hk h.2 F)) fun D σ H q => if_read q
  | .fr p it b, g, X, N, sc, so, W, S, Z, hk, s, h, F => by
    have h9 := chkS_fr h
    clear h
    obtain ⟨tg, iter, bs, pos, rfl, h⟩ := h9
    · obtain ⟨hh, h⟩ := cool_of h
      simp only [Bool.and_eq_true] at h
      obtain ⟨⟨⟨⟨h1, h2⟩, h3⟩, h4⟩, h5⟩ := h
      exact PS.imp (ps_for Z.pass (S.cal.calm hh) (snd_I it S h1 (fun z => by rw [z] at h3; simpa using h3) F) (pg_I S hh F p tg h4).1 (snd_Ss b S Z hk h5 F) (fun x => okS_set h2 _ _)) fun D σ H q => for_read q
  | .wh c b, g, X, N, sc, so, W, S, Z, hk, s, h, F => by
    have h9 := chkS_wh h
    clear h
    obtain ⟨ec, bs, pos, rfl, h⟩ := h9
    · obtain ⟨hh, h⟩ := cool_of h
      simp only [Bool.and_eq_true] at h
      exact PS.imp (ps_while Z.pass (snd_E c S h.1 F).2 (snd_Ss b S Z hk h.2 F)) fun D σ H q => while_read q
  | .ret e, g, X, N, sc, so, W, S, Z, hk, s, h, F => by
    have h9 := chkS_ret h
    clear h
    obtain ⟨ee, pos, rfl, h⟩ := h9
    exact PS.imp (ps_ret (snd_E e S h F).1) fun D σ H q => ret_read q
  | .retn, g, X, N, sc, so, W, S, Z, hk, s, h, F => by
    have h9 := chkS_retn h
    clear h
    obtain ⟨pos, rfl⟩ := h9
    refine PS.imp ps_retN fun D σ H q => ?_
    obtain ⟨r, env, st, R, E, q⟩ := q
    exact q .non H r .refl R .non
  | .brk, g, X, N, sc, so, W, S, Z, hk, s, h, F => by
    have h9 := chkS_brk h
    clear h
    obtain ⟨pos, rfl⟩ := h9
    refine PS.imp ps_break fun D σ H q => ?_
    obtain ⟨r, env, st, R, E, q⟩ := q
    exact q σ H r .refl R E
  | .cont, g, X, N, sc, so, W, S, Z, hk, s, h, F => by
    have h9 := chkS_cont h
    clear h
    obtain ⟨pos, rfl⟩ := h9
    refine PS.imp ps_continue fun D σ H q => ?_
    obtain ⟨r, env, st, R, E, q⟩ := q
    exact q σ H r .refl R E
  | .pass, g, X, N, sc, so, W, S, Z, hk, s, h, F => by
    have h9 := chkS_pass h
    clear h
    obtain ⟨pos, rfl⟩ := h9
    refine PS.imp ps_pass fun D σ H q => ?_
    obtain ⟨r, env, st, R, E, q⟩ := q
    exact q σ H r .refl R E
  | .nev, g, X, N, sc, so, W, S, Z, hk, s, h, F => by
    refine PS.imp ps_never fun D σ H q => ?_
    obtain ⟨r, env, st, R, E, q⟩ := q
    exact q
  | .rs c e, g, X, N, sc, so, W, S, Z, hk, s, h, F => by
    have h9 := chkS_rs h
    clear h
    obtain ⟨x, px, ee, p2, p3, rfl, h⟩ := h9
    obtain ⟨hh, h⟩ := cool_of h
    simp only [Bool.and_eq_true, decide_eq_true_eq] at h
    obtain ⟨⟨⟨rfl, hg⟩, hc⟩, he⟩ := h
    obtain ⟨anc, hanc⟩ := Option.isSome_iff_exists.mp hc
    obtain ⟨C, T⟩ := S.link.ec x anc hanc
    obtain ⟨hgl, hd⟩ := S.gl hg
    obtain ⟨fI, fd, iC, tyI, F1, hb⟩ := T.made
    have room : Room (1 + 1) X.A := ((hh ▸ S.cal : Cal X (n + 2) false).room rfl).mono (by omega)
    have ok1 := chk_okS he
    have mk : L2N.PMk X (.Call (.Name x px) [ee] [] p2) (tMkO C (spInit X.K) [] (tCons (tI X.K F (sw X.mg W) (evE (g.ctx (clOf X.mg) n) e)) tNil)) :=
      pmk_ctx (ds := []) (dvs := []) T.ox iC tyI F1 room hb .nil (fun _ _ _ _ _ _ _ z => z.elim) hgl T.mgc (pa_cons (snd_E e S he F).1 pa_nil (okS_star ok1 _ _)) hd (okS_star ok1 _ _) rfl
    exact PS.imp (L2N.ps_raise (S.cal.calm hh) S.tk mk) fun D σ H q => rs_read T q
  | .tr b hs, g, X, N, sc, so, W, S, Z, hk, s, h, F => by
    have h9 := chkS_tr h
    clear h
    obtain ⟨body, hds, pos, rfl, h⟩ := h9
    obtain ⟨hh, h⟩ := cool_of h
    simp only [Bool.and_eq_true, Bool.not_eq_true'] at h
    obtain ⟨⟨h1, h2⟩, h3⟩ := h
    match hds, h2, h3 with
    | [], h2, _ => cases h2
    | h0 :: hds, _, h3 =>
      obtain ⟨nm, cl⟩ := snd_H hs S Z hk hh h3 F
      refine PS.imp (ps_tryK (tb := fun W => tIS X.K F (sw X.mg W) (evSs (g.ctx (clOf X.mg) n) b)) Z.stk Z.fr Z.noex S.nN S.tk (fun W' pn xe tk pass => ?_) cl) fun D σ H q => try_read S.link.ec nm q
      exact snd_Ss b (X := X.tr pn xe) ⟨⟨S.cal.dp, S.cal.un, S.cal.gd, S.cal.hd, S.cal.calm⟩, S.link, S.eN, S.nd, S.eS, S.so, tk⟩ ⟨Z.stk, Z.fr, Z.noex, pass⟩ hk h1 F
theorem snd_H : ∀ (hs : Hds) {g : Sg} {X : Cx} {N : List Str} {sc so : Scope} {W : WX} (S : Std X g n N sc so W) (Z : TopX X) (hk : sc.kind = .function) (hh : g.hot = false) {hds : List ExceptHandler}, chkH g N sc so hs hds = true → ∀ F, clN X.mg g hs ∧ Clauses X hds (clOfH X.K X.mg F (g.ctx (clOf X.mg) n) g hs)
  | .nil, g, X, N, sc, so, W, S, Z, hk, hh, hds, h, F => by
    cases hds with
    | cons a b => cases h
    | nil => exact ⟨True.intro, .nil⟩
  | .cons c i .nil r, g, X, N, sc, so, W, S, Z, hk, hh, hds, h, F => by
    exfalso
    cases i <;> simp [chkH] at h
  | .cons c i (.cons s q) r, g, X, N, sc, so, W, S, Z, hk, hh, hds, h, F => by
    have L := S.link
    have St : ∀ (a : Addr) (pn : List (Addr × Obj)), Std (X.suite a pn) g.heat n N sc so noW := fun a pn =>
      ⟨⟨S.cal.dp, S.cal.un, S.cal.gd, fun z => (Bool.noConfusion (show true = false from z)), fun z => (Bool.noConfusion (show true = false from z))⟩, ⟨L.fn, L.gl, L.bs, fun c anc e => by
        obtain ⟨C, T⟩ := L.ec c anc e
        exact ⟨C, T.mgc, T.ox, T.kit, T.nn, fun x cv u z => T.isa x cv u (by cases z with
          | own a b => exact .own a b
          | ve a b => exact .ve a b), T.made⟩⟩, S.eN, S.nd, S.eS, S.so, fun u s' ⟨_, _, _, _, _, _, _, _, _, _, _, _, _, _, _, _, z⟩ => z.elim⟩
    have suite : ∀ {b0 : Stmt} {bs : List Stmt}, ((chkS g.heat N sc so s b0 || hotA g.heat N sc so s b0) && chkSs g.heat N sc so q bs) = true → ∀ (a : Addr) (pn : List (Addr × Obj)), PSs (X.suite a pn) (b0 :: bs) (hotT a (tIS X.K F (sw X.mg noW) (evSs (g.ctx (clOf X.mg) n) (.cons s q)))) := fun hc a pn => by
      rw [Bool.and_eq_true, Bool.or_eq_true] at hc
      have rest := snd_Ss q (g := g.heat) (X := X.suite a pn) (St a pn) ⟨Z.stk, Z.fr, Z.noex, PassesOwn.never⟩ hk hc.2 F
      rcases hc.1 with h1 | h1
      · have one := snd_S s (g := g.heat) (X := X.suite a pn) (St a pn) ⟨Z.stk, Z.fr, Z.noex, PassesOwn.never⟩ hk h1 F
        exact PSs.imp (pss_cons one rest) fun D σ H z => seq_read z.2
      · exact PSs.imp (pss_cons (hot_asg (St a pn) hk (c := a) rfl h1 F) rest) fun D σ H z => ⟨z.1, seq_read z.2⟩
    obtain ⟨hd, hds, rfl⟩ : ∃ hd tl, hds = hd :: tl := by
      cases hds with
      | nil => cases i <;> cases h
      | cons a b => exact ⟨a, b, rfl⟩
    have key : ∃ x px b0 bs p2, excOk g c = true ∧ x = c ∧ glb sc x = true ∧ ((chkS g.heat N sc so s b0 || hotA g.heat N sc so s b0) && chkSs g.heat N sc so q bs) = true ∧ chkH g N sc so r hds = true ∧
        ((i = none ∧ hd = .ExceptHandler (some (.Name x px)) none (b0 :: bs) p2) ∨ ∃ j nn, i = some j ∧ hd = .ExceptHandler (some (.Name x px)) (some nn) (b0 :: bs) p2 ∧ N[j]? = some nn ∧ isLoc sc nn = true) := by
      unfold chkH at h
      split at h <;> first | (cases h; done) | skip
      · rename_i z1 z2
        cases z1
      · rename_i z1 z2
        cases z1
        cases z2
        simp only [Bool.and_eq_true, decide_eq_true_eq] at h
        exact ⟨_, _, _, _, _, h.1.1.2, h.1.1.1.1, h.1.1.1.2, Bool.and_eq_true_iff.mpr h.1.2, h.2, .inl ⟨rfl, rfl⟩⟩
      · rename_i z1 z2
        cases z1
        cases z2
        simp only [Bool.and_eq_true, decide_eq_true_eq] at h
        exact ⟨_, _, _, _, _, h.1.1.1.1.2, h.1.1.1.1.1.1, h.1.1.1.1.1.2, Bool.and_eq_true_iff.mpr h.1.2, h.2, .inr ⟨_, _, rfl, rfl, h.1.1.1.2, h.1.1.2⟩⟩
    obtain ⟨x, px, b0, bs, p2, he, rfl, hg, hb, hr, hform⟩ := key
    obtain ⟨nm, cl⟩ := snd_H r S Z hk hh hr F
    obtain ⟨cv, u, ex⟩ := exn_of S he
    obtain ⟨hgl, hd⟩ := S.gl hg
    have names : Names X x u := ⟨hgl, hd, by
      cases ex with
      | own z1 z2 => exact .inl z2
      | ve z1 z2 => exact .inr ⟨z2, by rw [z1]; exact PyProof.Rows.Boot.«ValueError», by rw [z1]; decide⟩⟩
    refine ⟨⟨⟨cv, u, ex⟩, nm⟩, ?_⟩
    unfold clOfH
    rw [exn_val ex]
    rcases hform with ⟨rfl, rfl⟩ | ⟨j, nn, rfl, rfl, hj, hl⟩
    · exact .bare names (suite hb) cl
    · refine .named names (by rw [S.eN]; exact hj) ?_ (suite hb) cl
      show X.env.scope.names.lookup nn = some .local
      rw [S.eS]
      exact lk_local hl
theorem snd_Ss : ∀ (b : Sxs) {g : Sg} {X : Cx} {N : List Str} {sc so : Scope} {W : WX} (S : Std X g n N sc so W) (Z : TopX X) (hk : sc.kind = .function) {ss : List Stmt}, chkSs g N sc so b ss = true → ∀ F, PSs X ss (tIS X.K F (sw X.mg W) (evSs (g.ctx (clOf X.mg) n) b))
  | .nil, g, X, N, sc, so, W, S, Z, hk, ss, h, F => by
    cases ss with
    | cons a b => cases h
    | nil =>
      refine PSs.imp pss_nil fun D σ H q => ?_
      obtain ⟨r, env, st, R, E, q⟩ := q
      exact q σ H r .refl R E
  | .cons s r, g, X, N, sc, so, W, S, Z, hk, ss, h, F => by
    cases ss with
    | nil => cases h
    | cons a b =>
      have h : (chkS g N sc so s a && chkSs g N sc so r b) = true := h
      simp only [Bool.and_eq_true] at h
      exact PSs.imp (pss_cons (snd_S s S Z hk h.1 F) (snd_Ss r S Z hk h.2 F)) fun D σ H q => seq_read q
end
end
end L2.Iv
namespace L2.Iv
open PySem PySem.Spec PyProof.Rows
theorem locs_nd : ∀ args : List PV, (locs args).Nodup
  | [] => .nil
  | .loc i :: r => by
    unfold locs
    split
    · exact locs_nd r
    · rename_i h
      exact List.nodup_cons.mpr ⟨h, locs_nd r⟩
  | .non :: r => locs_nd r
  | .bl _ :: r => locs_nd r
  | .int _ :: r => locs_nd r
  | .str _ :: r => locs_nd r
  | .tup _ :: r => locs_nd r
  | .lsv _ :: r => locs_nd r
  | .exn .. :: r => locs_nd r
  | .dct .. :: r => locs_nd r
theorem locs_mem {i : Nat} : ∀ {args : List PV}, PV.loc i ∈ args → i ∈ locs args
  | .loc j :: r, h => by
    unfold locs
    rcases List.mem_cons.mp h with e | h
    · cases e
      split
      · assumption
      · exact List.mem_cons_self
    · split
      · exact locs_mem h
      · exact List.mem_cons_of_mem _ (locs_mem h)
  | .non :: r, h => by rcases List.mem_cons.mp h with e | h; cases e; exact (locs_mem h : i ∈ locs r)
  | .bl _ :: r, h => by rcases List.mem_cons.mp h with e | h; cases e; exact (locs_mem h : i ∈ locs r)
  | .int _ :: r, h => by rcases List.mem_cons.mp h with e | h; cases e; exact (locs_mem h : i ∈ locs r)
  | .str _ :: r, h => by rcases List.mem_cons.mp h with e | h; cases e; exact (locs_mem h : i ∈ locs r)
  | .tup _ :: r, h => by rcases List.mem_cons.mp h with e | h; cases e; exact (locs_mem h : i ∈ locs r)
  | .lsv _ :: r, h => by rcases List.mem_cons.mp h with e | h; cases e; exact (locs_mem h : i ∈ locs r)
  | .exn .. :: r, h => by rcases List.mem_cons.mp h with e | h; cases e; exact (locs_mem h : i ∈ locs r)
  | .dct .. :: r, h => by rcases List.mem_cons.mp h with e | h; cases e; exact (locs_mem h : i ∈ locs r)
theorem sub_facts {st : Store} : ∀ {ls : List Nat} {sub : Store}, subSt st ls = some sub → sub.length = ls.length ∧ ∀ (k i : Nat), ls[k]? = some i → ∃ xs, st[i]? = some xs ∧ sub[k]? = some xs ∧ freeAll xs = true
  | [], sub, h => by cases h; exact ⟨rfl, fun k i e => by simp at e⟩
  | i :: r, sub, h => by
    unfold subSt at h
    split at h
    · rename_i xs hx
      split at h
      · rename_i hf
        cases hr : subSt st r with
        | none => rw [hr] at h; cases h
        | some s2 =>
          rw [hr] at h
          cases h
          obtain ⟨h1, h2⟩ := sub_facts hr
          refine ⟨by simp [h1], fun k j e => ?_⟩
          cases k with
          | zero => simp at e; subst e; exact ⟨xs, hx, rfl, hf⟩
          | succ k => simpa using h2 k j (by simpa using e)
      · cases h
    · cases h
theorem put_len {st : Store} : ∀ (ls : List Nat) (s : Store), (putSt st ls s).length = st.length
  | [], s => by cases s <;> rfl
  | i :: r, [] => rfl
  | i :: r, xs :: s => by simp [putSt, put_len r s]
theorem put_out {st : Store} {i : Nat} : ∀ (ls : List Nat) (s : Store), i ∉ ls → (putSt st ls s)[i]? = st[i]?
  | [], s, _ => by cases s <;> rfl
  | j :: r, [], _ => rfl
  | j :: r, xs :: s, h => by
    have h1 : i ≠ j := fun e => h (e ▸ List.mem_cons_self)
    unfold putSt
    rw [List.getElem?_set_ne (Ne.symm h1)]
    exact put_out r s fun z => h (List.mem_cons_of_mem _ z)
theorem put_in {st : Store} {i : Nat} : ∀ (ls : List Nat) (s : Store) (k : Nat), ls.Nodup → ls.length = s.length → ls[k]? = some i → i < st.length → (putSt st ls s)[i]? = s[k]?
  | [], s, k, _, _, e, _ => by simp at e
  | j :: r, [], k, _, hl, _, _ => by simp at hl
  | j :: r, xs :: s, 0, nd, hl, e, hi => by
    simp at e; subst e
    unfold putSt
    rw [List.getElem?_set_self (by rw [put_len]; exact hi)]
    rfl
  | j :: r, xs :: s, k + 1, nd, hl, e, hi => by
    have e : r[k]? = some i := by simpa using e
    have h1 : i ≠ j := by
      rintro rfl
      exact (List.nodup_cons.mp nd).1 (List.mem_of_getElem? e)
    unfold putSt
    rw [List.getElem?_set_ne (Ne.symm h1)]
    exact put_in r s k (List.nodup_cons.mp nd).2 (by simpa using hl) e hi
def rsOf (r : List Addr) (ls : List Nat) : List Addr := ls.map fun i => r.getD i 0
def shutOf (F r rs : List Addr) : List Addr := F ++ r.filter fun a => decide (a ∉ rs)
section
variable {K : PySem.W.Frag} {F : List Addr} {H H' : Hp} {r r' : List Addr} {st s2 : Store} {ls : List Nat} {sub : Store} {v : V} {p : PV} {vs : List V} {ps : List PV}
theorem rs_get (h : ∀ i ∈ ls, i < r.length) {k i : Nat} (e : ls[k]? = some i) : (rsOf r ls)[k]? = r[i]? := by
  unfold rsOf
  rw [List.getElem?_map, e]
  have := h i (List.mem_of_getElem? e)
  simp [List.getD, List.getElem?_eq_getElem this]
theorem rs_mem (h : ∀ i ∈ ls, i < r.length) {a : Addr} (m : a ∈ rsOf r ls) : ∃ (k i : Nat), ls[k]? = some i ∧ r[i]? = some a ∧ (rsOf r ls)[k]? = some a := by
  obtain ⟨k, e⟩ := List.mem_iff_getElem?.mp m
  have e0 := e
  unfold rsOf at e
  rw [List.getElem?_map] at e
  cases hk : ls[k]? with
  | none => rw [hk] at e; cases e
  | some i =>
    refine ⟨k, i, hk, ?_, e0⟩
    rw [← rs_get h hk]
    exact e0
theorem rs_sub (h : ∀ i ∈ ls, i < r.length) {a : Addr} (m : a ∈ rsOf r ls) : a ∈ r := by
  obtain ⟨k, i, _, e, _⟩ := rs_mem h m
  exact List.mem_of_getElem? e
theorem shut_cov {rs : List Addr} {b : Addr} (h : b ∈ r ∨ b ∈ F) : b ∈ rs ∨ b ∈ shutOf F r rs := by
  by_cases hb : b ∈ rs
  · exact .inl hb
  · rcases h with h | h
    · exact .inr (List.mem_append_right _ (List.mem_filter.mpr ⟨h, by simpa using hb⟩))
    · exact .inr (List.mem_append_left _ h)
theorem shut_sub {rs : List Addr} {b : Addr} (h : b ∈ shutOf F r rs) : b ∈ r ∨ b ∈ F := by
  rcases List.mem_append.mp h with h | h
  · exact .inr h
  · exact .inl (List.mem_filter.mp h).1
theorem ls_lt (R : Rel K F H r st) (hs : subSt st ls = some sub) : ∀ i ∈ ls, i < r.length := fun i hi => by
  obtain ⟨k, e⟩ := List.mem_iff_getElem?.mp hi
  obtain ⟨xs, h1, _⟩ := (sub_facts hs).2 k i e
  rw [R.len]
  exact (List.getElem?_eq_some_iff.mp h1).1
theorem rs_nd (R : Rel K F H r st) (hs : subSt st ls = some sub) (nd : ls.Nodup) : (rsOf r ls).Nodup := by
  have hlt := ls_lt R hs
  unfold rsOf List.Nodup
  rw [List.pairwise_map]
  refine List.Pairwise.imp_of_mem (fun {a b} ha hb hne e => hne ?_) nd
  have ga : r[a]? = some (r.getD a 0) := by simp [List.getD, List.getElem?_eq_getElem (hlt a ha)]
  have gb : r[b]? = some (r.getD b 0) := by simp [List.getD, List.getElem?_eq_getElem (hlt b hb)]
  rw [← e] at gb
  exact nd_ix R.nd ga gb
theorem Rel.enter (R : Rel K F H r st) (hs : subSt st ls = some sub) (nd : ls.Nodup) : Rel K (shutOf F r (rsOf r ls)) H (rsOf r ls) sub := by
  have hlt := ls_lt R hs
  obtain ⟨hl, hg⟩ := sub_facts hs
  refine ⟨by simp [rsOf, hl], rs_nd R hs nd, fun k a xs e1 e2 => ?_, fun a ha hf => ?_, fun a ha => ?_⟩
  · have hk : k < ls.length := by
      have := (List.getElem?_eq_some_iff.mp e2).1
      omega
    have e3 := List.getElem?_eq_getElem hk
    obtain ⟨ys, h1, h2, h3⟩ := hg k _ e3
    rw [e2] at h2; cases h2
    rw [rs_get hlt e3] at e1
    obtain ⟨vs, q1, q2⟩ := R.cells _ a xs e1 h1
    exact ⟨vs, q1, Reps.back (fun b hb => .inl (rs_sub hlt hb)) (fun b hb => shut_sub hb) q2 h3⟩
  · rcases List.mem_append.mp hf with h | h
    · exact R.apart a (rs_sub hlt ha) h
    · exact absurd ha (by simpa using (List.mem_filter.mp h).2)
  · rcases shut_sub ha with h | h
    · exact R.isl h
    · exact R.fs a h
theorem ren_free (h : p.free = true) : ren ls p = p := by
  cases p <;> first | rfl | cases h
theorem Reps.enter (R : Rel K F H r st) (hs : subSt st ls = some sub) : ∀ {vs : List V} {ps : List PV}, Reps K F H r vs ps → (∀ i, PV.loc i ∈ ps → i ∈ ls) → ps.all argOk = true → Reps K (shutOf F r (rsOf r ls)) H (rsOf r ls) vs (ps.map (ren ls))
  | _, _, .nil, _, _ => .nil
  | _, _, .cons (d := p) h q, m, ok => by
    simp only [List.all_cons, Bool.and_eq_true] at ok
    have hlt := ls_lt R hs
    refine .cons ?_ (q.enter R hs (fun i hi => m i (List.mem_cons_of_mem _ hi)) ok.2)
    by_cases hf : p.free = true
    · rw [ren_free hf]
      exact h.back (fun b hb => .inl (rs_sub hlt hb)) (fun b hb => shut_sub hb) hf
    · cases h with
      | @loc a i e =>
        have hi : i ∈ ls := m i List.mem_cons_self
        have hx : ls.idxOf i < ls.length := List.idxOf_lt_length_iff.mpr hi
        have e2 : ls[ls.idxOf i]? = some i := by rw [List.getElem?_eq_getElem hx, List.getElem_idxOf]
        exact .loc (by rw [rs_get hlt e2]; exact e)
      | non => exact absurd rfl hf
      | bl => exact absurd rfl hf
      | int => exact absurd rfl hf
      | str => exact absurd rfl hf
      | lsv _ _ => exact absurd ok.1 hf
      | tup _ _ => exact absurd ok.1 hf
      | exn _ _ _ => exact absurd ok.1 hf
      | dct _ _ => exact absurd ok.1 hf
      | rgo _ => exact absurd ok.1 hf
theorem Aft.leave {rs ex : List Addr} (A : Aft rs H r' H') (hsub : ∀ b ∈ rs, b ∈ r) (hex : ∀ b ∈ ex, b ∈ r') : Aft r H (r ++ ex) H' := by
  refine ⟨⟨ex, rfl⟩, fun a o e n => ?_⟩
  obtain ⟨q1, q2⟩ := A.keep a o e fun m => n (hsub a m)
  refine ⟨q1, fun m => ?_⟩
  rcases List.mem_append.mp m with m | m
  · exact n m
  · exact q2 (hex a m)
theorem cells_leave {ex : List Addr} (R : Rel K F H r st) (hs : subSt st ls = some sub) (nd : ls.Nodup) (A : Aft (rsOf r ls) H r' H') (R2 : Rel K (shutOf F r (rsOf r ls)) H' r' s2) (hm : ls.length ≤ s2.length) (hfl : flatSt (s2.take ls.length) = true)
    (hex : ∀ b ∈ ex, b ∈ r') : ∀ (i : Nat) (a : Addr) (xs : List PV), r[i]? = some a → (putSt st ls (s2.take ls.length))[i]? = some xs → ∃ vs, H' a = some (.lst vs) ∧ Reps K F H' (r ++ ex) vs xs := by
  intro i a xs e1 e2
  have hlt := ls_lt R hs
  have AL : Aft r H (r ++ ex) H' := A.leave (fun b hb => rs_sub hlt hb) hex
  have hi : i < st.length := by rw [← R.len]; exact (List.getElem?_eq_some_iff.mp e1).1
  by_cases hin : i ∈ ls
  · obtain ⟨k, ek⟩ := List.mem_iff_getElem?.mp hin
    have hk : k < ls.length := (List.getElem?_eq_some_iff.mp ek).1
    rw [put_in ls _ k nd (by simp [hm]) ek hi] at e2
    have hfx : freeAll xs = true := by
      have := List.all_eq_true.mp hfl xs (List.mem_of_getElem? e2)
      exact this
    rw [List.getElem?_take_of_lt hk] at e2
    have e3 : r'[k]? = some a := A.get (by rw [rs_get hlt ek]; exact e1)
    obtain ⟨vs, q1, q2⟩ := R2.cells k a xs e3 e2
    refine ⟨vs, q1, Reps.back (fun b hb => ?_) (fun b hb => ?_) q2 hfx⟩
    · rcases List.mem_append.mp hb with hb | hb
      · rcases shut_cov (F := F) (rs := rsOf r ls) (.inl hb) with z | z
        · obtain ⟨y, ey⟩ := A.pre
          exact .inl (by rw [ey]; exact List.mem_append_left _ z)
        · exact .inr z
      · exact .inl (hex b hb)
    · exact .inr (List.mem_append_left _ hb)
  · rw [put_out ls _ hin] at e2
    obtain ⟨vs, q1, q2⟩ := R.cells i a xs e1 e2
    have hn : a ∉ rsOf r ls := fun m => by
      obtain ⟨k, j, ek, ej, _⟩ := rs_mem hlt m
      have : i = j := nd_ix R.nd e1 ej
      subst this
      exact hin (List.mem_of_getElem? ek)
    exact ⟨vs, (A.keep a _ q1 hn).1, Reps.aft R AL q2⟩
theorem Rel.leave (R : Rel K F H r st) (hs : subSt st ls = some sub) (nd : ls.Nodup) (A : Aft (rsOf r ls) H r' H') (R2 : Rel K (shutOf F r (rsOf r ls)) H' r' s2) (hm : ls.length ≤ s2.length) (hfl : flatSt (s2.take ls.length) = true) :
    Rel K F H' r (putSt st ls (s2.take ls.length)) := by
  have hlt := ls_lt R hs
  refine ⟨by rw [put_len]; exact R.len, R.nd, fun i a xs e1 e2 => ?_, R.apart, fun a ha => ?_⟩
  · obtain ⟨vs, q1, q2⟩ := cells_leave (ex := []) R hs nd A R2 hm hfl (fun b hb => by simp at hb) i a xs e1 e2
    rw [List.append_nil] at q2
    exact ⟨vs, q1, q2⟩
  · obtain ⟨vs, q⟩ := R.fs a ha
    exact ⟨vs, (A.keep a _ q fun m => R.apart a (rs_sub hlt m) ha).1⟩
theorem own_new (R : Rel K F H r st) (hs : subSt st ls = some sub) (A : Aft (rsOf r ls) H r' H') (R2 : Rel K (shutOf F r (rsOf r ls)) H' r' s2) {j : Nat} {a : Addr} (e : r'[j]? = some a) (hj : ls.length ≤ j) : a ∉ r ∧ a ∉ F := by
  have n1 : a ∉ rsOf r ls := fun m => by
    obtain ⟨k, hk⟩ := List.mem_iff_getElem?.mp m
    have e2 : r'[k]? = some a := A.get hk
    have : j = k := nd_ix R2.nd e e2
    have hk2 := (List.getElem?_eq_some_iff.mp hk).1
    simp [rsOf] at hk2
    omega
  have n2 : a ∉ shutOf F r (rsOf r ls) := R2.apart a (List.mem_of_getElem? e)
  refine ⟨fun m => ?_, fun m => ?_⟩
  · rcases shut_cov (F := F) (rs := rsOf r ls) (.inl m) with z | z
    · exact n1 z
    · exact n2 z
  · exact n2 (List.mem_append_left _ m)
theorem Rel.leaveN (R : Rel K F H r st) (hs : subSt st ls = some sub) (nd : ls.Nodup) (A : Aft (rsOf r ls) H r' H') (R2 : Rel K (shutOf F r (rsOf r ls)) H' r' s2) (hm : ls.length ≤ s2.length) (hfl : flatSt (s2.take ls.length) = true)
    {j : Nat} {a : Addr} {xs : List PV} (e : r'[j]? = some a) (hj : ls.length ≤ j) (ex : s2[j]? = some xs) (hx : freeAll xs = true) : Rel K F H' (r ++ [a]) (putSt st ls (s2.take ls.length) ++ [xs]) := by
  have hlt := ls_lt R hs
  obtain ⟨n1, n2⟩ := own_new R hs A R2 e hj
  have R3 := R.leave hs nd A R2 hm hfl
  have hex : ∀ b ∈ [a], b ∈ r' := fun b hb => by rw [List.mem_singleton] at hb; subst hb; exact List.mem_of_getElem? e
  have pl : (putSt st ls (s2.take ls.length)).length = r.length := by rw [put_len, R.len]
  refine ⟨by simp [pl], ?_, fun i b ys e1 e2 => ?_, fun b hb => ?_, R3.fs⟩
  · rw [List.nodup_append]
    refine ⟨R.nd, by simp, fun x hx y hy => ?_⟩
    rw [List.mem_singleton] at hy
    rintro rfl
    exact n1 (hy ▸ hx)
  · by_cases hi : i < r.length
    · rw [List.getElem?_append_left hi] at e1
      rw [List.getElem?_append_left (by omega)] at e2
      exact cells_leave R hs nd A R2 hm hfl hex i b ys e1 e2
    · rw [List.getElem?_append_right (by omega)] at e1
      rw [List.getElem?_append_right (by omega)] at e2
      have hz : i - r.length = 0 := by
        have := (List.getElem?_eq_some_iff.mp e1).1
        simp at this; omega
      rw [hz] at e1
      rw [pl, hz] at e2
      simp at e1 e2
      subst e1; subst e2
      obtain ⟨vs, q1, q2⟩ := R2.cells j a xs e ex
      refine ⟨vs, q1, Reps.back (fun b hb => ?_) (fun b hb => ?_) q2 hx⟩
      · rcases List.mem_append.mp hb with hb | hb
        · rcases shut_cov (F := F) (rs := rsOf r ls) (.inl hb) with z | z
          · obtain ⟨y, ey⟩ := A.pre
            exact .inl (by rw [ey]; exact List.mem_append_left _ z)
          · exact .inr z
        · exact .inl (hex b hb)
      · exact .inr (List.mem_append_left _ hb)
  · rcases List.mem_append.mp hb with hb | hb
    · exact R.apart b hb
    · rw [List.mem_singleton] at hb; subst hb; exact n2
theorem frz_back (R : Rel K F H r st) (hs : subSt st ls = some sub) (A : Aft (rsOf r ls) H r' H') (R2 : Rel K (shutOf F r (rsOf r ls)) H' r' s2) :
    ∀ (k : Nat), (∀ {v : V} {p q : PV}, Rep K (shutOf F r (rsOf r ls)) H' r' v p → frz ls.length s2 k p = some q → Rep K F H' r v q) ∧
      ∀ {vs : List V} {ps qs : List PV}, Reps K (shutOf F r (rsOf r ls)) H' r' vs ps → ps.mapM (frz ls.length s2 k) = some qs → Reps K F H' r vs qs := by
  have hlt := ls_lt R hs
  have cov : ∀ b, b ∈ r → (b ∈ r' ∨ b ∈ shutOf F r (rsOf r ls)) := fun b hb => by
    rcases shut_cov (F := F) (rs := rsOf r ls) (.inl hb) with z | z
    · obtain ⟨y, ey⟩ := A.pre
      exact .inl (by rw [ey]; exact List.mem_append_left _ z)
    · exact .inr z
  have covF : ∀ b, b ∈ F → (b ∈ r' ∨ b ∈ shutOf F r (rsOf r ls)) := fun b hb => .inr (List.mem_append_left _ hb)
  have many : ∀ k, (∀ {v : V} {p q : PV}, Rep K (shutOf F r (rsOf r ls)) H' r' v p → frz ls.length s2 k p = some q → Rep K F H' r v q) →
      ∀ {ps : List PV} {vs : List V} {qs : List PV}, Reps K (shutOf F r (rsOf r ls)) H' r' vs ps → ps.mapM (frz ls.length s2 k) = some qs → Reps K F H' r vs qs := by
    intro k one ps
    induction ps with
    | nil =>
      intro vs qs h e
      cases h
      cases e
      exact .nil
    | cons p ps ih =>
      intro vs qs h e
      cases h with
      | cons h1 h2 =>
        rw [List.mapM_cons] at e
        cases e1 : frz ls.length s2 k p with
        | none => rw [e1] at e; cases e
        | some q =>
          rw [e1] at e
          cases e2 : ps.mapM (frz ls.length s2 k) with
          | none => rw [e2] at e; cases e
          | some qs2 =>
            rw [e2] at e
            cases e
            exact .cons (one h1 e1) (ih h2 e2)
  intro k
  induction k with
  | zero =>
    have one : ∀ {v : V} {p q : PV}, Rep K (shutOf F r (rsOf r ls)) H' r' v p → frz ls.length s2 0 p = some q → Rep K F H' r v q := by
      intro v p q h e
      unfold frz at e
      split at e
      · rename_i hf
        cases e
        exact h.back cov covF hf
      · cases e
    exact ⟨one, many 0 one⟩
  | succ k ih =>
    have one : ∀ {v : V} {p q : PV}, Rep K (shutOf F r (rsOf r ls)) H' r' v p → frz ls.length s2 (k + 1) p = some q → Rep K F H' r v q := by
      intro v p q h e
      unfold frz at e
      split at e
      · rename_i hf
        cases e
        exact h.back cov covF hf
      · cases h with
        | non => cases e
        | bl => cases e
        | int => cases e
        | str => cases e
        | exn => cases e
        | dct => cases e
        | rgo => cases e
        | @loc a i hi =>
          dsimp only at e
          split at e
          · cases e
          · rename_i hj
            split at e
            · rename_i xs hx
              cases e2 : xs.mapM (frz ls.length s2 k) with
              | none => rw [e2] at e; cases e
              | some ys =>
                rw [e2] at e
                cases e
                obtain ⟨vs, q1, q2⟩ := R2.cells i a xs hi hx
                obtain ⟨n1, n2⟩ := own_new R hs A R2 hi (by omega)
                exact .lsv (.inl ⟨q1, n1, n2⟩) (ih.2 q2 e2)
            · cases e
        | @tup a us ds hq hr =>
          dsimp only at e
          cases e2 : ds.mapM (frz ls.length s2 k) with
          | none => rw [e2] at e; cases e
          | some ys =>
            rw [e2] at e
            cases e
            exact .tup hq (ih.2 hr e2)
        | @lsv a us ds hq hr =>
          dsimp only at e
          cases e2 : ds.mapM (frz ls.length s2 k) with
          | none => rw [e2] at e; cases e
          | some ys =>
            rw [e2] at e
            cases e
            exact .lsv (hq.back cov covF) (ih.2 hr e2)
    exact ⟨one, many (k + 1) one⟩
end
end L2.Iv
namespace L2.Iv
open PySem PySem.Spec PyProof.Rows
section
variable {P : Program} {w : World} {K : PySem.W.Frag} {mg : Str → Option Value} {base : Heap} {g : Sg}
theorem env_enter {F : List Addr} {H : Hp} {r : List Addr} {N : List Str} : ∀ {vs : List V} {ps : List PV}, Reps K F H r vs ps → EnvRel K F H r (ps.map some ++ List.replicate (N.length - ps.length) none) (start N vs) := by
  intro vs ps h
  have hl := h.length
  refine ⟨by simp [start, hl], fun i p e => ?_⟩
  by_cases hi : i < ps.length
  · rw [List.getElem?_append_left (by simpa using hi), List.getElem?_map] at e
    cases e2 : ps[i]? with
    | none => rw [e2] at e; cases e
    | some q =>
      rw [e2] at e
      cases e
      obtain ⟨v, h1, h2⟩ := h.get2 e2
      refine ⟨v, ?_, h2⟩
      unfold start
      rw [List.getElem?_append_left (by simp; omega), List.getElem?_map, h1]
      rfl
  · rw [List.getElem?_append_right (by simpa using hi), List.getElem?_replicate] at e
    split at e <;> cases e
theorem callF_succ (cl : Str → Nat) (ec : List (Str × List Str)) (tb : List (Str × Fn)) (gl : Str → Option PV) (n : Nat) (f : Str) (args : List PV) (st : Store) : callF cl ec tb gl (n + 1) f args st = (match tb.lookup f with
    | none => .bad
    | some fn => if args.length = fn.ps.length ∧ args.all argOk = true then match subSt st (locs args) with
        | some sub => match runB ⟨callF cl ec tb gl n, gl, cl, ec⟩ fn (args.map (ren (locs args))) sub with
          | .ok v s2 => backV fn.mt (locs args) st v s2
          | .exc c v s2 => (backV false (locs args) st v s2).bind fun v' st2 => .exc c v' st2
          | .bad => .bad
        | none => .bad
      else .bad) := rfl
theorem call_post {F : List Addr} {H : Hp} {r : List Addr} {st : Store} {Q : VK} {E : XK} {n : Nat} {f : Str} {fn : Fn} {vs : List V} {ps : List PV} (hl : g.tb.lookup f = some fn) (R : Rel K F H r st) (Vh : Reps K F H r vs ps)
    (h : Post K F (xw mg E) r H Q ((g.ctx (clOf mg) (n + 1)).fn f ps st)) :
    vs.length = fn.ps.length ∧ ∃ F', tIS K F' (sw mg fun cls d _ H' => E cls d H') (evSs (g.ctx (clOf mg) n) fn.body) { nx := fun _ H' => Q .non H', rt := Q } (start fn.N vs) H := by
  have h : Post K F (xw mg E) r H Q (callF (clOf mg) g.ecs g.tb (fun x => g.gl.lookup x) (n + 1) f ps st) := h
  rw [callF_succ, hl] at h
  dsimp only at h
  split at h
  · rename_i hc
    cases hs : subSt st (locs ps) with
    | none => rw [hs] at h; exact h.elim
    | some sub =>
      rw [hs] at h
      dsimp only at h
      refine ⟨by rw [Vh.length]; exact hc.1, shutOf F r (rsOf r (locs ps)), rsOf r (locs ps), _, sub, R.enter hs (locs_nd ps), env_enter (Vh.enter R hs (fun i hi => locs_mem hi) hc.2), ?_⟩
      have hrun : runB ⟨callF (clOf mg) g.ecs g.tb (fun x => g.gl.lookup x) n, fun x => g.gl.lookup x, clOf mg, g.ecs⟩ fn (ps.map (ren (locs ps))) sub = (evSs (g.ctx (clOf mg) n) fn.body ((ps.map (ren (locs ps))).map some ++ List.replicate (fn.N.length - (ps.map (ren (locs ps))).length) none) sub).quiet.bind fun f st1 => match f with
        | .rt v => .ok v st1
        | .nx _ => .ok .non st1
        | .rz c v _ => .exc c v st1
        | _ => .bad := rfl
      rw [hrun] at h
      have hsub : ∀ b ∈ rsOf r (locs ps), b ∈ r := fun b hb => rs_sub (ls_lt R hs) hb
      -- a value that is handed back frozen
      have cold : ∀ {p v' : PV} {s2 st2 : Store} {v : V} {H' : Hp} {r' : List Addr}, backV false (locs ps) st p s2 = .ok v' st2 → Aft (rsOf r (locs ps)) H r' H' → Rel K (shutOf F r (rsOf r (locs ps))) H' r' s2 → Rep K (shutOf F r (rsOf r (locs ps))) H' r' v p →
          Aft r H r H' ∧ Rel K F H' r st2 ∧ Rep K F H' r v v' := by
        intro p v' s2 st2 v H' r' e A R2 hp
        unfold backV at e
        dsimp only at e
        split at e
        · rename_i hm
          rw [if_neg Bool.false_ne_true] at e
          split at e
          · rename_i v2 hv
            cases e
            have A0 : Aft r H r H' := by
              have := A.leave (ex := []) hsub fun b hb => by simp at hb
              rw [List.append_nil] at this
              exact this
            exact ⟨A0, R.leave hs (locs_nd ps) A R2 hm.1 hm.2, (frz_back R hs A R2 64).1 hp hv⟩
          · cases e
        · cases e
      -- the end of the callee's body
      have fin : ∀ {p : PV} {s2 : Store} {v : V} {H' : Hp} {r' : List Addr}, Post K F (xw mg E) r H Q (backV fn.mt (locs ps) st p s2) → Aft (rsOf r (locs ps)) H r' H' → Rel K (shutOf F r (rsOf r (locs ps))) H' r' s2 → Rep K (shutOf F r (rsOf r (locs ps))) H' r' v p → Q v H' := by
        intro p s2 v H' r' h A R2 hp
        cases hmt : fn.mt with
        | false =>
          rw [hmt] at h
          cases e : backV false (locs ps) st p s2 with
          | bad => rw [e] at h; exact h.elim
          | exc =>
            exfalso
            unfold backV at e
            dsimp only at e
            split at e
            · rw [if_neg Bool.false_ne_true] at e
              split at e <;> cases e
            · cases e
          | ok v' st2 =>
            rw [e] at h
            obtain ⟨a1, a2, a3⟩ := cold e A R2 hp
            exact h v H' r a1 a2 a3
        | true =>
          rw [hmt] at h
          unfold backV at h
          dsimp only at h
          split at h
          · rename_i hm
            rw [if_pos rfl] at h
            cases hp with
            | @loc a j e =>
              dsimp only at h
              split at h
              · rename_i xs hx
                split at h
                · rename_i hj
                  refine h _ H' (r ++ [a]) (A.leave hsub fun b hb => ?_) (R.leaveN hs (locs_nd ps) A R2 hm.1 hm.2 e hj.1 hx hj.2) (.loc ?_)
                  · rw [List.mem_singleton] at hb; subst hb; exact List.mem_of_getElem? e
                  · rw [put_len, ← R.len]
                    simp
                · exact h.elim
              · exact h.elim
            | _ => exact h.elim
          · exact h.elim
      cases hb : evSs (g.ctx (clOf mg) n) fn.body ((ps.map (ren (locs ps))).map some ++ List.replicate (fn.N.length - (ps.map (ren (locs ps))).length) none) sub with
      | bad => rw [hb] at h; exact h.elim
      | exc c v s2 =>
        rw [hb] at h
        exact h.elim
      | ok fl s2 =>
        rw [hb] at h
        simp only [quiet_ok, bind_ok] at h
        cases fl with
        | rt p => exact fun v H' r' A R2 hp => fin h A R2 hp
        | nx e => exact fun σ' H' r' A R2 _ => fin h A R2 .non
        | bk e => exact h.elim
        | ct e => exact h.elim
        | rz c p e =>
          intro σ' v H' r' A R2 _ hp
          dsimp only at h
          cases e2 : backV false (locs ps) st p s2 with
          | bad => rw [e2] at h; exact h.elim
          | exc =>
            exfalso
            unfold backV at e2
            dsimp only at e2
            split at e2
            · rw [if_neg Bool.false_ne_true] at e2
              split at e2 <;> cases e2
            · cases e2
          | ok v' st2 =>
            rw [e2] at h
            obtain ⟨a1, a2, a3⟩ := cold e2 A R2 hp
            exact h v H' r a1 a2 a3
  · exact h.elim
theorem fn_keeps {n : Nat} {f qual : Str} {fn : Fn} {st : Stmt} {a : Addr} {fd : FuncData} (hh : g.hot = false) (L : Link P w K mg base g n) (hl : g.tb.lookup f = some fn) (D : Fun K f qual st a fd) (S : FnScope fn.N fn.ps (defScope st)) (c : chkSs g fn.N (defScope st) (defScope st) fn.body (defBody st) = true) :
    FnG P w K mg base (n + 1) a fd fn.ps (spI K mg g (n + 1) f) := by
  obtain ⟨oc, od, kV, doc, pm, an, cdv, ct, osl, rfl, lk, hcd⟩ := D.ex
  refine ⟨fun vs H Q E ⟨F, r, st, ps, R, Vh, h⟩ => (call_post hl R Vh h).1, ?_⟩
  intro A outer s H args us vs Q E hr hg e0 hb rv ⟨F, r, st1, ps, R, Vh, h⟩
  obtain ⟨hlen, F', hq⟩ := call_post hl R Vh h
  have hin : K.In s.heap := e0.mod.kin.keeps fun b o e => (e0.bs b o e).1
  have params : ∀ y ∈ fn.ps.zip us, (defScope st).names.lookup y.1 = some .local ∨ ((defScope st).names.lookup y.1 = some .cell ∧ ((cellsFrom (s.heap.objs.size + 1) (defScope st).names []).lookup y.1).isSome = true) := fun y hy => by
    rcases S.par y.1 (List.of_mem_zip hy).1 with q | q
    · exact .inl q
    · exact .inr ⟨q, PySem.W.cellsFrom_some _ _ _ (.inl q)⟩
  refine codeAny_call_function hr.depth (hin _ _ lk) rfl S.co S.gen rfl (PySem.W.codeRec_of hin hcd) (hb _ _ _ _ ?_)
  refine wpAny_newFunctionEnv_cells S.kind params fun env he s1 x => ?_
  subst he
  refine ⟨Heap.NoLimit.keeps (e0.mod.nolimit.keeps fun b o e => (e0.bs b o e).1) x.toInCall.keep, codeAny_func ?_⟩
  let X := cxOf (L2N.CX P w) P w K mg base fn.N qual (defScope st) a cdv A outer s H E
  have rd : Room (n + 2) X.A := Room.deeper (show Room (n + 2 + 1) A from hr) _
  have Sd : Std X g n fn.N (defScope st) (defScope st) (fun cls d _ H' => E cls d H') := ⟨⟨rd.dp, rd.un, hg, fun _ => rd.hd, fun _ => rfl⟩, L, rfl, S.nd, rfl, fun x hx => ⟨hx, .inl rfl⟩, L2N.takes_of rfl rfl rfl rfl⟩
  have I : Inv X [] (start fn.N vs) H s1 := inv_start S hr.hd e0 hlen rv x
  have body := (snd_Ss fn.body Sd ⟨rfl, rfl, rfl, passes_of rfl⟩ S.kind c F').run [] s1 (start fn.N vs) H _ I hq
  refine wpAny_mono body (fun fl s' hs => ?_) fun e s' hs => hs
  have done : ∀ {σ' : St} {H' : Hp} {v : V} {u : Value}, Inv X [] σ' H' s' → RelV v u → Q v H' → CE outer P w H s Q u s' := fun {σ' H' v u} J rv q => ⟨v, H', J.os, J.bare, J.base, J.hok, rv, q⟩
  cases fl with
  | next => obtain ⟨σ', H', J, q⟩ := hs; exact done (v := V.non) (u := Value.none) J rfl q
  | ret u => obtain ⟨v, σ', H', J, rv, q⟩ := hs; exact done J rv q
  | brk => obtain ⟨_, _, _, q⟩ := hs; exact False.elim q
  | cont => obtain ⟨_, _, _, q⟩ := hs; exact False.elim q
theorem init_keeps {x qual : Str} {st : Stmt} {fI : Addr} {fd : FuncData} {p1 p2 p3 p4 p5 p6 q1 q2 q3 q4 : Pos} {pl : PySem.Env → Sem Bool} (D : Fun K x qual st fI fd) (S : FnScope ["self", "value"] ["self", "value"] (defScope st)) (hse : Vis (defScope st) "self") (vv : Vis (defScope st) "value")
    (hg : (defScope st).names.lookup (Str.ofString "ValueError") = some NameKind.globalImplicit) (hm : mg "ValueError" = none) (vV : PySem.W.findCls K (.type "ValueError") (.type "type") "__init__" = some (.val (.builtin "ValueError.__init__")))
    (hb : defBody st = [.Expr (.Call (.Attribute (.Name "ValueError" p1) "__init__" p2) [.Name "self" p3, .Name "value" p4] [] p5) p6, .Assign [.Attribute (.Name "self" q1) "value" q2] (.Name "value" q3) q4])
    (hc : ∀ env : PySem.Env, eval (.Call (.Attribute (.Name "ValueError" p1) "__init__" p2) [.Name "self" p3, .Name "value" p4] [] p5) env = (do
      let ov ← eval (.Name "ValueError" p1) env
      standAt p2.atName
      let (f, first) ← holding [ov] (getMethod ov "__init__" (pl env))
      callWith p5 f first (backTo p5 (starEach [.Name "self" p3, .Name "value" p4] env)) (backToKw p5 (keywordEach [] env)))) : FnOk P w K mg base CX0 1 fI fd ["self", "value"] (spInit K) := by
  refine D.ok S (fun vs H Q E ⟨a, C, v, e, _⟩ => by rw [e]; rfl) fun cdv A outer s H vs Q E hr ⟨a, C, v, e, T, hno, ha, q⟩ => ?_
  rw [hb]
  have e1 : PE (cxOf CX0 P w K mg base ["self", "value"] qual (defScope st) fI cdv A outer s H E).nox (.Name "self" p3) (tVar 0) := pe_var rfl hse (by decide) (by decide)
  have e2 : PE (cxOf CX0 P w K mg base ["self", "value"] qual (defScope st) fI cdv A outer s H E).nox (.Name "value" p4) (tVar 1) := pe_var rfl vv (by decide) (by decide)
  have e3 : PE (cxOf CX0 P w K mg base ["self", "value"] qual (defScope st) fI cdv A outer s H E).nox (.Name "self" q1) (tVar 0) := pe_var rfl hse (by decide) (by decide)
  have e4 : PE (cxOf CX0 P w K mg base ["self", "value"] qual (defScope st) fI cdv A outer s H E).nox (.Name "value" q3) (tVar 1) := pe_var rfl vv (by decide) (by decide)
  refine ⟨_, pss_cons (ps_expr (pe_veinit (pl := pl _) hg hm vV (pa_cons e1 (pa_cons e2 pa_nil)) (hc _) rfl rfl) rfl) (pss_cons (ps_ost e3 e4 rfl) pss_nil), ?_⟩
  subst e
  refine ⟨_, rfl, _, rfl, a, C, [v], rfl, by show 1 ≤ 1000; decide, T, ha, ?_⟩
  exact ⟨_, rfl, _, rfl, a, C, rfl, T, hno, .inl ⟨ha, fun dx hn ne => q dx hn ne⟩⟩
structure EcAt (K : PySem.W.Frag) (mg : Str → Option Value) (g : Sg) (c : Str) (anc : List Str) (C : Addr) : Prop where
  mgc : mg c = some (.ref C)
  ox : OexC K C
  kit : KitC K C
  nn : PySem.W.kitOne K (.type "NoneType") (.ref C) = some false
  isa : ∀ x cv u, ExN mg g x cv u → PySem.W.kitOne K (.ref C) u = some (decide (x ∈ anc)) ∧ PySem.W.exmOne K (.ref C) u = some (decide (x ∈ anc))
  made : ∃ fI fd, PySem.W.findIn K (.ref C) "__init__" = some (some (.ref fI)) ∧ PySem.W.typeIn K (.ref fI) = some (.type "function") ∧ (∀ (P : Program) (w : World) (base : Heap), FnOk P w K mg base CX0 1 fI fd ["self", "value"] (spInit K)) ∧ Binds K fd ["self", "value"] []
structure DefAt (K : PySem.W.Frag) (mg : Str → Option Value) (g : Sg) (f : Str) (fn : Fn) (a : Addr) (fd : FuncData) : Prop where
  mgf : mg f = some (.ref a)
  fun' : ∃ st qual, Fun K f qual st a fd ∧ FnScope fn.N fn.ps (defScope st) ∧ chkSs g fn.N (defScope st) (defScope st) fn.body (defBody st) = true
  bd : ∀ (s : Shared) (us : List Value), us.length = fn.ps.length → BindsTo s fd ⟨us, []⟩ (fn.ps.zip us)
  kw : ∀ ks np perm, (f, ks, np, perm) ∈ g.kcs → ∀ (s : Shared) (us ws : List Value), us.length = np → ws.length = ks.length → BindsTo s fd ⟨us, ks.zip ws⟩ (fn.ps.zip (perm.map fun i => (us ++ ws).getD i .none))
structure Prg (K : PySem.W.Frag) (mg : Str → Option Value) (g : Sg) : Prop where
  fn : ∀ f fn, g.tb.lookup f = some fn → ∃ a fd, DefAt K mg g f fn a fd
  gl : ∀ x p, g.gl.lookup x = some p → ∃ u v, mg x = some u ∧ RelV v u ∧ ∀ F H r, Rep K F H r v p
  bs : ∀ x, x ∈ g.bs → mg x = none
  ec : ∀ c anc, g.ecs.lookup c = some anc → ∃ C, EcAt K mg g c anc C
  cool : g.hot = false
theorem Prg.ecs (G : Prg K mg g) : ∀ c anc, g.ecs.lookup c = some anc → ∃ C, EcF P w K mg base g c anc C := fun c anc h => by
  obtain ⟨C, T⟩ := G.ec c anc h
  obtain ⟨fI, fd, h1, h2, h3, h4⟩ := T.made
  exact ⟨C, T.mgc, T.ox, T.kit, T.nn, T.isa, fI, fd, h1, h2, h3 P w base, h4⟩
theorem Prg.link (G : Prg K mg g) : ∀ n : Nat, Link P w K mg base g n
  | 0 => by
    refine ⟨fun f fn hl => ?_, G.gl, G.bs, G.ecs⟩
    obtain ⟨a, fd, D⟩ := G.fn f fn hl
    obtain ⟨st, qual, h1, h2, h3⟩ := D.fun'
    have no : ∀ {vs : List V} {H : Hp} {Q : VK} {E : XK}, spI K mg g 0 f vs H Q E → False := fun ⟨F, r, st, ps, R, Vh, h⟩ => h
    exact ⟨a, fd, D.mgf, h1.kp, ⟨fun vs H Q E h => (no h).elim, fun _ _ _ _ _ _ _ _ _ _ _ _ _ _ h => (no h).elim⟩, D.bd, D.kw⟩
  | n + 1 => by
    refine ⟨fun f fn hl => ?_, G.gl, G.bs, G.ecs⟩
    obtain ⟨a, fd, D⟩ := G.fn f fn hl
    obtain ⟨st, qual, h1, h2, h3⟩ := D.fun'
    exact ⟨a, fd, D.mgf, h1.kp, fn_keeps G.cool (G.link n) hl h1 h2 h3, D.bd, D.kw⟩
end
theorem reps_of_ints {K : PySem.W.Frag} {F : List Addr} {H : Hp} {r : List Addr} : ∀ ns : List Int, Reps K F H r (ns.map V.int) (ns.map PV.int)
  | [] => .nil
  | n :: ns => .cons (.int n) (reps_of_ints ns)
def scriptH (own : Bool) (a : Addr) (o : Obj) (xs : List V) : Hp := fun b => if own = false ∧ b = a then some (.frz o (.lst xs)) else none
theorem law_true {l : PySem.W.OpenLaw} {k : Nat} {q : Program} {loose : List Str} {XP : (Str → Option Value) → Heap → Prop} {YP : World → Heap → Prop} {d : DefRec} {K : Params → PySem.W.Frag} {g : Sg} {fn : Fn} {x : Str}
    (hn : l.most = some 63) (hdf : d.params.defaults = []) (hr : Room (k + 2) callerA) (hY : ∀ (w : World) (h : Heap), YP w h → (K w.params).In h)
    (hl : g.tb.lookup d.name = some fn) (hps : fn.ps = [x])
    (F : ∀ (w : World) (mg : Str → Option Value) (fa : Addr) (h : Heap), (K w.params).In h → h.Ns mainGlobals mg → mg d.name = some (.ref fa) → Prg (K w.params) mg g)
    (A : ∀ (cl : Str → Nat) (ns : List Int), ns.length ≤ 63 → ∃ st, callF cl g.ecs g.tb (fun y => g.gl.lookup y) k d.name [.lsv (ns.map PV.int)] [] = .ok (.bl true) st) :
    PySem.W.WalkO q loose XP YP l.row.toRowW d [] (fun f vs => PySem.call f vs) := by
  refine Att.attach_call hn hdf fun w s₀ s₁ mg mb fa o pm cd doc a vs ns G Y ho hd hcd hmg hobj hints hlen hg => ?_
  have hK := hY w _ Y
  have Pr := F w mg fa _ hK G.T.g hmg
  have rv := vals_ints hints
  have hsz : ns.length ≤ sizeLine := Nat.le_trans hlen (by decide)
  obtain ⟨own, how⟩ : ∃ own : Bool, (own = true ↔ ∃ u, (K w.params).lookup a = some u) := by
    cases e : (K w.params).lookup a with
    | none => exact ⟨false, ⟨fun z => (nomatch z), fun ⟨u, z⟩ => (nomatch z)⟩⟩
    | some u => exact ⟨true, ⟨fun _ => ⟨u, rfl⟩, fun _ => rfl⟩⟩
  generalize hso : ({ cls := .type "list", data := .seq vs.toArray } : Obj) = so at hobj
  generalize hH : scriptH own a so (ns.map V.int) = H
  have onlyA : ∀ b, H b ≠ none → own = false ∧ b = a := fun b hb => by
    rw [← hH] at hb
    unfold scriptH at hb
    by_cases c : own = false ∧ b = a
    · exact c
    · rw [if_neg c] at hb; exact absurd rfl hb
  have atA : own = false → H a = some (.frz so (.lst (ns.map V.int))) := fun e => by
    rw [← hH]
    exact if_pos ⟨e, rfl⟩
  have notK : own = false → (K w.params).lookup a = none := fun e => by
    cases z : (K w.params).lookup a with
    | none => rfl
    | some u => rw [how.mpr ⟨u, z⟩] at e; cases e
  have sees : ∀ b u, H b = some u → b = a ∧ u = .frz so (.lst (ns.map V.int)) := fun b u e => by
    obtain ⟨c1, c2⟩ := onlyA b (by rw [e]; exact fun z => nomatch z)
    subst c2
    rw [atA c1] at e
    exact ⟨rfl, (Option.some.inj e).symm⟩
  have isF : SqF (K w.params) [] H [] a (ns.map V.int) := by
    cases e : own with
    | false => exact .inr (.inl ⟨so, atA e⟩)
    | true =>
      obtain ⟨u, hu⟩ := how.mp e
      have z := hK a u hu
      rw [hobj] at z
      cases z
      subst hso
      exact .inr (.inr ⟨_, vs.toArray, _, hu, rfl, rfl, rfl, by rw [List.size_toArray, hints.length]; exact hsz, by simpa using rv⟩)
  have hok : HOk l.prog w H s₁.heap := fun b u e => by
    obtain ⟨rfl, rfl⟩ := sees b u e
    subst hso
    exact ⟨hobj, by rw [List.length_map]; exact hsz, vs, _, rv, hobj⟩
  have stays : ∀ {b : Addr} {u : Obj}, s₁.heap.get? b = some u → H b = none → (hidT s₁.heap H).get? b = some u := fun e n => hidT_get e n
  have dicts : ∀ {b : Addr} {u : Obj} {es : Array DictEntry} {ep : Nat}, s₁.heap.get? b = some u → u.data = .dict es ep → H b = none := fun {b u es ep} e d => by
    cases z : H b with
    | none => rfl
    | some y =>
      obtain ⟨rfl, _⟩ := sees b y z
      rw [hobj] at e
      cases e
      rw [← hso] at d
      have d' : Data.seq vs.toArray _ = Data.dict es ep := d
      cases d'
  have names : ∀ {b : Addr} {m : Str → Option Value}, s₁.heap.Ns b m → (hidT s₁.heap H).Ns b m := fun {b m} ⟨u, es, ep, e, d, z⟩ => ⟨u, es, ep, stays e (dicts e d), d, z⟩
  have hKb : (K w.params).In (hidT s₁.heap H) := fun b u e => stays (hK b u e) (by
    cases z : H b with
    | none => rfl
    | some y =>
      obtain ⟨c1, rfl⟩ := onlyA b (by rw [z]; exact fun z => nomatch z)
      rw [notK c1] at e
      cases e)
  have hM : Mod (K w.params) mg (hidT s₁.heap H) := ⟨hKb, names G.T.g, ⟨mb, names G.T.b, G.T.builtins⟩, let ⟨mc, h1, h2⟩ := G.T.nolimit; ⟨mc, names h1, h2⟩⟩
  have e0 : Env0 l.prog w (K w.params) mg (hidT s₁.heap H) callerA [] s₁ H := ⟨rfl, hM, fun b u e => of_hidT e, Nat.le_of_eq (hidT_size _ _), trivial, fun b hb => absurd (show b ∈ ([] : List Addr) from hb) (by simp), hok, .of_eq hg⟩
  have L : Link l.prog w (K w.params) mg (hidT s₁.heap H) g k := Pr.link k
  obtain ⟨a2, fd, hma, _, hG, hbd, _⟩ := L.fn _ fn hl
  have ea : fa = a2 := by
    rw [hmg] at hma
    cases hma
    rfl
  subst ea
  rw [hps] at hG hbd
  obtain ⟨st, hA⟩ := A (clOf mg) ns hlen
  have hsp : spI (K w.params) mg g k d.name [.ref a] H (fun v _ => v = .bl true) (fun _ _ _ => False) := by
    refine ⟨[], [], [], [.lsv (ns.map PV.int)], ⟨rfl, .nil, fun i b xs e => by simp at e, fun b hb => absurd hb (by simp), fun b hb => absurd hb (by simp)⟩, .cons (.lsv isF (reps_of_ints ns)) .nil, ?_⟩
    have hA : (g.ctx (clOf mg) k).fn d.name [.lsv (ns.map PV.int)] [] = .ok (.bl true) st := hA
    rw [hA]
    intro v H' r' _ _ hv
    cases hv
    rfl
  refine codeAny_mono (hG.run callerA [] s₁ H ⟨[.ref a], []⟩ [.ref a] [.ref a] _ _ hr rfl e0 (hbd s₁ [.ref a] rfl) (.cons rfl .nil) hsp) fun r s' h => ?_
  cases r with
  | error e => obtain ⟨_, _, _, _, _, _, _, _, _, _, _, _, z⟩ := h; exact z.elim
  | ok fl =>
    cases fl with
    | next => exact False.elim h
    | brk => exact False.elim h
    | cont => exact False.elim h
    | ret u =>
      obtain ⟨v, H', os, bare, un, hok', rr, hv⟩ := h
      have hv : v = .bl true := hv
      subst hv
      obtain rfl : u = Value.bool true := rr
      refine ⟨rfl, OldK.of_keep fun b u e => ?_, os, bare⟩
      cases z : H b with
      | none => exact un.keep b u e z (fun m => absurd (show b ∈ ([] : List Addr) from m) (by simp)) (by simp)
      | some y =>
        obtain ⟨rfl, rfl⟩ := sees b y z
        have z2 := un.frzs b so _ z
        obtain ⟨e1, _⟩ := hok b _ z
        obtain ⟨e2, _⟩ := hok' b _ z2
        rw [e] at e1
        cases e1
        exact e2
end L2.Iv
namespace L2.Iv
open PySem
def wpO {α : Type} (o : Out α) (Q : α → Store → Prop) : Prop := match o with
  | .ok a st => Q a st
  | _ => False
section
variable {α β : Type} {Q : α → Store → Prop}
@[simp] theorem wp_ok (a : α) (st : Store) : wpO (.ok a st) Q = Q a st := rfl
@[simp] theorem wp_bad : wpO (.bad : Out α) Q = False := rfl
@[simp] theorem wp_exc (c : Str) (v : PV) (st : Store) : wpO (.exc c v st : Out α) Q = False := rfl
@[simp] theorem wp_bind (o : Out β) (f : β → Store → Out α) : wpO (o.bind f) Q = wpO o fun a st => wpO (f a st) Q := by cases o <;> rfl
@[simp] theorem wp_guard (c : Prop) [Decidable c] (a : Out α) : wpO (if c then a else .bad) Q = (c ∧ wpO a Q) := by
  by_cases h : c
  · rw [if_pos h]; exact propext ⟨fun q => ⟨h, q⟩, fun q => q.2⟩
  · rw [if_neg h]; exact propext ⟨False.elim, fun q => h q.1⟩
@[simp] theorem wp_guard2 (c : Prop) [Decidable c] (a : Out α) : wpO (if c then .bad else a) Q = (¬ c ∧ wpO a Q) := by
  by_cases h : c
  · rw [if_pos h]; exact propext ⟨False.elim, fun q => absurd h q.1⟩
  · rw [if_neg h]; exact propext ⟨fun q => ⟨h, q⟩, fun q => q.2⟩
@[simp] theorem wp_of (o : Option α) (st : Store) : wpO (.of o st) Q = match o with
    | some a => Q a st
    | none => False := by cases o <;> rfl
@[simp] theorem wp_quiet (o : Out α) : wpO o.quiet Q = wpO o Q := by cases o <;> rfl
theorem wp_mono {Q' : α → Store → Prop} {o : Out α} (h : wpO o Q) (i : ∀ a st, Q a st → Q' a st) : wpO o Q' := by
  cases o with
  | ok a st => exact i a st h
  | exc => exact h
  | bad => exact h
theorem wp_get {o : Out α} (h : wpO o Q) : ∃ a st, o = .ok a st ∧ Q a st := by
  cases o with
  | ok a st => exact ⟨a, st, rfl, h⟩
  | exc => exact h.elim
  | bad => exact h.elim
def wpX {α : Type} (o : Out α) (Q : α → Store → Prop) (E : Str → PV → Store → Prop) : Prop := match o with
  | .ok a st => Q a st
  | .exc c v st => E c v st
  | .bad => False
@[simp] theorem wpX_ok (a : α) (st : Store) (E : Str → PV → Store → Prop) : wpX (.ok a st) Q E = Q a st := rfl
@[simp] theorem wpX_exc (c : Str) (v : PV) (st : Store) (E : Str → PV → Store → Prop) : wpX (.exc c v st : Out α) Q E = E c v st := rfl
@[simp] theorem wpX_bad (E : Str → PV → Store → Prop) : wpX (.bad : Out α) Q E = False := rfl
@[simp] theorem wpX_bind (o : Out β) (f : β → Store → Out α) (E : Str → PV → Store → Prop) : wpX (o.bind f) Q E = wpX o (fun a st => wpX (f a st) Q E) E := by cases o <;> rfl
@[simp] theorem wpX_guard (c : Prop) [Decidable c] (a : Out α) (E : Str → PV → Store → Prop) : wpX (if c then a else .bad) Q E = (c ∧ wpX a Q E) := by
  by_cases h : c
  · rw [if_pos h]; exact propext ⟨fun q => ⟨h, q⟩, fun q => q.2⟩
  · rw [if_neg h]; exact propext ⟨False.elim, fun q => h q.1⟩
@[simp] theorem wpX_of (o : Option α) (st : Store) (E : Str → PV → Store → Prop) : wpX (.of o st) Q E = match o with
    | some a => Q a st
    | none => False := by cases o <;> rfl
theorem wpX_of_wp {o : Out α} {E : Str → PV → Store → Prop} (h : wpO o Q) : wpX o Q E := by
  cases o with
  | ok a st => exact h
  | exc => exact h.elim
  | bad => exact h
@[simp] theorem wp_lift (o : Out β) (env : Env) (f : β → Store → Out Fl) (Q : Fl → Store → Prop) : wpO (o.lift env f) Q = wpX o (fun a st => wpO (f a st) Q) (fun c v st => Q (.rz c v env) st) := by cases o <;> rfl
theorem wp_lift_of {o : Out β} {env : Env} {f : β → Store → Out Fl} {Q : Fl → Store → Prop} (h : wpO o fun a st => wpO (f a st) Q) : wpO (o.lift env f) Q := by
  rw [wp_lift]
  exact wpX_of_wp h
@[simp] theorem ok_lift {a : β} {st : Store} {env : Env} {f : β → Store → Out Fl} : (Out.ok a st).lift env f = f a st := rfl
@[simp] theorem exc_lift {c : Str} {v : PV} {st : Store} {env : Env} {f : β → Store → Out Fl} : (Out.exc c v st : Out β).lift env f = .ok (.rz c v env) st := rfl
@[simp] theorem bad_lift {env : Env} {f : β → Store → Out Fl} : (Out.bad : Out β).lift env f = .bad := rfl
@[simp] theorem exc_bind {c : Str} {v : PV} {st : Store} {f : β → Store → Out α} : (Out.exc c v st : Out β).bind f = .exc c v st := rfl
@[simp] theorem ok_bind {a : β} {st : Store} {f : β → Store → Out α} : (Out.ok a st).bind f = f a st := rfl
@[simp] theorem bad_bind {f : β → Store → Out α} : (Out.bad).bind f = .bad := rfl
end
@[simp] theorem watch_nil (st : Store) : watchOk [] st := fun p h => absurd h (by simp)
theorem wp_loopM {α : Type} {g : α → PV} {w : Watch} {f : PV → Env → Store → Out Fl} {Q : Fl → Store → Prop} (I : List α → Env → Store → Prop)
    (turn : ∀ x xs env st, I (x :: xs) env st → watchOk w st ∧ wpO (f (g x) env st) fun r st1 => match r with
      | .nx e => I xs e st1
      | .ct e => I xs e st1
      | .bk e => Q (.nx e) st1
      | .rt v => Q (.rt v) st1
      | .rz c v e => Q (.rz c v e) st1)
    (stop : ∀ env st, I [] env st → watchOk w st ∧ Q (.nx env) st) : ∀ (xs : List α) (env : Env) (st : Store), I xs env st → wpO (loopF w f (xs.map g) env st) Q := by
  intro xs
  induction xs with
  | nil =>
    intro env st h
    obtain ⟨h1, h2⟩ := stop env st h
    unfold List.map loopF
    rw [if_pos h1]
    exact h2
  | cons x xs ih =>
    intro env st h
    obtain ⟨h1, h2⟩ := turn x xs env st h
    rw [List.map_cons]
    unfold loopF
    rw [if_pos h1, wp_bind]
    refine wp_mono h2 fun r st1 q => ?_
    cases r with
    | nx e => exact ih e st1 q
    | ct e => exact ih e st1 q
    | bk e => exact q
    | rt v => exact q
    | rz => exact q
theorem wp_rng {lo c : Int} {n : Nat} {f : PV → Env → Store → Out Fl} {Q : Fl → Store → Prop} (I : Nat → Env → Store → Prop)
    (turn : ∀ i env st, i < n → I i env st → wpO (f (.int (lo + (i : Nat) * c)) env st) fun r st1 => match r with
      | .nx e => I (i + 1) e st1
      | .ct e => I (i + 1) e st1
      | .bk e => Q (.nx e) st1
      | .rt v => Q (.rt v) st1
      | .rz c v e => Q (.rz c v e) st1)
    (stop : ∀ env st, I n env st → Q (.nx env) st) (env : Env) (st : Store) (h : I 0 env st) : wpO (loopF [] f (rngL lo c n) env st) Q := by
  refine wp_loopM (g := fun i : Nat => PV.int (lo + (i : Nat) * c)) (fun l env st => ∃ i, l = (List.range n).drop i ∧ i ≤ n ∧ I i env st) ?_ ?_ (List.range n) env st ⟨0, rfl, Nat.zero_le _, h⟩
  · rintro x xs env st ⟨i, hl, hi, hI⟩
    have hlt : i < n := by
      rcases Nat.lt_or_ge i n with z | z
      · exact z
      · rw [List.drop_eq_nil_of_le (by rw [List.length_range]; exact z)] at hl; cases hl
    rw [List.drop_eq_getElem_cons (by rw [List.length_range]; exact hlt), List.getElem_range] at hl
    obtain ⟨hx, hxs⟩ := List.cons.inj hl
    refine ⟨fun p hp => absurd hp (by simp), ?_⟩
    rw [hx]
    refine wp_mono (turn i env st hlt hI) fun r st1 q => ?_
    cases r with
    | nx e => exact ⟨i + 1, hxs, hlt, q⟩
    | ct e => exact ⟨i + 1, hxs, hlt, q⟩
    | bk e => exact q
    | rt v => exact q
    | rz => exact q
  · rintro env st ⟨i, hl, hi, hI⟩
    have : i = n := by
      have := congrArg List.length hl
      rw [List.length_drop, List.length_range, List.length_nil] at this
      omega
    subst this
    exact ⟨fun p hp => absurd hp (by simp), stop env st hI⟩
theorem wp_while {c : Env → Store → Out Bool} {f : Env → Store → Out Fl} {Q : Fl → Store → Prop} (I : Nat → Env → Store → Prop)
    (turn : ∀ m env st, I m env st → wpO (c env st) fun t st1 => if t = true then wpO (f env st1) fun r st2 => match r with
      | .nx e => ∃ m', m' < m ∧ I m' e st2
      | .ct e => ∃ m', m' < m ∧ I m' e st2
      | .bk e => Q (.nx e) st2
      | .rt v => Q (.rt v) st2
      | .rz c v e => Q (.rz c v e) st2 else Q (.nx env) st1) : ∀ (n m : Nat) (env : Env) (st : Store), m < n → I m env st → wpO (whN c f n env st) Q := by
  intro n
  induction n with
  | zero => intro m env st h; omega
  | succ n ih =>
    intro m env st h hI
    unfold whN
    refine wp_lift_of (wp_mono (turn m env st hI) fun t st1 q => ?_)
    cases t with
    | false => rw [if_neg Bool.false_ne_true] at q ⊢; exact q
    | true =>
      rw [if_pos rfl] at q ⊢
      rw [wp_bind]
      refine wp_mono q fun r st2 q => ?_
      cases r with
      | nx e => obtain ⟨m', h1, h2⟩ := q; exact ih m' e st2 (by omega) h2
      | ct e => obtain ⟨m', h1, h2⟩ := q; exact ih m' e st2 (by omega) h2
      | bk e => exact q
      | rt v => exact q
      | rz => exact q
theorem comp_eq {α : Type} {g : α → PV} {w : Watch} {f : PV → Store → Out (List PV)} {st : Store} (hw : watchOk w st) {out : α → List PV} : ∀ (xs : List α) (acc : List PV),
    (∀ x ∈ xs, f (g x) st = .ok (out x) st) → acc.length + (xs.flatMap out).length ≤ sizeLine → compF w f (xs.map g) acc st = .ok (acc ++ xs.flatMap out) st := by
  intro xs
  induction xs with
  | nil =>
    intro acc h hl
    simp [compF, hw]
  | cons x xs ih =>
    intro acc h hl
    rw [List.map_cons]
    unfold compF
    rw [if_pos hw, h x List.mem_cons_self]
    rw [List.flatMap_cons, List.length_append] at hl
    simp only [ok_bind]
    rw [if_pos (by omega), ih (acc ++ out x) (fun y hy => h y (List.mem_cons_of_mem _ hy)) (by rw [List.length_append]; omega), List.flatMap_cons, List.append_assoc]
theorem flatMap_one {α : Type} (o : α → PV) : ∀ xs : List α, (xs.flatMap fun x => [o x]) = xs.map o
  | [] => rfl
  | x :: xs => by rw [List.flatMap_cons, flatMap_one o xs]; rfl
theorem comp_map {α : Type} {g : α → PV} {w : Watch} {f : PV → Store → Out (List PV)} {st : Store} (o : α → PV) (xs : List α) (hw : watchOk w st)
    (h : ∀ x ∈ xs, f (g x) st = .ok [o x] st) (hl : xs.length ≤ sizeLine) : compF w f (xs.map g) [] st = .ok (xs.map o) st := by
  have e : xs.flatMap (fun x => [o x]) = xs.map o := flatMap_one o xs
  rw [comp_eq (out := fun x => [o x]) hw xs [] h (by rw [e, List.length_map, List.length_nil]; omega), e, List.nil_append]
theorem locs_free : ∀ {args : List PV}, freeAll args = true → locs args = []
  | [], _ => rfl
  | .loc i :: r, h => by simp [freeAll, PV.free] at h
  | .non :: r, h => by simp [freeAll, PV.free] at h; exact locs_free (args := r) h
  | .bl _ :: r, h => by simp [freeAll, PV.free] at h; exact locs_free (args := r) h
  | .int _ :: r, h => by simp [freeAll, PV.free] at h; exact locs_free (args := r) h
  | .str _ :: r, h => by simp [freeAll, PV.free] at h; exact locs_free (args := r) h
  | .tup _ :: r, h => by simp [freeAll] at h; exact locs_free (args := r) h.2
  | .lsv _ :: r, h => by simp [freeAll] at h; exact locs_free (args := r) h.2
  | .exn .. :: r, h => by simp [freeAll] at h; exact locs_free (args := r) h.2
  | .dct .. :: r, h => by simp [freeAll] at h; exact locs_free (args := r) h.2
theorem ok_free : ∀ {args : List PV}, freeAll args = true → args.all argOk = true
  | [], _ => rfl
  | x :: r, h => by
    simp only [freeAll, Bool.and_eq_true] at h
    rw [List.all_cons, ok_free h.2, Bool.and_true]
    cases x <;> first | rfl | exact h.1
theorem ren_frees {ls : List Nat} : ∀ {args : List PV}, freeAll args = true → args.map (ren ls) = args
  | [], _ => rfl
  | x :: r, h => by
    simp only [freeAll, Bool.and_eq_true] at h
    rw [List.map_cons, ren_frees h.2, ren_free h.1]
theorem frz_free {m : Nat} {s : Store} {k : Nat} {v : PV} (h : v.free = true) : frz m s k v = some v := by
  cases k <;> (unfold frz; rw [if_pos h])
def env0 (fn : Fn) (args : List PV) : Env := args.map some ++ List.replicate (fn.N.length - args.length) none
theorem wp_fn {g : Sg} {cl : Str → Nat} {n : Nat} {f : Str} {fn : Fn} {args : List PV} {st : Store} {Q : PV → Store → Prop} (hl : g.tb.lookup f = some fn) (hm : fn.mt = false) (ha : args.length = fn.ps.length) (hf : freeAll args = true)
    (h : wpO (evSs (g.ctx cl n) fn.body (env0 fn args) []) fun r s2 => match r with
      | .rt v => ∃ v', frz 0 s2 64 v = some v' ∧ Q v' st
      | .nx _ => Q .non st
      | _ => False) : wpO ((g.ctx cl (n + 1)).fn f args st) Q := by
  show wpO (callF cl g.ecs g.tb (fun x => g.gl.lookup x) (n + 1) f args st) Q
  rw [callF_succ, hl]
  dsimp only
  rw [if_pos ⟨ha, ok_free hf⟩, locs_free hf, ren_frees hf]
  dsimp only [subSt]
  have fin : ∀ (v v' : PV) (s2 : Store), frz 0 s2 64 v = some v' → Q v' st → wpO (backV fn.mt [] st v s2) Q := fun v v' s2 e q => by
    unfold backV
    dsimp only
    have e2 : flatSt (s2.take ([] : List Nat).length) = true := by rw [List.length_nil, List.take_zero]; rfl
    rw [if_pos ⟨Nat.zero_le _, e2⟩, if_neg (by rw [hm]; exact Bool.false_ne_true)]
    have e3 : frz ([] : List Nat).length s2 64 v = some v' := e
    rw [e3]
    show Q v' (putSt st [] (s2.take 0))
    rw [List.take_zero]
    exact q
  obtain ⟨r, s2, e, q⟩ := wp_get h
  have hrun : runB ⟨callF cl g.ecs g.tb (fun x => g.gl.lookup x) n, fun x => g.gl.lookup x, cl, g.ecs⟩ fn args [] = (evSs (g.ctx cl n) fn.body (env0 fn args) []).quiet.bind fun f st1 => match f with
    | .rt v => .ok v st1
    | .nx _ => .ok .non st1
    | .rz c v _ => .exc c v st1
    | _ => .bad := rfl
  rw [hrun, e]
  cases r with
  | rt v => obtain ⟨v', e1, q⟩ := q; exact fin v v' s2 e1 q
  | nx en => exact fin .non .non s2 rfl q
  | bk en => exact q.elim
  | ct en => exact q.elim
  | rz => exact q.elim
theorem fn_eq {g : Sg} {cl : Str → Nat} {n : Nat} {f : Str} {fn : Fn} {args : List PV} {st : Store} {v : PV} (hl : g.tb.lookup f = some fn) (hm : fn.mt = false) (ha : args.length = fn.ps.length) (hf : freeAll args = true)
    (h : wpO (evSs (g.ctx cl n) fn.body (env0 fn args) []) fun r s2 => match r with
      | .rt u => frz 0 s2 64 u = some v
      | .nx _ => .non = v
      | _ => False) : (g.ctx cl (n + 1)).fn f args st = .ok v st := by
  obtain ⟨a, s, e, e1, e2⟩ := wp_get (wp_fn (Q := fun u s => u = v ∧ s = st) (st := st) hl hm ha hf (wp_mono h fun r s2 q => by
    cases r with
    | rt u => exact ⟨v, q, rfl, rfl⟩
    | nx en => exact ⟨q, rfl⟩
    | bk en => exact q
    | ct en => exact q
    | rz => exact q))
  rw [e, e1, e2]
theorem wp_fn1 {g : Sg} {cl : Str → Nat} {n : Nat} {f : Str} {fn : Fn} {i : Nat} {xs : List PV} {args : List PV} {st : Store} {Q : PV → Store → Prop} (hl : g.tb.lookup f = some fn) (hm : fn.mt = false) (ha : args.length + 1 = fn.ps.length) (hf : freeAll args = true)
    (hi : st[i]? = some xs) (hx : freeAll xs = true)
    (h : wpO (evSs (g.ctx cl n) fn.body (env0 fn (.loc 0 :: args)) [xs]) fun r s2 => ∃ ys, s2[0]? = some ys ∧ freeAll ys = true ∧ match r with
      | .rt v => ∃ v', frz 1 s2 64 v = some v' ∧ Q v' (st.set i ys)
      | .nx _ => Q .non (st.set i ys)
      | _ => False) : wpO ((g.ctx cl (n + 1)).fn f (.loc i :: args) st) Q := by
  show wpO (callF cl g.ecs g.tb (fun x => g.gl.lookup x) (n + 1) f (.loc i :: args) st) Q
  have el : locs (.loc i :: args) = [i] := by
    unfold locs
    rw [locs_free hf]
    rfl
  have er : (PV.loc i :: args).map (ren [i]) = .loc 0 :: args := by
    rw [List.map_cons, ren_frees hf]
    simp [ren]
  have es : subSt st [i] = some [xs] := by
    simp [subSt, hi, hx]
  rw [callF_succ, hl]
  dsimp only
  rw [if_pos ⟨by simpa using ha, by rw [List.all_cons, ok_free hf]; rfl⟩, el, er, es]
  dsimp only
  have fin : ∀ (v v' : PV) (s2 : Store) (ys : List PV), s2[0]? = some ys → freeAll ys = true → frz 1 s2 64 v = some v' → Q v' (st.set i ys) → wpO (backV fn.mt [i] st v s2) Q := fun v v' s2 ys e1 e2 e q => by
    unfold backV
    dsimp only
    have e3 : s2.take ([i] : List Nat).length = [ys] := by
      match s2, e1 with
      | y :: r, e1 => simp at e1; subst e1; rfl
    have e4 : 1 ≤ s2.length := (List.getElem?_eq_some_iff.mp e1).1
    rw [e3, if_pos ⟨e4, by simp [flatSt, e2]⟩, if_neg (by rw [hm]; exact Bool.false_ne_true)]
    have e5 : frz ([i] : List Nat).length s2 64 v = some v' := e
    rw [e5]
    exact q
  obtain ⟨r, s2, e, ys, e1, e2, q⟩ := wp_get h
  have hrun : runB ⟨callF cl g.ecs g.tb (fun x => g.gl.lookup x) n, fun x => g.gl.lookup x, cl, g.ecs⟩ fn (.loc 0 :: args) [xs] = (evSs (g.ctx cl n) fn.body (env0 fn (.loc 0 :: args)) [xs]).quiet.bind fun f st1 => match f with
    | .rt v => .ok v st1
    | .nx _ => .ok .non st1
    | .rz c v _ => .exc c v st1
    | _ => .bad := rfl
  rw [hrun, e]
  cases r with
  | rt v => obtain ⟨v', e3, q⟩ := q; exact fin v v' s2 ys e1 e2 e3 q
  | nx en => exact fin .non .non s2 ys e1 e2 rfl q
  | bk en => exact q.elim
  | ct en => exact q.elim
  | rz => exact q.elim
theorem wp_fnM {g : Sg} {cl : Str → Nat} {n : Nat} {f : Str} {fn : Fn} {args : List PV} {st : Store} {Q : PV → Store → Prop} (hl : g.tb.lookup f = some fn) (hm : fn.mt = true) (ha : args.length = fn.ps.length) (hf : freeAll args = true)
    (h : wpO (evSs (g.ctx cl n) fn.body (env0 fn args) []) fun r s2 => match r with
      | .rt (.loc j) => ∃ xs, s2[j]? = some xs ∧ freeAll xs = true ∧ Q (.loc st.length) (st ++ [xs])
      | _ => False) : wpO ((g.ctx cl (n + 1)).fn f args st) Q := by
  show wpO (callF cl g.ecs g.tb (fun x => g.gl.lookup x) (n + 1) f args st) Q
  rw [callF_succ, hl]
  dsimp only
  rw [if_pos ⟨ha, ok_free hf⟩, locs_free hf, ren_frees hf]
  dsimp only [subSt]
  obtain ⟨r, s2, e, q⟩ := wp_get h
  have hrun : runB ⟨callF cl g.ecs g.tb (fun x => g.gl.lookup x) n, fun x => g.gl.lookup x, cl, g.ecs⟩ fn args [] = (evSs (g.ctx cl n) fn.body (env0 fn args) []).quiet.bind fun f st1 => match f with
    | .rt v => .ok v st1
    | .nx _ => .ok .non st1
    | .rz c v _ => .exc c v st1
    | _ => .bad := rfl
  rw [hrun, e]
  cases r with
  | rt v =>
    cases v with
    | loc j =>
      obtain ⟨xs, e1, e2, q⟩ := q
      show wpO (backV fn.mt [] st (.loc j) s2) Q
      unfold backV
      dsimp only
      have e3 : flatSt (s2.take ([] : List Nat).length) = true := by rw [List.length_nil, List.take_zero]; rfl
      rw [if_pos ⟨Nat.zero_le _, e3⟩, if_pos hm]
      rw [e1]
      dsimp only
      rw [if_pos ⟨Nat.zero_le _, e2⟩]
      show Q (.loc (putSt st [] (s2.take 0)).length) (putSt st [] (s2.take 0) ++ [xs])
      rw [List.take_zero]
      exact q
    | _ => exact q.elim
  | nx en => exact q.elim
  | bk en => exact q.elim
  | ct en => exact q.elim
  | rz => exact q.elim
@[simp] theorem kit_NoneType_int : L2.kitB "NoneType" "int" = some false := by decide +kernel
@[simp] theorem kit_NoneType_bool : L2.kitB "NoneType" "bool" = some false := by decide +kernel
@[simp] theorem kit_NoneType_str : L2.kitB "NoneType" "str" = some false := by decide +kernel
@[simp] theorem kit_NoneType_tuple : L2.kitB "NoneType" "tuple" = some false := by decide +kernel
@[simp] theorem kit_NoneType_list : L2.kitB "NoneType" "list" = some false := by decide +kernel
@[simp] theorem kit_bool_int : L2.kitB "bool" "int" = some true := by decide +kernel
@[simp] theorem kit_bool_bool : L2.kitB "bool" "bool" = some true := by decide +kernel
@[simp] theorem kit_bool_str : L2.kitB "bool" "str" = some false := by decide +kernel
@[simp] theorem kit_bool_tuple : L2.kitB "bool" "tuple" = some false := by decide +kernel
@[simp] theorem kit_bool_list : L2.kitB "bool" "list" = some false := by decide +kernel
@[simp] theorem kit_int_int : L2.kitB "int" "int" = some true := by decide +kernel
@[simp] theorem kit_int_bool : L2.kitB "int" "bool" = some false := by decide +kernel
@[simp] theorem kit_int_str : L2.kitB "int" "str" = some false := by decide +kernel
@[simp] theorem kit_int_tuple : L2.kitB "int" "tuple" = some false := by decide +kernel
@[simp] theorem kit_int_list : L2.kitB "int" "list" = some false := by decide +kernel
@[simp] theorem kit_str_int : L2.kitB "str" "int" = some false := by decide +kernel
@[simp] theorem kit_str_bool : L2.kitB "str" "bool" = some false := by decide +kernel
@[simp] theorem kit_str_str : L2.kitB "str" "str" = some true := by decide +kernel
@[simp] theorem kit_str_tuple : L2.kitB "str" "tuple" = some false := by decide +kernel
@[simp] theorem kit_str_list : L2.kitB "str" "list" = some false := by decide +kernel
@[simp] theorem kit_tuple_int : L2.kitB "tuple" "int" = some false := by decide +kernel
@[simp] theorem kit_tuple_bool : L2.kitB "tuple" "bool" = some false := by decide +kernel
@[simp] theorem kit_tuple_str : L2.kitB "tuple" "str" = some false := by decide +kernel
@[simp] theorem kit_tuple_tuple : L2.kitB "tuple" "tuple" = some true := by decide +kernel
@[simp] theorem kit_tuple_list : L2.kitB "tuple" "list" = some false := by decide +kernel
@[simp] theorem kit_list_int : L2.kitB "list" "int" = some false := by decide +kernel
@[simp] theorem kit_list_bool : L2.kitB "list" "bool" = some false := by decide +kernel
@[simp] theorem kit_list_str : L2.kitB "list" "str" = some false := by decide +kernel
@[simp] theorem kit_list_tuple : L2.kitB "list" "tuple" = some false := by decide +kernel
@[simp] theorem kit_list_list : L2.kitB "list" "list" = some true := by decide +kernel
theorem in62_ok {i : Int} (h0 : -1000000000 ≤ i) (h1 : i ≤ 1000000000) : in62 i := ⟨by omega, by omega⟩
theorem rng1_ok {j : Int} {st : Store} (h0 : -1000000000 ≤ j) (h1 : j ≤ 1000000000) : rngV1 st (.int j) = .ok (rngL 0 1 j.toNat, []) st := if_pos (in62_ok h0 h1)
theorem rgk_ok {j : Int} {st : Store} (h0 : -1000000000 ≤ j) (h1 : j ≤ 1000000000) : rgkV st (.int j) = .ok (.dct [] [.int 0, .int j]) st := if_pos (in62_ok h0 h1)
theorem lrg_ok {j : Int} {st : Store} {fr : Bool} (h0 : -1000000000 ≤ j) (h1 : j ≤ 10000000) : lrgV fr st (.int j) = newL fr (rngL 0 1 j.toNat) st := if_pos ⟨in62_ok h0 (by omega), by omega⟩
theorem kr_ok {i j : Int} {st : Store} (h0 : -1000000000 ≤ i) (h1 : i ≤ 1000000000) (h2 : -1000000000 ≤ j) (h3 : j ≤ 1000000000) : krV st (.dct [] [.int i, .int j]) = .ok (rngL i 1 (j - i).toNat, []) st := if_pos ⟨in62_ok h0 h1, in62_ok h2 h3⟩
theorem rng2_ok {i j : Int} {st : Store} (h0 : -1000000000 ≤ i) (h1 : i ≤ 1000000000) (h2 : -1000000000 ≤ j) (h3 : j ≤ 1000000000) : rngV2 st (.int i) (.int j) = .ok (rngL i 1 (j - i).toNat, []) st := if_pos ⟨in62_ok h0 h1, in62_ok h2 h3⟩
section
variable {C : Ctx} {env : Env} {st : Store}
@[simp] theorem r_c (v : PV) : evE C (.c v) env st = Out.ok v st := by
  first | rfl | (simp only [evE]; done) | (rw [evE]; all_goals (intro z; cases z))
@[simp] theorem r_v (i : Nat) : evE C (.v i) env st = (match env[i]? with
    | some (some v) => Out.ok v st
    | _ => .bad) := by
  first | rfl | (simp only [evE]; done) | (rw [evE]; all_goals (intro z; cases z))
@[simp] theorem r_g (x : Str) : evE C (.g x) env st = Out.of (C.gl x) st := by
  first | rfl | (simp only [evE]; done) | (rw [evE]; all_goals (intro z; cases z))
@[simp] theorem r_bin (o : Bop) (fr : Bool) (a b : Ex) : evE C (.bin o fr a b) env st = (evE C a env st).bind fun x st1 => (evE C b env st1).bind fun y st2 => binV o fr st2 x y := by
  first | rfl | (simp only [evE]; done) | (rw [evE]; all_goals (intro z; cases z))
@[simp] theorem r_neg (a : Ex) : evE C (.neg a) env st = (evE C a env st).bind fun x st1 => match x with
    | .int i => .ok (.int (-i)) st1
    | _ => .bad := by
  first | rfl | (simp only [evE]; done) | (rw [evE]; all_goals (intro z; cases z))
@[simp] theorem r_nt (a : Ex) : evE C (.nt a) env st = (evE C a env st).bind fun x st1 => match Iv.truthy st1 x with
    | some b => .ok (.bl (!b)) st1
    | none => .bad := by
  first | rfl | (simp only [evE]; done) | (rw [evE]; all_goals (intro z; cases z))
@[simp] theorem r_cmp (o : Cop) (a b : Ex) : evE C (.cmp o a b) env st = (evE C a env st).bind fun x st1 => (evE C b env st1).bind fun y st2 => (Out.of (cmpV o st2 x y) st2).bind fun b st3 => .ok (.bl b) st3 := by
  first | rfl | (simp only [evE]; done) | (rw [evE]; all_goals (intro z; cases z))
@[simp] theorem r_chn (o o2 : Cop) (a b c : Ex) : evE C (.chn o o2 a b c) env st = (evE C a env st).bind fun x st1 => (evE C b env st1).bind fun y st2 => (Out.of (cmpV o st2 x y) st2).bind fun k st3 =>
      if k = true then (evE C c env st3).bind fun z st4 => (Out.of (cmpV o2 st4 y z) st4).bind fun b st5 => .ok (.bl b) st5 else .ok (.bl false) st3 := by
  first | rfl | (simp only [evE]; done) | (rw [evE]; all_goals (intro z; cases z))
@[simp] theorem r_ands (es : Exs) : evE C (.ands es) env st = evAnd C es env st := by
  first | rfl | (simp only [evE]; done) | (rw [evE]; all_goals (intro z; cases z))
@[simp] theorem r_ors (es : Exs) : evE C (.ors es) env st = evOr C es env st := by
  first | rfl | (simp only [evE]; done) | (rw [evE]; all_goals (intro z; cases z))
@[simp] theorem r_ite (c a b : Ex) : evE C (.ite c a b) env st = (evE C c env st).bind fun x st1 => match Iv.truthy st1 x with
    | some true => evE C a env st1
    | some false => evE C b env st1
    | none => .bad := by
  first | rfl | (simp only [evE]; done) | (rw [evE]; all_goals (intro z; cases z))
@[simp] theorem r_tup (es : Exs) : evE C (.tup es) env st = (evEs C es env st).bind fun xs st1 => if xs.length ≤ sizeLine then .ok (.tup xs) st1 else .bad := by
  first | rfl | (simp only [evE]; done) | (rw [evE]; all_goals (intro z; cases z))
@[simp] theorem r_lst (fr : Bool) (es : Exs) : evE C (.lst fr es) env st = (evEs C es env st).bind fun xs st1 => if xs.length ≤ sizeLine then newL fr xs st1 else .bad := by
  first | rfl | (simp only [evE]; done) | (rw [evE]; all_goals (intro z; cases z))
@[simp] theorem r_ix (a b : Ex) : evE C (.ix a b) env st = (evE C a env st).bind fun x st1 => (evE C b env st1).bind fun y st2 => .of (ixV st2 x y) st2 := by
  first | rfl | (simp only [evE]; done) | (rw [evE]; all_goals (intro z; cases z))
@[simp] theorem r_slA (fr : Bool) (a lo hi : Ex) : evE C (.slA fr a lo hi) env st = (evE C a env st).bind fun x st1 => (evE C lo env st1).bind fun y st2 => match y with
    | .int i => (evE C hi env st2).bind fun z st3 => match z with
      | .int j => slV fr st3 x (some i) (some j)
      | _ => .bad
    | _ => .bad := by
  first | rfl | (simp only [evE]; done) | (rw [evE]; all_goals (intro z; cases z))
@[simp] theorem r_slF (fr : Bool) (a lo : Ex) : evE C (.slF fr a lo) env st = (evE C a env st).bind fun x st1 => (evE C lo env st1).bind fun y st2 => match y with
    | .int i => slV fr st2 x (some i) none
    | _ => .bad := by
  first | rfl | (simp only [evE]; done) | (rw [evE]; all_goals (intro z; cases z))
@[simp] theorem r_slT (fr : Bool) (a hi : Ex) : evE C (.slT fr a hi) env st = (evE C a env st).bind fun x st1 => (evE C hi env st1).bind fun y st2 => match y with
    | .int i => slV fr st2 x none (some i)
    | _ => .bad := by
  first | rfl | (simp only [evE]; done) | (rw [evE]; all_goals (intro z; cases z))
@[simp] theorem r_call (f : Str) (es : Exs) : evE C (.call f es) env st = (evEs C es env st).bind fun xs st1 => C.fn f xs st1 := by
  first | rfl | (simp only [evE]; done) | (rw [evE]; all_goals (intro z; cases z))
@[simp] theorem r_callk (f : Str) (es ks : Exs) (perm : List Nat) : evE C (.callk f es ks perm) env st = (evEs C es env st).bind fun xs st1 => (evEs C ks env st1).bind fun ys st2 => match perm.mapM fun i => (xs ++ ys)[i]? with
    | some zs => C.fn f zs st2
    | none => .bad := by
  first | rfl | (simp only [evE]; done) | (rw [evE]; all_goals (intro z; cases z))
@[simp] theorem r_bi (f : Bi) (fr : Bool) (es : Exs) : evE C (.bi f fr es) env st = (evEs C es env st).bind fun xs st1 => biV f fr st1 xs := by
  first | rfl | (simp only [evE]; done) | (rw [evE]; all_goals (intro z; cases z))
@[simp] theorem r_isi (e : Ex) (T : String) : evE C (.isi e T) env st = (evE C e env st).bind fun x st1 => match (tyOfP x).bind fun U => L2.kitB U T with
    | some b => .ok (.bl b) st1
    | none => .bad := by
  first | rfl | (simp only [evE]; done) | (rw [evE]; all_goals (intro z; cases z))
@[simp] theorem r_slR (fr : Bool) (a : Ex) : evE C (.slR fr a) env st = (evE C a env st).bind fun x st1 => backE fr st1 x := by
  first | rfl | (simp only [evE]; done) | (rw [evE]; all_goals (intro z; cases z))
@[simp] theorem r_dsp (ks : List Str) (es : Exs) (i : Ex) : evE C (.dsp ks es i) env st = (evEs C es env st).bind fun xs st1 => (evE C i env st1).bind fun y st2 => match y with
    | .str w => .of (lookS ks xs w) st2
    | _ => .bad := by
  first | rfl | (simp only [evE]; done) | (rw [evE]; all_goals (intro z; cases z))
@[simp] theorem r_nev : evE C .nev env st = Out.bad := by
  first | rfl | (simp only [evE]; done)
@[simp] theorem r_dct (ks : List Str) (es : Exs) : evE C (.dct ks es) env st = (evEs C es env st).bind fun xs st1 => .ok (.dct ks xs) st1 := by
  first | rfl | (simp only [evE]; done) | (rw [evE]; all_goals (intro z; cases z))
@[simp] theorem r_dget (a b : Ex) : evE C (.dget a b) env st = (evE C a env st).bind fun x st1 => (evE C b env st1).bind fun y st2 => dgetV st2 x y := by
  first | rfl | (simp only [evE]; done) | (rw [evE]; all_goals (intro z; cases z))
@[simp] theorem r_din (neg : Bool) (a b : Ex) : evE C (.din neg a b) env st = (evE C a env st).bind fun x st1 => (evE C b env st1).bind fun y st2 => dinV neg st2 x y := by
  first | rfl | (simp only [evE]; done) | (rw [evE]; all_goals (intro z; cases z))
@[simp] theorem r_slK (fr : Bool) (a k : Ex) : evE C (.slK fr a k) env st = (evE C a env st).bind fun x st1 => (evE C k env st1).bind fun y st2 => stepV fr st2 x y := by
  first | rfl | (simp only [evE]; done) | (rw [evE]; all_goals (intro z; cases z))
@[simp] theorem r_rgk (a : Ex) : evE C (.rg1 a) env st = (evE C a env st).bind fun x st1 => rgkV st1 x := by
  first | rfl | (simp only [evE]; done) | (rw [evE]; all_goals (intro z; cases z))
@[simp] theorem r_lrg (fr : Bool) (a : Ex) : evE C (.lrg fr a) env st = (evE C a env st).bind fun x st1 => lrgV fr st1 x := by
  first | rfl | (simp only [evE]; done) | (rw [evE]; all_goals (intro z; cases z))
@[simp] theorem r_maxd (a d : Ex) : evE C (.maxd a d) env st = (evE C a env st).bind fun x st1 => (evE C d env st1).bind fun y st2 => maxdV st2 x y := by
  first | rfl | (simp only [evE]; done) | (rw [evE]; all_goals (intro z; cases z))
@[simp] theorem r_slN (fr : Bool) (a : Ex) : evE C (.slN fr a) env st = (evE C a env st).bind fun x st1 => backN fr st1 x := by
  first | rfl | (simp only [evE]; done) | (rw [evE]; all_goals (intro z; cases z))
@[simp] theorem r_srt (fr : Bool) (own : List Nat) (p : Pt) (it : Ix) (e : Ex) : evE C (.srt fr own p it e) env st = (evIx C it env st).bind fun xw st1 => (compF xw.2 (fun x st => match asgP p x (wipeE env own) with
      | some env1 => (evE C e env1 st).quiet.bind fun y st2 => match y with
        | .int i => .ok [.int i] st2
        | _ => .bad
      | none => .bad) xw.1 [] st1).bind fun ys st2 => match intsOf ys with
        | some ns => newL fr ((sortD ns).map .int) st2
        | none => .bad := by
  first | rfl | (simp only [evE]; done) | (rw [evE]; all_goals (intro z; cases z))
@[simp] theorem r_fld (i : Nat) : evE C (.fld i) env st = (match env[i]? with
    | some (some (.exn c D v)) => if D = C.cl c ∧ (C.ec.lookup c).isSome = true then .ok v st else .bad
    | _ => .bad) := by
  first | rfl | (simp only [evE]; done) | (rw [evE]; all_goals (intro z; cases z))
@[simp] theorem r_ise (e : Ex) (c : Str) : evE C (.ise e c) env st = (evE C e env st).bind fun x st1 => match iseV C c x with
    | some b => .ok (.bl b) st1
    | none => .bad := by
  first | rfl | (simp only [evE]; done) | (rw [evE]; all_goals (intro z; cases z))
@[simp] theorem r_me (m : Me) (i : Nat) (es : Exs) : evE C (.me m i es) env st = (match env[i]? with
    | some (some (.loc l)) => (evEs C es env st).bind fun ys st2 => meV m st2 l ys
    | _ => .bad) := by
  first | rfl | (simp only [evE]; done) | (rw [evE]; all_goals (intro z; cases z))
@[simp] theorem r_lc (fr : Bool) (own : List Nat) (p : Pt) (it : Ix) (cs : Exs) (e : Ex) : evE C (.lc fr own p it cs e) env st = (evIx C it env st).bind fun xw st1 => (compF xw.2 (fun x st => match asgP p x (wipeE env own) with
      | some env1 => (evTests C cs env1 st).quiet.bind fun b st1 => if b = true then (evE C e env1 st1).quiet.bind fun y st2 => .ok [y] st2 else .ok [] st1
      | none => .bad) xw.1 [] st1).bind fun ys st2 => newL fr ys st2 := by
  first | rfl | (simp only [evE]; done) | (rw [evE]; all_goals (intro z; cases z))
@[simp] theorem r_es0  : evEs C .nil env st = Out.ok [] st := by
  first | rfl | (simp only [evEs]; done) | (rw [evEs]; all_goals (intro z; cases z))
@[simp] theorem r_es1 (e : Ex) (es : Exs) : evEs C (.cons e es) env st = (evE C e env st).bind fun x st1 => (evEs C es env st1).bind fun xs st2 => .ok (x :: xs) st2 := by
  first | rfl | (simp only [evEs]; done) | (rw [evEs]; all_goals (intro z; cases z))
@[simp] theorem r_and1 (e : Ex) : evAnd C (.cons e .nil) env st = evE C e env st := by
  first | rfl | (simp only [evAnd]; done) | (rw [evAnd]; all_goals (intro z; cases z))
@[simp] theorem r_and2 (e e2 : Ex) (es : Exs) : evAnd C (.cons e (.cons e2 es)) env st = (evE C e env st).bind fun x st1 => match Iv.truthy st1 x with
    | some true => evAnd C (.cons e2 es) env st1
    | some false => .ok x st1
    | none => .bad := by
  first | rfl | (simp only [evAnd]; done) | (rw [evAnd]; all_goals (intro z; cases z))
@[simp] theorem r_or1 (e : Ex) : evOr C (.cons e .nil) env st = evE C e env st := by
  first | rfl | (simp only [evOr]; done) | (rw [evOr]; all_goals (intro z; cases z))
@[simp] theorem r_or2 (e e2 : Ex) (es : Exs) : evOr C (.cons e (.cons e2 es)) env st = (evE C e env st).bind fun x st1 => match Iv.truthy st1 x with
    | some true => .ok x st1
    | some false => evOr C (.cons e2 es) env st1
    | none => .bad := by
  first | rfl | (simp only [evOr]; done) | (rw [evOr]; all_goals (intro z; cases z))
@[simp] theorem r_t0  : evTests C .nil env st = Out.ok true st := by
  first | rfl | (simp only [evTests]; done) | (rw [evTests]; all_goals (intro z; cases z))
@[simp] theorem r_t1 (e : Ex) (es : Exs) : evTests C (.cons e es) env st = (evE C e env st).bind fun x st1 => .of (Iv.truthy st1 x) st1 := by
  first | rfl | (simp only [evTests]; done) | (rw [evTests]; all_goals (intro z; cases z))
@[simp] theorem r_val (e : Ex) : evIx C (.val e) env st = (evE C e env st).bind fun x st1 => match seqA st1 x with
    | some xs => .ok (xs, watchOf x xs) st1
    | none => .bad := by
  first | rfl | (simp only [evIx]; done) | (rw [evIx]; all_goals (intro z; cases z))
@[simp] theorem r_rng1 (a : Ex) : evIx C (.rng1 a) env st = (evE C a env st).bind fun x st1 => rngV1 st1 x := by
  first | rfl | (simp only [evIx]; done)
@[simp] theorem r_kr (a : Ex) : evIx C (.kr a) env st = (evE C a env st).bind fun x st1 => krV st1 x := by
  first | rfl | (simp only [evIx]; done)
@[simp] theorem r_rng2 (a b : Ex) : evIx C (.rng2 a b) env st = (evE C a env st).bind fun x st1 => (evE C b env st1).bind fun y st2 => rngV2 st2 x y := by
  first | rfl | (simp only [evIx]; done)
@[simp] theorem r_rng3 (a b : Ex) (c : Int) : evIx C (.rng3 a b c) env st = (evE C a env st).bind fun x st1 => (evE C b env st1).bind fun y st2 => rngV3 c st2 x y := by
  first | rfl | (simp only [evIx]; done)
@[simp] theorem r_zip (a b : Ex) : evIx C (.zip a b) env st = (evE C a env st).bind fun x st1 => (evE C b env st1).bind fun y st2 => zipV st2 x y := by
  first | rfl | (simp only [evIx]; done) | (rw [evIx]; all_goals (intro z; cases z))
@[simp] theorem r_enm (a : Ex) : evIx C (.enm a) env st = (evE C a env st).bind fun x st1 => match seqA st1 x with
    | some xs => .ok (xs.zipIdx.map fun p => .tup [.int (p.2 : Nat), p.1], watchOf x xs) st1
    | none => .bad := by
  first | rfl | (simp only [evIx]; done) | (rw [evIx]; all_goals (intro z; cases z))
@[simp] theorem r_sexpr (e : Ex) : evS C (.expr e) env st = (evE C e env st).lift env fun _ st1 => .ok (.nx env) st1 := by
  first | rfl | (simp only [evS]; done) | (rw [evS]; all_goals (intro z; cases z))
@[simp] theorem r_sasg (p : Pt) (e : Ex) : evS C (.asg (.p p) e) env st = (evE C e env st).lift env fun x st1 => match asgP p x env with
    | some env1 => .ok (.nx env1) st1
    | none => .bad := by
  first | rfl | (simp only [evS]; done) | (rw [evS]; all_goals (intro z; cases z))
@[simp] theorem r_ssub (o i e : Ex) : evS C (.asg (.sub o i) e) env st = (evE C e env st).lift env fun x st1 => (evE C o env st1).lift env fun y st2 => (evE C i env st2).lift env fun z st3 => match setV st3 y z x with
    | some st4 => .ok (.nx env) st4
    | none => .bad := by
  first | rfl | (simp only [evS]; done) | (rw [evS]; all_goals (intro z; cases z))
@[simp] theorem r_saug (i : Nat) (o : Bop) (e : Ex) : evS C (.aug i o e) env st = (match env[i]? with
    | some (some v) => (evE C e env st).lift env fun x st1 => match augV o v x with
      | some z => .ok (.nx (env.set i (some z))) st1
      | none => .bad
    | _ => .bad) := by
  first | rfl | (simp only [evS]; done) | (rw [evS]; all_goals (intro z; cases z))
@[simp] theorem r_siff (c : Ex) (a b : Sxs) : evS C (.iff c a b) env st = (evC C c env st).lift env fun t st1 => if t = true then evSs C a env st1 else evSs C b env st1 := by
  first | rfl | (simp only [evS]; done) | (rw [evS]; all_goals (intro z; cases z))
@[simp] theorem r_sfr (p : Pt) (it : Ix) (b : Sxs) : evS C (.fr p it b) env st = (evIx C it env st).lift env fun xw st1 => loopF xw.2 (fun x env st => match asgP p x env with
    | some env1 => evSs C b env1 st
    | none => .bad) xw.1 env st1 := by
  first | rfl | (simp only [evS]; done) | (rw [evS]; all_goals (intro z; cases z))
@[simp] theorem r_swh (c : Ex) (b : Sxs) : evS C (.wh c b) env st = whN (evC C c) (evSs C b) wfuel env st := by
  first | rfl | (simp only [evS]; done) | (rw [evS]; all_goals (intro z; cases z))
@[simp] theorem r_sret (e : Ex) : evS C (.ret e) env st = (evE C e env st).lift env fun x st1 => .ok (.rt x) st1 := by
  first | rfl | (simp only [evS]; done) | (rw [evS]; all_goals (intro z; cases z))
@[simp] theorem r_sretn  : evS C .retn env st = Out.ok (.rt .non) st := by
  first | rfl | (simp only [evS]; done) | (rw [evS]; all_goals (intro z; cases z))
@[simp] theorem r_sbrk  : evS C .brk env st = Out.ok (.bk env) st := by
  first | rfl | (simp only [evS]; done) | (rw [evS]; all_goals (intro z; cases z))
@[simp] theorem r_scont  : evS C .cont env st = Out.ok (.ct env) st := by
  first | rfl | (simp only [evS]; done) | (rw [evS]; all_goals (intro z; cases z))
@[simp] theorem r_spass  : evS C .pass env st = Out.ok (.nx env) st := by
  first | rfl | (simp only [evS]; done) | (rw [evS]; all_goals (intro z; cases z))
@[simp] theorem r_srs (c : Str) (e : Ex) : evS C (.rs c e) env st = (evE C e env st).lift env fun x st1 => if (C.ec.lookup c).isSome = true then .ok (.rz c x env) st1 else .bad := by
  first | rfl | (simp only [evS]; done) | (rw [evS]; all_goals (intro z; cases z))
@[simp] theorem r_str (b : Sxs) (hs : Hds) : evS C (.tr b hs) env st = (evSs C b env st).bind fun f st1 => match f with
    | .rz c v e => evH C hs c v e st1
    | f => .ok f st1 := by
  first | rfl | (simp only [evS]; done) | (rw [evS]; all_goals (intro z; cases z))
@[simp] theorem r_h0 (c : Str) (v : PV) : evH C .nil c v env st = .ok (.rz c v env) st := by
  first | rfl | (simp only [evH]; done)
@[simp] theorem r_h1 (x : Str) (i : Option Nat) (b : Sxs) (r : Hds) (c : Str) (v : PV) : evH C (.cons x i b r) c v env st = match C.sub c x with
    | some true => (evSs C b (inH C i c v env) st).bind fun f st1 => match f with
      | .nx e => .ok (.nx (outH i e)) st1
      | .bk e => .ok (.bk (outH i e)) st1
      | .ct e => .ok (.ct (outH i e)) st1
      | .rt p => .ok (.rt p) st1
      | .rz .. => .bad
    | some false => evH C r c v env st
    | none => .bad := by
  first | rfl | (simp only [evH]; done)
@[simp] theorem r_snev  : evS C .nev env st = Out.bad := by
  first | rfl | (simp only [evS]; done) | (rw [evS]; all_goals (intro z; cases z))
@[simp] theorem r_ss0  : evSs C .nil env st = Out.ok (.nx env) st := by
  first | rfl | (simp only [evSs]; done) | (rw [evSs]; all_goals (intro z; cases z))
theorem r_ss1 (s : Sx) (r : Sxs) : evSs C (.cons s r) env st = (evS C s env st).bind fun f st1 => match f with
    | .nx env1 => evSs C r env1 st1
    | .bk e => .ok (.bk e) st1
    | .ct e => .ok (.ct e) st1
    | .rt v => .ok (.rt v) st1
    | .rz c v e => .ok (.rz c v e) st1 := by
  first | rfl | (simp only [evSs]; done) | (rw [evSs]; all_goals (intro z; cases z))
theorem wp_ss {C : Ctx} {env : Env} {st : Store} {s : Sx} {r : Sxs} {Q : Fl → Store → Prop} : wpO (evSs C (.cons s r) env st) Q = wpO (evS C s env st) fun f st1 => match f with
    | .nx env1 => wpO (evSs C r env1 st1) Q
    | .bk e => Q (.bk e) st1
    | .ct e => Q (.ct e) st1
    | .rt v => Q (.rt v) st1
    | .rz c v e => Q (.rz c v e) st1 := by
  rw [r_ss1, wp_bind]
  congr 1
  funext f st1
  cases f <;> rfl
@[simp] theorem r_C (c : Ex) : evC C c env st = (evE C c env st).bind fun x st1 => .of (Iv.truthy st1 x) st1 := rfl
theorem wp_try {C : Ctx} {env : Env} {st : Store} {b : Sxs} {hs : Hds} {Q : Fl → Store → Prop} : wpO (evS C (.tr b hs) env st) Q = wpO (evSs C b env st) fun f st1 => match f with
    | .rz c v e => wpO (evH C hs c v e st1) Q
    | f => Q f st1 := by
  rw [r_str, wp_bind]
  congr 1
  funext f st1
  cases f <;> rfl
end
@[simp] theorem tr_bl (st : Store) (b : Bool) : Iv.truthy st (.bl b) = some b := rfl
@[simp] theorem tr_int (st : Store) (i : Int) : Iv.truthy st (.int i) = some (i != 0) := rfl
@[simp] theorem tr_non (st : Store) : Iv.truthy st .non = some false := rfl
@[simp] theorem tr_tup (st : Store) (xs : List PV) : Iv.truthy st (.tup xs) = some (!xs.isEmpty) := rfl
@[simp] theorem tr_lsv (st : Store) (xs : List PV) : Iv.truthy st (.lsv xs) = some (!xs.isEmpty) := rfl
end L2.Iv
namespace L2.Iv
open PySem
theorem freeAll_all : ∀ xs : List PV, freeAll xs = xs.all PV.free
  | [] => rfl
  | x :: xs => by rw [freeAll, List.all_cons, freeAll_all xs]
mutual
def fit (n : Nat) : PV → Bool
  | .loc _ => false
  | .exn .. => false
  | .dct .. => false
  | .non => true
  | .bl _ => true
  | .int _ => true
  | .str s => PyData.strOk s
  | .tup xs => match n with
    | 0 => false
    | m + 1 => fits m xs
  | .lsv xs => match n with
    | 0 => false
    | m + 1 => fits m xs
def fits (n : Nat) : List PV → Bool
  | [] => true
  | x :: xs => fit n x && fits n xs
end
theorem fits_all (n : Nat) : ∀ xs : List PV, fits n xs = xs.all (fit n)
  | [] => rfl
  | x :: xs => by rw [fits, List.all_cons, fits_all n xs]
mutual
theorem fit_ok : ∀ (p : PV) (n : Nat), fit n p = true → p.data = true ∧ p.toD.canLay0 = true ∧ p.toD.depth ≤ n
  | .loc _, _, h => by cases h
  | .exn .., _, h => by cases h
  | .dct .., _, h => by cases h
  | .non, n, h => ⟨rfl, rfl, Nat.zero_le _⟩
  | .bl _, n, h => ⟨rfl, rfl, Nat.zero_le _⟩
  | .int _, n, h => ⟨rfl, rfl, Nat.zero_le _⟩
  | .str s, n, h => ⟨rfl, h, Nat.zero_le _⟩
  | .tup xs, 0, h => by cases h
  | .tup xs, n + 1, h => by
    obtain ⟨h1, h2, h3⟩ := fits_ok xs n h
    exact ⟨h1, h2, Nat.succ_le_succ h3⟩
  | .lsv xs, 0, h => by cases h
  | .lsv xs, n + 1, h => by
    obtain ⟨h1, h2, h3⟩ := fits_ok xs n h
    exact ⟨h1, h2, Nat.succ_le_succ h3⟩
theorem fits_ok : ∀ (xs : List PV) (n : Nat), fits n xs = true → dataAll xs = true ∧ PyData.canLayAll0 (toDs xs) = true ∧ PyData.depthAll (toDs xs) ≤ n
  | [], n, h => ⟨rfl, rfl, Nat.zero_le _⟩
  | x :: xs, n, h => by
    have h : (fit n x && fits n xs) = true := h
    rw [Bool.and_eq_true] at h
    obtain ⟨h1, h2, h3⟩ := fit_ok x n h.1
    obtain ⟨g1, g2, g3⟩ := fits_ok xs n h.2
    refine ⟨?_, ?_, ?_⟩
    · show (x.data && dataAll xs) = true
      rw [h1, g1]; rfl
    · show (x.toD.canLay0 && PyData.canLayAll0 (toDs xs)) = true
      rw [h2, g2]; rfl
    · exact Nat.max_le.mpr ⟨h3, g3⟩
end
theorem eqv_fit {st : Store} {p q : PV} (hp : fit 64 p = true) (hq : fit 64 q = true) : eqvV st p q = some (PyData.eqv p.toD q.toD) := by
  have gen : eqvD p q = some (PyData.eqv p.toD q.toD) := by
    obtain ⟨h1, h2, h3⟩ := fit_ok p 64 hp
    obtain ⟨g1, g2, g3⟩ := fit_ok q 64 hq
    unfold eqvD
    refine if_pos ⟨h1, g1, ?_, ?_⟩
    · unfold SeqAt.shaped; rw [h2, decide_eq_true h3]; rfl
    · unfold SeqAt.shaped; rw [g2, decide_eq_true g3]; rfl
  cases p <;> cases q <;> first | exact gen | rfl | (cases hp; done)
@[simp] theorem eqv_ints (st : Store) (i j : Int) : eqvV st (.int i) (.int j) = some (i == j) := eqv_fit rfl rfl
mutual
def slen : PV → Nat
  | .loc _ => 4
  | .exn .. => 4
  | .dct .. => 4
  | .non => 4
  | .bl _ => 5
  | .int i => (toString i).length
  | .str s => (reprText s).length
  | .tup xs => slens xs + 3
  | .lsv xs => slens xs + 3
def slens : List PV → Nat
  | [] => 0
  | x :: xs => slen x + 2 + slens xs
end
mutual
theorem slen_ok : ∀ p : PV, p.toD.shown.length ≤ slen p
  | .loc _ => by show (PyData.shown .none).length ≤ 4; decide
  | .exn .. => by show (PyData.shown .none).length ≤ 4; decide
  | .dct .. => by show (PyData.shown .none).length ≤ 4; decide
  | .non => by show (PyData.shown .none).length ≤ 4; decide
  | .bl b => by cases b <;> (show _ ≤ 5; decide)
  | .int i => by
    show (Str.ofString (toString i)).length ≤ (toString i).length
    rw [ofString_length]
    exact Nat.le_refl _
  | .str s => Nat.le_refl _
  | .tup xs => by
    have h := tupleText_len_le (PyData.shownAll (toDs xs))
    have h2 := slens_ok xs
    show (tupleText (PyData.shownAll (toDs xs))).length ≤ slens xs + 3
    omega
  | .lsv xs => by
    have h := listText_len_le (PyData.shownAll (toDs xs))
    have h2 := slens_ok xs
    show (listText (PyData.shownAll (toDs xs))).length ≤ slens xs + 3
    omega
theorem slens_ok : ∀ xs : List PV, ((PyData.shownAll (toDs xs)).map (·.length)).sum + 2 * (PyData.shownAll (toDs xs)).length ≤ slens xs
  | [] => Nat.le_refl _
  | x :: xs => by
    have h1 := slen_ok x
    have h2 := slens_ok xs
    show ((x.toD.shown :: PyData.shownAll (toDs xs)).map (·.length)).sum + 2 * (x.toD.shown :: PyData.shownAll (toDs xs)).length ≤ slen x + 2 + slens xs
    simp only [List.map_cons, List.sum_cons, List.length_cons]
    omega
end
structure Shows (p : PV) (n L : Nat) : Prop where
  fit : fit n p = true
  nums : p.toD.showable = true
  len : slen p ≤ L
theorem Shows.mono {p : PV} {n L m M : Nat} (h : Shows p n L) (h1 : n = m) (h2 : L ≤ M) : Shows p m M := ⟨h1 ▸ h.fit, h.nums, Nat.le_trans h.len h2⟩
theorem shows_int {i : Int} {n k : Nat} (hk : 0 < k) (h : i.natAbs < 10 ^ k) (hs : k ≤ 250) : Shows (.int i) n (k + 1) := by
  refine ⟨rfl, decide_eq_true ?_, int_text_length_le10 hk h⟩
  have h1 : i.natAbs < 2 ^ 1920 := Nat.lt_of_lt_of_le h (Nat.le_trans (Nat.pow_le_pow_right (by decide) hs) (by decide))
  by_cases h0 : i.natAbs = 0
  · rw [h0]; decide
  · exact (Nat.log2_lt h0).mpr h1
theorem repr_shows {p : PV} {n L : Nat} {fr : Bool} {st : Store} (h : Shows p n L) (hn : n ≤ 64) (hL : L ≤ sizeLine) : biV .repr fr st [p] = .ok (.str p.toD.shown) st := by
  obtain ⟨h1, h2, h3⟩ := fit_ok p n h.fit
  show (if p.data = true ∧ p.toD.showable = true ∧ p.toD.shown.length ≤ sizeLine ∧ p.toD.depth ≤ 64 then _ else _) = _
  exact if_pos ⟨h1, h.nums, Nat.le_trans (slen_ok p) (Nat.le_trans h.len hL), Nat.le_trans h3 hn⟩
end L2.Iv
namespace L2.Iv
open PySem
section
variable {st : Store} {fr : Bool} {xs ys : List PV} {i j : Int} {env : Env} {v w : PV}
@[simp] theorem asg_n (k : Nat) : asgP (.n k) v env = some (env.set k (some v)) := rfl
@[simp] theorem asg_t2 (a b : Pt) (x y : PV) : asgP (.t2 a b) (.tup [x, y]) env = (asgP a x env).bind (asgP b y) := rfl
@[simp] theorem asg_t3 (a b c : Pt) (x y z : PV) : asgP (.t3 a b c) (.tup [x, y, z]) env = ((asgP a x env).bind (asgP b y)).bind (asgP c z) := rfl
@[simp] theorem asg_t4 (a b c d : Pt) (x y z u : PV) : asgP (.t4 a b c d) (.tup [x, y, z, u]) env = (((asgP a x env).bind (asgP b y)).bind (asgP c z)).bind (asgP d u) := rfl
@[simp] theorem asg_t5 (a b c d e : Pt) (x y z u v : PV) : asgP (.t5 a b c d e) (.tup [x, y, z, u, v]) env = ((((asgP a x env).bind (asgP b y)).bind (asgP c z)).bind (asgP d u)).bind (asgP e v) := rfl
@[simp] theorem wipe_nil : wipeE env [] = env := rfl
@[simp] theorem wipe_cons (k : Nat) (ks : List Nat) : wipeE env (k :: ks) = (wipeE env ks).set k none := rfl
@[simp] theorem seqA_tup : seqA st (.tup xs) = some xs := rfl
@[simp] theorem seqA_lsv : seqA st (.lsv xs) = some xs := rfl
@[simp] theorem seqA_loc (k : Nat) : seqA st (.loc k) = st[k]? := rfl
@[simp] theorem seqL_lsv : seqL st (.lsv xs) = some xs := rfl
@[simp] theorem seqL_loc (k : Nat) : seqL st (.loc k) = st[k]? := rfl
@[simp] theorem watch_tup : watchOf (.tup xs) ys = [] := rfl
@[simp] theorem watch_lsv : watchOf (.lsv xs) ys = [] := rfl
@[simp] theorem watch_loc (k : Nat) : watchOf (.loc k) ys = [(k, ys)] := rfl
@[simp] theorem newL_t : newL true xs st = .ok (.lsv xs) st := rfl
@[simp] theorem newL_f : newL false xs st = .ok (.loc st.length) (st ++ [xs]) := rfl
@[simp] theorem ty_non : tyOfP .non = some "NoneType" := rfl
@[simp] theorem ty_bl (b : Bool) : tyOfP (.bl b) = some "bool" := rfl
@[simp] theorem ty_int : tyOfP (.int i) = some "int" := rfl
@[simp] theorem ty_str (s : Str) : tyOfP (.str s) = some "str" := rfl
@[simp] theorem ty_tup : tyOfP (.tup xs) = some "tuple" := rfl
@[simp] theorem ty_lsv : tyOfP (.lsv xs) = some "list" := rfl
@[simp] theorem ty_loc (k : Nat) : tyOfP (.loc k) = some "list" := rfl
@[simp] theorem b_add : binV .add fr st (.int i) (.int j) = .ok (.int (i + j)) st := rfl
@[simp] theorem b_addT : binV .add fr st (.tup xs) (.tup ys) = if xs.length + ys.length ≤ sizeLine then .ok (.tup (xs ++ ys)) st else .bad := rfl
@[simp] theorem b_addS (a b : Str) : binV .add fr st (.str a) (.str b) = if a.length + b.length ≤ sizeLine then .ok (.str (a ++ b)) st else .bad := rfl
@[simp] theorem b_addL : binV .add fr st (.lsv xs) (.lsv ys) = if xs.length + ys.length ≤ sizeLine then newL fr (xs ++ ys) st else .bad := rfl
@[simp] theorem b_sub : binV .sub fr st (.int i) (.int j) = .ok (.int (i - j)) st := rfl
@[simp] theorem b_mul : binV .mul fr st (.int i) (.int j) = if i.natAbs.log2 + j.natAbs.log2 < 1000000 then .ok (.int (i * j)) st else .bad := rfl
@[simp] theorem b_fdiv : binV .fdiv fr st (.int i) (.int j) = if 0 < j ∧ j.natAbs.log2 < 9000 then .ok (.int (i / j)) st else .bad := rfl
@[simp] theorem b_mod : binV .mod fr st (.int i) (.int j) = if 0 < j then .ok (.int (i % j)) st else .bad := rfl
@[simp] theorem b_pow : binV .pow fr st (.int i) (.int j) = if 0 ≤ j ∧ j ≤ 1000000 ∧ i.natAbs < 2 ^ 64 then .ok (.int (i ^ j.toNat)) st else .bad := rfl
@[simp] theorem c_eq : cmpV .eq st v w = eqvV st v w := rfl
@[simp] theorem c_ne : cmpV .ne st v w = (eqvV st v w).map (!·) := rfl
@[simp] theorem c_lt : cmpV .lt st (.int i) (.int j) = some (decide (i < j)) := rfl
@[simp] theorem c_le : cmpV .le st (.int i) (.int j) = some (decide (i ≤ j)) := rfl
@[simp] theorem c_gt : cmpV .gt st (.int i) (.int j) = some (decide (j < i)) := rfl
@[simp] theorem c_ge : cmpV .ge st (.int i) (.int j) = some (decide (j ≤ i)) := rfl
@[simp] theorem c_isB (a b : Bool) : cmpV .is st (.bl a) (.bl b) = some (decide (a = b)) := rfl
@[simp] theorem eqv_strs (a b : Str) : eqvV st (.str a) (.str b) = some (a == b) := rfl
@[simp] theorem a_add : augV .add (.int i) (.int j) = some (.int (i + j)) := rfl
@[simp] theorem a_sub : augV .sub (.int i) (.int j) = some (.int (i - j)) := rfl
@[simp] theorem ix_tup : ixV st (.tup xs) (.int i) = L2.atI xs i := rfl
@[simp] theorem ix_lsv : ixV st (.lsv xs) (.int i) = L2.atI xs i := rfl
@[simp] theorem ix_loc (k : Nat) : ixV st (.loc k) (.int i) = match st[k]? with
    | some xs => L2.atI xs i
    | none => none := rfl
theorem at_nn {α : Type} {xs : List α} {i : Int} (h : 0 ≤ i) : L2.atI xs i = xs[i.toNat]? := by
  unfold L2.atI L2.ixN
  rw [if_pos h]
  by_cases h1 : i < xs.length
  · rw [if_pos h1]; rfl
  · rw [if_neg h1]
    exact (List.getElem?_eq_none (by omega)).symm
@[simp] theorem at_0 {α : Type} {xs : List α} : L2.atI xs 0 = xs[0]? := at_nn (by decide)
@[simp] theorem at_1 {α : Type} {xs : List α} : L2.atI xs 1 = xs[1]? := at_nn (by decide)
@[simp] theorem at_2 {α : Type} {xs : List α} : L2.atI xs 2 = xs[2]? := at_nn (by decide)
@[simp] theorem at_3 {α : Type} {xs : List α} : L2.atI xs 3 = xs[3]? := at_nn (by decide)
@[simp] theorem at_4 {α : Type} {xs : List α} : L2.atI xs 4 = xs[4]? := at_nn (by decide)
@[simp] theorem sl_tup (lo hi : Option Int) : slV fr st (.tup xs) lo hi = .ok (.tup (cutP xs lo hi)) st := rfl
@[simp] theorem sl_lsv (lo hi : Option Int) : slV fr st (.lsv xs) lo hi = newL fr (cutP xs lo hi) st := rfl
theorem cut_from (k : Nat) : cutP xs (some (k : Int)) none = xs.drop k := by
  unfold cutP
  rw [HT.sIx_nat, HT.sIx_none]
  by_cases h : k ≤ xs.length
  · rw [Nat.min_eq_left h]
    exact List.take_of_length_le (by rw [List.length_drop]; exact Nat.le_refl _)
  · rw [Nat.min_eq_right (by omega), List.drop_length, List.drop_eq_nil_of_le (by omega), List.take_nil]
@[simp] theorem cut_1 : cutP xs (some 1) none = xs.drop 1 := cut_from 1
@[simp] theorem cut_2 : cutP xs (some 2) none = xs.drop 2 := cut_from 2
theorem cut_to (k : Nat) : cutP xs none (some (k : Int)) = xs.take k := by
  unfold cutP
  rw [HT.sIx_nat, HT.sIx_none, List.drop_zero, Nat.sub_zero]
  by_cases h : k ≤ xs.length
  · rw [Nat.min_eq_left h]
  · rw [Nat.min_eq_right (by omega), List.take_length, List.take_of_length_le (by omega)]
@[simp] theorem set_loc (k : Nat) : setV st (.loc k) (.int i) v = match st[k]? with
    | some xs => (L2.ixN xs.length i).map fun j => st.set k (xs.set j v)
    | none => none := rfl
@[simp] theorem bi_lenT : biV .len fr st [.tup xs] = .ok (.int xs.length) st := rfl
@[simp] theorem bi_lenL : biV .len fr st [.lsv xs] = .ok (.int xs.length) st := rfl
@[simp] theorem bi_lenM (k : Nat) : biV .len fr st [.loc k] = match st[k]? with
    | some xs => .ok (.int xs.length) st
    | none => .bad := rfl
@[simp] theorem bi_abs : biV .abs fr st [.int i] = .ok (.int (if i < 0 then -i else i)) st := rfl
@[simp] theorem bi_max2 : biV .max2 fr st [.int i, .int j] = .ok (.int (if j > i then j else i)) st := rfl
@[simp] theorem bi_min2 : biV .min2 fr st [.int i, .int j] = .ok (.int (if j < i then j else i)) st := rfl
@[simp] theorem bi_sum : biV .sum fr st [.lsv xs] = match intsOf xs with
    | some ns => .ok (.int ns.sum) st
    | none => .bad := by
  show (match intsOf xs with
    | some ns => Out.ok (PV.int ns.sum) st
    | _ => .bad) = _
  cases intsOf xs <;> rfl
@[simp] theorem bi_all : biV .all fr st [.lsv xs] = match blsOf xs with
    | some bs => .ok (.bl (bs.all id)) st
    | none => .bad := by
  show (match blsOf xs with
    | some ns => Out.ok (PV.bl (ns.all id)) st
    | _ => .bad) = _
  cases blsOf xs <;> rfl
@[simp] theorem bi_any : biV .any fr st [.lsv xs] = match blsOf xs with
    | some bs => .ok (.bl (bs.any id)) st
    | none => .bad := by
  show (match blsOf xs with
    | some ns => Out.ok (PV.bl (ns.any id)) st
    | _ => .bad) = _
  cases blsOf xs <;> rfl
@[simp] theorem bi_int : biV .int fr st [.int i] = .ok (.int i) st := rfl
@[simp] theorem bi_tupT : biV .tuple fr st [.tup xs] = .ok (.tup xs) st := rfl
@[simp] theorem bi_tupL : biV .tuple fr st [.lsv xs] = .ok (.tup xs) st := rfl
@[simp] theorem bi_tupM (k : Nat) : biV .tuple fr st [.loc k] = match st[k]? with
    | some xs => .ok (.tup xs) st
    | none => .bad := by
  show (match st[k]? with
    | some xs => Out.ok (PV.tup xs) st
    | none => .bad) = _
  cases st[k]? <;> rfl
@[simp] theorem bi_listT : biV .list fr st [.tup xs] = newL fr xs st := rfl
@[simp] theorem bi_listL : biV .list fr st [.lsv xs] = newL fr xs st := rfl
@[simp] theorem me_app (k : Nat) : meV .append st k [v] = match st[k]? with
    | some xs => if xs.length < sizeLine then .ok .non (st.set k (xs ++ [v])) else .bad
    | none => .bad := by
  cases h : st[k]? <;> simp [meV, h]
@[simp] theorem zip_tup : zipV st (.tup xs) (.tup ys) = .ok ((xs.zip ys).map fun p => .tup [p.1, p.2], []) st := rfl
@[simp] theorem zip_lsv : zipV st (.lsv xs) (.lsv ys) = .ok ((xs.zip ys).map fun p => .tup [p.1, p.2], []) st := rfl
end
theorem bls_map {α : Type} (f : α → Bool) : ∀ l : List α, blsOf (l.map fun x => .bl (f x)) = some (l.map f)
  | [] => rfl
  | x :: l => by
    show (blsOf (l.map fun x => .bl (f x))).map (f x :: ·) = _
    rw [bls_map f l]; rfl
theorem ints_map {α : Type} (f : α → Int) : ∀ l : List α, intsOf (l.map fun x => .int (f x)) = some (l.map f)
  | [] => rfl
  | x :: l => by
    show (intsOf (l.map fun x => .int (f x))).map (f x :: ·) = _
    rw [ints_map f l]; rfl
@[simp] theorem frz_bl (m : Nat) (s : Store) (b : Bool) : frz m s 64 (.bl b) = some (.bl b) := frz_free rfl
@[simp] theorem frz_int (m : Nat) (s : Store) (b : Int) : frz m s 64 (.int b) = some (.int b) := frz_free rfl
@[simp] theorem frz_non (m : Nat) (s : Store) : frz m s 64 .non = some .non := frz_free rfl
end L2.Iv
namespace L2.Iv
open PySem PySem.Spec PyProof.Rows
def clsBody (s : Stmt) : List Stmt := match s with
  | .ClassDef _ _ _ b _ _ _ _ _ _ _ => b
  | _ => []
theorem isa_of {K : PySem.W.Frag} {C D : Addr} {b : Bool} (h1 : PySem.W.subIn K (.ref D) (.type "BaseException") = some true) (h2 : PySem.W.isClsIn K D = true) (h3 : PySem.W.typeIn K (.ref D) = some (.type "type")) (h4 : PySem.W.subIn K (.ref C) (.ref D) = some b)
    (h5 : PySem.W.subIn K (.ref C) (.ref C) = some true) : PySem.W.kitOne K (.ref C) (.ref D) = some b ∧ PySem.W.exmOne K (.ref C) (.ref D) = some b := by
  have e2 : ((PySem.W.clsIn K D).isSome && PySem.W.typeIn K (.ref D) == some (.type "type")) = true := by
    have h2' : (PySem.W.clsIn K D).isSome = true := h2
    rw [h2', h3] <;> rfl
  have ek : PySem.W.kitCls K (.ref C) (.ref D) = some b := (if_pos e2).trans h4
  refine ⟨?_, ?_⟩
  · unfold PySem.W.kitOne
    by_cases h : (Value.ref C == Value.ref D) = true
    · have e : C = D := Value.ref.inj (eq_of_beq h)
      subst e
      rw [h5] at h4
      rw [if_pos h, ← h4]
    · rw [if_neg h]
      exact ek
  · unfold PySem.W.exmOne
    rw [h1, if_pos (by rfl)]
    exact ek
theorem isa_ve {K : PySem.W.Frag} {C : Addr} (h : PySem.W.subIn K (.ref C) (.type "ValueError") = some true) (h0 : PySem.W.subIn K (.type "ValueError") (.type "BaseException") = some true) :
    PySem.W.kitOne K (.ref C) (.type "ValueError") = some true ∧ PySem.W.exmOne K (.ref C) (.type "ValueError") = some true := by
  have em : PySem.W.kitMeta "ValueError" = true := by decide +kernel
  have ek : PySem.W.kitCls K (.ref C) (.type "ValueError") = some true := by
    show (if PySem.W.kitMeta "ValueError" = true then PySem.W.subIn K (.ref C) (.type "ValueError") else none) = some true
    rw [if_pos em]
    exact h
  refine ⟨?_, ?_⟩
  · unfold PySem.W.kitOne
    rw [if_neg (by intro z; cases eq_of_beq z)]
    exact ek
  · unfold PySem.W.exmOne
    rw [h0, if_pos (by rfl)]
    exact ek
theorem isa_none {K : PySem.W.Frag} {C : Addr} (h2 : PySem.W.isClsIn K C = true) (h3 : PySem.W.typeIn K (.ref C) = some (.type "type")) (h : PySem.W.subIn K (.type "NoneType") (.ref C) = some false) : PySem.W.kitOne K (.type "NoneType") (.ref C) = some false := by
  have e2 : ((PySem.W.clsIn K C).isSome && PySem.W.typeIn K (.ref C) == some (.type "type")) = true := by
    have h2' : (PySem.W.clsIn K C).isSome = true := h2
    rw [h2', h3] <;> rfl
  unfold PySem.W.kitOne
  rw [if_neg (by intro z; cases eq_of_beq z)]
  exact (if_pos e2).trans h
theorem gl_tup {K : PySem.W.Frag} {mg : Str → Option Value} {x : Str} {a : Addr} {o : Obj} {its : Array Value} {n : Nat} {vs : List V} {ps : List PV} (m : mg x = some (.ref a)) (l : K.lookup a = some o) (hc : o.cls = .type "tuple") (hd : o.data = .seq its n)
    (hz : its.size ≤ sizeLine) (h : Vals vs its.toList) (q : ∀ F H r, Reps K F H r vs ps) : ∃ u v, mg x = some u ∧ RelV v u ∧ ∀ F H r, Rep K F H r v (.tup ps) :=
  ⟨.ref a, .ref a, m, rfl, fun F H r => .tup (.inr ⟨o, its, n, l, hc, hd, hz, h⟩) (q F H r)⟩
theorem gl_int {K : PySem.W.Frag} {mg : Str → Option Value} {x : Str} {i : Int} {t : Tok} (m : mg x = some (.int i t)) : ∃ u v, mg x = some u ∧ RelV v u ∧ ∀ F H r, Rep K F H r v (.int i) := ⟨_, .int i, m, ⟨t, rfl⟩, fun F H r => .int i⟩
end L2.Iv
namespace L2.Iv
open PySem
theorem fn_exc {g : Sg} {cl : Str → Nat} {n : Nat} {f : Str} {fn : Fn} {args : List PV} {st : Store} {c : Str} {v : PV} (hl : g.tb.lookup f = some fn) (ha : args.length = fn.ps.length) (hf : freeAll args = true)
    (h : wpO (evSs (g.ctx cl n) fn.body (env0 fn args) []) fun r s2 => match r with
      | .rz d u _ => d = c ∧ frz 0 s2 64 u = some v
      | _ => False) : (g.ctx cl (n + 1)).fn f args st = .exc c v st := by
  show callF cl g.ecs g.tb (fun x => g.gl.lookup x) (n + 1) f args st = _
  rw [callF_succ, hl]
  dsimp only
  rw [if_pos ⟨ha, ok_free hf⟩, locs_free hf, ren_frees hf]
  dsimp only [subSt]
  obtain ⟨r, s2, e, q⟩ := wp_get h
  have hrun : runB ⟨callF cl g.ecs g.tb (fun x => g.gl.lookup x) n, fun x => g.gl.lookup x, cl, g.ecs⟩ fn args [] = (evSs (g.ctx cl n) fn.body (env0 fn args) []).quiet.bind fun f st1 => match f with
    | .rt v => .ok v st1
    | .nx _ => .ok .non st1
    | .rz c v _ => .exc c v st1
    | _ => .bad := rfl
  rw [hrun, e]
  cases r with
  | rz d u en =>
    obtain ⟨rfl, q⟩ := q
    show (backV false [] st u s2).bind _ = _
    unfold backV
    dsimp only
    have e2 : flatSt (s2.take ([] : List Nat).length) = true := by rw [List.length_nil, List.take_zero]; rfl
    rw [if_pos ⟨Nat.zero_le _, e2⟩, if_neg Bool.false_ne_true]
    have e3 : frz ([] : List Nat).length s2 64 u = some v := q
    rw [e3]
    show Out.exc d v (putSt st [] (s2.take 0)) = _
    rw [List.take_zero]
    rfl
  | _ => exact q.elim
@[simp] theorem sub_ec (C : Ctx) (c x : Str) : C.sub c x = (C.ec.lookup c).map fun l => decide (x ∈ l) := rfl
@[simp] theorem inH_some (C : Ctx) (i : Nat) (c : Str) (v : PV) (env : Env) : inH C (some i) c v env = env.set i (some (.exn c (C.cl c) v)) := rfl
@[simp] theorem inH_none (C : Ctx) (c : Str) (v : PV) (env : Env) : inH C none c v env = env := rfl
@[simp] theorem outH_some (i : Nat) (env : Env) : outH (some i) env = env.set i none := rfl
@[simp] theorem outH_none (env : Env) : outH none env = env := rfl
@[simp] theorem ise_non (C : Ctx) (x : Str) : iseV C x .non = some false := rfl
@[simp] theorem ise_exn (C : Ctx) (x c : Str) (D : Nat) (v : PV) : iseV C x (.exn c D v) = if D = C.cl c then (C.ec.lookup c).map (fun l => decide (x ∈ l)) else none := rfl
end L2.Iv
namespace L2.K22
open PySem PySem.Spec PyProof.Rows L2.Iv
def topS (i : Nat) : Stmt := PySem.Challenge.pw_scatterrows_k22_whole_identities_in_tabl.main.body.getD i (.Pass ⟨0, 0, 0, 0⟩)
def f_is_integer : Fn where
  ps := ["value"]
  N := ["value"]
  body := (.cons (.ret (.ands (.cons (.isi (.v 0) "int") (.cons (.nt (.isi (.v 0) "bool")) .nil)))) <|
  .nil)
  mt := false
def f_is_between : Fn where
  ps := ["value", "low", "high"]
  N := ["value", "low", "high"]
  body := (.cons (.ret (.ands (.cons (.call "is_integer" (.cons (.v 0) .nil)) (.cons (.chn .le .le (.v 1) (.v 0) (.v 2)) .nil)))) <|
  .nil)
  mt := false
def f_inner_of : Fn where
  ps := ["k", "told"]
  N := ["k", "told"]
  body := (.cons (.iff (.call "is_integer" (.cons (.v 1) .nil)) (.cons (.ret (.ite (.chn .le .lt (.c (.int 0)) (.v 1) (.v 0)) (.tup .nil) (.c .non))) <|
    .nil) (.nil)) <|
  .cons (.iff (.ors (.cons (.nt (.isi (.v 1) "tuple")) (.cons (.cmp .eq (.bi .len true (.cons (.v 1) .nil)) (.c (.int 0))) (.cons (.nt (.isi (.ix (.v 1) (.c (.int 0))) "str")) .nil)))) (.cons (.ret (.c .non)) <|
    .nil) (.nil)) <|
  .cons (.iff (.cmp .eq (.ix (.v 1) (.c (.int 0))) (.c (.str "then"))) (.cons (.ret (.ite (.cmp .gt (.bi .len true (.cons (.v 1) .nil)) (.c (.int 2))) (.slF true (.v 1) (.c (.int 1))) (.c .non))) <|
    .nil) (.nil)) <|
  .cons (.iff (.cmp .isin (.ix (.v 1) (.c (.int 0))) (.g "POWERS")) (.cons (.ret (.ite (.cmp .eq (.bi .len true (.cons (.v 1) .nil)) (.c (.int 2))) (.slF true (.v 1) (.c (.int 1))) (.c .non))) <|
    .nil) (.nil)) <|
  .cons (.ret (.ite (.cmp .eq (.v 1) (.g "NONE")) (.tup .nil) (.c .non))) <|
  .nil)
  mt := false
def f_is_term_of : Fn where
  ps := ["k", "told"]
  N := ["k", "told", "waiting", "inner"]
  body := (.cons (.asg (.p (.n 2)) (.lst false (.cons (.v 1) .nil))) <|
  .cons (.wh (.cmp .gt (.bi .len true (.cons (.v 2) .nil)) (.c (.int 0))) (.cons (.asg (.p (.n 3)) (.call "inner_of" (.cons (.v 0) (.cons (.me .pop 2 .nil) .nil)))) <|
    .cons (.iff (.cmp .is (.v 3) (.c .non)) (.cons (.ret (.c (.bl false))) <|
      .nil) (.nil)) <|
    .cons (.expr (.me .extend 2 (.cons (.v 3) .nil))) <|
    .nil)) <|
  .cons (.ret (.c (.bl true))) <|
  .nil)
  mt := false
def f_check_term : Fn where
  ps := ["k", "term"]
  N := ["k", "term"]
  body := (.cons (.iff (.nt (.call "is_term_of" (.cons (.v 0) (.cons (.v 1) .nil)))) (.cons (.rs "InvalidTerm" (.v 1)) <|
    .nil) (.nil)) <|
  .nil)
  mt := false
def f_parts_in : Fn where
  ps := ["term"]
  N := ["term"]
  body := (.cons (.ret (.ite (.call "is_integer" (.cons (.v 0) .nil)) (.tup .nil) (.slF true (.v 0) (.c (.int 1))))) <|
  .nil)
  mt := false
def f_letters_in : Fn where
  ps := ["term"]
  N := ["term", "part", "letter"]
  body := (.cons (.iff (.call "is_integer" (.cons (.v 0) .nil)) (.cons (.ret (.lst true (.cons (.v 0) .nil))) <|
    .nil) (.nil)) <|
  .cons (.ret (.lc2 true [1, 2] (.n 1) (.val (.call "parts_in" (.cons (.v 0) .nil))) .nil [2] (.n 2) (.val (.call "letters_in" (.cons (.v 1) .nil))) .nil (.v 2))) <|
  .nil)
  mt := false
def f_are_values : Fn where
  ps := ["told", "many", "size"]
  N := ["told", "many", "size", "value"]
  body := (.cons (.ret (.ands (.cons (.isi (.v 0) "tuple") (.cons (.cmp .eq (.bi .len true (.cons (.v 0) .nil)) (.v 2)) (.cons (.bi .all true (.cons (.lc true [3] (.n 3) (.val (.v 0)) .nil (.call "is_between" (.cons (.v 3) (.cons (.c (.int 0)) (.cons (.bin .sub true (.v 1) (.c (.int 1))) .nil))))) .nil)) .nil))))) <|
  .nil)
  mt := false
def f_is_table_form : Fn where
  ps := ["told"]
  N := ["told", "letters", "products", "ons", "backs", "many", "row"]
  body := (.cons (.iff (.ors (.cons (.nt (.isi (.v 0) "tuple")) (.cons (.cmp .ne (.bi .len true (.cons (.v 0) .nil)) (.c (.int 4))) .nil))) (.cons (.ret (.c (.bl false))) <|
    .nil) (.nil)) <|
  .cons (.asg (.p (.t4 (.n 1) (.n 2) (.n 3) (.n 4))) (.v 0)) <|
  .cons (.iff (.ors (.cons (.nt (.isi (.v 1) "tuple")) (.cons (.nt (.isi (.v 2) "tuple")) .nil))) (.cons (.ret (.c (.bl false))) <|
    .nil) (.nil)) <|
  .cons (.asg (.p (.n 5)) (.bi .len true (.cons (.v 2) .nil))) <|
  .cons (.iff (.ors (.cons (.cmp .eq (.v 5) (.c (.int 0))) (.cons (.cmp .eq (.bi .len true (.cons (.v 1) .nil)) (.c (.int 0))) (.cons (.nt (.call "are_values" (.cons (.v 1) (.cons (.v 5) (.cons (.bi .len true (.cons (.v 1) .nil)) .nil))))) .nil)))) (.cons (.ret (.c (.bl false))) <|
    .nil) (.nil)) <|
  .cons (.ret (.bi .all true (.cons (.lc true [6] (.n 6) (.val (.bin .add true (.v 2) (.tup (.cons (.v 3) (.cons (.v 4) .nil))))) .nil (.call "are_values" (.cons (.v 6) (.cons (.v 5) (.cons (.v 5) .nil))))) .nil))) <|
  .nil)
  mt := false
def f_unit_fault : Fn where
  ps := ["table"]
  N := ["table", "letters", "products", "ons", "backs", "a"]
  body := (.cons (.asg (.p (.t4 (.n 1) (.n 2) (.n 3) (.n 4))) (.v 0)) <|
  .cons (.fr (.n 5) (.rng1 (.bi .len true (.cons (.v 2) .nil))) (.cons (.iff (.ors (.cons (.cmp .ne (.ix (.ix (.v 2) (.c (.int 0))) (.v 5)) (.v 5)) (.cons (.cmp .ne (.ix (.ix (.v 2) (.v 5)) (.c (.int 0))) (.v 5)) (.cons (.ands (.cons (.cmp .eq (.v 5) (.c (.int 0))) (.cons (.ors (.cons (.cmp .ne (.ix (.v 3) (.c (.int 0))) (.c (.int 0))) (.cons (.cmp .ne (.ix (.v 4) (.c (.int 0))) (.c (.int 0))) .nil))) .nil))) .nil)))) (.cons (.ret (.tup (.cons (.v 5) .nil))) <|
      .nil) (.nil)) <|
    .nil)) <|
  .cons (.ret (.c .non)) <|
  .nil)
  mt := false
def f_triple_fault : Fn where
  ps := ["products"]
  N := ["products", "values", "a", "b", "c"]
  body := (.cons (.asg (.p (.n 1)) (.rg1 (.bi .len true (.cons (.v 0) .nil)))) <|
  .cons (.fr (.n 2) (.kr (.v 1)) (.cons (.fr (.n 3) (.kr (.v 1)) (.cons (.fr (.n 4) (.kr (.v 1)) (.cons (.iff (.cmp .ne (.ix (.ix (.v 0) (.ix (.ix (.v 0) (.v 2)) (.v 3))) (.v 4)) (.ix (.ix (.v 0) (.v 2)) (.ix (.ix (.v 0) (.v 3)) (.v 4)))) (.cons (.ret (.tup (.cons (.v 2) (.cons (.v 3) (.cons (.v 4) .nil))))) <|
          .nil) (.nil)) <|
        .nil)) <|
      .nil)) <|
    .nil)) <|
  .cons (.ret (.c .non)) <|
  .nil)
  mt := false
def f_moved_fault : Fn where
  ps := ["products", "powers"]
  N := ["products", "powers", "values", "a", "b"]
  body := (.cons (.asg (.p (.n 2)) (.rg1 (.bi .len true (.cons (.v 0) .nil)))) <|
  .cons (.fr (.n 3) (.kr (.v 2)) (.cons (.fr (.n 4) (.kr (.v 2)) (.cons (.iff (.cmp .ne (.ix (.v 1) (.ix (.ix (.v 0) (.v 3)) (.v 4))) (.ix (.ix (.v 0) (.v 3)) (.ix (.v 1) (.ix (.ix (.v 0) (.v 4)) (.v 3))))) (.cons (.ret (.tup (.cons (.v 3) (.cons (.v 4) .nil)))) <|
        .nil) (.nil)) <|
      .nil)) <|
    .nil)) <|
  .cons (.ret (.c .non)) <|
  .nil)
  mt := false
def f_again_fault : Fn where
  ps := ["products", "powers"]
  N := ["products", "powers", "a", "own", "m"]
  body := (.cons (.fr (.n 2) (.rng1 (.bi .len true (.cons (.v 0) .nil))) (.cons (.asg (.p (.n 3)) (.v 2)) <|
    .cons (.fr (.n 4) (.rng2 (.c (.int 2)) (.bin .add true (.bi .len true (.cons (.v 0) .nil)) (.c (.int 1)))) (.cons (.asg (.p (.n 3)) (.ix (.ix (.v 0) (.v 3)) (.v 2))) <|
      .cons (.iff (.cmp .ne (.ix (.v 1) (.v 3)) (.ix (.v 1) (.v 2))) (.cons (.ret (.tup (.cons (.v 2) (.cons (.v 4) .nil)))) <|
        .nil) (.nil)) <|
      .nil)) <|
    .nil)) <|
  .cons (.ret (.c .non)) <|
  .nil)
  mt := false
def f_turned_fault : Fn where
  ps := ["products", "backs"]
  N := ["products", "backs", "values", "a", "b"]
  body := (.cons (.asg (.p (.n 2)) (.rg1 (.bi .len true (.cons (.v 0) .nil)))) <|
  .cons (.fr (.n 3) (.kr (.v 2)) (.cons (.fr (.n 4) (.kr (.v 2)) (.cons (.iff (.cmp .ne (.ix (.v 1) (.ix (.ix (.v 0) (.v 3)) (.v 4))) (.ix (.ix (.v 0) (.ix (.v 1) (.ix (.ix (.v 0) (.v 4)) (.v 3)))) (.v 4))) (.cons (.ret (.tup (.cons (.v 3) (.cons (.v 4) .nil)))) <|
        .nil) (.nil)) <|
      .nil)) <|
    .nil)) <|
  .cons (.ret (.c .non)) <|
  .nil)
  mt := false
def f_law_fault : Fn where
  ps := ["table"]
  N := ["table", "letters", "products", "ons", "backs", "found", "rule", "values"]
  body := (.cons (.asg (.p (.t4 (.n 1) (.n 2) (.n 3) (.n 4))) (.v 0)) <|
  .cons (.asg (.p (.n 5)) (.lst true (.cons (.call "unit_fault" (.cons (.v 0) .nil)) (.cons (.call "triple_fault" (.cons (.v 2) .nil)) (.cons (.call "moved_fault" (.cons (.v 2) (.cons (.v 3) .nil))) (.cons (.call "again_fault" (.cons (.v 2) (.cons (.v 3) .nil))) .nil)))))) <|
  .cons (.asg (.p (.n 5)) (.bin .add true (.v 5) (.lst true (.cons (.call "turned_fault" (.cons (.v 2) (.cons (.v 4) .nil))) (.cons (.call "again_fault" (.cons (.v 2) (.cons (.v 4) .nil))) .nil))))) <|
  .cons (.fr (.t2 (.n 6) (.n 7)) (.enm (.v 5)) (.cons (.iff (.cmp .isnot (.v 7) (.c .non)) (.cons (.ret (.tup (.cons (.bin .add true (.v 6) (.c (.int 1))) (.cons (.v 7) .nil)))) <|
      .nil) (.nil)) <|
    .nil)) <|
  .cons (.ret (.c .non)) <|
  .nil)
  mt := false
def f_is_table_in : Fn where
  ps := ["told"]
  N := ["told"]
  body := (.cons (.ret (.ands (.cons (.call "is_table_form" (.cons (.v 0) .nil)) (.cons (.ors (.cons (.cmp .gt (.bi .len true (.cons (.ix (.v 0) (.c (.int 1))) .nil)) (.g "MOST_LOOKED")) (.cons (.cmp .is (.call "law_fault" (.cons (.v 0) .nil)) (.c .non)) .nil))) .nil)))) <|
  .nil)
  mt := false
def f_check_table : Fn where
  ps := ["table"]
  N := ["table"]
  body := (.cons (.iff (.nt (.call "is_table_in" (.cons (.v 0) .nil))) (.cons (.rs "InvalidTable" (.v 0)) <|
    .nil) (.nil)) <|
  .nil)
  mt := false
def f_value_in : Fn where
  ps := ["table", "term"]
  N := ["table", "term", "found", "part"]
  body := (.cons (.iff (.call "is_integer" (.cons (.v 1) .nil)) (.cons (.ret (.ix (.ix (.v 0) (.c (.int 0))) (.v 1))) <|
    .nil) (.nil)) <|
  .cons (.iff (.cmp .eq (.v 1) (.g "NONE")) (.cons (.ret (.c (.int 0))) <|
    .nil) (.nil)) <|
  .cons (.iff (.cmp .eq (.ix (.v 1) (.c (.int 0))) (.c (.str "on"))) (.cons (.ret (.ix (.ix (.v 0) (.c (.int 2))) (.call "value_in" (.cons (.v 0) (.cons (.ix (.v 1) (.c (.int 1))) .nil))))) <|
    .nil) (.nil)) <|
  .cons (.iff (.cmp .eq (.ix (.v 1) (.c (.int 0))) (.c (.str "back"))) (.cons (.ret (.ix (.ix (.v 0) (.c (.int 3))) (.call "value_in" (.cons (.v 0) (.cons (.ix (.v 1) (.c (.int 1))) .nil))))) <|
    .nil) (.nil)) <|
  .cons (.asg (.p (.n 2)) (.c (.int 0))) <|
  .cons (.fr (.n 3) (.val (.slF true (.v 1) (.c (.int 1)))) (.cons (.asg (.p (.n 2)) (.ix (.ix (.ix (.v 0) (.c (.int 1))) (.v 2)) (.call "value_in" (.cons (.v 0) (.cons (.v 3) .nil))))) <|
    .nil)) <|
  .cons (.ret (.v 2)) <|
  .nil)
  mt := false
def f_choices : Fn where
  ps := ["many", "values"]
  N := ["many", "values", "found", "_", "ahead", "value"]
  body := (.cons (.asg (.p (.n 2)) (.lst true (.cons (.tup .nil) .nil))) <|
  .cons (.fr (.n 3) (.rng1 (.v 0)) (.cons (.asg (.p (.n 2)) (.lc2 true [4, 5] (.n 4) (.val (.v 2)) .nil [5] (.n 5) (.val (.v 1)) .nil (.bin .add true (.v 4) (.tup (.cons (.v 5) .nil))))) <|
    .nil)) <|
  .cons (.ret (.v 2)) <|
  .nil)
  mt := false
def f_failing_in : Fn where
  ps := ["table", "one", "other"]
  N := ["table", "one", "other", "many", "values", "own"]
  body := (.cons (.asg (.p (.n 3)) (.bin .add true (.c (.int 1)) (.bi .maxl true (.cons (.bin .add true (.bin .add true (.call "letters_in" (.cons (.v 1) .nil)) (.call "letters_in" (.cons (.v 2) .nil))) (.lst true (.cons (.neg (.c (.int 1))) .nil))) .nil)))) <|
  .cons (.fr (.n 4) (.val (.call "choices" (.cons (.v 3) (.cons (.lrg true (.bi .len true (.cons (.ix (.v 0) (.c (.int 1))) .nil))) .nil)))) (.cons (.asg (.p (.n 5)) (.bin .add true (.tup (.cons (.v 4) .nil)) (.slF true (.v 0) (.c (.int 1))))) <|
    .cons (.iff (.cmp .ne (.call "value_in" (.cons (.v 5) (.cons (.v 1) .nil))) (.call "value_in" (.cons (.v 5) (.cons (.v 2) .nil)))) (.cons (.ret (.v 4)) <|
      .nil) (.nil)) <|
    .nil)) <|
  .cons (.ret (.c .non)) <|
  .nil)
  mt := false
def f_check_identity : Fn where
  ps := ["table", "one", "other"]
  N := ["table", "one", "other"]
  body := (.cons (.expr (.call "check_table" (.cons (.v 0) .nil))) <|
  .cons (.expr (.call "check_term" (.cons (.g "MOST_LETTERS") (.cons (.v 1) .nil)))) <|
  .cons (.expr (.call "check_term" (.cons (.g "MOST_LETTERS") (.cons (.v 2) .nil)))) <|
  .nil)
  mt := false
def f_holds_in : Fn where
  ps := ["table", "one", "other"]
  N := ["table", "one", "other"]
  body := (.cons (.expr (.call "check_identity" (.cons (.v 0) (.cons (.v 1) (.cons (.v 2) .nil))))) <|
  .cons (.ret (.cmp .is (.call "failing_in" (.cons (.v 0) (.cons (.v 1) (.cons (.v 2) .nil)))) (.c .non))) <|
  .nil)
  mt := false
def f_failing : Fn where
  ps := ["table", "one", "other"]
  N := ["table", "one", "other"]
  body := (.cons (.expr (.call "check_identity" (.cons (.v 0) (.cons (.v 1) (.cons (.v 2) .nil))))) <|
  .cons (.ret (.call "failing_in" (.cons (.v 0) (.cons (.v 1) (.cons (.v 2) .nil))))) <|
  .nil)
  mt := false
def f__law_mixed : Fn where
  ps := ["number", "turn"]
  N := ["number", "turn", "one", "two"]
  body := (.cons (.asg (.p (.n 2)) (.bin .mod true (.bi .int true (.cons (.bin .add true (.bin .add true (.bin .add true (.bin .mul true (.v 0) (.c (.int 48271))) (.bin .mul true (.bin .mul true (.v 1) (.v 1)) (.c (.int 69621)))) (.bin .mul true (.v 1) (.c (.int 7919)))) (.c (.int 12345))) .nil)) (.c (.int 2147483629)))) <|
  .cons (.asg (.p (.n 3)) (.bin .mod true (.bi .int true (.cons (.bin .add true (.bin .add true (.bin .add true (.bin .mul true (.v 2) (.v 2)) (.bin .mul true (.c (.int 40692)) (.v 2))) (.bin .mul true (.v 1) (.c (.int 104729)))) (.c (.int 1))) .nil)) (.c (.int 2147483587)))) <|
  .cons (.ret (.bin .mod true (.bi .int true (.cons (.bin .add true (.bin .mul true (.v 3) (.c (.int 16807))) (.v 2)) .nil)) (.c (.int 1000000007)))) <|
  .nil)
  mt := false
def f__law_source : Fn where
  ps := ["script"]
  N := ["script"]
  body := (.cons (.ret (.lst false (.cons (.bi .list true (.cons (.v 0) .nil)) (.cons (.c (.int 0)) (.cons (.c (.int 0)) (.cons (.c (.int 0)) (.cons (.c (.int 0)) .nil))))))) <|
  .nil)
  mt := true
def f__law_draw : Fn where
  ps := ["source", "many"]
  N := ["source", "many", "cell", "found"]
  body := (.cons (.iff (.ands (.cons (.cmp .eq (.ix (.v 0) (.c (.int 2))) (.c (.int 0))) (.cons (.cmp .lt (.ix (.v 0) (.c (.int 1))) (.bi .len true (.cons (.ix (.v 0) (.c (.int 0))) .nil))) .nil))) (.cons (.asg (.p (.n 2)) (.ix (.ix (.v 0) (.c (.int 0))) (.ix (.v 0) (.c (.int 1))))) <|
    .cons (.asg (.sub (.v 0) (.c (.int 1))) (.bin .add true (.ix (.v 0) (.c (.int 1))) (.c (.int 1)))) <|
    .cons (.asg (.sub (.v 0) (.c (.int 4))) (.bin .mod true (.bi .int true (.cons (.bin .add true (.bin .mul true (.ix (.v 0) (.c (.int 4))) (.c (.int 31))) (.v 2)) .nil)) (.c (.int 1000000009)))) <|
    .cons (.iff (.cmp .ge (.v 2) (.bin .pow true (.c (.int 10)) (.c (.int 18)))) (.cons (.asg (.sub (.v 0) (.c (.int 2))) (.v 2)) <|
      .nil) (.nil)) <|
    .nil) (.nil)) <|
  .cons (.asg (.sub (.v 0) (.c (.int 3))) (.bin .add true (.ix (.v 0) (.c (.int 3))) (.c (.int 1)))) <|
  .cons (.iff (.cmp .gt (.ix (.v 0) (.c (.int 2))) (.c (.int 0))) (.cons (.asg (.p (.n 3)) (.bin .mod true (.bi .int true (.cons (.ix (.v 0) (.c (.int 2))) .nil)) (.v 1))) <|
    .cons (.asg (.sub (.v 0) (.c (.int 2))) (.bin .fdiv true (.ix (.v 0) (.c (.int 2))) (.v 1))) <|
    .cons (.ret (.v 3)) <|
    .nil) (.nil)) <|
  .cons (.ret (.bin .mod true (.bi .int true (.cons (.call "_law_mixed" (.cons (.ix (.v 0) (.c (.int 4))) (.cons (.ix (.v 0) (.c (.int 3))) .nil))) .nil)) (.v 1))) <|
  .nil)
  mt := false
def f__law_term : Fn where
  ps := ["source", "k", "room", "powers"]
  N := ["source", "k", "room", "powers", "way", "first", "one"]
  body := (.cons (.asg (.p (.n 4)) (.call "_law_draw" (.cons (.v 0) (.cons (.c (.int 8)) .nil)))) <|
  .cons (.iff (.ors (.cons (.cmp .lt (.v 2) (.c (.int 3))) (.cons (.cmp .eq (.v 4) (.c (.int 0))) .nil))) (.cons (.ret (.call "_law_draw" (.cons (.v 0) (.cons (.v 1) .nil)))) <|
    .nil) (.nil)) <|
  .cons (.iff (.cmp .eq (.v 4) (.c (.int 1))) (.cons (.ret (.tup (.cons (.c (.str "none")) .nil))) <|
    .nil) (.nil)) <|
  .cons (.iff (.ands (.cons (.cmp .lt (.v 4) (.c (.int 5))) (.cons (.cmp .gt (.v 3) (.c (.int 0))) .nil))) (.cons (.ret (.tup (.cons (.ite (.cmp .eq (.v 4) (.c (.int 2))) (.c (.str "back")) (.c (.str "on"))) (.cons (.call "_law_term" (.cons (.v 0) (.cons (.v 1) (.cons (.bin .sub true (.v 2) (.c (.int 1))) (.cons (.bin .sub true (.v 3) (.c (.int 1))) .nil))))) .nil)))) <|
    .nil) (.nil)) <|
  .cons (.iff (.ands (.cons (.cmp .eq (.v 4) (.c (.int 5))) (.cons (.cmp .gt (.v 2) (.c (.int 3))) .nil))) (.cons (.asg (.p (.n 5)) (.bin .add true (.c (.int 1)) (.call "_law_draw" (.cons (.v 0) (.cons (.bin .sub true (.v 2) (.c (.int 3))) .nil))))) <|
    .cons (.asg (.p (.n 6)) (.call "_law_term" (.cons (.v 0) (.cons (.v 1) (.cons (.v 5) (.cons (.v 3) .nil)))))) <|
    .cons (.ret (.tup (.cons (.c (.str "then")) (.cons (.call "_law_draw" (.cons (.v 0) (.cons (.v 1) .nil))) (.cons (.v 6) (.cons (.call "_law_term" (.cons (.v 0) (.cons (.v 1) (.cons (.bin .sub true (.bin .sub true (.v 2) (.c (.int 2))) (.v 5)) (.cons (.v 3) .nil))))) .nil)))))) <|
    .nil) (.nil)) <|
  .cons (.asg (.p (.n 5)) (.bin .add true (.c (.int 1)) (.call "_law_draw" (.cons (.v 0) (.cons (.bin .sub true (.v 2) (.c (.int 2))) .nil))))) <|
  .cons (.asg (.p (.n 6)) (.call "_law_term" (.cons (.v 0) (.cons (.v 1) (.cons (.v 5) (.cons (.v 3) .nil)))))) <|
  .cons (.ret (.tup (.cons (.c (.str "then")) (.cons (.v 6) (.cons (.call "_law_term" (.cons (.v 0) (.cons (.v 1) (.cons (.bin .sub true (.bin .sub true (.v 2) (.c (.int 1))) (.v 5)) (.cons (.v 3) .nil))))) .nil))))) <|
  .nil)
  mt := false
def f__law_same_row : Fn where
  ps := ["source", "term"]
  N := ["source", "term", "way", "inner", "at"]
  body := (.cons (.asg (.p (.n 2)) (.call "_law_draw" (.cons (.v 0) (.cons (.c (.int 6)) .nil)))) <|
  .cons (.iff (.cmp .eq (.v 2) (.c (.int 0))) (.cons (.ret (.tup (.cons (.c (.str "then")) (.cons (.tup (.cons (.c (.str "none")) .nil)) (.cons (.v 1) .nil))))) <|
    .nil) (.nil)) <|
  .cons (.iff (.ors (.cons (.isi (.v 1) "int") (.cons (.cmp .eq (.v 1) (.tup (.cons (.c (.str "none")) .nil))) (.cons (.cmp .eq (.v 2) (.c (.int 1))) .nil)))) (.cons (.ret (.tup (.cons (.c (.str "then")) (.cons (.v 1) (.cons (.tup (.cons (.ix (.lst true (.cons (.c (.str "on")) (.cons (.c (.str "back")) .nil))) (.call "_law_draw" (.cons (.v 0) (.cons (.c (.int 2)) .nil)))) (.cons (.tup (.cons (.c (.str "none")) .nil)) .nil))) .nil))))) <|
    .nil) (.nil)) <|
  .cons (.iff (.cmp .eq (.ix (.v 1) (.c (.int 0))) (.c (.str "then"))) (.cons (.iff (.cmp .lt (.bi .len true (.cons (.v 1) .nil)) (.c (.int 4))) (.cons (.ret (.tup (.cons (.c (.str "then")) (.cons (.v 1) (.cons (.tup (.cons (.c (.str "none")) .nil)) .nil))))) <|
      .nil) (.nil)) <|
    .cons (.asg (.p (.n 4)) (.bin .add true (.c (.int 3)) (.call "_law_draw" (.cons (.v 0) (.cons (.bin .sub true (.bi .len true (.cons (.v 1) .nil)) (.c (.int 3))) .nil))))) <|
    .cons (.ret (.bin .add true (.tup (.cons (.c (.str "then")) (.cons (.bin .add true (.tup (.cons (.c (.str "then")) .nil)) (.slA true (.v 1) (.c (.int 1)) (.v 4))) .nil))) (.slF true (.v 1) (.v 4)))) <|
    .nil) (.nil)) <|
  .cons (.asg (.p (.n 3)) (.ix (.v 1) (.c (.int 1)))) <|
  .cons (.iff (.cmp .eq (.v 2) (.c (.int 2))) (.cons (.ret (.ite (.cmp .eq (.ix (.v 1) (.c (.int 0))) (.c (.str "on"))) (.tup (.cons (.c (.str "then")) (.cons (.v 3) (.cons (.v 1) .nil)))) (.tup (.cons (.c (.str "then")) (.cons (.v 1) (.cons (.v 3) .nil)))))) <|
    .nil) (.nil)) <|
  .cons (.iff (.cmp .eq (.v 2) (.c (.int 3))) (.cons (.ret (.tup (.cons (.ix (.v 1) (.c (.int 0))) (.cons (.tup (.cons (.c (.str "then")) (.cons (.v 3) (.cons (.v 3) .nil)))) .nil)))) <|
    .nil) (.nil)) <|
  .cons (.iff (.ands (.cons (.cmp .eq (.v 2) (.c (.int 4))) (.cons (.nt (.isi (.v 3) "int")) (.cons (.cmp .eq (.ix (.v 3) (.c (.int 0))) (.c (.str "then"))) .nil)))) (.cons (.iff (.cmp .eq (.ix (.v 1) (.c (.int 0))) (.c (.str "on"))) (.cons (.ret (.tup (.cons (.c (.str "then")) (.cons (.ix (.v 3) (.c (.int 1))) (.cons (.tup (.cons (.c (.str "on")) (.cons (.bin .add true (.bin .add true (.tup (.cons (.c (.str "then")) .nil)) (.slF true (.v 3) (.c (.int 2)))) (.slA true (.v 3) (.c (.int 1)) (.c (.int 2)))) .nil))) .nil))))) <|
      .nil) (.nil)) <|
    .cons (.ret (.tup (.cons (.c (.str "then")) (.cons (.tup (.cons (.c (.str "back")) (.cons (.bin .add true (.bin .add true (.tup (.cons (.c (.str "then")) .nil)) (.slF true (.v 3) (.neg (.c (.int 1))))) (.slA true (.v 3) (.c (.int 1)) (.neg (.c (.int 1))))) .nil))) (.cons (.ix (.v 3) (.neg (.c (.int 1)))) .nil))))) <|
    .nil) (.nil)) <|
  .cons (.ret (.tup (.cons (.ix (.v 1) (.c (.int 0))) (.cons (.call "_law_same_row" (.cons (.v 0) (.cons (.v 3) .nil))) .nil)))) <|
  .nil)
  mt := false
def f__law_table : Fn where
  ps := ["source", "limit"]
  N := ["source", "limit", "way", "most", "values", "endless", "same", "rows", "a", "letters", "at", "b"]
  body := (.cons (.asg (.p (.n 2)) (.call "_law_draw" (.cons (.v 0) (.cons (.c (.int 4)) .nil)))) <|
  .cons (.asg (.p (.n 3)) (.bin .add true (.c (.int 1)) (.call "_law_draw" (.cons (.v 0) (.cons (.bin .sub true (.v 1) (.c (.int 2))) .nil))))) <|
  .cons (.asg (.p (.n 4)) (.lrg true (.bin .add true (.v 3) (.c (.int 1))))) <|
  .cons (.asg (.p (.n 5)) (.bin .add true (.tup (.cons (.c (.int 0)) .nil)) (.bin .mul true (.tup (.cons (.v 3) .nil)) (.v 3)))) <|
  .cons (.asg (.p (.n 6)) (.bi .tuple true (.cons (.v 4) .nil))) <|
  .cons (.asg (.p (.n 7)) (.lst false .nil)) <|
  .cons (.fr (.n 8) (.val (.v 4)) (.cons (.iff (.cmp .eq (.v 2) (.c (.int 0))) (.cons (.expr (.me .append 7 (.cons (.bi .tuple true (.cons (.lc true [11] (.n 11) (.val (.v 4)) .nil (.bi .min2 true (.cons (.v 3) (.cons (.bin .add true (.v 8) (.v 11)) .nil)))) .nil)) .nil))) <|
      .nil) (.cons (.iff (.cmp .eq (.v 2) (.c (.int 1))) (.cons (.expr (.me .append 7 (.cons (.bi .tuple true (.cons (.lc true [11] (.n 11) (.val (.v 4)) .nil (.ite (.cmp .gt (.v 8) (.c (.int 0))) (.v 8) (.v 11))) .nil)) .nil))) <|
        .nil) (.cons (.iff (.cmp .eq (.v 2) (.c (.int 2))) (.cons (.expr (.me .append 7 (.cons (.bi .tuple true (.cons (.lc true [11] (.n 11) (.val (.v 4)) .nil (.ite (.cmp .gt (.v 11) (.c (.int 0))) (.v 11) (.v 8))) .nil)) .nil))) <|
          .nil) (.cons (.expr (.me .append 7 (.cons (.bi .tuple true (.cons (.lc true [11] (.n 11) (.val (.v 4)) .nil (.call "_law_round" (.cons (.v 3) (.cons (.v 8) (.cons (.v 11) .nil))))) .nil)) .nil))) <|
          .nil)) <|
        .nil)) <|
      .nil)) <|
    .nil)) <|
  .cons (.asg (.p (.n 9)) (.bi .tuple true (.cons (.lc true [10] (.n 10) (.rng1 (.bin .add true (.c (.int 1)) (.call "_law_draw" (.cons (.v 0) (.cons (.c (.int 4)) .nil))))) .nil (.call "_law_draw" (.cons (.v 0) (.cons (.v 3) .nil)))) .nil))) <|
  .cons (.ret (.tup (.cons (.v 9) (.cons (.bi .tuple true (.cons (.v 7) .nil)) (.cons (.ite (.cmp .eq (.v 2) (.c (.int 1))) (.v 6) (.v 5)) (.cons (.ite (.cmp .eq (.v 2) (.c (.int 2))) (.v 6) (.v 5)) .nil)))))) <|
  .nil)
  mt := false
def f__law_round : Fn where
  ps := ["most", "a", "b"]
  N := ["most", "a", "b"]
  body := (.cons (.iff (.ors (.cons (.cmp .eq (.v 1) (.c (.int 0))) (.cons (.cmp .eq (.v 2) (.c (.int 0))) .nil))) (.cons (.ret (.bin .add true (.v 1) (.v 2))) <|
    .nil) (.nil)) <|
  .cons (.iff (.ors (.cons (.cmp .eq (.v 1) (.v 0)) (.cons (.cmp .eq (.v 2) (.v 0)) .nil))) (.cons (.ret (.v 0)) <|
    .nil) (.nil)) <|
  .cons (.ret (.bin .add true (.bin .mod true (.bi .int true (.cons (.bin .sub true (.bin .add true (.v 1) (.v 2)) (.c (.int 1))) .nil)) (.bin .sub true (.v 0) (.c (.int 1)))) (.c (.int 1)))) <|
  .nil)
  mt := false
def f__law_value : Fn where
  ps := ["table", "values", "term"]
  N := ["table", "values", "term", "found", "part"]
  body := (.cons (.iff (.isi (.v 2) "int") (.cons (.ret (.ix (.v 1) (.v 2))) <|
    .nil) (.nil)) <|
  .cons (.iff (.cmp .isin (.ix (.v 2) (.c (.int 0))) (.tup (.cons (.c (.str "on")) (.cons (.c (.str "back")) .nil)))) (.cons (.ret (.ix (.ix (.v 0) (.ite (.cmp .eq (.ix (.v 2) (.c (.int 0))) (.c (.str "on"))) (.c (.int 2)) (.c (.int 3)))) (.call "_law_value" (.cons (.v 0) (.cons (.v 1) (.cons (.ix (.v 2) (.c (.int 1))) .nil)))))) <|
    .nil) (.nil)) <|
  .cons (.asg (.p (.n 3)) (.c (.int 0))) <|
  .cons (.fr (.n 4) (.val (.slF true (.v 2) (.c (.int 1)))) (.cons (.asg (.p (.n 3)) (.ix (.ix (.ix (.v 0) (.c (.int 1))) (.v 3)) (.call "_law_value" (.cons (.v 0) (.cons (.v 1) (.cons (.v 4) .nil)))))) <|
    .nil)) <|
  .cons (.ret (.v 3)) <|
  .nil)
  mt := false
def f__law_letters : Fn where
  ps := ["term"]
  N := ["term", "found", "part"]
  body := (.cons (.iff (.isi (.v 0) "int") (.cons (.ret (.lst true (.cons (.v 0) .nil))) <|
    .nil) (.nil)) <|
  .cons (.asg (.p (.n 1)) (.lst true .nil)) <|
  .cons (.fr (.n 2) (.val (.slF true (.v 0) (.c (.int 1)))) (.cons (.asg (.p (.n 1)) (.bin .add true (.v 1) (.call "_law_letters" (.cons (.v 2) .nil)))) <|
    .nil)) <|
  .cons (.ret (.v 1)) <|
  .nil)
  mt := false
def f__law_choices : Fn where
  ps := ["many", "count"]
  N := ["many", "count", "found", "turn", "further", "ahead", "value"]
  body := (.cons (.asg (.p (.n 2)) (.lst true (.cons (.tup .nil) .nil))) <|
  .cons (.fr (.n 3) (.rng1 (.v 0)) (.cons (.asg (.p (.n 4)) (.lst true .nil)) <|
    .cons (.fr (.n 5) (.val (.v 2)) (.cons (.asg (.p (.n 4)) (.bin .add true (.v 4) (.lc true [6] (.n 6) (.rng1 (.v 1)) .nil (.bin .add true (.v 5) (.tup (.cons (.v 6) .nil)))))) <|
      .nil)) <|
    .cons (.asg (.p (.n 2)) (.v 4)) <|
    .nil)) <|
  .cons (.ret (.v 2)) <|
  .nil)
  mt := false
def f__law_due : Fn where
  ps := ["table", "one", "other"]
  N := ["table", "one", "other", "many", "values", "letter"]
  body := (.cons (.asg (.p (.n 3)) (.maxd (.lc true [5] (.n 5) (.val (.bin .add true (.call "_law_letters" (.cons (.v 1) .nil)) (.call "_law_letters" (.cons (.v 2) .nil)))) .nil (.bin .add true (.v 5) (.c (.int 1)))) (.c (.int 0)))) <|
  .cons (.fr (.n 4) (.val (.call "_law_choices" (.cons (.v 3) (.cons (.bi .len true (.cons (.ix (.v 0) (.c (.int 1))) .nil)) .nil)))) (.cons (.iff (.cmp .ne (.call "_law_value" (.cons (.v 0) (.cons (.v 4) (.cons (.v 1) .nil)))) (.call "_law_value" (.cons (.v 0) (.cons (.v 4) (.cons (.v 2) .nil))))) (.cons (.ret (.v 4)) <|
      .nil) (.nil)) <|
    .nil)) <|
  .cons (.ret (.c .non)) <|
  .nil)
  mt := false
def f__law_told : Fn where
  ps := ["table", "one", "other"]
  N := ["table", "one", "other", "found", "e"]
  body := (.cons (.tr (.cons (.asg (.p (.n 3)) (.tup (.cons (.c (.str "told")) (.cons (.bi .repr true (.cons (.callk "failing" .nil (.cons (.v 2) (.cons (.v 1) (.cons (.v 0) .nil))) [2, 1, 0]) .nil)) .nil)))) <|
    .nil) (.cons "InvalidTable" (some 4) (.cons (.asg (.p (.n 3)) (.tup (.cons (.c (.str "table")) (.cons (.bi .repr true (.cons (.fld 4) .nil)) .nil)))) <|
    .nil) (.cons "InvalidTerm" (some 4) (.cons (.asg (.p (.n 3)) (.tup (.cons (.c (.str "term")) (.cons (.bi .repr true (.cons (.fld 4) .nil)) .nil)))) <|
    .nil) .nil))) <|
  .cons (.ret (.v 3)) <|
  .nil)
  mt := false
def f__law_held : Fn where
  ps := ["table", "one", "other"]
  N := ["table", "one", "other", "found", "e"]
  body := (.cons (.tr (.cons (.asg (.p (.n 3)) (.tup (.cons (.c (.str "told")) (.cons (.bi .repr true (.cons (.callk "holds_in" .nil (.cons (.v 2) (.cons (.v 1) (.cons (.v 0) .nil))) [2, 1, 0]) .nil)) .nil)))) <|
    .nil) (.cons "InvalidTable" (some 4) (.cons (.asg (.p (.n 3)) (.tup (.cons (.c (.str "table")) (.cons (.bi .repr true (.cons (.fld 4) .nil)) .nil)))) <|
    .nil) (.cons "InvalidTerm" (some 4) (.cons (.asg (.p (.n 3)) (.tup (.cons (.c (.str "term")) (.cons (.bi .repr true (.cons (.fld 4) .nil)) .nil)))) <|
    .nil) .nil))) <|
  .cons (.ret (.v 3)) <|
  .nil)
  mt := false
def f__law_errors : Fn where
  ps := ["source", "table", "one", "other"]
  N := ["source", "table", "one", "other", "bits", "given", "due", "bad", "letters", "products", "ons", "backs", "found"]
  body := (.cons (.asg (.p (.n 4)) (.bin .add true (.c (.int 1)) (.call "_law_draw" (.cons (.v 0) (.cons (.c (.int 7)) .nil))))) <|
  .cons (.asg (.p (.n 5)) (.lst false (.cons (.v 1) (.cons (.v 2) (.cons (.v 3) .nil))))) <|
  .cons (.asg (.p (.n 6)) (.c .non)) <|
  .cons (.asg (.p (.n 7)) (.lst true (.cons (.c (.int 4)) (.cons (.tup (.cons (.c (.str "then")) (.cons (.c (.int 0)) .nil))) (.cons (.lst true (.cons (.c (.str "on")) (.cons (.c (.int 0)) .nil))) (.cons (.c .non) (.cons (.tup (.cons (.c (.str "on")) (.cons (.c (.int 0)) (.cons (.c (.int 0)) .nil)))) (.cons (.c (.bl true)) (.cons (.c (.str "0")) (.cons (.tup (.cons (.c (.str "on")) (.cons (.neg (.c (.int 1))) .nil))) .nil)))))))))) <|
  .cons (.iff (.cmp .gt (.v 4) (.c (.int 3))) (.cons (.asg (.sub (.v 5) (.c (.int 2))) (.ix (.v 7) (.call "_law_draw" (.cons (.v 0) (.cons (.c (.int 8)) .nil))))) <|
    .cons (.asg (.p (.n 6)) (.tup (.cons (.c (.str "term")) (.cons (.bi .repr true (.cons (.ix (.v 5) (.c (.int 2))) .nil)) .nil)))) <|
    .nil) (.nil)) <|
  .cons (.iff (.cmp .eq (.bin .mod true (.bi .int true (.cons (.bin .fdiv true (.v 4) (.c (.int 2))) .nil)) (.c (.int 2))) (.c (.int 1))) (.cons (.asg (.sub (.v 5) (.c (.int 1))) (.ix (.v 7) (.call "_law_draw" (.cons (.v 0) (.cons (.c (.int 8)) .nil))))) <|
    .cons (.asg (.p (.n 6)) (.tup (.cons (.c (.str "term")) (.cons (.bi .repr true (.cons (.ix (.v 5) (.c (.int 1))) .nil)) .nil)))) <|
    .nil) (.nil)) <|
  .cons (.iff (.cmp .eq (.bin .mod true (.bi .int true (.cons (.v 4) .nil)) (.c (.int 2))) (.c (.int 1))) (.cons (.asg (.p (.t4 (.n 8) (.n 9) (.n 10) (.n 11))) (.v 1)) <|
    .cons (.asg (.p (.n 12)) (.lst true (.cons (.bi .list true (.cons (.v 1) .nil)) (.cons (.tup (.cons (.v 8) (.cons (.v 9) (.cons (.v 10) .nil)))) (.cons (.tup (.cons (.tup .nil) (.cons (.v 9) (.cons (.v 10) (.cons (.v 11) .nil))))) (.cons (.c .non) (.cons (.bin .add true (.v 1) (.tup (.cons (.tup (.cons (.c (.int 0)) .nil)) .nil))) (.cons (.c (.int 0)) .nil)))))))) <|
    .cons (.asg (.p (.n 12)) (.bin .add true (.v 12) (.lst true (.cons (.tup (.cons (.v 8) (.cons (.v 9) (.cons (.slT true (.v 10) (.neg (.c (.int 1)))) (.cons (.v 11) .nil))))) (.cons (.tup (.cons (.v 8) (.cons (.v 9) (.cons (.bin .add true (.tup (.cons (.c (.int 1)) .nil)) (.slF true (.v 10) (.c (.int 1)))) (.cons (.v 11) .nil))))) .nil))))) <|
    .cons (.asg (.sub (.v 5) (.c (.int 0))) (.ix (.bin .add true (.v 12) (.lst true (.cons (.tup (.cons (.tup (.cons (.bi .len true (.cons (.v 9) .nil)) .nil)) (.cons (.v 9) (.cons (.v 10) (.cons (.v 11) .nil))))) (.cons (.tup (.cons (.v 8) (.cons (.bi .list true (.cons (.v 9) .nil)) (.cons (.v 10) (.cons (.v 11) .nil))))) .nil)))) (.call "_law_draw" (.cons (.v 0) (.cons (.c (.int 10)) .nil))))) <|
    .cons (.asg (.p (.n 6)) (.tup (.cons (.c (.str "table")) (.cons (.bi .repr true (.cons (.ix (.v 5) (.c (.int 0))) .nil)) .nil)))) <|
    .nil) (.nil)) <|
  .cons (.ret (.ands (.cons (.cmp .eq (.call "_law_told" (.cons (.ix (.v 5) (.c (.int 0))) (.cons (.ix (.v 5) (.c (.int 1))) (.cons (.ix (.v 5) (.c (.int 2))) .nil)))) (.v 6)) (.cons (.cmp .eq (.call "_law_held" (.cons (.ix (.v 5) (.c (.int 0))) (.cons (.ix (.v 5) (.c (.int 1))) (.cons (.ix (.v 5) (.c (.int 2))) .nil)))) (.v 6)) .nil)))) <|
  .nil)
  mt := false
def f_law : Fn where
  ps := ["script"]
  N := ["script", "source", "is_same", "is_broken", "table", "k", "one", "other", "due", "turned"]
  body := (.cons (.asg (.p (.n 1)) (.call "_law_source" (.cons (.v 0) .nil))) <|
  .cons (.asg (.p (.n 2)) (.cmp .eq (.call "_law_draw" (.cons (.v 1) (.cons (.c (.int 3)) .nil))) (.c (.int 0)))) <|
  .cons (.asg (.p (.n 3)) (.cmp .eq (.call "_law_draw" (.cons (.v 1) (.cons (.c (.int 4)) .nil))) (.c (.int 0)))) <|
  .cons (.asg (.p (.n 4)) (.call "_law_table" (.cons (.v 1) (.cons (.c (.int 6)) .nil)))) <|
  .cons (.asg (.p (.n 5)) (.bin .add true (.c (.int 1)) (.call "_law_draw" (.cons (.v 1) (.cons (.c (.int 3)) .nil))))) <|
  .cons (.asg (.p (.n 6)) (.call "_law_term" (.cons (.v 1) (.cons (.v 5) (.cons (.bin .add true (.c (.int 1)) (.call "_law_draw" (.cons (.v 1) (.cons (.c (.int 6)) .nil)))) (.cons (.c (.int 3)) .nil)))))) <|
  .cons (.asg (.p (.n 7)) (.call "_law_term" (.cons (.v 1) (.cons (.v 5) (.cons (.bin .add true (.c (.int 1)) (.call "_law_draw" (.cons (.v 1) (.cons (.c (.int 6)) .nil)))) (.cons (.c (.int 3)) .nil)))))) <|
  .cons (.iff (.v 2) (.cons (.asg (.p (.n 7)) (.call "_law_same_row" (.cons (.v 1) (.cons (.call "_law_same_row" (.cons (.v 1) (.cons (.v 6) .nil))) .nil)))) <|
    .nil) (.nil)) <|
  .cons (.asg (.p (.n 8)) (.call "_law_due" (.cons (.v 4) (.cons (.v 6) (.cons (.v 7) .nil))))) <|
  .cons (.iff (.ands (.cons (.v 2) (.cons (.cmp .isnot (.v 8) (.c .non)) .nil))) (.cons (.ret (.c (.bl false))) <|
    .nil) (.nil)) <|
  .cons (.iff (.cmp .ne (.call "_law_told" (.cons (.v 4) (.cons (.v 6) (.cons (.v 7) .nil)))) (.tup (.cons (.c (.str "told")) (.cons (.bi .repr true (.cons (.v 8) .nil)) .nil)))) (.cons (.ret (.c (.bl false))) <|
    .nil) (.nil)) <|
  .cons (.iff (.cmp .ne (.call "_law_held" (.cons (.v 4) (.cons (.v 6) (.cons (.v 7) .nil)))) (.tup (.cons (.c (.str "told")) (.cons (.bi .repr true (.cons (.cmp .is (.v 8) (.c .non)) .nil)) .nil)))) (.cons (.ret (.c (.bl false))) <|
    .nil) (.nil)) <|
  .cons (.iff (.ands (.cons (.v 3) (.cons (.nt (.call "_law_errors" (.cons (.v 1) (.cons (.v 4) (.cons (.v 6) (.cons (.v 7) .nil)))))) .nil))) (.cons (.ret (.c (.bl false))) <|
    .nil) (.nil)) <|
  .cons (.asg (.p (.n 9)) (.bin .add true (.tup (.cons (.tup (.cons (.c (.int 0)) .nil)) .nil)) (.slF true (.v 4) (.c (.int 1))))) <|
  .cons (.ret (.ands (.cons (.cmp .eq (.call "_law_told" (.cons (.v 9) (.cons (.v 7) (.cons (.v 6) .nil)))) (.tup (.cons (.c (.str "told")) (.cons (.bi .repr true (.cons (.v 8) .nil)) .nil)))) (.cons (.cmp .eq (.call "_law_held" (.cons (.v 4) (.cons (.v 6) (.cons (.v 6) .nil)))) (.tup (.cons (.c (.str "told")) (.cons (.c (.str "True")) .nil)))) .nil)))) <|
  .nil)
  mt := false
def gl_POWERS : PV := (.tup [(.str "on"), (.str "back")])
def gl_NONE : PV := (.tup [(.str "none")])
def gl_MOST_LOOKED : PV := (.int 16)
def gl_MOST_LETTERS : PV := (.int 4)
def sg : Sg where
  tb := [(("is_integer" : Str), f_is_integer),
    (("is_between" : Str), f_is_between),
    (("inner_of" : Str), f_inner_of),
    (("is_term_of" : Str), f_is_term_of),
    (("check_term" : Str), f_check_term),
    (("parts_in" : Str), f_parts_in),
    (("letters_in" : Str), f_letters_in),
    (("are_values" : Str), f_are_values),
    (("is_table_form" : Str), f_is_table_form),
    (("unit_fault" : Str), f_unit_fault),
    (("triple_fault" : Str), f_triple_fault),
    (("moved_fault" : Str), f_moved_fault),
    (("again_fault" : Str), f_again_fault),
    (("turned_fault" : Str), f_turned_fault),
    (("law_fault" : Str), f_law_fault),
    (("is_table_in" : Str), f_is_table_in),
    (("check_table" : Str), f_check_table),
    (("value_in" : Str), f_value_in),
    (("choices" : Str), f_choices),
    (("failing_in" : Str), f_failing_in),
    (("check_identity" : Str), f_check_identity),
    (("holds_in" : Str), f_holds_in),
    (("failing" : Str), f_failing),
    (("_law_mixed" : Str), f__law_mixed),
    (("_law_source" : Str), f__law_source),
    (("_law_draw" : Str), f__law_draw),
    (("_law_term" : Str), f__law_term),
    (("_law_same_row" : Str), f__law_same_row),
    (("_law_table" : Str), f__law_table),
    (("_law_round" : Str), f__law_round),
    (("_law_value" : Str), f__law_value),
    (("_law_letters" : Str), f__law_letters),
    (("_law_choices" : Str), f__law_choices),
    (("_law_due" : Str), f__law_due),
    (("_law_told" : Str), f__law_told),
    (("_law_held" : Str), f__law_held),
    (("_law_errors" : Str), f__law_errors),
    (("law" : Str), f_law)]
  gl := [("POWERS", gl_POWERS), ("NONE", gl_NONE), ("MOST_LOOKED", gl_MOST_LOOKED), ("MOST_LETTERS", gl_MOST_LETTERS)]
  bs := ["isinstance", "bool", "int", "str", "len", "tuple", "all", "range", "enumerate", "max", "list", "min", "repr"]
  kcs := [("failing", ["other", "one", "table"], 0, [2, 1, 0]), ("holds_in", ["other", "one", "table"], 0, [2, 1, 0])]
  ecs := [("RowError", ["RowError", "ValueError"]), ("InvalidTerm", ["InvalidTerm", "RowError", "ValueError"]), ("InvalidTable", ["InvalidTable", "RowError", "ValueError"])]
  hot := false
def initS : Stmt := (clsBody (topS 4)).getD 0 (.Pass ⟨0, 0, 0, 0⟩)
theorem look_is_integer : chkSs sg (f_is_integer).N (defScope (topS 1)) (defScope (topS 1)) (f_is_integer).body (defBody (topS 1)) = true := by decide +kernel
theorem scope_is_integer : FnScope (f_is_integer).N (f_is_integer).ps (defScope (topS 1)) := ⟨rfl, rfl, rfl, by decide +kernel, rfl, by decide +kernel, by decide +kernel⟩
theorem at_is_integer : sg.tb.lookup ("is_integer" : Str) = some f_is_integer := rfl
theorem look_is_between : chkSs sg (f_is_between).N (defScope (topS 2)) (defScope (topS 2)) (f_is_between).body (defBody (topS 2)) = true := by decide +kernel
theorem scope_is_between : FnScope (f_is_between).N (f_is_between).ps (defScope (topS 2)) := ⟨rfl, rfl, rfl, by decide +kernel, rfl, by decide +kernel, by decide +kernel⟩
theorem at_is_between : sg.tb.lookup ("is_between" : Str) = some f_is_between := rfl
theorem look_inner_of : chkSs sg (f_inner_of).N (defScope (topS 11)) (defScope (topS 11)) (f_inner_of).body (defBody (topS 11)) = true := by decide +kernel
theorem scope_inner_of : FnScope (f_inner_of).N (f_inner_of).ps (defScope (topS 11)) := ⟨rfl, rfl, rfl, by decide +kernel, rfl, by decide +kernel, by decide +kernel⟩
theorem at_inner_of : sg.tb.lookup ("inner_of" : Str) = some f_inner_of := rfl
theorem look_is_term_of : chkSs sg (f_is_term_of).N (defScope (topS 12)) (defScope (topS 12)) (f_is_term_of).body (defBody (topS 12)) = true := by decide +kernel
theorem scope_is_term_of : FnScope (f_is_term_of).N (f_is_term_of).ps (defScope (topS 12)) := ⟨rfl, rfl, rfl, by decide +kernel, rfl, by decide +kernel, by decide +kernel⟩
theorem at_is_term_of : sg.tb.lookup ("is_term_of" : Str) = some f_is_term_of := rfl
theorem look_check_term : chkSs sg (f_check_term).N (defScope (topS 13)) (defScope (topS 13)) (f_check_term).body (defBody (topS 13)) = true := by decide +kernel
theorem scope_check_term : FnScope (f_check_term).N (f_check_term).ps (defScope (topS 13)) := ⟨rfl, rfl, rfl, by decide +kernel, rfl, by decide +kernel, by decide +kernel⟩
theorem at_check_term : sg.tb.lookup ("check_term" : Str) = some f_check_term := rfl
theorem look_parts_in : chkSs sg (f_parts_in).N (defScope (topS 14)) (defScope (topS 14)) (f_parts_in).body (defBody (topS 14)) = true := by decide +kernel
theorem scope_parts_in : FnScope (f_parts_in).N (f_parts_in).ps (defScope (topS 14)) := ⟨rfl, rfl, rfl, by decide +kernel, rfl, by decide +kernel, by decide +kernel⟩
theorem at_parts_in : sg.tb.lookup ("parts_in" : Str) = some f_parts_in := rfl
theorem look_letters_in : chkSs sg (f_letters_in).N (defScope (topS 15)) (defScope (topS 15)) (f_letters_in).body (defBody (topS 15)) = true := by decide +kernel
theorem scope_letters_in : FnScope (f_letters_in).N (f_letters_in).ps (defScope (topS 15)) := ⟨rfl, rfl, rfl, by decide +kernel, rfl, by decide +kernel, by decide +kernel⟩
theorem at_letters_in : sg.tb.lookup ("letters_in" : Str) = some f_letters_in := rfl
theorem look_are_values : chkSs sg (f_are_values).N (defScope (topS 18)) (defScope (topS 18)) (f_are_values).body (defBody (topS 18)) = true := by decide +kernel
theorem scope_are_values : FnScope (f_are_values).N (f_are_values).ps (defScope (topS 18)) := ⟨rfl, rfl, rfl, by decide +kernel, rfl, by decide +kernel, by decide +kernel⟩
theorem at_are_values : sg.tb.lookup ("are_values" : Str) = some f_are_values := rfl
theorem look_is_table_form : chkSs sg (f_is_table_form).N (defScope (topS 19)) (defScope (topS 19)) (f_is_table_form).body (defBody (topS 19)) = true := by decide +kernel
theorem scope_is_table_form : FnScope (f_is_table_form).N (f_is_table_form).ps (defScope (topS 19)) := ⟨rfl, rfl, rfl, by decide +kernel, rfl, by decide +kernel, by decide +kernel⟩
theorem at_is_table_form : sg.tb.lookup ("is_table_form" : Str) = some f_is_table_form := rfl
theorem look_unit_fault : chkSs sg (f_unit_fault).N (defScope (topS 20)) (defScope (topS 20)) (f_unit_fault).body (defBody (topS 20)) = true := by decide +kernel
theorem scope_unit_fault : FnScope (f_unit_fault).N (f_unit_fault).ps (defScope (topS 20)) := ⟨rfl, rfl, rfl, by decide +kernel, rfl, by decide +kernel, by decide +kernel⟩
theorem at_unit_fault : sg.tb.lookup ("unit_fault" : Str) = some f_unit_fault := rfl
theorem look_triple_fault : chkSs sg (f_triple_fault).N (defScope (topS 21)) (defScope (topS 21)) (f_triple_fault).body (defBody (topS 21)) = true := by decide +kernel
theorem scope_triple_fault : FnScope (f_triple_fault).N (f_triple_fault).ps (defScope (topS 21)) := ⟨rfl, rfl, rfl, by decide +kernel, rfl, by decide +kernel, by decide +kernel⟩
theorem at_triple_fault : sg.tb.lookup ("triple_fault" : Str) = some f_triple_fault := rfl
theorem look_moved_fault : chkSs sg (f_moved_fault).N (defScope (topS 22)) (defScope (topS 22)) (f_moved_fault).body (defBody (topS 22)) = true := by decide +kernel
theorem scope_moved_fault : FnScope (f_moved_fault).N (f_moved_fault).ps (defScope (topS 22)) := ⟨rfl, rfl, rfl, by decide +kernel, rfl, by decide +kernel, by decide +kernel⟩
theorem at_moved_fault : sg.tb.lookup ("moved_fault" : Str) = some f_moved_fault := rfl
theorem look_again_fault : chkSs sg (f_again_fault).N (defScope (topS 23)) (defScope (topS 23)) (f_again_fault).body (defBody (topS 23)) = true := by decide +kernel
theorem scope_again_fault : FnScope (f_again_fault).N (f_again_fault).ps (defScope (topS 23)) := ⟨rfl, rfl, rfl, by decide +kernel, rfl, by decide +kernel, by decide +kernel⟩
theorem at_again_fault : sg.tb.lookup ("again_fault" : Str) = some f_again_fault := rfl
theorem look_turned_fault : chkSs sg (f_turned_fault).N (defScope (topS 24)) (defScope (topS 24)) (f_turned_fault).body (defBody (topS 24)) = true := by decide +kernel
theorem scope_turned_fault : FnScope (f_turned_fault).N (f_turned_fault).ps (defScope (topS 24)) := ⟨rfl, rfl, rfl, by decide +kernel, rfl, by decide +kernel, by decide +kernel⟩
theorem at_turned_fault : sg.tb.lookup ("turned_fault" : Str) = some f_turned_fault := rfl
theorem look_law_fault : chkSs sg (f_law_fault).N (defScope (topS 25)) (defScope (topS 25)) (f_law_fault).body (defBody (topS 25)) = true := by decide +kernel
theorem scope_law_fault : FnScope (f_law_fault).N (f_law_fault).ps (defScope (topS 25)) := ⟨rfl, rfl, rfl, by decide +kernel, rfl, by decide +kernel, by decide +kernel⟩
theorem at_law_fault : sg.tb.lookup ("law_fault" : Str) = some f_law_fault := rfl
theorem look_is_table_in : chkSs sg (f_is_table_in).N (defScope (topS 26)) (defScope (topS 26)) (f_is_table_in).body (defBody (topS 26)) = true := by decide +kernel
theorem scope_is_table_in : FnScope (f_is_table_in).N (f_is_table_in).ps (defScope (topS 26)) := ⟨rfl, rfl, rfl, by decide +kernel, rfl, by decide +kernel, by decide +kernel⟩
theorem at_is_table_in : sg.tb.lookup ("is_table_in" : Str) = some f_is_table_in := rfl
theorem look_check_table : chkSs sg (f_check_table).N (defScope (topS 27)) (defScope (topS 27)) (f_check_table).body (defBody (topS 27)) = true := by decide +kernel
theorem scope_check_table : FnScope (f_check_table).N (f_check_table).ps (defScope (topS 27)) := ⟨rfl, rfl, rfl, by decide +kernel, rfl, by decide +kernel, by decide +kernel⟩
theorem at_check_table : sg.tb.lookup ("check_table" : Str) = some f_check_table := rfl
theorem look_value_in : chkSs sg (f_value_in).N (defScope (topS 28)) (defScope (topS 28)) (f_value_in).body (defBody (topS 28)) = true := by decide +kernel
theorem scope_value_in : FnScope (f_value_in).N (f_value_in).ps (defScope (topS 28)) := ⟨rfl, rfl, rfl, by decide +kernel, rfl, by decide +kernel, by decide +kernel⟩
theorem at_value_in : sg.tb.lookup ("value_in" : Str) = some f_value_in := rfl
theorem look_choices : chkSs sg (f_choices).N (defScope (topS 30)) (defScope (topS 30)) (f_choices).body (defBody (topS 30)) = true := by decide +kernel
theorem scope_choices : FnScope (f_choices).N (f_choices).ps (defScope (topS 30)) := ⟨rfl, rfl, rfl, by decide +kernel, rfl, by decide +kernel, by decide +kernel⟩
theorem at_choices : sg.tb.lookup ("choices" : Str) = some f_choices := rfl
theorem look_failing_in : chkSs sg (f_failing_in).N (defScope (topS 31)) (defScope (topS 31)) (f_failing_in).body (defBody (topS 31)) = true := by decide +kernel
theorem scope_failing_in : FnScope (f_failing_in).N (f_failing_in).ps (defScope (topS 31)) := ⟨rfl, rfl, rfl, by decide +kernel, rfl, by decide +kernel, by decide +kernel⟩
theorem at_failing_in : sg.tb.lookup ("failing_in" : Str) = some f_failing_in := rfl
theorem look_check_identity : chkSs sg (f_check_identity).N (defScope (topS 32)) (defScope (topS 32)) (f_check_identity).body (defBody (topS 32)) = true := by decide +kernel
theorem scope_check_identity : FnScope (f_check_identity).N (f_check_identity).ps (defScope (topS 32)) := ⟨rfl, rfl, rfl, by decide +kernel, rfl, by decide +kernel, by decide +kernel⟩
theorem at_check_identity : sg.tb.lookup ("check_identity" : Str) = some f_check_identity := rfl
theorem look_holds_in : chkSs sg (f_holds_in).N (defScope (topS 33)) (defScope (topS 33)) (f_holds_in).body (defBody (topS 33)) = true := by decide +kernel
theorem scope_holds_in : FnScope (f_holds_in).N (f_holds_in).ps (defScope (topS 33)) := ⟨rfl, rfl, rfl, by decide +kernel, rfl, by decide +kernel, by decide +kernel⟩
theorem at_holds_in : sg.tb.lookup ("holds_in" : Str) = some f_holds_in := rfl
theorem look_failing : chkSs sg (f_failing).N (defScope (topS 34)) (defScope (topS 34)) (f_failing).body (defBody (topS 34)) = true := by decide +kernel
theorem scope_failing : FnScope (f_failing).N (f_failing).ps (defScope (topS 34)) := ⟨rfl, rfl, rfl, by decide +kernel, rfl, by decide +kernel, by decide +kernel⟩
theorem at_failing : sg.tb.lookup ("failing" : Str) = some f_failing := rfl
theorem look__law_mixed : chkSs sg (f__law_mixed).N (defScope (topS 36)) (defScope (topS 36)) (f__law_mixed).body (defBody (topS 36)) = true := by decide +kernel
theorem scope__law_mixed : FnScope (f__law_mixed).N (f__law_mixed).ps (defScope (topS 36)) := ⟨rfl, rfl, rfl, by decide +kernel, rfl, by decide +kernel, by decide +kernel⟩
theorem at__law_mixed : sg.tb.lookup ("_law_mixed" : Str) = some f__law_mixed := rfl
theorem look__law_source : chkSs sg (f__law_source).N (defScope (topS 37)) (defScope (topS 37)) (f__law_source).body (defBody (topS 37)) = true := by decide +kernel
theorem scope__law_source : FnScope (f__law_source).N (f__law_source).ps (defScope (topS 37)) := ⟨rfl, rfl, rfl, by decide +kernel, rfl, by decide +kernel, by decide +kernel⟩
theorem at__law_source : sg.tb.lookup ("_law_source" : Str) = some f__law_source := rfl
theorem look__law_draw : chkSs sg (f__law_draw).N (defScope (topS 38)) (defScope (topS 38)) (f__law_draw).body (defBody (topS 38)) = true := by decide +kernel
theorem scope__law_draw : FnScope (f__law_draw).N (f__law_draw).ps (defScope (topS 38)) := ⟨rfl, rfl, rfl, by decide +kernel, rfl, by decide +kernel, by decide +kernel⟩
theorem at__law_draw : sg.tb.lookup ("_law_draw" : Str) = some f__law_draw := rfl
theorem look__law_term : chkSs sg (f__law_term).N (defScope (topS 39)) (defScope (topS 39)) (f__law_term).body (defBody (topS 39)) = true := by decide +kernel
theorem scope__law_term : FnScope (f__law_term).N (f__law_term).ps (defScope (topS 39)) := ⟨rfl, rfl, rfl, by decide +kernel, rfl, by decide +kernel, by decide +kernel⟩
theorem at__law_term : sg.tb.lookup ("_law_term" : Str) = some f__law_term := rfl
theorem look__law_same_row : chkSs sg (f__law_same_row).N (defScope (topS 40)) (defScope (topS 40)) (f__law_same_row).body (defBody (topS 40)) = true := by decide +kernel
theorem scope__law_same_row : FnScope (f__law_same_row).N (f__law_same_row).ps (defScope (topS 40)) := ⟨rfl, rfl, rfl, by decide +kernel, rfl, by decide +kernel, by decide +kernel⟩
theorem at__law_same_row : sg.tb.lookup ("_law_same_row" : Str) = some f__law_same_row := rfl
theorem look__law_table : chkSs sg (f__law_table).N (defScope (topS 41)) (defScope (topS 41)) (f__law_table).body (defBody (topS 41)) = true := by decide +kernel
theorem scope__law_table : FnScope (f__law_table).N (f__law_table).ps (defScope (topS 41)) := ⟨rfl, rfl, rfl, by decide +kernel, rfl, by decide +kernel, by decide +kernel⟩
theorem at__law_table : sg.tb.lookup ("_law_table" : Str) = some f__law_table := rfl
theorem look__law_round : chkSs sg (f__law_round).N (defScope (topS 42)) (defScope (topS 42)) (f__law_round).body (defBody (topS 42)) = true := by decide +kernel
theorem scope__law_round : FnScope (f__law_round).N (f__law_round).ps (defScope (topS 42)) := ⟨rfl, rfl, rfl, by decide +kernel, rfl, by decide +kernel, by decide +kernel⟩
theorem at__law_round : sg.tb.lookup ("_law_round" : Str) = some f__law_round := rfl
theorem look__law_value : chkSs sg (f__law_value).N (defScope (topS 43)) (defScope (topS 43)) (f__law_value).body (defBody (topS 43)) = true := by decide +kernel
theorem scope__law_value : FnScope (f__law_value).N (f__law_value).ps (defScope (topS 43)) := ⟨rfl, rfl, rfl, by decide +kernel, rfl, by decide +kernel, by decide +kernel⟩
theorem at__law_value : sg.tb.lookup ("_law_value" : Str) = some f__law_value := rfl
theorem look__law_letters : chkSs sg (f__law_letters).N (defScope (topS 44)) (defScope (topS 44)) (f__law_letters).body (defBody (topS 44)) = true := by decide +kernel
theorem scope__law_letters : FnScope (f__law_letters).N (f__law_letters).ps (defScope (topS 44)) := ⟨rfl, rfl, rfl, by decide +kernel, rfl, by decide +kernel, by decide +kernel⟩
theorem at__law_letters : sg.tb.lookup ("_law_letters" : Str) = some f__law_letters := rfl
theorem look__law_choices : chkSs sg (f__law_choices).N (defScope (topS 45)) (defScope (topS 45)) (f__law_choices).body (defBody (topS 45)) = true := by decide +kernel
theorem scope__law_choices : FnScope (f__law_choices).N (f__law_choices).ps (defScope (topS 45)) := ⟨rfl, rfl, rfl, by decide +kernel, rfl, by decide +kernel, by decide +kernel⟩
theorem at__law_choices : sg.tb.lookup ("_law_choices" : Str) = some f__law_choices := rfl
theorem look__law_due : chkSs sg (f__law_due).N (defScope (topS 46)) (defScope (topS 46)) (f__law_due).body (defBody (topS 46)) = true := by decide +kernel
theorem scope__law_due : FnScope (f__law_due).N (f__law_due).ps (defScope (topS 46)) := ⟨rfl, rfl, rfl, by decide +kernel, rfl, by decide +kernel, by decide +kernel⟩
theorem at__law_due : sg.tb.lookup ("_law_due" : Str) = some f__law_due := rfl
theorem look__law_told : chkSs sg (f__law_told).N (defScope (topS 47)) (defScope (topS 47)) (f__law_told).body (defBody (topS 47)) = true := by decide +kernel
theorem scope__law_told : FnScope (f__law_told).N (f__law_told).ps (defScope (topS 47)) := ⟨rfl, rfl, rfl, by decide +kernel, rfl, by decide +kernel, by decide +kernel⟩
theorem at__law_told : sg.tb.lookup ("_law_told" : Str) = some f__law_told := rfl
theorem look__law_held : chkSs sg (f__law_held).N (defScope (topS 48)) (defScope (topS 48)) (f__law_held).body (defBody (topS 48)) = true := by decide +kernel
theorem scope__law_held : FnScope (f__law_held).N (f__law_held).ps (defScope (topS 48)) := ⟨rfl, rfl, rfl, by decide +kernel, rfl, by decide +kernel, by decide +kernel⟩
theorem at__law_held : sg.tb.lookup ("_law_held" : Str) = some f__law_held := rfl
theorem look__law_errors : chkSs sg (f__law_errors).N (defScope (topS 49)) (defScope (topS 49)) (f__law_errors).body (defBody (topS 49)) = true := by decide +kernel
theorem scope__law_errors : FnScope (f__law_errors).N (f__law_errors).ps (defScope (topS 49)) := ⟨rfl, rfl, rfl, by decide +kernel, rfl, by decide +kernel, by decide +kernel⟩
theorem at__law_errors : sg.tb.lookup ("_law_errors" : Str) = some f__law_errors := rfl
theorem look_law : chkSs sg (f_law).N (defScope (topS 50)) (defScope (topS 50)) (f_law).body (defBody (topS 50)) = true := by decide +kernel
theorem scope_law : FnScope (f_law).N (f_law).ps (defScope (topS 50)) := ⟨rfl, rfl, rfl, by decide +kernel, rfl, by decide +kernel, by decide +kernel⟩
theorem at_law : sg.tb.lookup ("law" : Str) = some f_law := rfl
end L2.K22
namespace L2.Tm
open PySem L2.Iv
theorem nat_lt {i : Int} {b : Nat} (h0 : 0 ≤ i) (h1 : i < b) : i.natAbs < b := by omega
theorem log_le {n k : Nat} (h : n < 2 ^ k) : n.log2 ≤ k := by
  by_cases h0 : n = 0
  · subst h0
    rw [show Nat.log2 0 = 0 by decide]
    exact Nat.zero_le _
  · exact Nat.le_of_lt ((Nat.log2_lt h0).mpr h)
theorem mul_ok {a b : Nat} (ha : a < 2 ^ 400) (hb : b < 2 ^ 400) : a.log2 + b.log2 < 1000000 := by
  have h1 := log_le ha
  have h2 := log_le hb
  omega
theorem log_small {j : Int} (h : j.natAbs < 2 ^ 400) : j.natAbs.log2 < 9000 := Nat.lt_of_le_of_lt (log_le h) (by decide)
inductive Tm where
  | l (n : Nat) | no | th (ts : List Tm) | on (t : Tm) | bk (t : Tm)
mutual
def enc : Tm → PV
  | .l n => .int n
  | .no => .tup [.str "none"]
  | .th ts => .tup (.str "then" :: encs ts)
  | .on t => .tup [.str "on", enc t]
  | .bk t => .tup [.str "back", enc t]
def encs : List Tm → List PV
  | [] => []
  | t :: ts => enc t :: encs ts
end
mutual
def wf (k : Nat) : Tm → Bool
  | .l n => decide (n < k)
  | .no => true
  | .th ts => decide (2 ≤ ts.length) && wfs k ts
  | .on t => wf k t
  | .bk t => wf k t
def wfs (k : Nat) : List Tm → Bool
  | [] => true
  | t :: ts => wf k t && wfs k ts
end
mutual
def sg : Tm → Nat
  | .l _ => 1
  | .no => 1
  | .th ts => 1 + sgs ts
  | .on t => 1 + sg t
  | .bk t => 1 + sg t
def sgs : List Tm → Nat
  | [] => 0
  | t :: ts => sg t + sgs ts
end
mutual
def lets : Tm → List Nat
  | .l n => [n]
  | .no => []
  | .th ts => letss ts
  | .on t => lets t
  | .bk t => lets t
def letss : List Tm → List Nat
  | [] => []
  | t :: ts => lets t ++ letss ts
end
mutual
def dep : Tm → Nat
  | .l _ => 0
  | .no => 1
  | .th ts => 1 + deps ts
  | .on t => 1 + dep t
  | .bk t => 1 + dep t
def deps : List Tm → Nat
  | [] => 0
  | t :: ts => max (dep t) (deps ts)
end
theorem encs_map : ∀ ts : List Tm, encs ts = ts.map enc
  | [] => rfl
  | t :: ts => by rw [encs, List.map_cons, encs_map ts]
theorem wfs_all (k : Nat) : ∀ ts : List Tm, wfs k ts = ts.all (wf k)
  | [] => rfl
  | t :: ts => by rw [wfs, List.all_cons, wfs_all k ts]
theorem sgs_sum : ∀ ts : List Tm, sgs ts = (ts.map sg).sum
  | [] => rfl
  | t :: ts => by rw [sgs, List.map_cons, List.sum_cons, sgs_sum ts]
theorem letss_flat : ∀ ts : List Tm, letss ts = ts.flatMap lets
  | [] => rfl
  | t :: ts => by rw [letss, List.flatMap_cons, letss_flat ts]
theorem sgs_app (a b : List Tm) : sgs (a ++ b) = sgs a + sgs b := by
  rw [sgs_sum, sgs_sum, sgs_sum, List.map_append, List.sum_append]
mutual
theorem sg_pos : ∀ t : Tm, 1 ≤ sg t
  | .l _ => Nat.le_refl _
  | .no => Nat.le_refl _
  | .th ts => by rw [sg]; omega
  | .on t => by rw [sg]; omega
  | .bk t => by rw [sg]; omega
end
theorem sgs_len : ∀ ts : List Tm, ts.length ≤ sgs ts
  | [] => Nat.le_refl _
  | t :: ts => by
    have := sgs_len ts
    have := sg_pos t
    rw [sgs, List.length_cons]
    omega
mutual
theorem dep_sg : ∀ t : Tm, dep t ≤ sg t
  | .l _ => Nat.zero_le _
  | .no => Nat.le_refl _
  | .th ts => by have := deps_sgs ts; rw [dep, sg]; omega
  | .on t => by have := dep_sg t; rw [dep, sg]; omega
  | .bk t => by have := dep_sg t; rw [dep, sg]; omega
theorem deps_sgs : ∀ ts : List Tm, deps ts ≤ sgs ts
  | [] => Nat.le_refl _
  | t :: ts => by
    have := dep_sg t
    have := deps_sgs ts
    rw [deps, sgs]
    omega
end
theorem mem_sg {t : Tm} {ts : List Tm} (h : t ∈ ts) : sg t ≤ sgs ts := by
  induction ts with
  | nil => cases h
  | cons u us ih =>
    rw [sgs]
    rcases List.mem_cons.mp h with rfl | h
    · omega
    · have := ih h; omega
theorem mem_dep {t : Tm} {ts : List Tm} (h : t ∈ ts) : dep t ≤ deps ts := by
  induction ts with
  | nil => cases h
  | cons u us ih =>
    rw [deps]
    rcases List.mem_cons.mp h with rfl | h
    · omega
    · have := ih h; omega
theorem fit_str (n : Nat) (s : Str) : fit n (.str s) = PyData.strOk s := by cases n <;> rfl
theorem ok_then : PyData.strOk "then" = true := by decide +kernel
theorem ok_on : PyData.strOk "on" = true := by decide +kernel
theorem ok_back : PyData.strOk "back" = true := by decide +kernel
theorem ok_none : PyData.strOk "none" = true := by decide +kernel
mutual
theorem fit_enc : ∀ (t : Tm) (n : Nat), dep t ≤ n → fit n (enc t) = true
  | .l _, n, _ => by cases n <;> rfl
  | .no, 0, h => by rw [dep] at h; omega
  | .no, n + 1, _ => by
    show (fit n (.str "none") && true) = true
    rw [fit_str, ok_none]; rfl
  | .th ts, 0, h => by rw [dep] at h; omega
  | .th ts, n + 1, h => by
    rw [dep] at h
    show (fit n (.str "then") && fits n (encs ts)) = true
    rw [fits_encs ts n (by omega), fit_str, ok_then]
    rfl
  | .on t, 0, h => by rw [dep] at h; omega
  | .on t, n + 1, h => by
    rw [dep] at h
    show (fit n (.str "on") && (fit n (enc t) && true)) = true
    rw [fit_enc t n (by omega), fit_str, ok_on]
    rfl
  | .bk t, 0, h => by rw [dep] at h; omega
  | .bk t, n + 1, h => by
    rw [dep] at h
    show (fit n (.str "back") && (fit n (enc t) && true)) = true
    rw [fit_enc t n (by omega), fit_str, ok_back]
    rfl
theorem fits_encs : ∀ (ts : List Tm) (n : Nat), deps ts ≤ n → fits n (encs ts) = true
  | [], _, _ => rfl
  | t :: ts, n, h => by
    rw [deps] at h
    show (fit n (enc t) && fits n (encs ts)) = true
    rw [fit_enc t n (by omega), fits_encs ts n (by omega)]
    rfl
end
mutual
theorem free_enc : ∀ t : Tm, (enc t).free = true
  | .l _ => rfl
  | .no => rfl
  | .th ts => by
    show ((PV.str "then").free && freeAll (encs ts)) = true
    rw [free_encs ts]; rfl
  | .on t => by
    show ((PV.str "on").free && ((enc t).free && true)) = true
    rw [free_enc t]; rfl
  | .bk t => by
    show ((PV.str "back").free && ((enc t).free && true)) = true
    rw [free_enc t]; rfl
theorem free_encs : ∀ ts : List Tm, freeAll (encs ts) = true
  | [] => rfl
  | t :: ts => by
    show ((enc t).free && freeAll (encs ts)) = true
    rw [free_enc t, free_encs ts]; rfl
end
end L2.Tm
namespace L2.Ta
open L2.Tm
structure Tb where
  n : Nat
  P : Nat → Nat → Nat
  O : Nat → Nat
  B : Nat → Nat
structure Lt (t : Tb) : Prop where
  n2 : 2 ≤ t.n
  n5 : t.n ≤ 5
  pl : ∀ a b, a < t.n → b < t.n → t.P a b < t.n
  ol : ∀ a, a < t.n → t.O a < t.n
  bl : ∀ a, a < t.n → t.B a < t.n
def pwr (P : Nat → Nat → Nat) (a : Nat) : Nat → Nat
  | 0 => a
  | m + 1 => P (pwr P a m) a
structure Lw (t : Tb) extends Lt t where
  u0 : ∀ a, a < t.n → t.P 0 a = a
  u1 : ∀ a, a < t.n → t.P a 0 = a
  o0 : t.O 0 = 0
  b0 : t.B 0 = 0
  as : ∀ a b c, a < t.n → b < t.n → c < t.n → t.P (t.P a b) c = t.P a (t.P b c)
  mo : ∀ a b, a < t.n → b < t.n → t.O (t.P a b) = t.P a (t.O (t.P b a))
  mb : ∀ a b, a < t.n → b < t.n → t.B (t.P a b) = t.P (t.B (t.P b a)) b
  ao : ∀ a m, a < t.n → m + 1 < t.n → t.O (pwr t.P a (m + 1)) = t.O a
  ab : ∀ a m, a < t.n → m + 1 < t.n → t.B (pwr t.P a (m + 1)) = t.B a
mutual
def valT (t : Tb) (vs : List Nat) : Tm → Nat
  | .l n => vs.getD n 0
  | .no => 0
  | .th ts => valF t vs 0 ts
  | .on u => t.O (valT t vs u)
  | .bk u => t.B (valT t vs u)
def valF (t : Tb) (vs : List Nat) (acc : Nat) : List Tm → Nat
  | [] => acc
  | u :: us => valF t vs (t.P acc (valT t vs u)) us
end
theorem getD_lt {t : Tb} (h : Lt t) {vs : List Nat} (hv : ∀ v ∈ vs, v < t.n) (n : Nat) : vs.getD n 0 < t.n := by
  rw [List.getD_eq_getElem?_getD]
  cases e : vs[n]? with
  | none => show 0 < t.n; have := h.n2; omega
  | some v => exact hv v (List.mem_of_getElem? e)
mutual
theorem val_lt {t : Tb} (h : Lt t) {vs : List Nat} (hv : ∀ v ∈ vs, v < t.n) : ∀ u, valT t vs u < t.n
  | .l n => by rw [valT]; exact getD_lt h hv n
  | .no => by rw [valT]; have := h.n2; omega
  | .th ts => by rw [valT]; exact valF_lt h hv ts 0 (by have := h.n2; omega)
  | .on u => by rw [valT]; exact h.ol _ (val_lt h hv u)
  | .bk u => by rw [valT]; exact h.bl _ (val_lt h hv u)
theorem valF_lt {t : Tb} (h : Lt t) {vs : List Nat} (hv : ∀ v ∈ vs, v < t.n) : ∀ (us : List Tm) (acc : Nat), acc < t.n → valF t vs acc us < t.n
  | [], acc, ha => by rw [valF]; exact ha
  | u :: us, acc, ha => by rw [valF]; exact valF_lt h hv us _ (h.pl _ _ ha (val_lt h hv u))
end
theorem valF_app (t : Tb) (vs : List Nat) : ∀ (us ws : List Tm) (acc : Nat), valF t vs acc (us ++ ws) = valF t vs (valF t vs acc us) ws
  | [], ws, acc => by rw [List.nil_append, valF]
  | u :: us, ws, acc => by rw [List.cons_append, valF, valF, valF_app t vs us ws]
theorem valF_acc {t : Tb} (h : Lw t) {vs : List Nat} (hv : ∀ v ∈ vs, v < t.n) : ∀ (us : List Tm) (acc : Nat), acc < t.n → valF t vs acc us = t.P acc (valF t vs 0 us)
  | [], acc, ha => by rw [valF, valF, h.u1 acc ha]
  | u :: us, acc, ha => by
    have n0 : 0 < t.n := by have := h.n2; omega
    have lu := val_lt h.toLt hv u
    rw [valF, valF, valF_acc h hv us _ (h.pl _ _ ha lu), valF_acc h hv us (t.P 0 (valT t vs u)) (h.pl _ _ n0 lu), h.u0 _ lu, h.as _ _ _ ha lu (valF_lt h.toLt hv us 0 n0)]
def One (u w : Tm) : Prop := ∀ t vs, Lw t → (∀ v ∈ vs, v < t.n) → valT t vs u = valT t vs w
theorem One.refl (u : Tm) : One u u := fun _ _ _ _ => rfl
theorem One.trans {u w x : Tm} (h : One u w) (k : One w x) : One u x := fun t vs a b => (h t vs a b).trans (k t vs a b)
section
variable (u : Tm)
theorem one_pre : One (.th [.no, u]) u := fun t vs h hv => by
  have n0 : 0 < t.n := by have := h.n2; omega
  have lu := val_lt h.toLt hv u
  simp only [valT, valF]
  rw [h.u0 0 n0, h.u0 _ lu]
theorem one_post : One (.th [u, .no]) u := fun t vs h hv => by
  have n0 : 0 < t.n := by have := h.n2; omega
  have lu := val_lt h.toLt hv u
  simp only [valT, valF]
  rw [h.u0 _ lu, h.u1 _ lu]
theorem one_on : One (.th [u, .on .no]) u := fun t vs h hv => by
  have n0 : 0 < t.n := by have := h.n2; omega
  have lu := val_lt h.toLt hv u
  simp only [valT, valF]
  rw [h.u0 _ lu, h.o0, h.u1 _ lu]
theorem one_bk : One (.th [u, .bk .no]) u := fun t vs h hv => by
  have n0 : 0 < t.n := by have := h.n2; omega
  have lu := val_lt h.toLt hv u
  simp only [valT, valF]
  rw [h.u0 _ lu, h.b0, h.u1 _ lu]
theorem one_on2 : One (.th [u, .on u]) (.on u) := fun t vs h hv => by
  have n0 : 0 < t.n := by have := h.n2; omega
  have lu := val_lt h.toLt hv u
  have := h.mo _ 0 lu n0
  rw [h.u1 _ lu, h.u0 _ lu] at this
  simp only [valT, valF]
  rw [h.u0 _ lu, ← this]
theorem one_bk2 : One (.th [.bk u, u]) (.bk u) := fun t vs h hv => by
  have n0 : 0 < t.n := by have := h.n2; omega
  have lu := val_lt h.toLt hv u
  have := h.mb 0 _ n0 lu
  rw [h.u1 _ lu, h.u0 _ lu] at this
  simp only [valT, valF]
  rw [h.u0 _ (h.bl _ lu), ← this]
theorem one_on3 : One (.on (.th [u, u])) (.on u) := fun t vs h hv => by
  have n0 : 0 < t.n := by have := h.n2; omega
  have lu := val_lt h.toLt hv u
  have := h.ao _ 0 lu (by have := h.n2; omega)
  simp only [valT, valF]
  rw [h.u0 _ lu]
  exact this
theorem one_bk3 : One (.bk (.th [u, u])) (.bk u) := fun t vs h hv => by
  have n0 : 0 < t.n := by have := h.n2; omega
  have lu := val_lt h.toLt hv u
  have := h.ab _ 0 lu (by have := h.n2; omega)
  simp only [valT, valF]
  rw [h.u0 _ lu]
  exact this
end
theorem one_cut (us ws : List Tm) : One (.th (.th us :: ws)) (.th (us ++ ws)) := fun t vs h hv => by
  have n0 : 0 < t.n := by have := h.n2; omega
  rw [valT, valF, valT, valT, valF_app, h.u0 _ (valF_lt h.toLt hv us 0 n0)]
theorem one_roll (u : Tm) (us : List Tm) : One (.th [u, .on (.th (us ++ [u]))]) (.on (.th (u :: us))) := fun t vs h hv => by
  have n0 : 0 < t.n := by have := h.n2; omega
  have lu := val_lt h.toLt hv u
  have ls := valF_lt h.toLt hv us 0 n0
  simp only [valT, valF]
  rw [valF_app, h.u0 _ lu, valF_acc h hv us _ lu, h.mo _ _ lu ls]
  simp only [valF]
theorem one_back (u : Tm) (us : List Tm) : One (.th [.bk (.th (u :: us)), u]) (.bk (.th (us ++ [u]))) := fun t vs h hv => by
  have n0 : 0 < t.n := by have := h.n2; omega
  have lu := val_lt h.toLt hv u
  have ls := valF_lt h.toLt hv us 0 n0
  simp only [valT, valF]
  rw [valF_app, h.u0 _ lu, valF_acc h hv us _ lu]
  simp only [valF]
  rw [h.mb _ _ ls lu, h.u0 _ (h.bl _ (h.pl _ _ lu ls))]
theorem One.on {u w : Tm} (k : One u w) : One (.on u) (.on w) := fun t vs h hv => by rw [valT, valT, k t vs h hv]
theorem One.bk {u w : Tm} (k : One u w) : One (.bk u) (.bk w) := fun t vs h hv => by rw [valT, valT, k t vs h hv]
def ch (n : Nat) : Nat → List (List Nat)
  | 0 => [[]]
  | m + 1 => (ch n m).flatMap fun a => (List.range n).map fun v => a ++ [v]
theorem ch_lt {n : Nat} : ∀ {m : Nat} {vs : List Nat}, vs ∈ ch n m → vs.length = m ∧ ∀ v ∈ vs, v < n
  | 0, vs, h => by
    rw [ch, List.mem_singleton] at h
    subst h
    exact ⟨rfl, fun v hv => by cases hv⟩
  | m + 1, vs, h => by
    rw [ch, List.mem_flatMap] at h
    obtain ⟨a, ha, h⟩ := h
    obtain ⟨v, hv, rfl⟩ := List.mem_map.mp h
    obtain ⟨h1, h2⟩ := ch_lt ha
    rw [List.mem_range] at hv
    refine ⟨by rw [List.length_append, h1]; rfl, fun w hw => ?_⟩
    rcases List.mem_append.mp hw with z | z
    · exact h2 w z
    · rw [List.mem_singleton] at z; subst z; exact hv
theorem ch_len (n : Nat) : ∀ m : Nat, (ch n m).length = n ^ m
  | 0 => rfl
  | m + 1 => by
    have : ∀ l : List (List Nat), (l.flatMap fun a => (List.range n).map fun v => a ++ [v]).length = l.length * n := fun l => by
      induction l with
      | nil => rw [List.flatMap_nil, List.length_nil, Nat.zero_mul]
      | cons a l ih => rw [List.flatMap_cons, List.length_append, List.length_map, List.length_range, ih, List.length_cons, Nat.succ_mul, Nat.add_comm]
    rw [ch, this, ch_len n m, Nat.pow_succ]
def mx : List Nat → Nat
  | [] => 0
  | a :: l => max (a + 1) (mx l)
theorem mx_app : ∀ a b : List Nat, mx (a ++ b) = max (mx a) (mx b)
  | [], b => by rw [List.nil_append, mx]; omega
  | x :: a, b => by rw [List.cons_append, mx, mx, mx_app a b]; omega
theorem mx_mem {c : Nat} : ∀ {l : List Nat}, c ∈ l → c < mx l
  | x :: l, h => by
    rw [mx]
    rcases List.mem_cons.mp h with rfl | h
    · omega
    · have := mx_mem h; omega
theorem mx_le {k : Nat} : ∀ {l : List Nat}, (∀ c ∈ l, c < k) → mx l ≤ k
  | [], _ => Nat.zero_le _
  | x :: l, h => by
    rw [mx]
    have := h x (List.mem_cons_self ..)
    have := mx_le fun c hc => h c (List.mem_cons_of_mem _ hc)
    omega
def many (u w : Tm) : Nat := mx (lets u ++ lets w)
theorem many_comm (u w : Tm) : many u w = many w u := by unfold many; rw [mx_app, mx_app]; omega
def failT (t : Tb) (u w : Tm) : Option (List Nat) := (ch t.n (many u w)).find? fun vs => decide (valT t vs u ≠ valT t vs w)
theorem fail_comm (t : Tb) (u w : Tm) : failT t u w = failT t w u := by
  unfold failT
  rw [many_comm]
  congr 1
  funext vs
  exact decide_eq_decide.mpr ⟨fun h e => h e.symm, fun h e => h e.symm⟩
theorem fail_self (t : Tb) (u : Tm) : failT t u u = none := by
  unfold failT
  rw [List.find?_eq_none]
  intro vs _
  simp
theorem fail_one {t : Tb} (h : Lw t) {u w : Tm} (k : One u w) : failT t u w = none := by
  unfold failT
  rw [List.find?_eq_none]
  intro vs hvs
  simp [k t vs h (ch_lt hvs).2]
theorem fail_lt {t : Tb} {u w : Tm} {vs : List Nat} (h : failT t u w = some vs) : vs.length = many u w ∧ ∀ v ∈ vs, v < t.n := ch_lt (List.mem_of_find?_eq_some h)
def rnd (most a b : Nat) : Nat := if a = 0 ∨ b = 0 then a + b else if a = most ∨ b = most then most else (a + b - 1) % (most - 1) + 1
def prod (way most a b : Nat) : Nat := if way = 0 then min most (a + b) else if way = 1 then (if 0 < a then a else b) else if way = 2 then (if 0 < b then b else a) else rnd most a b
def fin (most a : Nat) : Nat := if a = 0 then 0 else most
def tab (way most : Nat) : Tb := ⟨most + 1, prod way most, if way = 1 then id else fin most, if way = 2 then id else fin most⟩
def alln (n : Nat) (p : Nat → Bool) : Bool := (List.range n).all p
theorem alln_ok {n : Nat} {p : Nat → Bool} (h : alln n p = true) : ∀ a, a < n → p a = true := fun a ha => List.all_eq_true.mp h a (List.mem_range.mpr ha)
def lawB (t : Tb) : Bool :=
  (alln t.n fun a => alln t.n fun b => decide (t.P a b < t.n)) && (alln t.n fun a => decide (t.O a < t.n ∧ t.B a < t.n ∧ t.P 0 a = a ∧ t.P a 0 = a)) && decide (t.O 0 = 0 ∧ t.B 0 = 0) &&
  (alln t.n fun a => alln t.n fun b => alln t.n fun c => decide (t.P (t.P a b) c = t.P a (t.P b c))) &&
  (alln t.n fun a => alln t.n fun b => decide (t.O (t.P a b) = t.P a (t.O (t.P b a)) ∧ t.B (t.P a b) = t.P (t.B (t.P b a)) b)) &&
  (alln t.n fun a => alln (t.n - 1) fun m => decide (t.O (pwr t.P a (m + 1)) = t.O a ∧ t.B (pwr t.P a (m + 1)) = t.B a))
theorem law_of {t : Tb} (n2 : 2 ≤ t.n) (n5 : t.n ≤ 5) (h : lawB t = true) : Lw t := by
  unfold lawB at h
  simp only [Bool.and_eq_true, decide_eq_true_eq] at h
  obtain ⟨⟨⟨⟨⟨h1, h2⟩, h3⟩, h4⟩, h5⟩, h6⟩ := h
  have g1 := fun a b ha hb => of_decide_eq_true (alln_ok (alln_ok h1 a ha) b hb)
  have g2 := fun a ha => of_decide_eq_true (alln_ok h2 a ha)
  have g4 := fun a b c ha hb hc => of_decide_eq_true (alln_ok (alln_ok (alln_ok h4 a ha) b hb) c hc)
  have g5 := fun a b ha hb => of_decide_eq_true (alln_ok (alln_ok h5 a ha) b hb)
  have g6 := fun a m ha hm => of_decide_eq_true (alln_ok (alln_ok h6 a ha) m hm)
  exact { n2 := n2, n5 := n5, pl := g1, ol := fun a ha => (g2 a ha).1, bl := fun a ha => (g2 a ha).2.1, u0 := fun a ha => (g2 a ha).2.2.1, u1 := fun a ha => (g2 a ha).2.2.2, o0 := h3.1, b0 := h3.2, as := g4,
          mo := fun a b ha hb => (g5 a b ha hb).1, mb := fun a b ha hb => (g5 a b ha hb).2, ao := fun a m ha hm => (g6 a m ha (by omega)).1, ab := fun a m ha hm => (g6 a m ha (by omega)).2 }
theorem tabs_ok : ((List.range 4).all fun w => (List.range 4).all fun m => lawB (tab w (m + 1))) = true := by decide +kernel
theorem tab_law {w m : Nat} (hw : w < 4) (h1 : 1 ≤ m) (h4 : m ≤ 4) : Lw (tab w m) := by
  refine law_of (by show 2 ≤ m + 1; omega) (by show m + 1 ≤ 5; omega) ?_
  have := List.all_eq_true.mp (List.all_eq_true.mp tabs_ok w (List.mem_range.mpr hw)) (m - 1) (List.mem_range.mpr (by omega))
  rw [show m - 1 + 1 = m by omega] at this
  exact this
end L2.Ta
namespace L2.Ta
open PySem L2.Iv
def f_are_values : Fn where
  ps := ["told", "many", "size"]
  N := ["told", "many", "size", "value"]
  body := (.cons (.ret (.ands (.cons (.isi (.v 0) "tuple") (.cons (.cmp .eq (.bi .len true (.cons (.v 0) .nil)) (.v 2)) (.cons (.bi .all true (.cons (.lc true [3] (.n 3) (.val (.v 0)) .nil (.call "is_between" (.cons (.v 3) (.cons (.c (.int 0)) (.cons (.bin .sub true (.v 1) (.c (.int 1))) .nil))))) .nil)) .nil))))) <|
  .nil)
  mt := false
def f_is_table_form : Fn where
  ps := ["told"]
  N := ["told", "letters", "products", "ons", "backs", "many", "row"]
  body := (.cons (.iff (.ors (.cons (.nt (.isi (.v 0) "tuple")) (.cons (.cmp .ne (.bi .len true (.cons (.v 0) .nil)) (.c (.int 4))) .nil))) (.cons (.ret (.c (.bl false))) <|
    .nil) (.nil)) <|
  .cons (.asg (.p (.t4 (.n 1) (.n 2) (.n 3) (.n 4))) (.v 0)) <|
  .cons (.iff (.ors (.cons (.nt (.isi (.v 1) "tuple")) (.cons (.nt (.isi (.v 2) "tuple")) .nil))) (.cons (.ret (.c (.bl false))) <|
    .nil) (.nil)) <|
  .cons (.asg (.p (.n 5)) (.bi .len true (.cons (.v 2) .nil))) <|
  .cons (.iff (.ors (.cons (.cmp .eq (.v 5) (.c (.int 0))) (.cons (.cmp .eq (.bi .len true (.cons (.v 1) .nil)) (.c (.int 0))) (.cons (.nt (.call "are_values" (.cons (.v 1) (.cons (.v 5) (.cons (.bi .len true (.cons (.v 1) .nil)) .nil))))) .nil)))) (.cons (.ret (.c (.bl false))) <|
    .nil) (.nil)) <|
  .cons (.ret (.bi .all true (.cons (.lc true [6] (.n 6) (.val (.bin .add true (.v 2) (.tup (.cons (.v 3) (.cons (.v 4) .nil))))) .nil (.call "are_values" (.cons (.v 6) (.cons (.v 5) (.cons (.v 5) .nil))))) .nil))) <|
  .nil)
  mt := false
def f_unit_fault : Fn where
  ps := ["table"]
  N := ["table", "letters", "products", "ons", "backs", "a"]
  body := (.cons (.asg (.p (.t4 (.n 1) (.n 2) (.n 3) (.n 4))) (.v 0)) <|
  .cons (.fr (.n 5) (.rng1 (.bi .len true (.cons (.v 2) .nil))) (.cons (.iff (.ors (.cons (.cmp .ne (.ix (.ix (.v 2) (.c (.int 0))) (.v 5)) (.v 5)) (.cons (.cmp .ne (.ix (.ix (.v 2) (.v 5)) (.c (.int 0))) (.v 5)) (.cons (.ands (.cons (.cmp .eq (.v 5) (.c (.int 0))) (.cons (.ors (.cons (.cmp .ne (.ix (.v 3) (.c (.int 0))) (.c (.int 0))) (.cons (.cmp .ne (.ix (.v 4) (.c (.int 0))) (.c (.int 0))) .nil))) .nil))) .nil)))) (.cons (.ret (.tup (.cons (.v 5) .nil))) <|
      .nil) (.nil)) <|
    .nil)) <|
  .cons (.ret (.c .non)) <|
  .nil)
  mt := false
def f_triple_fault : Fn where
  ps := ["products"]
  N := ["products", "values", "a", "b", "c"]
  body := (.cons (.asg (.p (.n 1)) (.rg1 (.bi .len true (.cons (.v 0) .nil)))) <|
  .cons (.fr (.n 2) (.kr (.v 1)) (.cons (.fr (.n 3) (.kr (.v 1)) (.cons (.fr (.n 4) (.kr (.v 1)) (.cons (.iff (.cmp .ne (.ix (.ix (.v 0) (.ix (.ix (.v 0) (.v 2)) (.v 3))) (.v 4)) (.ix (.ix (.v 0) (.v 2)) (.ix (.ix (.v 0) (.v 3)) (.v 4)))) (.cons (.ret (.tup (.cons (.v 2) (.cons (.v 3) (.cons (.v 4) .nil))))) <|
          .nil) (.nil)) <|
        .nil)) <|
      .nil)) <|
    .nil)) <|
  .cons (.ret (.c .non)) <|
  .nil)
  mt := false
def f_moved_fault : Fn where
  ps := ["products", "powers"]
  N := ["products", "powers", "values", "a", "b"]
  body := (.cons (.asg (.p (.n 2)) (.rg1 (.bi .len true (.cons (.v 0) .nil)))) <|
  .cons (.fr (.n 3) (.kr (.v 2)) (.cons (.fr (.n 4) (.kr (.v 2)) (.cons (.iff (.cmp .ne (.ix (.v 1) (.ix (.ix (.v 0) (.v 3)) (.v 4))) (.ix (.ix (.v 0) (.v 3)) (.ix (.v 1) (.ix (.ix (.v 0) (.v 4)) (.v 3))))) (.cons (.ret (.tup (.cons (.v 3) (.cons (.v 4) .nil)))) <|
        .nil) (.nil)) <|
      .nil)) <|
    .nil)) <|
  .cons (.ret (.c .non)) <|
  .nil)
  mt := false
def f_again_fault : Fn where
  ps := ["products", "powers"]
  N := ["products", "powers", "a", "own", "m"]
  body := (.cons (.fr (.n 2) (.rng1 (.bi .len true (.cons (.v 0) .nil))) (.cons (.asg (.p (.n 3)) (.v 2)) <|
    .cons (.fr (.n 4) (.rng2 (.c (.int 2)) (.bin .add true (.bi .len true (.cons (.v 0) .nil)) (.c (.int 1)))) (.cons (.asg (.p (.n 3)) (.ix (.ix (.v 0) (.v 3)) (.v 2))) <|
      .cons (.iff (.cmp .ne (.ix (.v 1) (.v 3)) (.ix (.v 1) (.v 2))) (.cons (.ret (.tup (.cons (.v 2) (.cons (.v 4) .nil)))) <|
        .nil) (.nil)) <|
      .nil)) <|
    .nil)) <|
  .cons (.ret (.c .non)) <|
  .nil)
  mt := false
def f_turned_fault : Fn where
  ps := ["products", "backs"]
  N := ["products", "backs", "values", "a", "b"]
  body := (.cons (.asg (.p (.n 2)) (.rg1 (.bi .len true (.cons (.v 0) .nil)))) <|
  .cons (.fr (.n 3) (.kr (.v 2)) (.cons (.fr (.n 4) (.kr (.v 2)) (.cons (.iff (.cmp .ne (.ix (.v 1) (.ix (.ix (.v 0) (.v 3)) (.v 4))) (.ix (.ix (.v 0) (.ix (.v 1) (.ix (.ix (.v 0) (.v 4)) (.v 3)))) (.v 4))) (.cons (.ret (.tup (.cons (.v 3) (.cons (.v 4) .nil)))) <|
        .nil) (.nil)) <|
      .nil)) <|
    .nil)) <|
  .cons (.ret (.c .non)) <|
  .nil)
  mt := false
def f_law_fault : Fn where
  ps := ["table"]
  N := ["table", "letters", "products", "ons", "backs", "found", "rule", "values"]
  body := (.cons (.asg (.p (.t4 (.n 1) (.n 2) (.n 3) (.n 4))) (.v 0)) <|
  .cons (.asg (.p (.n 5)) (.lst true (.cons (.call "unit_fault" (.cons (.v 0) .nil)) (.cons (.call "triple_fault" (.cons (.v 2) .nil)) (.cons (.call "moved_fault" (.cons (.v 2) (.cons (.v 3) .nil))) (.cons (.call "again_fault" (.cons (.v 2) (.cons (.v 3) .nil))) .nil)))))) <|
  .cons (.asg (.p (.n 5)) (.bin .add true (.v 5) (.lst true (.cons (.call "turned_fault" (.cons (.v 2) (.cons (.v 4) .nil))) (.cons (.call "again_fault" (.cons (.v 2) (.cons (.v 4) .nil))) .nil))))) <|
  .cons (.fr (.t2 (.n 6) (.n 7)) (.enm (.v 5)) (.cons (.iff (.cmp .isnot (.v 7) (.c .non)) (.cons (.ret (.tup (.cons (.bin .add true (.v 6) (.c (.int 1))) (.cons (.v 7) .nil)))) <|
      .nil) (.nil)) <|
    .nil)) <|
  .cons (.ret (.c .non)) <|
  .nil)
  mt := false
def f_is_table_in : Fn where
  ps := ["told"]
  N := ["told"]
  body := (.cons (.ret (.ands (.cons (.call "is_table_form" (.cons (.v 0) .nil)) (.cons (.ors (.cons (.cmp .gt (.bi .len true (.cons (.ix (.v 0) (.c (.int 1))) .nil)) (.g "MOST_LOOKED")) (.cons (.cmp .is (.call "law_fault" (.cons (.v 0) .nil)) (.c .non)) .nil))) .nil)))) <|
  .nil)
  mt := false
def f_check_table : Fn where
  ps := ["table"]
  N := ["table"]
  body := (.cons (.iff (.nt (.call "is_table_in" (.cons (.v 0) .nil))) (.cons (.rs "InvalidTable" (.v 0)) <|
    .nil) (.nil)) <|
  .nil)
  mt := false
def f_value_in : Fn where
  ps := ["table", "term"]
  N := ["table", "term", "found", "part"]
  body := (.cons (.iff (.call "is_integer" (.cons (.v 1) .nil)) (.cons (.ret (.ix (.ix (.v 0) (.c (.int 0))) (.v 1))) <|
    .nil) (.nil)) <|
  .cons (.iff (.cmp .eq (.v 1) (.g "NONE")) (.cons (.ret (.c (.int 0))) <|
    .nil) (.nil)) <|
  .cons (.iff (.cmp .eq (.ix (.v 1) (.c (.int 0))) (.c (.str "on"))) (.cons (.ret (.ix (.ix (.v 0) (.c (.int 2))) (.call "value_in" (.cons (.v 0) (.cons (.ix (.v 1) (.c (.int 1))) .nil))))) <|
    .nil) (.nil)) <|
  .cons (.iff (.cmp .eq (.ix (.v 1) (.c (.int 0))) (.c (.str "back"))) (.cons (.ret (.ix (.ix (.v 0) (.c (.int 3))) (.call "value_in" (.cons (.v 0) (.cons (.ix (.v 1) (.c (.int 1))) .nil))))) <|
    .nil) (.nil)) <|
  .cons (.asg (.p (.n 2)) (.c (.int 0))) <|
  .cons (.fr (.n 3) (.val (.slF true (.v 1) (.c (.int 1)))) (.cons (.asg (.p (.n 2)) (.ix (.ix (.ix (.v 0) (.c (.int 1))) (.v 2)) (.call "value_in" (.cons (.v 0) (.cons (.v 3) .nil))))) <|
    .nil)) <|
  .cons (.ret (.v 2)) <|
  .nil)
  mt := false
def f_choices : Fn where
  ps := ["many", "values"]
  N := ["many", "values", "found", "_", "ahead", "value"]
  body := (.cons (.asg (.p (.n 2)) (.lst true (.cons (.tup .nil) .nil))) <|
  .cons (.fr (.n 3) (.rng1 (.v 0)) (.cons (.asg (.p (.n 2)) (.lc2 true [4, 5] (.n 4) (.val (.v 2)) .nil [5] (.n 5) (.val (.v 1)) .nil (.bin .add true (.v 4) (.tup (.cons (.v 5) .nil))))) <|
    .nil)) <|
  .cons (.ret (.v 2)) <|
  .nil)
  mt := false
def f_failing_in : Fn where
  ps := ["table", "one", "other"]
  N := ["table", "one", "other", "many", "values", "own"]
  body := (.cons (.asg (.p (.n 3)) (.bin .add true (.c (.int 1)) (.bi .maxl true (.cons (.bin .add true (.bin .add true (.call "letters_in" (.cons (.v 1) .nil)) (.call "letters_in" (.cons (.v 2) .nil))) (.lst true (.cons (.neg (.c (.int 1))) .nil))) .nil)))) <|
  .cons (.fr (.n 4) (.val (.call "choices" (.cons (.v 3) (.cons (.lrg true (.bi .len true (.cons (.ix (.v 0) (.c (.int 1))) .nil))) .nil)))) (.cons (.asg (.p (.n 5)) (.bin .add true (.tup (.cons (.v 4) .nil)) (.slF true (.v 0) (.c (.int 1))))) <|
    .cons (.iff (.cmp .ne (.call "value_in" (.cons (.v 5) (.cons (.v 1) .nil))) (.call "value_in" (.cons (.v 5) (.cons (.v 2) .nil)))) (.cons (.ret (.v 4)) <|
      .nil) (.nil)) <|
    .nil)) <|
  .cons (.ret (.c .non)) <|
  .nil)
  mt := false
def f_check_identity : Fn where
  ps := ["table", "one", "other"]
  N := ["table", "one", "other"]
  body := (.cons (.expr (.call "check_table" (.cons (.v 0) .nil))) <|
  .cons (.expr (.call "check_term" (.cons (.g "MOST_LETTERS") (.cons (.v 1) .nil)))) <|
  .cons (.expr (.call "check_term" (.cons (.g "MOST_LETTERS") (.cons (.v 2) .nil)))) <|
  .nil)
  mt := false
def f_holds_in : Fn where
  ps := ["table", "one", "other"]
  N := ["table", "one", "other"]
  body := (.cons (.expr (.call "check_identity" (.cons (.v 0) (.cons (.v 1) (.cons (.v 2) .nil))))) <|
  .cons (.ret (.cmp .is (.call "failing_in" (.cons (.v 0) (.cons (.v 1) (.cons (.v 2) .nil)))) (.c .non))) <|
  .nil)
  mt := false
def f_failing : Fn where
  ps := ["table", "one", "other"]
  N := ["table", "one", "other"]
  body := (.cons (.expr (.call "check_identity" (.cons (.v 0) (.cons (.v 1) (.cons (.v 2) .nil))))) <|
  .cons (.ret (.call "failing_in" (.cons (.v 0) (.cons (.v 1) (.cons (.v 2) .nil))))) <|
  .nil)
  mt := false
def gl_MOST_LOOKED : PV := (.int 16)
end L2.Ta
namespace L2.Tm
open PySem L2.Iv
def isInt : PV → Bool
  | .int _ => true
  | _ => false
def headOk (w : Str) (n : Nat) : Bool :=
  if w = ("then" : Str) then decide (2 ≤ n) else if w = ("on" : Str) ∨ w = ("back" : Str) then decide (n = 1) else decide (w = ("none" : Str)) && decide (n = 0)
def inner (k : Int) : PV → Option (List PV)
  | .int i => if 0 ≤ i ∧ i < k then some [] else none
  | .tup (.str w :: r) => if headOk w r.length = true then some r else none
  | _ => none
def okHead : List PV → Bool
  | .str w :: r => headOk w r.length
  | _ => false
mutual
def isTm (k : Int) : PV → Bool
  | .int i => decide (0 ≤ i ∧ i < k)
  | .tup xs => okHead xs && isTl k xs
  | .non => false
  | .bl _ => false
  | .str _ => false
  | .lsv _ => false
  | .loc _ => false
  | .exn .. => false
  | .dct .. => false
def isTl (k : Int) : List PV → Bool
  | [] => true
  | _ :: r => isTms k r
def isTms (k : Int) : List PV → Bool
  | [] => true
  | x :: r => isTm k x && isTms k r
end
theorem isTm_inner (k : Int) (v : PV) : isTm k v = match inner k v with
    | some xs => isTms k xs
    | none => false := by
  cases v with
  | int i =>
    by_cases h : 0 ≤ i ∧ i < k
    · simp [isTm, inner, h, isTms]
    · simp only [isTm, inner, if_neg h, decide_eq_false h]
  | tup xs =>
    match xs with
    | [] => rfl
    | .str w :: r =>
      cases h : headOk w r.length with
      | true => simp [isTm, inner, okHead, h, isTl]
      | false => simp [isTm, inner, okHead, h]
    | .int _ :: _ => rfl
    | .non :: _ => rfl
    | .bl _ :: _ => rfl
    | .tup _ :: _ => rfl
    | .lsv _ :: _ => rfl
    | .loc _ :: _ => rfl
    | .exn .. :: _ => rfl
    | .dct .. :: _ => rfl
  | _ => rfl
mutual
def wt : PV → Nat
  | .tup xs => 1 + wts xs
  | .lsv xs => 1 + wts xs
  | .non => 1
  | .bl _ => 1
  | .int _ => 1
  | .str _ => 1
  | .loc _ => 1
  | .exn .. => 1
  | .dct .. => 1
def wts : List PV → Nat
  | [] => 0
  | x :: xs => wt x + wts xs
end
theorem wts_app (a b : List PV) : wts (a ++ b) = wts a + wts b := by
  induction a with
  | nil => simp [wts]
  | cons x a ih => rw [List.cons_append, wts, wts, ih]; omega
theorem wt_pos (v : PV) : 1 ≤ wt v := by cases v <;> simp [wt]
theorem wts_len : ∀ xs : List PV, xs.length ≤ wts xs
  | [] => Nat.le_refl _
  | x :: xs => by
    have := wts_len xs
    have := wt_pos x
    rw [wts, List.length_cons]
    omega
theorem inner_wt {k : Int} {v : PV} {xs : List PV} (h : inner k v = some xs) : wts xs < wt v := by
  unfold inner at h
  split at h
  · split at h
    · cases h; simp [wt, wts]
    · cases h
  · split at h
    · cases h
      rw [wt, wts, wt]
      omega
    · cases h
  · cases h
theorem isTms_app (k : Int) (a b : List PV) : isTms k (a ++ b) = (isTms k a && isTms k b) := by
  induction a with
  | nil => simp [isTms]
  | cons x a ih => rw [List.cons_append, isTms, isTms, ih, Bool.and_assoc]
theorem inner_fit {k : Int} {v : PV} {xs : List PV} (h : inner k v = some xs) (n : Nat) (hf : fit (n + 1) v = true) : fits n xs = true := by
  unfold inner at h
  split at h
  · split at h
    · cases h; rfl
    · cases h
  · split at h
    · cases h
      rename_i w _
      have hf : (fit n (.str w) && fits n xs) = true := hf
      rw [Bool.and_eq_true] at hf
      exact hf.2
    · cases h
  · cases h
mutual
theorem fit_up : ∀ (v : PV) (n m : Nat), n ≤ m → fit n v = true → fit m v = true
  | .tup xs, 0, _, _, h => by cases h
  | .tup xs, n + 1, 0, hl, _ => by omega
  | .tup xs, n + 1, m + 1, hl, h => fits_up xs n m (by omega) h
  | .lsv xs, 0, _, _, h => by cases h
  | .lsv xs, n + 1, 0, hl, _ => by omega
  | .lsv xs, n + 1, m + 1, hl, h => fits_up xs n m (by omega) h
  | .non, n, m, _, h => by cases m <;> rfl
  | .bl _, n, m, _, h => by cases m <;> rfl
  | .int _, n, m, _, h => by cases m <;> rfl
  | .str s, n, m, _, h => by rw [fit_str] at h ⊢; exact h
  | .loc _, n, m, _, h => by cases n <;> cases h
  | .exn .., n, m, _, h => by cases n <;> cases h
  | .dct .., n, m, _, h => by cases n <;> cases h
theorem fits_up : ∀ (xs : List PV) (n m : Nat), n ≤ m → fits n xs = true → fits m xs = true
  | [], _, _, _, _ => rfl
  | x :: xs, n, m, hl, h => by
    have h : (fit n x && fits n xs) = true := h
    rw [Bool.and_eq_true] at h
    show (fit m x && fits m xs) = true
    rw [fit_up x n m hl h.1, fits_up xs n m hl h.2]; rfl
end
mutual
theorem data_free : ∀ v : PV, v.data = true → v.free = true
  | .tup xs, h => data_frees xs h
  | .lsv xs, h => data_frees xs h
  | .non, _ => rfl
  | .bl _, _ => rfl
  | .int _, _ => rfl
  | .str _, _ => rfl
  | .loc _, h => by cases h
  | .exn .., h => by cases h
  | .dct .., h => by cases h
theorem data_frees : ∀ xs : List PV, dataAll xs = true → freeAll xs = true
  | [], _ => rfl
  | x :: xs, h => by
    have h : (x.data && dataAll xs) = true := h
    rw [Bool.and_eq_true] at h
    show (x.free && freeAll xs) = true
    rw [data_free x h.1, data_frees xs h.2]; rfl
end
theorem fit_data {v : PV} {n : Nat} (h : fit n v = true) : v.data = true := (fit_ok v n h).1
theorem eqv_none {st : Store} {xs : List PV} {w : Str} (h : fits 63 (.str w :: xs) = true) : eqvV st (.tup (.str w :: xs)) (.tup [.str "none"]) = some (decide (w = ("none" : Str)) && xs.isEmpty) := by
  rw [eqv_fit (show fit 64 (.tup (.str w :: xs)) = true from h) (by show (fit 63 (.str "none") && true) = true; rw [fit_str, ok_none]; rfl)]
  show some (PyData.eqvAll (.str w :: toDs xs) [.str "none"]) = _
  rw [PyData.eqvAll]
  have e1 : PyData.eqv (.str w) (.str "none") = decide (w = ("none" : Str)) := by
    show (w == ("none" : Str)) = _
    by_cases h : w = ("none" : Str)
    · subst h; simp
    · rw [decide_eq_false h]
      simpa using h
  rw [e1]
  cases xs <;> rfl
mutual
theorem isTm_enc : ∀ (t : Tm) (k m : Nat), wf m t = true → m ≤ k → isTm k (enc t) = true
  | .l n, k, m, h, hk => by
    have h : n < m := by simpa [wf] using h
    show decide (0 ≤ (n : Int) ∧ (n : Int) < k) = true
    exact decide_eq_true ⟨by omega, by omega⟩
  | .no, k, m, h, hk => by show (headOk "none" 0 && true) = true; decide +kernel
  | .th ts, k, m, h, hk => by
    simp only [wf, Bool.and_eq_true, decide_eq_true_eq] at h
    show (headOk "then" (encs ts).length && isTms k (encs ts)) = true
    rw [isTms_encs ts k m h.2 hk, encs_map, List.length_map]
    have : headOk "then" ts.length = decide (2 ≤ ts.length) := if_pos rfl
    rw [this, decide_eq_true h.1]; rfl
  | .on t, k, m, h, hk => by
    show (headOk "on" 1 && (isTm k (enc t) && true)) = true
    rw [isTm_enc t k m h hk]; decide +kernel
  | .bk t, k, m, h, hk => by
    show (headOk "back" 1 && (isTm k (enc t) && true)) = true
    rw [isTm_enc t k m h hk]; decide +kernel
theorem isTms_encs : ∀ (ts : List Tm) (k m : Nat), wfs m ts = true → m ≤ k → isTms k (encs ts) = true
  | [], _, _, _, _ => rfl
  | t :: ts, k, m, h, hk => by
    simp only [wfs, Bool.and_eq_true] at h
    show (isTm k (enc t) && isTms k (encs ts)) = true
    rw [isTm_enc t k m h.1 hk, isTms_encs ts k m h.2 hk]; rfl
end
mutual
theorem wt_enc : ∀ t : Tm, wt (enc t) + 1 ≤ 4 * sg t
  | .l _ => by show 1 + 1 ≤ 4 * 1; decide
  | .no => by show 1 + (1 + 0) + 1 ≤ 4 * 1; decide
  | .th ts => by
    have := wts_encs ts
    show 1 + (1 + wts (encs ts)) + 1 ≤ 4 * sg (.th ts)
    rw [sg]; omega
  | .on t => by
    have := wt_enc t
    show 1 + (1 + (wt (enc t) + 0)) + 1 ≤ 4 * sg (.on t)
    rw [sg]; omega
  | .bk t => by
    have := wt_enc t
    show 1 + (1 + (wt (enc t) + 0)) + 1 ≤ 4 * sg (.bk t)
    rw [sg]; omega
theorem wts_encs : ∀ ts : List Tm, wts (encs ts) ≤ 4 * sgs ts
  | [] => Nat.le_refl _
  | t :: ts => by
    have := wt_enc t
    have := wts_encs ts
    show wt (enc t) + wts (encs ts) ≤ 4 * sgs (t :: ts)
    rw [sgs]; omega
end
end L2.Tm
namespace L2.P
open PySem L2.Iv
def f_is_integer : Fn where
  ps := ["value"]
  N := ["value"]
  body := (.cons (.ret (.ands (.cons (.isi (.v 0) "int") (.cons (.nt (.isi (.v 0) "bool")) .nil)))) <|
  .nil)
  mt := false
def f_is_between : Fn where
  ps := ["value", "low", "high"]
  N := ["value", "low", "high"]
  body := (.cons (.ret (.ands (.cons (.call "is_integer" (.cons (.v 0) .nil)) (.cons (.chn .le .le (.v 1) (.v 0) (.v 2)) .nil)))) <|
  .nil)
  mt := false
def f_inner_of : Fn where
  ps := ["k", "told"]
  N := ["k", "told"]
  body := (.cons (.iff (.call "is_integer" (.cons (.v 1) .nil)) (.cons (.ret (.ite (.chn .le .lt (.c (.int 0)) (.v 1) (.v 0)) (.tup .nil) (.c .non))) <|
    .nil) (.nil)) <|
  .cons (.iff (.ors (.cons (.nt (.isi (.v 1) "tuple")) (.cons (.cmp .eq (.bi .len true (.cons (.v 1) .nil)) (.c (.int 0))) (.cons (.nt (.isi (.ix (.v 1) (.c (.int 0))) "str")) .nil)))) (.cons (.ret (.c .non)) <|
    .nil) (.nil)) <|
  .cons (.iff (.cmp .eq (.ix (.v 1) (.c (.int 0))) (.c (.str "then"))) (.cons (.ret (.ite (.cmp .gt (.bi .len true (.cons (.v 1) .nil)) (.c (.int 2))) (.slF true (.v 1) (.c (.int 1))) (.c .non))) <|
    .nil) (.nil)) <|
  .cons (.iff (.cmp .isin (.ix (.v 1) (.c (.int 0))) (.g "POWERS")) (.cons (.ret (.ite (.cmp .eq (.bi .len true (.cons (.v 1) .nil)) (.c (.int 2))) (.slF true (.v 1) (.c (.int 1))) (.c .non))) <|
    .nil) (.nil)) <|
  .cons (.ret (.ite (.cmp .eq (.v 1) (.g "NONE")) (.tup .nil) (.c .non))) <|
  .nil)
  mt := false
def f_is_term_of : Fn where
  ps := ["k", "told"]
  N := ["k", "told", "waiting", "inner"]
  body := (.cons (.asg (.p (.n 2)) (.lst false (.cons (.v 1) .nil))) <|
  .cons (.wh (.cmp .gt (.bi .len true (.cons (.v 2) .nil)) (.c (.int 0))) (.cons (.asg (.p (.n 3)) (.call "inner_of" (.cons (.v 0) (.cons (.me .pop 2 .nil) .nil)))) <|
    .cons (.iff (.cmp .is (.v 3) (.c .non)) (.cons (.ret (.c (.bl false))) <|
      .nil) (.nil)) <|
    .cons (.expr (.me .extend 2 (.cons (.v 3) .nil))) <|
    .nil)) <|
  .cons (.ret (.c (.bl true))) <|
  .nil)
  mt := false
def f_check_term : Fn where
  ps := ["k", "term"]
  N := ["k", "term"]
  body := (.cons (.iff (.nt (.call "is_term_of" (.cons (.v 0) (.cons (.v 1) .nil)))) (.cons (.rs "InvalidTerm" (.v 1)) <|
    .nil) (.nil)) <|
  .nil)
  mt := false
def f_check_letters : Fn where
  ps := ["k"]
  N := ["k"]
  body := (.cons (.iff (.nt (.call "is_between" (.cons (.v 0) (.cons (.c (.int 1)) (.cons (.g "MOST_LETTERS") .nil))))) (.cons (.rs "InvalidNumber" (.v 0)) <|
    .nil) (.nil)) <|
  .nil)
  mt := false
def f_parts_in : Fn where
  ps := ["term"]
  N := ["term"]
  body := (.cons (.ret (.ite (.call "is_integer" (.cons (.v 0) .nil)) (.tup .nil) (.slF true (.v 0) (.c (.int 1))))) <|
  .nil)
  mt := false
def f_letters_in : Fn where
  ps := ["term"]
  N := ["term", "part", "letter"]
  body := (.cons (.iff (.call "is_integer" (.cons (.v 0) .nil)) (.cons (.ret (.lst true (.cons (.v 0) .nil))) <|
    .nil) (.nil)) <|
  .cons (.ret (.lc2 true [1, 2] (.n 1) (.val (.call "parts_in" (.cons (.v 0) .nil))) .nil [2] (.n 2) (.val (.call "letters_in" (.cons (.v 1) .nil))) .nil (.v 2))) <|
  .nil)
  mt := false
def gl_POWERS : PV := (.tup [(.str "on"), (.str "back")])
def gl_NONE : PV := (.tup [(.str "none")])
def gl_MOST_LETTERS : PV := (.int 4)
end L2.P
namespace L2.P
open PySem L2.Iv L2.Tm
@[simp] theorem ctx_gl (g : Sg) (cl : Str → Nat) (n : Nat) (x : Str) : (g.ctx cl n).gl x = g.gl.lookup x := rfl
@[simp] theorem ctx_ec (g : Sg) (cl : Str → Nat) (n : Nat) : (g.ctx cl n).ec = g.ecs := rfl
@[simp] theorem ctx_cl (g : Sg) (cl : Str → Nat) (n : Nat) : (g.ctx cl n).cl = cl := rfl
@[simp] theorem c_isN {st : Store} {v : PV} : cmpV .is st v .non = some (match v with | .non => true | _ => false) := by cases v <;> rfl
@[simp] theorem c_isnotN {st : Store} {v : PV} : cmpV .isnot st v .non = some (match v with | .non => false | _ => true) := by cases v <;> rfl
@[simp] theorem me_pop {st : Store} {k : Nat} : meV .pop st k [] = match st[k]? with
    | some xs => match xs[xs.length - 1]? with
      | some y => .ok y (st.set k xs.dropLast)
      | none => .bad
    | none => .bad := by
  cases h : st[k]? with
  | none => simp [meV, h]
  | some xs => simp only [meV, h] <;> (split <;> simp_all)
@[simp] theorem me_ext {st : Store} {k : Nat} {v : PV} : meV .extend st k [v] = match st[k]? with
    | some xs => match seqA st v with
      | some zs => if xs.length + zs.length ≤ sizeLine then .ok .non (st.set k (xs ++ zs)) else .bad
      | none => .bad
    | none => .bad := by
  cases h : st[k]? with
  | none => simp [meV, h]
  | some xs => simp only [meV, h] <;> (split <;> simp_all)
@[simp] theorem w_none_then : (("none" : Str) = ("then" : Str)) = False := eq_false (by decide +kernel)
@[simp] theorem b_none_then : (("none" : Str) == ("then" : Str)) = false := by decide +kernel
@[simp] theorem w_none_on : (("none" : Str) = ("on" : Str)) = False := eq_false (by decide +kernel)
@[simp] theorem b_none_on : (("none" : Str) == ("on" : Str)) = false := by decide +kernel
@[simp] theorem w_none_back : (("none" : Str) = ("back" : Str)) = False := eq_false (by decide +kernel)
@[simp] theorem b_none_back : (("none" : Str) == ("back" : Str)) = false := by decide +kernel
@[simp] theorem w_then_none : (("then" : Str) = ("none" : Str)) = False := eq_false (by decide +kernel)
@[simp] theorem b_then_none : (("then" : Str) == ("none" : Str)) = false := by decide +kernel
@[simp] theorem w_then_on : (("then" : Str) = ("on" : Str)) = False := eq_false (by decide +kernel)
@[simp] theorem b_then_on : (("then" : Str) == ("on" : Str)) = false := by decide +kernel
@[simp] theorem w_then_back : (("then" : Str) = ("back" : Str)) = False := eq_false (by decide +kernel)
@[simp] theorem b_then_back : (("then" : Str) == ("back" : Str)) = false := by decide +kernel
@[simp] theorem w_on_none : (("on" : Str) = ("none" : Str)) = False := eq_false (by decide +kernel)
@[simp] theorem b_on_none : (("on" : Str) == ("none" : Str)) = false := by decide +kernel
@[simp] theorem w_on_then : (("on" : Str) = ("then" : Str)) = False := eq_false (by decide +kernel)
@[simp] theorem b_on_then : (("on" : Str) == ("then" : Str)) = false := by decide +kernel
@[simp] theorem w_on_back : (("on" : Str) = ("back" : Str)) = False := eq_false (by decide +kernel)
@[simp] theorem b_on_back : (("on" : Str) == ("back" : Str)) = false := by decide +kernel
@[simp] theorem w_back_none : (("back" : Str) = ("none" : Str)) = False := eq_false (by decide +kernel)
@[simp] theorem b_back_none : (("back" : Str) == ("none" : Str)) = false := by decide +kernel
@[simp] theorem w_back_then : (("back" : Str) = ("then" : Str)) = False := eq_false (by decide +kernel)
@[simp] theorem b_back_then : (("back" : Str) == ("then" : Str)) = false := by decide +kernel
@[simp] theorem w_back_on : (("back" : Str) = ("on" : Str)) = False := eq_false (by decide +kernel)
@[simp] theorem b_back_on : (("back" : Str) == ("on" : Str)) = false := by decide +kernel
def At (g : Sg) (f : Str) (fn : Fn) : Prop := g.tb.lookup f = some fn
def Glb (g : Sg) (x : Str) (v : PV) : Prop := g.gl.lookup x = some v
@[simp] theorem sz_1 : (1 ≤ sizeLine) = True := eq_true (by decide)
@[simp] theorem sz_2 : (2 ≤ sizeLine) = True := eq_true (by decide)
@[simp] theorem sz_3 : (3 ≤ sizeLine) = True := eq_true (by decide)
@[simp] theorem sz_4 : (4 ≤ sizeLine) = True := eq_true (by decide)
@[simp] theorem sz_5 : (5 ≤ sizeLine) = True := eq_true (by decide)
@[simp] theorem sz_6 : (6 ≤ sizeLine) = True := eq_true (by decide)
@[simp] theorem sz_7 : (7 ≤ sizeLine) = True := eq_true (by decide)
@[simp] theorem sz_8 : (8 ≤ sizeLine) = True := eq_true (by decide)
@[simp] theorem sz_9 : (9 ≤ sizeLine) = True := eq_true (by decide)
@[simp] theorem sz_10 : (10 ≤ sizeLine) = True := eq_true (by decide)
@[simp] theorem sz_11 : (11 ≤ sizeLine) = True := eq_true (by decide)
@[simp] theorem sz_12 : (12 ≤ sizeLine) = True := eq_true (by decide)
@[simp] theorem sz_13 : (13 ≤ sizeLine) = True := eq_true (by decide)
@[simp] theorem sz_14 : (14 ≤ sizeLine) = True := eq_true (by decide)
@[simp] theorem sz_15 : (15 ≤ sizeLine) = True := eq_true (by decide)
@[simp] theorem sz_16 : (16 ≤ sizeLine) = True := eq_true (by decide)
@[simp] theorem sz_17 : (17 ≤ sizeLine) = True := eq_true (by decide)
@[simp] theorem sz_18 : (18 ≤ sizeLine) = True := eq_true (by decide)
@[simp] theorem sz_19 : (19 ≤ sizeLine) = True := eq_true (by decide)
@[simp] theorem sz_20 : (20 ≤ sizeLine) = True := eq_true (by decide)
@[simp] theorem sz_21 : (21 ≤ sizeLine) = True := eq_true (by decide)
@[simp] theorem sz_22 : (22 ≤ sizeLine) = True := eq_true (by decide)
@[simp] theorem sz_23 : (23 ≤ sizeLine) = True := eq_true (by decide)
@[simp] theorem sz_24 : (24 ≤ sizeLine) = True := eq_true (by decide)
@[simp] theorem sz_25 : (25 ≤ sizeLine) = True := eq_true (by decide)
@[simp] theorem sz_26 : (26 ≤ sizeLine) = True := eq_true (by decide)
@[simp] theorem sz_27 : (27 ≤ sizeLine) = True := eq_true (by decide)
@[simp] theorem sz_28 : (28 ≤ sizeLine) = True := eq_true (by decide)
@[simp] theorem sz_29 : (29 ≤ sizeLine) = True := eq_true (by decide)
@[simp] theorem sz_30 : (30 ≤ sizeLine) = True := eq_true (by decide)
section
variable {g : Sg} {cl : Str → Nat} {n : Nat} {st : Store} {v : PV}
theorem e_is_integer (h : At g "is_integer" f_is_integer) (hv : v.data = true) : (g.ctx cl (n + 1)).fn "is_integer" [v] st = .ok (.bl (isInt v)) st := by
  refine fn_eq h rfl rfl (by simp [freeAll, data_free v hv]) ?_
  cases v <;> first | (cases hv; done) | simp [f_is_integer, env0, wp_ss, isInt]
def btw (lo hi : Int) : PV → Bool
  | .int i => decide (lo ≤ i ∧ i ≤ hi)
  | _ => false
theorem e_is_between (h : At g "is_between" f_is_between) (h1 : At g "is_integer" f_is_integer) (hv : v.data = true) {lo hi : Int} :
    (g.ctx cl (n + 2)).fn "is_between" [v, .int lo, .int hi] st = .ok (.bl (btw lo hi v)) st := by
  refine fn_eq h rfl rfl (by simp [freeAll, data_free v hv, PV.free]) ?_
  have ei := e_is_integer (cl := cl) (n := n) (st := []) h1 hv
  cases v <;> first | (cases hv; done) | skip
  case int i =>
    by_cases h0 : lo ≤ i
    · simp [f_is_between, env0, wp_ss, ei, isInt, h0, btw]
    · simp [f_is_between, env0, wp_ss, ei, isInt, h0, btw]
  all_goals simp [f_is_between, env0, wp_ss, ei, isInt, btw]
@[simp] theorem len_ne {α : Type} (l : List α) : ((l.length : Int) + 1 == 0) = false := by simp; omega
@[simp] theorem len_ne2 {α : Type} (l : List α) : ((l.length : Int) + 1 + 1 == 0) = false := by simp; omega
@[simp] theorem frz_t0 (m : Nat) (s : Store) : frz m s 64 (.tup []) = some (.tup []) := frz_free rfl
theorem headOk_then (r : List PV) : headOk "then" r.length = decide (2 ≤ r.length) := if_pos rfl
theorem headOk_pow {w : Str} (h1 : ¬ w = ("then" : Str)) (h2 : w = ("on" : Str) ∨ w = ("back" : Str)) (r : List PV) : headOk w r.length = decide (r.length = 1) := by
  unfold headOk
  rw [if_neg h1, if_pos h2]
theorem headOk_oth {w : Str} (h1 : ¬ w = ("then" : Str)) (h2 : ¬ (w = ("on" : Str) ∨ w = ("back" : Str))) (r : List PV) : headOk w r.length = (decide (w = ("none" : Str)) && r.isEmpty) := by
  unfold headOk
  rw [if_neg h1, if_neg h2]
  cases r <;> rfl
theorem pow_in {w : Str} : inP (.str w) [.str "on", .str "back"] = decide (w = ("on" : Str) ∨ w = ("back" : Str)) := by
  unfold inP
  simp only [List.any_cons, List.any_nil, Bool.or_false, toV]
  have e : ∀ x : Str, eqV (.str x) (.str w) = decide (w = x) := fun x => by
    show (x == w) = _
    by_cases h : w = x
    · subst h; simp
    · rw [decide_eq_false h]
      simpa using fun z => h z.symm
  rw [e, e]
  by_cases h1 : w = ("on" : Str)
  · simp [h1]
  · simp [h1]
theorem e_inner_of (h : At g "inner_of" f_inner_of) (h1 : At g "is_integer" f_is_integer) (h2 : Glb g "POWERS" gl_POWERS) (h3 : Glb g "NONE" gl_NONE) {k : Int} (hv : fit 64 v = true) (hl : wt v ≤ sizeLine) :
    (g.ctx cl (n + 2)).fn "inner_of" [.int k, v] st = .ok (match inner k v with | some xs => .tup xs | none => .non) st := by
  have hd := fit_data hv
  have h2 : List.lookup ("POWERS" : Str) g.gl = some gl_POWERS := h2
  have h3 : List.lookup ("NONE" : Str) g.gl = some gl_NONE := h3
  refine fn_eq h rfl rfl (by simp [freeAll, data_free v hd, PV.free]) ?_
  have ei := e_is_integer (cl := cl) (n := n) (st := []) h1 hd
  cases v <;> first | (cases hd; done) | skip
  case int i =>
    by_cases h0 : 0 ≤ i
    · by_cases h4 : i < k
      · simp [f_inner_of, env0, wp_ss, ei, isInt, h0, h4, inner, freeAll, frz_free, PV.free]
      · simp [f_inner_of, env0, wp_ss, ei, isInt, h0, h4, inner]
    · simp [f_inner_of, env0, wp_ss, ei, isInt, h0, inner]
  case tup xs =>
    match xs, hv, hl, ei with
    | [], hv, hl, ei => simp [f_inner_of, env0, wp_ss, ei, isInt, inner]
    | .str w :: r, hv, hl, ei =>
      have hf : fits 63 (.str w :: r) = true := hv
      have hr : fits 63 r = true := by
        have hf : (fit 63 (.str w) && fits 63 r) = true := hf
        rw [Bool.and_eq_true] at hf
        exact hf.2
      have fr : freeAll r = true := data_frees r (fits_ok r 63 hr).1
      have fz : frz 0 [] 64 (.tup r) = some (.tup r) := frz_free fr
      have hn : ((r.length : Int) + 1 == 0) = false := len_ne r
      by_cases w1 : w = ("then" : Str)
      · subst w1
        by_cases l2 : 2 ≤ r.length
        · have l3 : (2 : Int) < (r.length : Int) + 1 := by omega
          simp [f_inner_of, env0, wp_ss, ei, isInt, inner, headOk_then, l2, l3, fz, hn]
        · have l3 : ¬ (2 : Int) < (r.length : Int) + 1 := by omega
          simp [f_inner_of, env0, wp_ss, ei, isInt, inner, headOk_then, l2, l3, hn]
      · have b1 : (w == ("then" : Str)) = false := by simpa using w1
        by_cases w2 : w = ("on" : Str) ∨ w = ("back" : Str)
        · have ho := headOk_pow w1 w2 r
          by_cases l2 : r.length = 1
          · rw [l2] at ho
            simp [f_inner_of, env0, wp_ss, ei, isInt, inner, ho, l2, b1, h2, gl_POWERS, cmpV, pow_in, w2, flatP, fz]
          · have l3 : ((r.length : Int) + 1 == 2) = false := by simp; omega
            simp [f_inner_of, env0, wp_ss, ei, isInt, inner, headOk_pow w1 w2, l2, l3, b1, h2, gl_POWERS, cmpV, pow_in, w2, flatP, hn]
        · have en := eqv_none (st := []) hf
          have ho := headOk_oth w1 w2 r
          by_cases w3 : w = ("none" : Str)
          · subst w3
            rw [decide_eq_true rfl, Bool.true_and] at ho en
            cases r with
            | nil =>
              simp only [List.length_nil, List.isEmpty_nil] at ho en
              simp [f_inner_of, env0, wp_ss, ei, isInt, inner, ho, b1, h2, h3, gl_POWERS, gl_NONE, cmpV, pow_in, w2, flatP, hn, en]
            | cons x r =>
              simp only [List.isEmpty_cons, List.length_cons] at ho en
              simp [f_inner_of, env0, wp_ss, ei, isInt, inner, ho, b1, h2, h3, gl_POWERS, gl_NONE, cmpV, pow_in, w2, flatP, hn, en]
          · simp [f_inner_of, env0, wp_ss, ei, isInt, inner, ho, b1, h2, h3, gl_POWERS, gl_NONE, cmpV, pow_in, w2, flatP, hn, en, w3]
    | .int _ :: _, hv, hl, ei => simp [f_inner_of, env0, wp_ss, ei, isInt, inner]
    | .non :: _, hv, hl, ei => simp [f_inner_of, env0, wp_ss, ei, isInt, inner]
    | .bl _ :: _, hv, hl, ei => simp [f_inner_of, env0, wp_ss, ei, isInt, inner]
    | .tup _ :: _, hv, hl, ei => simp [f_inner_of, env0, wp_ss, ei, isInt, inner]
    | .lsv _ :: _, hv, hl, ei => simp [f_inner_of, env0, wp_ss, ei, isInt, inner]
  all_goals simp [f_inner_of, env0, wp_ss, ei, isInt, inner]
theorem last_split (x : PV) (ws : List PV) : ∃ l y, x :: ws = l ++ [y] := ⟨(x :: ws).dropLast, (x :: ws).getLast (by simp), (List.dropLast_concat_getLast (by simp)).symm⟩
theorem e_is_term_of (h : At g "is_term_of" f_is_term_of) (h0 : At g "inner_of" f_inner_of) (h1 : At g "is_integer" f_is_integer) (h2 : Glb g "POWERS" gl_POWERS) (h3 : Glb g "NONE" gl_NONE) {k : Int} (hv : fit 64 v = true) (hl : wt v ≤ 1000000) :
    (g.ctx cl (n + 3)).fn "is_term_of" [.int k, v] st = .ok (.bl (isTm k v)) st := by
  have hd := fit_data hv
  refine fn_eq h rfl rfl (by simp [freeAll, data_free v hd, PV.free]) ?_
  simp only [f_is_term_of, env0]
  rw [wp_ss]
  simp
  rw [wp_ss, r_swh]
  have big : 1000000 ≤ sizeLine := by decide
  obtain ⟨I, hI⟩ : ∃ I : Nat → Iv.Env → Store → Prop, I = fun m env st' => ∃ ws u, env = [some (.int k), some v, some (.loc 0), u] ∧ st' = [ws] ∧ wts ws = m ∧ isTms k ws = isTm k v ∧ fits 64 ws = true ∧ m ≤ 1000000 := ⟨_, rfl⟩
  refine wp_while I ?_ wfuel (wt v) _ _ (by show wt v < 1000000000; omega) (by rw [hI]; exact ⟨[v], none, rfl, rfl, by simp [wts], by simp [isTms], by show (fit 64 v && true) = true; rw [hv]; rfl, hl⟩)
  intro m env st' hh
  rw [hI] at hh
  obtain ⟨ws, u, rfl, rfl, hm, ht, hf, hb⟩ := hh
  cases ws with
  | nil =>
    have ht : isTm k v = true := ht.symm
    simp
    rw [wp_ss]
    simp [ht]
  | cons x ws =>
    obtain ⟨l, y, e⟩ := last_split x ws
    rw [e] at hm ht hf ⊢
    have hy : fit 64 y = true := by
      rw [fits_all, List.all_append, Bool.and_eq_true] at hf
      have := hf.2
      simpa using this
    have hfl : fits 64 l = true := by
      rw [fits_all, List.all_append, Bool.and_eq_true] at hf
      rw [fits_all]; exact hf.1
    rw [wts_app] at hm
    have hwy : wts [y] = wt y := by simp [wts]
    rw [hwy] at hm
    have hpos := wt_pos y
    have ei := fun st => e_inner_of (cl := cl) (n := n) (st := st) (k := k) h0 h1 h2 h3 hy (by omega : wt y ≤ sizeLine)
    rw [isTms_app] at ht
    have hiy : isTms k [y] = isTm k y := by simp [isTms]
    rw [hiy, isTm_inner k y] at ht
    have hlen := wts_len l
    simp
    rw [wp_ss]
    simp [ei]
    rw [wp_ss]
    cases hin : inner k y with
    | none =>
      rw [hin] at ht
      simp [wp_ss]
      simpa using ht
    | some zs =>
      rw [hin] at ht
      have hz := inner_wt hin
      have hzl := wts_len zs
      simp
      rw [wp_ss]
      simp
      refine ⟨by omega, ?_⟩
      rw [hI]
      refine ⟨wts (l ++ zs), by rw [wts_app]; omega, l ++ zs, _, rfl, rfl, rfl, by rw [isTms_app]; exact ht, ?_, by rw [wts_app]; omega⟩
      rw [fits_all, List.all_append, Bool.and_eq_true]
      rw [fits_all] at hfl
      refine ⟨hfl, ?_⟩
      have := inner_fit hin 63 hy
      rw [← fits_all]
      exact fits_up zs 63 64 (by omega) this
end
end L2.P
namespace L2.P
open PySem L2.Iv L2.Tm
structure HasTm (g : Sg) : Prop where
  i1 : At g "is_integer" f_is_integer
  i2 : At g "inner_of" f_inner_of
  i3 : At g "is_term_of" f_is_term_of
  gP : Glb g "POWERS" gl_POWERS
  gN : Glb g "NONE" gl_NONE
def Ec (g : Sg) (c : Str) : Prop := (g.ecs.lookup c).isSome = true
section
variable {g : Sg} {cl : Str → Nat} {n : Nat} {st : Store} {v : PV}
theorem e_check_term (h : At g "check_term" f_check_term) (T : HasTm g) (he : Ec g "InvalidTerm") {k : Int} (hv : fit 64 v = true) (hl : wt v ≤ 1000000) :
    (g.ctx cl (n + 4)).fn "check_term" [.int k, v] st = if isTm k v = true then .ok .non st else .exc "InvalidTerm" v st := by
  have hd := fit_data hv
  have fr : freeAll [.int k, v] = true := by simp [freeAll, data_free v hd, PV.free]
  have ei := fun st => e_is_term_of (cl := cl) (n := n) (st := st) (k := k) T.i3 T.i2 T.i1 T.gP T.gN hv hl
  have he : (g.ecs.lookup ("InvalidTerm" : Str)).isSome = true := he
  by_cases ht : isTm k v = true
  · rw [if_pos ht]
    refine fn_eq h rfl rfl fr ?_
    simp [f_check_term, env0, wp_ss, ei, ht]
  · rw [if_neg ht]
    refine fn_exc h rfl fr ?_
    have ht : isTm k v = false := by simpa using ht
    simp [f_check_term, env0, wp_ss, ei, ht, he, frz_free (data_free v hd)]
theorem e_check_letters (h : At g "check_letters" f_check_letters) (h1 : At g "is_between" f_is_between) (h2 : At g "is_integer" f_is_integer) (hM : Glb g "MOST_LETTERS" gl_MOST_LETTERS) (he : Ec g "InvalidNumber") (hd : v.data = true) :
    (g.ctx cl (n + 3)).fn "check_letters" [v] st = if btw 1 4 v = true then .ok .non st else .exc "InvalidNumber" v st := by
  have fr : freeAll [v] = true := by simp [freeAll, data_free v hd]
  have ei := fun st => e_is_between (cl := cl) (n := n) (st := st) (lo := 1) (hi := 4) h1 h2 hd
  have he : (g.ecs.lookup ("InvalidNumber" : Str)).isSome = true := he
  have hM : g.gl.lookup ("MOST_LETTERS" : Str) = some (.int 4) := hM
  by_cases ht : btw 1 4 v = true
  · rw [if_pos ht]
    refine fn_eq h rfl rfl fr ?_
    simp [f_check_letters, env0, wp_ss, ei, hM, ht]
  · rw [if_neg ht]
    refine fn_exc h rfl fr ?_
    have ht : btw 1 4 v = false := by simpa using ht
    simp only [f_check_letters, env0]
    simp [wp_ss, ei, hM, ht, he, frz_free (data_free v hd)]
def prts : Tm → List Tm
  | .l _ => []
  | .no => []
  | .th ts => ts
  | .on t => [t]
  | .bk t => [t]
theorem e_parts_in (h : At g "parts_in" f_parts_in) (h1 : At g "is_integer" f_is_integer) (t : Tm) (hd : dep t ≤ 64) : (g.ctx cl (n + 2)).fn "parts_in" [enc t] st = .ok (.tup (encs (prts t))) st := by
  have hf := fit_data (fit_enc t 64 hd)
  refine fn_eq h rfl rfl (by simp [freeAll, data_free _ hf]) ?_
  have ei := fun st => e_is_integer (cl := cl) (n := n) (st := st) h1 hf
  cases t with
  | th ts =>
    have fz : frz 0 [] 64 (.tup (encs ts)) = some (.tup (encs ts)) := frz_free (free_encs ts)
    simp only [enc] at ei ⊢
    simp [f_parts_in, env0, wp_ss, ei, isInt, prts, fz]
  | on t =>
    have fz : frz 0 [] 64 (.tup [enc t]) = some (.tup [enc t]) := frz_free (by show freeAll [enc t] = true; simp [freeAll, free_enc])
    simp only [enc] at ei ⊢
    simp [f_parts_in, env0, wp_ss, ei, isInt, prts, encs, fz]
  | bk t =>
    have fz : frz 0 [] 64 (.tup [enc t]) = some (.tup [enc t]) := frz_free (by show freeAll [enc t] = true; simp [freeAll, free_enc])
    simp only [enc] at ei ⊢
    simp [f_parts_in, env0, wp_ss, ei, isInt, prts, encs, fz]
  | _ =>
    simp only [enc] at ei ⊢
    simp [f_parts_in, env0, wp_ss, ei, isInt, prts, encs]
theorem prts_dep {t u : Tm} (h : u ∈ prts t) : dep u < dep t := by
  cases t with
  | th ts => have : dep u ≤ deps ts := mem_dep h; rw [dep]; omega
  | on t => simp only [prts, List.mem_singleton] at h; subst h; rw [dep]; omega
  | bk t => simp only [prts, List.mem_singleton] at h; subst h; rw [dep]; omega
  | _ => cases h
theorem sg_prts (t : Tm) : sg t = 1 + sgs (prts t) := by cases t <;> simp [sg, sgs, prts]
theorem sgs_prts (t : Tm) : sgs (prts t) < sg t := by rw [sg_prts t]; omega
theorem prts_sg {t u : Tm} (h : u ∈ prts t) : sg u < sg t := by have := mem_sg h; have := sgs_prts t; omega
end
end L2.P
namespace L2.P
open PySem L2.Iv L2.Tm
structure HasDoor (g : Sg) : Prop where
  T : HasTm g
  ck : At g "check_term" f_check_term
  gM : Glb g "MOST_LETTERS" gl_MOST_LETTERS
  ec : Ec g "InvalidTerm"
section
variable {g : Sg} {cl : Str → Nat} {n : Nat} {st : Store} {v : PV}
end
end L2.P
namespace L2.Tm
open PySem L2.Iv
mutual
def hp : Tm → Bool
  | .l _ => true
  | .no => false
  | .th ts => hps ts
  | .on t => hp t
  | .bk t => hp t
def hps : List Tm → Bool
  | [] => false
  | t :: ts => hp t || hps ts
end
mutual
def fin : Tm → Bool
  | .l _ => true
  | .no => true
  | .th ts => fins ts
  | .on t => !hp t
  | .bk t => !hp t
def fins : List Tm → Bool
  | [] => true
  | t :: ts => fin t && fins ts
end
mutual
def word : Tm → List Nat
  | .l n => [n]
  | .no => []
  | .th ts => words ts
  | .on _ => []
  | .bk _ => []
def words : List Tm → List Nat
  | [] => []
  | t :: ts => word t ++ words ts
end
mutual
def turn : Tm → Tm
  | .l n => .l n
  | .no => .no
  | .th ts => .th (turns ts)
  | .on t => .bk (turn t)
  | .bk t => .on (turn t)
def turns : List Tm → List Tm
  | [] => []
  | t :: ts => turns ts ++ [turn t]
end
end L2.Tm
namespace L2.P
open PySem L2.Iv L2.Tm
section
variable {g : Sg} {cl : Str → Nat}
end
end L2.P
namespace L2.Tm
open PySem L2.Iv
end L2.Tm
namespace L2.P
open PySem L2.Iv L2.Tm
def lvs (l : List Nat) : List PV := l.map fun n : Nat => PV.int (n : Int)
theorem lvs_free (l : List Nat) : freeAll (lvs l) = true := by
  rw [freeAll_all, List.all_eq_true]
  intro x hx
  obtain ⟨i, _, rfl⟩ := List.mem_map.mp hx
  rfl
theorem r_lc2' {C : Iv.Ctx} {env : Iv.Env} {st : Store} (fr : Bool) (own : List Nat) (p : Pt) (it : Ix) (cs : Exs) (vs2 : List Nat) (p2 : Pt) (it2 : Ix) (cs2 : Exs) (e : Ex) : evE C (.lc2 fr own p it cs vs2 p2 it2 cs2 e) env st = (evIx C it env st).bind fun xw st1 => (compF xw.2 (fun x st => match asgP p x (wipeE env own) with
      | some env1 => (evTests C cs env1 st).quiet.bind fun b st1 => if b = true then (evIx C it2 env1 st1).quiet.bind fun xw2 st2 => compF xw2.2 (fun x2 st => match asgP p2 x2 (wipeE env1 vs2) with
          | some env2 => (evTests C cs2 env2 st).quiet.bind fun b st1 => if b = true then (evE C e env2 st1).quiet.bind fun y st2 => .ok [y] st2 else .ok [] st1
          | none => .bad) xw2.1 [] st2 else .ok [] st1
      | none => .bad) xw.1 [] st1).bind fun ys st2 => newL fr ys st2 := by
  first | rfl | (simp only [evE]; done) | (rw [evE]; all_goals (intro z; cases z))
section
variable {g : Sg} {cl : Str → Nat}
end
end L2.P
namespace L2.P
open PySem L2.Iv L2.Tm
section
variable {g : Sg} {cl : Str → Nat}
theorem at_end (ts : List PV) (h : ts ≠ []) : L2.atI ts (-1) = ts.getLast? := by
  obtain ⟨l, y, e⟩ : ∃ l y, ts = l ++ [y] := ⟨ts.dropLast, ts.getLast h, (List.dropLast_concat_getLast h).symm⟩
  subst e
  unfold L2.atI L2.ixN
  rw [if_neg (by decide), if_pos (by rw [List.length_append, List.length_singleton]; omega)]
  show (l ++ [y])[(((l ++ [y]).length : Int) + -1).toNat]? = _
  rw [List.length_append, show (((l.length + [y].length : Nat) : Int) + -1).toNat = l.length by simp only [List.length_singleton]; omega]
  simp
end
end L2.P
namespace L2.P
open PySem L2.Iv
open L2.Tm hiding lets
mutual
theorem lets_len : ∀ t : Tm, (L2.Tm.lets t).length ≤ sg t
  | .l n => by rw [L2.Tm.lets, sg]; exact Nat.le_refl _
  | .no => Nat.zero_le _
  | .th ts => by have := letss_len ts; rw [L2.Tm.lets, sg]; omega
  | .on t => by have := lets_len t; rw [L2.Tm.lets, sg]; omega
  | .bk t => by have := lets_len t; rw [L2.Tm.lets, sg]; omega
theorem letss_len : ∀ ts : List Tm, (letss ts).length ≤ sgs ts
  | [] => Nat.zero_le _
  | t :: ts => by have := lets_len t; have := letss_len ts; rw [letss, sgs, List.length_append]; omega
end
theorem letss_flat : ∀ ts : List Tm, letss ts = ts.flatMap L2.Tm.lets
  | [] => rfl
  | t :: ts => by rw [letss, List.flatMap_cons, letss_flat ts]
mutual
theorem lets_wf : ∀ (t : Tm) (k : Nat), wf k t = true → ∀ n ∈ L2.Tm.lets t, n < k
  | .l m, k, h, n, hn => by
    rw [L2.Tm.lets, List.mem_singleton] at hn
    subst hn
    exact of_decide_eq_true h
  | .no, _, _, n, hn => by cases hn
  | .th ts, k, h, n, hn => by
    simp only [wf, Bool.and_eq_true] at h
    exact letss_wf ts k h.2 n hn
  | .on t, k, h, n, hn => lets_wf t k h n hn
  | .bk t, k, h, n, hn => lets_wf t k h n hn
theorem letss_wf : ∀ (ts : List Tm) (k : Nat), wfs k ts = true → ∀ n ∈ letss ts, n < k
  | [], _, _, n, hn => by cases hn
  | t :: ts, k, h, n, hn => by
    rw [wfs, Bool.and_eq_true] at h
    rw [letss] at hn
    rcases List.mem_append.mp hn with hn | hn
    · exact lets_wf t k h.1 n hn
    · exact letss_wf ts k h.2 n hn
end
section
variable {g : Sg} {cl : Str → Nat} {n : Nat} {st : Store}
theorem e_letters_in (h : At g "letters_in" f_letters_in) (h0 : At g "parts_in" f_parts_in) (h1 : At g "is_integer" f_is_integer) : ∀ (n : Nat) (t : Tm), dep t ≤ n → dep t ≤ 64 → sg t ≤ sizeLine →
    ∀ st, (g.ctx cl (n + 3)).fn "letters_in" [enc t] st = .ok (.lsv (lvs (L2.Tm.lets t))) st := by
  have fz : ∀ (z : Store) (l : List Nat), frz 0 z 64 (.lsv (lvs l)) = some (.lsv (lvs l)) := fun z l => frz_free (lvs_free l)
  have one : (1 : Nat) ≤ sizeLine := by decide
  have fz0 : ∀ z : Store, frz 0 z 64 (.lsv []) = some (.lsv []) := fun z => rfl
  intro n
  induction n with
  | zero =>
    intro t hd hd2 hl st
    refine fn_eq h rfl rfl (by simp [freeAll, free_enc]) ?_
    have ei := fun st => e_is_integer (cl := cl) (n := 1) (st := st) h1 (fit_data (fit_enc t 64 hd2))
    cases t <;> simp [dep] at hd
    rename_i m
    have f := fz [] [m]
    simp only [lvs, List.map_cons, List.map_nil] at f
    simp only [enc] at ei ⊢
    simp [f_letters_in, env0, wp_ss, ei, isInt, L2.Tm.lets, lvs, f, one]
  | succ n ih =>
    intro t hd hd2 hl st
    refine fn_eq h rfl rfl (by simp [freeAll, free_enc]) ?_
    have ei := fun st => e_is_integer (cl := cl) (n := n + 2) (st := st) h1 (fit_data (fit_enc t 64 hd2))
    have ep := fun st => e_parts_in (cl := cl) (n := n + 1) (st := st) h0 h1 t hd2
    have each : ∀ x ∈ prts t, ∀ st, (g.ctx cl (n + 3)).fn "letters_in" [enc x] st = .ok (.lsv (lvs (L2.Tm.lets x))) st := fun x hx => by
      have h2 := prts_dep hx
      have h3 := prts_sg hx
      exact ih x (by omega) (by omega) (by omega)
    have inner : ∀ (x : Tm), x ∈ prts t → ∀ z, compF [] (fun x st => Out.ok [x] st) (lvs (L2.Tm.lets x)) [] z = .ok (lvs (L2.Tm.lets x)) z := fun x hx z => by
      have h3 := prts_sg hx
      have h4 := lets_len x
      exact comp_map (g := fun n : Nat => PV.int (n : Int)) (fun n : Nat => PV.int (n : Int)) (L2.Tm.lets x) (by simp) (fun y _ => rfl) (by omega)
    cases t with
    | l m =>
      have f := fz [] [m]
      simp only [lvs, List.map_cons, List.map_nil] at f
      simp only [enc] at ei ⊢
      simp [f_letters_in, env0, wp_ss, ei, isInt, L2.Tm.lets, lvs, f, one]
    | no =>
      simp only [enc] at ei ep ⊢
      simp [f_letters_in, env0, wp_ss, ei, isInt, ep, prts, encs, compF, L2.Tm.lets, lvs, r_lc2', fz0]
    | on u =>
      have e := each u (by simp [prts])
      have i := inner u (by simp [prts])
      have h4 := lets_len u
      rw [sg] at hl
      have ll : (lvs (L2.Tm.lets u)).length ≤ sizeLine := by rw [lvs, List.length_map]; omega
      simp only [enc, prts, encs] at ei ep ⊢
      simp [f_letters_in, env0, wp_ss, ei, isInt, ep, r_lc2']
      have cm : ∀ (f : PV → Store → Out (List PV)), (∀ x ∈ [u], f (enc x) [] = .ok (lvs (L2.Tm.lets x)) []) → compF [] f [enc u] [] [] = .ok (lvs (L2.Tm.lets u)) [] := fun f hf => by
        have := comp_eq (g := enc) (w := []) (f := f) (st := []) (out := fun t => lvs (L2.Tm.lets t)) (by simp) [u] [] hf (by simpa using ll)
        simpa using this
      rw [cm _ (fun x hx => by
        rw [List.mem_singleton] at hx
        subst hx
        simp [e, i])]
      simp [L2.Tm.lets, fz]
    | bk u =>
      have e := each u (by simp [prts])
      have i := inner u (by simp [prts])
      have h4 := lets_len u
      rw [sg] at hl
      have ll : (lvs (L2.Tm.lets u)).length ≤ sizeLine := by rw [lvs, List.length_map]; omega
      simp only [enc, prts, encs] at ei ep ⊢
      simp [f_letters_in, env0, wp_ss, ei, isInt, ep, r_lc2']
      have cm : ∀ (f : PV → Store → Out (List PV)), (∀ x ∈ [u], f (enc x) [] = .ok (lvs (L2.Tm.lets x)) []) → compF [] f [enc u] [] [] = .ok (lvs (L2.Tm.lets u)) [] := fun f hf => by
        have := comp_eq (g := enc) (w := []) (f := f) (st := []) (out := fun t => lvs (L2.Tm.lets t)) (by simp) [u] [] hf (by simpa using ll)
        simpa using this
      rw [cm _ (fun x hx => by
        rw [List.mem_singleton] at hx
        subst hx
        simp [e, i])]
      simp [L2.Tm.lets, fz]
    | th ts =>
      rw [sg] at hl
      have wl := letss_len ts
      have fm : (ts.flatMap fun t => lvs (L2.Tm.lets t)) = lvs (letss ts) := by
        rw [letss_flat, lvs, List.map_flatMap]; rfl
      simp only [enc, encs_map, prts] at ei ep ⊢
      simp [f_letters_in, env0, wp_ss, ei, isInt, ep, r_lc2']
      rw [comp_eq (g := enc) (out := fun t => lvs (L2.Tm.lets t)) (by simp) ts [] (fun x hx => by
        have e := each x (by simpa [prts] using hx)
        have i := inner x (by simpa [prts] using hx)
        simp [e, i]) (by rw [fm, List.length_nil, lvs, List.length_map]; omega)]
      simp [fm, L2.Tm.lets, fz]
end
end L2.P
namespace L2.P
open PySem L2.Iv
def f_is_natural : Fn where
  ps := ["value"]
  N := ["value"]
  body := (.cons (.ret (.ands (.cons (.call "is_integer" (.cons (.v 0) .nil)) (.cons (.cmp .ge (.v 0) (.c (.int 0))) .nil)))) <|
  .nil)
  mt := false
end L2.P
namespace L2.P
open PySem L2.Iv L2.Tm
def nat? : PV → Option Nat
  | .int i => if 0 ≤ i then some i.toNat else none
  | _ => none
section
variable {g : Sg} {cl : Str → Nat} {n : Nat} {st : Store} {v : PV}
theorem e_is_natural (h : At g "is_natural" f_is_natural) (h1 : At g "is_integer" f_is_integer) (hv : v.data = true) : (g.ctx cl (n + 2)).fn "is_natural" [v] st = .ok (.bl (nat? v).isSome) st := by
  have ei := fun st => e_is_integer (cl := cl) (n := n) (st := st) h1 hv
  refine fn_eq h rfl rfl (by simp [freeAll, data_free v hv]) ?_
  cases v <;> first | (cases hv; done) | skip
  case int i =>
    by_cases h0 : 0 ≤ i
    · simp [f_is_natural, env0, wp_ss, ei, isInt, nat?, h0]
    · simp [f_is_natural, env0, wp_ss, ei, isInt, nat?, h0]
  all_goals simp [f_is_natural, env0, wp_ss, ei, isInt, nat?]
end
end L2.P
namespace L2.St
open PySem L2.Iv
def f_is_unknown : Fn where
  ps := ["many", "told"]
  N := ["many", "told"]
  body := (.cons (.ret (.ands (.cons (.isi (.v 1) "tuple") (.cons (.cmp .eq (.bi .len true (.cons (.v 1) .nil)) (.c (.int 2))) (.cons (.call "is_row_word" (.cons (.ix (.v 1) (.c (.int 0))) .nil)) (.cons (.call "is_between" (.cons (.ix (.v 1) (.c (.int 1))) (.cons (.c (.int 0)) (.cons (.bin .sub true (.v 0) (.c (.int 1))) .nil)))) .nil)))))) <|
  .nil)
  mt := false
def f_is_row_word : Fn where
  ps := ["told"]
  N := ["told"]
  body := (.cons (.ret (.ands (.cons (.isi (.v 0) "str") (.cons (.cmp .eq (.v 0) (.g "ROW")) .nil)))) <|
  .nil)
  mt := false
def f_is_system_word : Fn where
  ps := ["k", "many", "told"]
  N := ["k", "many", "told", "part"]
  body := (.cons (.iff (.nt (.isi (.v 2) "tuple")) (.cons (.ret (.c (.bl false))) <|
    .nil) (.nil)) <|
  .cons (.ret (.bi .all true (.cons (.lc true [3] (.n 3) (.val (.v 2)) .nil (.ors (.cons (.call "is_between" (.cons (.v 3) (.cons (.c (.int 0)) (.cons (.bin .sub true (.v 0) (.c (.int 1))) .nil)))) (.cons (.call "is_unknown" (.cons (.v 1) (.cons (.v 3) .nil))) .nil)))) .nil))) <|
  .nil)
  mt := false
def f_is_system_of : Fn where
  ps := ["k", "told"]
  N := ["k", "told", "word"]
  body := (.cons (.iff (.ors (.cons (.nt (.isi (.v 1) "tuple")) (.cons (.cmp .eq (.bi .len true (.cons (.v 1) .nil)) (.c (.int 0))) .nil))) (.cons (.ret (.c (.bl false))) <|
    .nil) (.nil)) <|
  .cons (.ret (.bi .all true (.cons (.lc true [2] (.n 2) (.val (.v 1)) .nil (.call "is_system_word" (.cons (.v 0) (.cons (.bi .len true (.cons (.v 1) .nil)) (.cons (.v 2) .nil))))) .nil))) <|
  .nil)
  mt := false
def f_check_system : Fn where
  ps := ["k", "system"]
  N := ["k", "system"]
  body := (.cons (.expr (.call "check_letters" (.cons (.v 0) .nil))) <|
  .cons (.iff (.nt (.call "is_system_of" (.cons (.v 0) (.cons (.v 1) .nil)))) (.cons (.rs "InvalidSystem" (.v 1)) <|
    .nil) (.nil)) <|
  .nil)
  mt := false
def f_check_unknown : Fn where
  ps := ["k", "system", "n"]
  N := ["k", "system", "n"]
  body := (.cons (.expr (.call "check_system" (.cons (.v 0) (.cons (.v 1) .nil)))) <|
  .cons (.iff (.nt (.call "is_between" (.cons (.v 2) (.cons (.c (.int 0)) (.cons (.bin .sub true (.bi .len true (.cons (.v 1) .nil)) (.c (.int 1))) .nil))))) (.cons (.rs "InvalidNumber" (.v 2)) <|
    .nil) (.nil)) <|
  .nil)
  mt := false
def f_way_end : Fn where
  ps := ["system", "n", "told"]
  N := ["system", "n", "told", "found", "at"]
  body := (.cons (.iff (.ors (.cons (.nt (.isi (.v 2) "tuple")) (.cons (.cmp .eq (.bi .len true (.cons (.v 2) .nil)) (.c (.int 0))) (.cons (.nt (.bi .all true (.cons (.lc true [4] (.n 4) (.val (.v 2)) .nil (.call "is_natural" (.cons (.v 4) .nil))) .nil))) .nil)))) (.cons (.ret (.c .non)) <|
    .nil) (.nil)) <|
  .cons (.asg (.p (.n 3)) (.tup (.cons (.g "ROW") (.cons (.v 1) .nil)))) <|
  .cons (.fr (.n 4) (.val (.v 2)) (.cons (.iff (.ors (.cons (.call "is_integer" (.cons (.v 3) .nil)) (.cons (.cmp .ge (.v 4) (.bi .len true (.cons (.ix (.v 0) (.ix (.v 3) (.c (.int 1)))) .nil))) .nil))) (.cons (.ret (.c .non)) <|
      .nil) (.nil)) <|
    .cons (.asg (.p (.n 3)) (.ix (.ix (.v 0) (.ix (.v 3) (.c (.int 1)))) (.v 4))) <|
    .nil)) <|
  .cons (.ret (.v 3)) <|
  .nil)
  mt := false
def f_is_system : Fn where
  ps := ["k", "told"]
  N := ["k", "told"]
  body := (.cons (.expr (.call "check_letters" (.cons (.v 0) .nil))) <|
  .cons (.ret (.call "is_system_of" (.cons (.v 0) (.cons (.v 1) .nil)))) <|
  .nil)
  mt := false
def f_is_way : Fn where
  ps := ["k", "system", "n", "told"]
  N := ["k", "system", "n", "told"]
  body := (.cons (.expr (.call "check_unknown" (.cons (.v 0) (.cons (.v 1) (.cons (.v 2) .nil))))) <|
  .cons (.ret (.call "is_integer" (.cons (.call "way_end" (.cons (.v 1) (.cons (.v 2) (.cons (.v 3) .nil)))) .nil))) <|
  .nil)
  mt := false
def f_letter_of_way : Fn where
  ps := ["k", "system", "n", "way"]
  N := ["k", "system", "n", "way", "found"]
  body := (.cons (.expr (.call "check_unknown" (.cons (.v 0) (.cons (.v 1) (.cons (.v 2) .nil))))) <|
  .cons (.asg (.p (.n 4)) (.call "way_end" (.cons (.v 1) (.cons (.v 2) (.cons (.v 3) .nil))))) <|
  .cons (.iff (.nt (.call "is_integer" (.cons (.v 4) .nil))) (.cons (.rs "InvalidPlace" (.v 3)) <|
    .nil) (.nil)) <|
  .cons (.ret (.v 4)) <|
  .nil)
  mt := false
def gl_ROW : PV := (.str "row")
end L2.St
namespace L2.Sm
open PySem L2.Iv L2.Tm
mutual
def small : PV → Bool
  | .int i => decide (i.natAbs < 10 ^ 30)
  | .str s => PyData.strOk s && decide (slen (.str s) ≤ 20 ∧ PyData.strOk (reprText s) = true)
  | .tup xs => smalls xs
  | .lsv xs => smalls xs
  | .non => true
  | .bl _ => true
  | .loc _ => false
  | .exn .. => false
  | .dct .. => false
def smalls : List PV → Bool
  | [] => true
  | x :: xs => small x && smalls xs
end
mutual
theorem small_len : ∀ v : PV, small v = true → slen v + 2 ≤ 40 * wt v
  | .int i, h => by
    have h : decide (i.natAbs < 10 ^ 30) = true := h
    rw [decide_eq_true_eq] at h
    have := int_text_length_le10 (k := 30) (by decide) h
    show (toString i).length + 2 ≤ 40 * 1
    omega
  | .str s, h => by
    have h : (PyData.strOk s && decide (slen (.str s) ≤ 20 ∧ PyData.strOk (reprText s) = true)) = true := h
    rw [Bool.and_eq_true, decide_eq_true_eq] at h
    have h := h.2.1
    show slen (.str s) + 2 ≤ 40 * 1
    omega
  | .tup xs, h => by have := smalls_len xs h; show slens xs + 3 + 2 ≤ 40 * (1 + wts xs); omega
  | .lsv xs, h => by have := smalls_len xs h; show slens xs + 3 + 2 ≤ 40 * (1 + wts xs); omega
  | .non, _ => by show 4 + 2 ≤ 40 * 1; decide
  | .bl _, _ => by show 5 + 2 ≤ 40 * 1; decide
  | .loc _, h => by cases h
  | .exn .., h => by cases h
  | .dct .., h => by cases h
theorem smalls_len : ∀ xs : List PV, smalls xs = true → slens xs ≤ 40 * wts xs
  | [], _ => Nat.le_refl _
  | x :: xs, h => by
    have h : (small x && smalls xs) = true := h
    rw [Bool.and_eq_true] at h
    have h1 := small_len x h.1
    have h2 := smalls_len xs h.2
    show slen x + 2 + slens xs ≤ 40 * (wt x + wts xs)
    omega
end
mutual
theorem small_num : ∀ v : PV, small v = true → v.toD.showable = true
  | .int i, h => by
    have h : decide (i.natAbs < 10 ^ 30) = true := h
    rw [decide_eq_true_eq] at h
    exact (shows_int (n := 0) (k := 30) (by decide) h (by decide)).nums
  | .str _, _ => rfl
  | .tup xs, h => smalls_num xs h
  | .lsv xs, h => smalls_num xs h
  | .non, _ => rfl
  | .bl _, _ => rfl
  | .loc _, h => by cases h
  | .exn .., h => by cases h
  | .dct .., h => by cases h
theorem smalls_num : ∀ xs : List PV, smalls xs = true → PyData.showableAll (toDs xs) = true
  | [], _ => rfl
  | x :: xs, h => by
    have h : (small x && smalls xs) = true := h
    rw [Bool.and_eq_true] at h
    show (x.toD.showable && PyData.showableAll (toDs xs)) = true
    rw [small_num x h.1, smalls_num xs h.2]; rfl
end
theorem ok_app (a b : Str) : PyData.strOk (a ++ b) = (PyData.strOk a && PyData.strOk b) := by
  unfold PyData.strOk
  rw [PySem.Str.cps_append, Array.all_append]
theorem ok_of (s : String) : PyData.strOk (Str.ofString s) = true := by
  unfold PyData.strOk
  rw [PySem.Str.ofString_eq_toList]
  simp only [List.all_toArray, List.all_map, List.all_eq_true]
  intro c _
  have := c.valid
  show decide (c.toNat < 0x110000) = true
  rw [decide_eq_true_eq]
  have h : c.toNat.isValidChar := c.valid
  rcases h with h | h <;> omega
theorem ok_from : ∀ (ts : List Str) (k : Nat) (acc : Str), PyData.strOk acc = true → (∀ t ∈ ts, PyData.strOk t = true) → PyData.strOk (textFrom k acc ts) = true
  | [], _, _, h, _ => h
  | t :: r, k, acc, h, ht => by
    show PyData.strOk (textFrom (k + 1) (acc ++ (if k > 0 then ", " else "" : String) ++ t) r) = true
    refine ok_from r (k + 1) _ ?_ fun u hu => ht u (List.mem_cons_of_mem _ hu)
    rw [ok_app, ok_app, h, ht t List.mem_cons_self, ok_of]; rfl
theorem ok_join : ∀ ts : List Str, (∀ t ∈ ts, PyData.strOk t = true) → PyData.strOk (Str.join ", " ts) = true
  | [], _ => by decide +kernel
  | [x], h => h x (by simp)
  | x :: y :: r, h => by
    show PyData.strOk (x ++ ", " ++ Str.join ", " (y :: r)) = true
    rw [ok_app, ok_app, h x (by simp), ok_of, ok_join (y :: r) fun u hu => h u (List.mem_cons_of_mem _ hu)]; rfl
mutual
theorem small_ok : ∀ v : PV, small v = true → PyData.strOk v.toD.shown = true
  | .int i, _ => ok_of (toString i)
  | .str s, h => by
    have h : (PyData.strOk s && decide (slen (.str s) ≤ 20 ∧ PyData.strOk (reprText s) = true)) = true := h
    rw [Bool.and_eq_true, decide_eq_true_eq] at h
    exact h.2.2
  | .tup xs, h => by
    have := smalls_ok xs h
    show PyData.strOk (tupleText (PyData.shownAll (toDs xs))) = true
    unfold tupleText
    rw [ok_app, ok_app, ok_of, ok_join _ this, ok_of]; rfl
  | .lsv xs, h => by
    have := smalls_ok xs h
    show PyData.strOk (listText (PyData.shownAll (toDs xs))) = true
    unfold listText
    rw [ok_app, ok_from _ _ _ (ok_of "[") this, ok_of]; rfl
  | .non, _ => ok_of "None"
  | .bl b, _ => by cases b <;> exact ok_of _
  | .loc _, h => by cases h
  | .exn .., h => by cases h
  | .dct .., h => by cases h
theorem smalls_ok : ∀ xs : List PV, smalls xs = true → ∀ t ∈ PyData.shownAll (toDs xs), PyData.strOk t = true
  | [], _, t, ht => by cases ht
  | x :: xs, h, t, ht => by
    have h : (small x && smalls xs) = true := h
    rw [Bool.and_eq_true] at h
    have ht : t ∈ x.toD.shown :: PyData.shownAll (toDs xs) := ht
    rcases List.mem_cons.mp ht with rfl | ht
    · exact small_ok x h.1
    · exact smalls_ok xs h.2 t ht
end
end L2.Sm
namespace L2.Sm
open PySem L2.Iv L2.Tm
mutual
def dpv : PV → Nat
  | .tup xs => 1 + dpvs xs
  | .lsv xs => 1 + dpvs xs
  | _ => 0
def dpvs : List PV → Nat
  | [] => 0
  | x :: xs => max (dpv x) (dpvs xs)
end
mutual
theorem fit_deep : ∀ (v : PV) (n : Nat), small v = true → dpv v ≤ n → fit n v = true
  | .int _, n, _, _ => by cases n <;> rfl
  | .str s, n, h, _ => by
    have h : (PyData.strOk s && decide (slen (.str s) ≤ 20 ∧ PyData.strOk (reprText s) = true)) = true := h
    rw [Bool.and_eq_true] at h
    rw [fit_str]; exact h.1
  | .tup xs, 0, _, hn => by rw [dpv] at hn; omega
  | .tup xs, n + 1, h, hn => by rw [dpv] at hn; exact fits_deep xs n h (by omega)
  | .lsv xs, 0, _, hn => by rw [dpv] at hn; omega
  | .lsv xs, n + 1, h, hn => by rw [dpv] at hn; exact fits_deep xs n h (by omega)
  | .non, n, _, _ => by cases n <;> rfl
  | .bl _, n, _, _ => by cases n <;> rfl
  | .loc _, _, h, _ => by cases h
  | .exn .., _, h, _ => by cases h
  | .dct .., _, h, _ => by cases h
theorem fits_deep : ∀ (xs : List PV) (n : Nat), smalls xs = true → dpvs xs ≤ n → fits n xs = true
  | [], _, _, _ => rfl
  | x :: xs, n, h, hn => by
    have h : (small x && smalls xs) = true := h
    rw [Bool.and_eq_true] at h
    rw [dpvs] at hn
    show (fit n x && fits n xs) = true
    rw [fit_deep x n h.1 (by omega), fits_deep xs n h.2 (by omega)]; rfl
end
theorem deep_shows {v : PV} {n : Nat} (h : small v = true) (hn : dpv v ≤ n) : Shows v n (40 * wt v) := ⟨fit_deep v n h hn, small_num v h, by have := small_len v h; omega⟩
structure Sv (v : PV) (w : Nat) : Prop where
  sm : small v = true
  dp : dpv v ≤ 20
  wt : wt v ≤ w
theorem Sv.data {v : PV} {w : Nat} (h : Sv v w) : v.data = true := fit_data (deep_shows h.sm h.dp).fit
theorem Sv.free {v : PV} {w : Nat} (h : Sv v w) : v.free = true := data_free _ h.data
theorem Sv.mono {v : PV} {w w' : Nat} (h : Sv v w) (hw : w ≤ w') : Sv v w' := ⟨h.sm, h.dp, Nat.le_trans h.wt hw⟩
theorem Sv.ok {v : PV} {w : Nat} (h : Sv v w) : PyData.strOk v.toD.shown = true := small_ok v h.sm
theorem Sv.repr {v : PV} {w : Nat} (h : Sv v w) (hw : w ≤ 100000) (st : Store) (fr : Bool) : biV .repr fr st [v] = .ok (.str v.toD.shown) st :=
  repr_shows (deep_shows h.sm h.dp) (by decide) (by have := h.wt; have : 4000000 ≤ sizeLine := (by decide); omega)
theorem wts_app (a b : List PV) : wts (a ++ b) = wts a + wts b := by
  induction a with
  | nil => simp [wts]
  | cons x a ih => rw [List.cons_append, wts, wts, ih]; omega
theorem dpvs_le {n : Nat} : ∀ {xs : List PV}, (∀ x ∈ xs, dpv x ≤ n) → dpvs xs ≤ n
  | [], _ => Nat.zero_le _
  | x :: xs, h => by
    have h1 := h x List.mem_cons_self
    have h2 := dpvs_le (xs := xs) fun y hy => h y (List.mem_cons_of_mem _ hy)
    rw [dpvs]; omega
theorem smalls_of : ∀ {xs : List PV}, (∀ x ∈ xs, small x = true) → smalls xs = true
  | [], _ => rfl
  | x :: xs, h => by
    show (small x && smalls xs) = true
    rw [h x List.mem_cons_self, smalls_of (xs := xs) fun y hy => h y (List.mem_cons_of_mem _ hy)]; rfl
theorem wts_le {w : Nat} : ∀ {xs : List PV}, (∀ x ∈ xs, wt x ≤ w) → wts xs ≤ xs.length * w
  | [], _ => Nat.zero_le _
  | x :: xs, h => by
    have h1 := h x List.mem_cons_self
    have h2 := wts_le (xs := xs) fun y hy => h y (List.mem_cons_of_mem _ hy)
    rw [wts, List.length_cons, Nat.succ_mul]; omega
theorem sv_seq {xs : List PV} {w d m : Nat} (h : ∀ x ∈ xs, small x = true ∧ dpv x ≤ d ∧ wt x ≤ w) (hd : d ≤ 19) (hm : xs.length ≤ m) : Sv (.tup xs) (1 + m * w) ∧ Sv (.lsv xs) (1 + m * w) := by
  have s : smalls xs = true := smalls_of fun x hx => (h x hx).1
  have dd : dpvs xs ≤ d := dpvs_le fun x hx => (h x hx).2.1
  have ww : wts xs ≤ m * w := Nat.le_trans (wts_le fun x hx => (h x hx).2.2) (Nat.mul_le_mul_right _ hm)
  exact ⟨⟨s, by rw [dpv]; omega, by rw [Tm.wt]; omega⟩, ⟨s, by rw [dpv]; omega, by rw [Tm.wt]; omega⟩⟩
end L2.Sm
namespace L2.St
open PySem L2.Iv
open L2.Tm hiding lets
open L2.P (At Glb Ec nat? btw e_is_integer e_is_between e_is_natural e_check_letters)
inductive Pa where
  | lt (c : Nat)
  | rw (m : Nat)
abbrev Sy := List (List Pa)
def okP (k many : Nat) : Pa → Bool
  | .lt c => decide (c < k)
  | .rw m => decide (m < many)
def okS (k : Nat) (S : Sy) : Bool := !S.isEmpty && S.all fun w => w.all (okP k S.length)
theorem data_mem {xs : List PV} (h : (PV.tup xs).data = true) : ∀ x ∈ xs, x.data = true := by
  induction xs with
  | nil => intro x hx; cases hx
  | cons a xs ih =>
    have h : (a.data && dataAll xs) = true := h
    rw [Bool.and_eq_true] at h
    intro x hx
    rcases List.mem_cons.mp hx with rfl | hx
    · exact h.1
    · exact ih h.2 x hx
theorem wt_mem {xs : List PV} : ∀ {x : PV}, x ∈ xs → wt x ≤ wts xs := by
  induction xs with
  | nil => intro x hx; cases hx
  | cons a xs ih =>
    intro x hx
    rw [wts]
    rcases List.mem_cons.mp hx with rfl | hx
    · omega
    · have := ih hx; omega
theorem wt_pos (v : PV) : 1 ≤ wt v := by cases v <;> simp [wt]
theorem wts_len (xs : List PV) : xs.length ≤ wts xs := by
  induction xs with
  | nil => simp
  | cons a xs ih =>
    have := wt_pos a
    rw [wts, List.length_cons]; omega
structure HasSy (g : Sg) : Prop where
  ii : At g "is_integer" L2.P.f_is_integer
  bt : At g "is_between" L2.P.f_is_between
  nt : At g "is_natural" L2.P.f_is_natural
  un : At g "is_unknown" f_is_unknown
  rw : At g "is_row_word" f_is_row_word
  sw : At g "is_system_word" f_is_system_word
  so : At g "is_system_of" f_is_system_of
  cs : At g "check_system" f_check_system
  cu : At g "check_unknown" f_check_unknown
  cl : At g "check_letters" L2.P.f_check_letters
  we : At g "way_end" f_way_end
  is : At g "is_system" f_is_system
  iw : At g "is_way" f_is_way
  lw : At g "letter_of_way" f_letter_of_way
  gR : Glb g "ROW" gl_ROW
  gM : Glb g "MOST_LETTERS" L2.P.gl_MOST_LETTERS
  eN : Ec g "InvalidNumber"
  eS : Ec g "InvalidSystem"
  eP : Ec g "InvalidPlace"
section
variable {g : Sg} {cl : Str → Nat} {n : Nat} {st : Store} {v : PV}
end
end L2.St
namespace L2.Ta
open PySem L2.Iv
open L2.Tm hiding lets fin
open L2.P (At Glb Ec btw lvs lvs_free e_is_integer e_is_between)
open L2.St (data_mem wt_mem wts_len)
def fst (F : Nat → Option PV) : Nat → Option PV
  | 0 => none
  | n + 1 => match fst F n with
    | some v => some v
    | none => F n
theorem fst_none {F : Nat → Option PV} : ∀ {n : Nat}, (∀ i, i < n → F i = none) → fst F n = none
  | 0, _ => rfl
  | n + 1, h => by rw [fst, fst_none fun i hi => h i (by omega)]; exact h n (by omega)
theorem fst_some {F : Nat → Option PV} {i : Nat} {v : PV} (hn : ∀ j, j < i → F j = none) (hv : F i = some v) : ∀ {n : Nat}, i < n → fst F n = some v
  | 0, h => by omega
  | n + 1, h => by
    rcases (by omega : i < n ∨ i = n) with z | rfl
    · rw [fst, fst_some hn hv z]
    · rw [fst, fst_none hn]; exact hv
theorem fst_all {F : Nat → Option PV} {p : PV → Prop} {v : PV} : ∀ {n : Nat}, (∀ i w, i < n → F i = some w → p w) → fst F n = some v → p v
  | 0, _, h => by cases h
  | n + 1, ha, h => by
    rw [fst] at h
    cases e : fst F n with
    | some w => rw [e] at h; cases h; exact fst_all (fun i w hi => ha i w (by omega)) e
    | none => rw [e] at h; exact ha n v (by omega) h
theorem wp_first {lo c : Int} {n : Nat} {f : PV → Iv.Env → Store → Out Fl} {Q : Fl → Store → Prop} {st : Store} (F : Nat → Option PV) (En : Iv.Env → Prop)
    (turn : ∀ i env, i < n → En env → wpO (f (.int (lo + (i : Nat) * c)) env st) fun r st1 => st1 = st ∧ match F i, r with
      | none, .nx e => En e
      | some v, .rt u => u = v
      | _, _ => False)
    (stop : fst F n = none → ∀ env, En env → Q (.nx env) st) (hit : ∀ v, fst F n = some v → Q (.rt v) st) (env : Iv.Env) (h : En env) : wpO (loopF [] f (rngL lo c n) env st) Q := by
  obtain ⟨I, hI⟩ : ∃ I : Nat → Iv.Env → Store → Prop, I = fun i env st' => En env ∧ st' = st ∧ ∀ j, j < i → F j = none := ⟨_, rfl⟩
  refine wp_rng I ?_ ?_ _ _ (by rw [hI]; exact ⟨h, rfl, fun j hj => by omega⟩)
  · intro i env st' hi hh
    rw [hI] at hh
    obtain ⟨he, rfl, hno⟩ := hh
    refine wp_mono (turn i env hi he) fun r st1 q => ?_
    obtain ⟨rfl, q⟩ := q
    cases hF : F i with
    | none =>
      rw [hF] at q
      cases r with
      | nx e =>
        show I (i + 1) e st1
        rw [hI]
        refine ⟨q, rfl, fun j hj => ?_⟩
        rcases (by omega : j < i ∨ j = i) with z | rfl
        · exact hno j z
        · exact hF
      | ct e => exact q.elim
      | bk e => exact q.elim
      | rt v => exact q.elim
      | rz => exact q.elim
    | some v =>
      rw [hF] at q
      cases r with
      | rt u =>
        have q : u = v := q
        subst q
        exact hit u (fst_some hno hF hi)
      | nx e => exact q.elim
      | ct e => exact q.elim
      | bk e => exact q.elim
      | rz => exact q.elim
  · intro env st' hh
    rw [hI] at hh
    obtain ⟨he, rfl, hno⟩ := hh
    exact stop (fst_none hno) env he
def rowL (n : Nat) (f : Nat → Nat) : List PV := (List.range n).map fun b => .int (f b : Nat)
def prodL (t : Tb) : List PV := (List.range t.n).map fun a => .tup (rowL t.n (t.P a))
def encT (L : List Nat) (t : Tb) : PV := .tup [.tup (lvs L), .tup (prodL t), .tup (rowL t.n t.O), .tup (rowL t.n t.B)]
theorem at_map {α : Type} {l : List α} {f : α → PV} {i : Nat} (h : i < l.length) : L2.atI (l.map f) (i : Int) = some (f l[i]) := by
  rw [at_nn (by omega), Int.toNat_natCast, List.getElem?_map, List.getElem?_eq_getElem h]; rfl
theorem at_rowL {n b : Nat} {f : Nat → Nat} (h : b < n) : L2.atI (rowL n f) (b : Int) = some (.int (f b : Nat)) := by
  unfold rowL
  rw [at_map (by rw [List.length_range]; exact h), List.getElem_range]
theorem at_prodL {t : Tb} {a : Nat} (h : a < t.n) : L2.atI (prodL t) (a : Int) = some (.tup (rowL t.n (t.P a))) := by
  unfold prodL
  rw [at_map (by rw [List.length_range]; exact h), List.getElem_range]
theorem len_rowL (n : Nat) (f : Nat → Nat) : (rowL n f).length = n := by unfold rowL; rw [List.length_map, List.length_range]
theorem len_prodL (t : Tb) : (prodL t).length = t.n := by unfold prodL; rw [List.length_map, List.length_range]
theorem free_rowL (n : Nat) (f : Nat → Nat) : freeAll (rowL n f) = true := by
  rw [freeAll_all, List.all_eq_true]
  intro x hx
  obtain ⟨p, _, rfl⟩ := List.mem_map.mp hx
  rfl
theorem free_prodL (t : Tb) : freeAll (prodL t) = true := by
  rw [freeAll_all, List.all_eq_true]
  intro x hx
  obtain ⟨p, _, rfl⟩ := List.mem_map.mp hx
  exact free_rowL _ _
theorem free_encT (L : List Nat) (t : Tb) : (encT L t).free = true := by
  show (freeAll (lvs L) && (freeAll (prodL t) && (freeAll (rowL t.n t.O) && (freeAll (rowL t.n t.B) && true)))) = true
  rw [lvs_free, free_prodL, free_rowL, free_rowL]; rfl
def outO : Option PV → PV
  | none => .non
  | some v => v
def unitF (t : Tb) (a : Nat) : Option PV := if t.P 0 a ≠ a ∨ t.P a 0 ≠ a ∨ (a = 0 ∧ (t.O 0 ≠ 0 ∨ t.B 0 ≠ 0)) then some (.tup [.int (a : Nat)]) else none
def tripF (t : Tb) (a b c : Nat) : Option PV := if t.P (t.P a b) c ≠ t.P a (t.P b c) then some (.tup [.int (a : Nat), .int (b : Nat), .int (c : Nat)]) else none
def moveF (t : Tb) (O : Nat → Nat) (a b : Nat) : Option PV := if O (t.P a b) ≠ t.P a (O (t.P b a)) then some (.tup [.int (a : Nat), .int (b : Nat)]) else none
def turnF (t : Tb) (B : Nat → Nat) (a b : Nat) : Option PV := if B (t.P a b) ≠ t.P (B (t.P b a)) b then some (.tup [.int (a : Nat), .int (b : Nat)]) else none
def agaF (t : Tb) (O : Nat → Nat) (a m : Nat) : Option PV := if O (pwr t.P a (m + 1)) ≠ O a then some (.tup [.int (a : Nat), .int ((m : Nat) + 2)]) else none
def unitV (t : Tb) : PV := outO (fst (unitF t) t.n)
def tripV (t : Tb) : PV := outO (fst (fun a => fst (fun b => fst (tripF t a b) t.n) t.n) t.n)
def moveV (t : Tb) (O : Nat → Nat) : PV := outO (fst (fun a => fst (moveF t O a) t.n) t.n)
def turnV (t : Tb) (B : Nat → Nat) : PV := outO (fst (fun a => fst (turnF t B a) t.n) t.n)
def agaV (t : Tb) (O : Nat → Nat) : PV := outO (fst (fun a => fst (agaF t O a) (t.n - 1)) t.n)
theorem fst_free {F : Nat → Option PV} {n : Nat} (h : ∀ i w, F i = some w → w.free = true) : ∀ {v : PV}, fst F n = some v → v.free = true := fun e => fst_all (p := fun v => v.free = true) (fun i w _ hw => h i w hw) e
theorem unitF_free (t : Tb) : ∀ i w, unitF t i = some w → w.free = true := fun i w h => by
  unfold unitF at h
  split at h
  · cases h; rfl
  · cases h
theorem tripF_free (t : Tb) (a b : Nat) : ∀ i w, tripF t a b i = some w → w.free = true := fun i w h => by
  unfold tripF at h
  split at h
  · cases h; rfl
  · cases h
theorem moveF_free (t : Tb) (O : Nat → Nat) (a : Nat) : ∀ i w, moveF t O a i = some w → w.free = true := fun i w h => by
  unfold moveF at h
  split at h
  · cases h; rfl
  · cases h
theorem turnF_free (t : Tb) (O : Nat → Nat) (a : Nat) : ∀ i w, turnF t O a i = some w → w.free = true := fun i w h => by
  unfold turnF at h
  split at h
  · cases h; rfl
  · cases h
theorem agaF_free (t : Tb) (O : Nat → Nat) (a : Nat) : ∀ i w, agaF t O a i = some w → w.free = true := fun i w h => by
  unfold agaF at h
  split at h
  · cases h; rfl
  · cases h
theorem eq_nat (a b : Nat) (st : Store) : cmpV .ne st (.int (a : Nat)) (.int (b : Nat)) = some (decide (a ≠ b)) := by
  by_cases h : a = b
  · subst h; simp [cmpV]
  · have : ¬ ((a : Int) = b) := by omega
    simp [cmpV, h, this]
section
variable {g : Sg} {cl : Str → Nat} {n : Nat} {st : Store} {v : PV}
theorem e_trip (h : At g "triple_fault" f_triple_fault) {t : Tb} (H : Lt t) : (g.ctx cl (n + 1)).fn "triple_fault" [.tup (prodL t)] st = .ok (tripV t) st := by
  have n5 := H.n5
  refine fn_eq h rfl rfl (by simp [freeAll, PV.free, free_prodL]) ?_
  have lx := len_prodL t
  have hx := fun a (ha : a < t.n) => at_prodL ha
  have hr := fun a b (ha : a < t.n) (hb : b < t.n) => at_rowL (f := t.P a) hb
  obtain ⟨X, hX⟩ : ∃ X, prodL t = X := ⟨_, rfl⟩
  rw [hX] at lx hx ⊢
  have big : 1000 ≤ sizeLine := by decide
  simp only [f_triple_fault, env0]
  rw [wp_ss]
  simp [lx]
  rw [rgk_ok (by omega) (by omega)]
  simp
  rw [wp_ss]
  simp
  rw [kr_ok (by omega) (by omega) (by omega) (by omega)]
  simp
  refine wp_first (fun a => fst (fun b => fst (tripF t a b) t.n) t.n) (fun e => ∃ w1 w2 w3, e = [some (.tup X), some (.dct [] [.int 0, .int (t.n : Nat)]), w1, w2, w3]) ?_ ?_ ?_ _ ⟨none, none, none, rfl⟩
  · rintro a env ha ⟨w1, w2, w3, rfl⟩
    simp
    rw [wp_ss]
    simp
    rw [kr_ok (by omega) (by omega) (by omega) (by omega)]
    simp
    refine wp_first (fun b => fst (tripF t a b) t.n) (fun e => ∃ w2 w3, e = [some (.tup X), some (.dct [] [.int 0, .int (t.n : Nat)]), some (.int (a : Nat)), w2, w3]) ?_ ?_ ?_ _ ⟨_, _, rfl⟩
    · rintro b env hb ⟨w2, w3, rfl⟩
      simp
      rw [wp_ss]
      simp
      rw [kr_ok (by omega) (by omega) (by omega) (by omega)]
      simp
      refine wp_first (tripF t a b) (fun e => ∃ w3, e = [some (.tup X), some (.dct [] [.int 0, .int (t.n : Nat)]), some (.int (a : Nat)), some (.int (b : Nat)), w3]) ?_ ?_ ?_ _ ⟨_, rfl⟩
      · rintro c env hc ⟨w3, rfl⟩
        have pab := H.pl a b ha hb
        have pbc := H.pl b c hb hc
        simp
        rw [wp_ss]
        simp [hx a ha, hx b hb, hx _ pab, hr a b ha hb, hr b c hb hc, hr _ c pab hc, hr a _ ha pbc, eq_nat]
        by_cases e : t.P (t.P a b) c = t.P a (t.P b c)
        · simp [e, tripF]
        · simp [e, tripF, wp_ss, Int.natCast_inj]
      · rintro e env ⟨w3, rfl⟩
        simp [e]
      · intro v e
        simp [e]
    · rintro e env ⟨w2, w3, rfl⟩
      simp [e]
    · intro v e
      simp [e]
  · rintro e env ⟨w1, w2, w3, rfl⟩
    unfold tripV
    rw [e]
    simp [wp_ss, outO]
  · intro v e
    unfold tripV
    rw [e]
    have fv : v.free = true := fst_free (fun i w e => fst_free (fun i w e => fst_free (tripF_free t _ _) e) e) e
    simp [outO, frz_free fv]
theorem e_move (h : At g "moved_fault" f_moved_fault) {t : Tb} (H : Lt t) {O : Nat → Nat} (hO : ∀ a, a < t.n → O a < t.n) : (g.ctx cl (n + 1)).fn "moved_fault" [.tup (prodL t), .tup (rowL t.n O)] st = .ok (moveV t O) st := by
  have n5 := H.n5
  refine fn_eq h rfl rfl (by simp [freeAll, PV.free, free_prodL, free_rowL]) ?_
  have lx := len_prodL t
  have hx := fun a (ha : a < t.n) => at_prodL ha
  have hr := fun a b (ha : a < t.n) (hb : b < t.n) => at_rowL (f := t.P a) hb
  have ho := fun a (ha : a < t.n) => at_rowL (f := O) ha
  obtain ⟨X, hX⟩ : ∃ X, prodL t = X := ⟨_, rfl⟩
  obtain ⟨Y, hY⟩ : ∃ Y, rowL t.n O = Y := ⟨_, rfl⟩
  rw [hX] at lx hx ⊢
  rw [hY] at ho ⊢
  have big : 1000 ≤ sizeLine := by decide
  simp only [f_moved_fault, env0]
  rw [wp_ss]
  simp [lx]
  rw [rgk_ok (by omega) (by omega)]
  simp
  rw [wp_ss]
  simp
  rw [kr_ok (by omega) (by omega) (by omega) (by omega)]
  simp
  refine wp_first (fun a => fst (moveF t O a) t.n) (fun e => ∃ w1 w2, e = [some (.tup X), some (.tup Y), some (.dct [] [.int 0, .int (t.n : Nat)]), w1, w2]) ?_ ?_ ?_ _ ⟨none, none, rfl⟩
  · rintro a env ha ⟨w1, w2, rfl⟩
    simp
    rw [wp_ss]
    simp
    rw [kr_ok (by omega) (by omega) (by omega) (by omega)]
    simp
    refine wp_first (moveF t O a) (fun e => ∃ w2, e = [some (.tup X), some (.tup Y), some (.dct [] [.int 0, .int (t.n : Nat)]), some (.int (a : Nat)), w2]) ?_ ?_ ?_ _ ⟨_, rfl⟩
    · rintro b env hb ⟨w2, rfl⟩
      have pab := H.pl a b ha hb
      have pba := H.pl b a hb ha
      have oba := hO _ pba
      simp
      rw [wp_ss]
      simp [hx a ha, hx b hb, hr a b ha hb, hr b a hb ha, ho _ pab, ho _ pba, hr a _ ha oba, eq_nat]
      by_cases e : O (t.P a b) = t.P a (O (t.P b a))
      · simp [e, moveF]
      · simp [e, moveF, wp_ss, Int.natCast_inj]
    · rintro e env ⟨w2, rfl⟩
      simp [e]
    · intro v e
      simp [e]
  · rintro e env ⟨w1, w2, rfl⟩
    unfold moveV
    rw [e]
    simp [wp_ss, outO]
  · intro v e
    unfold moveV
    rw [e]
    have fv : v.free = true := fst_free (fun i w e => fst_free (moveF_free t _ _) e) e
    simp [outO, frz_free fv]
theorem e_turn (h : At g "turned_fault" f_turned_fault) {t : Tb} (H : Lt t) {B : Nat → Nat} (hO : ∀ a, a < t.n → B a < t.n) : (g.ctx cl (n + 1)).fn "turned_fault" [.tup (prodL t), .tup (rowL t.n B)] st = .ok (turnV t B) st := by
  have n5 := H.n5
  refine fn_eq h rfl rfl (by simp [freeAll, PV.free, free_prodL, free_rowL]) ?_
  have lx := len_prodL t
  have hx := fun a (ha : a < t.n) => at_prodL ha
  have hr := fun a b (ha : a < t.n) (hb : b < t.n) => at_rowL (f := t.P a) hb
  have ho := fun a (ha : a < t.n) => at_rowL (f := B) ha
  obtain ⟨X, hX⟩ : ∃ X, prodL t = X := ⟨_, rfl⟩
  obtain ⟨Y, hY⟩ : ∃ Y, rowL t.n B = Y := ⟨_, rfl⟩
  rw [hX] at lx hx ⊢
  rw [hY] at ho ⊢
  have big : 1000 ≤ sizeLine := by decide
  simp only [f_turned_fault, env0]
  rw [wp_ss]
  simp [lx]
  rw [rgk_ok (by omega) (by omega)]
  simp
  rw [wp_ss]
  simp
  rw [kr_ok (by omega) (by omega) (by omega) (by omega)]
  simp
  refine wp_first (fun a => fst (turnF t B a) t.n) (fun e => ∃ w1 w2, e = [some (.tup X), some (.tup Y), some (.dct [] [.int 0, .int (t.n : Nat)]), w1, w2]) ?_ ?_ ?_ _ ⟨none, none, rfl⟩
  · rintro a env ha ⟨w1, w2, rfl⟩
    simp
    rw [wp_ss]
    simp
    rw [kr_ok (by omega) (by omega) (by omega) (by omega)]
    simp
    refine wp_first (turnF t B a) (fun e => ∃ w2, e = [some (.tup X), some (.tup Y), some (.dct [] [.int 0, .int (t.n : Nat)]), some (.int (a : Nat)), w2]) ?_ ?_ ?_ _ ⟨_, rfl⟩
    · rintro b env hb ⟨w2, rfl⟩
      have pab := H.pl a b ha hb
      have pba := H.pl b a hb ha
      have oba := hO _ pba
      simp
      rw [wp_ss]
      simp [hx a ha, hx b hb, hr a b ha hb, hr b a hb ha, ho _ pab, ho _ pba, hx _ oba, hr _ b oba hb, eq_nat]
      by_cases e : B (t.P a b) = t.P (B (t.P b a)) b
      · simp [e, turnF]
      · simp [e, turnF, wp_ss, Int.natCast_inj]
    · rintro e env ⟨w2, rfl⟩
      simp [e]
    · intro v e
      simp [e]
  · rintro e env ⟨w1, w2, rfl⟩
    unfold turnV
    rw [e]
    simp [wp_ss, outO]
  · intro v e
    unfold turnV
    rw [e]
    have fv : v.free = true := fst_free (fun i w e => fst_free (turnF_free t _ _) e) e
    simp [outO, frz_free fv]
theorem pwr_lt {t : Tb} (H : Lt t) {a : Nat} (ha : a < t.n) : ∀ m, pwr t.P a m < t.n
  | 0 => ha
  | m + 1 => H.pl _ _ (pwr_lt H ha m) ha
theorem e_aga (h : At g "again_fault" f_again_fault) {t : Tb} (H : Lt t) {O : Nat → Nat} (hO : ∀ a, a < t.n → O a < t.n) : (g.ctx cl (n + 1)).fn "again_fault" [.tup (prodL t), .tup (rowL t.n O)] st = .ok (agaV t O) st := by
  have n5 := H.n5
  have n2 := H.n2
  refine fn_eq h rfl rfl (by simp [freeAll, PV.free, free_prodL, free_rowL]) ?_
  have lx := len_prodL t
  have hx := fun a (ha : a < t.n) => at_prodL ha
  have hr := fun a b (ha : a < t.n) (hb : b < t.n) => at_rowL (f := t.P a) hb
  have ho := fun a (ha : a < t.n) => at_rowL (f := O) ha
  obtain ⟨X, hX⟩ : ∃ X, prodL t = X := ⟨_, rfl⟩
  obtain ⟨Y, hY⟩ : ∃ Y, rowL t.n O = Y := ⟨_, rfl⟩
  rw [hX] at lx hx ⊢
  rw [hY] at ho ⊢
  have big : 1000 ≤ sizeLine := by decide
  simp only [f_again_fault, env0]
  rw [wp_ss]
  simp [lx]
  rw [rng1_ok (by omega) (by omega)]
  simp
  refine wp_first (fun a => fst (agaF t O a) (t.n - 1)) (fun e => ∃ w1 w2 w3, e = [some (.tup X), some (.tup Y), w1, w2, w3]) ?_ ?_ ?_ _ ⟨none, none, none, rfl⟩
  · rintro a env ha ⟨w1, w2, w3, rfl⟩
    simp
    rw [wp_ss]
    simp
    rw [wp_ss]
    simp [lx]
    rw [rng2_ok (by omega) (by omega) (by omega) (by omega)]
    simp
    rw [show ((t.n : Int) + 1 - 2).toNat = t.n - 1 by omega]
    obtain ⟨I, hI⟩ : ∃ I : Nat → Iv.Env → Store → Prop, I = fun i env st' => (∃ w3, env = [some (.tup X), some (.tup Y), some (.int (a : Nat)), some (.int (pwr t.P a i : Nat)), w3]) ∧ st' = [] ∧ ∀ j, j < i → agaF t O a j = none := ⟨_, rfl⟩
    refine wp_rng I ?_ ?_ _ _ (by rw [hI]; exact ⟨⟨_, rfl⟩, rfl, fun j hj => by omega⟩)
    · intro m env st' hm hh
      rw [hI] at hh
      obtain ⟨⟨w3, rfl⟩, rfl, hno⟩ := hh
      have pm := pwr_lt H ha m
      have pm1 := pwr_lt H ha (m + 1)
      have em : t.P (pwr t.P a m) a = pwr t.P a (m + 1) := rfl
      simp
      rw [wp_ss]
      simp [hx _ pm, hr _ a pm ha, em]
      rw [wp_ss]
      simp [ho _ pm1, ho a ha, eq_nat]
      by_cases e : O (pwr t.P a (m + 1)) = O a
      · have : agaF t O a m = none := by simp [agaF, e]
        simp [e]
        rw [hI]
        refine ⟨⟨_, rfl⟩, rfl, fun j hj => ?_⟩
        rcases (by omega : j < m ∨ j = m) with z | rfl
        · exact hno j z
        · exact this
      · have hv : agaF t O a m = some (.tup [.int (a : Nat), .int ((m : Nat) + 2)]) := by simp [agaF, e]
        have := fst_some hno hv hm
        simp [e, wp_ss, Int.natCast_inj, this]
        omega
    · intro env st' hh
      rw [hI] at hh
      obtain ⟨⟨w3, rfl⟩, rfl, hno⟩ := hh
      simp [fst_none hno]
  · rintro e env ⟨w1, w2, w3, rfl⟩
    unfold agaV
    rw [e]
    simp [wp_ss, outO]
  · intro v e
    unfold agaV
    rw [e]
    have fv : v.free = true := fst_free (fun i w e => fst_free (agaF_free t _ _) e) e
    simp [outO, frz_free fv]
theorem e_unit (h : At g "unit_fault" f_unit_fault) {t : Tb} (H : Lt t) (L : List Nat) : (g.ctx cl (n + 1)).fn "unit_fault" [encT L t] st = .ok (unitV t) st := by
  have n5 := H.n5
  have n0 : 0 < t.n := by have := H.n2; omega
  refine fn_eq h rfl rfl (by simp [freeAll, free_encT]) ?_
  unfold encT
  have lx := len_prodL t
  have hx := fun a (ha : a < t.n) => at_prodL ha
  have hr := fun a b (ha : a < t.n) (hb : b < t.n) => at_rowL (f := t.P a) hb
  have ho := at_rowL (f := t.O) n0
  have hb0 := at_rowL (f := t.B) n0
  have hx0 := hx 0 n0
  have hr0 := fun a (ha : a < t.n) => hr a 0 ha n0
  obtain ⟨X, hX⟩ : ∃ X, prodL t = X := ⟨_, rfl⟩
  obtain ⟨Y, hY⟩ : ∃ Y, rowL t.n t.O = Y := ⟨_, rfl⟩
  obtain ⟨Z, hZ⟩ : ∃ Y, rowL t.n t.B = Y := ⟨_, rfl⟩
  obtain ⟨W, hW⟩ : ∃ Y, lvs L = Y := ⟨_, rfl⟩
  rw [hX] at lx hx hx0
  rw [hY] at ho
  rw [hZ] at hb0
  rw [hX, hY, hZ, hW]
  rw [Int.natCast_zero] at ho hb0 hx0
  simp only [Int.natCast_zero] at hr0
  have ho2 : Y[0]? = some (.int (t.O 0 : Nat)) := by rw [← ho]; simp
  have hb2 : Z[0]? = some (.int (t.B 0 : Nat)) := by rw [← hb0]; simp
  have big : 1000 ≤ sizeLine := by decide
  simp only [f_unit_fault, env0]
  rw [wp_ss]
  simp
  rw [wp_ss]
  simp [lx]
  rw [rng1_ok (by omega) (by omega)]
  simp
  refine wp_first (unitF t) (fun e => ∃ w1, e = [some (.tup [.tup W, .tup X, .tup Y, .tup Z]), some (.tup W), some (.tup X), some (.tup Y), some (.tup Z), w1]) ?_ ?_ ?_ _ ⟨none, rfl⟩
  · rintro a env ha ⟨w1, rfl⟩
    have n1 := eq_nat (t.P 0 a) a
    have n2 := eq_nat (t.P a 0) a
    have n3 := eq_nat (t.O 0) 0
    have n4 := eq_nat (t.B 0) 0
    rw [Int.natCast_zero] at n3 n4
    simp
    rw [wp_ss]
    simp [hx0, hr 0 a n0 ha, hx a ha, hr0 a ha, n1]
    by_cases e1 : t.P 0 a = a
    · by_cases e2 : t.P a 0 = a
      · by_cases e3 : a = 0
        · subst e3
          by_cases e4 : t.O 0 = 0
          · by_cases e5 : t.B 0 = 0
            · simp [e1, e2, e4, e5, n2, ho2, hb2, n3, n4, unitF, cmpV]
            · have z : (((t.B 0 : Nat) : Int) == 0) = false := beq_eq_false_iff_ne.mpr (by omega)
              simp [e1, e2, e4, e5, n2, ho2, hb2, n3, n4, unitF, wp_ss, cmpV, z]
          · have z : (((t.O 0 : Nat) : Int) == 0) = false := beq_eq_false_iff_ne.mpr (by omega)
            simp [e1, e2, e4, n2, ho2, hb2, n3, n4, unitF, wp_ss, cmpV, z]
        · have z : ((a : Int) == 0) = false := beq_eq_false_iff_ne.mpr (by omega)
          simp [e1, e2, e3, n2, unitF, cmpV, z]
      · have z : (((t.P a 0 : Nat) : Int) == (a : Nat)) = false := beq_eq_false_iff_ne.mpr (by omega)
        simp [e1, e2, n2, unitF, wp_ss, cmpV, Int.natCast_inj, z]
    · have z : (((t.P 0 a : Nat) : Int) == (a : Nat)) = false := beq_eq_false_iff_ne.mpr (by omega)
      simp [e1, unitF, wp_ss, cmpV, Int.natCast_inj, z]
  · rintro e env ⟨w1, rfl⟩
    unfold unitV
    rw [e]
    simp [wp_ss, outO]
  · intro v e
    unfold unitV
    rw [e]
    have fv : v.free = true := fst_free (unitF_free t) e
    simp [outO, frz_free fv]
end
end L2.Ta
namespace L2.Ta
open PySem L2.Iv
open L2.Tm hiding lets fin
open L2.P (At Glb Ec btw lvs lvs_free e_is_integer e_is_between)
open L2.St (data_mem wt_mem)
structure HasTa (g : Sg) : Prop where
  ii : At g "is_integer" L2.P.f_is_integer
  bt : At g "is_between" L2.P.f_is_between
  av : At g "are_values" f_are_values
  tf : At g "is_table_form" f_is_table_form
  uf : At g "unit_fault" f_unit_fault
  rf : At g "triple_fault" f_triple_fault
  mf : At g "moved_fault" f_moved_fault
  af : At g "again_fault" f_again_fault
  nf : At g "turned_fault" f_turned_fault
  lf : At g "law_fault" f_law_fault
  it : At g "is_table_in" f_is_table_in
  ct : At g "check_table" f_check_table
  gM : Glb g "MOST_LOOKED" gl_MOST_LOOKED
  eT : Ec g "InvalidTable"
def areV (many size : Nat) : PV → Bool
  | .tup xs => decide (xs.length = size) && xs.all (btw 0 ((many : Int) - 1))
  | _ => false
def isForm : PV → Bool
  | .tup [.tup ls, .tup ps, o, b] => !ps.isEmpty && (!ls.isEmpty && (areV ps.length ls.length (.tup ls) && (ps ++ [o, b]).all (areV ps.length ps.length)))
  | _ => false
def lfV : PV → PV
  | .non => .non
  | _ => .tup [.int 1, .tup [.int 0]]
theorem fst_isN {F : Nat → Option PV} {n : Nat} (h : fst F n = none) : outO (fst F n) = .non := by rw [h]; rfl
theorem law_none {t : Tb} (H : Lw t) : unitV t = .non ∧ tripV t = .non ∧ moveV t t.O = .non ∧ agaV t t.O = .non ∧ turnV t t.B = .non ∧ agaV t t.B = .non := by
  refine ⟨fst_isN (fst_none fun a ha => ?_), fst_isN (fst_none fun a ha => fst_none fun b hb => fst_none fun c hc => ?_), fst_isN (fst_none fun a ha => fst_none fun b hb => ?_), fst_isN (fst_none fun a ha => fst_none fun b hb => ?_), fst_isN (fst_none fun a ha => fst_none fun b hb => ?_), fst_isN (fst_none fun a ha => fst_none fun b hb => ?_)⟩
  · unfold unitF; rw [if_neg]; rw [H.u0 a ha, H.u1 a ha, H.o0, H.b0]; simp
  · unfold tripF; rw [if_neg]; rw [H.as a b c ha hb hc]; simp
  · unfold moveF; rw [if_neg]; rw [← H.mo a b ha hb]; simp
  · unfold agaF; rw [if_neg]; rw [H.ao a b ha (by omega)]; simp
  · unfold turnF; rw [if_neg]; rw [← H.mb a b ha hb]; simp
  · unfold agaF; rw [if_neg]; rw [H.ab a b ha (by omega)]; simp
theorem outO_free {F : Nat → Option PV} {n : Nat} (h : ∀ i w, F i = some w → w.free = true) : (outO (fst F n)).free = true := by
  cases e : fst F n with
  | none => rfl
  | some v => exact fst_free h e
section
variable {g : Sg} {cl : Str → Nat} {n : Nat} {st : Store} {v : PV}
theorem e_law_fault (H : HasTa g) {t : Tb} (T : Lt t) (L : List Nat) (hu : (unitV t = .non ∧ tripV t = .non ∧ moveV t t.O = .non ∧ agaV t t.O = .non ∧ turnV t t.B = .non ∧ agaV t t.B = .non) ∨ unitV t = .tup [.int 0]) :
    (g.ctx cl (n + 2)).fn "law_fault" [encT L t] st = .ok (lfV (unitV t)) st := by
  have e1 := fun st => e_unit (cl := cl) (n := n) (st := st) H.uf T L
  have e2 := fun st => e_trip (cl := cl) (n := n) (st := st) H.rf T
  have e3 := fun st => e_move (cl := cl) (n := n) (st := st) H.mf T (O := t.O) T.ol
  have e4 := fun st => e_aga (cl := cl) (n := n) (st := st) H.af T (O := t.O) T.ol
  have e5 := fun st => e_turn (cl := cl) (n := n) (st := st) H.nf T (B := t.B) T.bl
  have e6 := fun st => e_aga (cl := cl) (n := n) (st := st) H.af T (O := t.B) T.bl
  have f1 : (unitV t).free = true := outO_free (unitF_free t)
  refine fn_eq H.lf rfl rfl (by simp [freeAll, free_encT]) ?_
  unfold encT at e1 ⊢
  obtain ⟨X, hX⟩ : ∃ X, prodL t = X := ⟨_, rfl⟩
  obtain ⟨Y, hY⟩ : ∃ Y, rowL t.n t.O = Y := ⟨_, rfl⟩
  obtain ⟨Z, hZ⟩ : ∃ Y, rowL t.n t.B = Y := ⟨_, rfl⟩
  obtain ⟨W, hW⟩ : ∃ Y, lvs L = Y := ⟨_, rfl⟩
  rw [hX, hY, hZ, hW] at e1
  rw [hX] at e2
  rw [hX, hY] at e3 e4
  rw [hX, hZ] at e5 e6
  rw [hX, hY, hZ, hW]
  have fz : ∀ (z : Store) (v : PV), v.free = true → frz 0 z 64 v = some v := fun z v h => frz_free h
  simp only [f_law_fault, env0]
  rw [wp_ss]
  simp
  rcases hu with ⟨h1, h2, h3, h4, h5, h6⟩ | h1
  · rw [h1] at e1 ⊢
    rw [h2] at e2
    rw [h3] at e3
    rw [h4] at e4
    rw [h5] at e5
    rw [h6] at e6
    rw [wp_ss]
    simp [e1, e2, e3, e4]
    rw [wp_ss]
    simp [e5, e6]
    rw [wp_ss]
    simp [loopF, watchOk, wp_ss, evSs, lfV]
  · rw [h1] at e1 ⊢
    rw [wp_ss]
    simp [e1, e2, e3, e4]
    rw [wp_ss]
    simp [e5, e6]
    rw [wp_ss]
    simp [loopF, watchOk, wp_ss, evSs, lfV]
    exact frz_free rfl
theorem e_are_values (H : HasTa g) (hv : v.data = true) (hs : wt v ≤ 1000000) {many size : Nat} (hm : many ≤ 1000000) : (g.ctx cl (n + 3)).fn "are_values" [v, .int (many : Nat), .int (size : Nat)] st = .ok (.bl (areV many size v)) st := by
  have big : 1000000 ≤ sizeLine := by decide
  refine fn_eq H.av rfl rfl (by simp [freeAll, data_free v hv, PV.free]) ?_
  cases v <;> first | (cases hv; done) | skip
  case tup xs =>
    have hx := data_mem hv
    have hl : xs.length ≤ 1000000 := by
      have := wts_len xs
      rw [wt] at hs
      omega
    have eb := fun y (hy : y ∈ xs) st => e_is_between (cl := cl) (n := n) (st := st) (lo := 0) (hi := (many : Int) - 1) H.bt H.ii (hx y hy)
    have cm := fun (f : PV → Store → Out (List PV)) (s : Store) (hf : ∀ y ∈ xs, f y s = .ok [.bl (btw 0 ((many : Int) - 1) y)] s) => (by
      have := Iv.comp_map (w := []) (g := fun x : PV => x) (o := fun y => .bl (btw 0 ((many : Int) - 1) y)) (f := f) (st := s) xs (by simp) hf (by omega)
      rwa [List.map_id'] at this : compF [] f xs [] s = .ok (xs.map fun y => .bl (btw 0 ((many : Int) - 1) y)) s)
    have bm : blsOf (xs.map fun y => .bl (btw 0 ((many : Int) - 1) y)) = some (xs.map fun y => btw 0 ((many : Int) - 1) y) := bls_map _ xs
    simp only [f_are_values, env0]
    rw [wp_ss]
    by_cases h : xs.length = size
    · have z : ((xs.length : Int) == (size : Nat)) = true := by rw [h]; simp
      have e : areV many size (.tup xs) = (xs.map fun y => btw 0 ((many : Int) - 1) y).all id := by
        rw [List.all_map]
        show (decide (xs.length = size) && _) = _
        rw [decide_eq_true h]; rfl
      rw [e]
      simp [cmpV, z]
      rw [cm _ _ (fun y hy => by simp [eb y hy])]
      simp [bm]
    · have z : ((xs.length : Int) == (size : Nat)) = false := beq_eq_false_iff_ne.mpr (by omega)
      have z2 : ¬ ((xs.length : Int) = (size : Nat)) := by omega
      simp [cmpV, z, areV, h, z2]
  all_goals simp [f_are_values, env0, wp_ss, areV]
theorem e_is_form (H : HasTa g) (hv : v.data = true) (hs : wt v ≤ 100000) : (g.ctx cl (n + 4)).fn "is_table_form" [v] st = .ok (.bl (isForm v)) st := by
  have big : 1000000 ≤ sizeLine := by decide
  refine fn_eq H.tf rfl rfl (by simp [freeAll, data_free v hv, PV.free]) ?_
  cases v <;> first | (cases hv; done) | skip
  case tup xs =>
    have hx := data_mem hv
    have hl : wts xs < 100000 := by rw [wt] at hs; omega
    match xs, hx, hl with
    | [], _, _ => simp [f_is_table_form, env0, wp_ss, isForm, cmpV]
    | [a], _, _ => simp [f_is_table_form, env0, wp_ss, isForm, cmpV]
    | [a, b], _, _ => simp [f_is_table_form, env0, wp_ss, isForm, cmpV]
    | [a, b, c], _, _ => simp [f_is_table_form, env0, wp_ss, isForm, cmpV]
    | a :: b :: c :: d :: e :: r, _, _ =>
      have l3 : (((r.length : Int) + 1 + 1 + 1 + 1 + 1) == 4) = false := beq_eq_false_iff_ne.mpr (by omega)
      have z : isForm (.tup (a :: b :: c :: d :: e :: r)) = false := by cases a <;> cases b <;> rfl
      rw [z]
      simp only [f_is_table_form, env0]
      rw [wp_ss]
      simp [cmpV, l3]
      simp [wp_ss]
    | [a, b, c, d], hx, hl =>
      have ha := hx a (by simp)
      have hb := hx b (by simp)
      have hc := hx c (by simp)
      have hd := hx d (by simp)
      simp only [wts] at hl
      simp only [f_is_table_form, env0]
      rw [wp_ss]
      simp [cmpV]
      rw [wp_ss]
      simp
      rw [wp_ss]
      cases a <;> first | (cases ha; done) | skip
      case tup ls =>
        cases b <;> first | (cases hb; done) | skip
        case tup ps =>
          rw [wt, wt] at hl
          have hy : ∀ y ∈ ps ++ [c, d], y.data = true ∧ wt y ≤ 100000 := fun y hy => by
            rcases List.mem_append.mp hy with h | h
            · exact ⟨data_mem hb y h, by have := wt_mem h; omega⟩
            · rcases List.mem_cons.mp h with rfl | h
              · exact ⟨hc, by omega⟩
              · rw [List.mem_singleton] at h; subst h; exact ⟨hd, by omega⟩
          have lp : ps.length ≤ 100000 := by have := Tm.wts_len ps; omega
          have ll : ls.length ≤ 100000 := by have := Tm.wts_len ls; omega
          have ew := fun y (h : y ∈ ps ++ [c, d]) st => e_are_values (cl := cl) (n := n) (st := st) H (hy y h).1 (by have := (hy y h).2; omega) (many := ps.length) (size := ps.length) (by omega)
          have el := fun st => e_are_values (cl := cl) (n := n) (st := st) H (v := .tup ls) ha (by rw [wt]; omega) (many := ps.length) (size := ls.length) (by omega)
          have cm := fun (f : PV → Store → Out (List PV)) (s : Store) (hf : ∀ y ∈ ps ++ [c, d], f y s = .ok [.bl (areV ps.length ps.length y)] s) => (by
            have := Iv.comp_map (w := []) (g := fun x : PV => x) (o := fun y => .bl (areV ps.length ps.length y)) (f := f) (st := s) (ps ++ [c, d]) (by simp) hf (by rw [List.length_append]; simp only [List.length_cons, List.length_nil]; omega)
            rwa [List.map_id'] at this : compF [] f (ps ++ [c, d]) [] s = .ok ((ps ++ [c, d]).map fun y => .bl (areV ps.length ps.length y)) s)
          have bm : blsOf ((ps ++ [c, d]).map fun y => .bl (areV ps.length ps.length y)) = some ((ps ++ [c, d]).map (areV ps.length ps.length)) := bls_map _ _
          have e : isForm (.tup [.tup ls, .tup ps, c, d]) = (!ps.isEmpty && (!ls.isEmpty && (areV ps.length ls.length (.tup ls) && ((ps ++ [c, d]).map (areV ps.length ps.length)).all id))) := by
            rw [List.all_map]; rfl
          rw [e]
          have zp : ((ps.length : Int) == 0) = ps.isEmpty := by
            cases ps with
            | nil => rfl
            | cons a r => exact beq_eq_false_iff_ne.mpr (by simp only [List.length_cons]; omega)
          have zl : ((ls.length : Int) == 0) = ls.isEmpty := by
            cases ls with
            | nil => rfl
            | cons a r => exact beq_eq_false_iff_ne.mpr (by simp only [List.length_cons]; omega)
          obtain ⟨R, hR⟩ : ∃ R, ps ++ [c, d] = R := ⟨_, rfl⟩
          have big2 : ps.length + 2 ≤ sizeLine := by omega
          have bl : ∀ st : Store, binV .add true st (.tup ps) (.tup [c, d]) = .ok (.tup R) st := fun st => by rw [← hR]; simp [big2]
          rw [hR] at ew cm bm ⊢
          obtain ⟨k, hk⟩ : ∃ k, ps.length = k := ⟨_, rfl⟩
          obtain ⟨m, hm⟩ : ∃ k, ls.length = k := ⟨_, rfl⟩
          obtain ⟨b1, h1⟩ : ∃ k, ps.isEmpty = k := ⟨_, rfl⟩
          obtain ⟨b2, h2⟩ : ∃ k, ls.isEmpty = k := ⟨_, rfl⟩
          obtain ⟨b3, h3⟩ : ∃ k, areV ps.length ls.length (.tup ls) = k := ⟨_, rfl⟩
          rw [h3] at el ⊢
          rw [h1] at zp ⊢
          rw [h2] at zl ⊢
          rw [hk] at ew cm bm el zp ⊢
          rw [hm] at el zl
          simp
          rw [wp_ss]
          simp [hk]
          rw [wp_ss]
          cases b1 with
          | true => simp [cmpV, zp, wp_ss]
          | false =>
            cases b2 with
            | true => simp [cmpV, zp, hm, zl, wp_ss]
            | false =>
              cases b3 with
              | false => simp [cmpV, zp, hm, zl, wp_ss, el]
              | true =>
                simp [cmpV, zp, hm, zl, el]
                rw [wp_ss]
                simp [-b_addT, bl]
                rw [cm _ _ (fun y hy => by simp [ew y hy])]
                simp [bm]
        all_goals simp [wp_ss, isForm]
      all_goals simp [wp_ss, isForm]
  all_goals
    simp [f_is_table_form, env0, wp_ss, isForm]
theorem btw_nat {m a : Nat} (h : a < m) : btw 0 ((m : Int) - 1) (.int (a : Nat)) = true := decide_eq_true (by omega)
theorem areV_lvs {many : Nat} {L : List Nat} (h : ∀ a ∈ L, a < many) : areV many L.length (.tup (lvs L)) = true := by
  show (decide ((lvs L).length = L.length) && (lvs L).all _) = true
  rw [decide_eq_true (by simp [lvs]), Bool.true_and, List.all_eq_true]
  intro x hx
  obtain ⟨a, ha, rfl⟩ := List.mem_map.mp hx
  exact btw_nat (h a ha)
theorem areV_row {n : Nat} {f : Nat → Nat} (h : ∀ a, a < n → f a < n) : areV n n (.tup (rowL n f)) = true := by
  show (decide ((rowL n f).length = n) && (rowL n f).all _) = true
  rw [decide_eq_true (len_rowL n f), Bool.true_and, List.all_eq_true]
  intro x hx
  obtain ⟨a, ha, rfl⟩ := List.mem_map.mp hx
  exact btw_nat (h a (List.mem_range.mp ha))
theorem form_enc {t : Tb} (T : Lt t) {L : List Nat} (hL : L ≠ []) (hl : ∀ a ∈ L, a < t.n) : isForm (encT L t) = true := by
  have n2 := T.n2
  have lp := len_prodL t
  show (!(prodL t).isEmpty && (!(lvs L).isEmpty && (areV (prodL t).length (lvs L).length (.tup (lvs L)) && (prodL t ++ [PV.tup (rowL t.n t.O), PV.tup (rowL t.n t.B)]).all (areV (prodL t).length (prodL t).length)))) = true
  have e1 : (prodL t).isEmpty = false := by
    cases h : prodL t with
    | nil => rw [h] at lp; simp at lp; omega
    | cons a r => rfl
  have e2 : (lvs L).isEmpty = false := by cases L with
    | nil => exact absurd rfl hL
    | cons a r => rfl
  have e3 : (lvs L).length = L.length := by simp [lvs]
  rw [e1, e2, lp, e3, areV_lvs hl, List.all_append]
  have e4 : (prodL t).all (areV t.n t.n) = true := by
    rw [List.all_eq_true]
    intro x hx
    obtain ⟨a, ha, rfl⟩ := List.mem_map.mp hx
    exact areV_row fun b hb => T.pl a b (List.mem_range.mp ha) hb
  rw [e4, List.all_cons, List.all_cons, areV_row T.ol, areV_row T.bl]
  rfl
theorem data_lvs (L : List Nat) : dataAll (lvs L) = true := by
  induction L with
  | nil => rfl
  | cons a L ih => exact ih
theorem data_all {xs : List PV} (h : ∀ x ∈ xs, x.data = true) : dataAll xs = true := by
  induction xs with
  | nil => rfl
  | cons a xs ih =>
    show (a.data && dataAll xs) = true
    rw [h a (by simp), ih fun x hx => h x (by simp [hx])]; rfl
theorem data_row (n : Nat) (f : Nat → Nat) : dataAll (rowL n f) = true := data_all fun x hx => by
  obtain ⟨a, ha, rfl⟩ := List.mem_map.mp hx
  rfl
theorem data_prod (t : Tb) : dataAll (prodL t) = true := data_all fun x hx => by
  obtain ⟨a, ha, rfl⟩ := List.mem_map.mp hx
  exact data_row _ _
theorem data_encT (L : List Nat) (t : Tb) : (encT L t).data = true := by
  show (dataAll (lvs L) && (dataAll (prodL t) && (dataAll (rowL t.n t.O) && (dataAll (rowL t.n t.B) && true)))) = true
  rw [data_lvs, data_prod, data_row, data_row]; rfl
theorem wts_one {xs : List PV} (h : ∀ x ∈ xs, wt x ≤ 1) : wts xs ≤ xs.length := by
  have := L2.Sm.wts_le (w := 1) h
  omega
theorem wt_row (n : Nat) (f : Nat → Nat) : wts (rowL n f) ≤ n := by
  have := wts_one (xs := rowL n f) fun x hx => by
    obtain ⟨a, ha, rfl⟩ := List.mem_map.mp hx
    exact Nat.le_refl _
  rwa [len_rowL] at this
theorem wt_encT {L : List Nat} {t : Tb} (T : Lt t) (h : L.length ≤ 10) : wt (encT L t) ≤ 60 := by
  have n5 := T.n5
  have h1 := wts_one (xs := lvs L) fun x hx => by
    obtain ⟨a, ha, rfl⟩ := List.mem_map.mp hx
    exact Nat.le_refl _
  have h2 := wt_row t.n t.O
  have h3 := wt_row t.n t.B
  have h4 := L2.Sm.wts_le (w := 6) (xs := prodL t) fun x hx => by
    obtain ⟨a, ha, rfl⟩ := List.mem_map.mp hx
    have := wt_row t.n (t.P a)
    rw [wt]; omega
  have e3 : (lvs L).length = L.length := by simp [lvs]
  rw [len_prodL] at h4
  rw [e3] at h1
  show 1 + (1 + wts (lvs L) + (1 + wts (prodL t) + (1 + wts (rowL t.n t.O) + (1 + wts (rowL t.n t.B) + 0)))) ≤ 60
  omega
theorem e_not_table (H : HasTa g) (hv : v.data = true) (hs : wt v ≤ 100000) (hf : isForm v = false) : (g.ctx cl (n + 5)).fn "is_table_in" [v] st = .ok (.bl false) st := by
  have ef := fun st => e_is_form (cl := cl) (n := n) (st := st) H hv hs
  rw [hf] at ef
  refine fn_eq H.it rfl rfl (by simp [freeAll, data_free v hv, PV.free]) ?_
  simp [f_is_table_in, env0, wp_ss, ef]
theorem e_is_table (H : HasTa g) {t : Tb} {L : List Nat} (T : Lt t) (hL : L ≠ []) (h10 : L.length ≤ 10) (hl : ∀ a ∈ L, a < t.n) (hu : (unitV t = .non ∧ tripV t = .non ∧ moveV t t.O = .non ∧ agaV t t.O = .non ∧ turnV t t.B = .non ∧ agaV t t.B = .non) ∨ unitV t = .tup [.int 0]) :
    (g.ctx cl (n + 5)).fn "is_table_in" [encT L t] st = .ok (.bl (match unitV t with | .non => true | _ => false)) st := by
  have n5 := T.n5
  have ef := fun st => e_is_form (cl := cl) (n := n) (st := st) H (data_encT L t) (by have := wt_encT T h10; omega)
  rw [form_enc T hL hl] at ef
  have el := fun st => e_law_fault (cl := cl) (n := n + 2) (st := st) H T L hu
  have gM : g.gl.lookup ("MOST_LOOKED" : Str) = some (.int 16) := H.gM
  refine fn_eq H.it rfl rfl (by simp [freeAll, free_encT]) ?_
  have lx := len_prodL t
  have ix : ∀ st, ixV st (encT L t) (.int 1) = some (.tup (prodL t)) := fun st => rfl
  obtain ⟨X, hX⟩ : ∃ X, encT L t = X := ⟨_, rfl⟩
  obtain ⟨Y, hY⟩ : ∃ X, prodL t = X := ⟨_, rfl⟩
  rw [hX, hY] at ix
  rw [hX] at ef el ⊢
  rw [hY] at lx
  have gt : ∀ st, cmpV .gt st (.int (t.n : Nat)) (.int 16) = some false := fun st => by
    have : ¬ (16 < (t.n : Int)) := by omega
    simp [cmpV, this]
  rcases hu with ⟨h1, _⟩ | h1
  · rw [h1] at el ⊢
    simp only [lfV] at el
    simp [f_is_table_in, env0, wp_ss, ef, ix, lx, gM, gt, el]
  · rw [h1] at el ⊢
    simp only [lfV] at el
    simp [f_is_table_in, env0, wp_ss, ef, ix, lx, gM, gt, el]
theorem e_check_ok (H : HasTa g) {t : Tb} {L : List Nat} (T : Lw t) (hL : L ≠ []) (h10 : L.length ≤ 10) (hl : ∀ a ∈ L, a < t.n) : (g.ctx cl (n + 6)).fn "check_table" [encT L t] st = .ok .non st := by
  have ei := fun st => e_is_table (cl := cl) (n := n) (st := st) H T.toLt hL h10 hl (.inl (law_none T))
  rw [(law_none T).1] at ei
  simp only [] at ei
  refine fn_eq H.ct rfl rfl (by simp [freeAll, free_encT]) ?_
  obtain ⟨X, hX⟩ : ∃ X, encT L t = X := ⟨_, rfl⟩
  rw [hX] at ei ⊢
  simp [f_check_table, env0, wp_ss, ei]
theorem e_check_no (H : HasTa g) (hv : v.data = true) (hi : ∀ st, (g.ctx cl n).fn "is_table_in" [v] st = .ok (.bl false) st) : (g.ctx cl (n + 1)).fn "check_table" [v] st = .exc "InvalidTable" v st := by
  have he : (g.ecs.lookup ("InvalidTable" : Str)).isSome = true := H.eT
  refine fn_exc H.ct rfl (by simp [freeAll, data_free v hv]) ?_
  simp [f_check_table, env0, wp_ss, hi, he, frz_free (data_free v hv)]
end
end L2.Ta
namespace L2.Ta
open PySem L2.Iv
open L2.Tm hiding lets fin
open L2.P (At Glb Ec btw lvs lvs_free e_is_integer e_is_between r_lc2' HasTm e_check_term)
open L2.St (data_mem wt_mem)
theorem wp_find {α : Type} {g : α → PV} {f : PV → Iv.Env → Store → Out Fl} {Q : Fl → Store → Prop} {st : Store} (p : α → Bool) (En : Iv.Env → Prop) : ∀ (xs : List α)
    (turn : ∀ x env, x ∈ xs → En env → wpO (f (g x) env st) fun r st1 => st1 = st ∧ match p x, r with
      | false, .nx e => En e
      | true, .rt u => u = g x
      | _, _ => False)
    (stop : xs.find? p = none → ∀ env, En env → Q (.nx env) st) (hit : ∀ x, xs.find? p = some x → Q (.rt (g x)) st) (env : Iv.Env) (h : En env), wpO (loopF [] f (xs.map g) env st) Q
  | [], turn, stop, hit, env, h => by
    unfold List.map loopF
    rw [if_pos (by simp : watchOk [] st)]
    exact stop rfl env h
  | x :: xs, turn, stop, hit, env, h => by
    rw [List.map_cons]
    unfold loopF
    rw [if_pos (by simp : watchOk [] st), wp_bind]
    refine wp_mono (turn x env (List.mem_cons_self ..) h) fun r st1 q => ?_
    obtain ⟨rfl, q⟩ := q
    cases hp : p x with
    | false =>
      rw [hp] at q
      cases r with
      | nx e =>
        refine wp_find p En xs (fun y env hy => turn y env (List.mem_cons_of_mem _ hy)) (fun hn => stop ?_) (fun y hy => hit y ?_) e q
        · rw [List.find?_cons, hp]; exact hn
        · rw [List.find?_cons, hp]; exact hy
      | ct e => exact q.elim
      | bk e => exact q.elim
      | rt v => exact q.elim
      | rz => exact q.elim
    | true =>
      rw [hp] at q
      cases r with
      | rt u =>
        have q : u = g x := q
        subst q
        exact hit x (by rw [List.find?_cons, hp])
      | nx e => exact q.elim
      | ct e => exact q.elim
      | bk e => exact q.elim
      | rz => exact q.elim
def CL (n m : Nat) : List PV := (ch n m).map fun vs => .tup (lvs vs)
theorem free_CL (n m : Nat) : freeAll (CL n m) = true := by
  rw [freeAll_all, List.all_eq_true]
  intro x hx
  obtain ⟨p, _, rfl⟩ := List.mem_map.mp hx
  exact lvs_free p
theorem at_lvs {L : List Nat} {i : Nat} (h : i < L.length) : L2.atI (lvs L) (i : Int) = some (.int (L.getD i 0 : Nat)) := by
  unfold lvs
  rw [at_map h, List.getD_eq_getElem?_getD, List.getElem?_eq_getElem h]; rfl
theorem fold_mx : ∀ (l : List Nat) (a : Int), -1 ≤ a → (l.map fun n : Nat => (n : Int)).foldl max a = max a ((mx l : Nat) - 1)
  | [], a, h => by show a = max a ((0 : Nat) - 1 : Int); rw [Int.max_def]; split <;> omega
  | n :: l, a, h => by
    rw [List.map_cons, List.foldl_cons, fold_mx l _ (by rw [Int.max_def]; split <;> omega), mx]
    simp only [Int.max_def, Nat.max_def]
    split <;> split <;> split <;> (try split) <;> omega
theorem maxl_mx (l : List Nat) (st : Store) : biV .maxl true st [.lsv (lvs l ++ [.int (-1)])] = .ok (.int ((mx l : Nat) - 1)) st := by
  have e : lvs l ++ [.int (-1)] = ((l.map fun n : Nat => (n : Int)) ++ [-1]).map PV.int := by rw [List.map_append, List.map_map]; rfl
  have im : intsOf (lvs l ++ [.int (-1)]) = some ((l.map fun n : Nat => (n : Int)) ++ [-1]) := by
    rw [e]
    have := ints_map (fun i : Int => i) ((l.map fun n : Nat => (n : Int)) ++ [-1])
    rw [List.map_id'] at this
    exact this
  have sq : (seqL st (.lsv (lvs l ++ [.int (-1)]))).bind intsOf = some ((l.map fun n : Nat => (n : Int)) ++ [-1]) := by
    rw [seqL_lsv]; exact im
  show (match (seqL st (.lsv (lvs l ++ [.int (-1)]))).bind intsOf with
      | some (n :: ns) => Out.ok (PV.int (ns.foldl max n)) st
      | _ => .bad) = _
  rw [sq]
  cases l with
  | nil => rfl
  | cons a l =>
    show Out.ok (PV.int (((l.map fun n : Nat => (n : Int)) ++ [-1]).foldl max (a : Int))) st = _
    rw [List.foldl_append, fold_mx l _ (by omega), mx]
    congr 2
    show max (max (a : Int) _) (-1) = _
    simp only [Int.max_def, Nat.max_def]
    split <;> split <;> (try split) <;> (try split) <;> omega
theorem maxd_mx (l : List Nat) (st : Store) : maxdV st (.lsv (l.map fun n : Nat => .int ((n : Int) + 1))) (.int 0) = .ok (.int (mx l : Nat)) st := by
  have im : intsOf (l.map fun n : Nat => PV.int ((n : Int) + 1)) = some (l.map fun n : Nat => (n : Int) + 1) := ints_map _ _
  have sq : (seqL st (.lsv (l.map fun n : Nat => PV.int ((n : Int) + 1)))).bind intsOf = some (l.map fun n : Nat => (n : Int) + 1) := by
    rw [seqL_lsv]; exact im
  unfold maxdV
  rw [sq]
  cases l with
  | nil => rfl
  | cons a l =>
    show Out.ok (PV.int ((l.map fun n : Nat => (n : Int) + 1).foldl max ((a : Int) + 1))) st = _
    have f1 : ∀ (l : List Nat) (a : Nat), (l.map fun n : Nat => (n : Int) + 1).foldl max (a : Int) = (max a (mx l) : Nat) := fun l => by
      induction l with
      | nil => intro a; rw [mx]; show (a : Int) = _; congr 1; omega
      | cons b l ih =>
        intro a
        rw [List.map_cons, List.foldl_cons, show max (a : Int) ((b : Int) + 1) = (max a (b + 1) : Nat) by simp only [Int.max_def, Nat.max_def]; split <;> split <;> omega, ih, mx]
        congr 1; omega
    have := f1 l (a + 1)
    rw [show ((a + 1 : Nat) : Int) = (a : Int) + 1 by omega] at this
    rw [this, mx]
structure HasId (g : Sg) : Prop extends HasTa g, HasTm g where
  kt : At g "check_term" L2.P.f_check_term
  pa : At g "parts_in" L2.P.f_parts_in
  li : At g "letters_in" L2.P.f_letters_in
  vi : At g "value_in" f_value_in
  cs : At g "choices" f_choices
  fi : At g "failing_in" f_failing_in
  ci : At g "check_identity" f_check_identity
  ho : At g "holds_in" f_holds_in
  fa : At g "failing" f_failing
  gL : Glb g "MOST_LETTERS" L2.P.gl_MOST_LETTERS
  eM : Ec g "InvalidTerm"
theorem letss_mem {c : Nat} {u : Tm} {us : List Tm} (hu : u ∈ us) (h : c ∈ L2.Tm.lets u) : c ∈ letss us := by
  rw [letss_flat]
  exact List.mem_flatMap.mpr ⟨u, hu, h⟩
section
variable {g : Sg} {cl : Str → Nat} {n : Nat} {st : Store} {v : PV}
theorem e_value_in (H : HasId g) {t : Tb} (T : Lt t) {L : List Nat} (hL : ∀ a ∈ L, a < t.n) : ∀ (n : Nat) (u : Tm), dep u ≤ n → dep u ≤ 60 → (∀ c ∈ L2.Tm.lets u, c < L.length) →
    ∀ st, (g.ctx cl (n + 2)).fn "value_in" [encT L t, enc u] st = .ok (.int (valT t L u : Nat)) st := by
  have i0 : ∀ st, ixV st (encT L t) (.int 0) = some (.tup (lvs L)) := fun st => rfl
  have i1 : ∀ st, ixV st (encT L t) (.int 1) = some (.tup (prodL t)) := fun st => rfl
  have i2 : ∀ st, ixV st (encT L t) (.int 2) = some (.tup (rowL t.n t.O)) := fun st => rfl
  have i3 : ∀ st, ixV st (encT L t) (.int 3) = some (.tup (rowL t.n t.B)) := fun st => rfl
  have hl := fun i (h : i < L.length) => at_lvs h
  have hx := fun a (ha : a < t.n) => at_prodL ha
  have ho := fun a (ha : a < t.n) => at_rowL (f := t.O) ha
  have hb := fun a (ha : a < t.n) => at_rowL (f := t.B) ha
  have fx := free_encT L t
  obtain ⟨X, hX⟩ : ∃ X, encT L t = X := ⟨_, rfl⟩
  obtain ⟨W, hW⟩ : ∃ X, lvs L = X := ⟨_, rfl⟩
  obtain ⟨Y, hY⟩ : ∃ X, prodL t = X := ⟨_, rfl⟩
  obtain ⟨A, hA⟩ : ∃ X, rowL t.n t.O = X := ⟨_, rfl⟩
  obtain ⟨B, hB⟩ : ∃ X, rowL t.n t.B = X := ⟨_, rfl⟩
  rw [hX, hW] at i0
  rw [hX, hY] at i1
  rw [hX, hA] at i2
  rw [hX, hB] at i3
  rw [hX] at fx ⊢
  rw [hW] at hl
  rw [hY] at hx
  rw [hA] at ho
  rw [hB] at hb
  clear hX hW hY hA hB
  have n0 : 0 < t.n := by have := T.n2; omega
  have hr := fun a b (ha : a < t.n) (hb : b < t.n) => at_rowL (f := t.P a) hb
  have gN : g.gl.lookup ("NONE" : Str) = some (.tup [.str "none"]) := H.gN
  intro n
  induction n with
  | zero =>
    intro u hd hd2 hc st
    have ei := fun st => e_is_integer (cl := cl) (n := 0) (st := st) H.ii (fit_data (fit_enc u 64 (by omega)))
    refine fn_eq H.vi rfl rfl (by simp [freeAll, free_enc, fx]) ?_
    cases u <;> simp [dep] at hd
    rename_i m
    have hm := hl m (hc m (by simp [L2.Tm.lets]))
    simp only [enc] at ei ⊢
    simp [f_value_in, env0, wp_ss, ei, isInt, i0, hm, valT]
  | succ n ih =>
    intro u hd hd2 hc st
    have ei := fun st => e_is_integer (cl := cl) (n := n + 1) (st := st) H.ii (fit_data (fit_enc u 64 (by omega)))
    refine fn_eq H.vi rfl rfl (by simp [freeAll, free_enc, fx]) ?_
    cases u with
    | l m =>
      have hm := hl m (hc m (by simp [L2.Tm.lets]))
      simp only [enc] at ei ⊢
      simp [f_value_in, env0, wp_ss, ei, isInt, i0, hm, valT]
    | no =>
      have ev := fun st => eqv_none (st := st) (xs := []) (w := "none") (by show (fit 63 (.str "none") && true) = true; rw [fit_str, ok_none]; rfl)
      simp only [enc] at ei ⊢
      simp [f_value_in, env0, wp_ss, ei, isInt, gN, cmpV, ev, valT]
    | on u =>
      have e := ih u (by rw [dep] at hd; omega) (by rw [dep] at hd2; omega) (fun c h => hc c (by rw [L2.Tm.lets]; exact h))
      have ev := fun st => eqv_none (st := st) (xs := [enc u]) (w := "on") (by show (fit 63 (.str "on") && (fit 63 (enc u) && true)) = true; rw [fit_str, ok_on, fit_enc u 63 (by rw [dep] at hd2; omega)]; rfl)
      have hm := ho _ (val_lt T hL u)
      simp only [enc] at ei ⊢
      simp [f_value_in, env0, wp_ss, ei, isInt, gN, cmpV, ev, e, i2, hm, valT]
    | bk u =>
      have e := ih u (by rw [dep] at hd; omega) (by rw [dep] at hd2; omega) (fun c h => hc c (by rw [L2.Tm.lets]; exact h))
      have ev := fun st => eqv_none (st := st) (xs := [enc u]) (w := "back") (by show (fit 63 (.str "back") && (fit 63 (enc u) && true)) = true; rw [fit_str, ok_back, fit_enc u 63 (by rw [dep] at hd2; omega)]; rfl)
      have hm := hb _ (val_lt T hL u)
      simp only [enc] at ei ⊢
      simp [f_value_in, env0, wp_ss, ei, isInt, gN, cmpV, ev, e, i3, hm, valT]
    | th us =>
      have each : ∀ x ∈ us, ∀ st, (g.ctx cl (n + 2)).fn "value_in" [X, enc x] st = .ok (.int (valT t L x : Nat)) st := fun x hx => by
        have := mem_dep hx
        rw [dep] at hd hd2
        exact ih x (by omega) (by omega) (fun c h => hc c (by rw [L2.Tm.lets]; exact letss_mem hx h))
      have ev := fun st => eqv_none (st := st) (xs := encs us) (w := "then") (by show (fit 63 (.str "then") && fits 63 (encs us)) = true; rw [fit_str, ok_then, fits_encs us 63 (by rw [dep] at hd2; omega)]; rfl)
      simp only [enc] at ei ⊢
      simp only [f_value_in, env0]
      rw [wp_ss]
      simp [ei, isInt]
      rw [wp_ss]
      simp [gN, cmpV, ev]
      rw [wp_ss]
      simp [cmpV]
      rw [wp_ss]
      simp [cmpV]
      rw [wp_ss]
      simp
      rw [wp_ss]
      simp [encs_map]
      obtain ⟨I, hI⟩ : ∃ I : List Tm → Iv.Env → Store → Prop, I = fun l env st' => (∀ x ∈ l, x ∈ us) ∧ ∃ (acc : Nat) (w : Option PV), env = [some X, some (.tup (.str "then" :: List.map enc us)), some (.int (acc : Nat)), w] ∧ st' = [] ∧ acc < t.n ∧ valF t L acc l = valF t L 0 us := ⟨_, rfl⟩
      refine wp_loopM (g := enc) I ?_ ?_ us _ _ (by rw [hI]; exact ⟨fun x hx => hx, 0, none, rfl, rfl, n0, rfl⟩)
      · intro x xs env st' hh
        rw [hI] at hh
        obtain ⟨hm, acc, w, rfl, rfl, ha, hv⟩ := hh
        have hxm := hm x (by simp)
        have lx := val_lt T hL x
        refine ⟨by simp, ?_⟩
        simp
        rw [wp_ss]
        simp [i1, hx acc ha, hr acc _ ha lx, each x hxm]
        rw [hI]
        exact ⟨fun y hy => hm y (by simp [hy]), _, _, rfl, rfl, T.pl _ _ ha lx, by rw [← hv, valF]⟩
      · intro env st' hh
        rw [hI] at hh
        obtain ⟨hm, acc, w, rfl, rfl, ha, hv⟩ := hh
        refine ⟨by simp, ?_⟩
        simp [wp_ss, valT, ← hv, valF]
end
end L2.Ta
namespace L2.Ta
open PySem L2.Iv
open L2.Tm hiding lets fin
open L2.P (At Glb Ec btw lvs lvs_free e_is_integer e_is_between r_lc2' HasTm e_check_term e_letters_in)
open L2.St (data_mem wt_mem)
theorem rngL_lvs (n : Nat) : rngL 0 1 n = lvs (List.range n) := by
  unfold rngL lvs
  refine List.map_congr_left fun i hi => ?_
  congr 1; omega
theorem lvs_snoc (a : List Nat) (b : Nat) : lvs a ++ [.int (b : Nat)] = lvs (a ++ [b]) := by unfold lvs; rw [List.map_append]; rfl
theorem CL_len (n m : Nat) : (CL n m).length = n ^ m := by unfold CL; rw [List.length_map, ch_len]
theorem pow_le {n m : Nat} (hn : n ≤ 5) (hm : m ≤ 4) : n ^ m ≤ 625 := by
  have h1 : n ^ m ≤ 5 ^ m := Nat.pow_le_pow_left hn m
  have h2 : 5 ^ m ≤ 5 ^ 4 := Nat.pow_le_pow_right (by decide) hm
  exact Nat.le_trans h1 h2
def outL : Option (List Nat) → PV
  | none => .non
  | some vs => .tup (lvs vs)
section
variable {g : Sg} {cl : Str → Nat} {n : Nat} {st : Store} {v : PV}
theorem e_choices (H : HasId g) {k m : Nat} (hk : k ≤ 5) (hm : m ≤ 4) : (g.ctx cl (n + 1)).fn "choices" [.int (m : Nat), .lsv (lvs (List.range k))] st = .ok (.lsv (CL k m)) st := by
  have big : 100000 ≤ sizeLine := by decide
  refine fn_eq H.cs rfl rfl (by simp [freeAll, PV.free, lvs_free]) ?_
  have fz := frz_free (m := 0) (s := []) (k := 64) (v := .lsv (CL k m)) (free_CL k m)
  simp only [f_choices, env0]
  rw [wp_ss]
  simp
  rw [wp_ss]
  simp
  rw [rng1_ok (by omega) (by omega)]
  simp
  obtain ⟨I, hI⟩ : ∃ I : Nat → Iv.Env → Store → Prop, I = fun i env st' => ∃ (w1 w2 w3 : Option PV), env = [some (.int (m : Nat)), some (.lsv (lvs (List.range k))), some (.lsv (CL k i)), w1, w2, w3] ∧ st' = [] := ⟨_, rfl⟩
  refine wp_rng I ?_ ?_ _ _ (by rw [hI]; exact ⟨none, none, none, rfl, rfl⟩)
  · intro i env st' hi hh
    rw [hI] at hh
    obtain ⟨w1, w2, w3, rfl, rfl⟩ := hh
    have nx : ∀ w1 w2 w3, I (i + 1) [some (.int (m : Nat)), some (.lsv (lvs (List.range k))), some (.lsv (CL k (i + 1))), w1, w2, w3] [] := fun w1 w2 w3 => by rw [hI]; exact ⟨w1, w2, w3, rfl, rfl⟩
    have p1 := pow_le hk (by omega : i + 1 ≤ 4)
    have inner : ∀ (a : List Nat) (f : PV → Store → Out (List PV)), a.length ≤ 10 → (∀ b ∈ List.range k, f (.int (b : Nat)) [] = .ok [.tup (lvs (a ++ [b]))] []) → compF [] f (lvs (List.range k)) [] [] = .ok ((List.range k).map fun b => .tup (lvs (a ++ [b]))) [] := fun a f ha hf => by
      exact Iv.comp_map (g := fun n : Nat => PV.int (n : Int)) (w := []) (f := f) (st := []) (fun b => PV.tup (lvs (a ++ [b]))) (List.range k) (by simp) hf (by rw [List.length_range]; omega)
    have e1 : CL k (i + 1) = (ch k i).flatMap fun a => (List.range k).map fun b => PV.tup (lvs (a ++ [b])) := by
      unfold CL
      rw [ch, List.map_flatMap]
      congr 1
      funext a
      rw [List.map_map]; rfl
    have outer : ∀ (f : PV → Store → Out (List PV)), (∀ a ∈ ch k i, f (.tup (lvs a)) [] = .ok ((List.range k).map fun b => PV.tup (lvs (a ++ [b]))) []) → compF [] f (CL k i) [] [] = .ok (CL k (i + 1)) [] := fun f hf => by
      have := comp_eq (g := fun a => PV.tup (lvs a)) (w := []) (f := f) (st := []) (out := fun a => (List.range k).map fun b => PV.tup (lvs (a ++ [b]))) (by simp) (ch k i) [] hf (by rw [← e1, CL_len]; show 0 + _ ≤ _; omega)
      rw [← e1, List.nil_append] at this
      exact this
    obtain ⟨C1, hC⟩ : ∃ C, CL k i = C := ⟨_, rfl⟩
    obtain ⟨C2, hC2⟩ : ∃ C, CL k (i + 1) = C := ⟨_, rfl⟩
    rw [hC2] at nx outer
    rw [hC] at outer ⊢
    simp
    rw [wp_ss]
    simp [r_lc2']
    rw [outer _ (fun a ha => by
      have la := (ch_lt ha).1
      have ll : (lvs a).length = a.length := by simp [lvs]
      simp
      rw [inner a _ (by omega) (fun b hb => by
        have q : (lvs a).length + 1 ≤ sizeLine := by omega
        simp [q, lvs_snoc])]
      try simp)]
    simp
    exact nx _ _ _
  · intro env st' hh
    rw [hI] at hh
    obtain ⟨w1, w2, w3, rfl, rfl⟩ := hh
    simp [wp_ss, fz]
theorem e_failing_in (H : HasId g) {t : Tb} (T : Lt t) {L : List Nat} {u w : Tm} (hu : dep u ≤ 60) (hw : dep w ≤ 60) (su : sg u ≤ 1000) (sw : sg w ≤ 1000) (h4 : many u w ≤ 4) :
    (g.ctx cl (n + 70)).fn "failing_in" [encT L t, enc u, enc w] st = .ok (outL (failT t u w)) st := by
  have big : 100000 ≤ sizeLine := by decide
  have n5 := T.n5
  refine fn_eq H.fi rfl rfl (by simp [freeAll, free_enc, free_encT]) ?_
  have l1 := fun st => e_letters_in (cl := cl) H.li H.pa H.ii (n + 66) u (by omega) (by omega) (by omega) st
  have l2 := fun st => e_letters_in (cl := cl) H.li H.pa H.ii (n + 66) w (by omega) (by omega) (by omega) st
  have ec := fun st => e_choices (cl := cl) (n := n + 68) (st := st) H (k := t.n) (m := many u w) n5 h4
  have b1 := L2.P.lets_len u
  have b2 := L2.P.lets_len w
  have a1 : ∀ st : Store, binV .add true st (.lsv (lvs (L2.Tm.lets u))) (.lsv (lvs (L2.Tm.lets w))) = .ok (.lsv (lvs (L2.Tm.lets u ++ L2.Tm.lets w))) st := fun st => by
    have : (lvs (L2.Tm.lets u)).length + (lvs (L2.Tm.lets w)).length ≤ sizeLine := by simp only [lvs, List.length_map]; omega
    rw [b_addL, if_pos this]
    unfold lvs
    rw [List.map_append]; rfl
  have a2 : ∀ st : Store, binV .add true st (.lsv (lvs (L2.Tm.lets u ++ L2.Tm.lets w))) (.lsv [.int (-1)]) = .ok (.lsv (lvs (L2.Tm.lets u ++ L2.Tm.lets w) ++ [.int (-1)])) st := fun st => by
    have : (lvs (L2.Tm.lets u ++ L2.Tm.lets w)).length + [PV.int (-1)].length ≤ sizeLine := by simp only [lvs, List.length_map, List.length_append, List.length_cons, List.length_nil]; omega
    rw [b_addL, if_pos this]; rfl
  have mm := maxl_mx (L2.Tm.lets u ++ L2.Tm.lets w)
  rw [show mx (L2.Tm.lets u ++ L2.Tm.lets w) = many u w from rfl] at mm
  have vu := fun (vs : List Nat) (h : vs ∈ ch t.n (many u w)) st => e_value_in (cl := cl) H T (ch_lt h).2 (n + 67) u (by omega) hu (fun c hc => by
    rw [(ch_lt h).1]
    exact mx_mem (List.mem_append_left _ hc)) st
  have vw := fun (vs : List Nat) (h : vs ∈ ch t.n (many u w)) st => e_value_in (cl := cl) H T (ch_lt h).2 (n + 67) w (by omega) hw (fun c hc => by
    rw [(ch_lt h).1]
    exact mx_mem (List.mem_append_right _ hc)) st
  have i1 : ∀ st, ixV st (encT L t) (.int 1) = some (.tup (prodL t)) := fun st => rfl
  have lp := len_prodL t
  have ow : ∀ (vs : List Nat) (st : Store), (binV .add true st (.tup [.tup (lvs vs)]) (.tup [.tup (prodL t), .tup (rowL t.n t.O), .tup (rowL t.n t.B)])) = .ok (encT vs t) st := fun vs st => rfl
  have sl : ∀ (st : Store), slV true st (encT L t) (some 1) none = .ok (.tup [.tup (prodL t), .tup (rowL t.n t.O), .tup (rowL t.n t.B)]) st := fun st => rfl
  have r1 : rngL 0 1 t.n = lvs (List.range t.n) := rngL_lvs t.n
  obtain ⟨X, hX⟩ : ∃ X, encT L t = X := ⟨_, rfl⟩
  obtain ⟨Y, hY⟩ : ∃ X, prodL t = X := ⟨_, rfl⟩
  obtain ⟨Z, hZ⟩ : ∃ X, PV.tup [.tup (prodL t), .tup (rowL t.n t.O), .tup (rowL t.n t.B)] = X := ⟨_, rfl⟩
  obtain ⟨U, hU⟩ : ∃ X, enc u = X := ⟨_, rfl⟩
  obtain ⟨W, hW⟩ : ∃ X, enc w = X := ⟨_, rfl⟩
  rw [hX, hY] at i1
  rw [hX] at sl
  rw [hZ] at sl ow
  rw [hY] at lp
  rw [hU] at l1 vu
  rw [hW] at l2 vw
  rw [hX, hU, hW]
  clear hX hY hZ hU hW
  obtain ⟨C, hC⟩ : ∃ C, lvs (L2.Tm.lets u) = C := ⟨_, rfl⟩
  obtain ⟨D, hD⟩ : ∃ C, lvs (L2.Tm.lets w) = C := ⟨_, rfl⟩
  obtain ⟨E, hE⟩ : ∃ C, lvs (L2.Tm.lets u ++ L2.Tm.lets w) = C := ⟨_, rfl⟩
  obtain ⟨F, hF⟩ : ∃ C, E ++ [.int (-1)] = C := ⟨_, rfl⟩
  rw [hC] at l1 a1
  rw [hD] at l2 a1
  rw [hE] at a1 a2 mm
  rw [hF] at a2 mm
  have en : ∀ st, lrgV true st (.int (t.n : Nat)) = .ok (.lsv (lvs (List.range t.n))) st := fun st => by
    rw [lrg_ok (by omega) (by omega)]
    rw [Int.toNat_natCast, r1]; rfl
  simp only [f_failing_in, env0]
  rw [wp_ss]
  simp [-b_addL, l1, l2, a1, a2, mm]
  rw [show (1 : Int) + ((many u w : Nat) - 1) = (many u w : Nat) by omega]
  rw [wp_ss]
  simp [i1, lp, en, ec]
  have fz := fun (z : Store) (vs : List Nat) => frz_free (m := 0) (s := z) (k := 64) (v := .tup (lvs vs)) (lvs_free vs)
  refine wp_find (g := fun vs => PV.tup (lvs vs)) (fun vs => decide (valT t vs u ≠ valT t vs w)) (fun e => ∃ w1 w2, e = [some X, some U, some W, some (.int (many u w : Nat)), w1, w2]) (ch t.n (many u w)) ?_ ?_ ?_ _ ⟨none, none, rfl⟩
  · rintro vs env hvs ⟨w1, w2, rfl⟩
    simp
    rw [wp_ss]
    simp [-b_addT, sl, ow]
    rw [wp_ss]
    have e1 := vu vs hvs
    have e2 := vw vs hvs
    obtain ⟨V, hV⟩ : ∃ V, encT vs t = V := ⟨_, rfl⟩
    rw [hV] at e1 e2 ⊢
    simp [e1, e2, eq_nat]
    by_cases e : valT t vs u = valT t vs w
    · simp [e]
    · simp [e, wp_ss, Int.natCast_inj, fz]
  · rintro e env ⟨w1, w2, rfl⟩
    have : failT t u w = none := e
    rw [this]
    simp [wp_ss, outL]
  · intro vs e
    have : failT t u w = some vs := e
    rw [this]
    simp [outL, fz]
end
end L2.Ta
namespace L2.Ta
open PySem L2.Iv
open L2.Tm hiding lets fin
open L2.P (At Glb Ec btw lvs lvs_free HasTm e_check_term)
inductive Idr (tk : Bool) (a b c : PV) : Option (Str × PV) → Prop
  | a : tk = false → Idr tk a b c (some ("InvalidTable", a))
  | b : tk = true → isTm 4 b = false → Idr tk a b c (some ("InvalidTerm", b))
  | c : tk = true → isTm 4 b = true → isTm 4 c = false → Idr tk a b c (some ("InvalidTerm", c))
  | o : tk = true → isTm 4 b = true → isTm 4 c = true → Idr tk a b c none
def outX (o : Option (Str × PV)) (v : PV) (st : Store) : Out PV := match o with
  | none => .ok v st
  | some e => .exc e.1 e.2 st
section
variable {g : Sg} {cl : Str → Nat} {n : Nat} {st : Store} {a b c : PV} {tk : Bool}
theorem e_check_identity (H : HasId g) (ha : a.free = true) (hk : ∀ st, (g.ctx cl (n + 6)).fn "check_table" [a] st = if tk = true then .ok .non st else .exc "InvalidTable" a st) (fb : fit 64 b = true) (lb : wt b ≤ 1000000) (fc : fit 64 c = true) (lc : wt c ≤ 1000000)
    {o : Option (Str × PV)} (ho : Idr tk a b c o) : (g.ctx cl (n + 7)).fn "check_identity" [a, b, c] st = outX o .non st := by
  have kb := fun st => e_check_term (cl := cl) (n := n + 2) (st := st) (k := 4) H.kt H.toHasTm H.eM fb lb
  have kc := fun st => e_check_term (cl := cl) (n := n + 2) (st := st) (k := 4) H.kt H.toHasTm H.eM fc lc
  have gL : g.gl.lookup ("MOST_LETTERS" : Str) = some (.int 4) := H.gL
  have bf := data_free b (fit_data fb)
  have cf := data_free c (fit_data fc)
  have fr : freeAll [a, b, c] = true := by simp [freeAll, ha, bf, cf]
  cases ho with
  | a h =>
    subst h
    refine fn_exc H.ci rfl fr ?_
    simp [f_check_identity, env0, wp_ss, hk, frz_free ha]
  | b h h1 =>
    subst h
    rw [h1] at kb
    refine fn_exc H.ci rfl fr ?_
    simp [f_check_identity, env0, wp_ss, hk, kb, gL, frz_free bf]
  | c h h1 h2 =>
    subst h
    rw [h1] at kb
    rw [h2] at kc
    refine fn_exc H.ci rfl fr ?_
    simp [f_check_identity, env0, wp_ss, hk, kb, kc, gL, frz_free cf]
  | o h h1 h2 =>
    subst h
    rw [h1] at kb
    rw [h2] at kc
    refine fn_eq H.ci rfl rfl fr ?_
    simp [f_check_identity, env0, wp_ss, hk, kb, kc, gL]
theorem e_failing (H : HasId g) (ha : a.free = true) (hk : ∀ st, (g.ctx cl (n + 6)).fn "check_table" [a] st = if tk = true then .ok .non st else .exc "InvalidTable" a st) (fb : fit 64 b = true) (lb : wt b ≤ 1000000) (fc : fit 64 c = true) (lc : wt c ≤ 1000000)
    {o : Option (Str × PV)} (ho : Idr tk a b c o) {R : PV} (hR : R.free = true) (hr : o = none → ∀ st, (g.ctx cl (n + 7)).fn "failing_in" [a, b, c] st = .ok R st) : (g.ctx cl (n + 8)).fn "failing" [a, b, c] st = outX o R st := by
  have ec := fun st => e_check_identity (cl := cl) (n := n) (st := st) H ha hk fb lb fc lc ho
  have bf := data_free b (fit_data fb)
  have cf := data_free c (fit_data fc)
  have fr : freeAll [a, b, c] = true := by simp [freeAll, ha, bf, cf]
  have fo : ∀ e, o = some e → e.2.free = true := fun e he => by cases ho <;> cases he <;> assumption
  cases o with
  | none =>
    have hr := hr rfl
    simp only [outX] at ec ⊢
    refine fn_eq H.fa rfl rfl fr ?_
    simp [f_failing, env0, wp_ss, ec, hr, frz_free hR]
  | some e =>
    have fe := fo e rfl
    simp only [outX] at ec ⊢
    refine fn_exc H.fa rfl fr ?_
    simp [f_failing, env0, wp_ss, ec, frz_free fe]
def isNon : PV → Bool
  | .non => true
  | _ => false
theorem e_holds (H : HasId g) (ha : a.free = true) (hk : ∀ st, (g.ctx cl (n + 6)).fn "check_table" [a] st = if tk = true then .ok .non st else .exc "InvalidTable" a st) (fb : fit 64 b = true) (lb : wt b ≤ 1000000) (fc : fit 64 c = true) (lc : wt c ≤ 1000000)
    {o : Option (Str × PV)} (ho : Idr tk a b c o) {R : PV} (hr : o = none → ∀ st, (g.ctx cl (n + 7)).fn "failing_in" [a, b, c] st = .ok R st) : (g.ctx cl (n + 8)).fn "holds_in" [a, b, c] st = outX o (.bl (isNon R)) st := by
  have ec := fun st => e_check_identity (cl := cl) (n := n) (st := st) H ha hk fb lb fc lc ho
  have bf := data_free b (fit_data fb)
  have cf := data_free c (fit_data fc)
  have fr : freeAll [a, b, c] = true := by simp [freeAll, ha, bf, cf]
  have fo : ∀ e, o = some e → e.2.free = true := fun e he => by cases ho <;> cases he <;> assumption
  cases o with
  | none =>
    have hr := hr rfl
    simp only [outX] at ec ⊢
    refine fn_eq H.ho rfl rfl fr ?_
    cases R <;> simp [f_holds_in, env0, wp_ss, ec, hr, isNon]
  | some e =>
    have fe := fo e rfl
    simp only [outX] at ec ⊢
    refine fn_exc H.ho rfl fr ?_
    simp [f_holds_in, env0, wp_ss, ec, frz_free fe]
end
end L2.Ta
namespace L2.V
open PySem L2.Iv
def f__law_mixed : Fn where
  ps := ["number", "turn"]
  N := ["number", "turn", "one", "two"]
  body := (.cons (.asg (.p (.n 2)) (.bin .mod true (.bi .int true (.cons (.bin .add true (.bin .add true (.bin .add true (.bin .mul true (.v 0) (.c (.int 48271))) (.bin .mul true (.bin .mul true (.v 1) (.v 1)) (.c (.int 69621)))) (.bin .mul true (.v 1) (.c (.int 7919)))) (.c (.int 12345))) .nil)) (.c (.int 2147483629)))) <|
  .cons (.asg (.p (.n 3)) (.bin .mod true (.bi .int true (.cons (.bin .add true (.bin .add true (.bin .add true (.bin .mul true (.v 2) (.v 2)) (.bin .mul true (.c (.int 40692)) (.v 2))) (.bin .mul true (.v 1) (.c (.int 104729)))) (.c (.int 1))) .nil)) (.c (.int 2147483587)))) <|
  .cons (.ret (.bin .mod true (.bi .int true (.cons (.bin .add true (.bin .mul true (.v 3) (.c (.int 16807))) (.v 2)) .nil)) (.c (.int 1000000007)))) <|
  .nil)
  mt := false
def f__law_source : Fn where
  ps := ["script"]
  N := ["script"]
  body := (.cons (.ret (.lst false (.cons (.bi .list true (.cons (.v 0) .nil)) (.cons (.c (.int 0)) (.cons (.c (.int 0)) (.cons (.c (.int 0)) (.cons (.c (.int 0)) .nil))))))) <|
  .nil)
  mt := true
def f__law_draw : Fn where
  ps := ["source", "many"]
  N := ["source", "many", "cell", "found"]
  body := (.cons (.iff (.ands (.cons (.cmp .eq (.ix (.v 0) (.c (.int 2))) (.c (.int 0))) (.cons (.cmp .lt (.ix (.v 0) (.c (.int 1))) (.bi .len true (.cons (.ix (.v 0) (.c (.int 0))) .nil))) .nil))) (.cons (.asg (.p (.n 2)) (.ix (.ix (.v 0) (.c (.int 0))) (.ix (.v 0) (.c (.int 1))))) <|
    .cons (.asg (.sub (.v 0) (.c (.int 1))) (.bin .add true (.ix (.v 0) (.c (.int 1))) (.c (.int 1)))) <|
    .cons (.asg (.sub (.v 0) (.c (.int 4))) (.bin .mod true (.bi .int true (.cons (.bin .add true (.bin .mul true (.ix (.v 0) (.c (.int 4))) (.c (.int 31))) (.v 2)) .nil)) (.c (.int 1000000009)))) <|
    .cons (.iff (.cmp .ge (.v 2) (.bin .pow true (.c (.int 10)) (.c (.int 18)))) (.cons (.asg (.sub (.v 0) (.c (.int 2))) (.v 2)) <|
      .nil) (.nil)) <|
    .nil) (.nil)) <|
  .cons (.asg (.sub (.v 0) (.c (.int 3))) (.bin .add true (.ix (.v 0) (.c (.int 3))) (.c (.int 1)))) <|
  .cons (.iff (.cmp .gt (.ix (.v 0) (.c (.int 2))) (.c (.int 0))) (.cons (.asg (.p (.n 3)) (.bin .mod true (.bi .int true (.cons (.ix (.v 0) (.c (.int 2))) .nil)) (.v 1))) <|
    .cons (.asg (.sub (.v 0) (.c (.int 2))) (.bin .fdiv true (.ix (.v 0) (.c (.int 2))) (.v 1))) <|
    .cons (.ret (.v 3)) <|
    .nil) (.nil)) <|
  .cons (.ret (.bin .mod true (.bi .int true (.cons (.call "_law_mixed" (.cons (.ix (.v 0) (.c (.int 4))) (.cons (.ix (.v 0) (.c (.int 3))) .nil))) .nil)) (.v 1))) <|
  .nil)
  mt := false
end L2.V
namespace L2.V
open PySem L2.Iv L2.Tm
def At (g : Sg) (f : Str) (fn : Fn) : Prop := g.tb.lookup f = some fn
def Glb (g : Sg) (x : Str) (v : PV) : Prop := g.gl.lookup x = some v
def Src (c : Nat) (xs : List PV) : Prop := ∃ (ns : List Int) (p : Nat) (l t m : Int), xs = [.lsv (ns.map PV.int), .int p, .int l, .int t, .int m] ∧ 0 ≤ l ∧ 0 ≤ t ∧ t ≤ c ∧ 0 ≤ m ∧ m < 1000000009
theorem free_ints (ns : List Int) : freeAll (ns.map PV.int) = true := by
  rw [freeAll_all, List.all_eq_true]
  intro x hx
  obtain ⟨i, _, rfl⟩ := List.mem_map.mp hx
  rfl
theorem Src.free {c : Nat} {xs : List PV} (h : Src c xs) : freeAll xs = true := by
  obtain ⟨ns, p, l, t, m, rfl, _⟩ := h
  simp [freeAll, PV.free, free_ints]
theorem Src.up {c d : Nat} {xs : List PV} (h : Src c xs) (hd : c ≤ d) : Src d xs := by
  obtain ⟨ns, p, l, t, m, e, h1, h2, h3, h4⟩ := h
  exact ⟨ns, p, l, t, m, e, h1, h2, by omega, h4⟩
@[simp] theorem ix50 : L2.ixN 5 0 = some 0 := rfl
@[simp] theorem ix51 : L2.ixN 5 1 = some 1 := rfl
@[simp] theorem ix52 : L2.ixN 5 2 = some 2 := rfl
@[simp] theorem ix53 : L2.ixN 5 3 = some 3 := rfl
@[simp] theorem ix54 : L2.ixN 5 4 = some 4 := rfl
section
variable {g : Sg} {cl : Str → Nat} {n : Nat} {st : Store} {Q : PV → Store → Prop}
theorem small_mul {a b : Int} (h0 : 0 ≤ a) (h1 : a < 10 ^ 60) (h2 : 0 ≤ b) (h3 : b < 10 ^ 60) : (a.natAbs.log2 + b.natAbs.log2 < 1000000) = True :=
  eq_true (mul_ok (Nat.lt_trans (nat_lt h0 h1) (by decide)) (Nat.lt_trans (nat_lt h2 h3) (by decide)))
theorem e_mixed (h : At g "_law_mixed" f__law_mixed) {m t : Int} (h0 : 0 ≤ m) (h1 : m < 10 ^ 20) (h2 : 0 ≤ t) (h3 : t < 10 ^ 20) : ∃ r : Int, 0 ≤ r ∧ ∀ st, (g.ctx cl (n + 1)).fn "_law_mixed" [.int m, .int t] st = .ok (.int r) st := by
  have k1 : (m.natAbs.log2 + Nat.log2 48271 < 1000000) = True := small_mul h0 (by omega) (b := 48271) (by decide) (by decide)
  have k2 : (t.natAbs.log2 + t.natAbs.log2 < 1000000) = True := small_mul h2 (by omega) h2 (by omega)
  have tt : t * t < 10 ^ 40 := by
    have : t * t ≤ (10 ^ 20 - 1) * (10 ^ 20 - 1) := Int.mul_le_mul (by omega) (by omega) h2 (by decide)
    omega
  have t0 : 0 ≤ t * t := Int.mul_nonneg h2 h2
  have k3 : ((t * t).natAbs.log2 + Nat.log2 69621 < 1000000) = True := small_mul t0 (by omega) (b := 69621) (by decide) (by decide)
  have k4 : (t.natAbs.log2 + Nat.log2 7919 < 1000000) = True := small_mul h2 (by omega) (b := 7919) (by decide) (by decide)
  have k7 : (t.natAbs.log2 + Nat.log2 104729 < 1000000) = True := small_mul h2 (by omega) (b := 104729) (by decide) (by decide)
  obtain ⟨a, ha⟩ : ∃ a : Int, (m * 48271 + t * t * 69621 + t * 7919 + 12345) % 2147483629 = a := ⟨_, rfl⟩
  have a0 : 0 ≤ a := by rw [← ha]; exact Int.emod_nonneg _ (by decide)
  have a1 : a < 2147483629 := by rw [← ha]; exact Int.emod_lt_of_pos _ (by decide)
  have k5 : (a.natAbs.log2 + a.natAbs.log2 < 1000000) = True := small_mul a0 (by omega) a0 (by omega)
  have k6 : (Nat.log2 40692 + a.natAbs.log2 < 1000000) = True := small_mul (a := 40692) (by decide) (by decide) a0 (by omega)
  obtain ⟨b, hb⟩ : ∃ b : Int, (a * a + 40692 * a + t * 104729 + 1) % 2147483587 = b := ⟨_, rfl⟩
  have b0 : 0 ≤ b := by rw [← hb]; exact Int.emod_nonneg _ (by decide)
  have b1 : b < 2147483587 := by rw [← hb]; exact Int.emod_lt_of_pos _ (by decide)
  have k8 : (b.natAbs.log2 + Nat.log2 16807 < 1000000) = True := small_mul b0 (by omega) (b := 16807) (by decide) (by decide)
  refine ⟨(b * 16807 + a) % 1000000007, Int.emod_nonneg _ (by decide), fun st => fn_eq h rfl rfl rfl ?_⟩
  simp only [f__law_mixed, env0]
  rw [wp_ss]
  simp [k1, k2, k3, k4, ha]
  rw [wp_ss]
  simp [k5, k6, k7, hb]
  rw [wp_ss]
  simp [k8]
theorem w_draw (h : At g "_law_draw" f__law_draw) (h2 : At g "_law_mixed" f__law_mixed) {i c : Nat} {xs : List PV} {many : Int} (hi : st[i]? = some xs) (hx : Src c xs) (hc : c < 10 ^ 12) (h0 : 0 < many) (h1 : many < 10 ^ 40)
    (q : ∀ (r : Int) (ys : List PV), 0 ≤ r → r < many → Src (c + 1) ys → Q (.int r) (st.set i ys)) : wpO ((g.ctx cl (n + 2)).fn "_law_draw" [.loc i, .int many] st) Q := by
  refine wp_fn1 h rfl rfl rfl hi hx.free ?_
  obtain ⟨ns, p, l, t, m, rfl, l0, t0, tc, m0, m1⟩ := hx
  have k4 := log_small (Nat.lt_trans (nat_lt (by omega) h1) (by decide) : many.natAbs < 2 ^ 400)
  have e2 : ∀ x : Int, 0 ≤ x % many := fun x => Int.emod_nonneg _ (by omega)
  have e3 : ∀ x : Int, x % many < many := fun x => Int.emod_lt_of_pos _ h0
  have last : ∀ (p' : Nat) (l' m' : Int) (u : Option PV), 0 ≤ l' → 0 ≤ m' → m' < 1000000009 →
      wpO (evSs (g.ctx cl (n + 1)) (.cons (.asg (.sub (.v 0) (.c (.int 3))) (.bin .add true (.ix (.v 0) (.c (.int 3))) (.c (.int 1)))) <|
        .cons (.iff (.cmp .gt (.ix (.v 0) (.c (.int 2))) (.c (.int 0))) (.cons (.asg (.p (.n 3)) (.bin .mod true (.bi .int true (.cons (.ix (.v 0) (.c (.int 2))) .nil)) (.v 1))) <|
          .cons (.asg (.sub (.v 0) (.c (.int 2))) (.bin .fdiv true (.ix (.v 0) (.c (.int 2))) (.v 1))) <|
          .cons (.ret (.v 3)) <|
          .nil) (.nil)) <|
        .cons (.ret (.bin .mod true (.bi .int true (.cons (.call "_law_mixed" (.cons (.ix (.v 0) (.c (.int 4))) (.cons (.ix (.v 0) (.c (.int 3))) .nil))) .nil)) (.v 1))) <|
        .nil) [some (.loc 0), some (.int many), u, none] [[.lsv (ns.map PV.int), .int p', .int l', .int t, .int m']]) fun r s2 => ∃ ys, s2[0]? = some ys ∧ freeAll ys = true ∧ match r with
        | .rt v => ∃ v', frz 1 s2 64 v = some v' ∧ Q v' (st.set i ys)
        | .nx _ => Q .non (st.set i ys)
        | _ => False := by
    intro p' l' m' u l0 m0 m1
    rw [wp_ss]
    simp
    rw [wp_ss]
    by_cases hz : 0 < l'
    · simp [hz, wp_ss, h0, k4]
      have hs : Src (c + 1) [.lsv (ns.map PV.int), .int p', .int (l' / many), .int (t + 1), .int m'] := ⟨ns, p', l' / many, t + 1, m', rfl, Int.ediv_nonneg l0 (by omega), by omega, by omega, m0, m1⟩
      exact ⟨hs.free, q _ _ (e2 _) (e3 _) hs⟩
    · obtain ⟨r, r0, er⟩ := e_mixed (cl := cl) (n := n) h2 (m := m') (t := t + 1) m0 (by omega) (by omega) (by omega)
      simp [hz, wp_ss, h0, er]
      have hs : Src (c + 1) [.lsv (ns.map PV.int), .int p', .int l', .int (t + 1), .int m'] := ⟨ns, p', l', t + 1, m', rfl, l0, by omega, by omega, m0, m1⟩
      exact ⟨hs.free, q _ _ (e2 _) (e3 _) hs⟩
  simp only [f__law_draw, env0]
  rw [wp_ss]
  by_cases hl : l = 0
  · subst hl
    by_cases hp : p < ns.length
    · have hp2 : (p : Int) < (ns.length : Int) := by omega
      have get : (ns.map PV.int)[p]? = some (.int (ns[p]'hp)) := by rw [List.getElem?_map, List.getElem?_eq_getElem hp]; rfl
      have k1 : (m.natAbs.log2 + Nat.log2 31 < 1000000) = True := small_mul m0 (by omega) (b := 31) (by decide) (by decide)
      have e4 : 0 ≤ (m * 31 + ns[p]) % 1000000009 := Int.emod_nonneg _ (by decide)
      have e5 : (m * 31 + ns[p]) % 1000000009 < 1000000009 := Int.emod_lt_of_pos _ (by decide)
      simp [hp2, at_nn, get]
      rw [wp_ss]
      simp [at_nn, get]
      rw [wp_ss]
      simp
      rw [wp_ss]
      simp [k1]
      rw [wp_ss]
      by_cases hb : (10 : Int) ^ 18 ≤ ns[p]
      · have hb2 : (1000000000000000000 : Int) ≤ ns[p] := hb
        simp [hb2]
        rw [wp_ss]
        simp
        exact last (p + 1) ns[p] ((m * 31 + ns[p]) % 1000000009) _ (by omega) e4 e5
      · have hb2 : ¬ (1000000000000000000 : Int) ≤ ns[p] := hb
        simp [hb2]
        exact last (p + 1) 0 ((m * 31 + ns[p]) % 1000000009) _ (Int.le_refl _) e4 e5
    · have hp2 : ¬ (p : Int) < (ns.length : Int) := by omega
      simp [hp2]
      exact last p 0 m _ l0 m0 m1
  · have hl2 : (l == 0) = false := by simpa using hl
    simp [hl2]
    exact last p l m _ l0 m0 m1
theorem w_source (h : At g "_law_source" f__law_source) {ns : List Int} (hn : ns.length ≤ 63) (q : ∀ xs, Src 0 xs → Q (.loc st.length) (st ++ [xs])) :
    wpO ((g.ctx cl (n + 1)).fn "_law_source" [.lsv (ns.map PV.int)] st) Q := by
  refine wp_fnM h rfl rfl (by simp [freeAll, PV.free, free_ints]) ?_
  simp only [f__law_source, env0]
  rw [wp_ss]
  simp
  have hs : Src 0 [.lsv (ns.map PV.int), .int 0, .int 0, .int 0, .int 0] := ⟨ns, 0, 0, 0, 0, rfl, by decide, by decide, by decide, by decide, by decide⟩
  exact ⟨hs.free, q _ hs⟩
end
end L2.V
namespace L2.K22
open PySem L2.Iv L2.Ta L2.Sm
open L2.Tm hiding lets fin
open L2.P (At Glb Ec btw lvs lvs_free)
theorem hasId : HasId K22.sg where
  ii := at_is_integer
  bt := at_is_between
  av := at_are_values
  tf := at_is_table_form
  uf := at_unit_fault
  rf := at_triple_fault
  mf := at_moved_fault
  af := at_again_fault
  nf := at_turned_fault
  lf := at_law_fault
  it := at_is_table_in
  ct := at_check_table
  gM := rfl
  eT := rfl
  i1 := at_is_integer
  i2 := at_inner_of
  i3 := at_is_term_of
  gP := rfl
  gN := rfl
  kt := at_check_term
  pa := at_parts_in
  li := at_letters_in
  vi := at_value_in
  cs := at_choices
  fi := at_failing_in
  ci := at_check_identity
  ho := at_holds_in
  fa := at_failing
  gL := rfl
  eM := rfl
section
variable {cl : Str → Nat} {n : Nat} {st : Store}
theorem e_law_value {t : Tb} (T : Lt t) (L : List Nat) {V : List Nat} (hV : ∀ a ∈ V, a < t.n) : ∀ (n : Nat) (u : Tm), dep u ≤ n → (∀ c ∈ L2.Tm.lets u, c < V.length) →
    ∀ st, (K22.sg.ctx cl (n + 1)).fn "_law_value" [encT L t, .tup (lvs V), enc u] st = .ok (.int (valT t V u : Nat)) st := by
  have i1 : ∀ st, ixV st (encT L t) (.int 1) = some (.tup (prodL t)) := fun st => rfl
  have i2 : ∀ st, ixV st (encT L t) (.int 2) = some (.tup (rowL t.n t.O)) := fun st => rfl
  have i3 : ∀ st, ixV st (encT L t) (.int 3) = some (.tup (rowL t.n t.B)) := fun st => rfl
  have hl := fun i (h : i < V.length) => at_lvs h
  have hx := fun a (ha : a < t.n) => at_prodL ha
  have ho := fun a (ha : a < t.n) => at_rowL (f := t.O) ha
  have hb := fun a (ha : a < t.n) => at_rowL (f := t.B) ha
  have fx := free_encT L t
  have fw := lvs_free V
  obtain ⟨X, hX⟩ : ∃ X, encT L t = X := ⟨_, rfl⟩
  obtain ⟨W, hW⟩ : ∃ X, lvs V = X := ⟨_, rfl⟩
  obtain ⟨Y, hY⟩ : ∃ X, prodL t = X := ⟨_, rfl⟩
  obtain ⟨A, hA⟩ : ∃ X, rowL t.n t.O = X := ⟨_, rfl⟩
  obtain ⟨B, hB⟩ : ∃ X, rowL t.n t.B = X := ⟨_, rfl⟩
  rw [hX, hY] at i1
  rw [hX, hA] at i2
  rw [hX, hB] at i3
  rw [hX] at fx ⊢
  rw [hW] at hl fw ⊢
  rw [hY] at hx
  rw [hA] at ho
  rw [hB] at hb
  clear hX hW hY hA hB
  have n0 : 0 < t.n := by have := T.n2; omega
  have hr := fun a b (ha : a < t.n) (hb : b < t.n) => at_rowL (f := t.P a) hb
  intro n
  induction n with
  | zero =>
    intro u hd hc st
    refine fn_eq at__law_value rfl rfl (by simp [freeAll, free_enc, fx, PV.free, fw]) ?_
    cases u <;> simp [dep] at hd
    rename_i m
    have hm := hl m (hc m (by simp [L2.Tm.lets]))
    simp only [enc]
    simp [f__law_value, env0, wp_ss, hm, valT]
  | succ n ih =>
    intro u hd hc st
    refine fn_eq at__law_value rfl rfl (by simp [freeAll, free_enc, fx, PV.free, fw]) ?_
    cases u with
    | l m =>
      have hm := hl m (hc m (by simp [L2.Tm.lets]))
      simp only [enc]
      simp [f__law_value, env0, wp_ss, hm, valT]
    | no =>
      simp only [enc]
      simp [f__law_value, env0, wp_ss, cmpV, L2.P.pow_in, flatP, valT, loopF]
    | on u =>
      have e := ih u (by rw [dep] at hd; omega) (fun c h => hc c (by rw [L2.Tm.lets]; exact h))
      have hm := ho _ (val_lt T hV u)
      simp only [enc]
      simp [f__law_value, env0, wp_ss, cmpV, L2.P.pow_in, flatP, e, i2, hm, valT]
    | bk u =>
      have e := ih u (by rw [dep] at hd; omega) (fun c h => hc c (by rw [L2.Tm.lets]; exact h))
      have hm := hb _ (val_lt T hV u)
      simp only [enc]
      simp [f__law_value, env0, wp_ss, cmpV, L2.P.pow_in, flatP, e, i3, hm, valT]
    | th us =>
      have each : ∀ x ∈ us, ∀ st, (K22.sg.ctx cl (n + 1)).fn "_law_value" [X, .tup W, enc x] st = .ok (.int (valT t V x : Nat)) st := fun x hx => by
        have := mem_dep hx
        rw [dep] at hd
        exact ih x (by omega) (fun c h => hc c (by rw [L2.Tm.lets]; exact letss_mem hx h))
      simp only [enc]
      simp only [f__law_value, env0]
      rw [wp_ss]
      simp
      rw [wp_ss]
      simp [cmpV, L2.P.pow_in, flatP]
      rw [wp_ss]
      simp
      rw [wp_ss]
      simp [encs_map]
      obtain ⟨I, hI⟩ : ∃ I : List Tm → Iv.Env → Store → Prop, I = fun l env st' => (∀ x ∈ l, x ∈ us) ∧ ∃ (acc : Nat) (w : Option PV), env = [some X, some (.tup W), some (.tup (.str "then" :: List.map enc us)), some (.int (acc : Nat)), w] ∧ st' = [] ∧ acc < t.n ∧ valF t V acc l = valF t V 0 us := ⟨_, rfl⟩
      refine wp_loopM (g := enc) I ?_ ?_ us _ _ (by rw [hI]; exact ⟨fun x hx => hx, 0, none, rfl, rfl, n0, rfl⟩)
      · intro x xs env st' hh
        rw [hI] at hh
        obtain ⟨hm, acc, w, rfl, rfl, ha, hv⟩ := hh
        have hxm := hm x (by simp)
        have lx := val_lt T hV x
        refine ⟨by simp, ?_⟩
        simp
        rw [wp_ss]
        simp [i1, hx acc ha, hr acc _ ha lx, each x hxm]
        rw [hI]
        exact ⟨fun y hy => hm y (by simp [hy]), _, _, rfl, rfl, T.pl _ _ ha lx, by rw [← hv, valF]⟩
      · intro env st' hh
        rw [hI] at hh
        obtain ⟨hm, acc, w, rfl, rfl, ha, hv⟩ := hh
        refine ⟨by simp, ?_⟩
        simp [wp_ss, valT, ← hv, valF]
theorem e_law_letters : ∀ (n : Nat) (u : Tm), dep u ≤ n → Tm.sg u ≤ 10000 → ∀ st, (K22.sg.ctx cl (n + 1)).fn "_law_letters" [enc u] st = .ok (.lsv (lvs (L2.Tm.lets u))) st := by
  have big : 100000 ≤ sizeLine := by decide
  have fz : ∀ (z : Store) (l : List Nat), frz 0 z 64 (.lsv (lvs l)) = some (.lsv (lvs l)) := fun z l => frz_free (lvs_free l)
  intro n
  induction n with
  | zero =>
    intro u hd hs st
    refine fn_eq at__law_letters rfl rfl (by simp [freeAll, free_enc]) ?_
    cases u <;> simp [dep] at hd
    rename_i m
    have f := fz [] [m]
    simp only [lvs, List.map_cons, List.map_nil] at f
    simp only [enc]
    simp [f__law_letters, env0, wp_ss, L2.Tm.lets, lvs, f]
  | succ n ih =>
    intro u hd hs st
    refine fn_eq at__law_letters rfl rfl (by simp [freeAll, free_enc]) ?_
    cases u with
    | l m =>
      have f := fz [] [m]
      simp only [lvs, List.map_cons, List.map_nil] at f
      simp only [enc]
      simp [f__law_letters, env0, wp_ss, L2.Tm.lets, lvs, f]
    | no =>
      have f := fz [] []
      simp only [lvs, List.map_nil] at f
      simp only [enc]
      simp [f__law_letters, env0, wp_ss, loopF, L2.Tm.lets, lvs, f]
    | on u =>
      have e := ih u (by rw [dep] at hd; omega) (by rw [Tm.sg] at hs; omega)
      have b := L2.P.lets_len u
      rw [Tm.sg] at hs
      have bl : ∀ st : Store, binV .add true st (.lsv []) (.lsv (lvs (L2.Tm.lets u))) = .ok (.lsv (lvs (L2.Tm.lets u))) st := fun st => by
        have : ([] : List PV).length + (lvs (L2.Tm.lets u)).length ≤ sizeLine := by simp only [lvs, List.length_map, List.length_nil]; omega
        rw [b_addL, if_pos this]; rfl
      simp only [enc]
      simp [-b_addL, f__law_letters, env0, wp_ss, loopF, L2.Tm.lets, e, bl, fz]
    | bk u =>
      have e := ih u (by rw [dep] at hd; omega) (by rw [Tm.sg] at hs; omega)
      have b := L2.P.lets_len u
      rw [Tm.sg] at hs
      have bl : ∀ st : Store, binV .add true st (.lsv []) (.lsv (lvs (L2.Tm.lets u))) = .ok (.lsv (lvs (L2.Tm.lets u))) st := fun st => by
        have : ([] : List PV).length + (lvs (L2.Tm.lets u)).length ≤ sizeLine := by simp only [lvs, List.length_map, List.length_nil]; omega
        rw [b_addL, if_pos this]; rfl
      simp only [enc]
      simp [-b_addL, f__law_letters, env0, wp_ss, loopF, L2.Tm.lets, e, bl, fz]
    | th us =>
      rw [Tm.sg] at hs
      have each : ∀ x ∈ us, ∀ st, (K22.sg.ctx cl (n + 1)).fn "_law_letters" [enc x] st = .ok (.lsv (lvs (L2.Tm.lets x))) st := fun x hx => by
        have := mem_dep hx
        have := mem_sg hx
        rw [dep] at hd
        exact ih x (by omega) (by omega)
      have bt := L2.P.lets_len (.th us)
      rw [L2.Tm.lets, Tm.sg] at bt
      simp only [enc]
      simp only [f__law_letters, env0]
      rw [wp_ss]
      simp
      rw [wp_ss]
      simp
      rw [wp_ss]
      simp [encs_map]
      obtain ⟨I, hI⟩ : ∃ I : List Tm → Iv.Env → Store → Prop, I = fun l env st' => (∀ x ∈ l, x ∈ us) ∧ ∃ (acc : List Nat) (w : Option PV), env = [some (.tup (.str "then" :: List.map enc us)), some (.lsv (lvs acc)), w] ∧ st' = [] ∧ acc ++ letss l = letss us := ⟨_, rfl⟩
      refine wp_loopM (g := enc) I ?_ ?_ us _ _ (by rw [hI]; exact ⟨fun x hx => hx, [], none, rfl, rfl, rfl⟩)
      · intro x xs env st' hh
        rw [hI] at hh
        obtain ⟨hm, acc, w, rfl, rfl, hv⟩ := hh
        have hxm := hm x (by simp)
        have bl : ∀ st : Store, binV .add true st (.lsv (lvs acc)) (.lsv (lvs (L2.Tm.lets x))) = .ok (.lsv (lvs (acc ++ L2.Tm.lets x))) st := fun st => by
          have hq := congrArg List.length hv
          rw [letss, List.length_append, List.length_append] at hq
          have : (lvs acc).length + (lvs (L2.Tm.lets x)).length ≤ sizeLine := by simp only [lvs, List.length_map]; omega
          rw [b_addL, if_pos this]
          unfold lvs; rw [List.map_append]; rfl
        refine ⟨by simp, ?_⟩
        simp
        rw [wp_ss]
        simp [-b_addL, each x hxm, bl]
        rw [hI]
        exact ⟨fun y hy => hm y (by simp [hy]), _, _, rfl, rfl, by rw [← hv, letss, List.append_assoc]⟩
      · intro env st' hh
        rw [hI] at hh
        obtain ⟨hm, acc, w, rfl, rfl, hv⟩ := hh
        rw [letss, List.append_nil] at hv
        refine ⟨by simp, ?_⟩
        simp [wp_ss, L2.Tm.lets, hv, fz]
end
end L2.K22
namespace L2.K22
open PySem L2.Iv L2.Ta L2.Sm
open L2.Tm hiding lets fin sg wts_app
open L2.P (At Glb Ec btw lvs lvs_free)
theorem wp_loopE {α : Type} {g : α → PV} {w : Watch} {f : PV → Iv.Env → Store → Out Fl} {Q : Fl → Store → Prop} (I : List α → Iv.Env → Store → Prop) {ys : List PV} {xs : List α} (e : ys = xs.map g)
    (turn : ∀ x xs env st, I (x :: xs) env st → watchOk w st ∧ wpO (f (g x) env st) fun r st1 => match r with
      | .nx e => I xs e st1
      | .ct e => I xs e st1
      | .bk e => Q (.nx e) st1
      | .rt v => Q (.rt v) st1
      | .rz c v e => Q (.rz c v e) st1)
    (stop : ∀ env st, I [] env st → watchOk w st ∧ Q (.nx env) st) (env : Iv.Env) (st : Store) (h : I xs env st) : wpO (loopF w f ys env st) Q := by
  subst e
  exact wp_loopM I turn stop xs env st h
section
variable {cl : Str → Nat} {n : Nat} {st : Store}
theorem e_law_choices {k m : Nat} (hk : k ≤ 5) (hm : m ≤ 4) : (K22.sg.ctx cl (n + 1)).fn "_law_choices" [.int (m : Nat), .int (k : Nat)] st = .ok (.lsv (CL k m)) st := by
  have big : 100000 ≤ sizeLine := by decide
  refine fn_eq at__law_choices rfl rfl (by simp [freeAll, PV.free]) ?_
  have fz := frz_free (m := 0) (s := []) (k := 64) (v := .lsv (CL k m)) (free_CL k m)
  simp only [f__law_choices, env0]
  rw [wp_ss]
  simp
  rw [wp_ss]
  simp
  rw [rng1_ok (by omega) (by omega)]
  simp
  obtain ⟨I, hI⟩ : ∃ I : Nat → Iv.Env → Store → Prop, I = fun i env st' => ∃ (w1 w2 w3 w4 : Option PV), env = [some (.int (m : Nat)), some (.int (k : Nat)), some (.lsv (CL k i)), w1, w2, w3, w4] ∧ st' = [] := ⟨_, rfl⟩
  refine wp_rng I ?_ ?_ _ _ (by rw [hI]; exact ⟨none, none, none, none, rfl, rfl⟩)
  · intro i env st' hi hh
    rw [hI] at hh
    obtain ⟨w1, w2, w3, w4, rfl, rfl⟩ := hh
    have nx : ∀ w1 w2 w3 w4, I (i + 1) [some (.int (m : Nat)), some (.int (k : Nat)), some (.lsv (CL k (i + 1))), w1, w2, w3, w4] [] := fun w1 w2 w3 w4 => by rw [hI]; exact ⟨w1, w2, w3, w4, rfl, rfl⟩
    have p1 := pow_le hk (by omega : i + 1 ≤ 4)
    have inner : ∀ (a : List Nat) (f : PV → Store → Out (List PV)), a.length ≤ 10 → (∀ b ∈ List.range k, f (.int (b : Nat)) [] = .ok [.tup (lvs (a ++ [b]))] []) → compF [] f (lvs (List.range k)) [] [] = .ok ((List.range k).map fun b => .tup (lvs (a ++ [b]))) [] := fun a f ha hf => by
      exact Iv.comp_map (g := fun n : Nat => PV.int (n : Int)) (w := []) (f := f) (st := []) (fun b => PV.tup (lvs (a ++ [b]))) (List.range k) (by simp) hf (by rw [List.length_range]; omega)
    have r1 : rngL 0 1 k = lvs (List.range k) := rngL_lvs k
    obtain ⟨D, hD⟩ : ∃ D : List (List Nat) → List PV, D = fun l => (l.flatMap fun a => (List.range k).map fun b => a ++ [b]).map fun vs => PV.tup (lvs vs) := ⟨_, rfl⟩
    have D0 : D [] = [] := by rw [hD]; rfl
    have D1 : D (ch k i) = CL k (i + 1) := by rw [hD]; rfl
    have Dl : ∀ l, (D l).length = l.length * k := fun l => by
      rw [hD]
      simp only [List.length_map]
      induction l with
      | nil => simp
      | cons a l ih => rw [List.flatMap_cons, List.length_append, List.length_map, List.length_range, ih, List.length_cons, Nat.succ_mul, Nat.add_comm]
    have Ds : ∀ l a, D (l ++ [a]) = D l ++ (List.range k).map fun b => PV.tup (lvs (a ++ [b])) := fun l a => by
      rw [hD]
      simp only [List.flatMap_append, List.map_append, List.flatMap_cons, List.flatMap_nil, List.append_nil, List.map_map]
      rfl
    have hcl : CL k i = (ch k i).map fun vs => PV.tup (lvs vs) := rfl
    obtain ⟨C1, hC⟩ : ∃ C, CL k i = C := ⟨_, rfl⟩
    obtain ⟨C2, hC2⟩ : ∃ C, CL k (i + 1) = C := ⟨_, rfl⟩
    rw [hC2] at nx D1
    rw [hC] at hcl ⊢
    simp
    rw [wp_ss]
    simp
    rw [wp_ss]
    simp
    obtain ⟨J, hJ⟩ : ∃ J : List (List Nat) → Iv.Env → Store → Prop, J = fun l env st' => ∃ (pre : List (List Nat)) (w3 w4 : Option PV), pre ++ l = ch k i ∧ env = [some (.int (m : Nat)), some (.int (k : Nat)), some (.lsv C1), some (.int (i : Nat)), some (.lsv (D pre)), w3, w4] ∧ st' = [] := ⟨_, rfl⟩
    refine wp_loopE (g := fun vs => PV.tup (lvs vs)) J hcl ?_ ?_ _ _ (by rw [hJ]; exact ⟨[], _, _, rfl, by rw [D0], rfl⟩)
    · intro a l env st' hh
      rw [hJ] at hh
      obtain ⟨pre, w3, w4, hp, rfl, rfl⟩ := hh
      have ha : a ∈ ch k i := by rw [← hp]; simp
      have la := (ch_lt ha).1
      have nj : ∀ w3 w4, J l [some (.int (m : Nat)), some (.int (k : Nat)), some (.lsv C1), some (.int (i : Nat)), some (.lsv (D (pre ++ [a]))), w3, w4] [] := fun w3 w4 => by
        rw [hJ]; exact ⟨pre ++ [a], w3, w4, by rw [List.append_assoc]; exact hp, rfl, rfl⟩
      have ll : (lvs a).length = a.length := by simp [lvs]
      have dl := Dl (pre ++ [a])
      have hlen := congrArg List.length hp
      rw [List.length_append, List.length_cons, ch_len] at hlen
      have hm2 : (pre.length + 1) * k ≤ k ^ (i + 1) := by
        rw [Nat.pow_succ]
        exact Nat.mul_le_mul_right k (by omega)
      rw [List.length_append, List.length_cons, List.length_nil, Nat.zero_add] at dl
      have bl : ∀ st : Store, binV .add true st (.lsv (D pre)) (.lsv ((List.range k).map fun b => PV.tup (lvs (a ++ [b])))) = .ok (.lsv (D (pre ++ [a]))) st := fun st => by
        rw [Ds] at dl ⊢
        rw [List.length_append] at dl
        have : (D pre).length + ((List.range k).map fun b => PV.tup (lvs (a ++ [b]))).length ≤ sizeLine := by omega
        rw [b_addL, if_pos this]; rfl
      refine ⟨by simp, ?_⟩
      simp
      rw [wp_ss]
      simp [-b_addL]
      rw [rng1_ok (by omega) (by omega)]
      simp [-b_addL, r1]
      have inn := fun f hf => inner a f (by omega) hf
      obtain ⟨RR, hRR⟩ : ∃ R, (List.range k).map (fun b => PV.tup (lvs (a ++ [b]))) = R := ⟨_, rfl⟩
      rw [hRR] at inn bl
      rw [inn _ (fun b hb => by
        have q : (lvs a).length + 1 ≤ sizeLine := by omega
        simp [q, lvs_snoc])]
      simp [-b_addL, bl]
      exact nj _ _
    · intro env st' hh
      rw [hJ] at hh
      obtain ⟨pre, w3, w4, hp, rfl, rfl⟩ := hh
      rw [List.append_nil] at hp
      subst hp
      refine ⟨by simp, ?_⟩
      rw [D1]
      simp [wp_ss]
      exact nx _ _ _ _
  · intro env st' hh
    rw [hI] at hh
    obtain ⟨w1, w2, w3, w4, rfl, rfl⟩ := hh
    simp [wp_ss, fz]
theorem e_law_due {t : Tb} (T : Lt t) (L : List Nat) {u w : Tm} (hu : dep u ≤ 60) (hw : dep w ≤ 60) (su : Tm.sg u ≤ 1000) (sw : Tm.sg w ≤ 1000) (h4 : many u w ≤ 4) :
    (K22.sg.ctx cl (n + 70)).fn "_law_due" [encT L t, enc u, enc w] st = .ok (outL (failT t u w)) st := by
  have big : 100000 ≤ sizeLine := by decide
  have n5 := T.n5
  refine fn_eq at__law_due rfl rfl (by simp [freeAll, free_enc, free_encT]) ?_
  have l1 := fun st => e_law_letters (cl := cl) (n + 68) u (by omega) (by omega) st
  have l2 := fun st => e_law_letters (cl := cl) (n + 68) w (by omega) (by omega) st
  have ec := fun st => e_law_choices (cl := cl) (n := n + 68) (st := st) (k := t.n) (m := many u w) n5 h4
  have b1 := L2.P.lets_len u
  have b2 := L2.P.lets_len w
  have a1 : ∀ st : Store, binV .add true st (.lsv (lvs (L2.Tm.lets u))) (.lsv (lvs (L2.Tm.lets w))) = .ok (.lsv (lvs (L2.Tm.lets u ++ L2.Tm.lets w))) st := fun st => by
    have : (lvs (L2.Tm.lets u)).length + (lvs (L2.Tm.lets w)).length ≤ sizeLine := by simp only [lvs, List.length_map]; omega
    rw [b_addL, if_pos this]
    unfold lvs
    rw [List.map_append]; rfl
  have mm := maxd_mx (L2.Tm.lets u ++ L2.Tm.lets w)
  rw [show mx (L2.Tm.lets u ++ L2.Tm.lets w) = many u w from rfl] at mm
  have cm := fun (f : PV → Store → Out (List PV)) (hf : ∀ b ∈ L2.Tm.lets u ++ L2.Tm.lets w, f (.int (b : Nat)) [] = .ok [.int ((b : Int) + 1)] []) => Iv.comp_map (g := fun n : Nat => PV.int (n : Int)) (w := []) (f := f) (st := []) (fun b => PV.int ((b : Int) + 1)) (L2.Tm.lets u ++ L2.Tm.lets w) (by simp) hf (by rw [List.length_append]; omega)
  rw [show List.map (fun n : Nat => PV.int (n : Int)) (L2.Tm.lets u ++ L2.Tm.lets w) = lvs (L2.Tm.lets u ++ L2.Tm.lets w) from rfl] at cm
  have vu := fun (vs : List Nat) (h : vs ∈ ch t.n (many u w)) st => e_law_value (cl := cl) T L (ch_lt h).2 (n + 68) u (by omega) (fun c hc => by
    rw [(ch_lt h).1]
    exact mx_mem (List.mem_append_left _ hc)) st
  have vw := fun (vs : List Nat) (h : vs ∈ ch t.n (many u w)) st => e_law_value (cl := cl) T L (ch_lt h).2 (n + 68) w (by omega) (fun c hc => by
    rw [(ch_lt h).1]
    exact mx_mem (List.mem_append_right _ hc)) st
  have i1 : ∀ st, ixV st (encT L t) (.int 1) = some (.tup (prodL t)) := fun st => rfl
  have lp := len_prodL t
  obtain ⟨X, hX⟩ : ∃ X, encT L t = X := ⟨_, rfl⟩
  obtain ⟨Y, hY⟩ : ∃ X, prodL t = X := ⟨_, rfl⟩
  obtain ⟨U, hU⟩ : ∃ X, enc u = X := ⟨_, rfl⟩
  obtain ⟨W, hW⟩ : ∃ X, enc w = X := ⟨_, rfl⟩
  rw [hX, hY] at i1
  rw [hX] at vu vw
  rw [hY] at lp
  rw [hU] at l1 vu
  rw [hW] at l2 vw
  rw [hX, hU, hW]
  clear hX hY hU hW
  obtain ⟨C, hC⟩ : ∃ C, lvs (L2.Tm.lets u) = C := ⟨_, rfl⟩
  obtain ⟨D, hD⟩ : ∃ C, lvs (L2.Tm.lets w) = C := ⟨_, rfl⟩
  obtain ⟨E, hE⟩ : ∃ C, lvs (L2.Tm.lets u ++ L2.Tm.lets w) = C := ⟨_, rfl⟩
  obtain ⟨F, hF⟩ : ∃ C, List.map (fun b : Nat => PV.int ((b : Int) + 1)) (L2.Tm.lets u ++ L2.Tm.lets w) = C := ⟨_, rfl⟩
  rw [hC] at l1 a1
  rw [hD] at l2 a1
  rw [hE] at a1 cm
  rw [hF] at cm mm
  simp only [f__law_due, env0]
  rw [wp_ss]
  simp [-b_addL, l1, l2, a1]
  rw [cm _ (fun b hb => by simp)]
  simp [mm]
  rw [wp_ss]
  simp [i1, lp, ec]
  have fz := fun (z : Store) (vs : List Nat) => frz_free (m := 0) (s := z) (k := 64) (v := .tup (lvs vs)) (lvs_free vs)
  refine wp_find (g := fun vs => PV.tup (lvs vs)) (fun vs => decide (valT t vs u ≠ valT t vs w)) (fun e => ∃ w1 w2, e = [some X, some U, some W, some (.int (many u w : Nat)), w1, w2]) (ch t.n (many u w)) ?_ ?_ ?_ _ ⟨none, none, rfl⟩
  · rintro vs env hvs ⟨w1, w2, rfl⟩
    simp
    rw [wp_ss]
    have e1 := vu vs hvs
    have e2 := vw vs hvs
    simp [e1, e2, eq_nat]
    by_cases e : valT t vs u = valT t vs w
    · simp [e]
    · simp [e, wp_ss, Int.natCast_inj, fz]
  · rintro e env ⟨w1, w2, rfl⟩
    have : failT t u w = none := e
    rw [this]
    simp [wp_ss, outL]
  · intro vs e
    have : failT t u w = some vs := e
    rw [this]
    simp [outL, fz]
end
def kindP (c : Str) : Str := if c = ("InvalidTable" : Str) then "table" else "term"
def toldP (o : Option (Str × PV)) (R : PV) : PV := match o with
  | none => .tup [.str "told", .str R.toD.shown]
  | some e => .tup [.str (kindP e.1), .str e.2.toD.shown]
theorem ecT : K22.sg.ecs.lookup ("InvalidTable" : Str) = some [("InvalidTable" : Str), "RowError", "ValueError"] := rfl
theorem ecM : K22.sg.ecs.lookup ("InvalidTerm" : Str) = some [("InvalidTerm" : Str), "RowError", "ValueError"] := rfl
theorem m0 : ¬ (("InvalidTable" : Str) = "InvalidTerm") := by decide +kernel
theorem m1 : ¬ (("InvalidTerm" : Str) = "InvalidTable") := by decide +kernel
theorem m2 : ¬ (("InvalidTable" : Str) = "RowError") := by decide +kernel
theorem m3 : ¬ (("InvalidTable" : Str) = "ValueError") := by decide +kernel
theorem m4 : ¬ (("InvalidTerm" : Str) = "RowError") := by decide +kernel
theorem m5 : ¬ (("InvalidTerm" : Str) = "ValueError") := by decide +kernel
theorem m6 : ¬ (("RowError" : Str) = "InvalidTable") := by decide +kernel
theorem m7 : ¬ (("ValueError" : Str) = "InvalidTable") := by decide +kernel
theorem m8 : ¬ (("RowError" : Str) = "InvalidTerm") := by decide +kernel
theorem m9 : ¬ (("ValueError" : Str) = "InvalidTerm") := by decide +kernel
section
variable {cl : Str → Nat} {n : Nat} {st : Store} {a b c R : PV} {m : Nat} {o : Option (Str × PV)}
theorem e_told {tk : Bool} (ho : Idr tk a b c o) (hf : ∀ st, (K22.sg.ctx cl n).fn "failing" [a, b, c] st = outX o R st) (fr : freeAll [a, b, c] = true) (hR : Sv R 1000) (hE : ∀ e, o = some e → Sv e.2 1000) :
    (K22.sg.ctx cl (n + 1)).fn "_law_told" [a, b, c] st = .ok (toldP o R) st := by
  have rR := fun st fr => hR.repr (by decide) st fr
  have rE := fun e h st fr => (hE e h).repr (by decide) st fr
  have fz := fun (z : Store) (x y : Str) => frz_free (m := 0) (s := z) (k := 64) (v := .tup [.str x, .str y]) rfl
  refine fn_eq at__law_told rfl rfl fr ?_
  simp only [f__law_told, env0]
  rw [wp_ss, wp_try]
  cases ho with
  | o h h1 h2 =>
    simp only [outX] at hf
    simp [wp_ss, hf, rR, toldP, fz]
  | a h =>
    simp only [outX] at hf
    have rE := rE _ rfl
    simp [wp_ss, hf, rE, toldP, fz, kindP, ecT, ecM, m0, m1, m2, m3, m4, m5, m6, m7, m8, m9]
  | b h h1 =>
    simp only [outX] at hf
    have rE := rE _ rfl
    simp [wp_ss, hf, rE, toldP, fz, kindP, ecT, ecM, m0, m1, m2, m3, m4, m5, m6, m7, m8, m9]
  | c h h1 h2 =>
    simp only [outX] at hf
    have rE := rE _ rfl
    simp [wp_ss, hf, rE, toldP, fz, kindP, ecT, ecM, m0, m1, m2, m3, m4, m5, m6, m7, m8, m9]
theorem e_held {tk : Bool} (ho : Idr tk a b c o) (hf : ∀ st, (K22.sg.ctx cl n).fn "holds_in" [a, b, c] st = outX o R st) (fr : freeAll [a, b, c] = true) (hR : Sv R 1000) (hE : ∀ e, o = some e → Sv e.2 1000) :
    (K22.sg.ctx cl (n + 1)).fn "_law_held" [a, b, c] st = .ok (toldP o R) st := by
  have rR := fun st fr => hR.repr (by decide) st fr
  have rE := fun e h st fr => (hE e h).repr (by decide) st fr
  have fz := fun (z : Store) (x y : Str) => frz_free (m := 0) (s := z) (k := 64) (v := .tup [.str x, .str y]) rfl
  refine fn_eq at__law_held rfl rfl fr ?_
  simp only [f__law_held, env0]
  rw [wp_ss, wp_try]
  cases ho with
  | o h h1 h2 =>
    simp only [outX] at hf
    simp [wp_ss, hf, rR, toldP, fz]
  | a h =>
    simp only [outX] at hf
    have rE := rE _ rfl
    simp [wp_ss, hf, rE, toldP, fz, kindP, ecT, ecM, m0, m1, m2, m3, m4, m5, m6, m7, m8, m9]
  | b h h1 =>
    simp only [outX] at hf
    have rE := rE _ rfl
    simp [wp_ss, hf, rE, toldP, fz, kindP, ecT, ecM, m0, m1, m2, m3, m4, m5, m6, m7, m8, m9]
  | c h h1 h2 =>
    simp only [outX] at hf
    have rE := rE _ rfl
    simp [wp_ss, hf, rE, toldP, fz, kindP, ecT, ecM, m0, m1, m2, m3, m4, m5, m6, m7, m8, m9]
end
end L2.K22
namespace L2.K22
open PySem L2.Iv L2.Ta L2.Sm
open L2.Tm hiding lets fin sg wts_app
open L2.P (At Glb Ec btw lvs lvs_free)
open L2.V (Src w_draw w_source)
def dr : Nat → Nat
  | 0 => 2
  | n + 1 => 5 + 2 * dr n
theorem dr_pos (n : Nat) : 2 ≤ dr n := by cases n with
  | zero => exact Nat.le_refl _
  | succ n => rw [dr]; omega
section
variable {cl : Str → Nat}
theorem w_term {k n : Nat} (hk : 0 < k) (hk2 : k < 1000) : ∀ (N room : Nat) (p : Int) (c i : Nat) (st : Store) (xs : List PV) (Q : PV → Store → Prop), 1 ≤ room → room ≤ N → room ≤ 1000 → st[i]? = some xs → Src c xs → c + dr N < 10 ^ 11 →
    (∀ (t : Tm) (ys : List PV), wf k t = true → Tm.sg t ≤ room → L2.V.Src (c + dr N) ys → Q (enc t) (st.set i ys)) → wpO ((K22.sg.ctx cl (n + N + 3)).fn "_law_term" [.loc i, .int (k : Nat), .int (room : Nat), .int p] st) Q
  | 0, room, p, c, i, st, xs, Q, h1, hN, h9, hi, hx, hc, q => by omega
  | N + 1, room, p, c, i, st, xs, Q, h1, hN, h9, hi, hx, hc, q => by
    have IH := w_term (k := k) (n := n) hk hk2 N
    have d2 := dr_pos N
    have dN : dr (N + 1) = 5 + 2 * dr N := rfl
    rw [dN] at hc q
    refine wp_fn1 at__law_term rfl rfl rfl hi hx.free ?_
    show wpO (evSs (K22.sg.ctx cl (n + N + 3)) _ _ _) _
    have fin : ∀ (t : Tm) (ys : List PV) (e : Nat), wf k t = true → Tm.sg t ≤ room → Src e ys → e ≤ c + (5 + 2 * dr N) → freeAll ys = true ∧ Q (enc t) (st.set i ys) := fun t ys e a b s d => ⟨s.free, q t ys a b (s.up d)⟩
    have fz : ∀ (t : Tm) (ys : List PV), frz 1 [ys] 64 (enc t) = some (enc t) := fun t ys => frz_free (free_enc t)
    have fzT : ∀ (ts : List Tm) (ys : List PV), frz 1 [ys] 64 (.tup (.str "then" :: encs ts)) = some (.tup (.str "then" :: encs ts)) := fun ts ys => fz (.th ts) ys
    have fzO : ∀ (t : Tm) (ys : List PV), frz 1 [ys] 64 (.tup [.str "on", enc t]) = some (enc (.on t)) := fun t ys => fz (.on t) ys
    have fzB : ∀ (t : Tm) (ys : List PV), frz 1 [ys] 64 (.tup [.str "back", enc t]) = some (enc (.bk t)) := fun t ys => fz (.bk t) ys
    have fzN : ∀ (ys : List PV), frz 1 [ys] 64 (.tup [.str "none"]) = some (enc .no) := fun ys => fz .no ys
    have fz2 : ∀ (a b : Tm) (ys : List PV), frz 1 [ys] 64 (.tup [.str "then", enc a, enc b]) = some (enc (.th [a, b])) := fun a b ys => fz (.th [a, b]) ys
    have fz3 : ∀ (m : Nat) (a b : Tm) (ys : List PV), frz 1 [ys] 64 (.tup [.str "then", .int (m : Nat), enc a, enc b]) = some (enc (.th [.l m, a, b])) := fun m a b ys => fz (.th [.l m, a, b]) ys
    simp only [f__law_term, env0]
    rw [wp_ss]
    simp
    refine wpX_of_wp (w_draw at__law_draw at__law_mixed rfl hx (by omega) (by decide) (by decide) fun r xs1 r1 r2 hx1 => ?_)
    simp
    rw [wp_ss]
    have letter : ∀ (room2 : Prop) (env : Iv.Env), env[0]? = some (some (.loc 0)) → env[1]? = some (some (.int (k : Nat))) → wpO (evSs (K22.sg.ctx cl (n + N + 3)) (.cons (.ret (.call "_law_draw" (.cons (.v 0) (.cons (.v 1) .nil)))) .nil) env [xs1]) fun f st1 => match f with
        | .rt v => ∃ ys, st1[0]? = some ys ∧ freeAll ys = true ∧ ∃ v', frz 1 st1 64 v = some v' ∧ Q v' (st.set i ys)
        | _ => False := fun _ env e0 e1 => by
      rw [wp_ss]
      simp [e0, e1]
      refine wpX_of_wp (w_draw at__law_draw at__law_mixed rfl hx1 (by omega) (by omega) (by omega) fun r2 xs2 s1 s2 hx2 => ?_)
      obtain ⟨m, rfl⟩ : ∃ m : Nat, r2 = (m : Nat) := ⟨r2.toNat, by omega⟩
      simp
      exact fin (.l m) _ _ (by simp [wf]; omega) (by simp [Tm.sg]; omega) hx2 (by omega)
    rcases Nat.lt_or_ge room 3 with h3 | h3
    · have z : (room : Int) < 3 := by omega
      simp [cmpV, z]
      refine wp_mono (letter True _ rfl rfl) fun f st1 h => ?_
      cases f <;> first | exact h.elim | exact h
    · have z : ¬ ((room : Int) < 3) := by omega
      by_cases w0 : r = 0
      · subst w0
        simp [cmpV, z]
        refine wp_mono (letter True _ rfl rfl) fun f st1 h => ?_
        cases f <;> first | exact h.elim | exact h
      · have b0 : (r == 0) = false := beq_eq_false_iff_ne.mpr w0
        simp [cmpV, z, b0]
        rw [wp_ss]
        by_cases w1 : r = 1
        · subst w1
          simp [cmpV, wp_ss, fzN]
          exact fin .no _ _ rfl (by simp [Tm.sg]; omega) hx1 (by omega)
        · have b1 : (r == 1) = false := beq_eq_false_iff_ne.mpr w1
          simp [cmpV, b1]
          rw [wp_ss]
          by_cases w5 : r < 5 ∧ 0 < p
          · obtain ⟨p1, p2⟩ := w5
            have room1 : ((room : Nat) : Int) - 1 = ((room - 1 : Nat) : Int) := by omega
            by_cases w2 : r = 2
            · subst w2
              simp [cmpV, p2]
              rw [wp_ss]
              simp [cmpV, room1]
              refine wpX_of_wp (IH (room - 1) (p - 1) (c + 1) 0 _ xs1 _ (by omega) (by omega) (by omega) rfl hx1 (by omega) fun t ys ht hs hy => ?_)
              simp [fzB]
              exact fin (.bk t) _ _ (by rw [wf]; exact ht) (by simp [Tm.sg]; omega) hy (by omega)
            · have b2 : (r == 2) = false := beq_eq_false_iff_ne.mpr w2
              simp [cmpV, p1, p2]
              rw [wp_ss]
              simp [cmpV, room1, b2]
              refine wpX_of_wp (IH (room - 1) (p - 1) (c + 1) 0 _ xs1 _ (by omega) (by omega) (by omega) rfl hx1 (by omega) fun t ys ht hs hy => ?_)
              simp [fzO]
              exact fin (.on t) _ _ (by rw [wf]; exact ht) (by simp [Tm.sg]; omega) hy (by omega)
          · have skip : ∀ st, evE (K22.sg.ctx cl (n + N + 3)) (.ands (.cons (.cmp .lt (.v 4) (.c (.int 5))) (.cons (.cmp .gt (.v 3) (.c (.int 0))) .nil))) [some (.loc 0), some (.int (k : Nat)), some (.int (room : Nat)), some (.int p), some (.int r), none, none] st = .ok (.bl false) st := fun st => by
              by_cases p1 : r < 5
              · have p2 : ¬ 0 < p := fun h => w5 ⟨p1, h⟩
                simp [cmpV, p1, p2]
              · simp [cmpV, p1]
            simp [-r_ands, skip]
            rw [wp_ss]
            by_cases w6 : r = 5 ∧ 3 < room
            · obtain ⟨rfl, g3⟩ := w6
              have z3 : (3 : Int) < room := by omega
              simp [cmpV, z3]
              rw [wp_ss]
              simp
              refine wpX_of_wp (w_draw at__law_draw at__law_mixed rfl hx1 (by omega) (by omega) (by omega) fun r2 xs2 s1 s2 hx2 => ?_)
              obtain ⟨f1, hf, f2⟩ : ∃ m : Nat, 1 + r2 = (m : Nat) ∧ 1 ≤ m ∧ m + 3 ≤ room + 0 := ⟨(1 + r2).toNat, by omega, by omega⟩
              simp [hf]
              rw [wp_ss]
              simp
              refine wpX_of_wp (IH f1 p (c + 2) 0 _ xs2 _ (by omega) (by omega) (by omega) rfl hx2 (by omega) fun t ys ht hs hy => ?_)
              simp
              rw [wp_ss]
              simp
              refine wpX_of_wp (w_draw at__law_draw at__law_mixed rfl hy (by omega) (by omega) (by omega) fun r3 xs3 s3 s4 hx3 => ?_)
              obtain ⟨m, rfl⟩ : ∃ m : Nat, r3 = (m : Nat) := ⟨r3.toNat, by omega⟩
              simp
              rw [show ((room : Nat) : Int) - 2 - (f1 : Nat) = ((room - 2 - f1 : Nat) : Int) by omega]
              refine wpX_of_wp (IH (room - 2 - f1) p (c + 2 + dr N + 1) 0 _ xs3 _ (by omega) (by omega) (by omega) rfl hx3 (by omega) fun t2 ys2 ht2 hs2 hy2 => ?_)
              simp [fz3]
              exact fin (.th [.l m, t, t2]) _ _ (by simp [wf, wfs, ht, ht2]; omega) (by simp [Tm.sg, sgs]; omega) hy2 (by omega)
            · have skip2 : ∀ st, evE (K22.sg.ctx cl (n + N + 3)) (.ands (.cons (.cmp .eq (.v 4) (.c (.int 5))) (.cons (.cmp .gt (.v 2) (.c (.int 3))) .nil))) [some (.loc 0), some (.int (k : Nat)), some (.int (room : Nat)), some (.int p), some (.int r), none, none] st = .ok (.bl false) st := fun st => by
                by_cases p1 : r = 5
                · subst p1
                  have p2 : ¬ (3 : Int) < room := fun h => w6 ⟨rfl, by omega⟩
                  simp [cmpV, p2]
                · have b5 : (r == 5) = false := beq_eq_false_iff_ne.mpr p1
                  simp [cmpV, p1, b5]
              simp [-r_ands, skip2]
              rw [wp_ss]
              simp
              refine wpX_of_wp (w_draw at__law_draw at__law_mixed rfl hx1 (by omega) (by omega) (by omega) fun r2 xs2 s1 s2 hx2 => ?_)
              obtain ⟨f1, hf, f2⟩ : ∃ m : Nat, 1 + r2 = (m : Nat) ∧ 1 ≤ m ∧ m + 2 ≤ room + 0 := ⟨(1 + r2).toNat, by omega, by omega⟩
              simp [hf]
              rw [wp_ss]
              simp
              refine wpX_of_wp (IH f1 p (c + 2) 0 _ xs2 _ (by omega) (by omega) (by omega) rfl hx2 (by omega) fun t ys ht hs hy => ?_)
              simp
              rw [wp_ss]
              simp
              rw [show ((room : Nat) : Int) - 1 - (f1 : Nat) = ((room - 1 - f1 : Nat) : Int) by omega]
              refine wpX_of_wp (IH (room - 1 - f1) p (c + 2 + dr N) 0 _ ys _ (by omega) (by omega) (by omega) rfl hy (by omega) fun t2 ys2 ht2 hs2 hy2 => ?_)
              simp [fz2]
              exact fin (.th [t, t2]) _ _ (by simp [wf, wfs, ht, ht2]) (by simp [Tm.sg, sgs]; omega) hy2 (by omega)
end
end L2.K22
namespace L2.K22
open PySem L2.Iv L2.Ta L2.Sm
open L2.Tm hiding lets fin sg wts_app
open L2.P (At Glb Ec btw lvs lvs_free)
open L2.V (Src w_draw w_source)
theorem cut_both (w : PV) (xs : List PV) (a : Nat) : cutP (w :: xs) (some 1) (some ((a : Int) + 1)) = xs.take a := by
  have h1 := cut_from (xs := w :: xs) 1
  have h2 := cut_to (xs := w :: xs) (a + 1)
  unfold cutP at h1 h2 ⊢
  have e1 : HT.sIx (w :: xs).length 0 (some 1) = 1 := by
    unfold HT.sIx
    simp
  have e2 : HT.sIx (w :: xs).length (w :: xs).length (some ((a : Int) + 1)) = min (a + 1) (w :: xs).length := by
    unfold HT.sIx
    simp
    omega
  rw [e1, e2]
  simp only [List.drop_succ_cons, List.drop_zero, List.length_cons]
  rw [List.take_eq_take_iff]
  omega
theorem cut_head (w x : PV) (xs : List PV) : cutP (w :: x :: xs) (some 1) (some 2) = [x] := cut_both w (x :: xs) 1
theorem cut_mid {xs : List PV} : cutP xs (some 1) (some (-1)) = xs.tail.dropLast := by
  unfold cutP
  have e1 : HT.sIx xs.length 0 (some 1) = min 1 xs.length := HT.sIx_nat ..
  have e2 : HT.sIx xs.length xs.length (some (-1)) = xs.length - 1 := by
    unfold HT.sIx
    simp
    omega
  rw [e1, e2]
  cases xs with
  | nil => rfl
  | cons x xs =>
    rw [List.tail_cons, List.dropLast_eq_take, List.length_cons]
    rw [show min 1 (xs.length + 1) = 1 by omega]
    rfl
theorem cut_end {xs : List PV} (h : xs ≠ []) : cutP xs (some (-1)) none = xs.drop (xs.length - 1) := by
  have l0 := List.length_pos_iff.mpr h
  unfold cutP
  have e : HT.sIx xs.length 0 (some (-1)) = xs.length - 1 := by
    unfold HT.sIx
    simp
    omega
  rw [e, HT.sIx_none, List.take_of_length_le (by rw [List.length_drop]; exact Nat.le_refl _)]
theorem cut_ends (w : PV) (xs : List PV) (y : PV) : cutP (w :: (xs ++ [y])) (some (-1)) none = [y] ∧ cutP (w :: (xs ++ [y])) (some 1) (some (-1)) = xs ∧ L2.atI (w :: (xs ++ [y])) (-1) = some y := by
  refine ⟨?_, ?_, ?_⟩
  · rw [cut_end (by simp)]
    simp
  · rw [cut_mid]
    simp
  · rw [L2.P.at_end _ (by simp), List.getLast?_cons, List.getLast?_append]; rfl
structure Mv (k : Nat) (t u : Tm) : Prop where
  one : One u t
  wf : wf k u = true
  sg : Tm.sg u ≤ 2 * Tm.sg t + 3
theorem wfs_app {k : Nat} (a b : List Tm) : wfs k (a ++ b) = (wfs k a && wfs k b) := by rw [wfs_all, wfs_all, wfs_all, List.all_append]
section
variable {cl : Str → Nat}
theorem w_same {k n : Nat} : ∀ (N : Nat) (t : Tm) (c i : Nat) (st : Store) (xs : List PV) (Q : PV → Store → Prop), wf k t = true → Tm.sg t ≤ N → N ≤ 40 → st[i]? = some xs → Src c xs → c + N < 10 ^ 11 →
    (∀ (u : Tm) (ys : List PV), Mv k t u → Src (c + N + 2) ys → Q (enc u) (st.set i ys)) → wpO ((K22.sg.ctx cl (n + N + 3)).fn "_law_same_row" [.loc i, enc t] st) Q
  | 0, t, c, i, st, xs, Q, hw, hN, h40, hi, hx, hc, q => by have := sg_pos t; omega
  | N + 1, t, c, i, st, xs, Q, hw, hN, h40, hi, hx, hc, q => by
    have IH := w_same (k := k) (n := n) N
    refine wp_fn1 at__law_same_row rfl rfl (by simp [freeAll, free_enc]) hi hx.free ?_
    show wpO (evSs (K22.sg.ctx cl (n + N + 3)) _ _ _) _
    have big : 1000 ≤ sizeLine := by decide
    have fin : ∀ (u : Tm) (ys : List PV) (e : Nat), Mv k t u → Src e ys → e ≤ c + (N + 1) + 2 → freeAll ys = true ∧ Q (enc u) (st.set i ys) := fun u ys e m s d => ⟨s.free, q u ys m (s.up d)⟩
    have fz : ∀ (t : Tm) (ys : List PV), frz 1 [ys] 64 (enc t) = some (enc t) := fun t ys => frz_free (free_enc t)
    have fzO : ∀ (t : Tm) (ys : List PV), frz 1 [ys] 64 (.tup [.str "on", enc t]) = some (enc (.on t)) := fun t ys => fz (.on t) ys
    have fzB : ∀ (t : Tm) (ys : List PV), frz 1 [ys] 64 (.tup [.str "back", enc t]) = some (enc (.bk t)) := fun t ys => fz (.bk t) ys
    have fz2 : ∀ (a b : Tm) (ys : List PV), frz 1 [ys] 64 (.tup [.str "then", enc a, enc b]) = some (enc (.th [a, b])) := fun a b ys => fz (.th [a, b]) ys
    have fzL : ∀ (ts : List Tm) (ys : List PV), frz 1 [ys] 64 (.tup (.str "then" :: encs ts)) = some (enc (.th ts)) := fun ts ys => fz (.th ts) ys
    have sp := sg_pos t
    have leaf : ∀ (r : Int) (st : Store), evE (K22.sg.ctx cl (n + N + 3)) (.ors (.cons (.isi (.v 1) "int") (.cons (.cmp .eq (.v 1) (.tup (.cons (.c (.str "none")) .nil))) (.cons (.cmp .eq (.v 2) (.c (.int 1))) .nil)))) [some (.loc 0), some (enc t), some (.int r), none, none] st = .ok (.bl (match t with | .l _ => true | .no => true | _ => decide (r = 1))) st := fun r st => by
      have e1 : (r == 1) = decide (r = 1) := rfl
      cases t with
      | l m => simp [enc]
      | no =>
        have ev := fun st => eqv_none (st := st) (xs := []) (w := "none") (by show (fit 63 (.str "none") && true) = true; rw [fit_str, ok_none]; rfl)
        simp [enc, cmpV, ev]
      | on u =>
        have ev := fun st => eqv_none (st := st) (xs := [enc u]) (w := "on") (by show (fit 63 (.str "on") && (fit 63 (enc u) && true)) = true; rw [fit_str, ok_on, fit_enc u 63 (by have := dep_sg u; simp only [Tm.sg] at hN; omega)]; rfl)
        simp [enc, cmpV, ev, e1]
      | bk u =>
        have ev := fun st => eqv_none (st := st) (xs := [enc u]) (w := "back") (by show (fit 63 (.str "back") && (fit 63 (enc u) && true)) = true; rw [fit_str, ok_back, fit_enc u 63 (by have := dep_sg u; simp only [Tm.sg] at hN; omega)]; rfl)
        simp [enc, cmpV, ev, e1]
      | th us =>
        have ev := fun st => eqv_none (st := st) (xs := encs us) (w := "then") (by show (fit 63 (.str "then") && fits 63 (encs us)) = true; rw [fit_str, ok_then, fits_encs us 63 (by have := deps_sgs us; simp only [Tm.sg] at hN; omega)]; rfl)
        simp [enc, cmpV, ev, e1]
    have fpo : ∀ ys, frz 1 [ys] 64 (.tup [.str "then", enc t, .tup [.str "on", .tup [.str "none"]]]) = some (enc (.th [t, .on .no])) := fun ys => fz (.th [t, .on .no]) ys
    have fpb : ∀ ys, frz 1 [ys] 64 (.tup [.str "then", enc t, .tup [.str "back", .tup [.str "none"]]]) = some (enc (.th [t, .bk .no])) := fun ys => fz (.th [t, .bk .no]) ys
    have mpo : Mv k t (.th [t, .on .no]) := ⟨one_on t, by simp [wf, wfs, hw], by simp [Tm.sg, sgs]; omega⟩
    have mpb : Mv k t (.th [t, .bk .no]) := ⟨one_bk t, by simp [wf, wfs, hw], by simp [Tm.sg, sgs]; omega⟩
    have post : ∀ (env : Iv.Env) (xs1 : List PV), Src (c + 1) xs1 → env[0]? = some (some (.loc 0)) → env[1]? = some (some (enc t)) → wpO (evSs (K22.sg.ctx cl (n + N + 3)) (.cons (.ret (.tup (.cons (.c (.str "then")) (.cons (.v 1) (.cons (.tup (.cons (.ix (.lst true (.cons (.c (.str "on")) (.cons (.c (.str "back")) .nil))) (.call "_law_draw" (.cons (.v 0) (.cons (.c (.int 2)) .nil)))) (.cons (.tup (.cons (.c (.str "none")) .nil)) .nil))) .nil))))) .nil) env [xs1]) fun f st1 => match f with
        | .rt v => ∃ ys, st1[0]? = some ys ∧ freeAll ys = true ∧ ∃ v', frz 1 st1 64 v = some v' ∧ Q v' (st.set i ys)
        | _ => False := fun env xs1 hx1 e0 e1 => by
      obtain ⟨A, hA⟩ : ∃ A, enc t = A := ⟨_, rfl⟩
      rw [hA] at fpo fpb e1
      rw [wp_ss]
      simp [e0, e1]
      refine wpX_of_wp (w_draw at__law_draw at__law_mixed rfl hx1 (by omega) (by decide) (by decide) fun r2 xs2 s1 s2 hx2 => ?_)
      rcases (by omega : r2 = 0 ∨ r2 = 1) with rfl | rfl
      · simp [fpo]
        exact fin _ _ _ mpo hx2 (by omega)
      · simp [fpb]
        exact fin _ _ _ mpb hx2 (by omega)
    simp only [f__law_same_row, env0]
    rw [wp_ss]
    simp
    refine wpX_of_wp (w_draw at__law_draw at__law_mixed rfl hx (by omega) (by decide) (by decide) fun r xs1 r1 r2 hx1 => ?_)
    simp
    rw [wp_ss]
    by_cases w0 : r = 0
    · subst w0
      have f := fun ys => fz2 .no t ys
      simp only [enc] at f
      simp [cmpV, wp_ss, f]
      exact fin (.th [.no, t]) _ _ ⟨one_pre t, by simp [wf, wfs, hw], by simp [Tm.sg, sgs]; omega⟩ hx1 (by omega)
    · have b0 : (r == 0) = false := beq_eq_false_iff_ne.mpr w0
      simp [cmpV, b0]
      rw [wp_ss]
      simp [-r_ors, leaf]
      cases t with
      | l m =>
        simp
        refine wp_mono (post _ _ hx1 rfl rfl) fun f st1 h => ?_
        cases f <;> first | exact h.elim | exact h
      | no =>
        simp
        refine wp_mono (post _ _ hx1 rfl rfl) fun f st1 h => ?_
        cases f <;> first | exact h.elim | exact h
      | th us =>
        by_cases w1 : r = 1
        · subst w1
          simp
          refine wp_mono (post _ _ hx1 rfl rfl) fun f st1 h => ?_
          cases f <;> first | exact h.elim | exact h
        · simp [w1]
          rw [wp_ss]
          simp only [wf, Bool.and_eq_true, decide_eq_true_eq] at hw
          simp only [Tm.sg] at hN sp fin
          have ll := sgs_len us
          have le : (encs us).length = us.length := by rw [encs_map, List.length_map]
          simp only [enc]
          simp [cmpV]
          rw [wp_ss]
          by_cases l3 : us.length < 3
          · have z : ((us.length : Int) + 1 < 4) := by omega
            have f := fun ys => fz2 (.th us) .no ys
            simp only [enc] at f
            simp [cmpV, le, z]
            simp [wp_ss, f]
            exact fin (.th [.th us, .no]) _ _ ⟨one_post _, by simp [wf, wfs, hw], by simp [Tm.sg, sgs]; omega⟩ hx1 (by omega)
          · have z : ¬ ((us.length : Int) + 1 < 4) := by omega
            simp [cmpV, le, z]
            rw [wp_ss]
            simp [le]
            refine wpX_of_wp (w_draw at__law_draw at__law_mixed rfl hx1 (by omega) (by omega) (by omega) fun r2 xs2 s1 s2 hx2 => ?_)
            obtain ⟨d, rfl⟩ : ∃ m : Nat, r2 = (m : Nat) := ⟨r2.toNat, by omega⟩
            have c1 := cut_both (.str "then") (encs us) (2 + d)
            rw [show ((2 + d : Nat) : Int) + 1 = 3 + (d : Nat) by omega] at c1
            have c2 := cut_from (xs := PV.str "then" :: encs us) (3 + d)
            rw [show ((3 + d : Nat) : Int) = 3 + (d : Nat) by omega, show 3 + d = (2 + d) + 1 by omega, List.drop_succ_cons] at c2
            have tk : (encs us).take (2 + d) = encs (us.take (2 + d)) := by rw [encs_map, encs_map, List.map_take]
            have dk : (encs us).drop (2 + d) = encs (us.drop (2 + d)) := by rw [encs_map, encs_map, List.map_drop]
            rw [tk] at c1
            rw [dk] at c2
            have lt : (encs (us.take (2 + d))).length ≤ us.length := by rw [encs_map, List.length_map, List.length_take]; omega
            have ld : (encs (us.drop (2 + d))).length ≤ us.length := by rw [encs_map, List.length_map, List.length_drop]; omega
            have q1 : 1 + (encs (us.take (2 + d))).length ≤ sizeLine := by omega
            have q2 : 2 + (encs (us.drop (2 + d))).length ≤ sizeLine := by omega
            have f := fun ys => fzL (.th (us.take (2 + d)) :: us.drop (2 + d)) ys
            simp only [encs, enc] at f
            have sp2 : Tm.sgs (us.take (2 + d)) + Tm.sgs (us.drop (2 + d)) = sgs us := by rw [← sgs_app, List.take_append_drop]
            have wp2 : wfs k (us.take (2 + d)) = true ∧ wfs k (us.drop (2 + d)) = true := by
              have := wfs_app (k := k) (us.take (2 + d)) (us.drop (2 + d))
              rw [List.take_append_drop, hw.2] at this
              simpa using this.symm
            have mv : Mv k (.th us) (.th (.th (us.take (2 + d)) :: us.drop (2 + d))) := by
              refine ⟨?_, ?_, ?_⟩
              · have := one_cut (us.take (2 + d)) (us.drop (2 + d))
                rwa [List.take_append_drop] at this
              · simp only [wf, wfs, Bool.and_eq_true, decide_eq_true_eq, List.length_cons, List.length_take, List.length_drop]
                exact ⟨by omega, ⟨by omega, wp2.1⟩, wp2.2⟩
              · simp only [Tm.sg, sgs]; omega
            obtain ⟨A, hA⟩ : ∃ A, encs (us.take (2 + d)) = A := ⟨_, rfl⟩
            obtain ⟨B, hB⟩ : ∃ A, encs (us.drop (2 + d)) = A := ⟨_, rfl⟩
            rw [hA] at c1 q1 f
            rw [hB] at c2 q2 f
            simp
            rw [wp_ss]
            simp [c1, c2, q1, q2, f]
            have g := fin _ _ _ mv hx2 (by omega)
            simp only [enc, encs, hA, hB] at g
            exact g
      | on u =>
        by_cases w1 : r = 1
        · subst w1
          simp
          refine wp_mono (post _ _ hx1 rfl rfl) fun f st1 h => ?_
          cases f <;> first | exact h.elim | exact h
        · simp [w1]
          rw [wp_ss]
          simp only [wf] at hw
          simp only [Tm.sg] at hN sp fin
          have su := sg_pos u
          simp only [enc]
          simp [cmpV]
          rw [wp_ss]
          simp
          rw [wp_ss]
          by_cases w2 : r = 2
          · subst w2
            have f := fun ys => fz2 u (.on u) ys
            simp only [enc] at f
            simp [cmpV, wp_ss, f]
            exact fin (.th [u, .on u]) _ _ ⟨one_on2 u, by simp [wf, wfs, hw], by simp [Tm.sg, sgs]; omega⟩ hx1 (by omega)
          · have b2 : (r == 2) = false := beq_eq_false_iff_ne.mpr w2
            simp [cmpV, b2]
            rw [wp_ss]
            by_cases w3 : r = 3
            · subst w3
              have f := fun ys => fzO (.th [u, u]) ys
              simp only [enc, encs] at f
              simp [cmpV, wp_ss, f]
              exact fin (.on (.th [u, u])) _ _ ⟨one_on3 u, by simp [wf, wfs, hw], by simp [Tm.sg, sgs]; omega⟩ hx1 (by omega)
            · have b3 : (r == 3) = false := beq_eq_false_iff_ne.mpr w3
              simp [cmpV, b3]
              rw [wp_ss]
              have again : ∀ (e : Option PV), wpO (evSs (K22.sg.ctx cl (n + N + 3)) (.cons (.ret (.tup (.cons (.ix (.v 1) (.c (.int 0))) (.cons (.call "_law_same_row" (.cons (.v 0) (.cons (.v 3) .nil))) .nil)))) .nil) [some (.loc 0), some (.tup [.str "on", enc u]), some (.int r), some (enc u), e] [xs1]) fun f st1 => match f with
                  | .rt v => ∃ ys, st1[0]? = some ys ∧ freeAll ys = true ∧ ∃ v', frz 1 st1 64 v = some v' ∧ Q v' (st.set i ys)
                  | _ => False := fun e => by
                have IH := IH u (c + 1) 0 [xs1] xs1
                obtain ⟨A, hA⟩ : ∃ A, enc u = A := ⟨_, rfl⟩
                rw [hA] at IH ⊢
                rw [wp_ss]
                simp
                refine wpX_of_wp (IH _ hw (by omega) (by omega) rfl hx1 (by omega) fun w ys hm hy => ?_)
                simp [fzO]
                exact fin (.on w) _ _ ⟨hm.one.on, by rw [wf]; exact hm.wf, by have := hm.sg; simp only [Tm.sg]; omega⟩ hy (by omega)
              by_cases w4 : r = 4
              · subst w4
                cases u with
                | l m =>
                  simp only [enc] at again ⊢
                  simp [cmpV]
                  refine wp_mono (again none) fun f st1 h => ?_
                  cases f <;> first | exact h.elim | exact h
                | no =>
                  simp only [enc] at again ⊢
                  simp [cmpV]
                  refine wp_mono (again none) fun f st1 h => ?_
                  cases f <;> first | exact h.elim | exact h
                | on u2 =>
                  simp only [enc] at again ⊢
                  simp [cmpV]
                  refine wp_mono (again none) fun f st1 h => ?_
                  cases f <;> first | exact h.elim | exact h
                | bk u2 =>
                  simp only [enc] at again ⊢
                  simp [cmpV]
                  refine wp_mono (again none) fun f st1 h => ?_
                  cases f <;> first | exact h.elim | exact h
                | th us =>
                  clear again
                  simp only [wf, Bool.and_eq_true, decide_eq_true_eq] at hw
                  simp only [Tm.sg] at hN su fin
                  have ll := sgs_len us
                  match us, hw, hN, fin, ll with
                  | x :: rest, hw, hN, fin, ll =>
                    simp only [List.length_cons, sgs] at hw hN fin ll
                    have c1 := cut_head (.str "then") (enc x) (encs rest)
                    have lr : (encs rest).length = rest.length := by rw [encs_map, List.length_map]
                    have q1 : 1 + (encs rest).length ≤ sizeLine := by omega
                    have q2 : 1 + (encs rest).length + 1 ≤ sizeLine := by omega
                    have q3 : (encs rest).length + 1 + 1 ≤ sizeLine := by omega
                    have q4 : (encs rest).length + 1 ≤ sizeLine := by omega
                    have f := fun ys => fz2 x (.on (.th (rest ++ [x]))) ys
                    have ea : encs (rest ++ [x]) = encs rest ++ [enc x] := by rw [encs_map, encs_map, List.map_append]; rfl
                    simp only [enc, encs, ea] at f
                    have hw2 : wf k x = true ∧ wfs k rest = true := by have := hw.2; rw [wfs, Bool.and_eq_true] at this; exact this
                    have mv : Mv k (.on (.th (x :: rest))) (.th [x, .on (.th (rest ++ [x]))]) := by
                      refine ⟨one_roll x rest, ?_, ?_⟩
                      · simp only [wf, wfs, wfs_app, Bool.and_eq_true, decide_eq_true_eq, List.length_cons, List.length_append, List.length_nil, hw2.1, hw2.2]
                        simp only [and_self, and_true, true_and]
                        omega
                      · simp only [Tm.sg, sgs, sgs_app]; omega
                    have gg := fin _ _ _ mv hx1 (by omega)
                    simp only [enc, encs, ea] at gg
                    simp only [enc, encs]
                    obtain ⟨A, hA⟩ : ∃ A, enc x = A := ⟨_, rfl⟩
                    obtain ⟨B, hB⟩ : ∃ A, encs rest = A := ⟨_, rfl⟩
                    rw [hA] at c1 f gg ⊢
                    rw [hB] at c1 q1 q2 q3 q4 f gg ⊢
                    simp [cmpV]
                    rw [wp_ss]
                    simp [cmpV]
                    simp [wp_ss, c1, q1, q2, q3, q4, f]
                    exact gg
              · have b4 : (r == 4) = false := beq_eq_false_iff_ne.mpr w4
                simp [cmpV, b4]
                refine wp_mono (again none) fun f st1 h => ?_
                cases f <;> first | exact h.elim | exact h
      | bk u =>
        by_cases w1 : r = 1
        · subst w1
          simp
          refine wp_mono (post _ _ hx1 rfl rfl) fun f st1 h => ?_
          cases f <;> first | exact h.elim | exact h
        · simp [w1]
          rw [wp_ss]
          simp only [wf] at hw
          simp only [Tm.sg] at hN sp fin
          have su := sg_pos u
          simp only [enc]
          simp [cmpV]
          rw [wp_ss]
          simp
          rw [wp_ss]
          by_cases w2 : r = 2
          · subst w2
            have f := fun ys => fz2 (.bk u) u ys
            simp only [enc] at f
            simp [cmpV, wp_ss, f]
            exact fin (.th [.bk u, u]) _ _ ⟨one_bk2 u, by simp [wf, wfs, hw], by simp [Tm.sg, sgs]; omega⟩ hx1 (by omega)
          · have b2 : (r == 2) = false := beq_eq_false_iff_ne.mpr w2
            simp [cmpV, b2]
            rw [wp_ss]
            by_cases w3 : r = 3
            · subst w3
              have f := fun ys => fzB (.th [u, u]) ys
              simp only [enc, encs] at f
              simp [cmpV, wp_ss, f]
              exact fin (.bk (.th [u, u])) _ _ ⟨one_bk3 u, by simp [wf, wfs, hw], by simp [Tm.sg, sgs]; omega⟩ hx1 (by omega)
            · have b3 : (r == 3) = false := beq_eq_false_iff_ne.mpr w3
              simp [cmpV, b3]
              rw [wp_ss]
              have again : ∀ (e : Option PV), wpO (evSs (K22.sg.ctx cl (n + N + 3)) (.cons (.ret (.tup (.cons (.ix (.v 1) (.c (.int 0))) (.cons (.call "_law_same_row" (.cons (.v 0) (.cons (.v 3) .nil))) .nil)))) .nil) [some (.loc 0), some (.tup [.str "back", enc u]), some (.int r), some (enc u), e] [xs1]) fun f st1 => match f with
                  | .rt v => ∃ ys, st1[0]? = some ys ∧ freeAll ys = true ∧ ∃ v', frz 1 st1 64 v = some v' ∧ Q v' (st.set i ys)
                  | _ => False := fun e => by
                have IH := IH u (c + 1) 0 [xs1] xs1
                obtain ⟨A, hA⟩ : ∃ A, enc u = A := ⟨_, rfl⟩
                rw [hA] at IH ⊢
                rw [wp_ss]
                simp
                refine wpX_of_wp (IH _ hw (by omega) (by omega) rfl hx1 (by omega) fun w ys hm hy => ?_)
                simp [fzB]
                exact fin (.bk w) _ _ ⟨hm.one.bk, by rw [wf]; exact hm.wf, by have := hm.sg; simp only [Tm.sg]; omega⟩ hy (by omega)
              by_cases w4 : r = 4
              · subst w4
                cases u with
                | l m =>
                  simp only [enc] at again ⊢
                  simp [cmpV]
                  refine wp_mono (again none) fun f st1 h => ?_
                  cases f <;> first | exact h.elim | exact h
                | no =>
                  simp only [enc] at again ⊢
                  simp [cmpV]
                  refine wp_mono (again none) fun f st1 h => ?_
                  cases f <;> first | exact h.elim | exact h
                | on u2 =>
                  simp only [enc] at again ⊢
                  simp [cmpV]
                  refine wp_mono (again none) fun f st1 h => ?_
                  cases f <;> first | exact h.elim | exact h
                | bk u2 =>
                  simp only [enc] at again ⊢
                  simp [cmpV]
                  refine wp_mono (again none) fun f st1 h => ?_
                  cases f <;> first | exact h.elim | exact h
                | th us =>
                  clear again
                  simp only [wf, Bool.and_eq_true, decide_eq_true_eq] at hw
                  simp only [Tm.sg] at hN su fin
                  have ll := sgs_len us
                  obtain ⟨rest, x, rfl⟩ : ∃ l y, us = l ++ [y] := ⟨us.dropLast, us.getLast (by intro h; rw [h] at hw; simp at hw), (List.dropLast_concat_getLast _).symm⟩
                  simp only [List.length_append, List.length_cons, List.length_nil, sgs_app, sgs, wfs_app, wfs, Bool.and_eq_true] at hw hN fin ll
                  have ea : encs (rest ++ [x]) = encs rest ++ [enc x] := by rw [encs_map, encs_map, List.map_append]; rfl
                  obtain ⟨c1, c2, c3⟩ := cut_ends (.str "then") (encs rest) (enc x)
                  have lr : (encs rest).length = rest.length := by rw [encs_map, List.length_map]
                  have q1 : 1 + 1 + (encs rest).length ≤ sizeLine := by omega
                  have q2 : (encs rest).length + 1 + 1 ≤ sizeLine := by omega
                  have q3 : 2 + (encs rest).length ≤ sizeLine := by omega
                  have f := fun ys => fz2 (.bk (.th (x :: rest))) x ys
                  simp only [enc, encs] at f
                  have mv : Mv k (.bk (.th (rest ++ [x]))) (.th [.bk (.th (x :: rest)), x]) := by
                    refine ⟨one_back x rest, ?_, ?_⟩
                    · simp only [wf, wfs, Bool.and_eq_true, decide_eq_true_eq, List.length_cons, List.length_nil, hw.2.1, hw.2.2]
                      simp only [and_self, and_true, true_and]
                      omega
                    · simp only [Tm.sg, sgs, sgs_app]; omega
                  have gg := fin _ _ _ mv hx1 (by omega)
                  simp only [enc, encs] at gg
                  simp only [enc, ea]
                  obtain ⟨A, hA⟩ : ∃ A, enc x = A := ⟨_, rfl⟩
                  obtain ⟨B, hB⟩ : ∃ A, encs rest = A := ⟨_, rfl⟩
                  rw [hA] at c1 c2 c3 f gg ⊢
                  rw [hB] at c1 c2 c3 q1 q2 q3 f gg ⊢
                  simp [cmpV]
                  rw [wp_ss]
                  simp [cmpV]
                  rw [wp_ss]
                  simp [c1, c2, c3, q1, q2, q3, f]
                  exact gg
              · have b4 : (r == 4) = false := beq_eq_false_iff_ne.mpr w4
                simp [cmpV, b4]
                refine wp_mono (again none) fun f st1 h => ?_
                cases f <;> first | exact h.elim | exact h
end
end L2.K22
namespace L2.K22
open PySem L2.Iv L2.Ta L2.Sm
open L2.Tm hiding lets fin sg wts_app
open L2.P (At Glb Ec btw lvs lvs_free)
open L2.V (Src w_draw w_source)
theorem wp_comp {w : Watch} {f : PV → Store → Out (List PV)} {Q : List PV → Store → Prop} (I : List PV → List PV → Store → Prop)
    (turn : ∀ x xs acc st, I (x :: xs) acc st → watchOk w st ∧ wpO (f x st) fun ys st1 => acc.length + ys.length ≤ sizeLine ∧ I xs (acc ++ ys) st1)
    (stop : ∀ acc st, I [] acc st → watchOk w st ∧ Q acc st) : ∀ xs acc st, I xs acc st → wpO (compF w f xs acc st) Q := by
  intro xs
  induction xs with
  | nil =>
    intro acc st h
    obtain ⟨h1, h2⟩ := stop acc st h
    unfold compF
    rw [if_pos h1]
    exact h2
  | cons x xs ih =>
    intro acc st h
    obtain ⟨h1, h2⟩ := turn x xs acc st h
    unfold compF
    rw [if_pos h1, wp_bind]
    refine wp_mono h2 fun ys st1 q => ?_
    rw [if_pos q.1]
    exact ih _ _ q.2
theorem row_fin (m : Nat) : rowL (m + 1) (Ta.fin m) = .int 0 :: List.replicate m (.int (m : Nat)) := by
  unfold rowL
  rw [List.range_succ_eq_map, List.map_cons, List.map_map]
  congr 1
  apply List.ext_getElem
  · simp
  · intro i h1 h2
    simp [Ta.fin]
section
variable {cl : Str → Nat} {n : Nat} {st : Store}
theorem e_round {m a b : Nat} (h1 : 1 ≤ m) (ha : a ≤ m) (hb : b ≤ m) : (K22.sg.ctx cl (n + 1)).fn "_law_round" [.int (m : Nat), .int (a : Nat), .int (b : Nat)] st = .ok (.int (rnd m a b : Nat)) st := by
  refine fn_eq at__law_round rfl rfl (by simp [freeAll, PV.free]) ?_
  simp only [f__law_round, env0]
  rw [wp_ss]
  have z0 : ∀ x : Nat, x ≠ 0 → ((x : Int) == 0) = false := fun x h => beq_eq_false_iff_ne.mpr (by omega)
  have zm : ∀ x : Nat, x ≠ m → ((x : Int) == (m : Nat)) = false := fun x h => beq_eq_false_iff_ne.mpr (by omega)
  by_cases a0 : a = 0
  · subst a0
    simp [cmpV, wp_ss, rnd]
  · by_cases b0 : b = 0
    · subst b0
      simp [cmpV, wp_ss, rnd, z0 a a0]
    · simp [cmpV, z0 a a0, z0 b b0]
      rw [wp_ss]
      by_cases am : a = m
      · subst am
        simp [cmpV, wp_ss, rnd, a0, b0]
      · by_cases bm : b = m
        · subst bm
          simp [cmpV, wp_ss, rnd, a0, b0, am, zm a am]
        · have p : (0 : Int) < (m : Nat) - 1 := by omega
          simp [cmpV, zm a am, zm b bm]
          have e : ((a : Int) + (b : Nat) - 1) % ((m : Nat) - 1) + 1 = (rnd m a b : Nat) := by
            unfold rnd
            rw [if_neg (by omega), if_neg (by omega)]
            rw [show ((a : Int) + (b : Nat) - 1) = ((a + b - 1 : Nat) : Int) by omega, show ((m : Int) - 1) = ((m - 1 : Nat) : Int) by omega, ← Int.natCast_emod]
            omega
          simp [wp_ss, e]
          omega
theorem w_table {c i : Nat} {xs : List PV} {Q : PV → Store → Prop} (hi : st[i]? = some xs) (hx : Src c xs) (hc : c < 10 ^ 11)
    (q : ∀ (way most : Nat) (L : List Nat) ys, way < 4 → 1 ≤ most → most ≤ 4 → L ≠ [] → L.length ≤ 4 → (∀ a ∈ L, a < most) → Src (c + 8) ys → Q (encT L (tab way most)) (st.set i ys)) :
    wpO ((K22.sg.ctx cl (n + 4)).fn "_law_table" [.loc i, .int 6] st) Q := by
  refine wp_fn1 at__law_table rfl rfl rfl hi hx.free ?_
  have big : 1000 ≤ sizeLine := by decide
  simp only [f__law_table, env0]
  rw [wp_ss]
  simp
  refine wpX_of_wp (w_draw at__law_draw at__law_mixed rfl hx (by omega) (by decide) (by decide) fun r xs1 r1 r2 hx1 => ?_)
  obtain ⟨way, rfl⟩ : ∃ m : Nat, r = (m : Nat) := ⟨r.toNat, by omega⟩
  simp
  rw [wp_ss]
  simp
  refine wpX_of_wp (w_draw at__law_draw at__law_mixed rfl hx1 (by omega) (by decide) (by decide) fun r xs2 s1 s2 hx2 => ?_)
  obtain ⟨m, hm, m1, m4⟩ : ∃ m : Nat, 1 + r = (m : Nat) ∧ 1 ≤ m ∧ m ≤ 4 := ⟨(1 + r).toNat, by omega, by omega, by omega⟩
  simp [hm]
  rw [wp_ss]
  simp
  rw [lrg_ok (by omega) (by omega), show ((m : Int) + 1).toNat = m + 1 by omega, rngL_lvs]
  have mt : ∀ st : Store, binV .mul true st (.tup [.int (m : Nat)]) (.int (m : Nat)) = .ok (.tup (List.replicate m (.int (m : Nat)))) st := fun st => by
    rcases (by omega : m = 1 ∨ m = 2 ∨ m = 3 ∨ m = 4) with rfl | rfl | rfl | rfl
    · rfl
    · rfl
    · rfl
    · rfl
  have rw1 : 1 + (List.replicate m (PV.int (m : Nat))).length ≤ sizeLine := by rw [List.length_replicate]; omega
  simp
  rw [wp_ss]
  simp [-b_mul, mt, rw1]
  rw [← row_fin]
  obtain ⟨E, hE⟩ : ∃ E, rowL (m + 1) (Ta.fin m) = E := ⟨_, rfl⟩
  rw [hE]
  rw [wp_ss]
  simp
  rw [wp_ss]
  simp
  rw [wp_ss]
  simp
  obtain ⟨V, hV⟩ : ∃ V, lvs (List.range (m + 1)) = V := ⟨_, rfl⟩
  have fV : freeAll V = true := by rw [← hV]; exact lvs_free _
  have hVm : V = List.map (fun n : Nat => PV.int (n : Int)) (List.range (m + 1)) := hV.symm
  rw [hV]
  obtain ⟨RW, hRW⟩ : ∃ RW : List Nat → List PV, RW = fun l => l.map fun a => PV.tup (rowL (m + 1) (prod way m a)) := ⟨_, rfl⟩
  have RW0 : RW [] = [] := by rw [hRW]; rfl
  have RWs : ∀ l a, RW (l ++ [a]) = RW l ++ [.tup (rowL (m + 1) (prod way m a))] := fun l a => by rw [hRW]; simp
  have RWl : ∀ l, (RW l).length = l.length := fun l => by rw [hRW]; simp
  have RWa : RW (List.range (m + 1)) = prodL (tab way m) := by rw [hRW]; rfl
  obtain ⟨I, hI⟩ : ∃ I : List Nat → Iv.Env → Store → Prop, I = fun l env st' => ∃ (pre : List Nat) (w1 : Option PV), pre ++ l = List.range (m + 1) ∧ env = [some (.loc 0), some (.int 6), some (.int (way : Nat)), some (.int (m : Nat)), some (.lsv V), some (.tup E), some (.tup V), some (.loc 1), w1, none, none, none] ∧ st' = [xs2, RW pre] := ⟨_, rfl⟩
  refine ⟨by omega, ?_⟩
  refine wp_loopE (g := fun n : Nat => PV.int (n : Int)) I (xs := List.range (m + 1)) hVm ?_ ?_ _ _ (by rw [hI]; exact ⟨[], none, rfl, rfl, by rw [RW0]⟩)
  · intro a l env st' hh
    rw [hI] at hh
    obtain ⟨pre, w1, hp, rfl, rfl⟩ := hh
    have ha : a ≤ m := by
      have : a ∈ List.range (m + 1) := by rw [← hp]; simp
      have := List.mem_range.mp this
      omega
    have pl : pre.length ≤ 5 := by
      have := congrArg List.length hp
      rw [List.length_append, List.length_range] at this
      omega
    have nx : ∀ w1, I l [some (.loc 0), some (.int 6), some (.int (way : Nat)), some (.int (m : Nat)), some (.lsv V), some (.tup E), some (.tup V), some (.loc 1), w1, none, none, none] [xs2, RW pre ++ [.tup (rowL (m + 1) (prod way m a))]] := fun w1 => by
      rw [hI]
      exact ⟨pre ++ [a], w1, by rw [List.append_assoc]; exact hp, rfl, by rw [RWs]⟩
    have cm := fun (f : PV → Store → Out (List PV)) (s : Store) (hf : ∀ b ∈ List.range (m + 1), f (.int (b : Nat)) s = .ok [.int (prod way m a b : Nat)] s) => Iv.comp_map (g := fun n : Nat => PV.int (n : Int)) (w := []) (f := f) (st := s) (fun b => PV.int (prod way m a b : Nat)) (List.range (m + 1)) (by simp) hf (by rw [List.length_range]; omega)
    rw [show List.map (fun n : Nat => PV.int (n : Int)) (List.range (m + 1)) = V from hV] at cm
    rw [show List.map (fun b => PV.int (prod way m a b : Nat)) (List.range (m + 1)) = rowL (m + 1) (prod way m a) from rfl] at cm
    have lr := RWl pre
    have q1 : (RW pre).length + 1 ≤ sizeLine := by omega
    obtain ⟨R, hR⟩ : ∃ R, RW pre = R := ⟨_, rfl⟩
    obtain ⟨W, hW⟩ : ∃ R, rowL (m + 1) (prod way m a) = R := ⟨_, rfl⟩
    rw [hR] at nx q1 ⊢
    rw [hW] at nx cm
    refine ⟨by simp, ?_⟩
    simp
    rw [wp_ss]
    rcases (by omega : way = 0 ∨ way = 1 ∨ way = 2 ∨ way = 3) with rfl | rfl | rfl | rfl
    · simp [cmpV]
      rw [wp_ss]
      simp
      rw [cm _ _ (fun b hb => by
        simp [prod]
        have : (if (a : Int) + (b : Nat) < (m : Nat) then (a : Int) + (b : Nat) else (m : Nat)) = ((min m (a + b) : Nat) : Int) := by split <;> omega
        rw [this])]
      simp
      exact ⟨by omega, nx _⟩
    · simp [cmpV]
      rw [wp_ss]
      simp [cmpV]
      rw [wp_ss]
      simp
      rw [cm _ _ (fun b hb => by
        by_cases h : 0 < a
        · have : (0 : Int) < a := by omega
          simp [prod, cmpV, this, h]
        · have : a = 0 := by omega
          subst this
          simp [prod, cmpV])]
      simp
      exact ⟨by omega, nx _⟩
    · simp [cmpV]
      rw [wp_ss]
      simp [cmpV]
      rw [wp_ss]
      simp [cmpV]
      rw [wp_ss]
      simp
      rw [cm _ _ (fun b hb => by
        by_cases h : 0 < b
        · have : (0 : Int) < b := by omega
          simp [prod, cmpV, this, h]
        · have : b = 0 := by omega
          subst this
          simp [prod, cmpV])]
      simp
      exact ⟨by omega, nx _⟩
    · simp [cmpV]
      rw [wp_ss]
      simp [cmpV]
      rw [wp_ss]
      simp [cmpV]
      rw [wp_ss]
      simp
      rw [cm _ _ (fun b hb => by
        have hb2 := List.mem_range.mp hb
        have er := fun st => e_round (cl := cl) (n := n + 2) (st := st) m1 ha (by omega : b ≤ m)
        simp [prod, er])]
      simp
      exact ⟨by omega, nx _⟩
  · intro env st' hh
    rw [hI] at hh
    obtain ⟨pre, w1, hp, rfl, rfl⟩ := hh
    rw [List.append_nil] at hp
    subst hp
    refine ⟨by simp, ?_⟩
    rw [RWa]
    rw [← hV] at fV
    have rid : V = rowL (m + 1) id := hV.symm
    simp
    rw [wp_ss]
    simp
    refine wpX_of_wp (w_draw at__law_draw at__law_mixed rfl hx2 (by omega) (by decide) (by decide) fun r3 xs3 t1 t2 hx3 => ?_)
    obtain ⟨j, hj, j1, j4⟩ : ∃ j : Nat, 1 + r3 = (j : Nat) ∧ 1 ≤ j ∧ j ≤ 4 := ⟨(1 + r3).toNat, by omega, by omega, by omega⟩
    simp only [b_add, wpX_ok, hj]
    rw [rng1_ok (by omega) (by omega)]
    simp
    refine wpX_of_wp ?_
    obtain ⟨J, hJ⟩ : ∃ J : List PV → List PV → Store → Prop, J = fun rs acc st' => ∃ (L : List Nat) (ys : List PV) (cc : Nat), acc = lvs L ∧ L.length + rs.length = j ∧ (∀ a ∈ L, a < m) ∧ st' = [ys, prodL (tab way m)] ∧ Src cc ys ∧ cc = c + 3 + L.length := ⟨_, rfl⟩
    refine wp_comp J ?_ ?_ _ _ _ (by rw [hJ]; exact ⟨[], xs3, c + 3, rfl, by simp [rngL], by simp, rfl, hx3, rfl⟩)
    · intro x rs acc st' hh
      rw [hJ] at hh
      obtain ⟨L, ys, cc, rfl, hw, ha, rfl, hy, hcc⟩ := hh
      rw [List.length_cons] at hw
      refine ⟨by simp, ?_⟩
      simp
      refine w_draw at__law_draw at__law_mixed rfl hy (by omega) (by omega) (by omega) fun r zs r1 r2 hz => ?_
      have hl : (lvs L).length = L.length := by simp [lvs]
      refine ⟨show (lvs L).length + 1 ≤ sizeLine by omega, ?_⟩
      rw [hJ]
      refine ⟨L ++ [r.toNat], zs, cc + 1, by simp [lvs, Int.toNat_of_nonneg r1], by simp; omega, ?_, rfl, hz, by simp; omega⟩
      intro a h
      rw [List.mem_append, List.mem_singleton] at h
      rcases h with h | rfl
      · exact ha a h
      · omega
    · intro acc st' hh
      rw [hJ] at hh
      obtain ⟨L, ys, cc, rfl, hw, ha, rfl, hy, hcc⟩ := hh
      refine ⟨by simp, ?_⟩
      simp at hw
      have last := q way m L ys (by omega) m1 m4 (by intro h; rw [h] at hw; simp at hw; omega) (by omega) ha (hy.up (by omega))
      have fE := free_encT L (tab way m)
      unfold encT at last fE
      have hn : (tab way m).n = m + 1 := rfl
      obtain ⟨PL, hPL⟩ : ∃ P, prodL (tab way m) = P := ⟨_, rfl⟩
      obtain ⟨LL, hLL⟩ : ∃ P, lvs L = P := ⟨_, rfl⟩
      rw [hPL, hLL] at last fE
      rw [hn] at last fE
      rw [hPL, hLL]
      rw [wp_ss]
      have fz := fun (z : Store) (v : PV) (h : v.free = true) => frz_free (m := 1) (s := z) (k := 64) h
      rcases (by omega : way = 0 ∨ way = 1 ∨ way = 2 ∨ way = 3) with rfl | rfl | rfl | rfl
      · rw [show (tab 0 m).O = Ta.fin m from rfl, show (tab 0 m).B = Ta.fin m from rfl, hE] at last fE
        simp [cmpV, fz _ _ fE]
        exact ⟨hy.free, last⟩
      · rw [show (tab 1 m).O = id from rfl, show (tab 1 m).B = Ta.fin m from rfl, hE, ← rid] at last fE
        simp [cmpV, fz _ _ fE]
        exact ⟨hy.free, last⟩
      · rw [show (tab 2 m).O = Ta.fin m from rfl, show (tab 2 m).B = id from rfl, hE, ← rid] at last fE
        simp [cmpV, fz _ _ fE]
        exact ⟨hy.free, last⟩
      · rw [show (tab 3 m).O = Ta.fin m from rfl, show (tab 3 m).B = Ta.fin m from rfl, hE] at last fE
        simp [cmpV, fz _ _ fE]
        exact ⟨hy.free, last⟩
end
end L2.K22
namespace L2.K22
open PySem L2.Iv L2.Ta L2.Sm
open L2.Tm hiding lets fin sg wts_app
open L2.P (At Glb Ec btw lvs lvs_free)
open L2.V (Src w_draw w_source)
theorem cut_init {xs : List PV} : cutP xs none (some (-1)) = xs.dropLast := by
  unfold cutP
  have e1 : HT.sIx xs.length 0 none = 0 := HT.sIx_none ..
  have e2 : HT.sIx xs.length xs.length (some (-1)) = xs.length - 1 := by
    unfold HT.sIx
    simp
    omega
  rw [e1, e2, List.drop_zero, Nat.sub_zero, List.dropLast_eq_take]
def badL : List PV := [.int 4, .tup [.str "then", .int 0], .lsv [.str "on", .int 0], .non, .tup [.str "on", .int 0, .int 0], .bl true, .str "0", .tup [.str "on", .int (-1)]]
structure BadT (v : PV) : Prop where
  no : isTm 4 v = false
  sv : Sv v 10
theorem badL_ok {d : Nat} (h : d < 8) : ∃ v, L2.atI badL (d : Int) = some v ∧ BadT v := by
  rcases (by omega : d = 0 ∨ d = 1 ∨ d = 2 ∨ d = 3 ∨ d = 4 ∨ d = 5 ∨ d = 6 ∨ d = 7) with rfl | rfl | rfl | rfl | rfl | rfl | rfl | rfl <;>
    exact ⟨_, rfl, by decide +kernel, by decide +kernel, by decide +kernel, by decide +kernel⟩
structure Part (v : PV) : Prop where
  sm : small v = true
  dp : dpv v ≤ 2
  wt : Tm.wt v ≤ 40
theorem sv_nats {xs : List PV} (h : ∀ x ∈ xs, ∃ a : Nat, x = .int (a : Nat) ∧ a < 100) (hl : xs.length ≤ 20) : small (.tup xs) = true ∧ dpv (.tup xs) ≤ 1 ∧ Tm.wt (.tup xs) ≤ 1 + xs.length := by
  have a : ∀ x ∈ xs, small x = true ∧ dpv x ≤ 0 ∧ Tm.wt x ≤ 1 := fun x hx => by
    obtain ⟨a, rfl, ha⟩ := h x hx
    exact ⟨decide_eq_true (by show ((a : Nat) : Int).natAbs < _; omega), Nat.le_refl _, Nat.le_refl _⟩
  refine ⟨smalls_of fun x hx => (a x hx).1, ?_, ?_⟩
  · have := dpvs_le fun x hx => (a x hx).2.1
    show 1 + dpvs xs ≤ 1
    omega
  · have := L2.Sm.wts_le fun x hx => (a x hx).2.2
    show 1 + Tm.wts xs ≤ _
    omega
theorem part_nats {xs : List PV} (h : ∀ x ∈ xs, ∃ a : Nat, x = .int (a : Nat) ∧ a < 100) (hl : xs.length ≤ 20) : Part (.tup xs) := by
  obtain ⟨h1, h2, h3⟩ := sv_nats h hl
  exact ⟨h1, by omega, by omega⟩
theorem row_nats {n : Nat} {f : Nat → Nat} (hf : ∀ a, a < n → f a < n) (hn : n ≤ 5) : ∀ x ∈ rowL n f, ∃ a : Nat, x = .int (a : Nat) ∧ a < 100 := fun x hx => by
  obtain ⟨a, ha, rfl⟩ := List.mem_map.mp hx
  have := hf a (List.mem_range.mp ha)
  exact ⟨_, rfl, by omega⟩
theorem part_prod {t : Tb} (T : Lt t) : Part (.tup (prodL t)) ∧ Part (.lsv (prodL t)) := by
  have n5 := T.n5
  have a : ∀ x ∈ prodL t, small x = true ∧ dpv x ≤ 1 ∧ Tm.wt x ≤ 6 := fun x hx => by
    obtain ⟨a, ha, rfl⟩ := List.mem_map.mp hx
    obtain ⟨h1, h2, h3⟩ := sv_nats (row_nats (f := t.P a) (fun b hb => T.pl a b (List.mem_range.mp ha) hb) n5) (by rw [len_rowL]; omega)
    rw [len_rowL] at h3
    exact ⟨h1, h2, by omega⟩
  have s := smalls_of fun x hx => (a x hx).1
  have d := dpvs_le fun x hx => (a x hx).2.1
  have w := L2.Sm.wts_le fun x hx => (a x hx).2.2
  rw [len_prodL] at w
  exact ⟨⟨s, by show 1 + dpvs _ ≤ 2; omega, by show 1 + Tm.wts _ ≤ 40; omega⟩, ⟨s, by show 1 + dpvs _ ≤ 2; omega, by show 1 + Tm.wts _ ≤ 40; omega⟩⟩
theorem part_sv {xs : List PV} (h : ∀ x ∈ xs, Part x) (hl : xs.length ≤ 6) : Sv (.tup xs) 300 ∧ Sv (.lsv xs) 300 := by
  obtain ⟨a, b⟩ := sv_seq (w := 40) (d := 2) (m := 6) (fun x hx => ⟨(h x hx).sm, (h x hx).dp, (h x hx).wt⟩) (by decide) hl
  exact ⟨a.mono (by decide), b.mono (by decide)⟩
structure Gl (t : Tb) (L : List Nat) : Prop where
  ne : L ≠ []
  l10 : L.length ≤ 10
  lt : ∀ a ∈ L, a < t.n
theorem part_lvs {L : List Nat} (hl : L.length ≤ 20) (h : ∀ a ∈ L, a < 100) : Part (.tup (lvs L)) := part_nats (fun x hx => by
  obtain ⟨a, ha, rfl⟩ := List.mem_map.mp hx
  exact ⟨a, rfl, h a ha⟩) (by simp [lvs]; exact hl)
def brk (t : Tb) : Tb := { t with O := fun a => if a = 0 then 1 else t.O a }
theorem brk_lt {t : Tb} (T : Lt t) : Lt (brk t) := { n2 := T.n2, n5 := T.n5, pl := T.pl, bl := T.bl, ol := fun a ha => (by
    have := T.n2
    show (if a = 0 then 1 else t.O a) < t.n
    split
    · omega
    · exact T.ol a ha) }
theorem brk_unit {t : Tb} (T : Lw t) : unitV (brk t) = .tup [.int 0] := by
  have : unitF (brk t) 0 = some (.tup [.int 0]) := by
    unfold unitF
    rw [if_pos (.inr (.inr ⟨rfl, .inl (by show (if 0 = 0 then 1 else t.O 0) ≠ 0; simp)⟩))]
    rfl
  unfold unitV
  rw [fst_some (fun j hj => by omega) this (by show 0 < t.n; have := T.n2; omega)]
  rfl
theorem brk_row (t : Tb) (h : 2 ≤ t.n) : rowL t.n (brk t).O = .int 1 :: (rowL t.n t.O).drop 1 := by
  obtain ⟨m, hm⟩ : ∃ m, t.n = m + 1 := ⟨t.n - 1, by omega⟩
  rw [hm]
  unfold rowL
  rw [List.range_succ_eq_map, List.map_cons, List.map_cons, List.drop_succ_cons, List.drop_zero, List.map_map, List.map_map]
  rfl
def badB (L : List Nat) (t : Tb) : List PV := [.lsv [.tup (lvs L), .tup (prodL t), .tup (rowL t.n t.O), .tup (rowL t.n t.B)], .tup [.tup (lvs L), .tup (prodL t), .tup (rowL t.n t.O)],
  .tup [.tup [], .tup (prodL t), .tup (rowL t.n t.O), .tup (rowL t.n t.B)], .non, .tup [.tup (lvs L), .tup (prodL t), .tup (rowL t.n t.O), .tup (rowL t.n t.B), .tup [.int 0]], .int 0,
  .tup [.tup (lvs L), .tup (prodL t), .tup (rowL t.n t.O).dropLast, .tup (rowL t.n t.B)], .tup [.tup (lvs L), .tup (prodL t), .tup (.int 1 :: (rowL t.n t.O).drop 1), .tup (rowL t.n t.B)],
  .tup [.tup [.int (t.n : Nat)], .tup (prodL t), .tup (rowL t.n t.O), .tup (rowL t.n t.B)], .tup [.tup (lvs L), .lsv (prodL t), .tup (rowL t.n t.O), .tup (rowL t.n t.B)]]
structure BadB (v : PV) : Prop where
  no : ∀ (cl : Str → Nat) (n : Nat) (st : Store), (K22.sg.ctx cl (n + 6)).fn "check_table" [v] st = .exc "InvalidTable" v st
  sv : Sv v 1000
theorem bad_form {v : PV} (s : Sv v 1000) (h : isForm v = false) : BadB v := ⟨fun cl n st => e_check_no hasId.toHasTa s.data fun st => e_not_table (n := n) hasId.toHasTa s.data (by have := s.wt; omega) h, s⟩
theorem badB_ok {L : List Nat} {t : Tb} (T : Lw t) (G : Gl t L) {d : Nat} (h : d < 10) : ∃ v, L2.atI (badB L t) (d : Int) = some v ∧ BadB v := by
  have n5 := T.n5
  have n2 := T.n2
  have pL : Part (.tup (lvs L)) := part_lvs (by have := G.l10; omega) (fun a ha => by have := G.lt a ha; omega)
  obtain ⟨pP, pPl⟩ := part_prod T.toLt
  have rO := row_nats T.ol n5
  have pO : Part (.tup (rowL t.n t.O)) := part_nats rO (by rw [len_rowL]; omega)
  have pB : Part (.tup (rowL t.n t.B)) := part_nats (row_nats T.bl n5) (by rw [len_rowL]; omega)
  have pE : Part (.tup []) := ⟨rfl, by decide, by decide⟩
  have p0 : Part (.tup [.int 0]) := ⟨rfl, by decide, by decide⟩
  have pN : Part (.tup [.int (t.n : Nat)]) := part_nats (fun x hx => by rw [List.mem_singleton] at hx; exact ⟨t.n, hx, by omega⟩) (by simp)
  have pD : Part (.tup (rowL t.n t.O).dropLast) := part_nats (fun x hx => rO x (List.dropLast_subset _ hx)) (by rw [List.length_dropLast, len_rowL]; omega)
  have p1 : Part (.tup (.int 1 :: (rowL t.n t.O).drop 1)) := part_nats (fun x hx => by
    rcases List.mem_cons.mp hx with rfl | hx
    · exact ⟨1, rfl, by decide⟩
    · exact rO x (List.drop_subset _ _ hx)) (by rw [List.length_cons, List.length_drop, len_rowL]; omega)
  have s4 : ∀ {a b c d : PV}, Part a → Part b → Part c → Part d → Sv (.tup [a, b, c, d]) 1000 ∧ Sv (.lsv [a, b, c, d]) 1000 := fun ha hb hc hd => by
    obtain ⟨x, y⟩ := part_sv (xs := [_, _, _, _]) (fun x hx => by
      simp only [List.mem_cons, List.not_mem_nil, or_false] at hx
      rcases hx with rfl | rfl | rfl | rfl
      · exact ha
      · exact hb
      · exact hc
      · exact hd) (by simp)
    exact ⟨x.mono (by decide), y.mono (by decide)⟩
  rcases (by omega : d = 0 ∨ d = 1 ∨ d = 2 ∨ d = 3 ∨ d = 4 ∨ d = 5 ∨ d = 6 ∨ d = 7 ∨ d = 8 ∨ d = 9) with rfl | rfl | rfl | rfl | rfl | rfl | rfl | rfl | rfl | rfl
  · exact ⟨_, rfl, bad_form (s4 pL pP pO pB).2 rfl⟩
  · refine ⟨_, rfl, bad_form ((part_sv (xs := [_, _, _]) (fun x hx => ?_) (by simp)).1.mono (by decide)) rfl⟩
    simp only [List.mem_cons, List.not_mem_nil, or_false] at hx
    rcases hx with rfl | rfl | rfl
    · exact pL
    · exact pP
    · exact pO
  · refine ⟨_, rfl, bad_form (s4 pE pP pO pB).1 ?_⟩
    simp [isForm]
  · exact ⟨_, rfl, bad_form ⟨rfl, by decide, by decide⟩ rfl⟩
  · refine ⟨_, rfl, bad_form ((part_sv (xs := [_, _, _, _, _]) (fun x hx => ?_) (by simp)).1.mono (by decide)) rfl⟩
    simp only [List.mem_cons, List.not_mem_nil, or_false] at hx
    rcases hx with rfl | rfl | rfl | rfl | rfl
    · exact pL
    · exact pP
    · exact pO
    · exact pB
    · exact p0
  · exact ⟨_, rfl, bad_form ⟨rfl, by decide, by decide⟩ rfl⟩
  · refine ⟨_, rfl, bad_form (s4 pL pP pD pB).1 ?_⟩
    have e : areV (prodL t).length (prodL t).length (.tup (rowL t.n t.O).dropLast) = false := by
      show (decide ((rowL t.n t.O).dropLast.length = (prodL t).length) && _) = false
      rw [decide_eq_false (by rw [List.length_dropLast, len_rowL, len_prodL]; omega)]
      rfl
    simp [isForm, e]
  · refine ⟨_, rfl, ⟨fun cl n st => e_check_no hasId.toHasTa (s4 pL pP p1 pB).1.data fun st => ?_, (s4 pL pP p1 pB).1⟩⟩
    have := e_is_table (cl := cl) (n := n) (st := st) hasId.toHasTa (t := brk t) (L := L) (brk_lt T.toLt) G.ne G.l10 G.lt (.inr (brk_unit T))
    rw [brk_unit T] at this
    have ee : encT L (brk t) = .tup [.tup (lvs L), .tup (prodL t), .tup (.int 1 :: (rowL t.n t.O).drop 1), .tup (rowL t.n t.B)] := by
      unfold encT
      rw [show (brk t).n = t.n from rfl, brk_row t n2]
      rfl
    rw [ee] at this
    exact this
  · refine ⟨_, rfl, bad_form (s4 pN pP pO pB).1 ?_⟩
    have e : areV (prodL t).length 1 (.tup [.int (t.n : Nat)]) = false := by
      rw [len_prodL]
      show (decide (1 = 1) && (btw 0 ((t.n : Int) - 1) (.int (t.n : Nat)) && true)) = false
      have : btw 0 ((t.n : Int) - 1) (.int (t.n : Nat)) = false := decide_eq_false (by omega)
      rw [this]; rfl
    simp [isForm, e]
  · exact ⟨_, rfl, bad_form (s4 pL pPl pO pB).1 rfl⟩
end L2.K22
namespace L2.K22
open PySem L2.Iv L2.Ta L2.Sm
open L2.Tm hiding lets fin sg wts_app
open L2.P (At Glb Ec btw lvs lvs_free)
open L2.V (Src w_draw w_source)
def er4 : Sxs := (.cons (.ret (.ands (.cons (.cmp .eq (.call "_law_told" (.cons (.ix (.v 5) (.c (.int 0))) (.cons (.ix (.v 5) (.c (.int 1))) (.cons (.ix (.v 5) (.c (.int 2))) .nil)))) (.v 6)) (.cons (.cmp .eq (.call "_law_held" (.cons (.ix (.v 5) (.c (.int 0))) (.cons (.ix (.v 5) (.c (.int 1))) (.cons (.ix (.v 5) (.c (.int 2))) .nil)))) (.v 6)) .nil)))) <|
  .nil)
def er3 : Sxs := (.cons (.iff (.cmp .eq (.bin .mod true (.bi .int true (.cons (.v 4) .nil)) (.c (.int 2))) (.c (.int 1))) (.cons (.asg (.p (.t4 (.n 8) (.n 9) (.n 10) (.n 11))) (.v 1)) <|
    .cons (.asg (.p (.n 12)) (.lst true (.cons (.bi .list true (.cons (.v 1) .nil)) (.cons (.tup (.cons (.v 8) (.cons (.v 9) (.cons (.v 10) .nil)))) (.cons (.tup (.cons (.tup .nil) (.cons (.v 9) (.cons (.v 10) (.cons (.v 11) .nil))))) (.cons (.c .non) (.cons (.bin .add true (.v 1) (.tup (.cons (.tup (.cons (.c (.int 0)) .nil)) .nil))) (.cons (.c (.int 0)) .nil)))))))) <|
    .cons (.asg (.p (.n 12)) (.bin .add true (.v 12) (.lst true (.cons (.tup (.cons (.v 8) (.cons (.v 9) (.cons (.slT true (.v 10) (.neg (.c (.int 1)))) (.cons (.v 11) .nil))))) (.cons (.tup (.cons (.v 8) (.cons (.v 9) (.cons (.bin .add true (.tup (.cons (.c (.int 1)) .nil)) (.slF true (.v 10) (.c (.int 1)))) (.cons (.v 11) .nil))))) .nil))))) <|
    .cons (.asg (.sub (.v 5) (.c (.int 0))) (.ix (.bin .add true (.v 12) (.lst true (.cons (.tup (.cons (.tup (.cons (.bi .len true (.cons (.v 9) .nil)) .nil)) (.cons (.v 9) (.cons (.v 10) (.cons (.v 11) .nil))))) (.cons (.tup (.cons (.v 8) (.cons (.bi .list true (.cons (.v 9) .nil)) (.cons (.v 10) (.cons (.v 11) .nil))))) .nil)))) (.call "_law_draw" (.cons (.v 0) (.cons (.c (.int 10)) .nil))))) <|
    .cons (.asg (.p (.n 6)) (.tup (.cons (.c (.str "table")) (.cons (.bi .repr true (.cons (.ix (.v 5) (.c (.int 0))) .nil)) .nil)))) <|
    .nil) (.nil)) <|
  er4)
def er2 : Sxs := (.cons (.iff (.cmp .eq (.bin .mod true (.bi .int true (.cons (.bin .fdiv true (.v 4) (.c (.int 2))) .nil)) (.c (.int 2))) (.c (.int 1))) (.cons (.asg (.sub (.v 5) (.c (.int 1))) (.ix (.v 7) (.call "_law_draw" (.cons (.v 0) (.cons (.c (.int 8)) .nil))))) <|
    .cons (.asg (.p (.n 6)) (.tup (.cons (.c (.str "term")) (.cons (.bi .repr true (.cons (.ix (.v 5) (.c (.int 1))) .nil)) .nil)))) <|
    .nil) (.nil)) <|
  er3)
def er1 : Sxs := (.cons (.iff (.cmp .gt (.v 4) (.c (.int 3))) (.cons (.asg (.sub (.v 5) (.c (.int 2))) (.ix (.v 7) (.call "_law_draw" (.cons (.v 0) (.cons (.c (.int 8)) .nil))))) <|
    .cons (.asg (.p (.n 6)) (.tup (.cons (.c (.str "term")) (.cons (.bi .repr true (.cons (.ix (.v 5) (.c (.int 2))) .nil)) .nil)))) <|
    .nil) (.nil)) <|
  er2)
@[simp] theorem ix30 : L2.ixN 3 0 = some 0 := rfl
@[simp] theorem ix31 : L2.ixN 3 1 = some 1 := rfl
@[simp] theorem ix32 : L2.ixN 3 2 = some 2 := rfl
theorem eqv_pair {st : Store} {a b : Str} (ha : PyData.strOk a = true) (hb : PyData.strOk b = true) : eqvV st (.tup [.str a, .str b]) (.tup [.str a, .str b]) = some true := by
  show eqvD (.tup [.str a, .str b]) (.tup [.str a, .str b]) = some true
  unfold eqvD
  have hs : SeqAt.shaped (PV.tup [PV.str a, PV.str b]).toD = true := by
    obtain ⟨_, h2, h3⟩ := fit_ok (.tup [.str a, .str b]) 64 (by show (fit 63 (.str a) && (fit 63 (.str b) && true)) = true; rw [fit_str, fit_str, ha, hb]; rfl)
    unfold SeqAt.shaped
    rw [h2, decide_eq_true h3]; rfl
  rw [if_pos ⟨rfl, rfl, hs, hs⟩]
  show some ((a == a) && ((b == b) && true)) = some true
  simp
theorem k_told : PyData.strOk "told" = true := by decide +kernel
theorem kind_ok (c : Str) : PyData.strOk (kindP c) = true := by
  unfold kindP
  split
  · decide +kernel
  · decide +kernel
theorem eqv_told {o : Option (Str × PV)} {R : PV} {m1 m2 : Nat} (hR : Sv R m1) (hE : ∀ e, o = some e → Sv e.2 m2) (st : Store) : eqvV st (toldP o R) (toldP o R) = some true := by
  cases o with
  | none => exact eqv_pair k_told hR.ok
  | some e => exact eqv_pair (kind_ok _) (hE e rfl).ok
theorem sv_non : Sv .non 1 := ⟨rfl, by decide, by decide⟩
structure Arg (v : PV) : Prop where
  ft : fit 64 v = true
  wt : Tm.wt v ≤ 1000000
theorem Arg.free {v : PV} (h : Arg v) : v.free = true := data_free _ (fit_data h.ft)
theorem arg_enc {u : Tm} (h : Tm.sg u ≤ 60) : Arg (enc u) := ⟨fit_enc u 64 (by have := dep_sg u; omega), by have := wt_enc u; omega⟩
theorem arg_bad {v : PV} (h : BadT v) : Arg v := ⟨fit_up v 20 64 (by decide) (deep_shows h.sv.sm h.sv.dp).fit, by have := h.sv.wt; omega⟩
def Pst (c : Nat) (s2 : Store) : Prop := ∃ zs Z, s2 = [zs, Z] ∧ Src c zs
section
variable {cl : Str → Nat} {n : Nat} {st : Store} {A B C : PV} {tk : Bool} {o : Option (Str × PV)} {R : PV}
theorem told_of (ho : Idr tk A B C o) (fa : A.free = true) (hk : ∀ st, (K22.sg.ctx cl (n + 76)).fn "check_table" [A] st = if tk = true then .ok .non st else .exc "InvalidTable" A st) (aB : Arg B) (aC : Arg C)
    (hR : Sv R 1000) (hE : ∀ e, o = some e → Sv e.2 1000) (hr : o = none → ∀ st, (K22.sg.ctx cl (n + 77)).fn "failing_in" [A, B, C] st = .ok R st) : (K22.sg.ctx cl (n + 79)).fn "_law_told" [A, B, C] st = .ok (toldP o R) st :=
  e_told ho (fun st => e_failing (n := n + 70) hasId fa hk aB.ft aB.wt aC.ft aC.wt ho hR.free hr) (by simp [freeAll, fa, aB.free, aC.free]) hR hE
theorem held_of (ho : Idr tk A B C o) (fa : A.free = true) (hk : ∀ st, (K22.sg.ctx cl (n + 76)).fn "check_table" [A] st = if tk = true then .ok .non st else .exc "InvalidTable" A st) (aB : Arg B) (aC : Arg C)
    (hE : ∀ e, o = some e → Sv e.2 1000) (hr : o = none → ∀ st, (K22.sg.ctx cl (n + 77)).fn "failing_in" [A, B, C] st = .ok R st) : (K22.sg.ctx cl (n + 79)).fn "_law_held" [A, B, C] st = .ok (toldP o (.bl (Ta.isNon R))) st :=
  e_held ho (fun st => e_holds (n := n + 70) hasId fa hk aB.ft aB.wt aC.ft aC.wt ho hr) (by simp [freeAll, fa, aB.free, aC.free]) ⟨rfl, Nat.zero_le _, (by decide : 1 ≤ 1000)⟩ hE
theorem er4_ok {e : Str × PV} (ho : Idr tk A B C (some e)) (fa : A.free = true) (hk : ∀ st, (K22.sg.ctx cl (n + 76)).fn "check_table" [A] st = if tk = true then .ok .non st else .exc "InvalidTable" A st) (aB : Arg B) (aC : Arg C) (sv : Sv e.2 1000)
    {ys : List PV} {v1 v2 v3 v4 v7 v8 v9 v10 v11 v12 : Option PV} : wpO (evSs (K22.sg.ctx cl (n + 79)) er4 [some (.loc 0), v1, v2, v3, v4, some (.loc 1), some (toldP (some e) .non), v7, v8, v9, v10, v11, v12] [ys, [A, B, C]]) fun r s2 => r = .rt (.bl true) ∧ s2 = [ys, [A, B, C]] := by
  have e1 := fun st => told_of (n := n) (cl := cl) (st := st) ho fa hk aB aC (sv_non.mono (by decide)) (R := .non) (fun x h => by cases h; exact sv) (fun h => by cases h)
  have e2 := fun st => held_of (n := n) (cl := cl) (st := st) ho fa hk aB aC (R := .non) (fun x h => by cases h; exact sv) (fun h => by cases h)
  have ev := fun st => eqv_told (o := some e) (R := .non) (st := st) sv_non (fun x h => by cases h; exact sv)
  have z : toldP (some e) (.bl (Ta.isNon .non)) = toldP (some e) .non := rfl
  rw [z] at e2
  obtain ⟨D, hD⟩ : ∃ D, toldP (some e) .non = D := ⟨_, rfl⟩
  rw [hD] at e1 e2 ev ⊢
  unfold er4
  rw [wp_ss]
  simp [e1, e2, cmpV, ev]
theorem er3_ok {t : Tb} {L : List Nat} (T : Lw t) (G : Gl t L) {bits : Nat} (aB : Arg B) (aC : Arg C) {D : PV} (hev : bits % 2 = 0 → ∃ e, Idr true (encT L t) B C (some e) ∧ D = toldP (some e) .non ∧ Sv e.2 1000)
    {c : Nat} {ys : List PV} (hy : Src c ys) (hc : c < 10 ^ 11) {v2 v3 v7 v8 v9 v10 v11 v12 : Option PV} : wpO (evSs (K22.sg.ctx cl (n + 79)) er3 [some (.loc 0), some (encT L t), v2, v3, some (.int (bits : Nat)), some (.loc 1), some D, v7, v8, v9, v10, v11, v12] [ys, [encT L t, B, C]]) fun r s2 => r = .rt (.bl true) ∧ Pst (c + 1) s2 := by
  unfold er3
  rw [wp_ss]
  have em : ((bits : Int) % 2) = ((bits % 2 : Nat) : Int) := by omega
  rcases Nat.mod_two_eq_zero_or_one bits with hb | hb
  · obtain ⟨e, hi, hD, sv⟩ := hev hb
    rw [hD]
    have fx := free_encT L t
    have hk := fun st => e_check_ok (cl := cl) (n := n + 70) (st := st) hasId.toHasTa T G.ne G.l10 G.lt
    obtain ⟨X, hX⟩ : ∃ X, encT L t = X := ⟨_, rfl⟩
    rw [hX] at hi fx hk ⊢
    have nx := er4_ok (cl := cl) (n := n) hi fx (fun st => by rw [if_pos rfl]; exact hk st) aB aC sv (ys := ys) (v1 := some X) (v2 := v2) (v3 := v3) (v4 := some (.int (bits : Nat))) (v7 := v7) (v8 := v8) (v9 := v9) (v10 := v10) (v11 := v11) (v12 := v12)
    simp [cmpV, em, hb]
    refine wp_mono nx fun r s2 h => ?_
    obtain ⟨rfl, rfl⟩ := h
    exact ⟨rfl, _, _, rfl, hy.up (by omega)⟩
  · have lp := len_prodL t
    have bb := fun d h => badB_ok (d := d) T G h
    unfold badB at bb
    unfold encT
    have l10 : (rowL t.n t.O).length = t.n := len_rowL _ _
    have n5 := T.n5
    obtain ⟨W, hW⟩ : ∃ W, lvs L = W := ⟨_, rfl⟩
    obtain ⟨X, hX⟩ : ∃ W, prodL t = W := ⟨_, rfl⟩
    obtain ⟨Y, hY⟩ : ∃ W, rowL t.n t.O = W := ⟨_, rfl⟩
    obtain ⟨Z, hZ⟩ : ∃ W, rowL t.n t.B = W := ⟨_, rfl⟩
    rw [hX] at lp
    rw [hY] at l10
    rw [hW, hX, hY, hZ] at bb
    rw [hW, hX, hY, hZ]
    have big : 1000 ≤ sizeLine := by decide
    have q1 : 1 + (Y.length - 1) ≤ sizeLine := by omega
    simp [cmpV, em, hb]
    rw [wp_ss]
    simp
    rw [wp_ss]
    simp
    rw [wp_ss]
    simp [cut_init, q1]
    rw [wp_ss]
    simp [lp]
    simp only [List.drop_one] at bb
    refine wpX_of_wp (w_draw at__law_draw at__law_mixed rfl hy (by omega) (by decide) (by decide) fun r zs r1 r2 hz => ?_)
    obtain ⟨d, rfl⟩ : ∃ m : Nat, r = (m : Nat) := ⟨r.toNat, by omega⟩
    obtain ⟨A, hA, bA⟩ := bb d (by omega)
    obtain ⟨BB, hBB⟩ : ∃ BB, [PV.lsv [PV.tup W, PV.tup X, PV.tup Y, PV.tup Z], PV.tup [PV.tup W, PV.tup X, PV.tup Y],
                PV.tup [PV.tup [], PV.tup X, PV.tup Y, PV.tup Z], PV.non,
                PV.tup [PV.tup W, PV.tup X, PV.tup Y, PV.tup Z, PV.tup [PV.int 0]], PV.int 0,
                PV.tup [PV.tup W, PV.tup X, PV.tup Y.dropLast, PV.tup Z],
                PV.tup [PV.tup W, PV.tup X, PV.tup (PV.int 1 :: Y.tail), PV.tup Z],
                PV.tup [PV.tup [PV.int (t.n : Nat)], PV.tup X, PV.tup Y, PV.tup Z],
                PV.tup [PV.tup W, PV.lsv X, PV.tup Y, PV.tup Z]] = BB := ⟨_, rfl⟩
    rw [hBB] at hA ⊢
    have hr := fun st fr => bA.sv.repr (by decide) st fr
    have nx := fun (v7 v8 v9 v10 v11 v12 v4 v1 : Option PV) => er4_ok (cl := cl) (n := n) (tk := false) (.a rfl) bA.sv.free (fun st => bA.no cl (n + 70) st) aB aC bA.sv (ys := zs) (v1 := v1) (v2 := v2) (v3 := v3) (v4 := v4) (v7 := v7) (v8 := v8) (v9 := v9) (v10 := v10) (v11 := v11) (v12 := v12)
    have kd : toldP (some (("InvalidTable" : Str), A)) .non = .tup [.str "table", .str A.toD.shown] := by
      show PV.tup [.str (kindP "InvalidTable"), _] = _
      rw [show kindP "InvalidTable" = "table" from if_pos rfl]
    rw [kd] at nx
    simp [hA]
    rw [wp_ss]
    simp [hr]
    refine wp_mono (nx _ _ _ _ _ _ _ _) fun r s2 h => ?_
    obtain ⟨rfl, rfl⟩ := h
    exact ⟨rfl, _, _, rfl, hz⟩
theorem er2_ok {t : Tb} {L : List Nat} (T : Lw t) (G : Gl t L) {u : Tm} (hu : isTm 4 (enc u) = true) (aU : Arg (enc u)) {bits : Nat} (aC : Arg C) {D : PV} (hev : bits % 2 = 0 → bits / 2 % 2 = 0 → BadT C ∧ D = toldP (some ("InvalidTerm", C)) .non)
    {c : Nat} {ys : List PV} (hy : Src c ys) (hc : c < 10 ^ 10) {v2 v3 v8 v9 v10 v11 v12 : Option PV} : wpO (evSs (K22.sg.ctx cl (n + 79)) er2 [some (.loc 0), some (encT L t), v2, v3, some (.int (bits : Nat)), some (.loc 1), some D, some (.lsv badL), v8, v9, v10, v11, v12] [ys, [encT L t, enc u, C]]) fun r s2 => r = .rt (.bl true) ∧ Pst (c + 2) s2 := by
  unfold er2
  rw [wp_ss]
  have em : ((bits : Int) / 2 % 2) = ((bits / 2 % 2 : Nat) : Int) := by omega
  obtain ⟨X, hX⟩ : ∃ X, encT L t = X := ⟨_, rfl⟩
  rcases Nat.mod_two_eq_zero_or_one (bits / 2) with hb | hb
  · have nx := er3_ok (cl := cl) (n := n) T G (bits := bits) aU aC (D := D) (fun h => by
      obtain ⟨b, d⟩ := hev h hb
      exact ⟨_, .c rfl hu b.no, d, b.sv.mono (by decide)⟩) hy (by omega) (v2 := v2) (v3 := v3) (v7 := some (.lsv badL)) (v8 := v8) (v9 := v9) (v10 := v10) (v11 := v11) (v12 := v12)
    rw [hX] at nx ⊢
    obtain ⟨U, hU⟩ : ∃ X, enc u = X := ⟨_, rfl⟩
    rw [hU] at nx ⊢
    have lg : Nat.log2 2 < 9000 := by decide
    simp [cmpV, em, hb, lg]
    refine wp_mono nx fun r s2 h => ?_
    obtain ⟨rfl, zs, Z, h1, h2⟩ := h
    exact ⟨rfl, zs, Z, h1, h2.up (by omega)⟩
  · have nx := fun (zs : List PV) (hz : Src (c + 1) zs) (B : PV) (hB : BadT B) => er3_ok (cl := cl) (n := n) T G (bits := bits) (arg_bad hB) aC (D := toldP (some ("InvalidTerm", B)) .non) (fun h => ⟨_, .b rfl hB.no, rfl, hB.sv.mono (by decide)⟩) hz (by omega) (v2 := v2) (v3 := v3) (v7 := some (.lsv badL)) (v8 := v8) (v9 := v9) (v10 := v10) (v11 := v11) (v12 := v12)
    rw [hX] at nx ⊢
    obtain ⟨U, hU⟩ : ∃ X, enc u = X := ⟨_, rfl⟩
    rw [hU]
    have bk := fun d h => badL_ok (d := d) h
    obtain ⟨BL, hBL⟩ : ∃ X, badL = X := ⟨_, rfl⟩
    rw [hBL] at bk nx ⊢
    have lg : Nat.log2 2 < 9000 := by decide
    simp [cmpV, em, hb, lg]
    rw [wp_ss]
    simp
    refine wpX_of_wp (w_draw at__law_draw at__law_mixed rfl hy (by omega) (by decide) (by decide) fun r zs r1 r2 hz => ?_)
    obtain ⟨d, rfl⟩ : ∃ m : Nat, r = (m : Nat) := ⟨r.toNat, by omega⟩
    obtain ⟨B, hB, bB⟩ := bk d (by omega)
    have hr := fun st fr => bB.sv.repr (by decide) st fr
    have kd : toldP (some (("InvalidTerm" : Str), B)) .non = .tup [.str "term", .str B.toD.shown] := by
      show PV.tup [.str (kindP "InvalidTerm"), _] = _
      rw [show kindP "InvalidTerm" = "term" from if_neg m1]
    have nx := nx zs hz B bB
    rw [kd] at nx
    simp [hB]
    rw [wp_ss]
    simp [hr]
    refine wp_mono nx fun r s2 h => ?_
    obtain ⟨rfl, h⟩ := h
    exact ⟨rfl, h⟩
theorem w_errors {t : Tb} {L : List Nat} (T : Lw t) (G : Gl t L) {u w : Tm} (hu : isTm 4 (enc u) = true) (aU : Arg (enc u)) (aW : Arg (enc w)) {c i : Nat} {xs : List PV} {Q : PV → Store → Prop} {st : Store} (hi : st[i]? = some xs) (hx : Src c xs) (hc : c < 10 ^ 9)
    (q : ∀ ys, Src (c + 4) ys → Q (.bl true) (st.set i ys)) : wpO ((K22.sg.ctx cl (n + 80)).fn "_law_errors" [.loc i, encT L t, enc u, enc w] st) Q := by
  refine wp_fn1 at__law_errors rfl rfl (by simp [freeAll, free_enc, free_encT]) hi hx.free ?_
  show wpO (evSs _ (.cons (.asg (.p (.n 4)) (.bin .add true (.c (.int 1)) (.call "_law_draw" (.cons (.v 0) (.cons (.c (.int 7)) .nil))))) (.cons (.asg (.p (.n 5)) (.lst false (.cons (.v 1) (.cons (.v 2) (.cons (.v 3) .nil))))) (.cons (.asg (.p (.n 6)) (.c .non)) (.cons (.asg (.p (.n 7)) (.lst true (.cons (.c (.int 4)) (.cons (.tup (.cons (.c (.str "then")) (.cons (.c (.int 0)) .nil))) (.cons (.lst true (.cons (.c (.str "on")) (.cons (.c (.int 0)) .nil))) (.cons (.c .non) (.cons (.tup (.cons (.c (.str "on")) (.cons (.c (.int 0)) (.cons (.c (.int 0)) .nil)))) (.cons (.c (.bl true)) (.cons (.c (.str "0")) (.cons (.tup (.cons (.c (.str "on")) (.cons (.neg (.c (.int 1))) .nil))) .nil)))))))))) er1)))) _ _) _
  have nx0 := fun (D : PV) (C : PV) (aC : Arg C) (bits : Nat) hev (c' : Nat) (hc' : c' < 10 ^ 10) (ys : List PV) (hy : Src c' ys) (v2 v3 : Option PV) => er2_ok (cl := cl) (n := n) T G hu aU (bits := bits) aC (D := D) hev hy hc' (v2 := v2) (v3 := v3) (v8 := none) (v9 := none) (v10 := none) (v11 := none) (v12 := none)
  obtain ⟨X, hX⟩ : ∃ X, encT L t = X := ⟨_, rfl⟩
  rw [hX] at nx0 ⊢
  obtain ⟨U, hU⟩ : ∃ X, enc u = X := ⟨_, rfl⟩
  obtain ⟨W, hW⟩ : ∃ X, enc w = X := ⟨_, rfl⟩
  rw [hU] at nx0 ⊢
  rw [hW] at aW ⊢
  have bl : ∀ (env : Iv.Env) (s : Store), evE (K22.sg.ctx cl (n + 79)) (.lst true (.cons (.c (.int 4)) (.cons (.tup (.cons (.c (.str "then")) (.cons (.c (.int 0)) .nil))) (.cons (.lst true (.cons (.c (.str "on")) (.cons (.c (.int 0)) .nil))) (.cons (.c .non) (.cons (.tup (.cons (.c (.str "on")) (.cons (.c (.int 0)) (.cons (.c (.int 0)) .nil)))) (.cons (.c (.bl true)) (.cons (.c (.str "0")) (.cons (.tup (.cons (.c (.str "on")) (.cons (.neg (.c (.int 1))) .nil))) .nil))))))))) env s = .ok (.lsv badL) s := fun env s => by simp [badL]
  have bk := fun d h => badL_ok (d := d) h
  obtain ⟨BL, hBL⟩ : ∃ X, badL = X := ⟨_, rfl⟩
  rw [hBL] at bl bk nx0
  simp only [f__law_errors, env0]
  rw [wp_ss]
  simp
  refine wpX_of_wp (w_draw at__law_draw at__law_mixed rfl hx (by omega) (by decide) (by decide) fun r xs1 r1 r2 hx1 => ?_)
  obtain ⟨bits, hbits, b1, b7⟩ : ∃ m : Nat, 1 + r = (m : Nat) ∧ 1 ≤ m ∧ m ≤ 7 := ⟨(1 + r).toNat, by omega, by omega, by omega⟩
  simp [hbits]
  rw [wp_ss]
  simp
  rw [wp_ss]
  simp
  rw [wp_ss, r_sasg]
  rw [bl]
  simp
  unfold er1
  rw [wp_ss]
  have done : ∀ (r : Fl) (s2 : Store) (c' : Nat), c' ≤ c + 4 → r = .rt (.bl true) ∧ Pst c' s2 → ∃ ys, s2[0]? = some ys ∧ freeAll ys = true ∧ match r with
      | .rt v => ∃ v', frz 1 s2 64 v = some v' ∧ Q v' (st.set i ys)
      | .nx _ => Q .non (st.set i ys)
      | _ => False := fun r s2 c' hc' h => by
    obtain ⟨rfl, zs, Z, rfl, hz⟩ := h
    exact ⟨zs, rfl, hz.free, _, frz_free rfl, q zs (hz.up hc')⟩
  by_cases hb : 3 < bits
  · have z : (3 : Int) < bits := by omega
    simp [cmpV, z]
    rw [wp_ss]
    simp
    refine wpX_of_wp (w_draw at__law_draw at__law_mixed rfl hx1 (by omega) (by decide) (by decide) fun r zs r1 r2 hz => ?_)
    obtain ⟨d, rfl⟩ : ∃ m : Nat, r = (m : Nat) := ⟨r.toNat, by omega⟩
    obtain ⟨C, hC, bC⟩ := bk d (by omega)
    have hr := fun st fr => bC.sv.repr (by decide) st fr
    have kd : toldP (some (("InvalidTerm" : Str), C)) .non = .tup [.str "term", .str C.toD.shown] := by
      show PV.tup [.str (kindP "InvalidTerm"), _] = _
      rw [show kindP "InvalidTerm" = "term" from if_neg m1]
    have nx := nx0 (toldP (some ("InvalidTerm", C)) .non) C (arg_bad bC) bits (fun _ _ => ⟨bC, rfl⟩) (c + 2) (by omega) zs hz (some U) (some W)
    rw [kd] at nx
    simp [hC]
    rw [wp_ss]
    simp [hr]
    exact wp_mono nx fun r s2 h => done r s2 (c + 4) (by omega) h
  · have z : ¬ (3 : Int) < bits := by omega
    have nx := nx0 .non W aW bits (fun h1 h2 => by omega) (c + 1) (by omega) xs1 hx1 (some U) (some W)
    simp [cmpV, z]
    exact wp_mono nx fun r s2 h => done r s2 (c + 3) (by omega) h
end
end L2.K22
namespace L2.K22
open PySem L2.Iv L2.Ta L2.Sm
open L2.Tm hiding lets fin sg wts_app
open L2.P (At Glb Ec btw lvs lvs_free)
open L2.V (Src w_draw w_source free_ints)
def lrest : Sxs := (.cons (.asg (.p (.n 8)) (.call "_law_due" (.cons (.v 4) (.cons (.v 6) (.cons (.v 7) .nil))))) <|
  .cons (.iff (.ands (.cons (.v 2) (.cons (.cmp .isnot (.v 8) (.c .non)) .nil))) (.cons (.ret (.c (.bl false))) <|
    .nil) (.nil)) <|
  .cons (.iff (.cmp .ne (.call "_law_told" (.cons (.v 4) (.cons (.v 6) (.cons (.v 7) .nil)))) (.tup (.cons (.c (.str "told")) (.cons (.bi .repr true (.cons (.v 8) .nil)) .nil)))) (.cons (.ret (.c (.bl false))) <|
    .nil) (.nil)) <|
  .cons (.iff (.cmp .ne (.call "_law_held" (.cons (.v 4) (.cons (.v 6) (.cons (.v 7) .nil)))) (.tup (.cons (.c (.str "told")) (.cons (.bi .repr true (.cons (.cmp .is (.v 8) (.c .non)) .nil)) .nil)))) (.cons (.ret (.c (.bl false))) <|
    .nil) (.nil)) <|
  .cons (.iff (.ands (.cons (.v 3) (.cons (.nt (.call "_law_errors" (.cons (.v 1) (.cons (.v 4) (.cons (.v 6) (.cons (.v 7) .nil)))))) .nil))) (.cons (.ret (.c (.bl false))) <|
    .nil) (.nil)) <|
  .cons (.asg (.p (.n 9)) (.bin .add true (.tup (.cons (.tup (.cons (.c (.int 0)) .nil)) .nil)) (.slF true (.v 4) (.c (.int 1))))) <|
  .cons (.ret (.ands (.cons (.cmp .eq (.call "_law_told" (.cons (.v 9) (.cons (.v 7) (.cons (.v 6) .nil)))) (.tup (.cons (.c (.str "told")) (.cons (.bi .repr true (.cons (.v 8) .nil)) .nil)))) (.cons (.cmp .eq (.call "_law_held" (.cons (.v 4) (.cons (.v 6) (.cons (.v 6) .nil)))) (.tup (.cons (.c (.str "told")) (.cons (.c (.str "True")) .nil)))) .nil)))) <|
  .nil)
theorem sv_outL {t : Tb} (T : Lt t) {u w : Tm} (h4 : many u w ≤ 4) : Sv (outL (failT t u w)) 1000 := by
  cases h : failT t u w with
  | none => exact sv_non.mono (by decide)
  | some vs =>
    obtain ⟨l, a⟩ := fail_lt h
    have n5 := T.n5
    have p := part_lvs (L := vs) (by omega) (fun x hx => by have := a x hx; omega)
    show Sv (.tup (lvs vs)) 1000
    exact ⟨p.sm, by have := p.dp; omega, by have := p.wt; omega⟩
theorem rest_ok {cl : Str → Nat} {t : Tb} {L : List Nat} (T : Lw t) (G : Gl t L) {k c : Nat} (hk : k ≤ 3) {u w : Tm} (hu : wf k u = true) (hw : wf k w = true) (su : Tm.sg u ≤ 50) (sw : Tm.sg w ≤ 50) {same broken : Bool} (hs : same = true → One w u)
    {ys : List PV} (hy : Src c ys) (hc : c < 10 ^ 8) {v0 : Option PV} : wpO (evSs (K22.sg.ctx cl 149) lrest [v0, some (.loc 0), some (.bl same), some (.bl broken), some (encT L t), some (.int (k : Nat)), some (enc u), some (enc w), none, none] [ys]) fun r s2 => match r with
      | .rt v => frz 0 s2 64 v = some (.bl true)
      | _ => False := by
  have iu := isTm_enc u 4 k hu (by omega)
  have iw := isTm_enc w 4 k hw (by omega)
  have aU := arg_enc (u := u) (by omega)
  have aW := arg_enc (u := w) (by omega)
  have du := dep_sg u
  have dw := dep_sg w
  have lu := fun c h => L2.P.lets_wf u k hu c h
  have lw := fun c h => L2.P.lets_wf w k hw c h
  have m1 : many u w ≤ 4 := Nat.le_trans (mx_le (k := k) fun c hc => by
    rcases List.mem_append.mp hc with h | h
    · exact lu c h
    · exact lw c h) (by omega)
  have m2 : many w u ≤ 4 := by rw [many_comm]; exact m1
  have m3 : many u u ≤ 4 := Nat.le_trans (mx_le (k := k) fun c hc => by
    rcases List.mem_append.mp hc with h | h
    · exact lu c h
    · exact lu c h) (by omega)
  have GZ : Gl t [0] := ⟨by simp, by simp, fun a ha => by rw [List.mem_singleton] at ha; subst ha; have := T.n2; omega⟩
  have chk := fun (L : List Nat) (G : Gl t L) st => e_check_ok (cl := cl) (n := 140) (st := st) hasId.toHasTa T G.ne G.l10 G.lt
  have due := fun st => e_law_due (cl := cl) (n := 79) (st := st) T.toLt L (by omega : dep u ≤ 60) (by omega : dep w ≤ 60) (by omega) (by omega) m1
  have f1 := fun (L : List Nat) st => e_failing_in (cl := cl) (n := 77) (st := st) hasId T.toLt (L := L) (by omega : dep u ≤ 60) (by omega : dep w ≤ 60) (by omega) (by omega) m1
  have f2 := fun (L : List Nat) st => e_failing_in (cl := cl) (n := 77) (st := st) hasId T.toLt (L := L) (by omega : dep w ≤ 60) (by omega : dep u ≤ 60) (by omega) (by omega) m2
  have f3 := fun (L : List Nat) st => e_failing_in (cl := cl) (n := 77) (st := st) hasId T.toLt (L := L) (by omega : dep u ≤ 60) (by omega : dep u ≤ 60) (by omega) (by omega) m3
  have sv := sv_outL T.toLt m1
  have no : ∀ e : Str × PV, (none : Option (Str × PV)) = some e → Sv e.2 1000 := fun e h => by cases h
  have t1 := fun st => told_of (cl := cl) (n := 70) (st := st) (tk := true) (o := none) (.o rfl iu iw) (free_encT L t) (fun st => by rw [if_pos rfl]; exact chk L G st) aU aW sv no (fun _ st => f1 L st)
  have h1 := fun st => held_of (cl := cl) (n := 70) (st := st) (tk := true) (o := none) (.o rfl iu iw) (free_encT L t) (fun st => by rw [if_pos rfl]; exact chk L G st) aU aW no (fun _ st => f1 L st)
  have t2 := fun st => told_of (cl := cl) (n := 70) (st := st) (tk := true) (o := none) (.o rfl iw iu) (free_encT [0] t) (fun st => by rw [if_pos rfl]; exact chk [0] GZ st) aW aU (by rw [fail_comm]; exact sv) no (fun _ st => f2 [0] st)
  have h3 := fun st => held_of (cl := cl) (n := 70) (st := st) (tk := true) (o := none) (.o rfl iu iu) (free_encT L t) (fun st => by rw [if_pos rfl]; exact chk L G st) aU aU no (fun _ st => f3 L st)
  rw [fail_comm t w u] at t2
  rw [fail_self] at h3
  have e3 : toldP none (.bl (Ta.isNon (outL none))) = .tup [.str "told", .str "True"] := rfl
  rw [e3] at h3
  have ev3 : ∀ st, eqvV st (.tup [.str "told", .str "True"]) (.tup [.str "told", .str "True"]) = some true := fun st => eqv_pair k_told (by decide +kernel)
  have hsame : same = true → outL (failT t u w) = .non := fun h => by rw [fail_comm, fail_one T (hs h)]; rfl
  have we := fun (Q : PV → Store → Prop) q => w_errors (cl := cl) (n := 69) T G iu aU aW (c := c) (i := 0) (xs := ys) (Q := Q) (st := [ys]) rfl hy (by omega) q
  have own : ∀ st : Store, binV .add true st (.tup [.tup [.int 0]]) (.tup [.tup (prodL t), .tup (rowL t.n t.O), .tup (rowL t.n t.B)]) = .ok (encT [0] t) st := fun st => rfl
  have sl : ∀ (st : Store), slV true st (encT L t) (some 1) none = .ok (.tup [.tup (prodL t), .tup (rowL t.n t.O), .tup (rowL t.n t.B)]) st := fun st => rfl
  obtain ⟨D, hD⟩ : ∃ D, outL (failT t u w) = D := ⟨_, rfl⟩
  rw [hD] at due sv t1 h1 t2 hsame
  have rD := fun st fr => sv.repr (by decide) st fr
  have svb : Sv (.bl (Ta.isNon D)) 1 := ⟨rfl, Nat.zero_le _, (by decide : 1 ≤ 1)⟩
  have rB := fun st fr => svb.repr (by decide) st fr
  have ev1 := fun st => eqv_pair (st := st) k_told sv.ok
  have ev2 := fun st => eqv_pair (st := st) k_told svb.ok
  have ci : ∀ st, cmpV .is st D .non = some (Ta.isNon D) := fun st => by cases D <;> rfl
  have cn : same = true → ∀ st, cmpV .isnot st D .non = some false := fun h st => by rw [hsame h]; rfl
  unfold toldP at t1 h1 t2
  simp only [] at t1 h1 t2
  obtain ⟨X, hX⟩ : ∃ X, encT L t = X := ⟨_, rfl⟩
  obtain ⟨X0, hX0⟩ : ∃ X, encT [0] t = X := ⟨_, rfl⟩
  obtain ⟨Z, hZ⟩ : ∃ X, PV.tup [.tup (prodL t), .tup (rowL t.n t.O), .tup (rowL t.n t.B)] = X := ⟨_, rfl⟩
  obtain ⟨U, hU⟩ : ∃ X, enc u = X := ⟨_, rfl⟩
  obtain ⟨W, hW⟩ : ∃ X, enc w = X := ⟨_, rfl⟩
  obtain ⟨S1, hS1⟩ : ∃ X, D.toD.shown = X := ⟨_, rfl⟩
  obtain ⟨S2, hS2⟩ : ∃ X, (PV.bl (Ta.isNon D)).toD.shown = X := ⟨_, rfl⟩
  rw [hX, hU, hW] at due t1 h1 we
  rw [hX0, hU, hW] at t2
  rw [hX, hU] at h3
  rw [hX0, hZ] at own
  rw [hX, hZ] at sl
  rw [hX, hU, hW]
  rw [hS1] at t1 t2 rD ev1
  rw [hS2] at h1 rB ev2
  clear hX hX0 hZ hU hW hD f1 f2 f3 chk
  unfold lrest
  rw [wp_ss]
  simp [due]
  rw [wp_ss]
  have last : ∀ (zs : List PV), wpO (evSs (K22.sg.ctx cl 149) (.cons (.asg (.p (.n 9)) (.bin .add true (.tup (.cons (.tup (.cons (.c (.int 0)) .nil)) .nil)) (.slF true (.v 4) (.c (.int 1))))) <|
  .cons (.ret (.ands (.cons (.cmp .eq (.call "_law_told" (.cons (.v 9) (.cons (.v 7) (.cons (.v 6) .nil)))) (.tup (.cons (.c (.str "told")) (.cons (.bi .repr true (.cons (.v 8) .nil)) .nil)))) (.cons (.cmp .eq (.call "_law_held" (.cons (.v 4) (.cons (.v 6) (.cons (.v 6) .nil)))) (.tup (.cons (.c (.str "told")) (.cons (.c (.str "True")) .nil)))) .nil)))) <|
  .nil) [v0, some (.loc 0), some (.bl same), some (.bl broken), some X, some (.int (k : Nat)), some U, some W, some D, none] [zs]) fun r s2 => match r with
      | .rt v => frz 0 s2 64 v = some (.bl true)
      | _ => False := fun zs => by
    rw [wp_ss]
    simp [-b_addT, sl, own]
    rw [wp_ss]
    simp [t2, h3, rD, cmpV, ev1, ev3]
  have mid : wpO (evSs (K22.sg.ctx cl 149) (.cons (.iff (.cmp .ne (.call "_law_told" (.cons (.v 4) (.cons (.v 6) (.cons (.v 7) .nil)))) (.tup (.cons (.c (.str "told")) (.cons (.bi .repr true (.cons (.v 8) .nil)) .nil)))) (.cons (.ret (.c (.bl false))) <|
    .nil) (.nil)) <|
  .cons (.iff (.cmp .ne (.call "_law_held" (.cons (.v 4) (.cons (.v 6) (.cons (.v 7) .nil)))) (.tup (.cons (.c (.str "told")) (.cons (.bi .repr true (.cons (.cmp .is (.v 8) (.c .non)) .nil)) .nil)))) (.cons (.ret (.c (.bl false))) <|
    .nil) (.nil)) <|
  .cons (.iff (.ands (.cons (.v 3) (.cons (.nt (.call "_law_errors" (.cons (.v 1) (.cons (.v 4) (.cons (.v 6) (.cons (.v 7) .nil)))))) .nil))) (.cons (.ret (.c (.bl false))) <|
    .nil) (.nil)) <|
  .cons (.asg (.p (.n 9)) (.bin .add true (.tup (.cons (.tup (.cons (.c (.int 0)) .nil)) .nil)) (.slF true (.v 4) (.c (.int 1))))) <|
  .cons (.ret (.ands (.cons (.cmp .eq (.call "_law_told" (.cons (.v 9) (.cons (.v 7) (.cons (.v 6) .nil)))) (.tup (.cons (.c (.str "told")) (.cons (.bi .repr true (.cons (.v 8) .nil)) .nil)))) (.cons (.cmp .eq (.call "_law_held" (.cons (.v 4) (.cons (.v 6) (.cons (.v 6) .nil)))) (.tup (.cons (.c (.str "told")) (.cons (.c (.str "True")) .nil)))) .nil)))) <|
  .nil) [v0, some (.loc 0), some (.bl same), some (.bl broken), some X, some (.int (k : Nat)), some U, some W, some D, none] [ys]) fun r s2 => match r with
      | .rt v => frz 0 s2 64 v = some (.bl true)
      | _ => False := by
    rw [wp_ss]
    simp [t1, rD, cmpV, ev1]
    rw [wp_ss]
    simp [-L2.P.c_isN, h1, ci, rB]
    simp [cmpV, ev2]
    rw [wp_ss]
    cases broken with
    | false =>
      simp
      exact last ys
    | true =>
      simp
      refine wpX_of_wp (we _ fun zs hz => ?_)
      simp
      exact last zs
  cases same with
  | false =>
    simp
    exact mid
  | true =>
    have cn := cn rfl
    simp [-L2.P.c_isnotN, cn]
    exact mid
theorem law_ok (cl : Str → Nat) (ns : List Int) (h : ns.length ≤ 63) : ∃ st, callF cl sg.ecs sg.tb (fun y => sg.gl.lookup y) 150 "law" [.lsv (ns.map PV.int)] [] = .ok (.bl true) st := by
  refine ⟨[], ?_⟩
  have ft : freeAll [.lsv (ns.map PV.int)] = true := by simp [freeAll, PV.free, free_ints]
  refine fn_eq (g := K22.sg) (cl := cl) (n := 149) at_law rfl rfl ft ?_
  show wpO (evSs _ (.cons (.asg (.p (.n 1)) (.call "_law_source" (.cons (.v 0) .nil))) <|
  .cons (.asg (.p (.n 2)) (.cmp .eq (.call "_law_draw" (.cons (.v 1) (.cons (.c (.int 3)) .nil))) (.c (.int 0)))) <|
  .cons (.asg (.p (.n 3)) (.cmp .eq (.call "_law_draw" (.cons (.v 1) (.cons (.c (.int 4)) .nil))) (.c (.int 0)))) <|
  .cons (.asg (.p (.n 4)) (.call "_law_table" (.cons (.v 1) (.cons (.c (.int 6)) .nil)))) <|
  .cons (.asg (.p (.n 5)) (.bin .add true (.c (.int 1)) (.call "_law_draw" (.cons (.v 1) (.cons (.c (.int 3)) .nil))))) <|
  .cons (.asg (.p (.n 6)) (.call "_law_term" (.cons (.v 1) (.cons (.v 5) (.cons (.bin .add true (.c (.int 1)) (.call "_law_draw" (.cons (.v 1) (.cons (.c (.int 6)) .nil)))) (.cons (.c (.int 3)) .nil)))))) <|
  .cons (.asg (.p (.n 7)) (.call "_law_term" (.cons (.v 1) (.cons (.v 5) (.cons (.bin .add true (.c (.int 1)) (.call "_law_draw" (.cons (.v 1) (.cons (.c (.int 6)) .nil)))) (.cons (.c (.int 3)) .nil)))))) <|
  .cons (.iff (.v 2) (.cons (.asg (.p (.n 7)) (.call "_law_same_row" (.cons (.v 1) (.cons (.call "_law_same_row" (.cons (.v 1) (.cons (.v 6) .nil))) .nil)))) <|
    .nil) (.nil)) <|
  lrest) _ _) _
  have aD := at__law_draw
  have aM := at__law_mixed
  simp only [f_law, env0]
  rw [wp_ss]
  simp
  refine wpX_of_wp (w_source (n := 148) (st := []) at__law_source h fun xs hx => ?_)
  try simp
  rw [wp_ss]
  simp
  refine wpX_of_wp (w_draw (n := 147) aD aM rfl hx (by omega) (by decide) (by decide) fun r1 xs r10 r11 hx => ?_)
  obtain ⟨same, hsame⟩ : ∃ b, (r1 == 0) = b := ⟨_, rfl⟩
  simp [cmpV, hsame]
  rw [wp_ss]
  simp
  refine wpX_of_wp (w_draw (n := 147) aD aM rfl hx (by omega) (by decide) (by decide) fun r2 xs r20 r21 hx => ?_)
  obtain ⟨broken, hbroken⟩ : ∃ b, (r2 == 0) = b := ⟨_, rfl⟩
  simp [cmpV, hbroken]
  rw [wp_ss]
  simp
  refine wpX_of_wp (w_table (n := 145) rfl hx (by omega) fun way most L xs hway m1 m4 hL l4 lt hx => ?_)
  have T := tab_law hway m1 m4
  have G : Gl (tab way most) L := ⟨hL, by omega, fun a ha => by have := lt a ha; show a < most + 1; omega⟩
  obtain ⟨t, ht⟩ : ∃ t, tab way most = t := ⟨_, rfl⟩
  rw [ht] at T G ⊢
  have fin := fun {k c : Nat} (hk : k ≤ 3) {u w : Tm} (hu : wf k u = true) (hw : wf k w = true) (su : Tm.sg u ≤ 50) (sw : Tm.sg w ≤ 50) (hs : same = true → One w u) {ys : List PV} (hy : Src c ys) (hc : c < 10 ^ 8) => rest_ok (cl := cl) T G hk hu hw su sw (same := same) (broken := broken) hs hy hc (v0 := some (.lsv (ns.map PV.int)))
  obtain ⟨X, hX⟩ : ∃ X, encT L t = X := ⟨_, rfl⟩
  rw [hX] at fin ⊢
  simp
  rw [wp_ss]
  simp
  refine wpX_of_wp (w_draw (n := 147) aD aM rfl hx (by omega) (by decide) (by decide) fun r3 xs r30 r31 hx => ?_)
  obtain ⟨k, hk, hk1, hk3⟩ : ∃ k : Nat, 1 + r3 = (k : Int) ∧ 1 ≤ k ∧ k ≤ 3 := ⟨(1 + r3).toNat, by omega, by omega, by omega⟩
  simp [hk]
  rw [wp_ss]
  simp
  refine wpX_of_wp (w_draw (n := 147) aD aM rfl hx (by omega) (by decide) (by decide) fun r4 xs r40 r41 hx => ?_)
  obtain ⟨R, hR, hR1, hR2⟩ : ∃ R : Nat, 1 + r4 = (R : Int) ∧ 1 ≤ R ∧ R ≤ 6 := ⟨(1 + r4).toNat, by omega, by omega, by omega⟩
  have d6 : dr 6 = 5 * 63 + 128 := by decide
  simp [hR]
  refine wpX_of_wp (w_term (cl := cl) (n := 140) (k := k) (by omega) (by omega) 6 R 3 _ 0 [xs] xs _ hR1 hR2 (by omega) rfl hx (by omega) fun u xs hu su hx => ?_)
  simp
  rw [wp_ss]
  simp
  refine wpX_of_wp (w_draw (n := 147) aD aM rfl hx (by omega) (by decide) (by decide) fun r5 xs r50 r51 hx => ?_)
  obtain ⟨R2, hR2, hR3, hR4⟩ : ∃ R : Nat, 1 + r5 = (R : Int) ∧ 1 ≤ R ∧ R ≤ 6 := ⟨(1 + r5).toNat, by omega, by omega, by omega⟩
  simp [hR2]
  refine wpX_of_wp (w_term (cl := cl) (n := 140) (k := k) (by omega) (by omega) 6 R2 3 _ 0 [xs] xs _ hR3 hR4 (by omega) rfl hx (by omega) fun w xs hw sw hx => ?_)
  simp
  rw [wp_ss]
  cases same with
  | false =>
    simp
    refine wp_mono (fin hk3 hu hw (by omega) (by omega) (fun h => by cases h) hx (by omega)) fun f s2 hh => ?_
    cases f <;> first | exact hh.elim | exact hh
  | true =>
    simp
    rw [wp_ss]
    simp
    refine wpX_of_wp (w_same (cl := cl) (n := 140) (k := k) 6 u _ 0 [xs] xs _ hu (by omega) (by omega) rfl hx (by omega) fun u1 xs1 M1 hx1 => ?_)
    simp
    have g1 := M1.sg
    refine wpX_of_wp (w_same (cl := cl) (n := 131) (k := k) 15 u1 _ 0 [xs1] xs1 _ M1.wf (by omega) (by omega) rfl hx1 (by omega) fun u2 xs2 M2 hx2 => ?_)
    have g2 := M2.sg
    simp
    refine wp_mono (fin hk3 hu M2.wf (by omega) (by omega) (fun _ => M2.one.trans M1.one) hx2 (by omega)) fun f s2 hh => ?_
    cases f <;> first | exact hh.elim | exact hh
end L2.K22
namespace L2.K22
open PySem PySem.Spec PyProof.Rows L2.Iv
theorem def_is_integer {K : PySem.W.Frag} {h : Heap} {mg : Str → Option Value} (KX : K.In h) (G : h.Ns mainGlobals mg) {a : Addr} {od an : Option Addr} {sl : Array (Option Value)} {oc kV dc pm cd ct : Value}
    (n : PySem.W.nsIn K mainGlobals "is_integer" = some (some (.ref a))) (l : K.lookup a = some ⟨oc, od, .func (PySem.W.fnOf "is_integer" "is_integer" (defArgs (topS 1)) (defBody (topS 1)) (defScope (topS 1)) .none kV dc pm an cd ct), sl⟩)
    (c : PySem.W.codeIn K cd "is_integer" = true) (k : PySem.W.keepIn K (.ref a) = true) : ∃ a fd, DefAt K mg sg "is_integer" f_is_integer a fd := by
  refine ⟨a, PySem.W.fnOf "is_integer" "is_integer" (defArgs (topS 1)) (defBody (topS 1)) (defScope (topS 1)) .none kV dc pm an cd ct, PySem.W.mg_of KX G n, ⟨topS 1, "is_integer", fun_mk l c k, scope_is_integer, look_is_integer⟩, fun s us hl => ?_, fun ks np perm hm => ?_⟩
  · match us, hl with
    | [_], _ => exact .of_eq rfl
  · have hm : (("is_integer" : Str), ks, np, perm) ∈ [(("failing" : Str), (["other", "one", "table"] : List Str), (0 : Nat), ([2, 1, 0] : List Nat)), (("holds_in" : Str), (["other", "one", "table"] : List Str), (0 : Nat), ([2, 1, 0] : List Nat))] := hm
    simp only [List.mem_cons, List.not_mem_nil, or_false, Prod.mk.injEq] at hm
    rcases hm with h | h
    · exact absurd h.1 (by decide)
    · exact absurd h.1 (by decide)
theorem def_is_between {K : PySem.W.Frag} {h : Heap} {mg : Str → Option Value} (KX : K.In h) (G : h.Ns mainGlobals mg) {a : Addr} {od an : Option Addr} {sl : Array (Option Value)} {oc kV dc pm cd ct : Value}
    (n : PySem.W.nsIn K mainGlobals "is_between" = some (some (.ref a))) (l : K.lookup a = some ⟨oc, od, .func (PySem.W.fnOf "is_between" "is_between" (defArgs (topS 2)) (defBody (topS 2)) (defScope (topS 2)) .none kV dc pm an cd ct), sl⟩)
    (c : PySem.W.codeIn K cd "is_between" = true) (k : PySem.W.keepIn K (.ref a) = true) : ∃ a fd, DefAt K mg sg "is_between" f_is_between a fd := by
  refine ⟨a, PySem.W.fnOf "is_between" "is_between" (defArgs (topS 2)) (defBody (topS 2)) (defScope (topS 2)) .none kV dc pm an cd ct, PySem.W.mg_of KX G n, ⟨topS 2, "is_between", fun_mk l c k, scope_is_between, look_is_between⟩, fun s us hl => ?_, fun ks np perm hm => ?_⟩
  · match us, hl with
    | [_, _, _], _ => exact .of_eq rfl
  · have hm : (("is_between" : Str), ks, np, perm) ∈ [(("failing" : Str), (["other", "one", "table"] : List Str), (0 : Nat), ([2, 1, 0] : List Nat)), (("holds_in" : Str), (["other", "one", "table"] : List Str), (0 : Nat), ([2, 1, 0] : List Nat))] := hm
    simp only [List.mem_cons, List.not_mem_nil, or_false, Prod.mk.injEq] at hm
    rcases hm with h | h
    · exact absurd h.1 (by decide)
    · exact absurd h.1 (by decide)
theorem def_inner_of {K : PySem.W.Frag} {h : Heap} {mg : Str → Option Value} (KX : K.In h) (G : h.Ns mainGlobals mg) {a : Addr} {od an : Option Addr} {sl : Array (Option Value)} {oc kV dc pm cd ct : Value}
    (n : PySem.W.nsIn K mainGlobals "inner_of" = some (some (.ref a))) (l : K.lookup a = some ⟨oc, od, .func (PySem.W.fnOf "inner_of" "inner_of" (defArgs (topS 11)) (defBody (topS 11)) (defScope (topS 11)) .none kV dc pm an cd ct), sl⟩)
    (c : PySem.W.codeIn K cd "inner_of" = true) (k : PySem.W.keepIn K (.ref a) = true) : ∃ a fd, DefAt K mg sg "inner_of" f_inner_of a fd := by
  refine ⟨a, PySem.W.fnOf "inner_of" "inner_of" (defArgs (topS 11)) (defBody (topS 11)) (defScope (topS 11)) .none kV dc pm an cd ct, PySem.W.mg_of KX G n, ⟨topS 11, "inner_of", fun_mk l c k, scope_inner_of, look_inner_of⟩, fun s us hl => ?_, fun ks np perm hm => ?_⟩
  · match us, hl with
    | [_, _], _ => exact .of_eq rfl
  · have hm : (("inner_of" : Str), ks, np, perm) ∈ [(("failing" : Str), (["other", "one", "table"] : List Str), (0 : Nat), ([2, 1, 0] : List Nat)), (("holds_in" : Str), (["other", "one", "table"] : List Str), (0 : Nat), ([2, 1, 0] : List Nat))] := hm
    simp only [List.mem_cons, List.not_mem_nil, or_false, Prod.mk.injEq] at hm
    rcases hm with h | h
    · exact absurd h.1 (by decide)
    · exact absurd h.1 (by decide)
theorem def_is_term_of {K : PySem.W.Frag} {h : Heap} {mg : Str → Option Value} (KX : K.In h) (G : h.Ns mainGlobals mg) {a : Addr} {od an : Option Addr} {sl : Array (Option Value)} {oc kV dc pm cd ct : Value}
    (n : PySem.W.nsIn K mainGlobals "is_term_of" = some (some (.ref a))) (l : K.lookup a = some ⟨oc, od, .func (PySem.W.fnOf "is_term_of" "is_term_of" (defArgs (topS 12)) (defBody (topS 12)) (defScope (topS 12)) .none kV dc pm an cd ct), sl⟩)
    (c : PySem.W.codeIn K cd "is_term_of" = true) (k : PySem.W.keepIn K (.ref a) = true) : ∃ a fd, DefAt K mg sg "is_term_of" f_is_term_of a fd := by
  refine ⟨a, PySem.W.fnOf "is_term_of" "is_term_of" (defArgs (topS 12)) (defBody (topS 12)) (defScope (topS 12)) .none kV dc pm an cd ct, PySem.W.mg_of KX G n, ⟨topS 12, "is_term_of", fun_mk l c k, scope_is_term_of, look_is_term_of⟩, fun s us hl => ?_, fun ks np perm hm => ?_⟩
  · match us, hl with
    | [_, _], _ => exact .of_eq rfl
  · have hm : (("is_term_of" : Str), ks, np, perm) ∈ [(("failing" : Str), (["other", "one", "table"] : List Str), (0 : Nat), ([2, 1, 0] : List Nat)), (("holds_in" : Str), (["other", "one", "table"] : List Str), (0 : Nat), ([2, 1, 0] : List Nat))] := hm
    simp only [List.mem_cons, List.not_mem_nil, or_false, Prod.mk.injEq] at hm
    rcases hm with h | h
    · exact absurd h.1 (by decide)
    · exact absurd h.1 (by decide)
theorem def_check_term {K : PySem.W.Frag} {h : Heap} {mg : Str → Option Value} (KX : K.In h) (G : h.Ns mainGlobals mg) {a : Addr} {od an : Option Addr} {sl : Array (Option Value)} {oc kV dc pm cd ct : Value}
    (n : PySem.W.nsIn K mainGlobals "check_term" = some (some (.ref a))) (l : K.lookup a = some ⟨oc, od, .func (PySem.W.fnOf "check_term" "check_term" (defArgs (topS 13)) (defBody (topS 13)) (defScope (topS 13)) .none kV dc pm an cd ct), sl⟩)
    (c : PySem.W.codeIn K cd "check_term" = true) (k : PySem.W.keepIn K (.ref a) = true) : ∃ a fd, DefAt K mg sg "check_term" f_check_term a fd := by
  refine ⟨a, PySem.W.fnOf "check_term" "check_term" (defArgs (topS 13)) (defBody (topS 13)) (defScope (topS 13)) .none kV dc pm an cd ct, PySem.W.mg_of KX G n, ⟨topS 13, "check_term", fun_mk l c k, scope_check_term, look_check_term⟩, fun s us hl => ?_, fun ks np perm hm => ?_⟩
  · match us, hl with
    | [_, _], _ => exact .of_eq rfl
  · have hm : (("check_term" : Str), ks, np, perm) ∈ [(("failing" : Str), (["other", "one", "table"] : List Str), (0 : Nat), ([2, 1, 0] : List Nat)), (("holds_in" : Str), (["other", "one", "table"] : List Str), (0 : Nat), ([2, 1, 0] : List Nat))] := hm
    simp only [List.mem_cons, List.not_mem_nil, or_false, Prod.mk.injEq] at hm
    rcases hm with h | h
    · exact absurd h.1 (by decide)
    · exact absurd h.1 (by decide)
theorem def_parts_in {K : PySem.W.Frag} {h : Heap} {mg : Str → Option Value} (KX : K.In h) (G : h.Ns mainGlobals mg) {a : Addr} {od an : Option Addr} {sl : Array (Option Value)} {oc kV dc pm cd ct : Value}
    (n : PySem.W.nsIn K mainGlobals "parts_in" = some (some (.ref a))) (l : K.lookup a = some ⟨oc, od, .func (PySem.W.fnOf "parts_in" "parts_in" (defArgs (topS 14)) (defBody (topS 14)) (defScope (topS 14)) .none kV dc pm an cd ct), sl⟩)
    (c : PySem.W.codeIn K cd "parts_in" = true) (k : PySem.W.keepIn K (.ref a) = true) : ∃ a fd, DefAt K mg sg "parts_in" f_parts_in a fd := by
  refine ⟨a, PySem.W.fnOf "parts_in" "parts_in" (defArgs (topS 14)) (defBody (topS 14)) (defScope (topS 14)) .none kV dc pm an cd ct, PySem.W.mg_of KX G n, ⟨topS 14, "parts_in", fun_mk l c k, scope_parts_in, look_parts_in⟩, fun s us hl => ?_, fun ks np perm hm => ?_⟩
  · match us, hl with
    | [_], _ => exact .of_eq rfl
  · have hm : (("parts_in" : Str), ks, np, perm) ∈ [(("failing" : Str), (["other", "one", "table"] : List Str), (0 : Nat), ([2, 1, 0] : List Nat)), (("holds_in" : Str), (["other", "one", "table"] : List Str), (0 : Nat), ([2, 1, 0] : List Nat))] := hm
    simp only [List.mem_cons, List.not_mem_nil, or_false, Prod.mk.injEq] at hm
    rcases hm with h | h
    · exact absurd h.1 (by decide)
    · exact absurd h.1 (by decide)
theorem def_letters_in {K : PySem.W.Frag} {h : Heap} {mg : Str → Option Value} (KX : K.In h) (G : h.Ns mainGlobals mg) {a : Addr} {od an : Option Addr} {sl : Array (Option Value)} {oc kV dc pm cd ct : Value}
    (n : PySem.W.nsIn K mainGlobals "letters_in" = some (some (.ref a))) (l : K.lookup a = some ⟨oc, od, .func (PySem.W.fnOf "letters_in" "letters_in" (defArgs (topS 15)) (defBody (topS 15)) (defScope (topS 15)) .none kV dc pm an cd ct), sl⟩)
    (c : PySem.W.codeIn K cd "letters_in" = true) (k : PySem.W.keepIn K (.ref a) = true) : ∃ a fd, DefAt K mg sg "letters_in" f_letters_in a fd := by
  refine ⟨a, PySem.W.fnOf "letters_in" "letters_in" (defArgs (topS 15)) (defBody (topS 15)) (defScope (topS 15)) .none kV dc pm an cd ct, PySem.W.mg_of KX G n, ⟨topS 15, "letters_in", fun_mk l c k, scope_letters_in, look_letters_in⟩, fun s us hl => ?_, fun ks np perm hm => ?_⟩
  · match us, hl with
    | [_], _ => exact .of_eq rfl
  · have hm : (("letters_in" : Str), ks, np, perm) ∈ [(("failing" : Str), (["other", "one", "table"] : List Str), (0 : Nat), ([2, 1, 0] : List Nat)), (("holds_in" : Str), (["other", "one", "table"] : List Str), (0 : Nat), ([2, 1, 0] : List Nat))] := hm
    simp only [List.mem_cons, List.not_mem_nil, or_false, Prod.mk.injEq] at hm
    rcases hm with h | h
    · exact absurd h.1 (by decide)
    · exact absurd h.1 (by decide)
theorem def_are_values {K : PySem.W.Frag} {h : Heap} {mg : Str → Option Value} (KX : K.In h) (G : h.Ns mainGlobals mg) {a : Addr} {od an : Option Addr} {sl : Array (Option Value)} {oc kV dc pm cd ct : Value}
    (n : PySem.W.nsIn K mainGlobals "are_values" = some (some (.ref a))) (l : K.lookup a = some ⟨oc, od, .func (PySem.W.fnOf "are_values" "are_values" (defArgs (topS 18)) (defBody (topS 18)) (defScope (topS 18)) .none kV dc pm an cd ct), sl⟩)
    (c : PySem.W.codeIn K cd "are_values" = true) (k : PySem.W.keepIn K (.ref a) = true) : ∃ a fd, DefAt K mg sg "are_values" f_are_values a fd := by
  refine ⟨a, PySem.W.fnOf "are_values" "are_values" (defArgs (topS 18)) (defBody (topS 18)) (defScope (topS 18)) .none kV dc pm an cd ct, PySem.W.mg_of KX G n, ⟨topS 18, "are_values", fun_mk l c k, scope_are_values, look_are_values⟩, fun s us hl => ?_, fun ks np perm hm => ?_⟩
  · match us, hl with
    | [_, _, _], _ => exact .of_eq rfl
  · have hm : (("are_values" : Str), ks, np, perm) ∈ [(("failing" : Str), (["other", "one", "table"] : List Str), (0 : Nat), ([2, 1, 0] : List Nat)), (("holds_in" : Str), (["other", "one", "table"] : List Str), (0 : Nat), ([2, 1, 0] : List Nat))] := hm
    simp only [List.mem_cons, List.not_mem_nil, or_false, Prod.mk.injEq] at hm
    rcases hm with h | h
    · exact absurd h.1 (by decide)
    · exact absurd h.1 (by decide)
theorem def_is_table_form {K : PySem.W.Frag} {h : Heap} {mg : Str → Option Value} (KX : K.In h) (G : h.Ns mainGlobals mg) {a : Addr} {od an : Option Addr} {sl : Array (Option Value)} {oc kV dc pm cd ct : Value}
    (n : PySem.W.nsIn K mainGlobals "is_table_form" = some (some (.ref a))) (l : K.lookup a = some ⟨oc, od, .func (PySem.W.fnOf "is_table_form" "is_table_form" (defArgs (topS 19)) (defBody (topS 19)) (defScope (topS 19)) .none kV dc pm an cd ct), sl⟩)
    (c : PySem.W.codeIn K cd "is_table_form" = true) (k : PySem.W.keepIn K (.ref a) = true) : ∃ a fd, DefAt K mg sg "is_table_form" f_is_table_form a fd := by
  refine ⟨a, PySem.W.fnOf "is_table_form" "is_table_form" (defArgs (topS 19)) (defBody (topS 19)) (defScope (topS 19)) .none kV dc pm an cd ct, PySem.W.mg_of KX G n, ⟨topS 19, "is_table_form", fun_mk l c k, scope_is_table_form, look_is_table_form⟩, fun s us hl => ?_, fun ks np perm hm => ?_⟩
  · match us, hl with
    | [_], _ => exact .of_eq rfl
  · have hm : (("is_table_form" : Str), ks, np, perm) ∈ [(("failing" : Str), (["other", "one", "table"] : List Str), (0 : Nat), ([2, 1, 0] : List Nat)), (("holds_in" : Str), (["other", "one", "table"] : List Str), (0 : Nat), ([2, 1, 0] : List Nat))] := hm
    simp only [List.mem_cons, List.not_mem_nil, or_false, Prod.mk.injEq] at hm
    rcases hm with h | h
    · exact absurd h.1 (by decide)
    · exact absurd h.1 (by decide)
theorem def_unit_fault {K : PySem.W.Frag} {h : Heap} {mg : Str → Option Value} (KX : K.In h) (G : h.Ns mainGlobals mg) {a : Addr} {od an : Option Addr} {sl : Array (Option Value)} {oc kV dc pm cd ct : Value}
    (n : PySem.W.nsIn K mainGlobals "unit_fault" = some (some (.ref a))) (l : K.lookup a = some ⟨oc, od, .func (PySem.W.fnOf "unit_fault" "unit_fault" (defArgs (topS 20)) (defBody (topS 20)) (defScope (topS 20)) .none kV dc pm an cd ct), sl⟩)
    (c : PySem.W.codeIn K cd "unit_fault" = true) (k : PySem.W.keepIn K (.ref a) = true) : ∃ a fd, DefAt K mg sg "unit_fault" f_unit_fault a fd := by
  refine ⟨a, PySem.W.fnOf "unit_fault" "unit_fault" (defArgs (topS 20)) (defBody (topS 20)) (defScope (topS 20)) .none kV dc pm an cd ct, PySem.W.mg_of KX G n, ⟨topS 20, "unit_fault", fun_mk l c k, scope_unit_fault, look_unit_fault⟩, fun s us hl => ?_, fun ks np perm hm => ?_⟩
  · match us, hl with
    | [_], _ => exact .of_eq rfl
  · have hm : (("unit_fault" : Str), ks, np, perm) ∈ [(("failing" : Str), (["other", "one", "table"] : List Str), (0 : Nat), ([2, 1, 0] : List Nat)), (("holds_in" : Str), (["other", "one", "table"] : List Str), (0 : Nat), ([2, 1, 0] : List Nat))] := hm
    simp only [List.mem_cons, List.not_mem_nil, or_false, Prod.mk.injEq] at hm
    rcases hm with h | h
    · exact absurd h.1 (by decide)
    · exact absurd h.1 (by decide)
theorem def_triple_fault {K : PySem.W.Frag} {h : Heap} {mg : Str → Option Value} (KX : K.In h) (G : h.Ns mainGlobals mg) {a : Addr} {od an : Option Addr} {sl : Array (Option Value)} {oc kV dc pm cd ct : Value}
    (n : PySem.W.nsIn K mainGlobals "triple_fault" = some (some (.ref a))) (l : K.lookup a = some ⟨oc, od, .func (PySem.W.fnOf "triple_fault" "triple_fault" (defArgs (topS 21)) (defBody (topS 21)) (defScope (topS 21)) .none kV dc pm an cd ct), sl⟩)
    (c : PySem.W.codeIn K cd "triple_fault" = true) (k : PySem.W.keepIn K (.ref a) = true) : ∃ a fd, DefAt K mg sg "triple_fault" f_triple_fault a fd := by
  refine ⟨a, PySem.W.fnOf "triple_fault" "triple_fault" (defArgs (topS 21)) (defBody (topS 21)) (defScope (topS 21)) .none kV dc pm an cd ct, PySem.W.mg_of KX G n, ⟨topS 21, "triple_fault", fun_mk l c k, scope_triple_fault, look_triple_fault⟩, fun s us hl => ?_, fun ks np perm hm => ?_⟩
  · match us, hl with
    | [_], _ => exact .of_eq rfl
  · have hm : (("triple_fault" : Str), ks, np, perm) ∈ [(("failing" : Str), (["other", "one", "table"] : List Str), (0 : Nat), ([2, 1, 0] : List Nat)), (("holds_in" : Str), (["other", "one", "table"] : List Str), (0 : Nat), ([2, 1, 0] : List Nat))] := hm
    simp only [List.mem_cons, List.not_mem_nil, or_false, Prod.mk.injEq] at hm
    rcases hm with h | h
    · exact absurd h.1 (by decide)
    · exact absurd h.1 (by decide)
theorem def_moved_fault {K : PySem.W.Frag} {h : Heap} {mg : Str → Option Value} (KX : K.In h) (G : h.Ns mainGlobals mg) {a : Addr} {od an : Option Addr} {sl : Array (Option Value)} {oc kV dc pm cd ct : Value}
    (n : PySem.W.nsIn K mainGlobals "moved_fault" = some (some (.ref a))) (l : K.lookup a = some ⟨oc, od, .func (PySem.W.fnOf "moved_fault" "moved_fault" (defArgs (topS 22)) (defBody (topS 22)) (defScope (topS 22)) .none kV dc pm an cd ct), sl⟩)
    (c : PySem.W.codeIn K cd "moved_fault" = true) (k : PySem.W.keepIn K (.ref a) = true) : ∃ a fd, DefAt K mg sg "moved_fault" f_moved_fault a fd := by
  refine ⟨a, PySem.W.fnOf "moved_fault" "moved_fault" (defArgs (topS 22)) (defBody (topS 22)) (defScope (topS 22)) .none kV dc pm an cd ct, PySem.W.mg_of KX G n, ⟨topS 22, "moved_fault", fun_mk l c k, scope_moved_fault, look_moved_fault⟩, fun s us hl => ?_, fun ks np perm hm => ?_⟩
  · match us, hl with
    | [_, _], _ => exact .of_eq rfl
  · have hm : (("moved_fault" : Str), ks, np, perm) ∈ [(("failing" : Str), (["other", "one", "table"] : List Str), (0 : Nat), ([2, 1, 0] : List Nat)), (("holds_in" : Str), (["other", "one", "table"] : List Str), (0 : Nat), ([2, 1, 0] : List Nat))] := hm
    simp only [List.mem_cons, List.not_mem_nil, or_false, Prod.mk.injEq] at hm
    rcases hm with h | h
    · exact absurd h.1 (by decide)
    · exact absurd h.1 (by decide)
theorem def_again_fault {K : PySem.W.Frag} {h : Heap} {mg : Str → Option Value} (KX : K.In h) (G : h.Ns mainGlobals mg) {a : Addr} {od an : Option Addr} {sl : Array (Option Value)} {oc kV dc pm cd ct : Value}
    (n : PySem.W.nsIn K mainGlobals "again_fault" = some (some (.ref a))) (l : K.lookup a = some ⟨oc, od, .func (PySem.W.fnOf "again_fault" "again_fault" (defArgs (topS 23)) (defBody (topS 23)) (defScope (topS 23)) .none kV dc pm an cd ct), sl⟩)
    (c : PySem.W.codeIn K cd "again_fault" = true) (k : PySem.W.keepIn K (.ref a) = true) : ∃ a fd, DefAt K mg sg "again_fault" f_again_fault a fd := by
  refine ⟨a, PySem.W.fnOf "again_fault" "again_fault" (defArgs (topS 23)) (defBody (topS 23)) (defScope (topS 23)) .none kV dc pm an cd ct, PySem.W.mg_of KX G n, ⟨topS 23, "again_fault", fun_mk l c k, scope_again_fault, look_again_fault⟩, fun s us hl => ?_, fun ks np perm hm => ?_⟩
  · match us, hl with
    | [_, _], _ => exact .of_eq rfl
  · have hm : (("again_fault" : Str), ks, np, perm) ∈ [(("failing" : Str), (["other", "one", "table"] : List Str), (0 : Nat), ([2, 1, 0] : List Nat)), (("holds_in" : Str), (["other", "one", "table"] : List Str), (0 : Nat), ([2, 1, 0] : List Nat))] := hm
    simp only [List.mem_cons, List.not_mem_nil, or_false, Prod.mk.injEq] at hm
    rcases hm with h | h
    · exact absurd h.1 (by decide)
    · exact absurd h.1 (by decide)
theorem def_turned_fault {K : PySem.W.Frag} {h : Heap} {mg : Str → Option Value} (KX : K.In h) (G : h.Ns mainGlobals mg) {a : Addr} {od an : Option Addr} {sl : Array (Option Value)} {oc kV dc pm cd ct : Value}
    (n : PySem.W.nsIn K mainGlobals "turned_fault" = some (some (.ref a))) (l : K.lookup a = some ⟨oc, od, .func (PySem.W.fnOf "turned_fault" "turned_fault" (defArgs (topS 24)) (defBody (topS 24)) (defScope (topS 24)) .none kV dc pm an cd ct), sl⟩)
    (c : PySem.W.codeIn K cd "turned_fault" = true) (k : PySem.W.keepIn K (.ref a) = true) : ∃ a fd, DefAt K mg sg "turned_fault" f_turned_fault a fd := by
  refine ⟨a, PySem.W.fnOf "turned_fault" "turned_fault" (defArgs (topS 24)) (defBody (topS 24)) (defScope (topS 24)) .none kV dc pm an cd ct, PySem.W.mg_of KX G n, ⟨topS 24, "turned_fault", fun_mk l c k, scope_turned_fault, look_turned_fault⟩, fun s us hl => ?_, fun ks np perm hm => ?_⟩
  · match us, hl with
    | [_, _], _ => exact .of_eq rfl
  · have hm : (("turned_fault" : Str), ks, np, perm) ∈ [(("failing" : Str), (["other", "one", "table"] : List Str), (0 : Nat), ([2, 1, 0] : List Nat)), (("holds_in" : Str), (["other", "one", "table"] : List Str), (0 : Nat), ([2, 1, 0] : List Nat))] := hm
    simp only [List.mem_cons, List.not_mem_nil, or_false, Prod.mk.injEq] at hm
    rcases hm with h | h
    · exact absurd h.1 (by decide)
    · exact absurd h.1 (by decide)
theorem def_law_fault {K : PySem.W.Frag} {h : Heap} {mg : Str → Option Value} (KX : K.In h) (G : h.Ns mainGlobals mg) {a : Addr} {od an : Option Addr} {sl : Array (Option Value)} {oc kV dc pm cd ct : Value}
    (n : PySem.W.nsIn K mainGlobals "law_fault" = some (some (.ref a))) (l : K.lookup a = some ⟨oc, od, .func (PySem.W.fnOf "law_fault" "law_fault" (defArgs (topS 25)) (defBody (topS 25)) (defScope (topS 25)) .none kV dc pm an cd ct), sl⟩)
    (c : PySem.W.codeIn K cd "law_fault" = true) (k : PySem.W.keepIn K (.ref a) = true) : ∃ a fd, DefAt K mg sg "law_fault" f_law_fault a fd := by
  refine ⟨a, PySem.W.fnOf "law_fault" "law_fault" (defArgs (topS 25)) (defBody (topS 25)) (defScope (topS 25)) .none kV dc pm an cd ct, PySem.W.mg_of KX G n, ⟨topS 25, "law_fault", fun_mk l c k, scope_law_fault, look_law_fault⟩, fun s us hl => ?_, fun ks np perm hm => ?_⟩
  · match us, hl with
    | [_], _ => exact .of_eq rfl
  · have hm : (("law_fault" : Str), ks, np, perm) ∈ [(("failing" : Str), (["other", "one", "table"] : List Str), (0 : Nat), ([2, 1, 0] : List Nat)), (("holds_in" : Str), (["other", "one", "table"] : List Str), (0 : Nat), ([2, 1, 0] : List Nat))] := hm
    simp only [List.mem_cons, List.not_mem_nil, or_false, Prod.mk.injEq] at hm
    rcases hm with h | h
    · exact absurd h.1 (by decide)
    · exact absurd h.1 (by decide)
theorem def_is_table_in {K : PySem.W.Frag} {h : Heap} {mg : Str → Option Value} (KX : K.In h) (G : h.Ns mainGlobals mg) {a : Addr} {od an : Option Addr} {sl : Array (Option Value)} {oc kV dc pm cd ct : Value}
    (n : PySem.W.nsIn K mainGlobals "is_table_in" = some (some (.ref a))) (l : K.lookup a = some ⟨oc, od, .func (PySem.W.fnOf "is_table_in" "is_table_in" (defArgs (topS 26)) (defBody (topS 26)) (defScope (topS 26)) .none kV dc pm an cd ct), sl⟩)
    (c : PySem.W.codeIn K cd "is_table_in" = true) (k : PySem.W.keepIn K (.ref a) = true) : ∃ a fd, DefAt K mg sg "is_table_in" f_is_table_in a fd := by
  refine ⟨a, PySem.W.fnOf "is_table_in" "is_table_in" (defArgs (topS 26)) (defBody (topS 26)) (defScope (topS 26)) .none kV dc pm an cd ct, PySem.W.mg_of KX G n, ⟨topS 26, "is_table_in", fun_mk l c k, scope_is_table_in, look_is_table_in⟩, fun s us hl => ?_, fun ks np perm hm => ?_⟩
  · match us, hl with
    | [_], _ => exact .of_eq rfl
  · have hm : (("is_table_in" : Str), ks, np, perm) ∈ [(("failing" : Str), (["other", "one", "table"] : List Str), (0 : Nat), ([2, 1, 0] : List Nat)), (("holds_in" : Str), (["other", "one", "table"] : List Str), (0 : Nat), ([2, 1, 0] : List Nat))] := hm
    simp only [List.mem_cons, List.not_mem_nil, or_false, Prod.mk.injEq] at hm
    rcases hm with h | h
    · exact absurd h.1 (by decide)
    · exact absurd h.1 (by decide)
theorem def_check_table {K : PySem.W.Frag} {h : Heap} {mg : Str → Option Value} (KX : K.In h) (G : h.Ns mainGlobals mg) {a : Addr} {od an : Option Addr} {sl : Array (Option Value)} {oc kV dc pm cd ct : Value}
    (n : PySem.W.nsIn K mainGlobals "check_table" = some (some (.ref a))) (l : K.lookup a = some ⟨oc, od, .func (PySem.W.fnOf "check_table" "check_table" (defArgs (topS 27)) (defBody (topS 27)) (defScope (topS 27)) .none kV dc pm an cd ct), sl⟩)
    (c : PySem.W.codeIn K cd "check_table" = true) (k : PySem.W.keepIn K (.ref a) = true) : ∃ a fd, DefAt K mg sg "check_table" f_check_table a fd := by
  refine ⟨a, PySem.W.fnOf "check_table" "check_table" (defArgs (topS 27)) (defBody (topS 27)) (defScope (topS 27)) .none kV dc pm an cd ct, PySem.W.mg_of KX G n, ⟨topS 27, "check_table", fun_mk l c k, scope_check_table, look_check_table⟩, fun s us hl => ?_, fun ks np perm hm => ?_⟩
  · match us, hl with
    | [_], _ => exact .of_eq rfl
  · have hm : (("check_table" : Str), ks, np, perm) ∈ [(("failing" : Str), (["other", "one", "table"] : List Str), (0 : Nat), ([2, 1, 0] : List Nat)), (("holds_in" : Str), (["other", "one", "table"] : List Str), (0 : Nat), ([2, 1, 0] : List Nat))] := hm
    simp only [List.mem_cons, List.not_mem_nil, or_false, Prod.mk.injEq] at hm
    rcases hm with h | h
    · exact absurd h.1 (by decide)
    · exact absurd h.1 (by decide)
theorem def_value_in {K : PySem.W.Frag} {h : Heap} {mg : Str → Option Value} (KX : K.In h) (G : h.Ns mainGlobals mg) {a : Addr} {od an : Option Addr} {sl : Array (Option Value)} {oc kV dc pm cd ct : Value}
    (n : PySem.W.nsIn K mainGlobals "value_in" = some (some (.ref a))) (l : K.lookup a = some ⟨oc, od, .func (PySem.W.fnOf "value_in" "value_in" (defArgs (topS 28)) (defBody (topS 28)) (defScope (topS 28)) .none kV dc pm an cd ct), sl⟩)
    (c : PySem.W.codeIn K cd "value_in" = true) (k : PySem.W.keepIn K (.ref a) = true) : ∃ a fd, DefAt K mg sg "value_in" f_value_in a fd := by
  refine ⟨a, PySem.W.fnOf "value_in" "value_in" (defArgs (topS 28)) (defBody (topS 28)) (defScope (topS 28)) .none kV dc pm an cd ct, PySem.W.mg_of KX G n, ⟨topS 28, "value_in", fun_mk l c k, scope_value_in, look_value_in⟩, fun s us hl => ?_, fun ks np perm hm => ?_⟩
  · match us, hl with
    | [_, _], _ => exact .of_eq rfl
  · have hm : (("value_in" : Str), ks, np, perm) ∈ [(("failing" : Str), (["other", "one", "table"] : List Str), (0 : Nat), ([2, 1, 0] : List Nat)), (("holds_in" : Str), (["other", "one", "table"] : List Str), (0 : Nat), ([2, 1, 0] : List Nat))] := hm
    simp only [List.mem_cons, List.not_mem_nil, or_false, Prod.mk.injEq] at hm
    rcases hm with h | h
    · exact absurd h.1 (by decide)
    · exact absurd h.1 (by decide)
theorem def_choices {K : PySem.W.Frag} {h : Heap} {mg : Str → Option Value} (KX : K.In h) (G : h.Ns mainGlobals mg) {a : Addr} {od an : Option Addr} {sl : Array (Option Value)} {oc kV dc pm cd ct : Value}
    (n : PySem.W.nsIn K mainGlobals "choices" = some (some (.ref a))) (l : K.lookup a = some ⟨oc, od, .func (PySem.W.fnOf "choices" "choices" (defArgs (topS 30)) (defBody (topS 30)) (defScope (topS 30)) .none kV dc pm an cd ct), sl⟩)
    (c : PySem.W.codeIn K cd "choices" = true) (k : PySem.W.keepIn K (.ref a) = true) : ∃ a fd, DefAt K mg sg "choices" f_choices a fd := by
  refine ⟨a, PySem.W.fnOf "choices" "choices" (defArgs (topS 30)) (defBody (topS 30)) (defScope (topS 30)) .none kV dc pm an cd ct, PySem.W.mg_of KX G n, ⟨topS 30, "choices", fun_mk l c k, scope_choices, look_choices⟩, fun s us hl => ?_, fun ks np perm hm => ?_⟩
  · match us, hl with
    | [_, _], _ => exact .of_eq rfl
  · have hm : (("choices" : Str), ks, np, perm) ∈ [(("failing" : Str), (["other", "one", "table"] : List Str), (0 : Nat), ([2, 1, 0] : List Nat)), (("holds_in" : Str), (["other", "one", "table"] : List Str), (0 : Nat), ([2, 1, 0] : List Nat))] := hm
    simp only [List.mem_cons, List.not_mem_nil, or_false, Prod.mk.injEq] at hm
    rcases hm with h | h
    · exact absurd h.1 (by decide)
    · exact absurd h.1 (by decide)
theorem def_failing_in {K : PySem.W.Frag} {h : Heap} {mg : Str → Option Value} (KX : K.In h) (G : h.Ns mainGlobals mg) {a : Addr} {od an : Option Addr} {sl : Array (Option Value)} {oc kV dc pm cd ct : Value}
    (n : PySem.W.nsIn K mainGlobals "failing_in" = some (some (.ref a))) (l : K.lookup a = some ⟨oc, od, .func (PySem.W.fnOf "failing_in" "failing_in" (defArgs (topS 31)) (defBody (topS 31)) (defScope (topS 31)) .none kV dc pm an cd ct), sl⟩)
    (c : PySem.W.codeIn K cd "failing_in" = true) (k : PySem.W.keepIn K (.ref a) = true) : ∃ a fd, DefAt K mg sg "failing_in" f_failing_in a fd := by
  refine ⟨a, PySem.W.fnOf "failing_in" "failing_in" (defArgs (topS 31)) (defBody (topS 31)) (defScope (topS 31)) .none kV dc pm an cd ct, PySem.W.mg_of KX G n, ⟨topS 31, "failing_in", fun_mk l c k, scope_failing_in, look_failing_in⟩, fun s us hl => ?_, fun ks np perm hm => ?_⟩
  · match us, hl with
    | [_, _, _], _ => exact .of_eq rfl
  · have hm : (("failing_in" : Str), ks, np, perm) ∈ [(("failing" : Str), (["other", "one", "table"] : List Str), (0 : Nat), ([2, 1, 0] : List Nat)), (("holds_in" : Str), (["other", "one", "table"] : List Str), (0 : Nat), ([2, 1, 0] : List Nat))] := hm
    simp only [List.mem_cons, List.not_mem_nil, or_false, Prod.mk.injEq] at hm
    rcases hm with h | h
    · exact absurd h.1 (by decide)
    · exact absurd h.1 (by decide)
theorem def_check_identity {K : PySem.W.Frag} {h : Heap} {mg : Str → Option Value} (KX : K.In h) (G : h.Ns mainGlobals mg) {a : Addr} {od an : Option Addr} {sl : Array (Option Value)} {oc kV dc pm cd ct : Value}
    (n : PySem.W.nsIn K mainGlobals "check_identity" = some (some (.ref a))) (l : K.lookup a = some ⟨oc, od, .func (PySem.W.fnOf "check_identity" "check_identity" (defArgs (topS 32)) (defBody (topS 32)) (defScope (topS 32)) .none kV dc pm an cd ct), sl⟩)
    (c : PySem.W.codeIn K cd "check_identity" = true) (k : PySem.W.keepIn K (.ref a) = true) : ∃ a fd, DefAt K mg sg "check_identity" f_check_identity a fd := by
  refine ⟨a, PySem.W.fnOf "check_identity" "check_identity" (defArgs (topS 32)) (defBody (topS 32)) (defScope (topS 32)) .none kV dc pm an cd ct, PySem.W.mg_of KX G n, ⟨topS 32, "check_identity", fun_mk l c k, scope_check_identity, look_check_identity⟩, fun s us hl => ?_, fun ks np perm hm => ?_⟩
  · match us, hl with
    | [_, _, _], _ => exact .of_eq rfl
  · have hm : (("check_identity" : Str), ks, np, perm) ∈ [(("failing" : Str), (["other", "one", "table"] : List Str), (0 : Nat), ([2, 1, 0] : List Nat)), (("holds_in" : Str), (["other", "one", "table"] : List Str), (0 : Nat), ([2, 1, 0] : List Nat))] := hm
    simp only [List.mem_cons, List.not_mem_nil, or_false, Prod.mk.injEq] at hm
    rcases hm with h | h
    · exact absurd h.1 (by decide)
    · exact absurd h.1 (by decide)
theorem def_holds_in {K : PySem.W.Frag} {h : Heap} {mg : Str → Option Value} (KX : K.In h) (G : h.Ns mainGlobals mg) {a : Addr} {od an : Option Addr} {sl : Array (Option Value)} {oc kV dc pm cd ct : Value}
    (n : PySem.W.nsIn K mainGlobals "holds_in" = some (some (.ref a))) (l : K.lookup a = some ⟨oc, od, .func (PySem.W.fnOf "holds_in" "holds_in" (defArgs (topS 33)) (defBody (topS 33)) (defScope (topS 33)) .none kV dc pm an cd ct), sl⟩)
    (c : PySem.W.codeIn K cd "holds_in" = true) (k : PySem.W.keepIn K (.ref a) = true) : ∃ a fd, DefAt K mg sg "holds_in" f_holds_in a fd := by
  refine ⟨a, PySem.W.fnOf "holds_in" "holds_in" (defArgs (topS 33)) (defBody (topS 33)) (defScope (topS 33)) .none kV dc pm an cd ct, PySem.W.mg_of KX G n, ⟨topS 33, "holds_in", fun_mk l c k, scope_holds_in, look_holds_in⟩, fun s us hl => ?_, fun ks np perm hm => ?_⟩
  · match us, hl with
    | [_, _, _], _ => exact .of_eq rfl
  · have hm : (("holds_in" : Str), ks, np, perm) ∈ [(("failing" : Str), (["other", "one", "table"] : List Str), (0 : Nat), ([2, 1, 0] : List Nat)), (("holds_in" : Str), (["other", "one", "table"] : List Str), (0 : Nat), ([2, 1, 0] : List Nat))] := hm
    simp only [List.mem_cons, List.not_mem_nil, or_false, Prod.mk.injEq] at hm
    rcases hm with h | h
    · exact absurd h.1 (by decide)
    · obtain ⟨_, rfl, rfl, rfl⟩ := h
      intro s us ws h1 h2
      match us, h1, ws, h2 with
      | [], _, [_, _, _], _ => exact .of_eq rfl
theorem def_failing {K : PySem.W.Frag} {h : Heap} {mg : Str → Option Value} (KX : K.In h) (G : h.Ns mainGlobals mg) {a : Addr} {od an : Option Addr} {sl : Array (Option Value)} {oc kV dc pm cd ct : Value}
    (n : PySem.W.nsIn K mainGlobals "failing" = some (some (.ref a))) (l : K.lookup a = some ⟨oc, od, .func (PySem.W.fnOf "failing" "failing" (defArgs (topS 34)) (defBody (topS 34)) (defScope (topS 34)) .none kV dc pm an cd ct), sl⟩)
    (c : PySem.W.codeIn K cd "failing" = true) (k : PySem.W.keepIn K (.ref a) = true) : ∃ a fd, DefAt K mg sg "failing" f_failing a fd := by
  refine ⟨a, PySem.W.fnOf "failing" "failing" (defArgs (topS 34)) (defBody (topS 34)) (defScope (topS 34)) .none kV dc pm an cd ct, PySem.W.mg_of KX G n, ⟨topS 34, "failing", fun_mk l c k, scope_failing, look_failing⟩, fun s us hl => ?_, fun ks np perm hm => ?_⟩
  · match us, hl with
    | [_, _, _], _ => exact .of_eq rfl
  · have hm : (("failing" : Str), ks, np, perm) ∈ [(("failing" : Str), (["other", "one", "table"] : List Str), (0 : Nat), ([2, 1, 0] : List Nat)), (("holds_in" : Str), (["other", "one", "table"] : List Str), (0 : Nat), ([2, 1, 0] : List Nat))] := hm
    simp only [List.mem_cons, List.not_mem_nil, or_false, Prod.mk.injEq] at hm
    rcases hm with h | h
    · obtain ⟨_, rfl, rfl, rfl⟩ := h
      intro s us ws h1 h2
      match us, h1, ws, h2 with
      | [], _, [_, _, _], _ => exact .of_eq rfl
    · exact absurd h.1 (by decide)
theorem def__law_mixed {K : PySem.W.Frag} {h : Heap} {mg : Str → Option Value} (KX : K.In h) (G : h.Ns mainGlobals mg) {a : Addr} {od an : Option Addr} {sl : Array (Option Value)} {oc kV dc pm cd ct : Value}
    (n : PySem.W.nsIn K mainGlobals "_law_mixed" = some (some (.ref a))) (l : K.lookup a = some ⟨oc, od, .func (PySem.W.fnOf "_law_mixed" "_law_mixed" (defArgs (topS 36)) (defBody (topS 36)) (defScope (topS 36)) .none kV dc pm an cd ct), sl⟩)
    (c : PySem.W.codeIn K cd "_law_mixed" = true) (k : PySem.W.keepIn K (.ref a) = true) : ∃ a fd, DefAt K mg sg "_law_mixed" f__law_mixed a fd := by
  refine ⟨a, PySem.W.fnOf "_law_mixed" "_law_mixed" (defArgs (topS 36)) (defBody (topS 36)) (defScope (topS 36)) .none kV dc pm an cd ct, PySem.W.mg_of KX G n, ⟨topS 36, "_law_mixed", fun_mk l c k, scope__law_mixed, look__law_mixed⟩, fun s us hl => ?_, fun ks np perm hm => ?_⟩
  · match us, hl with
    | [_, _], _ => exact .of_eq rfl
  · have hm : (("_law_mixed" : Str), ks, np, perm) ∈ [(("failing" : Str), (["other", "one", "table"] : List Str), (0 : Nat), ([2, 1, 0] : List Nat)), (("holds_in" : Str), (["other", "one", "table"] : List Str), (0 : Nat), ([2, 1, 0] : List Nat))] := hm
    simp only [List.mem_cons, List.not_mem_nil, or_false, Prod.mk.injEq] at hm
    rcases hm with h | h
    · exact absurd h.1 (by decide)
    · exact absurd h.1 (by decide)
theorem def__law_source {K : PySem.W.Frag} {h : Heap} {mg : Str → Option Value} (KX : K.In h) (G : h.Ns mainGlobals mg) {a : Addr} {od an : Option Addr} {sl : Array (Option Value)} {oc kV dc pm cd ct : Value}
    (n : PySem.W.nsIn K mainGlobals "_law_source" = some (some (.ref a))) (l : K.lookup a = some ⟨oc, od, .func (PySem.W.fnOf "_law_source" "_law_source" (defArgs (topS 37)) (defBody (topS 37)) (defScope (topS 37)) .none kV dc pm an cd ct), sl⟩)
    (c : PySem.W.codeIn K cd "_law_source" = true) (k : PySem.W.keepIn K (.ref a) = true) : ∃ a fd, DefAt K mg sg "_law_source" f__law_source a fd := by
  refine ⟨a, PySem.W.fnOf "_law_source" "_law_source" (defArgs (topS 37)) (defBody (topS 37)) (defScope (topS 37)) .none kV dc pm an cd ct, PySem.W.mg_of KX G n, ⟨topS 37, "_law_source", fun_mk l c k, scope__law_source, look__law_source⟩, fun s us hl => ?_, fun ks np perm hm => ?_⟩
  · match us, hl with
    | [_], _ => exact .of_eq rfl
  · have hm : (("_law_source" : Str), ks, np, perm) ∈ [(("failing" : Str), (["other", "one", "table"] : List Str), (0 : Nat), ([2, 1, 0] : List Nat)), (("holds_in" : Str), (["other", "one", "table"] : List Str), (0 : Nat), ([2, 1, 0] : List Nat))] := hm
    simp only [List.mem_cons, List.not_mem_nil, or_false, Prod.mk.injEq] at hm
    rcases hm with h | h
    · exact absurd h.1 (by decide)
    · exact absurd h.1 (by decide)
theorem def__law_draw {K : PySem.W.Frag} {h : Heap} {mg : Str → Option Value} (KX : K.In h) (G : h.Ns mainGlobals mg) {a : Addr} {od an : Option Addr} {sl : Array (Option Value)} {oc kV dc pm cd ct : Value}
    (n : PySem.W.nsIn K mainGlobals "_law_draw" = some (some (.ref a))) (l : K.lookup a = some ⟨oc, od, .func (PySem.W.fnOf "_law_draw" "_law_draw" (defArgs (topS 38)) (defBody (topS 38)) (defScope (topS 38)) .none kV dc pm an cd ct), sl⟩)
    (c : PySem.W.codeIn K cd "_law_draw" = true) (k : PySem.W.keepIn K (.ref a) = true) : ∃ a fd, DefAt K mg sg "_law_draw" f__law_draw a fd := by
  refine ⟨a, PySem.W.fnOf "_law_draw" "_law_draw" (defArgs (topS 38)) (defBody (topS 38)) (defScope (topS 38)) .none kV dc pm an cd ct, PySem.W.mg_of KX G n, ⟨topS 38, "_law_draw", fun_mk l c k, scope__law_draw, look__law_draw⟩, fun s us hl => ?_, fun ks np perm hm => ?_⟩
  · match us, hl with
    | [_, _], _ => exact .of_eq rfl
  · have hm : (("_law_draw" : Str), ks, np, perm) ∈ [(("failing" : Str), (["other", "one", "table"] : List Str), (0 : Nat), ([2, 1, 0] : List Nat)), (("holds_in" : Str), (["other", "one", "table"] : List Str), (0 : Nat), ([2, 1, 0] : List Nat))] := hm
    simp only [List.mem_cons, List.not_mem_nil, or_false, Prod.mk.injEq] at hm
    rcases hm with h | h
    · exact absurd h.1 (by decide)
    · exact absurd h.1 (by decide)
theorem def__law_term {K : PySem.W.Frag} {h : Heap} {mg : Str → Option Value} (KX : K.In h) (G : h.Ns mainGlobals mg) {a : Addr} {od an : Option Addr} {sl : Array (Option Value)} {oc kV dc pm cd ct : Value}
    (n : PySem.W.nsIn K mainGlobals "_law_term" = some (some (.ref a))) (l : K.lookup a = some ⟨oc, od, .func (PySem.W.fnOf "_law_term" "_law_term" (defArgs (topS 39)) (defBody (topS 39)) (defScope (topS 39)) .none kV dc pm an cd ct), sl⟩)
    (c : PySem.W.codeIn K cd "_law_term" = true) (k : PySem.W.keepIn K (.ref a) = true) : ∃ a fd, DefAt K mg sg "_law_term" f__law_term a fd := by
  refine ⟨a, PySem.W.fnOf "_law_term" "_law_term" (defArgs (topS 39)) (defBody (topS 39)) (defScope (topS 39)) .none kV dc pm an cd ct, PySem.W.mg_of KX G n, ⟨topS 39, "_law_term", fun_mk l c k, scope__law_term, look__law_term⟩, fun s us hl => ?_, fun ks np perm hm => ?_⟩
  · match us, hl with
    | [_, _, _, _], _ => exact .of_eq rfl
  · have hm : (("_law_term" : Str), ks, np, perm) ∈ [(("failing" : Str), (["other", "one", "table"] : List Str), (0 : Nat), ([2, 1, 0] : List Nat)), (("holds_in" : Str), (["other", "one", "table"] : List Str), (0 : Nat), ([2, 1, 0] : List Nat))] := hm
    simp only [List.mem_cons, List.not_mem_nil, or_false, Prod.mk.injEq] at hm
    rcases hm with h | h
    · exact absurd h.1 (by decide)
    · exact absurd h.1 (by decide)
theorem def__law_same_row {K : PySem.W.Frag} {h : Heap} {mg : Str → Option Value} (KX : K.In h) (G : h.Ns mainGlobals mg) {a : Addr} {od an : Option Addr} {sl : Array (Option Value)} {oc kV dc pm cd ct : Value}
    (n : PySem.W.nsIn K mainGlobals "_law_same_row" = some (some (.ref a))) (l : K.lookup a = some ⟨oc, od, .func (PySem.W.fnOf "_law_same_row" "_law_same_row" (defArgs (topS 40)) (defBody (topS 40)) (defScope (topS 40)) .none kV dc pm an cd ct), sl⟩)
    (c : PySem.W.codeIn K cd "_law_same_row" = true) (k : PySem.W.keepIn K (.ref a) = true) : ∃ a fd, DefAt K mg sg "_law_same_row" f__law_same_row a fd := by
  refine ⟨a, PySem.W.fnOf "_law_same_row" "_law_same_row" (defArgs (topS 40)) (defBody (topS 40)) (defScope (topS 40)) .none kV dc pm an cd ct, PySem.W.mg_of KX G n, ⟨topS 40, "_law_same_row", fun_mk l c k, scope__law_same_row, look__law_same_row⟩, fun s us hl => ?_, fun ks np perm hm => ?_⟩
  · match us, hl with
    | [_, _], _ => exact .of_eq rfl
  · have hm : (("_law_same_row" : Str), ks, np, perm) ∈ [(("failing" : Str), (["other", "one", "table"] : List Str), (0 : Nat), ([2, 1, 0] : List Nat)), (("holds_in" : Str), (["other", "one", "table"] : List Str), (0 : Nat), ([2, 1, 0] : List Nat))] := hm
    simp only [List.mem_cons, List.not_mem_nil, or_false, Prod.mk.injEq] at hm
    rcases hm with h | h
    · exact absurd h.1 (by decide)
    · exact absurd h.1 (by decide)
theorem def__law_table {K : PySem.W.Frag} {h : Heap} {mg : Str → Option Value} (KX : K.In h) (G : h.Ns mainGlobals mg) {a : Addr} {od an : Option Addr} {sl : Array (Option Value)} {oc kV dc pm cd ct : Value}
    (n : PySem.W.nsIn K mainGlobals "_law_table" = some (some (.ref a))) (l : K.lookup a = some ⟨oc, od, .func (PySem.W.fnOf "_law_table" "_law_table" (defArgs (topS 41)) (defBody (topS 41)) (defScope (topS 41)) .none kV dc pm an cd ct), sl⟩)
    (c : PySem.W.codeIn K cd "_law_table" = true) (k : PySem.W.keepIn K (.ref a) = true) : ∃ a fd, DefAt K mg sg "_law_table" f__law_table a fd := by
  refine ⟨a, PySem.W.fnOf "_law_table" "_law_table" (defArgs (topS 41)) (defBody (topS 41)) (defScope (topS 41)) .none kV dc pm an cd ct, PySem.W.mg_of KX G n, ⟨topS 41, "_law_table", fun_mk l c k, scope__law_table, look__law_table⟩, fun s us hl => ?_, fun ks np perm hm => ?_⟩
  · match us, hl with
    | [_, _], _ => exact .of_eq rfl
  · have hm : (("_law_table" : Str), ks, np, perm) ∈ [(("failing" : Str), (["other", "one", "table"] : List Str), (0 : Nat), ([2, 1, 0] : List Nat)), (("holds_in" : Str), (["other", "one", "table"] : List Str), (0 : Nat), ([2, 1, 0] : List Nat))] := hm
    simp only [List.mem_cons, List.not_mem_nil, or_false, Prod.mk.injEq] at hm
    rcases hm with h | h
    · exact absurd h.1 (by decide)
    · exact absurd h.1 (by decide)
theorem def__law_round {K : PySem.W.Frag} {h : Heap} {mg : Str → Option Value} (KX : K.In h) (G : h.Ns mainGlobals mg) {a : Addr} {od an : Option Addr} {sl : Array (Option Value)} {oc kV dc pm cd ct : Value}
    (n : PySem.W.nsIn K mainGlobals "_law_round" = some (some (.ref a))) (l : K.lookup a = some ⟨oc, od, .func (PySem.W.fnOf "_law_round" "_law_round" (defArgs (topS 42)) (defBody (topS 42)) (defScope (topS 42)) .none kV dc pm an cd ct), sl⟩)
    (c : PySem.W.codeIn K cd "_law_round" = true) (k : PySem.W.keepIn K (.ref a) = true) : ∃ a fd, DefAt K mg sg "_law_round" f__law_round a fd := by
  refine ⟨a, PySem.W.fnOf "_law_round" "_law_round" (defArgs (topS 42)) (defBody (topS 42)) (defScope (topS 42)) .none kV dc pm an cd ct, PySem.W.mg_of KX G n, ⟨topS 42, "_law_round", fun_mk l c k, scope__law_round, look__law_round⟩, fun s us hl => ?_, fun ks np perm hm => ?_⟩
  · match us, hl with
    | [_, _, _], _ => exact .of_eq rfl
  · have hm : (("_law_round" : Str), ks, np, perm) ∈ [(("failing" : Str), (["other", "one", "table"] : List Str), (0 : Nat), ([2, 1, 0] : List Nat)), (("holds_in" : Str), (["other", "one", "table"] : List Str), (0 : Nat), ([2, 1, 0] : List Nat))] := hm
    simp only [List.mem_cons, List.not_mem_nil, or_false, Prod.mk.injEq] at hm
    rcases hm with h | h
    · exact absurd h.1 (by decide)
    · exact absurd h.1 (by decide)
theorem def__law_value {K : PySem.W.Frag} {h : Heap} {mg : Str → Option Value} (KX : K.In h) (G : h.Ns mainGlobals mg) {a : Addr} {od an : Option Addr} {sl : Array (Option Value)} {oc kV dc pm cd ct : Value}
    (n : PySem.W.nsIn K mainGlobals "_law_value" = some (some (.ref a))) (l : K.lookup a = some ⟨oc, od, .func (PySem.W.fnOf "_law_value" "_law_value" (defArgs (topS 43)) (defBody (topS 43)) (defScope (topS 43)) .none kV dc pm an cd ct), sl⟩)
    (c : PySem.W.codeIn K cd "_law_value" = true) (k : PySem.W.keepIn K (.ref a) = true) : ∃ a fd, DefAt K mg sg "_law_value" f__law_value a fd := by
  refine ⟨a, PySem.W.fnOf "_law_value" "_law_value" (defArgs (topS 43)) (defBody (topS 43)) (defScope (topS 43)) .none kV dc pm an cd ct, PySem.W.mg_of KX G n, ⟨topS 43, "_law_value", fun_mk l c k, scope__law_value, look__law_value⟩, fun s us hl => ?_, fun ks np perm hm => ?_⟩
  · match us, hl with
    | [_, _, _], _ => exact .of_eq rfl
  · have hm : (("_law_value" : Str), ks, np, perm) ∈ [(("failing" : Str), (["other", "one", "table"] : List Str), (0 : Nat), ([2, 1, 0] : List Nat)), (("holds_in" : Str), (["other", "one", "table"] : List Str), (0 : Nat), ([2, 1, 0] : List Nat))] := hm
    simp only [List.mem_cons, List.not_mem_nil, or_false, Prod.mk.injEq] at hm
    rcases hm with h | h
    · exact absurd h.1 (by decide)
    · exact absurd h.1 (by decide)
theorem def__law_letters {K : PySem.W.Frag} {h : Heap} {mg : Str → Option Value} (KX : K.In h) (G : h.Ns mainGlobals mg) {a : Addr} {od an : Option Addr} {sl : Array (Option Value)} {oc kV dc pm cd ct : Value}
    (n : PySem.W.nsIn K mainGlobals "_law_letters" = some (some (.ref a))) (l : K.lookup a = some ⟨oc, od, .func (PySem.W.fnOf "_law_letters" "_law_letters" (defArgs (topS 44)) (defBody (topS 44)) (defScope (topS 44)) .none kV dc pm an cd ct), sl⟩)
    (c : PySem.W.codeIn K cd "_law_letters" = true) (k : PySem.W.keepIn K (.ref a) = true) : ∃ a fd, DefAt K mg sg "_law_letters" f__law_letters a fd := by
  refine ⟨a, PySem.W.fnOf "_law_letters" "_law_letters" (defArgs (topS 44)) (defBody (topS 44)) (defScope (topS 44)) .none kV dc pm an cd ct, PySem.W.mg_of KX G n, ⟨topS 44, "_law_letters", fun_mk l c k, scope__law_letters, look__law_letters⟩, fun s us hl => ?_, fun ks np perm hm => ?_⟩
  · match us, hl with
    | [_], _ => exact .of_eq rfl
  · have hm : (("_law_letters" : Str), ks, np, perm) ∈ [(("failing" : Str), (["other", "one", "table"] : List Str), (0 : Nat), ([2, 1, 0] : List Nat)), (("holds_in" : Str), (["other", "one", "table"] : List Str), (0 : Nat), ([2, 1, 0] : List Nat))] := hm
    simp only [List.mem_cons, List.not_mem_nil, or_false, Prod.mk.injEq] at hm
    rcases hm with h | h
    · exact absurd h.1 (by decide)
    · exact absurd h.1 (by decide)
theorem def__law_choices {K : PySem.W.Frag} {h : Heap} {mg : Str → Option Value} (KX : K.In h) (G : h.Ns mainGlobals mg) {a : Addr} {od an : Option Addr} {sl : Array (Option Value)} {oc kV dc pm cd ct : Value}
    (n : PySem.W.nsIn K mainGlobals "_law_choices" = some (some (.ref a))) (l : K.lookup a = some ⟨oc, od, .func (PySem.W.fnOf "_law_choices" "_law_choices" (defArgs (topS 45)) (defBody (topS 45)) (defScope (topS 45)) .none kV dc pm an cd ct), sl⟩)
    (c : PySem.W.codeIn K cd "_law_choices" = true) (k : PySem.W.keepIn K (.ref a) = true) : ∃ a fd, DefAt K mg sg "_law_choices" f__law_choices a fd := by
  refine ⟨a, PySem.W.fnOf "_law_choices" "_law_choices" (defArgs (topS 45)) (defBody (topS 45)) (defScope (topS 45)) .none kV dc pm an cd ct, PySem.W.mg_of KX G n, ⟨topS 45, "_law_choices", fun_mk l c k, scope__law_choices, look__law_choices⟩, fun s us hl => ?_, fun ks np perm hm => ?_⟩
  · match us, hl with
    | [_, _], _ => exact .of_eq rfl
  · have hm : (("_law_choices" : Str), ks, np, perm) ∈ [(("failing" : Str), (["other", "one", "table"] : List Str), (0 : Nat), ([2, 1, 0] : List Nat)), (("holds_in" : Str), (["other", "one", "table"] : List Str), (0 : Nat), ([2, 1, 0] : List Nat))] := hm
    simp only [List.mem_cons, List.not_mem_nil, or_false, Prod.mk.injEq] at hm
    rcases hm with h | h
    · exact absurd h.1 (by decide)
    · exact absurd h.1 (by decide)
theorem def__law_due {K : PySem.W.Frag} {h : Heap} {mg : Str → Option Value} (KX : K.In h) (G : h.Ns mainGlobals mg) {a : Addr} {od an : Option Addr} {sl : Array (Option Value)} {oc kV dc pm cd ct : Value}
    (n : PySem.W.nsIn K mainGlobals "_law_due" = some (some (.ref a))) (l : K.lookup a = some ⟨oc, od, .func (PySem.W.fnOf "_law_due" "_law_due" (defArgs (topS 46)) (defBody (topS 46)) (defScope (topS 46)) .none kV dc pm an cd ct), sl⟩)
    (c : PySem.W.codeIn K cd "_law_due" = true) (k : PySem.W.keepIn K (.ref a) = true) : ∃ a fd, DefAt K mg sg "_law_due" f__law_due a fd := by
  refine ⟨a, PySem.W.fnOf "_law_due" "_law_due" (defArgs (topS 46)) (defBody (topS 46)) (defScope (topS 46)) .none kV dc pm an cd ct, PySem.W.mg_of KX G n, ⟨topS 46, "_law_due", fun_mk l c k, scope__law_due, look__law_due⟩, fun s us hl => ?_, fun ks np perm hm => ?_⟩
  · match us, hl with
    | [_, _, _], _ => exact .of_eq rfl
  · have hm : (("_law_due" : Str), ks, np, perm) ∈ [(("failing" : Str), (["other", "one", "table"] : List Str), (0 : Nat), ([2, 1, 0] : List Nat)), (("holds_in" : Str), (["other", "one", "table"] : List Str), (0 : Nat), ([2, 1, 0] : List Nat))] := hm
    simp only [List.mem_cons, List.not_mem_nil, or_false, Prod.mk.injEq] at hm
    rcases hm with h | h
    · exact absurd h.1 (by decide)
    · exact absurd h.1 (by decide)
theorem def__law_told {K : PySem.W.Frag} {h : Heap} {mg : Str → Option Value} (KX : K.In h) (G : h.Ns mainGlobals mg) {a : Addr} {od an : Option Addr} {sl : Array (Option Value)} {oc kV dc pm cd ct : Value}
    (n : PySem.W.nsIn K mainGlobals "_law_told" = some (some (.ref a))) (l : K.lookup a = some ⟨oc, od, .func (PySem.W.fnOf "_law_told" "_law_told" (defArgs (topS 47)) (defBody (topS 47)) (defScope (topS 47)) .none kV dc pm an cd ct), sl⟩)
    (c : PySem.W.codeIn K cd "_law_told" = true) (k : PySem.W.keepIn K (.ref a) = true) : ∃ a fd, DefAt K mg sg "_law_told" f__law_told a fd := by
  refine ⟨a, PySem.W.fnOf "_law_told" "_law_told" (defArgs (topS 47)) (defBody (topS 47)) (defScope (topS 47)) .none kV dc pm an cd ct, PySem.W.mg_of KX G n, ⟨topS 47, "_law_told", fun_mk l c k, scope__law_told, look__law_told⟩, fun s us hl => ?_, fun ks np perm hm => ?_⟩
  · match us, hl with
    | [_, _, _], _ => exact .of_eq rfl
  · have hm : (("_law_told" : Str), ks, np, perm) ∈ [(("failing" : Str), (["other", "one", "table"] : List Str), (0 : Nat), ([2, 1, 0] : List Nat)), (("holds_in" : Str), (["other", "one", "table"] : List Str), (0 : Nat), ([2, 1, 0] : List Nat))] := hm
    simp only [List.mem_cons, List.not_mem_nil, or_false, Prod.mk.injEq] at hm
    rcases hm with h | h
    · exact absurd h.1 (by decide)
    · exact absurd h.1 (by decide)
theorem def__law_held {K : PySem.W.Frag} {h : Heap} {mg : Str → Option Value} (KX : K.In h) (G : h.Ns mainGlobals mg) {a : Addr} {od an : Option Addr} {sl : Array (Option Value)} {oc kV dc pm cd ct : Value}
    (n : PySem.W.nsIn K mainGlobals "_law_held" = some (some (.ref a))) (l : K.lookup a = some ⟨oc, od, .func (PySem.W.fnOf "_law_held" "_law_held" (defArgs (topS 48)) (defBody (topS 48)) (defScope (topS 48)) .none kV dc pm an cd ct), sl⟩)
    (c : PySem.W.codeIn K cd "_law_held" = true) (k : PySem.W.keepIn K (.ref a) = true) : ∃ a fd, DefAt K mg sg "_law_held" f__law_held a fd := by
  refine ⟨a, PySem.W.fnOf "_law_held" "_law_held" (defArgs (topS 48)) (defBody (topS 48)) (defScope (topS 48)) .none kV dc pm an cd ct, PySem.W.mg_of KX G n, ⟨topS 48, "_law_held", fun_mk l c k, scope__law_held, look__law_held⟩, fun s us hl => ?_, fun ks np perm hm => ?_⟩
  · match us, hl with
    | [_, _, _], _ => exact .of_eq rfl
  · have hm : (("_law_held" : Str), ks, np, perm) ∈ [(("failing" : Str), (["other", "one", "table"] : List Str), (0 : Nat), ([2, 1, 0] : List Nat)), (("holds_in" : Str), (["other", "one", "table"] : List Str), (0 : Nat), ([2, 1, 0] : List Nat))] := hm
    simp only [List.mem_cons, List.not_mem_nil, or_false, Prod.mk.injEq] at hm
    rcases hm with h | h
    · exact absurd h.1 (by decide)
    · exact absurd h.1 (by decide)
theorem def__law_errors {K : PySem.W.Frag} {h : Heap} {mg : Str → Option Value} (KX : K.In h) (G : h.Ns mainGlobals mg) {a : Addr} {od an : Option Addr} {sl : Array (Option Value)} {oc kV dc pm cd ct : Value}
    (n : PySem.W.nsIn K mainGlobals "_law_errors" = some (some (.ref a))) (l : K.lookup a = some ⟨oc, od, .func (PySem.W.fnOf "_law_errors" "_law_errors" (defArgs (topS 49)) (defBody (topS 49)) (defScope (topS 49)) .none kV dc pm an cd ct), sl⟩)
    (c : PySem.W.codeIn K cd "_law_errors" = true) (k : PySem.W.keepIn K (.ref a) = true) : ∃ a fd, DefAt K mg sg "_law_errors" f__law_errors a fd := by
  refine ⟨a, PySem.W.fnOf "_law_errors" "_law_errors" (defArgs (topS 49)) (defBody (topS 49)) (defScope (topS 49)) .none kV dc pm an cd ct, PySem.W.mg_of KX G n, ⟨topS 49, "_law_errors", fun_mk l c k, scope__law_errors, look__law_errors⟩, fun s us hl => ?_, fun ks np perm hm => ?_⟩
  · match us, hl with
    | [_, _, _, _], _ => exact .of_eq rfl
  · have hm : (("_law_errors" : Str), ks, np, perm) ∈ [(("failing" : Str), (["other", "one", "table"] : List Str), (0 : Nat), ([2, 1, 0] : List Nat)), (("holds_in" : Str), (["other", "one", "table"] : List Str), (0 : Nat), ([2, 1, 0] : List Nat))] := hm
    simp only [List.mem_cons, List.not_mem_nil, or_false, Prod.mk.injEq] at hm
    rcases hm with h | h
    · exact absurd h.1 (by decide)
    · exact absurd h.1 (by decide)
theorem def_law {K : PySem.W.Frag} {h : Heap} {mg : Str → Option Value} (KX : K.In h) (G : h.Ns mainGlobals mg) {a : Addr} {od an : Option Addr} {sl : Array (Option Value)} {oc kV dc pm cd ct : Value}
    (n : PySem.W.nsIn K mainGlobals "law" = some (some (.ref a))) (l : K.lookup a = some ⟨oc, od, .func (PySem.W.fnOf "law" "law" (defArgs (topS 50)) (defBody (topS 50)) (defScope (topS 50)) .none kV dc pm an cd ct), sl⟩)
    (c : PySem.W.codeIn K cd "law" = true) (k : PySem.W.keepIn K (.ref a) = true) : ∃ a fd, DefAt K mg sg "law" f_law a fd := by
  refine ⟨a, PySem.W.fnOf "law" "law" (defArgs (topS 50)) (defBody (topS 50)) (defScope (topS 50)) .none kV dc pm an cd ct, PySem.W.mg_of KX G n, ⟨topS 50, "law", fun_mk l c k, scope_law, look_law⟩, fun s us hl => ?_, fun ks np perm hm => ?_⟩
  · match us, hl with
    | [_], _ => exact .of_eq rfl
  · have hm : (("law" : Str), ks, np, perm) ∈ [(("failing" : Str), (["other", "one", "table"] : List Str), (0 : Nat), ([2, 1, 0] : List Nat)), (("holds_in" : Str), (["other", "one", "table"] : List Str), (0 : Nat), ([2, 1, 0] : List Nat))] := hm
    simp only [List.mem_cons, List.not_mem_nil, or_false, Prod.mk.injEq] at hm
    rcases hm with h | h
    · exact absurd h.1 (by decide)
    · exact absurd h.1 (by decide)
theorem errs {K : PySem.W.Frag} {h : Heap} {mg : Str → Option Value} (KX : K.In h) (G : h.Ns mainGlobals mg)
    {fI : Addr} {ocI : Value} {odI : Option Addr} {kVI dcI pmI : Value} {anI : Option Addr} {cdI ctI : Value} {slI : Array (Option Value)}
    {C0 N0 : Addr} {nm0 q0 : Str} {bs0 : List Value} {sn0 : List Str} {sub0 : List Value} {ab0 : Bool} {col0 : Option Bool} {dd0 : Option Addr} {ka0 kb0 kc0 kd0 ke0 : Option Value}
    {C1 N1 : Addr} {nm1 q1 : Str} {bs1 : List Value} {sn1 : List Str} {sub1 : List Value} {ab1 : Bool} {col1 : Option Bool} {dd1 : Option Addr} {ka1 kb1 kc1 kd1 ke1 : Option Value}
    {C2 N2 : Addr} {nm2 q2 : Str} {bs2 : List Value} {sn2 : List Str} {sub2 : List Value} {ab2 : Bool} {col2 : Option Bool} {dd2 : Option Addr} {ka2 kb2 kc2 kd2 ke2 : Option Value}
    (aC0 : PySem.W.nsIn K mainGlobals "RowError" = some (some (.ref C0)))
    (aC1 : PySem.W.nsIn K mainGlobals "InvalidTerm" = some (some (.ref C1)))
    (aC2 : PySem.W.nsIn K mainGlobals "InvalidTable" = some (some (.ref C2)))
    (xL0 : K.lookup C0 = some (excClassObj nm0 q0 C0 N0 bs0 [.type "ValueError", .type "Exception", .type "BaseException", .type "object"] true sn0 sub0 ab0 col0 dd0 ka0 kb0 kc0 kd0 ke0 "ValueError.__new__"))
    (xL1 : K.lookup C1 = some (excClassObj nm1 q1 C1 N1 bs1 [.ref C0, .type "ValueError", .type "Exception", .type "BaseException", .type "object"] true sn1 sub1 ab1 col1 dd1 ka1 kb1 kc1 kd1 ke1 "ValueError.__new__"))
    (xL2 : K.lookup C2 = some (excClassObj nm2 q2 C2 N2 bs2 [.ref C0, .type "ValueError", .type "Exception", .type "BaseException", .type "object"] true sn2 sub2 ab2 col2 dd2 ka2 kb2 kc2 kd2 ke2 "ValueError.__new__"))
    (iC0 : PySem.W.findIn K (.ref C0) "__init__" = some (some (.ref fI)))
    (iC1 : PySem.W.findIn K (.ref C1) "__init__" = some (some (.ref fI)))
    (iC2 : PySem.W.findIn K (.ref C2) "__init__" = some (some (.ref fI)))
    (li : K.lookup fI = some ⟨ocI, odI, .func (PySem.W.fnOf "__init__" "RowError.__init__" (defArgs initS) (defBody initS) (defScope initS) .none kVI dcI pmI anI cdI ctI), slI⟩)
    (ci : PySem.W.codeIn K cdI "RowError.__init__" = true)
    (ki : PySem.W.keepIn K (.ref fI) = true)
    (ti : PySem.W.typeIn K (.ref fI) = some (.type "function"))
    (vV : PySem.W.findCls K (.type "ValueError") (.type "type") "__init__" = some (.val (.builtin "ValueError.__init__")))
    (nV : PySem.W.nsIn K mainGlobals "ValueError" = some none)
    (eV : PySem.W.subIn K (.type "ValueError") (.type "BaseException") = some true)
    (cg : PySem.W.specialIn K (.builtin "object.__class__") "__get__" = some (some (.builtin "getset_descriptor.__get__")))
    (ct : PySem.W.takesIn K (.builtin "object.__class__") = some true)
    (sa0 : PySem.W.findIn K (.ref C0) "__setattr__" = some (some (.builtin "object.__setattr__")))
    (ga0 : PySem.W.findIn K (.ref C0) "__getattribute__" = some (some (.builtin "BaseException.__getattribute__")))
    (gg0 : PySem.W.findIn K (.ref C0) "__getattr__" = some none)
    (nv0 : PySem.W.findIn K (.ref C0) "value" = some none)
    (ca0 : PySem.W.findIn K (.ref C0) "__class__" = some (some (.builtin "object.__class__")))
    (kC0 : PySem.W.keepIn K (.ref C0) = true)
    (eC0 : PySem.W.subIn K (.ref C0) (.type "BaseException") = some true)
    (vC0 : PySem.W.subIn K (.ref C0) (.type "ValueError") = some true)
    (tC0 : PySem.W.typeIn K (.ref C0) = some (.type "type"))
    (hC0 : PySem.W.hasDictIn K C0 = true)
    (yC0 : PySem.W.isClsIn K C0 = true)
    (mC0 : PySem.W.mroIn K C0 (.type "object") = some true)
    (zC0 : PySem.W.subIn K (.type "NoneType") (.ref C0) = some false)
    (sa1 : PySem.W.findIn K (.ref C1) "__setattr__" = some (some (.builtin "object.__setattr__")))
    (ga1 : PySem.W.findIn K (.ref C1) "__getattribute__" = some (some (.builtin "BaseException.__getattribute__")))
    (gg1 : PySem.W.findIn K (.ref C1) "__getattr__" = some none)
    (nv1 : PySem.W.findIn K (.ref C1) "value" = some none)
    (ca1 : PySem.W.findIn K (.ref C1) "__class__" = some (some (.builtin "object.__class__")))
    (kC1 : PySem.W.keepIn K (.ref C1) = true)
    (eC1 : PySem.W.subIn K (.ref C1) (.type "BaseException") = some true)
    (vC1 : PySem.W.subIn K (.ref C1) (.type "ValueError") = some true)
    (tC1 : PySem.W.typeIn K (.ref C1) = some (.type "type"))
    (hC1 : PySem.W.hasDictIn K C1 = true)
    (yC1 : PySem.W.isClsIn K C1 = true)
    (mC1 : PySem.W.mroIn K C1 (.type "object") = some true)
    (zC1 : PySem.W.subIn K (.type "NoneType") (.ref C1) = some false)
    (sa2 : PySem.W.findIn K (.ref C2) "__setattr__" = some (some (.builtin "object.__setattr__")))
    (ga2 : PySem.W.findIn K (.ref C2) "__getattribute__" = some (some (.builtin "BaseException.__getattribute__")))
    (gg2 : PySem.W.findIn K (.ref C2) "__getattr__" = some none)
    (nv2 : PySem.W.findIn K (.ref C2) "value" = some none)
    (ca2 : PySem.W.findIn K (.ref C2) "__class__" = some (some (.builtin "object.__class__")))
    (kC2 : PySem.W.keepIn K (.ref C2) = true)
    (eC2 : PySem.W.subIn K (.ref C2) (.type "BaseException") = some true)
    (vC2 : PySem.W.subIn K (.ref C2) (.type "ValueError") = some true)
    (tC2 : PySem.W.typeIn K (.ref C2) = some (.type "type"))
    (hC2 : PySem.W.hasDictIn K C2 = true)
    (yC2 : PySem.W.isClsIn K C2 = true)
    (mC2 : PySem.W.mroIn K C2 (.type "object") = some true)
    (zC2 : PySem.W.subIn K (.type "NoneType") (.ref C2) = some false)
    (s0_0 : PySem.W.subIn K (.ref C0) (.ref C0) = some true)
    (s0_1 : PySem.W.subIn K (.ref C0) (.ref C1) = some false)
    (s0_2 : PySem.W.subIn K (.ref C0) (.ref C2) = some false)
    (s1_0 : PySem.W.subIn K (.ref C1) (.ref C0) = some true)
    (s1_1 : PySem.W.subIn K (.ref C1) (.ref C1) = some true)
    (s1_2 : PySem.W.subIn K (.ref C1) (.ref C2) = some false)
    (s2_0 : PySem.W.subIn K (.ref C2) (.ref C0) = some true)
    (s2_1 : PySem.W.subIn K (.ref C2) (.ref C1) = some false)
    (s2_2 : PySem.W.subIn K (.ref C2) (.ref C2) = some true)
    : ∀ c anc, sg.ecs.lookup c = some anc → ∃ C, EcAt K mg sg c anc C := by
  have made : ∃ fd, (∀ (P : Program) (w : World) (base : Heap), FnOk P w K mg base CX0 1 fI fd ["self", "value"] (spInit K)) ∧ Binds K fd ["self", "value"] [] :=
    ⟨_, fun P w base => init_keeps (fun_mk (st := initS) li ci ki) ⟨rfl, rfl, rfl, by decide +kernel, rfl, by decide +kernel, by decide +kernel⟩ (.inl rfl) (.inl rfl) rfl (PySem.W.mg_none_of KX G nV) vV rfl (fun _ => rfl),
      (fun_mk (st := initS) li ci ki).binds (ps := ["self", "value"]) fun _ _ _ _ _ _ us hl => match us, hl with | [_, _], _ => rfl⟩
  obtain ⟨fd, mk, bd⟩ := made
  intro c anc hl
  have hl : List.lookup c [(("RowError" : Str), (["RowError", "ValueError"] : List Str)), (("InvalidTerm" : Str), (["InvalidTerm", "RowError", "ValueError"] : List Str)), (("InvalidTable" : Str), (["InvalidTable", "RowError", "ValueError"] : List Str))] = some anc := hl
  simp only [List.lookup] at hl
  split at hl
  · rename_i he
    cases hl
    rw [beq_iff_eq] at he
    subst he
    refine ⟨C0, PySem.W.mg_of KX G aC0, ⟨⟨_, _, _, _, _, _, _, _, _, _, _, _, _, _, _, xL0, (by show PySem.HandSPX.refsVE [.type "ValueError", .type "Exception", .type "BaseException", .type "object"] = true; decide +kernel)⟩, sa0, eC0, tC0, kC0⟩, ⟨yC0, ga0, gg0, eC0, hC0, ca0, cg, ct, mC0, nv0⟩, isa_none yC0 tC0 zC0, fun x cv u z => ?_, fI, fd, iC0, ti, mk, bd⟩
    cases z with
    | ve h1 h2 =>
      subst h1
      exact isa_ve vC0 eV
    | @own l D h1 h2 =>
      have h1 : List.lookup x [(("RowError" : Str), (["RowError", "ValueError"] : List Str)), (("InvalidTerm" : Str), (["InvalidTerm", "RowError", "ValueError"] : List Str)), (("InvalidTable" : Str), (["InvalidTable", "RowError", "ValueError"] : List Str))] = some l := h1
      simp only [List.lookup] at h1
      split at h1
      · rename_i he2
        rw [beq_iff_eq] at he2
        subst he2
        have e := (PySem.W.mg_of KX G aC0).symm.trans h2
        cases e
        exact isa_of eC0 yC0 tC0 s0_0 s0_0
      split at h1
      · rename_i he2
        rw [beq_iff_eq] at he2
        subst he2
        have e := (PySem.W.mg_of KX G aC1).symm.trans h2
        cases e
        exact isa_of eC1 yC1 tC1 s0_1 s0_0
      split at h1
      · rename_i he2
        rw [beq_iff_eq] at he2
        subst he2
        have e := (PySem.W.mg_of KX G aC2).symm.trans h2
        cases e
        exact isa_of eC2 yC2 tC2 s0_2 s0_0
      cases h1
  split at hl
  · rename_i he
    cases hl
    rw [beq_iff_eq] at he
    subst he
    refine ⟨C1, PySem.W.mg_of KX G aC1, ⟨⟨_, _, _, _, _, _, _, _, _, _, _, _, _, _, _, xL1, (by show PySem.HandSPX.refsVE [.type "ValueError", .type "Exception", .type "BaseException", .type "object"] = true; decide +kernel)⟩, sa1, eC1, tC1, kC1⟩, ⟨yC1, ga1, gg1, eC1, hC1, ca1, cg, ct, mC1, nv1⟩, isa_none yC1 tC1 zC1, fun x cv u z => ?_, fI, fd, iC1, ti, mk, bd⟩
    cases z with
    | ve h1 h2 =>
      subst h1
      exact isa_ve vC1 eV
    | @own l D h1 h2 =>
      have h1 : List.lookup x [(("RowError" : Str), (["RowError", "ValueError"] : List Str)), (("InvalidTerm" : Str), (["InvalidTerm", "RowError", "ValueError"] : List Str)), (("InvalidTable" : Str), (["InvalidTable", "RowError", "ValueError"] : List Str))] = some l := h1
      simp only [List.lookup] at h1
      split at h1
      · rename_i he2
        rw [beq_iff_eq] at he2
        subst he2
        have e := (PySem.W.mg_of KX G aC0).symm.trans h2
        cases e
        exact isa_of eC0 yC0 tC0 s1_0 s1_1
      split at h1
      · rename_i he2
        rw [beq_iff_eq] at he2
        subst he2
        have e := (PySem.W.mg_of KX G aC1).symm.trans h2
        cases e
        exact isa_of eC1 yC1 tC1 s1_1 s1_1
      split at h1
      · rename_i he2
        rw [beq_iff_eq] at he2
        subst he2
        have e := (PySem.W.mg_of KX G aC2).symm.trans h2
        cases e
        exact isa_of eC2 yC2 tC2 s1_2 s1_1
      cases h1
  split at hl
  · rename_i he
    cases hl
    rw [beq_iff_eq] at he
    subst he
    refine ⟨C2, PySem.W.mg_of KX G aC2, ⟨⟨_, _, _, _, _, _, _, _, _, _, _, _, _, _, _, xL2, (by show PySem.HandSPX.refsVE [.type "ValueError", .type "Exception", .type "BaseException", .type "object"] = true; decide +kernel)⟩, sa2, eC2, tC2, kC2⟩, ⟨yC2, ga2, gg2, eC2, hC2, ca2, cg, ct, mC2, nv2⟩, isa_none yC2 tC2 zC2, fun x cv u z => ?_, fI, fd, iC2, ti, mk, bd⟩
    cases z with
    | ve h1 h2 =>
      subst h1
      exact isa_ve vC2 eV
    | @own l D h1 h2 =>
      have h1 : List.lookup x [(("RowError" : Str), (["RowError", "ValueError"] : List Str)), (("InvalidTerm" : Str), (["InvalidTerm", "RowError", "ValueError"] : List Str)), (("InvalidTable" : Str), (["InvalidTable", "RowError", "ValueError"] : List Str))] = some l := h1
      simp only [List.lookup] at h1
      split at h1
      · rename_i he2
        rw [beq_iff_eq] at he2
        subst he2
        have e := (PySem.W.mg_of KX G aC0).symm.trans h2
        cases e
        exact isa_of eC0 yC0 tC0 s2_0 s2_2
      split at h1
      · rename_i he2
        rw [beq_iff_eq] at he2
        subst he2
        have e := (PySem.W.mg_of KX G aC1).symm.trans h2
        cases e
        exact isa_of eC1 yC1 tC1 s2_1 s2_2
      split at h1
      · rename_i he2
        rw [beq_iff_eq] at he2
        subst he2
        have e := (PySem.W.mg_of KX G aC2).symm.trans h2
        cases e
        exact isa_of eC2 yC2 tC2 s2_2 s2_2
      cases h1
  cases hl
theorem glb_POWERS {K : PySem.W.Frag} {h : Heap} {mg : Str → Option Value} (KX : K.In h) (G : h.Ns mainGlobals mg) {a_POWERS : Addr} {od_POWERS : Option Addr} {n_POWERS : Nat} {sl_POWERS : Array (Option Value)} {t0_POWERS t1_POWERS : Tok}
    (g_POWERS : PySem.W.nsIn K mainGlobals "POWERS" = some (some (.ref a_POWERS)))
    (o_POWERS : K.lookup a_POWERS = some ⟨.type "tuple", od_POWERS, .seq #[.str "on" t0_POWERS, .str "back" t1_POWERS] n_POWERS, sl_POWERS⟩)
    : ∃ u v, mg "POWERS" = some u ∧ RelV v u ∧ ∀ F H r, Rep K F H r v gl_POWERS := gl_tup (vs := [.str "on", .str "back"]) (PySem.W.mg_of KX G g_POWERS) o_POWERS rfl rfl (by show 2 ≤ sizeLine; decide) (.cons ⟨t0_POWERS, rfl⟩ (.cons ⟨t1_POWERS, rfl⟩ .nil)) fun F H r => (.cons (.str _) (.cons (.str _) .nil))
theorem glb_NONE {K : PySem.W.Frag} {h : Heap} {mg : Str → Option Value} (KX : K.In h) (G : h.Ns mainGlobals mg) {a_NONE : Addr} {od_NONE : Option Addr} {n_NONE : Nat} {sl_NONE : Array (Option Value)} {t0_NONE : Tok}
    (g_NONE : PySem.W.nsIn K mainGlobals "NONE" = some (some (.ref a_NONE)))
    (o_NONE : K.lookup a_NONE = some ⟨.type "tuple", od_NONE, .seq #[.str "none" t0_NONE] n_NONE, sl_NONE⟩)
    : ∃ u v, mg "NONE" = some u ∧ RelV v u ∧ ∀ F H r, Rep K F H r v gl_NONE := gl_tup (vs := [.str "none"]) (PySem.W.mg_of KX G g_NONE) o_NONE rfl rfl (by show 1 ≤ sizeLine; decide) (.cons ⟨t0_NONE, rfl⟩ .nil) fun F H r => (.cons (.str _) .nil)
theorem glb_MOST_LOOKED {K : PySem.W.Frag} {h : Heap} {mg : Str → Option Value} (KX : K.In h) (G : h.Ns mainGlobals mg) {t_MOST_LOOKED : Tok}
    (g_MOST_LOOKED : PySem.W.nsIn K mainGlobals "MOST_LOOKED" = some (some (.int 16 t_MOST_LOOKED)))
    : ∃ u v, mg "MOST_LOOKED" = some u ∧ RelV v u ∧ ∀ F H r, Rep K F H r v gl_MOST_LOOKED := gl_int (PySem.W.mg_of KX G g_MOST_LOOKED)
theorem glb_MOST_LETTERS {K : PySem.W.Frag} {h : Heap} {mg : Str → Option Value} (KX : K.In h) (G : h.Ns mainGlobals mg) {t_MOST_LETTERS : Tok}
    (g_MOST_LETTERS : PySem.W.nsIn K mainGlobals "MOST_LETTERS" = some (some (.int 4 t_MOST_LETTERS)))
    : ∃ u v, mg "MOST_LETTERS" = some u ∧ RelV v u ∧ ∀ F H r, Rep K F H r v gl_MOST_LETTERS := gl_int (PySem.W.mg_of KX G g_MOST_LETTERS)
theorem prg {K : PySem.W.Frag} {h : Heap} {mg : Str → Option Value} (KX : K.In h) (G : h.Ns mainGlobals mg)
    (d0 : ∃ a fd, DefAt K mg sg "is_integer" f_is_integer a fd)
    (d1 : ∃ a fd, DefAt K mg sg "is_between" f_is_between a fd)
    (d2 : ∃ a fd, DefAt K mg sg "inner_of" f_inner_of a fd)
    (d3 : ∃ a fd, DefAt K mg sg "is_term_of" f_is_term_of a fd)
    (d4 : ∃ a fd, DefAt K mg sg "check_term" f_check_term a fd)
    (d5 : ∃ a fd, DefAt K mg sg "parts_in" f_parts_in a fd)
    (d6 : ∃ a fd, DefAt K mg sg "letters_in" f_letters_in a fd)
    (d7 : ∃ a fd, DefAt K mg sg "are_values" f_are_values a fd)
    (d8 : ∃ a fd, DefAt K mg sg "is_table_form" f_is_table_form a fd)
    (d9 : ∃ a fd, DefAt K mg sg "unit_fault" f_unit_fault a fd)
    (d10 : ∃ a fd, DefAt K mg sg "triple_fault" f_triple_fault a fd)
    (d11 : ∃ a fd, DefAt K mg sg "moved_fault" f_moved_fault a fd)
    (d12 : ∃ a fd, DefAt K mg sg "again_fault" f_again_fault a fd)
    (d13 : ∃ a fd, DefAt K mg sg "turned_fault" f_turned_fault a fd)
    (d14 : ∃ a fd, DefAt K mg sg "law_fault" f_law_fault a fd)
    (d15 : ∃ a fd, DefAt K mg sg "is_table_in" f_is_table_in a fd)
    (d16 : ∃ a fd, DefAt K mg sg "check_table" f_check_table a fd)
    (d17 : ∃ a fd, DefAt K mg sg "value_in" f_value_in a fd)
    (d18 : ∃ a fd, DefAt K mg sg "choices" f_choices a fd)
    (d19 : ∃ a fd, DefAt K mg sg "failing_in" f_failing_in a fd)
    (d20 : ∃ a fd, DefAt K mg sg "check_identity" f_check_identity a fd)
    (d21 : ∃ a fd, DefAt K mg sg "holds_in" f_holds_in a fd)
    (d22 : ∃ a fd, DefAt K mg sg "failing" f_failing a fd)
    (d23 : ∃ a fd, DefAt K mg sg "_law_mixed" f__law_mixed a fd)
    (d24 : ∃ a fd, DefAt K mg sg "_law_source" f__law_source a fd)
    (d25 : ∃ a fd, DefAt K mg sg "_law_draw" f__law_draw a fd)
    (d26 : ∃ a fd, DefAt K mg sg "_law_term" f__law_term a fd)
    (d27 : ∃ a fd, DefAt K mg sg "_law_same_row" f__law_same_row a fd)
    (d28 : ∃ a fd, DefAt K mg sg "_law_table" f__law_table a fd)
    (d29 : ∃ a fd, DefAt K mg sg "_law_round" f__law_round a fd)
    (d30 : ∃ a fd, DefAt K mg sg "_law_value" f__law_value a fd)
    (d31 : ∃ a fd, DefAt K mg sg "_law_letters" f__law_letters a fd)
    (d32 : ∃ a fd, DefAt K mg sg "_law_choices" f__law_choices a fd)
    (d33 : ∃ a fd, DefAt K mg sg "_law_due" f__law_due a fd)
    (d34 : ∃ a fd, DefAt K mg sg "_law_told" f__law_told a fd)
    (d35 : ∃ a fd, DefAt K mg sg "_law_held" f__law_held a fd)
    (d36 : ∃ a fd, DefAt K mg sg "_law_errors" f__law_errors a fd)
    (d37 : ∃ a fd, DefAt K mg sg "law" f_law a fd)
    (z0 : PySem.W.nsIn K mainGlobals "isinstance" = some none)
    (z1 : PySem.W.nsIn K mainGlobals "bool" = some none)
    (z2 : PySem.W.nsIn K mainGlobals "int" = some none)
    (z3 : PySem.W.nsIn K mainGlobals "str" = some none)
    (z4 : PySem.W.nsIn K mainGlobals "len" = some none)
    (z5 : PySem.W.nsIn K mainGlobals "tuple" = some none)
    (z6 : PySem.W.nsIn K mainGlobals "all" = some none)
    (z7 : PySem.W.nsIn K mainGlobals "range" = some none)
    (z8 : PySem.W.nsIn K mainGlobals "enumerate" = some none)
    (z9 : PySem.W.nsIn K mainGlobals "max" = some none)
    (z10 : PySem.W.nsIn K mainGlobals "list" = some none)
    (z11 : PySem.W.nsIn K mainGlobals "min" = some none)
    (z12 : PySem.W.nsIn K mainGlobals "repr" = some none)
    (u_POWERS : ∃ u v, mg "POWERS" = some u ∧ RelV v u ∧ ∀ F H r, Rep K F H r v gl_POWERS)
    (u_NONE : ∃ u v, mg "NONE" = some u ∧ RelV v u ∧ ∀ F H r, Rep K F H r v gl_NONE)
    (u_MOST_LOOKED : ∃ u v, mg "MOST_LOOKED" = some u ∧ RelV v u ∧ ∀ F H r, Rep K F H r v gl_MOST_LOOKED)
    (u_MOST_LETTERS : ∃ u v, mg "MOST_LETTERS" = some u ∧ RelV v u ∧ ∀ F H r, Rep K F H r v gl_MOST_LETTERS)
    (er : ∀ c anc, sg.ecs.lookup c = some anc → ∃ C, EcAt K mg sg c anc C)
    : Prg K mg sg := by
  refine ⟨fun f fn hl => ?_, fun x p hx => ?_, fun x hx => ?_, er, rfl⟩
  · have hl : List.lookup f [(("is_integer" : Str), f_is_integer), (("is_between" : Str), f_is_between), (("inner_of" : Str), f_inner_of), (("is_term_of" : Str), f_is_term_of), (("check_term" : Str), f_check_term), (("parts_in" : Str), f_parts_in), (("letters_in" : Str), f_letters_in), (("are_values" : Str), f_are_values), (("is_table_form" : Str), f_is_table_form), (("unit_fault" : Str), f_unit_fault), (("triple_fault" : Str), f_triple_fault), (("moved_fault" : Str), f_moved_fault), (("again_fault" : Str), f_again_fault), (("turned_fault" : Str), f_turned_fault), (("law_fault" : Str), f_law_fault), (("is_table_in" : Str), f_is_table_in), (("check_table" : Str), f_check_table), (("value_in" : Str), f_value_in), (("choices" : Str), f_choices), (("failing_in" : Str), f_failing_in), (("check_identity" : Str), f_check_identity), (("holds_in" : Str), f_holds_in), (("failing" : Str), f_failing), (("_law_mixed" : Str), f__law_mixed), (("_law_source" : Str), f__law_source), (("_law_draw" : Str), f__law_draw), (("_law_term" : Str), f__law_term), (("_law_same_row" : Str), f__law_same_row), (("_law_table" : Str), f__law_table), (("_law_round" : Str), f__law_round), (("_law_value" : Str), f__law_value), (("_law_letters" : Str), f__law_letters), (("_law_choices" : Str), f__law_choices), (("_law_due" : Str), f__law_due), (("_law_told" : Str), f__law_told), (("_law_held" : Str), f__law_held), (("_law_errors" : Str), f__law_errors), (("law" : Str), f_law)] = some fn := hl
    simp only [List.lookup] at hl
    split at hl
    · rename_i he
      cases hl
      rw [beq_iff_eq] at he
      subst he
      exact d0
    split at hl
    · rename_i he
      cases hl
      rw [beq_iff_eq] at he
      subst he
      exact d1
    split at hl
    · rename_i he
      cases hl
      rw [beq_iff_eq] at he
      subst he
      exact d2
    split at hl
    · rename_i he
      cases hl
      rw [beq_iff_eq] at he
      subst he
      exact d3
    split at hl
    · rename_i he
      cases hl
      rw [beq_iff_eq] at he
      subst he
      exact d4
    split at hl
    · rename_i he
      cases hl
      rw [beq_iff_eq] at he
      subst he
      exact d5
    split at hl
    · rename_i he
      cases hl
      rw [beq_iff_eq] at he
      subst he
      exact d6
    split at hl
    · rename_i he
      cases hl
      rw [beq_iff_eq] at he
      subst he
      exact d7
    split at hl
    · rename_i he
      cases hl
      rw [beq_iff_eq] at he
      subst he
      exact d8
    split at hl
    · rename_i he
      cases hl
      rw [beq_iff_eq] at he
      subst he
      exact d9
    split at hl
    · rename_i he
      cases hl
      rw [beq_iff_eq] at he
      subst he
      exact d10
    split at hl
    · rename_i he
      cases hl
      rw [beq_iff_eq] at he
      subst he
      exact d11
    split at hl
    · rename_i he
      cases hl
      rw [beq_iff_eq] at he
      subst he
      exact d12
    split at hl
    · rename_i he
      cases hl
      rw [beq_iff_eq] at he
      subst he
      exact d13
    split at hl
    · rename_i he
      cases hl
      rw [beq_iff_eq] at he
      subst he
      exact d14
    split at hl
    · rename_i he
      cases hl
      rw [beq_iff_eq] at he
      subst he
      exact d15
    split at hl
    · rename_i he
      cases hl
      rw [beq_iff_eq] at he
      subst he
      exact d16
    split at hl
    · rename_i he
      cases hl
      rw [beq_iff_eq] at he
      subst he
      exact d17
    split at hl
    · rename_i he
      cases hl
      rw [beq_iff_eq] at he
      subst he
      exact d18
    split at hl
    · rename_i he
      cases hl
      rw [beq_iff_eq] at he
      subst he
      exact d19
    split at hl
    · rename_i he
      cases hl
      rw [beq_iff_eq] at he
      subst he
      exact d20
    split at hl
    · rename_i he
      cases hl
      rw [beq_iff_eq] at he
      subst he
      exact d21
    split at hl
    · rename_i he
      cases hl
      rw [beq_iff_eq] at he
      subst he
      exact d22
    split at hl
    · rename_i he
      cases hl
      rw [beq_iff_eq] at he
      subst he
      exact d23
    split at hl
    · rename_i he
      cases hl
      rw [beq_iff_eq] at he
      subst he
      exact d24
    split at hl
    · rename_i he
      cases hl
      rw [beq_iff_eq] at he
      subst he
      exact d25
    split at hl
    · rename_i he
      cases hl
      rw [beq_iff_eq] at he
      subst he
      exact d26
    split at hl
    · rename_i he
      cases hl
      rw [beq_iff_eq] at he
      subst he
      exact d27
    split at hl
    · rename_i he
      cases hl
      rw [beq_iff_eq] at he
      subst he
      exact d28
    split at hl
    · rename_i he
      cases hl
      rw [beq_iff_eq] at he
      subst he
      exact d29
    split at hl
    · rename_i he
      cases hl
      rw [beq_iff_eq] at he
      subst he
      exact d30
    split at hl
    · rename_i he
      cases hl
      rw [beq_iff_eq] at he
      subst he
      exact d31
    split at hl
    · rename_i he
      cases hl
      rw [beq_iff_eq] at he
      subst he
      exact d32
    split at hl
    · rename_i he
      cases hl
      rw [beq_iff_eq] at he
      subst he
      exact d33
    split at hl
    · rename_i he
      cases hl
      rw [beq_iff_eq] at he
      subst he
      exact d34
    split at hl
    · rename_i he
      cases hl
      rw [beq_iff_eq] at he
      subst he
      exact d35
    split at hl
    · rename_i he
      cases hl
      rw [beq_iff_eq] at he
      subst he
      exact d36
    split at hl
    · rename_i he
      cases hl
      rw [beq_iff_eq] at he
      subst he
      exact d37
    cases hl
  · have hx : List.lookup x [(("POWERS" : Str), gl_POWERS), (("NONE" : Str), gl_NONE), (("MOST_LOOKED" : Str), gl_MOST_LOOKED), (("MOST_LETTERS" : Str), gl_MOST_LETTERS)] = some p := hx
    simp only [List.lookup] at hx
    split at hx
    · rename_i he
      cases hx
      rw [beq_iff_eq] at he
      subst he
      exact u_POWERS
    split at hx
    · rename_i he
      cases hx
      rw [beq_iff_eq] at he
      subst he
      exact u_NONE
    split at hx
    · rename_i he
      cases hx
      rw [beq_iff_eq] at he
      subst he
      exact u_MOST_LOOKED
    split at hx
    · rename_i he
      cases hx
      rw [beq_iff_eq] at he
      subst he
      exact u_MOST_LETTERS
    cases hx
  · have hx : x ∈ [("isinstance" : Str), ("bool" : Str), ("int" : Str), ("str" : Str), ("len" : Str), ("tuple" : Str), ("all" : Str), ("range" : Str), ("enumerate" : Str), ("max" : Str), ("list" : Str), ("min" : Str), ("repr" : Str)] := hx
    simp only [List.mem_cons, List.not_mem_nil, or_false] at hx
    rcases hx with rfl | rfl | rfl | rfl | rfl | rfl | rfl | rfl | rfl | rfl | rfl | rfl | rfl
    · exact PySem.W.mg_none_of KX G z0
    · exact PySem.W.mg_none_of KX G z1
    · exact PySem.W.mg_none_of KX G z2
    · exact PySem.W.mg_none_of KX G z3
    · exact PySem.W.mg_none_of KX G z4
    · exact PySem.W.mg_none_of KX G z5
    · exact PySem.W.mg_none_of KX G z6
    · exact PySem.W.mg_none_of KX G z7
    · exact PySem.W.mg_none_of KX G z8
    · exact PySem.W.mg_none_of KX G z9
    · exact PySem.W.mg_none_of KX G z10
    · exact PySem.W.mg_none_of KX G z11
    · exact PySem.W.mg_none_of KX G z12
end L2.K22
open PySem PySem.W PyProof.Rows
set_option maxRecDepth 100000 in
set_option maxHeartbeats 0 in
theorem PySem.Challenge.cw_scatterrows_k22_whole_identities_in_tabl_holds : PySem.Challenge.rw_scatterrows_k22_whole_identities_in_tabl.Holds := by
  w_on; o_law; k_head; (case hw => w_witness2)
  k_fill
  refine L2.Iv.law_true (k := 150) (l := PySem.Challenge.rw_scatterrows_k22_whole_identities_in_tabl) (g := L2.K22.sg) (x := "script") rfl rfl ⟨rfl, by decide, by decide⟩ (fun w h Y => PySem.W.kIn_of Y) L2.K22.at_law rfl ?F L2.K22.law_ok
  case F =>
    intro w mg fa h KX G hmg
    refine' L2.K22.prg KX G (L2.K22.def_is_integer KX G ?n0 ?l0 ?c0 ?k0) (L2.K22.def_is_between KX G ?n1 ?l1 ?c1 ?k1) (L2.K22.def_inner_of KX G ?n2 ?l2 ?c2 ?k2) (L2.K22.def_is_term_of KX G ?n3 ?l3 ?c3 ?k3) (L2.K22.def_check_term KX G ?n4 ?l4 ?c4 ?k4) (L2.K22.def_parts_in KX G ?n5 ?l5 ?c5 ?k5) (L2.K22.def_letters_in KX G ?n6 ?l6 ?c6 ?k6) (L2.K22.def_are_values KX G ?n7 ?l7 ?c7 ?k7) (L2.K22.def_is_table_form KX G ?n8 ?l8 ?c8 ?k8) (L2.K22.def_unit_fault KX G ?n9 ?l9 ?c9 ?k9) (L2.K22.def_triple_fault KX G ?n10 ?l10 ?c10 ?k10) (L2.K22.def_moved_fault KX G ?n11 ?l11 ?c11 ?k11) (L2.K22.def_again_fault KX G ?n12 ?l12 ?c12 ?k12) (L2.K22.def_turned_fault KX G ?n13 ?l13 ?c13 ?k13) (L2.K22.def_law_fault KX G ?n14 ?l14 ?c14 ?k14) (L2.K22.def_is_table_in KX G ?n15 ?l15 ?c15 ?k15) (L2.K22.def_check_table KX G ?n16 ?l16 ?c16 ?k16) (L2.K22.def_value_in KX G ?n17 ?l17 ?c17 ?k17) (L2.K22.def_choices KX G ?n18 ?l18 ?c18 ?k18) (L2.K22.def_failing_in KX G ?n19 ?l19 ?c19 ?k19) (L2.K22.def_check_identity KX G ?n20 ?l20 ?c20 ?k20) (L2.K22.def_holds_in KX G ?n21 ?l21 ?c21 ?k21) (L2.K22.def_failing KX G ?n22 ?l22 ?c22 ?k22) (L2.K22.def__law_mixed KX G ?n23 ?l23 ?c23 ?k23) (L2.K22.def__law_source KX G ?n24 ?l24 ?c24 ?k24) (L2.K22.def__law_draw KX G ?n25 ?l25 ?c25 ?k25) (L2.K22.def__law_term KX G ?n26 ?l26 ?c26 ?k26) (L2.K22.def__law_same_row KX G ?n27 ?l27 ?c27 ?k27) (L2.K22.def__law_table KX G ?n28 ?l28 ?c28 ?k28) (L2.K22.def__law_round KX G ?n29 ?l29 ?c29 ?k29) (L2.K22.def__law_value KX G ?n30 ?l30 ?c30 ?k30) (L2.K22.def__law_letters KX G ?n31 ?l31 ?c31 ?k31) (L2.K22.def__law_choices KX G ?n32 ?l32 ?c32 ?k32) (L2.K22.def__law_due KX G ?n33 ?l33 ?c33 ?k33) (L2.K22.def__law_told KX G ?n34 ?l34 ?c34 ?k34) (L2.K22.def__law_held KX G ?n35 ?l35 ?c35 ?k35) (L2.K22.def__law_errors KX G ?n36 ?l36 ?c36 ?k36) (L2.K22.def_law KX G ?n37 ?l37 ?c37 ?k37) ?z0 ?z1 ?z2 ?z3 ?z4 ?z5 ?z6 ?z7 ?z8 ?z9 ?z10 ?z11 ?z12 (L2.K22.glb_POWERS KX G ?g_POWERS ?o_POWERS) (L2.K22.glb_NONE KX G ?g_NONE ?o_NONE) (L2.K22.glb_MOST_LOOKED KX G ?g_MOST_LOOKED) (L2.K22.glb_MOST_LETTERS KX G ?g_MOST_LETTERS) (L2.K22.errs KX G ?aC0 ?aC1 ?aC2 ?xL0 ?xL1 ?xL2 ?iC0 ?iC1 ?iC2 ?li ?ci ?ki ?ti ?vV ?nV ?eV ?cg ?ct ?sa0 ?ga0 ?gg0 ?nv0 ?ca0 ?kC0 ?eC0 ?vC0 ?tC0 ?hC0 ?yC0 ?mC0 ?zC0 ?sa1 ?ga1 ?gg1 ?nv1 ?ca1 ?kC1 ?eC1 ?vC1 ?tC1 ?hC1 ?yC1 ?mC1 ?zC1 ?sa2 ?ga2 ?gg2 ?nv2 ?ca2 ?kC2 ?eC2 ?vC2 ?tC2 ?hC2 ?yC2 ?mC2 ?zC2 ?s0_0 ?s0_1 ?s0_2 ?s1_0 ?s1_1 ?s1_2 ?s2_0 ?s2_1 ?s2_2)
    (case n0 => k_is)
    (case l0 => k_is)
    (case c0 => k_is)
    (case k0 => k_is)
    (case n1 => k_is)
    (case l1 => k_is)
    (case c1 => k_is)
    (case k1 => k_is)
    (case n2 => k_is)
    (case l2 => k_is)
    (case c2 => k_is)
    (case k2 => k_is)
    (case n3 => k_is)
    (case l3 => k_is)
    (case c3 => k_is)
    (case k3 => k_is)
    (case n4 => k_is)
    (case l4 => k_is)
    (case c4 => k_is)
    (case k4 => k_is)
    (case n5 => k_is)
    (case l5 => k_is)
    (case c5 => k_is)
    (case k5 => k_is)
    (case n6 => k_is)
    (case l6 => k_is)
    (case c6 => k_is)
    (case k6 => k_is)
    (case n7 => k_is)
    (case l7 => k_is)
    (case c7 => k_is)
    (case k7 => k_is)
    (case n8 => k_is)
    (case l8 => k_is)
    (case c8 => k_is)
    (case k8 => k_is)
    (case n9 => k_is)
    (case l9 => k_is)
    (case c9 => k_is)
    (case k9 => k_is)
    (case n10 => k_is)
    (case l10 => k_is)
    (case c10 => k_is)
    (case k10 => k_is)
    (case n11 => k_is)
    (case l11 => k_is)
    (case c11 => k_is)
    (case k11 => k_is)
    (case n12 => k_is)
    (case l12 => k_is)
    (case c12 => k_is)
    (case k12 => k_is)
    (case n13 => k_is)
    (case l13 => k_is)
    (case c13 => k_is)
    (case k13 => k_is)
    (case n14 => k_is)
    (case l14 => k_is)
    (case c14 => k_is)
    (case k14 => k_is)
    (case n15 => k_is)
    (case l15 => k_is)
    (case c15 => k_is)
    (case k15 => k_is)
    (case n16 => k_is)
    (case l16 => k_is)
    (case c16 => k_is)
    (case k16 => k_is)
    (case n17 => k_is)
    (case l17 => k_is)
    (case c17 => k_is)
    (case k17 => k_is)
    (case n18 => k_is)
    (case l18 => k_is)
    (case c18 => k_is)
    (case k18 => k_is)
    (case n19 => k_is)
    (case l19 => k_is)
    (case c19 => k_is)
    (case k19 => k_is)
    (case n20 => k_is)
    (case l20 => k_is)
    (case c20 => k_is)
    (case k20 => k_is)
    (case n21 => k_is)
    (case l21 => k_is)
    (case c21 => k_is)
    (case k21 => k_is)
    (case n22 => k_is)
    (case l22 => k_is)
    (case c22 => k_is)
    (case k22 => k_is)
    (case n23 => k_is)
    (case l23 => k_is)
    (case c23 => k_is)
    (case k23 => k_is)
    (case n24 => k_is)
    (case l24 => k_is)
    (case c24 => k_is)
    (case k24 => k_is)
    (case n25 => k_is)
    (case l25 => k_is)
    (case c25 => k_is)
    (case k25 => k_is)
    (case n26 => k_is)
    (case l26 => k_is)
    (case c26 => k_is)
    (case k26 => k_is)
    (case n27 => k_is)
    (case l27 => k_is)
    (case c27 => k_is)
    (case k27 => k_is)
    (case n28 => k_is)
    (case l28 => k_is)
    (case c28 => k_is)
    (case k28 => k_is)
    (case n29 => k_is)
    (case l29 => k_is)
    (case c29 => k_is)
    (case k29 => k_is)
    (case n30 => k_is)
    (case l30 => k_is)
    (case c30 => k_is)
    (case k30 => k_is)
    (case n31 => k_is)
    (case l31 => k_is)
    (case c31 => k_is)
    (case k31 => k_is)
    (case n32 => k_is)
    (case l32 => k_is)
    (case c32 => k_is)
    (case k32 => k_is)
    (case n33 => k_is)
    (case l33 => k_is)
    (case c33 => k_is)
    (case k33 => k_is)
    (case n34 => k_is)
    (case l34 => k_is)
    (case c34 => k_is)
    (case k34 => k_is)
    (case n35 => k_is)
    (case l35 => k_is)
    (case c35 => k_is)
    (case k35 => k_is)
    (case n36 => k_is)
    (case l36 => k_is)
    (case c36 => k_is)
    (case k36 => k_is)
    (case n37 => k_is)
    (case l37 => k_is)
    (case c37 => k_is)
    (case k37 => k_is)
    (case z0 => k_is)
    (case z1 => k_is)
    (case z2 => k_is)
    (case z3 => k_is)
    (case z4 => k_is)
    (case z5 => k_is)
    (case z6 => k_is)
    (case z7 => k_is)
    (case z8 => k_is)
    (case z9 => k_is)
    (case z10 => k_is)
    (case z11 => k_is)
    (case z12 => k_is)
    (case g_POWERS => k_is)
    (case o_POWERS => k_is)
    (case g_NONE => k_is)
    (case o_NONE => k_is)
    (case g_MOST_LOOKED => k_is)
    (case g_MOST_LETTERS => k_is)
    (case aC0 => k_is)
    (case aC1 => k_is)
    (case aC2 => k_is)
    (case xL0 => k_is)
    (case xL1 => k_is)
    (case xL2 => k_is)
    (case iC0 => k_is)
    (case iC1 => k_is)
    (case iC2 => k_is)
    (case li => k_is)
    (case ci => k_is)
    (case ki => k_is)
    (case ti => k_is)
    (case vV => k_is)
    (case nV => k_is)
    (case eV => k_is)
    (case cg => k_is)
    (case ct => k_is)
    (case sa0 => k_is)
    (case ga0 => k_is)
    (case gg0 => k_is)
    (case nv0 => k_is)
    (case ca0 => k_is)
    (case kC0 => k_is)
    (case eC0 => k_is)
    (case vC0 => k_is)
    (case tC0 => k_is)
    (case hC0 => k_is)
    (case yC0 => k_is)
    (case mC0 => k_is)
    (case zC0 => k_is)
    (case sa1 => k_is)
    (case ga1 => k_is)
    (case gg1 => k_is)
    (case nv1 => k_is)
    (case ca1 => k_is)
    (case kC1 => k_is)
    (case eC1 => k_is)
    (case vC1 => k_is)
    (case tC1 => k_is)
    (case hC1 => k_is)
    (case yC1 => k_is)
    (case mC1 => k_is)
    (case zC1 => k_is)
    (case sa2 => k_is)
    (case ga2 => k_is)
    (case gg2 => k_is)
    (case nv2 => k_is)
    (case ca2 => k_is)
    (case kC2 => k_is)
    (case eC2 => k_is)
    (case vC2 => k_is)
    (case tC2 => k_is)
    (case hC2 => k_is)
    (case yC2 => k_is)
    (case mC2 => k_is)
    (case zC2 => k_is)
    (case s0_0 => first | rfl | k_is)
    (case s0_1 => first | rfl | k_is)
    (case s0_2 => first | rfl | k_is)
    (case s1_0 => first | rfl | k_is)
    (case s1_1 => first | rfl | k_is)
    (case s1_2 => first | rfl | k_is)
    (case s2_0 => first | rfl | k_is)
    (case s2_1 => first | rfl | k_is)
    (case s2_2 => first | rfl | k_is)
#print axioms PySem.Challenge.cw_scatterrows_k22_whole_identities_in_tabl_holds
