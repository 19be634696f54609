import PyProof.Rows.All
import Wide.All
import OpenK.AllK
import Wide.FinOn
import HandS.ForMost
import HandS.IsInst
import HandS.Style
import HandS.TupAny
import HandS.TupMul
import HandS.Zip
import HandS.Flow
import HandS.Wide
import HandS.Conv
import HandS.SortInts
import HandS.Deep
import HandS.Rev
import HandS.Strs
import HandS.SetFor
import HandS.More
import KE.KDictKeyed
import KE.KDictWalk
import KE.KDictPairs
import HandS.TupLen
import HandS.WordsDict
import KE.SortData
import KE.DataMinMax
import HandS.DeepEq
import KE.KTupSum
import KE.GoesMore
import KE.GoesEnum
import HandS.Exc
import HandS.CallSlots
import HandS.ExcInit
import HandS.ExcOwn
import HandS.ExcField
import HandS.ExcIs
import HandS.TryMany
import HandS.Nested
import HandS.EndTab
import HandS.Text
import HandS.Codes
import KE.KDictDisplayH
import HandS.SortKw
import HandS.TupSets
import HandS.Small
import KE.KExcIs
import HandS.ExcValue
import HandS.Defaults
import PySem.Challenge.RW_pactboards_k54_known_tables
set_option Elab.async false
set_option linter.all false
set_option maxRecDepth 100000
set_option maxHeartbeats 4000000
/-! Core, part A: values by content (tuples) and by reference (what may change), the code in slots, its evaluator. -/
namespace Py
open PySem

/-- a value: tuples by content; lists, dicts, instances by their place in the own heap -/
inductive D where
  | non | bl (b : Bool) | int (i : Int) | str (x : Str) | tup (ds : List D) | ref (n : Nat)
  /-- a list that nobody changes (the script) -/
  | rl (ds : List D)
  /-- a lambda handed to the def that runs -/
  | fnv
  deriving Inhabited
mutual
def D.eqB : D → D → Bool
  | .non, .non => true
  | .bl a, .bl b => a == b
  | .int a, .int b => a == b
  | .str a, .str b => a == b
  | .tup a, .tup b => D.eqBs a b
  | .ref a, .ref b => a == b
  | .rl a, .rl b => D.eqBs a b
  | .fnv, .fnv => true
  | _, _ => false
def D.eqBs : List D → List D → Bool
  | [], [] => true
  | a :: as, b :: bs => D.eqB a b && D.eqBs as bs
  | _, _ => false
end
mutual
theorem D.eqB_iff : ∀ a b : D, D.eqB a b = true ↔ a = b
  | .non, b => by cases b <;> simp [D.eqB]
  | .bl x, b => by cases b <;> simp [D.eqB]
  | .int x, b => by cases b <;> simp [D.eqB]
  | .str x, b => by cases b <;> simp [D.eqB]
  | .tup x, b => by cases b <;> simp [D.eqB, D.eqBs_iff x]
  | .ref x, b => by cases b <;> simp [D.eqB]
  | .rl x, b => by cases b <;> simp [D.eqB, D.eqBs_iff x]
  | .fnv, b => by cases b <;> simp [D.eqB]
theorem D.eqBs_iff : ∀ a b : List D, D.eqBs a b = true ↔ a = b
  | [], b => by cases b <;> simp [D.eqBs]
  | x :: xs, b => by cases b <;> simp [D.eqBs, D.eqB_iff x, D.eqBs_iff xs]
end
instance : DecidableEq D := fun a b => decidable_of_iff _ (D.eqB_iff a b)

inductive O where
  | lst (ds : List D)
  /-- keys are ints and texts -/
  | dct (kvs : List (D × D))
  /-- keys are tuples of ints, None, tuples -/
  | dcn (kvs : List (D × D))
  /-- an exception: its class, its fields -/
  | xc (c : Str) (fs : List (Str × D))
  deriving DecidableEq, Inhabited

abbrev Hh := List O
abbrev St := List (Option D)

/-- a value, or a list just made that nothing holds yet -/
inductive RV where
  | val (d : D) | raw (ds : List D)
  deriving DecidableEq, Inhabited

inductive Out (α : Type) where
  | ok (a : α) (h : Hh) | exc (c : Str) (fs : List (Str × D)) (h : Hh) | fail

def bnd {α β : Type} (o : Out α) (f : α → Hh → Out β) : Out β := match o with
  | .ok a h => f a h
  | .exc c d h => .exc c d h
  | .fail => .fail
/-- .. where nothing may be raised -/
def bndF {α β : Type} (o : Out α) (f : α → Hh → Out β) : Out β := match o with
  | .ok a h => f a h
  | _ => .fail
@[simp] theorem bnd_ok {α β : Type} (a : α) (h : Hh) (f : α → Hh → Out β) : bnd (.ok a h) f = f a h := rfl
@[simp] theorem bnd_exc {α β : Type} (c : Str) (d : List (Str × D)) (h : Hh) (f : α → Hh → Out β) : bnd (.exc c d h) f = .exc c d h := rfl
@[simp] theorem bnd_fail {α β : Type} (f : α → Hh → Out β) : bnd .fail f = .fail := rfl

/-- what is handed on gets a place -/
def mat : RV → Hh → Out D
  | .val d, h => .ok d h
  | .raw ds, h => .ok (.ref h.length) (h ++ [.lst ds])
@[simp] theorem mat_val (d : D) (h : Hh) : mat (.val d) h = .ok d h := rfl
@[simp] theorem mat_raw (ds : List D) (h : Hh) : mat (.raw ds) h = .ok (.ref h.length) (h ++ [.lst ds]) := rfl

def SZ : Nat := 16777216

/-! ### the code -/
inductive Bf where
  | len | int | str | tuple | list | max | min | sum | all | any | abs | bool | sorted
  deriving DecidableEq
/-- methods of a list without arguments; methods with one -/
inductive M0 where
  | pop | rev | clr
  deriving DecidableEq
/-- methods of a text with one argument -/
inductive SM where
  | join | split | part
  deriving DecidableEq
inductive M1 where
  | extend | index | popat
  deriving DecidableEq
/-- the built-in classes that isinstance is asked of -/
inductive Ty where
  | int | bool | tuple | list | str | dict
  deriving DecidableEq

mutual
inductive E where
  | var (i : Nat) | non | bl (b : Bool) | int (i : Int) | str (x : Str)
  | bin (o : Operator) (a b : E) | neg (a : E) | cmp (o : CmpOp) (a b : E) | cmp2 (o p : CmpOp) (a b c : E)
  | and (a b : E) | or (a b : E) | not (a : E) | ifx (t a b : E)
  | tup (es : Es) | lst (es : Es) | dct (ks : List D) (vs : Es) | dnew (t : Bool) | d1 (k v : E) | d2 (k v k2 v2 : E) | best (mx : Bool) (a : E) | bestd (mx : Bool) (a d : E) | lrv (a : E) | trv (a : E) | sset (a : E) | lset (a : E) | lrg (a : E) | mkd (a : E) | dget (a k x : E) | lks (a : E) | mxv (a : E) | dcl (a : E) | sm (m : SM) (a b : E) | sin (n : Bool) (a b : E) | glob (x : Str)
  | ix (a i : E) | slc (a : E) (lo hi : Eo) | revs (a : E)
  | call (f : Str) (es : Es) | callk (f : Str) (es : Es) (ks : List Str) (vs : Es)
  | blt (f : Bf) (es : Es) | m0 (m : M0) (o : E) | m1 (m : M1) (o e : E) | isi (a : E) (t : Ty) | app (o e : E) | calll (f : Str) (a b : E) (js : List Nat) | wnt (i : Nat) (es : Es) | mkx (c : Str) (es : Es) | isx (a : E) (cs : List Str) | fld (a : E) (f : Str)
  | lc (own : List Nat) (it : I) (g : G) (c : Eo) (e : E)
  deriving DecidableEq
inductive Es where
  | nil | cons (e : E) (es : Es)
  deriving DecidableEq
inductive Eo where
  | no | yes (e : E)
  deriving DecidableEq
inductive I where
  | seq (e : E) | rng1 (e : E) | rng2 (a b : E) | enum (e : E) | zip (a b : E) | rev (e : E) | keys (e : E) | items (e : E) | txt (e : E)
  deriving DecidableEq
inductive G where
  | name (i : Nat) | tup (gs : Gs) | sub (o i : E)
  deriving DecidableEq
inductive Gs where
  | nil | cons (g : G) (gs : Gs)
  deriving DecidableEq
end

mutual
inductive S where
  | asg (g : G) (e : E) | par (i j : Nat) (a b : E) | aug (i : Nat) (sub : Bool) (e : E) | expr (e : E) | ret (e : E) | retN
  | ifs (c : E) (a b : Ss) | whl (c : E) (b : Ss) | for_ (it : I) (g : G) (b : Ss)
  | brk | cnt | pas | nev | raise (c : Str) (es : Es) | try_ (b : Ss) (hs : Hs)
  deriving DecidableEq
inductive Ss where
  | nil | cons (s : S) (ss : Ss)
  deriving DecidableEq
/-- except clauses: the class, the name's slot, the suite -/
inductive Hs where
  | nil | cons (c : Str) (i : Option Nat) (b : Ss) (hs : Hs)
  deriving DecidableEq
end
/-- a def: how many parameters, how many slots (parameters first), its body -/
structure Fn where
  ps : Nat
  ns : Nat
  dfl : List D
  body : Ss
  /-- the lambda that its last parameter holds (a def that is called with that alone) -/
  lam : Option Str
  deriving DecidableEq

/-! ### the program's exception classes -/
def xfld (c : Str) : Option Str := ([("NoTable", "at"), ("NoHouse", "place"), ("NoText", "row"), ("TooMany", "most"), ("NotMeek", "board")] : List (Str × Str)).lookup c
def xfs (c : Str) (ds : List D) : Option (List (Str × D)) := match xfld c, ds with
  | some f, [d] => some [(f, d)]
  | none, [] => some []
  | _, _ => none
/-- whether an exception of class c is one of class k -/
def subX (c k : Str) : Bool := decide (c = k) || decide (k = "PactError") || decide (k = "ValueError")
def xIn (cs : List Str) : Option Str → Bool
  | some c => cs.any (subX c)
  | none => false
/-! ### keys, what a dict holds -/
def isLeaf : D → Bool
  | .int _ => true
  | .str _ => true
  | _ => false
def keyD : Nat → D → Bool
  | _, .int _ => true
  | _, .non => true
  | n + 1, .tup ds => ds.all (keyD n)
  | _, _ => false
def isKey : D → Bool
  | .tup ds => ds.all (keyD 7)
  | _ => false
def dlook (kvs : List (D × D)) (k : D) : Option D := (kvs.find? fun p => decide (p.1 = k)).map (·.2)
def dput (kvs : List (D × D)) (k v : D) : List (D × D) :=
  if (dlook kvs k).isSome = true then kvs.map (fun p => if p.1 = k then (p.1, v) else p) else kvs ++ [(k, v)]
/-- a dict's entries; true: its keys are tuples -/
def dOf (h : Hh) : RV → Option (Bool × List (D × D))
  | .val (.ref k) => match h[k]? with
    | some (.dct kvs) => some (false, kvs)
    | some (.dcn kvs) => some (true, kvs)
    | _ => none
  | _ => none
def okKey (t : Bool) (d : D) : Bool := if t = true then isKey d else isLeaf d
/-! ### the order of ints and of tuples of such -/
mutual
/-- two that can be compared, place by place -/
def alk : D → D → Bool
  | .int _, .int _ => true
  | .tup xs, .tup ys => alks xs ys
  | _, _ => false
def alks : List D → List D → Bool
  | x :: xs, y :: ys => alk x y && alks xs ys
  | _, _ => true
end
mutual
def ltD : D → D → Bool
  | .int i, .int j => decide (i < j)
  | .tup xs, .tup ys => ltDs xs ys
  | _, _ => false
def ltDs : List D → List D → Bool
  | x :: xs, y :: ys => if D.eqB x y = true then ltDs xs ys else ltD x y
  | [], _ :: _ => true
  | _, _ => false
end
mutual
/-- ints, and tuples of such with an item at least (outermost), no deeper than n -/
def srtI : Nat → D → Bool
  | _, .int _ => true
  | n + 1, .tup xs => srtIs n xs
  | _, _ => false
def srtIs : Nat → List D → Bool
  | _, [] => true
  | n, x :: xs => srtI n x && srtIs n xs
end
def isIntD : D → Bool
  | .int _ => true
  | _ => false
def isTupD : D → Bool
  | .tup (_ :: _) => true
  | _ => false
def sortable (ds : List D) : Bool := ds.all (srtI 8) && ds.all (fun a => ds.all (alk a)) && (ds.all isIntD || ds.all isTupD) && decide (ds.length ≤ SZ)
def ins (d : D) : List D → List D
  | [] => [d]
  | e :: es => if ltD e d = true then e :: ins d es else d :: e :: es
def isrt : List D → List D
  | [] => []
  | d :: ds => ins d (isrt ds)
/-- the first of the least -/
def minD : D → List D → D
  | d, [] => d
  | d, e :: es => minD (if ltD e d = true then e else d) es
def maxD : D → List D → D
  | d, [] => d
  | d, e :: es => maxD (if ltD d e = true then e else d) es
/-- what min and max take: ints, tuples of such, each comparable with each -/
def bestOk (ds : List D) : Bool := ds.all (srtI 8) && ds.all (fun a => ds.all (alk a))
/-- ints, each once, rising -/
def insI (i : Int) : List Int → List Int
  | [] => [i]
  | j :: js => if j < i then j :: insI i js else if i = j then j :: js else i :: j :: js
def setI : List Int → List Int
  | [] => []
  | i :: is => insI i (setI is)

/-! ### places in sequences -/
def cut (ds : List D) (lo hi : Option Int) : List D := (ds.drop (HT.sIx ds.length 0 lo)).take (HT.sIx ds.length ds.length hi - HT.sIx ds.length 0 lo)

/-! ### what == sees -/
def allSome {α β : Type} (f : α → Option β) : List α → Option (List β)
  | [] => some []
  | a :: as => match f a, allSome f as with
    | some b, some bs => some (b :: bs)
    | _, _ => none
def toP (h : Hh) : Nat → D → Option PyData
  | _, .non => some .none
  | _, .bl b => some (.bool b)
  | _, .int i => some (.int i)
  | _, .str x => if PyData.canLay0 (.str x) then some (.str x) else none
  | n + 1, .tup ds => (allSome (toP h n) ds).map .tuple
  | n + 1, .rl ds => (allSome (toP h n) ds).map .list
  | n + 1, .ref k => match h[k]? with
    | some (.lst ds) => (allSome (toP h n) ds).map .list
    | _ => none
  | 0, .tup _ => none
  | 0, .ref _ => none
  | 0, .rl _ => none
  | _, .fnv => none
def toPR (h : Hh) : RV → Option PyData
  | .val d => toP h 41 d
  | .raw ds => (allSome (toP h 40) ds).map .list

/-! ### what may be walked, as items -/
def seqOf (h : Hh) : RV → Option (List D)
  | .raw ds => some ds
  | .val (.tup ds) => some ds
  | .val (.rl ds) => some ds
  | .val (.ref k) => match h[k]? with
    | some (.lst ds) => some ds
    | _ => none
  | _ => none
/-- .. a list alone -/
def lstOf (h : Hh) : RV → Option (List D)
  | .raw ds => some ds
  | .val (.ref k) => match h[k]? with
    | some (.lst ds) => some ds
    | _ => none
  | _ => none

/-- a list, whoever holds it -/
def lsOf (h : Hh) : RV → Option (List D)
  | .raw ds => some ds
  | .val (.rl ds) => some ds
  | .val (.ref k) => match h[k]? with
    | some (.lst ds) => some ds
    | _ => none
  | _ => none
/-! ### truth -/
def tru (h : Hh) : RV → Option Bool
  | .val .non => some false
  | .val (.bl b) => some b
  | .val (.int i) => some (i != 0)
  | .val (.str x) => if x.length ≤ SZ then some ((x.length : Int) != 0) else none
  | .val (.tup ds) => some (!ds.isEmpty)
  | .val (.rl ds) => some (!ds.isEmpty)
  | .val .fnv => none
  | .raw ds => some (!ds.isEmpty)
  | .val (.ref k) => match h[k]? with
    | some (.lst ds) => some (!ds.isEmpty)
    | _ => none

/-! ### operators -/
def okMul (i j : Int) : Bool := (decide (-(2 ^ 64) < i) && decide (i < 2 ^ 64)) || (decide (-(2 ^ 64) < j) && decide (j < 2 ^ 64))
def opBin (o : Operator) (x y : RV) (h : Hh) : Out RV :=
  match x, y with
  | .val (.int i), .val (.int j) => match o with
    | .Add => .ok (.val (.int (i + j))) h
    | .Sub => .ok (.val (.int (i - j))) h
    | .Mult => if okMul i j = true then .ok (.val (.int (i * j))) h else .fail
    | .Mod => if 0 < j then .ok (.val (.int (i % j))) h else .fail
    | .FloorDiv => if 0 < j ∧ j < 1073741824 then .ok (.val (.int (i / j))) h else .fail
    | .Pow => if 0 ≤ j ∧ j ≤ 1000000 ∧ i.natAbs < 2 ^ 64 then .ok (.val (.int (i ^ j.toNat))) h else .fail
    | .LShift => if 0 ≤ j ∧ j ≤ 1000000 ∧ i.natAbs < 2 ^ 64 then .ok (.val (.int (i * 2 ^ j.toNat))) h else .fail
    | .RShift => if 0 ≤ j then .ok (.val (.int (i / 2 ^ j.toNat))) h else .fail
    | .BitAnd => .ok (.val (.int (Builtin.bitAnd i j))) h
    | _ => .fail
  | .val (.str a), .val (.str b) => match o with
    | .Add => if a.length + b.length ≤ SZ then .ok (.val (.str (a ++ b))) h else .fail
    | _ => .fail
  | .val (.tup a), .val (.tup b) => match o with
    | .Add => if a.length + b.length ≤ SZ then .ok (.val (.tup (a ++ b))) h else .fail
    | _ => .fail
  | .val (.tup a), .val (.int k) => match o with
    | .Mult => if a ≠ [] ∧ 0 ≤ k ∧ k ≤ 1000 ∧ a.length ≤ 1000 then .ok (.val (.tup (List.replicate k.toNat a).flatten)) h else .fail
    | _ => .fail
  | x, .val (.int k) => match o, lstOf h x with
    | .Mult, some a => if -(2 ^ 63) ≤ k ∧ k < 2 ^ 63 ∧ a.length * k.toNat ≤ SZ then .ok (.raw (List.replicate k.toNat a).flatten) h else .fail
    | _, _ => .fail
  | x, y => match lstOf h x, lstOf h y, o with
    | some a, some b, .Add => if a.length + b.length ≤ SZ then .ok (.raw (a ++ b)) h else .fail
    | _, _, _ => .fail

/-- each of the pairs there too, alike by F -/
def HitD (F : D → D → Bool) (xs ys : List (D × D)) : Bool := decide (xs.length = ys.length) && xs.all fun p => match dlook ys p.1 with
  | some v => F p.2 v
  | none => false
def dR (h : Hh) (F : D → D → Bool) (k m : Nat) : Bool := match h[k]?, h[m]? with
  | some (.lst xs), some (.lst ys) => decide (xs.length = ys.length) && (xs.zip ys).all fun p => F p.1 p.2
  | some (.dct xs), some (.dct ys) => HitD F xs ys
  | some (.dcn xs), some (.dcn ys) => HitD F xs ys
  | _, _ => false
/-- alike, of nesting below n: data, lists, dicts -/
def dE (h : Hh) : Nat → D → D → Bool
  | 0, _, _ => false
  | n + 1, d, e => (match toP h 41 d, toP h 41 e with
      | some a, some b => PyData.eqv a b
      | _, _ => false) || (match d, e with
      | .ref k, .ref m => dR h (dE h n) k m
      | _, _ => false)
def isDc (h : Hh) (k : Nat) : Bool := match h[k]? with
  | some (.dct _) => true
  | some (.dcn _) => true
  | _ => false
def dER (ne : Bool) (h : Hh) : RV → RV → Bool
  | .val (.ref k), .val (.ref m) => dR h (dE h 20) k m && (!ne || isDc h k)
  | _, _ => false
def opCmp (o : CmpOp) (x y : RV) (h : Hh) : Out RV :=
  match o with
  | .Eq => match toPR h x, toPR h y with
    | some a, some b => .ok (.val (.bl (PyData.eqv a b))) h
    | _, _ => if dER false h x y = true then .ok (.val (.bl true)) h else .fail
  | .NotEq => match toPR h x, toPR h y with
    | some a, some b => .ok (.val (.bl (!PyData.eqv a b))) h
    | _, _ => if dER true h x y = true then .ok (.val (.bl false)) h else .fail
  | .Lt => match x, y with
    | .val (.int i), .val (.int j) => .ok (.val (.bl (decide (i < j)))) h
    | _, _ => .fail
  | .LtE => match x, y with
    | .val (.int i), .val (.int j) => .ok (.val (.bl (decide (i ≤ j)))) h
    | _, _ => .fail
  | .Gt => match x, y with
    | .val (.int i), .val (.int j) => .ok (.val (.bl (decide (j < i)))) h
    | _, _ => .fail
  | .GtE => match x, y with
    | .val (.int i), .val (.int j) => .ok (.val (.bl (decide (j ≤ i)))) h
    | _, _ => .fail
  | .Is => match x, y with
    | .val d, .val .non => .ok (.val (.bl (decide (d = .non)))) h
    | .val (.bl a), .val (.bl b) => .ok (.val (.bl (decide (a = b)))) h
    | _, _ => .fail
  | .IsNot => match x, y with
    | .val d, .val .non => .ok (.val (.bl (!decide (d = .non)))) h
    | .val (.bl a), .val (.bl b) => .ok (.val (.bl (!decide (a = b)))) h
    | _, _ => .fail
  | .In => match dOf h y with
    | some (t, kvs) => match x with
      | .val d => if okKey t d = true then .ok (.val (.bl (dlook kvs d).isSome)) h else .fail
      | _ => .fail
    | none => match toPR h x, toPR h y with
      | some d, some (.list ds) => .ok (.val (.bl (ds.any fun z => PyData.eqv z d))) h
      | some d, some (.tuple ds) => .ok (.val (.bl (ds.any fun z => PyData.eqv z d))) h
      | _, _ => .fail
  | .NotIn => match dOf h y with
    | some (t, kvs) => match x with
      | .val d => if okKey t d = true then .ok (.val (.bl (!(dlook kvs d).isSome))) h else .fail
      | _ => .fail
    | none => match toPR h x, toPR h y with
      | some d, some (.list ds) => .ok (.val (.bl (!ds.any fun z => PyData.eqv z d))) h
      | some d, some (.tuple ds) => .ok (.val (.bl (!ds.any fun z => PyData.eqv z d))) h
      | _, _ => .fail

def opIx (x y : RV) (h : Hh) : Out RV :=
  match dOf h x with
  | some (t, kvs) => match y with
    | .val k => if okKey t k = true then match dlook kvs k with
      | some d => .ok (.val d) h
      | none => .fail else .fail
    | _ => .fail
  | none => match y with
  | .val (.int i) => match x with
    | .val (.str z) => match L2.atI z.cps.toList i with
      | some c => if z.length ≤ SZ then .ok (.val (.str ⟨#[c]⟩)) h else .fail
      | none => .fail
    | x => match seqOf h x with
      | some ds => match L2.atI ds i with
        | some d => .ok (.val d) h
        | none => .fail
      | none => .fail
  | _ => .fail

def opSlc (x : RV) (lo hi : Option Int) (h : Hh) : Out RV :=
  match x with
  | .val (.tup ds) => .ok (.val (.tup (cut ds lo hi))) h
  | x => match lsOf h x with
    | some ds => .ok (.raw (cut ds lo hi)) h
    | none => .fail

def asInts : List D → Option (List Int) := allSome fun d => match d with | .int i => some i | _ => none
def asTups : List D → Option (List (List Int)) := allSome fun d => match d with
  | .tup es => asInts es
  | _ => none
/-- each once -/
def ddT : List (List Int) → List (List Int)
  | [] => []
  | k :: ks => if k ∈ ks then ddT ks else k :: ddT ks
/-- pairs, their firsts keys -/
def asPrs : List D → Option (List (D × D)) := allSome fun d => match d with
  | .tup [k, v] => if isKey k = true then some (k, v) else none
  | _ => none
def asBls : List D → Option (List Bool) := allSome fun d => match d with | .bl b => some b | _ => none
def asStrs : List D → Option (List Str) := allSome fun d => match d with | .str x => some x | _ => none
def maxI : List Int → Int
  | [] => 0
  | [a] => a
  | a :: as => let m := maxI as; if m < a then a else m
def minI : List Int → Int
  | [] => 0
  | [a] => a
  | a :: as => let m := minI as; if a < m then a else m

def opB (f : Bf) (rs : List RV) (h : Hh) : Out RV :=
  match f, rs with
  | .len, [.val (.str z)] => if z.length ≤ SZ then .ok (.val (.int z.length)) h else .fail
  | .len, [x] => match dOf h x with
   | some (_, kvs) => .ok (.val (.int kvs.length)) h
   | none => match seqOf h x with
    | some ds => .ok (.val (.int ds.length)) h
    | none => .fail
  | .sorted, [x] => match lsOf h x with
    | some ds => if sortable ds = true then .ok (.raw (isrt ds)) h else .fail
    | none => match dOf h x with
      | some (false, kvs) => match asInts (kvs.map (·.1)) with
        | some ns => if ns.length < 64 then .ok (.raw ((setI ns).map .int)) h else .fail
        | none => .fail
      | _ => .fail
  | .int, [.val (.int i)] => .ok (.val (.int i)) h
  | .int, [.val (.bl b)] => .ok (.val (.int (if b then 1 else 0))) h
  | .int, [.val (.str a)] => match PySem.intText? a with
    | some n => if a.length ≤ 640 then .ok (.val (.int n)) h else .fail
    | none => .fail
  | .abs, [.val (.int i)] => .ok (.val (.int (if i < 0 then -i else i))) h
  | .str, [.val (.int i)] => if i.natAbs.log2 < 1920 then .ok (.val (.str (toString i))) h else .fail
  | .tuple, [x] => match seqOf h x with
    | some ds => .ok (.val (.tup ds)) h
    | none => .fail
  | .list, [x] => match seqOf h x with
    | some ds => .ok (.raw ds) h
    | none => .fail
  | .max, [.val (.int i), .val (.int j)] => .ok (.val (.int (if j > i then j else i))) h
  | .min, [.val (.int i), .val (.int j)] => .ok (.val (.int (if j < i then j else i))) h
  | .min, [.val (.tup i), .val (.tup j)] => if bestOk [.tup i, .tup j] = true then .ok (.val (minD (.tup i) [.tup j])) h else .fail
  | .max, [x] => match (lsOf h x).bind asInts with
    | some (n :: ns) => .ok (.val (.int (maxI (n :: ns)))) h
    | _ => .fail
  | .min, [x] => match (lsOf h x).bind asInts with
    | some (n :: ns) => .ok (.val (.int (minI (n :: ns)))) h
    | _ => .fail
  | .sum, [x] => match (seqOf h x).bind asInts with
    | some ns => .ok (.val (.int ns.sum)) h
    | _ => .fail
  | .all, [x] => match (lsOf h x).bind asBls with
    | some bs => .ok (.val (.bl (bs.all id))) h
    | _ => .fail
  | .any, [x] => match (lsOf h x).bind asBls with
    | some bs => .ok (.val (.bl (bs.any id))) h
    | _ => .fail
  | _, _ => .fail

def opM0 (m : M0) (x : RV) (h : Hh) : Out RV := match x with
  | .val (.ref k) => match h[k]? with
    | some (.lst ds) => match m with
      | .pop => match ds[ds.length - 1]? with
        | some d => .ok (.val d) (h.set k (.lst ds.dropLast))
        | none => .fail
      | .rev => .ok (.val .non) (h.set k (.lst ds.reverse))
      | .clr => .ok (.val .non) (h.set k (.lst []))
    | _ => .fail
  | _ => .fail
def opM1 (m : M1) (x y : RV) (h : Hh) : Out RV := match m with
  | .index => match toPR h x, toPR h y with
    | some (.list ds), some d => match ds.findIdx? (fun z => PyData.eqv z d) with
      | some j => .ok (.val (.int (j : Nat))) h
      | none => .fail
    | _, _ => .fail
  | .extend => match x, lstOf h y with
    | .val (.ref k), some es => match h[k]? with
      | some (.lst ds) => if ds.length + es.length ≤ SZ then .ok (.val .non) (h.set k (.lst (ds ++ es))) else .fail
      | _ => .fail
    | _, _ => .fail
  | .popat => match x, y with
    | .val (.ref k), .val (.int i) => match h[k]? with
      | some (.lst ds) => if 0 ≤ i ∧ i < 4611686018427387904 then match ds[i.toNat]? with
        | some d => .ok (.val d) (h.set k (.lst (ds.eraseIdx i.toNat)))
        | none => .fail
        else .fail
      | _ => .fail
    | _, _ => .fail
/-- the least (greatest) of a list; dd: the default, if any -/
def bestO (mx : Bool) (dd : List D) (o : Option (List D)) (h : Hh) : Out RV := match o with
  | some [] => match dd with
    | [d] => .ok (.val d) h
    | _ => .fail
  | some (d :: ds) => if bestOk (d :: ds) = true then .ok (.val (if mx = true then maxD d ds else minD d ds)) h else .fail
  | none => .fail
/-- o[i] = d -/
def opSet (x y : RV) (d : D) (h : Hh) : Option Hh := match x with
  | .val (.ref k) => match h[k]? with
    | some (.lst ds) => match y with
      | .val (.int j) => match L2.ixN ds.length j with
        | some m => some (h.set k (.lst (ds.set m d)))
        | none => none
      | _ => none
    | some (.dct kvs) => match y with
      | .val i => if isLeaf i = true ∧ kvs.length < SZ then some (h.set k (.dct (dput kvs i d))) else none
      | _ => none
    | some (.dcn kvs) => match y with
      | .val i => if isKey i = true ∧ kvs.length < SZ then some (h.set k (.dcn (dput kvs i d))) else none
      | _ => none
    | _ => none
  | _ => none
def mergeD (kvs ps : List (D × D)) : List (D × D) := ps.foldl (fun acc p => dput acc p.1 p.2) kvs

/-- dict(pairs) -/
def opMkd (x : RV) (h : Hh) : Out RV := match (lsOf h x).bind asPrs with
  | some ps => .ok (.val (.ref h.length)) (h ++ [.dcn (mergeD [] ps)])
  | none => .fail
/-- d.get(k, v) -/
def opDget (x y : RV) (d : D) (h : Hh) : Out RV := match dOf h x with
  | some (t, kvs) => match y with
    | .val k => if okKey t k = true then .ok (.val ((dlook kvs k).getD d)) h else .fail
    | _ => .fail
  | none => .fail
def opApp (x : RV) (d : D) (h : Hh) : Out RV := match x with
  | .val (.ref k) => match h[k]? with
    | some (.lst ds) => if ds.length < SZ then .ok (.val .non) (h.set k (.lst (ds ++ [d]))) else .fail
    | _ => .fail
  | _ => .fail

/-- what sort of value it is -/
inductive Tg where
  | non | bl | int | str | tup | lst | dct
  deriving DecidableEq
def tagOf (h : Hh) : RV → Option Tg
  | .val .non => some .non
  | .val (.bl _) => some .bl
  | .val (.int _) => some .int
  | .val (.str _) => some .str
  | .val (.tup _) => some .tup
  | .raw _ => some .lst
  | .val (.ref k) => match h[k]? with
    | some (.lst _) => some .lst
    | some (.dct _) => some .dct
    | some (.dcn _) => some .dct
    | _ => none
  | _ => none
/-- the class of an exception, or None itself -/
def xTag (h : Hh) : RV → Option (Option Str)
  | .val .non => some none
  | .val (.ref k) => match h[k]? with
    | some (.xc c _) => some (some c)
    | _ => none
  | _ => none
def opFld (x : RV) (f : Str) (h : Hh) : Out RV := match x with
  | .val (.ref k) => match h[k]? with
    | some (.xc _ fs) => match fs.lookup f with
      | some d => .ok (.val d) h
      | none => .fail
    | _ => .fail
  | _ => .fail
def isi : Tg → Ty → Bool
  | .int, .int => true
  | .bl, .int => true
  | .bl, .bool => true
  | .str, .str => true
  | .tup, .tuple => true
  | .lst, .list => true
  | .dct, .dict => true
  | _, _ => false

/-! ### the turns of a comprehension, of a loop -/
abbrev Gd := List (Nat × O)
def still (gs : Gd) (h : Hh) : Prop := ∀ p ∈ gs, h[p.1]? = some p.2
instance (gs : Gd) (h : Hh) : Decidable (still gs h) := by unfold still; infer_instance
def lcLoop (turn : D → Hh → Out (Option D)) (gs : Gd) : List D → List D → Hh → Out (List D)
  | [], acc, h => if still gs h then .ok acc h else .fail
  | d :: ds, acc, h => if still gs h then bndF (turn d h) fun r h => match r with
      | some v => if acc.length < SZ then lcLoop turn gs ds (acc ++ [v]) h else .fail
      | none => lcLoop turn gs ds acc h
    else .fail
/-- what captured names hold -/
def capD (st : St) : List Nat → Option (List D)
  | [] => some []
  | j :: js => match st[j]?, capD st js with
    | some (some d), some ds => some (d :: ds)
    | _, _ => none
def wipe (st : St) : List Nat → St
  | [] => st
  | v :: vs => (wipe st vs).set v none

/-- what is walked, and what must stay as it is meanwhile -/
def itSeq (x : RV) (h : Hh) : Option (List D × Gd) := match x with
  | .raw ds => some (ds, [])
  | .val (.tup ds) => some (ds, [])
  | .val (.rl ds) => some (ds, [])
  | .val (.ref k) => match h[k]? with
    | some (.lst ds) => some (ds, [(k, .lst ds)])
    | _ => none
  | _ => none
/-- a dict's keys, its pairs -/
def keysOf (x : RV) (h : Hh) : Option (List D × Gd) := match x with
  | .val (.ref k) => match h[k]? with
    | some (.dcn kvs) => some (kvs.map (·.1), [(k, .dcn kvs)])
    | _ => none
  | _ => none
def itemsOf (x : RV) (h : Hh) : Option (List D × Gd) := match x with
  | .val (.ref k) => match h[k]? with
    | some (.dcn kvs) => some (kvs.map fun p => .tup [p.1, p.2], [(k, .dcn kvs)])
    | _ => none
  | _ => none
/-- max(d.values()) -/
def opMxv (x : RV) (h : Hh) : Out RV := match x with
  | .val (.ref k) => match h[k]? with
    | some (.dcn kvs) => match asInts (kvs.map (·.2)) with
      | some (n :: ns) => .ok (.val (.int (maxI (n :: ns)))) h
      | _ => .fail
    | _ => .fail
  | _ => .fail
/-! ### texts -/
/-- the texts that names at the top hold -/
def glbV (x : Str) : Option Str := ([("FIGURES", "0123456789")] : List (Str × Str)).lookup x
def opSM (m : SM) (x y : RV) (h : Hh) : Out RV := match m with
  | .join => match x, (seqOf h y).bind asStrs with
    | .val (.str a), some zs => if (zs.map (·.length)).sum + zs.length * a.length ≤ 16777216 then .ok (.val (.str (PySem.Txt.join a zs))) h else .fail
    | _, _ => .fail
  | .split => match x, y with
    | .val (.str a), .val (.str b) => if (b.length == 0) = false ∧ a.length + 2 ≤ SZ then .ok (.raw ((PySem.Txt.split a b).map .str)) h else .fail
    | _, _ => .fail
  | .part => match x, y with
    | .val (.str a), .val (.str b) => if (b.length == 0) = false ∧ a.length ≤ SZ then .ok (.val (.tup [.str (PySem.Txt.partition a b).1, .str (PySem.Txt.partition a b).2.1, .str (PySem.Txt.partition a b).2.2])) h else .fail
    | _, _ => .fail
/-- one sign in a text -/
def opSin (n : Bool) (x y : RV) (h : Hh) : Out RV := match x, y with
  | .val (.str a), .val (.str z) => match a.cps.toList with
    | [c] => .ok (.val (.bl (if n = true then !decide (c ∈ z.cps.toList) else decide (c ∈ z.cps.toList)))) h
    | _ => .fail
  | _, _ => .fail
/-- a text's signs -/
def signs (z : Str) : List D := z.cps.toList.map fun c => .str ⟨#[c]⟩
/-- d.clear(), keys that are tuples -/
def opDcl (x : RV) (h : Hh) : Out RV := match x with
  | .val (.ref k) => match h[k]? with
    | some (.dcn _) => .ok (.val .non) (h.set k (.dct []))
    | _ => .fail
  | _ => .fail
def isTup : RV → Bool
  | .val (.tup _) => true
  | _ => false
/-- zip of two tuples, of two lists, of a list and a tuple -/
def sameKind (x y : RV) : Bool := !isTup x || isTup y
def enumFrom (i : Nat) : List D → List D
  | [] => []
  | d :: ds => .tup [.int i, d] :: enumFrom (i + 1) ds
def zipD : List D → List D → List D
  | a :: as, b :: bs => .tup [a, b] :: zipD as bs
  | _, _ => []
def rng (lo : Int) (n : Nat) : List D := (List.range n).map fun i => .int (lo + (i : Nat))

/-! ### the evaluator; cf: what a def's call gives -/
section
variable (cf : Str → List D → Hh → Out D)
mutual
def evR : E → St → Hh → Out RV
  | .var i, st, h => match st[i]? with
    | some (some d) => .ok (.val d) h
    | _ => .fail
  | .non, _, h => .ok (.val .non) h
  | .bl b, _, h => .ok (.val (.bl b)) h
  | .int i, _, h => .ok (.val (.int i)) h
  | .str x, _, h => .ok (.val (.str x)) h
  | .bin o a b, st, h => bnd (evR a st h) fun x h => bnd (evR b st h) fun y h => opBin o x y h
  | .neg a, st, h => bnd (evR a st h) fun x h => match x with
    | .val (.int i) => .ok (.val (.int (-i))) h
    | _ => .fail
  | .cmp o a b, st, h => bnd (evR a st h) fun x h => bnd (evR b st h) fun y h => opCmp o x y h
  | .cmp2 o p a b c, st, h => bnd (evR a st h) fun x h => bnd (evR b st h) fun y h => bnd (opCmp o x y h) fun t h => match t with
    | .val (.bl true) => bnd (evR c st h) fun z h => opCmp p y z h
    | .val (.bl false) => .ok (.val (.bl false)) h
    | _ => .fail
  | .and a b, st, h => bnd (evR a st h) fun x h => match tru h x with
    | some true => evR b st h
    | some false => .ok x h
    | none => .fail
  | .or a b, st, h => bnd (evR a st h) fun x h => match tru h x with
    | some true => .ok x h
    | some false => evR b st h
    | none => .fail
  | .not a, st, h => bnd (evR a st h) fun x h => match tru h x with
    | some t => .ok (.val (.bl (!t))) h
    | none => .fail
  | .ifx t a b, st, h => bnd (evR t st h) fun x h => match tru h x with
    | some true => evR a st h
    | some false => evR b st h
    | none => .fail
  | .tup es, st, h => bnd (evDs es st h) fun ds h => if ds.length ≤ SZ then .ok (.val (.tup ds)) h else .fail
  | .lst es, st, h => bnd (evDs es st h) fun ds h => if ds.length ≤ SZ then .ok (.raw ds) h else .fail
  | .dct ks vs, st, h => bnd (evDs vs st h) fun ds h => if ks.all isLeaf = true ∧ ks.length = ds.length ∧ ks.length ≤ 15 ∧ ks ≠ [] then .ok (.val (.ref h.length)) (h ++ [.dct (mergeD [] (ks.zip ds))]) else .fail
  | .dnew t, _, h => .ok (.val (.ref h.length)) (h ++ [if t = true then .dcn [] else .dct []])
  | .d1 k v, st, h => bnd (bnd (evR k st h) mat) fun k h => bnd (bnd (evR v st h) mat) fun v h => if isKey k = true then .ok (.val (.ref h.length)) (h ++ [.dcn [(k, v)]]) else .fail
  | .d2 k v k2 v2, st, h => bnd (bnd (evR k st h) mat) fun k h => bnd (bnd (evR v st h) mat) fun v h => bnd (bnd (evR k2 st h) mat) fun k2 h => bnd (bnd (evR v2 st h) mat) fun v2 h =>
    if isKey k = true ∧ isKey k2 = true then .ok (.val (.ref h.length)) (h ++ [.dcn (dput [(k, v)] k2 v2)]) else .fail
  | .best mx a, st, h => bnd (evR a st h) fun x h => bestO mx [] (lsOf h x) h
  | .bestd mx a d, st, h => bnd (evR a st h) fun x h => bnd (bnd (evR d st h) mat) fun v h => bestO mx [v] (lsOf h x) h
  | .lrv a, st, h => bnd (evR a st h) fun x h => match lsOf h x with
    | some ds => .ok (.raw ds.reverse) h
    | none => .fail
  | .trv a, st, h => bnd (evR a st h) fun x h => match lsOf h x with
    | some ds => .ok (.val (.tup ds.reverse)) h
    | none => .fail
  | .sset a, st, h => bnd (evR a st h) fun x h => match (lsOf h x).bind asInts with
    | some ns => if ns.length < 4000 ∧ (setI ns).length < 64 then .ok (.raw ((setI ns).map .int)) h else .fail
    | none => .fail
  | .lset a, st, h => bnd (evR a st h) fun x h => match (lsOf h x).bind asInts with
    | some ns => if ns.length < 4000 then .ok (.val (.int (setI ns).length)) h else .fail
    | none => match (lsOf h x).bind asTups with
      | some ks => if ks.length < 64 then .ok (.val (.int (ddT ks).length)) h else .fail
      | none => .fail
  | .lrg a, st, h => bnd (evR a st h) fun x h => match x with
    | .val (.int j) => if 0 ≤ j ∧ j ≤ 16777216 then .ok (.raw (rng 0 j.toNat)) h else .fail
    | _ => .fail
  | .lks a, st, h => bnd (evR a st h) fun x h => match keysOf x h with
    | some q => .ok (.raw q.1) h
    | none => .fail
  | .mxv a, st, h => bnd (evR a st h) fun x h => opMxv x h
  | .dcl a, st, h => bnd (evR a st h) fun x h => opDcl x h
  | .sm m a b, st, h => bnd (evR a st h) fun x h => match x with
    | .val (.str _) => bnd (evR b st h) fun y h => opSM m x y h
    | _ => .fail
  | .sin n a b, st, h => bnd (evR a st h) fun x h => bnd (evR b st h) fun y h => opSin n x y h
  | .glob x, _, h => match glbV x with
    | some v => .ok (.val (.str v)) h
    | none => .fail
  | .mkd a, st, h => bnd (evR a st h) fun x h => opMkd x h
  | .dget a k x, st, h => bnd (evR a st h) fun a h => match dOf h a with
    | some _ => bnd (evR k st h) fun k h => bnd (bnd (evR x st h) mat) fun x h => opDget a k x h
    | none => .fail
  | .ix a i, st, h => bnd (evR a st h) fun x h => bnd (evR i st h) fun y h => opIx x y h
  | .slc a lo hi, st, h => bnd (evR a st h) fun x h => bnd (evO lo st h) fun l h => bnd (evO hi st h) fun u h => opSlc x l u h
  | .revs a, st, h => bnd (evR a st h) fun x h => match lsOf h x with
    | some ds => .ok (.raw ds.reverse) h
    | none => .fail
  | .call f es, st, h => bnd (evDs es st h) fun ds h => bnd (cf f ds h) fun d h => .ok (.val d) h
  | .callk f es _ vs, st, h => bnd (evDs es st h) fun ds h => bnd (evDs vs st h) fun es h => bnd (cf f (ds ++ es) h) fun d h => .ok (.val d) h
  | .blt f es, st, h => bnd (evRs es st h) fun rs h => opB f rs h
  | .m0 m o, st, h => bnd (evR o st h) fun x h => opM0 m x h
  | .m1 m o e, st, h => bnd (evR o st h) fun x h => match lsOf h x with
    | some _ => bnd (evR e st h) fun y h => opM1 m x y h
    | none => .fail
  | .isi a t, st, h => bnd (evR a st h) fun x h => match tagOf h x with
    | some g => .ok (.val (.bl (isi g t))) h
    | none => .fail
  | .app o e, st, h => bnd (evR o st h) fun x h => match lstOf h x with
    | some _ => bnd (bnd (evR e st h) mat) fun d h => opApp x d h
    | none => .fail
  | .calll f a b js, st, h => bnd (bnd (evR a st h) mat) fun x h => bnd (bnd (evR b st h) mat) fun y h => match capD st js with
    | some cs => bnd (cf f (x :: y :: cs) h) fun d h => .ok (.val d) h
    | none => .fail
  | .wnt i es, st, h => match st[i]? with
    | some (some .fnv) => bnd (evDs es st h) fun ds h => bnd (cf "wanted!" ds h) fun d h => .ok (.val d) h
    | _ => .fail
  | .mkx c es, st, h => bnd (evDs es st h) fun ds h => match xfs c ds with
    | some fs => .ok (.val (.ref h.length)) (h ++ [.xc c fs])
    | none => .fail
  | .isx a cs, st, h => bnd (evR a st h) fun x h => match xTag h x with
    | some g => .ok (.val (.bl (xIn cs g))) h
    | none => .fail
  | .fld a f, st, h => bnd (evR a st h) fun x h => opFld x f h
  | .lc own it g c e, st, h => bnd (evI it st h) fun p h =>
      bnd (lcLoop (fun d h => bnd (evG g d (wipe st own) h) fun st2 h => bnd (evC c st2 h) fun b h =>
        if b = true then bnd (bnd (evR e st2 h) mat) fun v h => .ok (some v) h else .ok none h) p.2 p.1 [] h) fun vs h => .ok (.raw vs) h
def evDs : Es → St → Hh → Out (List D)
  | .nil, _, h => .ok [] h
  | .cons e es, st, h => bnd (bnd (evR e st h) mat) fun d h => bnd (evDs es st h) fun ds h => .ok (d :: ds) h
def evRs : Es → St → Hh → Out (List RV)
  | .nil, _, h => .ok [] h
  | .cons e es, st, h => bnd (evR e st h) fun r h => bnd (evRs es st h) fun rs h => .ok (r :: rs) h
/-- a slice's part -/
def evO : Eo → St → Hh → Out (Option Int)
  | .no, _, h => .ok none h
  | .yes e, st, h => bnd (evR e st h) fun x h => match x with
    | .val (.int i) => .ok (some i) h
    | _ => .fail
/-- a comprehension's test -/
def evC : Eo → St → Hh → Out Bool
  | .no, _, h => .ok true h
  | .yes e, st, h => bnd (evR e st h) fun x h => match tru h x with
    | some t => .ok t h
    | none => .fail
def evI : I → St → Hh → Out (List D × Gd)
  | .seq e, st, h => bnd (evR e st h) fun x h => match itSeq x h with
    | some p => .ok p h
    | none => .fail
  | .rng1 e, st, h => bnd (evR e st h) fun x h => match x with
    | .val (.int j) => if -(2 ^ 62) ≤ j ∧ j < 2 ^ 62 then .ok (rng 0 j.toNat, []) h else .fail
    | _ => .fail
  | .rng2 a b, st, h => bnd (evR a st h) fun x h => bnd (evR b st h) fun y h => match x, y with
    | .val (.int i), .val (.int j) => if -(2 ^ 62) ≤ i ∧ i < 2 ^ 62 ∧ -(2 ^ 62) ≤ j ∧ j < 2 ^ 62 then .ok (rng i (j - i).toNat, []) h else .fail
    | _, _ => .fail
  | .enum e, st, h => bnd (evR e st h) fun x h => match itSeq x h with
    | some p => .ok (enumFrom 0 p.1, p.2) h
    | none => .fail
  | .zip a b, st, h => bnd (evR a st h) fun x h => bnd (evR b st h) fun y h => match itSeq x h, itSeq y h, sameKind x y with
    | some p, some q, true => .ok (zipD p.1 q.1, p.2 ++ q.2) h
    | _, _, _ => .fail
  | .rev e, st, h => bnd (evR e st h) fun x h => match itSeq x h with
    | some p => .ok (p.1.reverse, p.2) h
    | none => .fail
  | .txt e, st, h => bnd (evR e st h) fun x h => match x with
    | .val (.str z) => .ok (signs z, []) h
    | _ => .fail
  | .keys e, st, h => bnd (evR e st h) fun x h => match keysOf x h with
    | some p => .ok p h
    | none => .fail
  | .items e, st, h => bnd (evR e st h) fun x h => match itemsOf x h with
    | some p => .ok p h
    | none => .fail
/-- a target is stored to -/
def evG : G → D → St → Hh → Out St
  | .name i, d, st, h => .ok (st.set i (some d)) h
  | .tup gs, .tup ds, st, h => evGs gs ds st h
  | .tup _, _, _, _ => .fail
  | .sub o i, d, st, h => bndF (evR o st h) fun x h => bndF (evR i st h) fun y h => match opSet x y d h with
    | some h' => .ok st h'
    | none => .fail
def evGs : Gs → List D → St → Hh → Out St
  | .nil, [], st, h => .ok st h
  | .cons g gs, d :: ds, st, h => bndF (evG g d st h) fun st h => evGs gs ds st h
  | _, _, _, _ => .fail
end
end

/-! ### statements -/
inductive OutS where
  | nx (st : St) (h : Hh) | rt (d : D) (h : Hh) | bk (st : St) (h : Hh) | ct (st : St) (h : Hh) | exc (c : Str) (fs : List (Str × D)) (st : St) (h : Hh) | fail
def bndS {α : Type} (st : St) (o : Out α) (f : α → Hh → OutS) : OutS := match o with
  | .ok a h => f a h
  | .exc c d h => .exc c d st h
  | .fail => .fail
@[simp] theorem bndS_ok {α : Type} (st : St) (a : α) (h : Hh) (f : α → Hh → OutS) : bndS st (.ok a h) f = f a h := rfl
@[simp] theorem bndS_exc {α : Type} (st : St) (c : Str) (d : List (Str × D)) (h : Hh) (f : α → Hh → OutS) : bndS st (.exc c d h) f = .exc c d st h := rfl
@[simp] theorem bndS_fail {α : Type} (st : St) (f : α → Hh → OutS) : bndS st .fail f = .fail := rfl
/-- .. where nothing may be raised -/
def bndSF {α : Type} (o : Out α) (f : α → Hh → OutS) : OutS := match o with
  | .ok a h => f a h
  | _ => .fail
def thenS (o : OutS) (f : St → Hh → OutS) : OutS := match o with
  | .nx st h => f st h
  | .rt d h => .rt d h
  | .bk st h => .bk st h
  | .ct st h => .ct st h
  | .exc c d st h => .exc c d st h
  | .fail => .fail
/-- behind an except suite its name is gone; nothing is raised there -/
def unN (i : Option Nat) (st : St) : St := match i with
  | some i => st.set i none
  | none => st
def endH (i : Option Nat) : OutS → OutS
  | .nx st h => .nx (unN i st) h
  | .rt d h => .rt d h
  | .bk st h => .bk (unN i st) h
  | .ct st h => .ct (unN i st) h
  | _ => .fail
/-- the state at the start of an except suite -/
def inH (i : Option Nat) (st : St) (h : Hh) : St := match i with
  | some i => st.set i (some (.ref h.length))
  | none => st
@[simp] theorem thenS_nx (st : St) (h : Hh) (f : St → Hh → OutS) : thenS (.nx st h) f = f st h := rfl
@[simp] theorem thenS_rt (d : D) (h : Hh) (f : St → Hh → OutS) : thenS (.rt d h) f = .rt d h := rfl
@[simp] theorem thenS_fail (f : St → Hh → OutS) : thenS .fail f = .fail := rfl
/-- a loop over items -/
def forLoop (body : D → St → Hh → OutS) (gs : Gd) : List D → St → Hh → OutS
  | [], st, h => if still gs h then .nx st h else .fail
  | d :: ds, st, h => if still gs h then match body d st h with
      | .nx st h => forLoop body gs ds st h
      | .ct st h => forLoop body gs ds st h
      | .bk st h => .nx st h
      | o => o
    else .fail
def whlLoop (test : St → Hh → Out Bool) (body : St → Hh → OutS) : Nat → St → Hh → OutS
  | 0, _, _ => .fail
  | n + 1, st, h => bndS st (test st h) fun b h => if b = true then match body st h with
      | .nx st h => whlLoop test body n st h
      | .ct st h => whlLoop test body n st h
      | .bk st h => .nx st h
      | o => o
    else .nx st h
/-- the most turns of a while; its value is told by a theorem alone (nothing shall unfold it) -/
noncomputable def WF : Nat := Classical.choose (⟨10000000, rfl⟩ : ∃ n : Nat, n = 10000000)
theorem WF_eq : WF = 10000000 := Classical.choose_spec (⟨10000000, rfl⟩ : ∃ n : Nat, n = 10000000)
noncomputable section
variable (cf : Str → List D → Hh → Out D)
mutual
def exS : S → St → Hh → OutS
  | .par i j a b, st, h => bndS st (bnd (bnd (evR cf a st h) mat) fun x h => bnd (bnd (evR cf b st h) mat) fun y h => .ok (x, y) h) fun p h => .nx ((st.set i (some p.1)).set j (some p.2)) h
  | .asg g e, st, h => bndS st (bnd (evR cf e st h) mat) fun d h => bndSF (evG cf g d st h) fun st h => .nx st h
  | .aug i sub e, st, h => match st[i]? with
    | some (some (.int a)) => bndS st (evR cf e st h) fun y h => match y with
      | .val (.int b) => .nx (st.set i (some (.int (if sub = true then a - b else a + b)))) h
      | _ => .fail
    | _ => .fail
  | .expr e, st, h => bndS st (evR cf e st h) fun _ h => .nx st h
  | .ret e, st, h => bndS st (bnd (evR cf e st h) mat) fun d h => .rt d h
  | .retN, _, h => .rt .non h
  | .ifs c a b, st, h => bndS st (evR cf c st h) fun x h => match tru h x with
    | some true => exSs a st h
    | some false => exSs b st h
    | none => .fail
  | .whl c b, st, h => whlLoop (fun st h => bnd (evR cf c st h) fun x h => match tru h x with
    | some t => .ok t h
    | none => .fail) (exSs b) WF st h
  | .for_ it g b, st, h => bndS st (evI cf it st h) fun p h => forLoop (fun d st h => bndSF (evG cf g d st h) fun st h => exSs b st h) p.2 p.1 st h
  | .brk, st, h => .bk st h
  | .cnt, st, h => .ct st h
  | .pas, st, h => .nx st h
  | .nev, _, _ => .fail
  | .raise c es, st, h => bndS st (evDs cf es st h) fun ds h => match xfs c ds with
    | some fs => .exc c fs st h
    | none => .fail
  | .try_ b hs, st, h => match exSs b st h with
    | .exc c fs st h => exHs hs c fs st h
    | o => o
def exSs : Ss → St → Hh → OutS
  | .nil, st, h => .nx st h
  | .cons s ss, st, h => thenS (exS s st h) fun st h => exSs ss st h
def exHs : Hs → Str → List (Str × D) → St → Hh → OutS
  | .nil, c, fs, st, h => .exc c fs st h
  | .cons k i b hs, c, fs, st, h => if subX c k = true then endH i (exSs b (inH i st h) (h ++ [.xc c fs])) else exHs hs c fs st h
end
end

/-! ### calls -/
mutual
def low (n : Nat) : D → Bool
  | .ref k => decide (k < n)
  | .tup ds => lows n ds
  | .rl ds => lows n ds
  | _ => true
def lows (n : Nat) : List D → Bool
  | [] => true
  | d :: ds => low n d && lows n ds
end
def lowO (n : Nat) : O → Bool
  | .lst ds => lows n ds
  | .dct kvs => kvs.all fun p => low n p.1 && low n p.2
  | .dcn kvs => kvs.all fun p => low n p.1 && low n p.2
  | .xc _ fs => fs.all fun p => low n p.2
/-- each of the objects there at the start is as it was, or knows only what was there -/
def okTo (n : Nat) : Hh → Hh → Bool
  | [], _ => true
  | o :: os, p :: ps => (decide (o = p) || lowO n p) && okTo n os ps
  | _ :: _, [] => false
/-- behind a call what nothing can come to is forgotten: n objects were there -/
def gc (n : Nat) (h0 : Hh) (d : D) (h : Hh) : Out D :=
  if okTo n h0 h = true then
    if low n d = true then .ok d (h.take n)
    else match d with
      | .ref k => match h[k]? with
        | some o => if lowO n o = true then .ok (.ref n) (h.take n ++ [o]) else .ok d h
        | none => .fail
      | _ => .ok d h
  else .ok d h
def start (ns : Nat) (ds : List D) : St := ds.map some ++ List.replicate (ns - ds.length) none
def endS : OutS → Out D
  | .nx _ h => .ok .non h
  | .rt d h => .ok d h
  | .exc c d _ h => .exc c d h
  | _ => .fail
/-- .. behind a call that raises -/
def gcx {α : Type} (n : Nat) (h0 : Hh) (c : Str) (fs : List (Str × D)) (h : Hh) : Out α := if (okTo n h0 h && fs.all fun p => low n p.2) = true then .exc c fs (h.take n) else .exc c fs h
def gcO (n : Nat) (h0 : Hh) : Out D → Out D
  | .ok d h => gc n h0 d h
  | .exc c fs h => gcx n h0 c fs h
  | .fail => .fail
/-- the arguments with the defaults of those left out -/
def full (fn : Fn) (ds : List D) : List D := ds ++ fn.dfl.drop (fn.dfl.length + ds.length - fn.ps)
/-- the calls of a def that holds the lambda l, what it captured told -/
def hofF (cf : Str → List D → Hh → Out D) (l : Str) (cs : List D) : Str → List D → Hh → Out D := fun g ds h => if g = "wanted!" then cf l (ds ++ cs) h else cf g ds h
/-- the text's defs -/
abbrev Tb := List (Str × Fn)
noncomputable def callF (T : Tb) : Nat → Str → List D → Hh → Out D
  | 0, _, _, _ => .fail
  | n + 1, f, ds, h => match T.lookup f with
    | some fn => match fn.lam with
      | none => if (full fn ds).length = fn.ps then gcO h.length h (endS (exSs (callF T n) fn.body (start fn.ns (full fn ds)) h)) else .fail
      | some l => if fn.ps ≤ ds.length ∧ lows 0 (ds.drop fn.ps) = true then gcO h.length h (endS (exSs (hofF (callF T n) l (ds.drop fn.ps)) fn.body (start fn.ns (ds.take fn.ps ++ [.fnv])) h)) else .fail
    | none => .fail
end Py
namespace L2
open PySem PySem.Spec PyProof.Rows HT
theorem tuple_mul1W (l : Addr) (items : Array Value) (n : Nat) (dd : Option Addr) (sl : Array (Option Value)) (u : Tok) :
    Meets (Builtin.«tuple.__mul__» ⟨[.ref l, .int 1 u], []⟩) (fun _ R s => s.heap.get? l = some { cls := .type "tuple", dict := dd, data := .seq items n, slots := sl } ∧
      R (.ok (.ret (Value.ref l))) s) :=
  .of_wp fun prog w A R s h => by
    obtain ⟨hp, g, d, tk, os⟩ := s
    obtain ⟨hl, h⟩ := h
    have f1 := AutoSeq1.idx_int
    have c0 : (decide ((1:Int) < -(2 ^ 63)) || decide ((1:Int) ≥ 2 ^ 63)) = false := by decide
    have c1 : (items.isEmpty || (1:Int) == 1) = true := by rw [Bool.or_eq_true]; exact .inr rfl
    wp_walk using wpAny_loadPart' hl
    repeat (first
      | (refine wpAny_ite_false (decide_eq_false (by rw [c0]; exact Bool.false_ne_true)) ?_; wp_walk using wpAny_loadPart' hl)
      | (refine wpAny_ite_true (decide_eq_true c1) ?_; wp_walk using wpAny_loadPart' hl))
    exact ⟨_, rfl, h⟩
/-- tuple * 0 -/
theorem tuple_mul0W (l : Addr) (items : Array Value) (n : Nat) (dd : Option Addr) (sl : Array (Option Value)) (u : Tok) (hi : items.isEmpty = false) :
    Meets (Builtin.«tuple.__mul__» ⟨[.ref l, .int 0 u], []⟩) (fun _ R s => s.heap.get? l = some { cls := .type "tuple", dict := dd, data := .seq items n, slots := sl } ∧
      R (.ok (.ret (Value.ref s.heap.objs.size))) { s with heap := s.heap.push { cls := Value.type "tuple", data := Data.seq #[] }, toks := s.toks }) :=
  .of_wp fun prog w A R s h => by
    obtain ⟨hp, g, d, tk, os⟩ := s
    obtain ⟨hl, h⟩ := h
    have f1 := AutoSeq1.idx_int
    have c0 : (decide ((0:Int) < -(2 ^ 63)) || decide ((0:Int) ≥ 2 ^ 63)) = false := by decide
    have c1 : (items.isEmpty || (0:Int) == 1) = false := by rw [hi]; rfl
    have c2 : (decide ((0:Int) ≤ 0) || items.isEmpty) = true := by rw [Bool.or_eq_true]; exact .inl rfl
    wp_walk using wpAny_loadPart' hl
    repeat (first
      | (refine wpAny_ite_false (decide_eq_false (by rw [c0]; exact Bool.false_ne_true)) ?_; wp_walk using wpAny_loadPart' hl)
      | (refine wpAny_ite_false (decide_eq_false (by rw [c1]; exact Bool.false_ne_true)) ?_; wp_walk using wpAny_loadPart' hl)
      | (refine wpAny_ite_true (decide_eq_true c2) ?_; wp_walk using wpAny_loadPart' hl))
    exact ⟨_, rfl, h⟩
end L2
namespace Py
open PySem PySem.Spec PyProof.Rows
open L2 hiding St start wipe
/-- tuple * 0: a new tuple of nothing -/
def rRepT0 (K : PySem.W.Frag) : R2 := fun x y H Q => ∃ l xs, x = .ref l ∧ y = .int 0 ∧ SqT K H l xs ∧ xs ≠ [] ∧ ∀ p, H p = none → Q (.ref p) (upd H p (.tup []))
theorem op_repT0 {X : Cx} : OpR X (binaryOp .Mult) (rRepT0 X.K) := by
  intro pins s σ H x y v u Q I rx ry h
  obtain ⟨l, xs, rfl, rfl, hT, hne, q⟩ := h
  cases rx
  obtain ⟨t, rfl⟩ := ry
  obtain ⟨its, r, ⟨⟨cls, dd, data, sl⟩, ho, hc, n, hd⟩, hs⟩ := I.tuple hT
  simp only at hc hd
  subst hc hd
  have hi : its.toArray.isEmpty = false := by
    cases its with
    | nil => cases r; exact absurd rfl hne
    | cons a b => rfl
  refine wpAny_binaryOp_repeat_ref (T := "tuple") (U := "int") (by decide) ⟨_, ho, rfl⟩ (fun s' => typeIs_int s' 0 t) noFill_tuple_mul F.fills_int_mul F.slot_int_rmul repeat_tuple F.slot_int_index.lookup
    (call_meets F.slot_int_rmul (typeIs_int s 0 t) F.entry_int_rmul (F.args_int_rmul_2 _ _) (int_rmul_tuple 0 t l its.toArray n dd sl)
      ⟨ho, rfl, ⟨_, ho, rfl⟩, call_meets F.slot_tuple_mul ⟨_, ho, rfl⟩ F.entry_tuple_mul (F.args_tuple_mul_2 _ _) (tuple_mul0W l its.toArray n dd sl t hi) ⟨ho, ?_⟩⟩)
  refine ⟨.ref s.heap.objs.size, _, I.laid (t' := s.toks) (o := .tup []) (fun b ob q => Heap.get?_push_of_some _ q) (Nat.le_refl _) ?_, rfl, q _ (I.hok.fresh (Nat.le_refl _))⟩
  exact ⟨Nat.zero_le _, _, .nil, IsTup.new _ _⟩
/-- tuple * 1: the tuple itself -/
def rRepT1 (K : PySem.W.Frag) : R2 := fun x y H Q => ∃ l xs, x = .ref l ∧ y = .int 1 ∧ SqT K H l xs ∧ Q (.ref l) H
theorem op_repT1 {X : Cx} : OpR X (binaryOp .Mult) (rRepT1 X.K) := by
  intro pins s σ H x y v u Q I rx ry h
  obtain ⟨l, xs, rfl, rfl, hT, q⟩ := h
  cases rx
  obtain ⟨t, rfl⟩ := ry
  obtain ⟨its, r, ⟨⟨cls, dd, data, sl⟩, ho, hc, n, hd⟩, hs⟩ := I.tuple hT
  simp only at hc hd
  subst hc hd
  refine wpAny_binaryOp_repeat_ref (T := "tuple") (U := "int") (by decide) ⟨_, ho, rfl⟩ (fun s' => typeIs_int s' 1 t) noFill_tuple_mul F.fills_int_mul F.slot_int_rmul repeat_tuple F.slot_int_index.lookup
    (call_meets F.slot_int_rmul (typeIs_int s 1 t) F.entry_int_rmul (F.args_int_rmul_2 _ _) (int_rmul_tuple 1 t l its.toArray n dd sl)
      ⟨ho, rfl, ⟨_, ho, rfl⟩, call_meets F.slot_tuple_mul ⟨_, ho, rfl⟩ F.entry_tuple_mul (F.args_tuple_mul_2 _ _) (tuple_mul1W l its.toArray n dd sl t) ⟨ho, ?_⟩⟩)
  exact ⟨.ref l, H, I, rfl, q⟩
end Py
/-! Core, part B: the own values and heap against the layer's; readings of expressions. -/
namespace Py
open PySem PySem.Spec PyProof.Rows
open L2 hiding St start wipe

def SqS (K : PySem.W.Frag) (H : Hp) (a : Addr) (xs : List V) : Prop :=
  (∃ o, H a = some (.frz o (.lst xs))) ∨
    ∃ (o : Obj) (its : Array Value) (n : Nat), K.lookup a = some o ∧ o.cls = .type "list" ∧ o.dict = none ∧ o.data = .seq its n ∧ its.size ≤ sizeLine ∧ Vals xs its.toList
theorem SqS.seq {K : PySem.W.Frag} {H : Hp} {a : Addr} {xs : List V} (h : SqS K H a xs) : SqL K H a xs := by
  rcases h with ⟨o, h⟩ | h
  · exact .inl (.inr ⟨o, h⟩)
  · exact .inr h

/-! ### dicts whose keys are tuples: what stands at their place -/
mutual
/-- the key that a value is -/
def nkD : D → NestedKey
  | .int i => .num i
  | .tup ds => .tup (nkDs ds)
  | _ => .none
def nkDs : List D → List NestedKey
  | [] => []
  | d :: ds => nkD d :: nkDs ds
end
mutual
/-- its hash -/
def hD : D → Int
  | .int i => hashInt i
  | .tup ds => reduceHash (Builtin.Tuple.tupleHashOf (hDs ds))
  | _ => reduceHash 0xFCA86420
def hDs : List D → List Int
  | [] => []
  | d :: ds => hD d :: hDs ds
end
/-- the entries: a key, its tuple's place, the value -/
def DnO (a : Addr) (xs : List (D × Addr × V)) (c : Int) : HO := .ext fun h => (a == sysModules) = false ∧ xs.length ≤ sizeLine ∧ ∃ us : List Value, Vals (xs.map (·.2.2)) us ∧
  ∃ o es ep, h.get? a = some o ∧ o.ExactDict ∧ o.data = .dict es ep ∧ es.toList = ((xs.zip us).map fun p => ⟨hD p.1.1, .ref p.1.2.1, p.2⟩) ∧ ((ep : Nat) : Int) = (xs.length : Nat) + c
/-- an exception, its class, its dict at d -/
def ExO (a : Addr) (cls : Value) (d : Option Addr) : HO := .ext fun h => ∃ oe vs, h.get? a = some oe ∧ oe.cls = cls ∧ oe.dict = d ∧ oe.data = .fields vs
theorem heap_at (a c : Addr) (o : Obj) (n : o.data ≠ .freed) : ∃ h : Heap, h.get? a = some o ∧ h.get? c = some o := by
  have key : ∀ b : Nat, b ≤ a + c → (Heap.get? ⟨Array.replicate (a + c + 1) o, {}⟩ b) = some o := fun b hb => by
    have e : (Array.replicate (a + c + 1) o)[b]? = some o := by rw [Array.getElem?_replicate, if_pos (by omega)]
    unfold Heap.get?
    simp only [e]
    obtain ⟨c1, c2, c3, c4⟩ := o
    cases c3 <;> first | rfl | exact absurd rfl n
  exact ⟨_, key a (Nat.le_add_right _ _), key c (Nat.le_add_left _ _)⟩
/-- what the own heap tracks -/
inductive Trk : HO → Prop
  | lst (xs : List V) : Trk (.lst xs)
  | dK (kvs : List (L2.Key × V)) : Trk (.dK kvs)
  | dN (a : Addr) (xs : List (D × Addr × V)) (c : Int) : Trk (DnO a xs c)
  | xE (a C : Addr) (d : Option Addr) : Trk (ExO a (.ref C) d)
theorem Trk.mut {u : HO} (t : Trk u) : Mut (some u) := by cases t <;> trivial
theorem Trk.noTup {u : HO} {xs : List V} (t : Trk u) (e : u = .tup xs) : False := by subst e; cases t
theorem Trk.noFrz {u v : HO} {o : Obj} (t : Trk u) (e : u = .frz o v) : False := by subst e; cases t
theorem Trk.noTbl {u : HO} {ps : Array Value} (t : Trk u) (e : u = .tbl ps) : False := by subst e; cases t
theorem Trk.noXd {u : HO} {ps : List (Str × V)} (t : Trk u) (e : u = .xd ps) : False := by subst e; cases t
theorem Trk.noCode {u : HO} {c : Addr} {q : Str} (t : Trk u) (e : u = LamX.CodeO c q) : False := by
  have ext : ∀ (a : Addr) (P : Heap → Prop), (.ext P = LamX.CodeO c q) → (∀ h o, h.get? a = some o → P h → o.cls = .none → o.data = .fields #[.none, .str q 0] → False) → False := fun a P z k => by
    obtain ⟨h, h1, h2⟩ := heap_at a c { cls := .none, data := .fields #[.none, .str q 0] } (by simp)
    unfold LamX.CodeO at z
    have z2 := HO.ext.inj z
    have y : P h := by
      rw [z2]
      exact ⟨_, #[.none, .str q 0], 0, h2, rfl, rfl⟩
    exact k h _ h1 y rfl rfl
  cases t with
  | lst xs => unfold LamX.CodeO at e; cases e
  | dK kvs => unfold LamX.CodeO at e; cases e
  | dN a xs n =>
    refine ext a _ e fun h o h1 ⟨_, _, us, _, o2, es, ep, h2, _, d, _⟩ _ d2 => ?_
    rw [h1] at h2
    cases h2
    rw [d2] at d
    cases d
  | xE a C d =>
    refine ext a _ e fun h o h1 ⟨o2, vs, h2, c1, _⟩ c2 _ => ?_
    rw [h1] at h2
    cases h2
    rw [c2] at c1
    cases c1
/-- a key of a dict of ints and texts -/
def KD : D → L2.Key → Prop
  | .int i, .inl j => i = j
  | .str x, .inr y => x = y
  | _, _ => False

/-- what no one may change stays: all but what is tracked, and the tables -/
def Stay (H H' : Hp) : Prop := ∀ a o, H a = some o → ¬ Trk o → (∀ ps, o ≠ .tbl ps) → H' a = some o
theorem Stay.write {H : Hp} {a : Addr} {u v : HO} (e : H a = some u) (t : Trk u) : Stay H (upd H a v) := fun b o q n _ => by
  rw [upd_ne (fun z => by
    rw [z, e] at q
    cases q
    exact n t)]
  exact q
theorem Stay.new {H : Hp} {a : Addr} {v : HO} (e : H a = none) : Stay H (upd H a v) := fun b o q _ _ => by
  rw [upd_ne (ne_of_none q e)]
  exact q
/-- tables of code objects (of the defs that make lambdas), and the lambdas' names -/
class Tau where
  tabs : List (Addr × Str)
  /-- the exception classes of which some may be made -/
  xs : List Str
  /-- the slot that holds a lambda, and where that stands -/
  pin : Option (Nat × Addr)
  /-- what is known of the lambda -/
  inv : Hp → Prop
  keep : ∀ {H H' : Hp}, inv H → Stay H H' → inv H'
/-- no lambda in hand -/
abbrev tauX (tabs : List (Addr × Str)) (xs : List Str) : Tau := ⟨tabs, xs, none, fun _ => True, fun _ _ => trivial⟩
/-- none, for what asks of no table -/
instance (priority := 1) tau0 : Tau := tauX [] []
section
variable (K : PySem.W.Frag) (φ : List Addr) (H : Hp)
mutual
inductive VR : D → V → Prop
  | non : VR .non .non
  | bl (b : Bool) : VR (.bl b) (.bl b)
  | int (i : Int) : VR (.int i) (.int i)
  | str (x : Str) : VR (.str x) (.str x)
  | tup {ds : List D} {a : Addr} {xs : List V} : SqT K H a xs → VRs ds xs → VR (.tup ds) (.ref a)
  | ref {n : Nat} {a : Addr} : φ[n]? = some a → VR (.ref n) (.ref a)
  | rl {ds : List D} {a : Addr} {xs : List V} : SqS K H a xs → VRs ds xs → VR (.rl ds) (.ref a)
inductive VRs : List D → List V → Prop
  | nil : VRs [] []
  | cons {d : D} {v : V} {ds : List D} {vs : List V} : VR d v → VRs ds vs → VRs (d :: ds) (v :: vs)
end
/-- an exception's fields -/
def XfR (fs : List (Str × D)) : Option Addr → Prop
  | none => fs = []
  | some dx => ∃ ys, H dx = some (.xd ys) ∧ Paired (fun (p : Str × D) (q : Str × V) => p.1 = q.1 ∧ VR K φ H p.2 q.2) fs ys
/-- what stands at an address -/
def OR [Tau] : O → Addr → Prop
  | .lst ds, a => ∃ xs, H a = some (.lst xs) ∧ VRs K φ H ds xs
  | .dct kvs, a => ∃ xs, H a = some (.dK xs) ∧ Paired (fun (p : D × D) (q : L2.Key × V) => KD p.1 q.1 ∧ VR K φ H p.2 q.2) kvs xs
  | .dcn kvs, a => ∃ xs c, H a = some (DnO a xs c) ∧ (kvs.map (·.1)).Nodup ∧
      Paired (fun (p : D × D) (q : D × Addr × V) => (isKey p.1 = true ∧ p.1 = q.1) ∧ VR K φ H p.1 (.ref q.2.1) ∧ VR K φ H p.2 q.2.2) kvs xs
  | .xc c fs, a => ∃ C d, (c ∈ Tau.xs ∧ PySem.W.nsIn K mainGlobals c = some (some (.ref C))) ∧ H a = some (ExO a (.ref C) d) ∧ XfR K φ H fs d
end
structure Rel [Tau] (K : PySem.W.Frag) (φ : List Addr) (h : Hh) (H : Hp) : Prop where
  len : φ.length = h.length
  obj : ∀ (n : Nat) (o : O) (a : Addr), h[n]? = some o → φ[n]? = some a → OR K φ H o a
  inj : φ.Nodup
  tab : LamX.Tabs Tau.tabs H
  inv : Tau.inv H
/-- a dict whose count of changes is told by its length -/
def DnC (H : Hp) (a : Addr) (c : Int) : Prop := ∃ xs, H a = some (DnO a xs c)
/-- a dict of ints and texts, or one that was emptied -/
def Ded (H : Hp) (a : Addr) : Prop := ∃ xs, H a = some (.dK xs)
def KpD (H H' : Hp) : Prop := (∀ a c, DnC H a c → DnC H' a c ∨ Ded H' a) ∧ ∀ a, Ded H a → Ded H' a
theorem KpD.refl {H : Hp} : KpD H H := ⟨fun _ _ q => .inl q, fun _ q => q⟩
theorem KpD.trans {H H1 H2 : Hp} (a : KpD H H1) (b : KpD H1 H2) : KpD H H2 :=
  ⟨fun x c q => (a.1 x c q).elim (fun z => b.1 x c z) fun z => .inr (b.2 x z), fun x q => b.2 x (a.2 x q)⟩
/-- a table grows, all else stays -/
def KeepO (o : HO) (p : Option HO) : Prop := p = some o ∨ ∃ ps ps', o = .tbl ps ∧ p = some (.tbl ps')
theorem KeepO.non {o : HO} {p : Option HO} (k : KeepO o p) (n : ∀ ps, o ≠ .tbl ps) : p = some o := k.elim id fun ⟨ps, _, e, _⟩ => absurd e (n ps)
theorem KeepO.some {o : HO} {p : Option HO} (k : KeepO o p) : ∃ u, p = .some u := k.elim (fun e => ⟨_, e⟩) fun ⟨_, ps, _, e⟩ => ⟨_, e⟩
/-- what changes: new places come; what isn't tracked stays -/
def WX (φ : List Addr) (H : Hp) (φ' : List Addr) (H' : Hp) : Prop :=
  ∃ ψ, φ' = φ ++ ψ ∧ (∀ a ∈ ψ, H a = none) ∧ (∀ a o, a ∉ φ → H a = some o → KeepO o (H' a)) ∧ KpD H H'
structure SR [Tau] (K : PySem.W.Frag) (φ : List Addr) (H : Hp) (st : St) (σ : L2.St) : Prop where
  len : σ.length = st.length
  valP : ∀ (i : Nat) (d : D), st[i]? = some (some d) → (∃ v, σ[i]? = some (some v) ∧ VR K φ H d v) ∨ (d = .fnv ∧ ∃ f, Tau.pin = some (i, f) ∧ σ[i]? = some (some (.ref f)))
def VRR (K : PySem.W.Frag) (φ : List Addr) (H H0 : Hp) : RV → V → Prop
  | .val d, v => VR K φ H d v
  | .raw ds, v => ∃ a xs, v = .ref a ∧ H0 a = none ∧ a ∉ φ ∧ H a = some (.lst xs) ∧ VRs K φ H ds xs

section
variable [Tau] {K : PySem.W.Frag} {φ φ' φ1 φ2 : List Addr} {h h' h1 h2 : Hh} {H H' H0 H1 H2 : Hp} {st : St} {σ : L2.St}

theorem OR.trk {o : O} {a : Addr} (q : OR K φ H o a) : ∃ u, H a = some u ∧ Trk u := by
  cases o with
  | lst ds => obtain ⟨xs, q, _⟩ := q; exact ⟨_, q, .lst xs⟩
  | dct kvs => obtain ⟨xs, q, _⟩ := q; exact ⟨_, q, .dK xs⟩
  | dcn kvs => obtain ⟨xs, c, q, _⟩ := q; exact ⟨_, q, .dN a xs c⟩
  | xc c fs => obtain ⟨C, d, _, q, _⟩ := q; exact ⟨_, q, .xE a C d⟩
theorem Rel.some_of (R : Rel K φ h H) {a : Addr} (ha : a ∈ φ) : ∃ u, H a = some u ∧ Trk u := by
  obtain ⟨n, hn, e⟩ := List.mem_iff_getElem.mp ha
  have hn2 : n < h.length := by rw [← R.len]; exact hn
  exact (R.obj n h[n] a (List.getElem?_eq_getElem hn2) (by rw [List.getElem?_eq_getElem hn, e])).trk
theorem WX.refl : WX φ H φ H := ⟨[], by simp, fun _ z => by simp at z, fun _ _ _ q => .inl q, .refl⟩
theorem WX.fresh_back (R : Rel K φ h H) (R1 : Rel K φ1 h1 H1) (a : WX φ H φ1 H1) {b : Addr} (hb : H1 b = none) : H b = none := by
  cases e : H b with
  | none => rfl
  | some o =>
    obtain ⟨ψ, e1, _, keep, _⟩ := a
    by_cases hm : b ∈ φ
    · have hm1 : b ∈ φ1 := by rw [e1]; exact List.mem_append_left _ hm
      obtain ⟨xs, z, _⟩ := R1.some_of hm1
      rw [hb] at z; cases z
    · obtain ⟨u, z⟩ := (keep b o hm e).some
      rw [hb] at z; cases z
theorem WX.trans (R : Rel K φ h H) (R1 : Rel K φ1 h1 H1) (a : WX φ H φ1 H1) (b : WX φ1 H1 φ2 H2) : WX φ H φ2 H2 := by
  have a' := a
  obtain ⟨ψ, e1, f1, k1, d1⟩ := a
  obtain ⟨χ, e2, f2, k2, d2⟩ := b
  refine ⟨ψ ++ χ, by rw [e2, e1, List.append_assoc], fun c hc => ?_, fun c o hc q => ?_, d1.trans d2⟩
  · rcases List.mem_append.mp hc with hc | hc
    · exact f1 c hc
    · exact WX.fresh_back R R1 a' (f2 c hc)
  · have nc : c ∉ φ1 := by
      intro z
      rw [e1] at z
      rcases List.mem_append.mp z with z | z
      · exact hc z
      · rw [f1 c z] at q; cases q
    rcases k1 c o hc q with z | ⟨ps, ps', rfl, z⟩
    · exact k2 c o nc z
    · rcases k2 c _ nc z with z | ⟨_, ps2, _, z⟩
      · exact .inr ⟨ps, ps', rfl, z⟩
      · exact .inr ⟨ps, ps2, rfl, z⟩
theorem WX.sqt (R : Rel K φ h H) (w : WX φ H φ' H') {a : Addr} {xs : List V} (q : SqT K H a xs) : SqT K H' a xs := by
  obtain ⟨ψ, e1, f1, k1, _⟩ := w
  rcases q with (q | ⟨o, q⟩) | q
  · refine .inl (.inl ((k1 a _ (fun z => ?_) q).non fun ps z => by cases z))
    obtain ⟨ys, z, t⟩ := R.some_of z
    rw [z] at q; exact t.noTup (Option.some.inj q)
  · refine .inl (.inr ⟨o, (k1 a _ (fun z => ?_) q).non fun ps z => by cases z⟩)
    obtain ⟨ys, z, t⟩ := R.some_of z
    rw [z] at q; exact t.noFrz (Option.some.inj q)
  · exact .inr q
theorem WX.sqs (R : Rel K φ h H) (w : WX φ H φ' H') {a : Addr} {xs : List V} (q : SqS K H a xs) : SqS K H' a xs := by
  obtain ⟨ψ, e1, f1, k1, _⟩ := w
  rcases q with ⟨o, q⟩ | q
  · refine .inl ⟨o, (k1 a _ (fun z => ?_) q).non fun ps z => by cases z⟩
    obtain ⟨ys, z, t⟩ := R.some_of z
    rw [z] at q; exact t.noFrz (Option.some.inj q)
  · exact .inr q
theorem WX.get (w : WX φ H φ' H') {n : Nat} {a : Addr} (e : φ[n]? = some a) : φ'[n]? = some a := by
  obtain ⟨ψ, e1, _⟩ := w
  rw [e1, List.getElem?_append_left (List.getElem?_eq_some_iff.mp e).1]
  exact e
mutual
theorem VR.mono (R : Rel K φ h H) (w : WX φ H φ' H') : ∀ {d : D} {v : V}, VR K φ H d v → VR K φ' H' d v
  | _, _, .non => .non
  | _, _, .bl b => .bl b
  | _, _, .int i => .int i
  | _, _, .str x => .str x
  | _, _, .tup q r => .tup (w.sqt R q) (VRs.mono R w r)
  | _, _, .ref e => .ref (w.get e)
  | _, _, .rl q r => .rl (w.sqs R q) (VRs.mono R w r)
theorem VRs.mono (R : Rel K φ h H) (w : WX φ H φ' H') : ∀ {ds : List D} {vs : List V}, VRs K φ H ds vs → VRs K φ' H' ds vs
  | _, _, .nil => .nil
  | _, _, .cons r t => .cons (VR.mono R w r) (VRs.mono R w t)
end
theorem SR.mono (R : Rel K φ h H) (w : WX φ H φ' H') (s : SR K φ H st σ) : SR K φ' H' st σ :=
  ⟨s.len, fun i d e => (s.valP i d e).imp (fun ⟨v, q, r⟩ => ⟨v, q, r.mono R w⟩) id⟩
theorem SR.val (s : SR K φ H st σ) {i : Nat} (hp : ∀ f, Tau.pin ≠ some (i, f)) (d : D) (e : st[i]? = some (some d)) : ∃ v, σ[i]? = some (some v) ∧ VR K φ H d v :=
  (s.valP i d e).resolve_right fun ⟨_, f, z, _⟩ => hp f z
/-- the slot that holds the lambda -/
theorem SR.fnv (s : SR K φ H st σ) {i : Nat} (e : st[i]? = some (some .fnv)) : ∃ f, Tau.pin = some (i, f) ∧ σ[i]? = some (some (.ref f)) := by
  rcases s.valP i _ e with ⟨v, _, r⟩ | ⟨_, z⟩
  · cases r
  · exact z
theorem WX.notin (w : WX φ H φ' H') {a : Addr} {o : HO} (ha : a ∉ φ) (e : H a = some o) : a ∉ φ' := by
  obtain ⟨ψ, e1, f1, k1, _⟩ := w
  rw [e1]
  intro z
  rcases List.mem_append.mp z with z | z
  · exact ha z
  · rw [f1 a z] at e; cases e
theorem WX.keep (w : WX φ H φ' H') {a : Addr} {o : HO} (ha : a ∉ φ) (e : H a = some o) (n : ∀ ps, o ≠ .tbl ps := by intro _ z; cases z) : H' a = some o := by
  obtain ⟨ψ, e1, f1, k1, _⟩ := w
  exact (k1 a o ha e).non n
theorem WX.xd (R : Rel K φ h H) (w : WX φ H φ' H') {a : Addr} {ys : List (Str × V)} (e : H a = some (.xd ys)) : H' a = some (.xd ys) := w.keep (fun z => by
  obtain ⟨u, q, t⟩ := R.some_of z
  rw [e] at q
  exact t.noXd (Option.some.inj q).symm) e
theorem tabs_write {a : Addr} {u v : HO} (T : LamX.Tabs Tau.tabs H) (e : H a = some u) (t : Trk u) : LamX.Tabs Tau.tabs (upd H a v) := fun p hp => by
  obtain ⟨ps, h1, h2, h3⟩ := T p hp
  have n1 : p.1 ≠ a := fun z => by
    rw [z, e] at h1
    exact t.noTbl (Option.some.inj h1)
  refine ⟨ps, by rw [upd_ne n1]; exact h1, h2, fun pos cv hc => ?_⟩
  obtain ⟨c, e1, e2⟩ := h3 pos cv hc
  have n2 : c ≠ a := fun z => by
    rw [z, e] at e2
    exact t.noCode (Option.some.inj e2)
  exact ⟨c, e1, by rw [upd_ne n2]; exact e2⟩
theorem VRR.mono (R : Rel K φ h H) (w : WX φ H φ' H') : ∀ {r : RV} {v : V}, VRR K φ H H0 r v → VRR K φ' H' H0 r v
  | .val _, _, q => VR.mono R w q
  | .raw _, _, q => by
    obtain ⟨a, xs, e, f, n, q, r⟩ := q
    exact ⟨a, xs, e, f, w.notin n q, w.keep n q, r.mono R w⟩
theorem VRR.back (hb : ∀ b, H1 b = none → H b = none) : ∀ {r : RV} {v : V}, VRR K φ H' H1 r v → VRR K φ H' H r v
  | .val _, _, q => q
  | .raw _, _, q => by
    obtain ⟨a, xs, e, f, n, q, r⟩ := q
    exact ⟨a, xs, e, hb _ f, n, q, r⟩
theorem VRs.length : ∀ {ds : List D} {vs : List V}, VRs K φ H ds vs → vs.length = ds.length
  | _, _, .nil => rfl
  | _, _, .cons _ t => congrArg (· + 1) t.length
theorem VRs.get : ∀ {ds : List D} {vs : List V} {i : Nat} {d : D}, VRs K φ H ds vs → ds[i]? = some d → ∃ v, vs[i]? = some v ∧ VR K φ H d v
  | _, _, _, _, .nil, e => by simp at e
  | _, _, 0, _, .cons r _, e => by simp at e; subst e; exact ⟨_, rfl, r⟩
  | _, _, i + 1, d, .cons _ t, e => by
    obtain ⟨v, h1, h2⟩ := VRs.get (i := i) (d := d) t (by simpa using e)
    exact ⟨v, by simpa using h1, h2⟩
theorem VRs.append : ∀ {ds es : List D} {vs ws : List V}, VRs K φ H ds vs → VRs K φ H es ws → VRs K φ H (ds ++ es) (vs ++ ws)
  | _, _, _, _, .nil, s => s
  | _, _, _, _, .cons r t, s => .cons r (VRs.append t s)
theorem VRs.take : ∀ {ds : List D} {vs : List V} (n : Nat), VRs K φ H ds vs → VRs K φ H (ds.take n) (vs.take n)
  | _, _, 0, _ => .nil
  | _, _, _ + 1, .nil => .nil
  | _, _, n + 1, .cons r t => .cons r (VRs.take n t)
theorem VRs.drop : ∀ {ds : List D} {vs : List V} (n : Nat), VRs K φ H ds vs → VRs K φ H (ds.drop n) (vs.drop n)
  | _, _, 0, r => r
  | _, _, _ + 1, .nil => .nil
  | _, _, n + 1, .cons _ t => VRs.drop n t
theorem VRs.set {d : D} {v : V} (r : VR K φ H d v) : ∀ {ds : List D} {vs : List V} (i : Nat), VRs K φ H ds vs → VRs K φ H (ds.set i d) (vs.set i v)
  | _, _, _, .nil => .nil
  | _, _, 0, .cons _ t => .cons r t
  | _, _, i + 1, .cons q t => .cons q (VRs.set r i t)
theorem VRs.reverse : ∀ {ds : List D} {vs : List V}, VRs K φ H ds vs → VRs K φ H ds.reverse vs.reverse
  | _, _, .nil => .nil
  | _, _, .cons r t => by
    rw [List.reverse_cons, List.reverse_cons]
    exact (VRs.reverse t).append (.cons r .nil)
theorem VRs.eraseIdx : ∀ {ds : List D} {vs : List V} (i : Nat), VRs K φ H ds vs → VRs K φ H (ds.eraseIdx i) (vs.eraseIdx i)
  | _, _, _, .nil => .nil
  | _, _, 0, .cons _ t => t
  | _, _, i + 1, .cons r t => .cons r (t.eraseIdx i)
theorem VRs.dropLast {ds : List D} {vs : List V} (r : VRs K φ H ds vs) : VRs K φ H ds.dropLast vs.dropLast := by
  rw [List.dropLast_eq_take, List.dropLast_eq_take, r.length]
  exact r.take _
theorem VRs.rep {ds : List D} {vs : List V} (r : VRs K φ H ds vs) : ∀ k : Nat, VRs K φ H (List.replicate k ds).flatten (List.replicate k vs).flatten
  | 0 => .nil
  | k + 1 => by
    rw [List.replicate_succ, List.replicate_succ, List.flatten_cons, List.flatten_cons]
    exact VRs.append r (VRs.rep r k)
theorem VRs.cut {ds : List D} {vs : List V} (r : VRs K φ H ds vs) (lo hi : Option Int) : VRs K φ H (cut ds lo hi) (cutV vs lo hi) := by
  unfold Py.cut cutV
  rw [r.length]
  exact (r.drop _).take _
theorem VRs.atI {ds : List D} {vs : List V} {i : Int} {d : D} (r : VRs K φ H ds vs) (e : L2.atI ds i = some d) : ∃ v, L2.atI vs i = some v ∧ VR K φ H d v := by
  unfold L2.atI at e ⊢
  rw [r.length]
  cases q : ixN ds.length i with
  | none => rw [q] at e; cases e
  | some j =>
    rw [q] at e
    exact r.get e
mutual
theorem VR.app (ψ : List Addr) : ∀ {d : D} {v : V}, VR K φ H d v → VR K (φ ++ ψ) H d v
  | _, _, .non => .non
  | _, _, .bl b => .bl b
  | _, _, .int i => .int i
  | _, _, .str x => .str x
  | _, _, .tup q r => .tup q (VRs.app ψ r)
  | _, _, .ref e => .ref (by rw [List.getElem?_append_left (List.getElem?_eq_some_iff.mp e).1]; exact e)
  | _, _, .rl q r => .rl q (VRs.app ψ r)
theorem VRs.app (ψ : List Addr) : ∀ {ds : List D} {vs : List V}, VRs K φ H ds vs → VRs K (φ ++ ψ) H ds vs
  | _, _, .nil => .nil
  | _, _, .cons r t => .cons (VR.app ψ r) (VRs.app ψ t)
end
theorem XfR.map (x : ∀ b ys, H b = some (.xd ys) → H' b = some (.xd ys)) (f : ∀ d v, VR K φ H d v → VR K φ' H' d v) {fs : List (Str × D)} : ∀ {d : Option Addr}, XfR K φ H fs d → XfR K φ' H' fs d
  | none, q => q
  | some _, ⟨ys, q, r⟩ => ⟨ys, x _ _ q, Paired.mapP r fun _ _ z => ⟨z.1, f _ _ z.2⟩⟩
theorem OR.map (e : H' a = H a) (x : ∀ b ys, H b = some (.xd ys) → H' b = some (.xd ys)) (f : ∀ d v, VR K φ H d v → VR K φ' H' d v) (fs : ∀ ds vs, VRs K φ H ds vs → VRs K φ' H' ds vs) : ∀ {o : O}, OR K φ H o a → OR K φ' H' o a
  | .lst _, ⟨xs, q, r⟩ => ⟨xs, by rw [e]; exact q, fs _ _ r⟩
  | .dct _, ⟨xs, q, r⟩ => ⟨xs, by rw [e]; exact q, Paired.mapP r fun _ _ z => ⟨z.1, f _ _ z.2⟩⟩
  | .dcn _, ⟨xs, c, q, n, r⟩ => ⟨xs, c, by rw [e]; exact q, n, Paired.mapP r fun _ _ z => ⟨z.1, f _ _ z.2.1, f _ _ z.2.2⟩⟩
  | .xc _ _, ⟨C, d, q0, q, r⟩ => ⟨C, d, q0, by rw [e]; exact q, r.map x f⟩
theorem OR.app (ψ : List Addr) {o : O} {a : Addr} (q : OR K φ H o a) : OR K (φ ++ ψ) H o a := q.map rfl (fun _ _ z => z) (fun _ _ r => r.app ψ) fun _ _ r => r.app ψ
theorem OR.mono (R : Rel K φ h H) (w : WX φ H φ' H') {a : Addr} (e : H' a = H a) {o : O} (q : OR K φ H o a) : OR K φ' H' o a := q.map e (fun _ _ z => w.xd R z) (fun _ _ r => r.mono R w) fun _ _ r => r.mono R w
/-- what stands, not tracked so far, gets a place -/
theorem Rel.pushO (R : Rel K φ h H) {a : Addr} {u : O} (ha : a ∉ φ) (q : OR K φ H u a) : Rel K (φ ++ [a]) (h ++ [u]) H := by
  refine ⟨by rw [List.length_append, List.length_append, R.len]; rfl, fun n o b h1 h2 => ?_, ?_, ?_, ?_⟩
  · by_cases hn : n < h.length
    · rw [List.getElem?_append_left hn] at h1
      rw [List.getElem?_append_left (by rw [R.len]; exact hn)] at h2
      exact (R.obj n o b h1 h2).app _
    · have hl := (List.getElem?_eq_some_iff.mp h1).1
      rw [List.length_append] at hl
      have e1 : n = h.length := by simp at hl; omega
      subst e1
      rw [List.getElem?_append_right (Nat.le_refl _), Nat.sub_self] at h1
      rw [← R.len, List.getElem?_append_right (Nat.le_refl _), Nat.sub_self] at h2
      simp at h1 h2
      subst h1; subst h2
      exact q.app _
  · rw [List.nodup_append]
    exact ⟨R.inj, by simp, fun x hx y hy z => by simp at hy; subst hy; subst z; exact ha hx⟩
  · exact R.tab
  · exact R.inv
theorem Rel.push (R : Rel K φ h H) {a : Addr} {ds : List D} {xs : List V} (ha : a ∉ φ) (e : H a = some (.lst xs)) (r : VRs K φ H ds xs) : Rel K (φ ++ [a]) (h ++ [.lst ds]) H := R.pushO ha ⟨xs, e, r⟩
/-- something tracked is changed -/
theorem WX.writeO (R : Rel K φ h H) {k : Nat} {a : Addr} {u : HO} (ea : φ[k]? = some a) (hc : (∀ xs c, H a = some (DnO a xs c) → (∃ ys, u = DnO a ys c) ∨ ∃ ys, u = .dK ys) ∧ ∀ xs, H a = some (.dK xs) → ∃ ys, u = .dK ys) : WX φ H φ (upd H a u) := by
  refine ⟨[], by simp, fun _ z => by simp at z, fun b o hb q => ?_, fun b c ⟨xs, q⟩ => ?_, fun b ⟨xs, q⟩ => ?_⟩
  · rw [upd_ne (fun z => hb (by rw [z]; exact List.mem_of_getElem? ea))]
    exact .inl q
  · by_cases e : b = a
    · subst e
      rcases hc.1 xs c q with ⟨ys, rfl⟩ | ⟨ys, rfl⟩
      · exact .inl ⟨ys, upd_same⟩
      · exact .inr ⟨ys, upd_same⟩
    · exact .inl ⟨xs, by rw [upd_ne e]; exact q⟩
  · by_cases e : b = a
    · subst e
      obtain ⟨ys, rfl⟩ := hc.2 xs q
      exact ⟨ys, upd_same⟩
    · exact ⟨xs, by rw [upd_ne e]; exact q⟩
/-- what stands there is a list -/
theorem noDn {xs : List V} {a : Addr} (e : H a = some (.lst xs)) {w : HO} : (∀ xs c, H a = some (DnO a xs c) → (∃ ys, w = DnO a ys c) ∨ ∃ ys, w = .dK ys) ∧ ∀ xs, H a = some (.dK xs) → ∃ ys, w = .dK ys :=
  ⟨fun xs c q => by rw [e] at q; exact absurd q (by intro z; cases z), fun xs q => by rw [e] at q; exact absurd q (by intro z; cases z)⟩
theorem isDk {xs ys : List (L2.Key × V)} {a : Addr} (e : H a = some (.dK xs)) : (∀ xs c, H a = some (DnO a xs c) → (∃ zs, (HO.dK ys) = DnO a zs c) ∨ ∃ zs, HO.dK ys = .dK zs) ∧ ∀ xs, H a = some (.dK xs) → ∃ zs, HO.dK ys = .dK zs :=
  ⟨fun xs c q => .inr ⟨_, rfl⟩, fun _ _ => ⟨_, rfl⟩⟩
theorem Rel.writeO (R : Rel K φ h H) {k : Nat} {a : Addr} {u : O} {v : HO} (ea : φ[k]? = some a) (w : WX φ H φ (upd H a v)) (q : OR K φ (upd H a v) u a) : Rel K φ (h.set k u) (upd H a v) := by
  refine ⟨by rw [List.length_set]; exact R.len, fun n o b h1 h2 => ?_, R.inj, (let ⟨_, e, t⟩ := R.some_of (List.mem_of_getElem? ea); tabs_write R.tab e t), let ⟨_, e, t⟩ := R.some_of (List.mem_of_getElem? ea); Tau.keep R.inv (.write e t)⟩
  have hk : k < φ.length := (List.getElem?_eq_some_iff.mp ea).1
  by_cases hn : k = n
  · subst hn
    rw [List.getElem?_set_self (by rw [← R.len]; exact hk)] at h1
    rw [ea] at h2
    cases h1; cases h2
    exact q
  · rw [List.getElem?_set_ne hn] at h1
    refine (R.obj n o b h1 h2).mono R w (upd_ne fun z => hn ?_)
    subst z
    obtain ⟨p1, p2⟩ := List.getElem?_eq_some_iff.mp ea
    obtain ⟨q1, q2⟩ := List.getElem?_eq_some_iff.mp h2
    exact (List.getElem_inj R.inj).mp (p2.trans q2.symm)
theorem WX.write (R : Rel K φ h H) {k : Nat} {a : Addr} {xs ys : List V} (ea : φ[k]? = some a) (e : H a = some (.lst xs)) : WX φ H φ (upd H a (.lst ys)) := WX.writeO R ea (noDn e)
theorem Rel.write (R : Rel K φ h H) {k : Nat} {a : Addr} {ds : List D} {xs ys : List V} (ea : φ[k]? = some a) (e : H a = some (.lst xs)) (r : VRs K φ H ds ys) : Rel K φ (h.set k (.lst ds)) (upd H a (.lst ys)) :=
  R.writeO ea (WX.write R ea e) ⟨ys, upd_same, r.mono R (WX.write R ea e)⟩
theorem DnC.upd {p : Addr} {o : HO} (hp : H p = none) (d : KpD H H') : KpD H (upd H' p o) := by
  refine ⟨fun a c ⟨xs, q⟩ => ?_, fun a ⟨xs, q⟩ => ?_⟩
  · rcases d.1 a c ⟨xs, q⟩ with ⟨ys, q2⟩ | ⟨ys, q2⟩
    · exact .inl ⟨ys, by rw [upd_ne (ne_of_none q hp)]; exact q2⟩
    · exact .inr ⟨ys, by rw [upd_ne (ne_of_none q hp)]; exact q2⟩
  · obtain ⟨ys, q2⟩ := d.2 a ⟨xs, q⟩
    exact ⟨ys, by rw [upd_ne (ne_of_none q hp)]; exact q2⟩
/-- something new comes that isn't tracked -/
theorem WX.new {p : Addr} {o : HO} (hp : H p = none) : WX φ H φ (upd H p o) :=
  ⟨[], by simp, fun _ z => by simp at z, fun b u hb q => .inl (by rw [upd_ne (ne_of_none q hp)]; exact q), DnC.upd hp .refl⟩
theorem Rel.notin (R : Rel K φ h H) {p : Addr} (hp : H p = none) : p ∉ φ := fun z => by
  obtain ⟨xs, q, _⟩ := R.some_of z
  rw [hp] at q; cases q
theorem Rel.new (R : Rel K φ h H) {p : Addr} {o : HO} (hp : H p = none) : Rel K φ h (upd H p o) :=
  ⟨R.len, fun n u b h1 h2 => (R.obj n u b h1 h2).mono R (WX.new hp) (upd_ne fun z => R.notin hp (by rw [← z]; exact List.mem_of_getElem? h2)), R.inj, (R.tab.ext fun b o q => by rw [upd_ne (ne_of_none q hp)]; exact q), Tau.keep R.inv (.new hp)⟩
theorem Rel.lst (R : Rel K φ h H) {k : Nat} {a : Addr} {ds : List D} (e : h[k]? = some (.lst ds)) (ea : φ[k]? = some a) : ∃ xs, H a = some (.lst xs) ∧ VRs K φ H ds xs := R.obj k _ a e ea

/-! ### what is wanted behind a step -/
/-- what is wished of an exception, by the slots -/
abbrev Wsh := Value → Option Addr → L2.St → Hp → Prop
def F0 : Wsh := fun _ _ _ _ => False
/-- an exception in the air -/
def XcR [Tau] (K : PySem.W.Frag) (φ : List Addr) (H : Hp) (c : Str) (fs : List (Str × D)) (cls : Value) (d : Option Addr) : Prop := ∃ C, cls = .ref C ∧ (c ∈ Tau.xs ∧ PySem.W.nsIn K mainGlobals c = some (some (.ref C))) ∧ XfR K φ H fs d
def Post [Tau] {α β : Type} (K : PySem.W.Frag) (E : XK) (φ : List Addr) (H : Hp) (B : List Addr → Hp → α → β → Prop) (o : Out α) (Q : β → Hp → Prop) : Prop :=
  match o with
  | .ok a h' => ∀ φ' H' b, WX φ H φ' H' → Rel K φ' h' H' → B φ' H' a b → Q b H'
  | .exc c fs h' => ∀ φ' H' cls d, WX φ H φ' H' → Rel K φ' h' H' → XcR K φ' H' c fs cls d → E cls d H'
  | .fail => False
abbrev BR (K : PySem.W.Frag) (H0 : Hp) : List Addr → Hp → RV → V → Prop := fun φ H => VRR K φ H H0
abbrev BD (K : PySem.W.Frag) : List Addr → Hp → D → V → Prop := fun φ H => VR K φ H
abbrev BDs (K : PySem.W.Frag) : List Addr → Hp → List D → List V → Prop := fun φ H => VRs K φ H
abbrev BE {α : Type} : List Addr → Hp → α → α → Prop := fun _ _ a b => a = b
end
/-- the readings by the evaluator -/
abbrev wAt (ω : Wsh) (σ : L2.St) : XK := fun c d H => ω c d σ H
section
variable [Tau]
def TEr (K : PySem.W.Frag) (ω : Wsh) (o : St → Hh → Out RV) : TE := fun σ H Q => ∃ φ h st, Rel K φ h H ∧ SR K φ H st σ ∧ Post K (wAt ω σ) φ H (BR K H) (o st h) Q
def TDr (K : PySem.W.Frag) (ω : Wsh) (o : St → Hh → Out D) : TE := fun σ H Q => ∃ φ h st, Rel K φ h H ∧ SR K φ H st σ ∧ Post K (wAt ω σ) φ H (BD K) (o st h) Q
def TBr (K : PySem.W.Frag) (ω : Wsh) (o : St → Hh → Out Bool) : TT := fun σ H Q => ∃ φ h st, Rel K φ h H ∧ SR K φ H st σ ∧ Post K (wAt ω σ) φ H BE (o st h) Q
def TAr (K : PySem.W.Frag) (ω : Wsh) (o : St → Hh → Out (List D)) : TA := fun σ H Q => ∃ φ h st, Rel K φ h H ∧ SR K φ H st σ ∧ Post K (wAt ω σ) φ H (BDs K) (o st h) Q
def TOr (K : PySem.W.Frag) (ω : Wsh) (o : St → Hh → Out (Option Int)) : TO := fun σ H Q => ∃ φ h st, Rel K φ h H ∧ SR K φ H st σ ∧ Post K (wAt ω σ) φ H BE (o st h) Q
/-- .. of a two-place operation -/
def TR2 (K : PySem.W.Frag) (p : RV → RV → Hh → Out RV) : R2 := fun x y H Q => ∃ φ h a b Ha Hb, Rel K φ h H ∧ VRR K φ H Ha a x ∧ VRR K φ H Hb b y ∧ ∃ E, Post K E φ H (BR K H) (p a b h) Q
def TR1 (K : PySem.W.Frag) (p : RV → Hh → Out RV) : V → Hp → VK → Prop := fun x H Q => ∃ φ h a Ha, Rel K φ h H ∧ VRR K φ H Ha a x ∧ ∃ E, Post K E φ H (BR K H) (p a h) Q
end

section
variable [Tau] {X : Cx} {a b : Expr} {pos : Pos} {ω : Wsh} {E : XK}
theorem pe_imp {e : Expr} {t t' : TE} (p : PE X e t) (k : ∀ σ H Q, t' σ H Q → t σ H Q) : PE X e t' := ⟨fun pins s σ H Q i q => p.run pins s σ H Q i (k σ H Q q)⟩
theorem pt_imp {e : Expr} {t t' : TT} (p : PT X e t) (k : ∀ σ H Q, t' σ H Q → t σ H Q) : PT X e t' := ⟨fun pins s σ H Q i q => p.run pins s σ H Q i (k σ H Q q)⟩
theorem pa_imp {e : List Expr} {t t' : TA} (p : PA X e t) (k : ∀ σ H Q, t' σ H Q → t σ H Q) : PA X e t' := ⟨fun pos pins s σ H Q i q => p.run pos pins s σ H Q i (k σ H Q q)⟩
theorem op_imp {f : Value → Value → Sem Value} {r r' : R2} (p : OpR X f r) (k : ∀ x y H Q, r' x y H Q → r x y H Q) : OpR X f r' := fun pins s σ H x y v u Q i r1 r2 q => p pins s σ H x y v u Q i r1 r2 (k x y H Q q)
variable {K : PySem.W.Frag} {φ φ1 : List Addr} {h h1 : Hh} {H H0 H1 : Hp} {st : St} {σ : L2.St} {α β γ δ : Type}
/-- a step, then the rest -/
theorem Post.seq {B : List Addr → Hp → β → γ → Prop} {B1 : List Addr → Hp → α → δ → Prop} {o : Out α} {f : α → Hh → Out β} {Q : γ → Hp → Prop} {Q1 : δ → Hp → Prop} (p : Post K E φ H B (Py.bnd o f) Q)
    (k : ∀ a h1, o = .ok a h1 → Post K E φ H B (f a h1) Q → ∀ φ1 H1 b, WX φ H φ1 H1 → Rel K φ1 h1 H1 → B1 φ1 H1 a b → Q1 b H1) : Post K E φ H B1 o Q1 := by
  cases o with
  | ok a h1 => exact k a h1 rfl p
  | exc => exact p
  | fail => exact p
/-- .. a later step, what is wanted told at the start -/
theorem Post.seqW {B : List Addr → Hp → β → γ → Prop} {B1 : List Addr → Hp → α → δ → Prop} {o : Out α} {f : α → Hh → Out β} {Q : γ → Hp → Prop} {Q1 : δ → Hp → Prop} (p : Post K E φ H B (Py.bnd o f) Q) (R : Rel K φ h H) (w : WX φ H φ1 H1) (R1 : Rel K φ1 h1 H1)
    (k : ∀ a h2, o = .ok a h2 → Post K E φ H B (f a h2) Q → ∀ φ2 H2 b, WX φ1 H1 φ2 H2 → Rel K φ2 h2 H2 → B1 φ2 H2 a b → Q1 b H2) : Post K E φ1 H1 B1 o Q1 := by
  cases o with
  | ok a h1 => exact k a h1 rfl p
  | exc c fs h2 => exact fun φ2 H2 cls d w2 R2 r => p φ2 H2 cls d (w.trans R R1 w2) R2 r
  | fail => exact p
theorem XcR.mono {φ' : List Addr} {H' : Hp} {c : Str} {fs : List (Str × D)} {cls : Value} {d : Option Addr} (R : Rel K φ h H) (w : WX φ H φ' H') (x : XcR K φ H c fs cls d) : XcR K φ' H' c fs cls d :=
  let ⟨C, e1, e2, r⟩ := x
  ⟨C, e1, e2, r.map (fun _ _ z => w.xd R z) fun _ _ r => r.mono R w⟩
theorem Post.shift {B B' : List Addr → Hp → α → β → Prop} {o : Out α} {Q : β → Hp → Prop} (p : Post K E φ H B o Q) (R : Rel K φ h H) (w : WX φ H φ1 H1) (R1 : Rel K φ1 h1 H1)
    (hB : ∀ φ' H' a b, (∀ c, H1 c = none → H c = none) → B' φ' H' a b → B φ' H' a b) : Post K E φ1 H1 B' o Q := by
  cases o with
  | ok a h2 => exact fun φ2 H2 b w2 R2 r => p φ2 H2 b (w.trans R R1 w2) R2 (hB _ _ _ _ (fun c => WX.fresh_back R R1 w) r)
  | exc c fs h2 => exact fun φ2 H2 cls d w2 R2 r => p φ2 H2 cls d (w.trans R R1 w2) R2 r
  | fail => exact p
theorem Post.shR {o : Out RV} {Q : VK} (p : Post K E φ H (BR K H) o Q) (R : Rel K φ h H) (w : WX φ H φ1 H1) (R1 : Rel K φ1 h1 H1) : Post K E φ1 H1 (BR K H1) o Q := p.shift R w R1 fun _ _ _ _ hb r => r.back hb
theorem Post.sh {B : List Addr → Hp → α → β → Prop} {o : Out α} {Q : β → Hp → Prop} (p : Post K E φ H B o Q) (R : Rel K φ h H) (w : WX φ H φ1 H1) (R1 : Rel K φ1 h1 H1) : Post K E φ1 H1 B o Q := p.shift R w R1 fun _ _ _ _ _ r => r
theorem Post.here {B : List Addr → Hp → α → β → Prop} {a : α} {b : β} {Q : β → Hp → Prop} (p : Post K E φ H B (.ok a h) Q) (R : Rel K φ h H) (r : B φ H a b) : Q b H := p φ H b WX.refl R r
/-- the same outcome, other wishes -/
theorem Post.imp {B B' : List Addr → Hp → α → β → Prop} {E' : XK} {o : Out α} {Q Q' : β → Hp → Prop} (p : Post K E φ H B o Q) (k : ∀ φ' h' H' a b, o = .ok a h' → WX φ H φ' H' → Rel K φ' h' H' → B' φ' H' a b → B φ' H' a b ∧ (Q b H' → Q' b H')) (ke : ∀ c d H, E c d H → E' c d H) : Post K E' φ H B' o Q' := by
  cases o with
  | ok a h1 => exact fun φ1 H1 b w1 R1 r1 => let z := k φ1 h1 H1 a b rfl w1 R1 r1; z.2 (p φ1 H1 b w1 R1 z.1)
  | exc c fs h2 => exact fun φ2 H2 cls d w2 R2 r => ke _ _ _ (p φ2 H2 cls d w2 R2 r)
  | fail => exact p

end
/-- no lambda in hand -/
abbrev Tau.off (τ : Tau) : Tau := ⟨τ.tabs, τ.xs, none, τ.inv, τ.keep⟩
section
variable {τ : Tau} {K : PySem.W.Frag} {φ : List Addr} {h : Hh} {H : Hp} {α β : Type}
theorem Rel.off (R : @Rel τ K φ h H) : @Rel τ.off K φ h H := @Rel.mk τ.off K φ h H (@Rel.len τ K φ h H R) (@Rel.obj τ K φ h H R) (@Rel.inj τ K φ h H R) (@Rel.tab τ K φ h H R) (@Rel.inv τ K φ h H R)
theorem Rel.on (R : @Rel τ.off K φ h H) : @Rel τ K φ h H := @Rel.mk τ K φ h H (@Rel.len τ.off K φ h H R) (@Rel.obj τ.off K φ h H R) (@Rel.inj τ.off K φ h H R) (@Rel.tab τ.off K φ h H R) (@Rel.inv τ.off K φ h H R)
theorem Post.off {E : XK} {B : List Addr → Hp → α → β → Prop} {o : Out α} {Q : β → Hp → Prop} (p : @Post τ α β K E φ H B o Q) : @Post τ.off α β K E φ H B o Q := by
  cases o with
  | ok a h' => exact fun φ' H' b w R r => p φ' H' b w R.on r
  | exc c fs h' => exact fun φ' H' cls d w R r => p φ' H' cls d w R.on r
  | fail => exact p
theorem Post.on {E : XK} {B : List Addr → Hp → α → β → Prop} {o : Out α} {Q : β → Hp → Prop} (p : @Post τ.off α β K E φ H B o Q) : @Post τ α β K E φ H B o Q := by
  cases o with
  | ok a h' => exact fun φ' H' b w R r => p φ' H' b w R.off r
  | exc c fs h' => exact fun φ' H' cls d w R r => p φ' H' cls d w R.off r
  | fail => exact p
end
section
variable [Tau] {X : Cx} {a b : Expr} {pos : Pos} {ω : Wsh} {E : XK} {K : PySem.W.Frag} {φ φ1 : List Addr} {h h1 : Hh} {H H0 H1 : Hp} {st : St} {σ : L2.St} {α β γ δ : Type}
/-- two operands -/
theorem two {oa ob : St → Hh → Out RV} {p : RV → RV → Hh → Out RV} {Q : VK} (q : TEr K ω (fun st h => Py.bnd (oa st h) fun x h => Py.bnd (ob st h) fun y h => p x y h) σ H Q) :
    TEr K ω oa σ H fun x H1 => TEr K ω ob σ H1 fun y H2 => TR2 K p x y H2 Q := by
  obtain ⟨φ, h, st, R, S, q⟩ := q
  refine ⟨φ, h, st, R, S, ?_⟩
  refine Post.seq q fun x h1 e1 q φ1 H1 v1 w1 R1 r1 => ?_
  refine ⟨φ1, h1, st, R1, S.mono R w1, ?_⟩
  refine Post.seq (q.shR R w1 R1) fun y h2 e2 q φ2 H2 v2 w2 R2 r2 => ?_
  exact ⟨φ2, h2, x, y, H, H1, R2, r1.mono R1 w2, r2, _, q.shR R1 w2 R2⟩
theorem one {oa : St → Hh → Out RV} {p : RV → Hh → Out RV} {Q : VK} (q : TEr K ω (fun st h => Py.bnd (oa st h) p) σ H Q) : TEr K ω oa σ H fun x H1 => TR1 K p x H1 Q := by
  obtain ⟨φ, h, st, R, S, q⟩ := q
  refine ⟨φ, h, st, R, S, ?_⟩
  refine Post.seq q fun x h1 e1 q φ1 H1 v1 w1 R1 r1 => ?_
  exact ⟨φ1, h1, x, H, R1, r1, _, q.shR R w1 R1⟩

/-! ### names, constants -/
theorem je_var {i : Nat} {x : Str} (hp : ∀ f, Tau.pin ≠ some (i, f)) (hN : X.N[i]? = some x) (hv : Vis X.env.scope x) (hd : (x == ("__debug__" : Str)) = false) (hcd : (x == ("__classdict__" : Str)) = false) :
    PE X (.Name x pos) (TEr K ω fun st h => match st[i]? with | some (some d) => .ok (.val d) h | _ => .fail) :=
  pe_imp (pe_var hN hv hd hcd) fun σ H Q ⟨φ, h, st, R, S, q⟩ => by
    cases e : st[i]? with
    | none => simp only [e] at q; exact q.elim
    | some o =>
      cases o with
      | none => simp only [e] at q; exact q.elim
      | some d =>
        simp only [e] at q
        obtain ⟨v, ev, r⟩ := S.val hp d e
        exact ⟨v, ev, q.here R r⟩
theorem je_c {e : Expr} {v : V} {d : D} (p : PE X e (tC v)) (r : ∀ φ H, VR K φ H d v) : PE X e (TEr K ω fun _ h => .ok (.val d) h) :=
  pe_imp p fun σ H Q ⟨φ, h, st, R, S, q⟩ => q.here R (r φ H)

/-! ### operators -/
theorem je_bin {op : Operator} {oa ob : St → Hh → Out RV} {p : RV → RV → Hh → Out RV} (ho : OpR X (binaryOp op) (TR2 K p)) (ha : PE X a (TEr K ω oa)) (hb : PE X b (TEr K ω ob)) :
    PE X (.BinOp a op b pos) (TEr K ω fun st h => Py.bnd (oa st h) fun x h => Py.bnd (ob st h) fun y h => p x y h) := pe_imp (pe_op ho ha hb) fun _ _ _ q => two q
theorem je_cmp {op : CmpOp} {oa ob : St → Hh → Out RV} {p : RV → RV → Hh → Out RV} (ho : OpR X (compareOp op) (TR2 K p)) (ha : PE X a (TEr K ω oa)) (hb : PE X b (TEr K ω ob)) (hm : behindInMarks op b = false) :
    PE X (.Compare a [op] [b] pos) (TEr K ω fun st h => Py.bnd (oa st h) fun x h => Py.bnd (ob st h) fun y h => p x y h) := pe_imp (pe_cmpR ho ha hb hm) fun _ _ _ q => two q

theorem VRR.int {φ : List Addr} {i : Int} {v : V} (r : VRR K φ H H0 (.val (.int i)) v) : v = .int i := by cases r; rfl
theorem VRR.bl {φ : List Addr} {i : Bool} {v : V} (r : VRR K φ H H0 (.val (.bl i)) v) : v = .bl i := by cases r; rfl
theorem VRR.str {φ : List Addr} {i : Str} {v : V} (r : VRR K φ H H0 (.val (.str i)) v) : v = .str i := by cases r; rfl
theorem VRR.non {φ : List Addr} {v : V} (r : VRR K φ H H0 (.val .non) v) : v = .non := by cases r; rfl
theorem VRR.tup {φ : List Addr} {ds : List D} {v : V} (r : VRR K φ H H0 (.val (.tup ds)) v) : ∃ a xs, v = .ref a ∧ SqT K H a xs ∧ VRs K φ H ds xs := by
  cases r with
  | tup q r => exact ⟨_, _, rfl, q, r⟩
theorem lstOf_ok {φ : List Addr} {x : RV} {v : V} {ds : List D} (R : Rel K φ h H) (r : VRR K φ H H0 x v) (e : lstOf h x = some ds) : ∃ a xs, v = .ref a ∧ H a = some (.lst xs) ∧ VRs K φ H ds xs := by
  cases x with
  | raw es =>
    cases e
    obtain ⟨a, xs, e, _, _, q, r⟩ := r
    exact ⟨a, xs, e, q, r⟩
  | val d =>
    cases r with
    | @ref n a ea =>
      simp only [lstOf] at e
      cases e2 : h[n]? with
      | none => rw [e2] at e; cases e
      | some o =>
        cases o with
        | dct kvs => rw [e2] at e; cases e
        | dcn kvs => rw [e2] at e; cases e
        | xc _ _ => rw [e2] at e; cases e
        | lst es =>
          rw [e2] at e
          cases e
          obtain ⟨xs, q, r⟩ := R.lst e2 ea
          exact ⟨a, xs, rfl, q, r⟩
    | _ => cases e
theorem seqOf_ok {φ : List Addr} {x : RV} {v : V} {ds : List D} (R : Rel K φ h H) (r : VRR K φ H H0 x v) (e : seqOf h x = some ds) : ∃ a xs, v = .ref a ∧ (SqL K H a xs ∨ SqT K H a xs) ∧ VRs K φ H ds xs := by
  cases x with
  | raw es =>
    cases e
    obtain ⟨a, xs, e, _, _, q, r⟩ := r
    exact ⟨a, xs, e, .inl (SqL.of q), r⟩
  | val d =>
    cases r with
    | @ref n a ea =>
      simp only [seqOf] at e
      cases e2 : h[n]? with
      | none => rw [e2] at e; cases e
      | some o =>
        cases o with
        | dct kvs => rw [e2] at e; cases e
        | dcn kvs => rw [e2] at e; cases e
        | xc _ _ => rw [e2] at e; cases e
        | lst es =>
          rw [e2] at e
          cases e
          obtain ⟨xs, q, r⟩ := R.lst e2 ea
          exact ⟨a, xs, rfl, .inl (SqL.of q), r⟩
    | tup q r =>
      cases e
      exact ⟨_, _, rfl, .inr q, r⟩
    | rl q r =>
      cases e
      exact ⟨_, _, rfl, .inl q.seq, r⟩
    | _ => cases e
theorem SZ_eq : SZ = sizeLine := by rw [sizeLine_eq]; rfl
/-- a new list, not tracked so far -/
theorem raw_new {φ : List Addr} {p : Addr} {ds : List D} {xs : List V} {Q : VK} (R : Rel K φ h H) (hp : H p = none) (r : VRs K φ H ds xs) (q : Post K E φ H (BR K H) (.ok (.raw ds) h) Q) : Q (.ref p) (upd H p (.lst xs)) :=
  q φ _ _ (WX.new hp) (R.new hp) ⟨p, xs, rfl, hp, R.notin hp, upd_same, r.mono R (WX.new hp)⟩
theorem tup_new {φ : List Addr} {p : Addr} {ds : List D} {xs : List V} {Q : VK} (R : Rel K φ h H) (hp : H p = none) (r : VRs K φ H ds xs) (q : Post K E φ H (BR K H) (.ok (.val (.tup ds)) h) Q) : Q (.ref p) (upd H p (.tup xs)) :=
  q φ _ _ (WX.new hp) (R.new hp) (VR.tup (SqT.of upd_same) (r.mono R (WX.new hp)))

theorem okMul_C {i j : Int} (h : okMul i j = true) : CMul i j := by
  unfold okMul at h
  simp only [Bool.or_eq_true, Bool.and_eq_true, decide_eq_true_eq] at h
  exact h
theorem bin_ok (o : Operator) : OpR X (binaryOp o) (TR2 X.K (opBin o)) := by
  intro pins s σ H x y v u Q I rx ry ⟨φ, h, a, b, Ha, Hb, R, ra, rb, E, q⟩
  unfold opBin at q
  split at q
  · rename_i i j
    obtain rfl := ra.int
    obtain rfl := rb.int
    split at q
    · exact op_add pins s σ H _ _ v u Q I rx ry ⟨i, j, rfl, rfl, q.here R (VR.int _)⟩
    · exact op_sub pins s σ H _ _ v u Q I rx ry ⟨i, j, rfl, rfl, q.here R (VR.int _)⟩
    · split at q
      · exact op_mul pins s σ H _ _ v u Q I rx ry ⟨i, j, rfl, rfl, okMul_C (by assumption), q.here R (VR.int _)⟩
      · exact q.elim
    · split at q
      · exact op_mod pins s σ H _ _ v u Q I rx ry ⟨i, j, rfl, rfl, by assumption, q.here R (VR.int _)⟩
      · exact q.elim
    · split at q
      · exact op_fdiv pins s σ H _ _ v u Q I rx ry ⟨i, j, rfl, rfl, by assumption, q.here R (VR.int _)⟩
      · exact q.elim
    · split at q
      · exact op_pow pins s σ H _ _ v u Q I rx ry ⟨i, j, rfl, rfl, by assumption, q.here R (VR.int _)⟩
      · exact q.elim
    · split at q
      · exact op_shl pins s σ H _ _ v u Q I rx ry ⟨i, j, rfl, rfl, by assumption, q.here R (VR.int _)⟩
      · exact q.elim
    · split at q
      · exact op_shr pins s σ H _ _ v u Q I rx ry ⟨i, j, rfl, rfl, by assumption, q.here R (VR.int _)⟩
      · exact q.elim
    · exact op_and pins s σ H _ _ v u Q I rx ry ⟨i, j, rfl, rfl, q.here R (VR.int _)⟩
    · exact q.elim
  · rename_i i j
    obtain rfl := ra.str
    obtain rfl := rb.str
    split at q
    · split at q
      · exact op_add_str pins s σ H _ _ v u Q I rx ry ⟨i, j, rfl, rfl, by rw [← SZ_eq]; assumption, q.here R (VR.str _)⟩
      · exact q.elim
    · exact q.elim
  · obtain ⟨a1, xs, rfl, s1, r1⟩ := ra.tup
    obtain ⟨a2, ys, rfl, s2, r2⟩ := rb.tup
    split at q
    · split at q
      · refine op_catA pins s σ H _ _ v u Q I rx ry ⟨a1, a2, xs, ys, rfl, rfl, s1, s2, by rw [← SZ_eq, r1.length, r2.length]; assumption, fun z => ?_, fun z1 z2 => ?_, fun _ _ p hp => tup_new R hp (r1.append r2) q⟩
        · subst z
          have e1 := List.length_eq_zero_iff.mp r1.length.symm
          rw [e1] at q
          exact q.here R (VR.tup s2 r2)
        · subst z2
          have e1 := List.length_eq_zero_iff.mp r2.length.symm
          rw [e1, List.append_nil] at q
          exact q.here R (VR.tup s1 r1)
      · exact q.elim
    · exact q.elim
  · rename_i es k
    obtain ⟨a1, xs, rfl, s1, r1⟩ := ra.tup
    obtain rfl := rb.int
    split at q
    · split at q
      · rename_i hc
        obtain ⟨c1, c2, c3, c4⟩ := hc
        by_cases k1 : k = 1
        · subst k1
          have e1 : ∀ ds : List D, (List.replicate (1 : Int).toNat ds).flatten = ds := fun ds => List.append_nil ds
          rw [e1] at q
          exact op_repT1 pins s σ H _ _ v u Q I rx ry ⟨a1, xs, rfl, rfl, s1, q.here R (VR.tup s1 r1)⟩
        by_cases k0 : k = 0
        · subst k0
          refine op_repT0 pins s σ H _ _ v u Q I rx ry ⟨a1, xs, rfl, rfl, s1, fun z => c1 ?_, fun p hp => tup_new R hp (ds := []) .nil q⟩
          have e := r1.length
          rw [z] at e
          exact List.length_eq_zero_iff.mp e.symm
        have c2 : 2 ≤ k := by omega
        refine op_repT pins s σ H _ _ v u Q I rx ry ⟨a1, k, xs, rfl, rfl, s1, fun z => c1 ?_, c2, c3, by rw [r1.length]; exact c4, fun p hp => tup_new R hp (r1.rep _) q⟩
        have e := r1.length
        rw [z] at e
        exact List.length_eq_zero_iff.mp e.symm
      · exact q.elim
    · exact q.elim
  · obtain rfl := rb.int
    split at q
    · rename_i e1
      split at q
      · rename_i hc
        obtain ⟨a1, xs, rfl, s1, r1⟩ := lstOf_ok R ra e1
        exact op_rep pins s σ H _ _ v u Q I rx ry ⟨a1, _, xs, rfl, rfl, s1, hc.1, hc.2.1, by rw [← SZ_eq, r1.length]; exact hc.2.2, fun p hp => raw_new R hp (r1.rep _) q⟩
      · exact q.elim
    · exact q.elim
  · split at q
    · rename_i e1 e2
      split at q
      · obtain ⟨a1, xs, rfl, s1, r1⟩ := lstOf_ok R ra e1
        obtain ⟨a2, ys, rfl, s2, r2⟩ := lstOf_ok R rb e2
        exact op_cat pins s σ H _ _ v u Q I rx ry ⟨a1, a2, xs, ys, rfl, rfl, s1, s2, by rw [← SZ_eq, r1.length, r2.length]; assumption, fun p hp => raw_new R hp (r1.append r2) q⟩
      · exact q.elim
    · exact q.elim
end
end Py
/-! Core, part U: dicts: keys ints and texts; keys tuples. -/
namespace Py
open PySem PySem.Spec PyProof.Rows
open L2 hiding St start wipe

/-! ### keys -/
theorem keyD_cases {n : Nat} {d : D} (e : keyD n d = true) : (∃ i, d = .int i) ∨ d = .non ∨ ∃ m ds, n = m + 1 ∧ d = .tup ds ∧ ∀ x ∈ ds, keyD m x = true := by
  cases d with
  | int i => exact .inl ⟨i, rfl⟩
  | non => exact .inr (.inl rfl)
  | tup ds =>
    cases n with
    | zero => simp [keyD] at e
    | succ m => exact .inr (.inr ⟨m, ds, rfl, rfl, by simpa only [keyD, List.all_eq_true] using e⟩)
  | _ => cases n <;> simp [keyD] at e
theorem hash_nks (w : World) {n : Nat} (ih : ∀ d, keyD n d = true → (nkD d).hash w = hD d) : ∀ (ds : List D), (∀ d ∈ ds, keyD n d = true) → NestedKey.hashes w (nkDs ds) = hDs ds
  | [], _ => by simp only [nkDs, NestedKey.hashes, hDs]
  | d :: ds, e => by
    simp only [nkDs, NestedKey.hashes, hDs]
    rw [ih d (e d List.mem_cons_self), hash_nks w ih ds fun x hx => e x (List.mem_cons_of_mem _ hx)]
theorem hash_nk (w : World) : ∀ (n : Nat) (d : D), keyD n d = true → (nkD d).hash w = hD d := by
  intro n
  induction n with
  | zero =>
    intro d e
    rcases keyD_cases e with ⟨i, rfl⟩ | rfl | ⟨m, ds, z, rfl, k⟩
    · simp only [nkD, NestedKey.hash, hD]
    · simp only [nkD, NestedKey.hash, hD]
    · cases z
  | succ n ih =>
    intro d e
    rcases keyD_cases e with ⟨i, rfl⟩ | rfl | ⟨m, ds, z, rfl, k⟩
    · simp only [nkD, NestedKey.hash, hD]
    · simp only [nkD, NestedKey.hash, hD]
    · cases z
      simp only [nkD, NestedKey.hash, hD]
      rw [hash_nks w ih ds k]
mutual
def dK : NestedKey → D
  | .num i => .int i
  | .tup ks => .tup (dKs ks)
  | _ => .non
def dKs : List NestedKey → List D
  | [] => []
  | k :: ks => dK k :: dKs ks
end
theorem dk_nks {n : Nat} (ih : ∀ d, keyD n d = true → dK (nkD d) = d) : ∀ (ds : List D), (∀ d ∈ ds, keyD n d = true) → dKs (nkDs ds) = ds
  | [], _ => by simp only [nkDs, dKs]
  | d :: ds, e => by
    simp only [nkDs, dKs]
    rw [ih d (e d List.mem_cons_self), dk_nks ih ds fun x hx => e x (List.mem_cons_of_mem _ hx)]
theorem dk_nk : ∀ (n : Nat) (d : D), keyD n d = true → dK (nkD d) = d := by
  intro n
  induction n with
  | zero =>
    intro d e
    rcases keyD_cases e with ⟨i, rfl⟩ | rfl | ⟨m, ds, z, rfl, k⟩
    · simp only [nkD, dK]
    · simp only [nkD, dK]
    · cases z
  | succ n ih =>
    intro d e
    rcases keyD_cases e with ⟨i, rfl⟩ | rfl | ⟨m, ds, z, rfl, k⟩
    · simp only [nkD, dK]
    · simp only [nkD, dK]
    · cases z
      simp only [nkD, dK]
      rw [dk_nks ih ds k]
theorem nk_inj (n m : Nat) (d e : D) (hd : keyD n d = true) (he : keyD m e = true) (q : nkD d = nkD e) : d = e := by rw [← dk_nk n d hd, q, dk_nk m e he]
theorem isKey_D {d : D} (k : isKey d = true) : keyD 8 d = true := by
  cases d with
  | tup ds => exact k
  | _ => cases k
theorem nkey_iff {d e : D} (hd : isKey d = true) (he : isKey e = true) : nkD d = nkD e ↔ d = e := ⟨nk_inj 8 8 d e (isKey_D hd) (isKey_D he), fun q => by rw [q]⟩

section
variable [Tau] {ω : Wsh} {ε : XK} {X : Cx} {pins : List (Addr × Obj)} {σ : L2.St} {H : Hp} {s : Shared} {φ : List Addr} {h : Hh}
theorem nks_ok (I : Inv X pins σ H s) {n : Nat} (ih : ∀ (d : D) (v : V) (u : Value), VR X.K φ H d v → RelV v u → keyD n d = true → NestedIs s.heap (nkD d) u ∧ (nkD d).depth ≤ n) :
    ∀ (ds : List D) (vs : List V) (us : List Value), VRs X.K φ H ds vs → Vals vs us → (∀ d ∈ ds, keyD n d = true) → NestedAll s.heap (nkDs ds) us ∧ NestedKey.depthAll (nkDs ds) ≤ n
  | [], _, _, .nil, .nil, _ => by simp only [nkDs, NestedKey.depthAll]; exact ⟨.nil, Nat.zero_le _⟩
  | d :: ds, _, _, .cons r t, .cons q z, k => by
    obtain ⟨a1, a2⟩ := ih d _ _ r q (k d List.mem_cons_self)
    obtain ⟨b1, b2⟩ := nks_ok I ih ds _ _ t z fun x hx => k x (List.mem_cons_of_mem _ hx)
    simp only [nkDs, NestedKey.depthAll]
    exact ⟨.cons a1 b1, by omega⟩
theorem nk_ok (I : Inv X pins σ H s) : ∀ (n : Nat) (d : D) (v : V) (u : Value), VR X.K φ H d v → RelV v u → keyD n d = true → NestedIs s.heap (nkD d) u ∧ (nkD d).depth ≤ n := by
  intro n
  induction n with
  | zero =>
    intro d v u r q k
    cases r with
    | int i => obtain ⟨t, rfl⟩ := q; simp only [nkD, NestedKey.depth]; exact ⟨.int i t, Nat.le_refl _⟩
    | non => cases q; simp only [nkD, NestedKey.depth]; exact ⟨.none, Nat.le_refl _⟩
    | _ => cases k
  | succ n ih =>
    intro d v u r q k
    cases r with
    | int i => obtain ⟨t, rfl⟩ := q; simp only [nkD, NestedKey.depth]; exact ⟨.int i t, Nat.zero_le _⟩
    | non => cases q; simp only [nkD, NestedKey.depth]; exact ⟨.none, Nat.zero_le _⟩
    | tup sq r =>
      cases q
      obtain ⟨its, rv, ⟨o, ho, hc, m, hd⟩, _⟩ := I.tuple sq
      obtain ⟨b1, b2⟩ := nks_ok I ih _ _ _ r rv (by simpa only [keyD, List.all_eq_true] using k)
      simp only [nkD, NestedKey.depth]
      exact ⟨.tup ho hc hd (by simpa using b1), by omega⟩
    | _ => cases k
theorem key_is (I : Inv X pins σ H s) {d : D} {b : Addr} (r : VR X.K φ H d (.ref b)) (k : isKey d = true) : (nestedKind X.prog X.w).is s.heap (nkD d) b := nk_ok I 8 d _ _ r rfl (isKey_D k)

/-! ### a dict's entries -/
def tri (xs : List (D × Addr × V)) (us : List Value) : List (NestedKey × Addr × Value) := (xs.zip us).map fun p => (nkD p.1.1, p.1.2.1, p.2)
def putX (xs : List (D × Addr × V)) (d : D) (b : Addr) (v : V) : List (D × Addr × V) := if (xs.any fun x => decide (x.1 = d)) = true then xs.map (fun x => if x.1 = d then (x.1, x.2.1, v) else x) else xs ++ [(d, b, v)]
theorem tri_cons (x : D × Addr × V) (xs : List (D × Addr × V)) (u : Value) (us : List Value) : tri (x :: xs) (u :: us) = (nkD x.1, x.2.1, u) :: tri xs us := rfl
theorem at_cons {K : Type} [DecidableEq K] (x : K × Addr × Value) (xs : List (K × Addr × Value)) (k : K) : atKey (x :: xs) k = if x.1 = k then some x.2 else atKey xs k := by
  unfold atKey
  by_cases e : x.1 = k <;> simp [List.find?_cons, e]
/-- what is found -/
theorem tri_at {d : D} (hd : isKey d = true) : ∀ (xs : List (D × Addr × V)) (us : List Value), Vals (xs.map (·.2.2)) us → (∀ x ∈ xs, isKey x.1 = true) →
    (∀ x, (xs.find? fun x => decide (x.1 = d)) = some x → ∃ p, atKey (tri xs us) (nkD d) = some p ∧ RelV x.2.2 p.2) ∧ ((xs.find? fun x => decide (x.1 = d)) = none → atKey (tri xs us) (nkD d) = none)
  | [], _, .nil, _ => ⟨fun x e => by simp at e, fun _ => rfl⟩
  | x :: xs, _, .cons r t, k => by
    obtain ⟨a, b⟩ := tri_at hd xs _ t fun y hy => k y (List.mem_cons_of_mem _ hy)
    rw [tri_cons, at_cons]
    have e := nkey_iff (k x List.mem_cons_self) hd
    by_cases q : x.1 = d
    · rw [if_pos (e.mpr q)]
      refine ⟨fun y ey => ⟨_, rfl, ?_⟩, fun z => ?_⟩
      · rw [List.find?_cons_of_pos (by simpa using q)] at ey
        cases ey; exact r
      · rw [List.find?_cons_of_pos (by simpa using q)] at z; cases z
    · rw [if_neg fun z => q (e.mp z), List.find?_cons_of_neg (by simpa using q)]
      exact ⟨a, b⟩
theorem tri_map {d : D} (hd : isKey d = true) {v : V} {u : Value} (rv : RelV v u) : ∀ (xs : List (D × Addr × V)) (us : List Value), Vals (xs.map (·.2.2)) us → (∀ x ∈ xs, isKey x.1 = true) →
    ∃ ws, Vals ((xs.map fun x => if x.1 = d then (x.1, x.2.1, v) else x).map (·.2.2)) ws ∧ (tri xs us).map (putAt (nkD d) u) = tri (xs.map fun x => if x.1 = d then (x.1, x.2.1, v) else x) ws
  | [], _, .nil, _ => ⟨[], .nil, rfl⟩
  | x :: xs, u0 :: _, .cons r t, k => by
    obtain ⟨ws, a, b⟩ := tri_map hd rv xs _ t fun y hy => k y (List.mem_cons_of_mem _ hy)
    have e := nkey_iff (k x List.mem_cons_self) hd
    by_cases q : x.1 = d
    · refine ⟨u :: ws, ?_, ?_⟩
      · rw [List.map_cons, if_pos q]
        exact .cons rv a
      · rw [tri_cons, List.map_cons, List.map_cons, if_pos q, tri_cons, b, putAt, if_pos (e.mpr q)]
    · refine ⟨u0 :: ws, ?_, ?_⟩
      · rw [List.map_cons, if_neg q]
        exact .cons r a
      · rw [tri_cons, List.map_cons, List.map_cons, if_neg q, tri_cons, b, putAt, if_neg fun z => q (e.mp z)]
theorem any_find {α : Type} (p : α → Bool) : ∀ xs : List α, (xs.any p) = (xs.find? p).isSome
  | [] => rfl
  | x :: xs => by
    rw [List.any_cons]
    cases e : p x with
    | true => rw [List.find?_cons_of_pos e]; rfl
    | false => rw [List.find?_cons_of_neg (by rw [e]; exact Bool.false_ne_true), Bool.false_or]; exact any_find p xs
theorem zip_snoc {α β : Type} : ∀ {as : List α} {bs : List β} (a : α) (b : β), as.length = bs.length → (as ++ [a]).zip (bs ++ [b]) = as.zip bs ++ [(a, b)]
  | [], [], _, _, _ => rfl
  | _ :: as, _ :: bs, a, b, e => by simp only [List.cons_append, List.zip_cons_cons, zip_snoc a b (Nat.succ.inj e)]
theorem tri_put {d : D} (hd : isKey d = true) {v : V} {u : Value} {b : Addr} (rv : RelV v u) (xs : List (D × Addr × V)) (us : List Value) (t : Vals (xs.map (·.2.2)) us) (k : ∀ x ∈ xs, isKey x.1 = true) :
    ∃ ws, Vals ((putX xs d b v).map (·.2.2)) ws ∧ storedH (tri xs us) (nkD d) b u = tri (putX xs d b v) ws := by
  obtain ⟨f1, f2⟩ := tri_at hd xs us t k
  unfold putX storedH
  rw [any_find]
  cases e : xs.find? fun x => decide (x.1 = d) with
  | none =>
    rw [f2 e]
    refine ⟨us ++ [u], ?_, ?_⟩
    · rw [if_neg (by simp), List.map_append]
      exact Vals.append t (.cons rv .nil)
    · rw [if_neg (by simp), if_neg (by simp)]
      unfold tri
      rw [zip_snoc _ _ (by rw [← t.length, List.length_map]), List.map_append]
      rfl
  | some x =>
    obtain ⟨p, ep, _⟩ := f1 x e
    rw [ep]
    obtain ⟨ws, a, b⟩ := tri_map hd rv xs us t k
    exact ⟨ws, by rw [if_pos (by rfl)]; exact a, by rw [if_pos (by rfl), if_pos (by rfl)]; exact b⟩
abbrev DNs (K : PySem.W.Frag) (φ : List Addr) (H : Hp) : List (D × D) → List (D × Addr × V) → Prop := Paired fun p q => (isKey p.1 = true ∧ p.1 = q.1) ∧ VR K φ H p.1 (.ref q.2.1) ∧ VR K φ H p.2 q.2.2
variable {kvs : List (D × D)} {xs : List (D × Addr × V)} {K : PySem.W.Frag}
theorem DNs.keys (r : DNs K φ H kvs xs) : kvs.map (·.1) = xs.map (·.1) := by
  induction r with
  | nil => rfl
  | cons h t ih => rw [List.map_cons, List.map_cons, ih, h.1.2]
theorem DNs.all (r : DNs K φ H kvs xs) : ∀ x ∈ xs, isKey x.1 = true ∧ VR K φ H x.1 (.ref x.2.1) := by
  induction r with
  | nil => intro x hx; simp at hx
  | cons h t ih =>
    intro x hx
    rcases List.mem_cons.mp hx with rfl | hx
    · rw [← h.1.2]; exact ⟨h.1.1, h.2.1⟩
    · exact ih x hx
theorem DNs.look (r : DNs K φ H kvs xs) (d : D) : (∀ e, dlook kvs d = some e → ∃ x, (xs.find? fun x => decide (x.1 = d)) = some x ∧ VR K φ H e x.2.2) ∧ (dlook kvs d = none → (xs.find? fun x => decide (x.1 = d)) = none) := by
  induction r with
  | nil => exact ⟨fun e z => by simp [dlook] at z, fun _ => rfl⟩
  | @cons p q ps qs h t ih =>
    obtain ⟨⟨_, e1⟩, _, r2⟩ := h
    unfold dlook at ih ⊢
    by_cases z : p.1 = d
    · rw [List.find?_cons_of_pos (by simpa using z), List.find?_cons_of_pos (by rw [← e1]; simpa using z)]
      exact ⟨fun e ee => ⟨q, rfl, by cases ee; exact r2⟩, fun ee => by cases ee⟩
    · rw [List.find?_cons_of_neg (by simpa using z), List.find?_cons_of_neg (by rw [← e1]; simpa using z)]
      exact ih
theorem DNs.put (r : DNs K φ H kvs xs) {d e : D} {b : Addr} {v : V} (hd : isKey d = true) (rd : VR K φ H d (.ref b)) (re : VR K φ H e v) : DNs K φ H (dput kvs d e) (putX xs d b v) := by
  have lk := r.look d
  unfold dput putX
  rw [any_find]
  cases q : dlook kvs d with
  | none =>
    rw [lk.2 q, if_neg (by simp), if_neg (by simp)]
    exact Paired.snoc r ⟨⟨hd, rfl⟩, rd, re⟩
  | some e' =>
    obtain ⟨x, ex, _⟩ := lk.1 e' q
    rw [ex, if_pos (by rfl), if_pos (by rfl)]
    clear lk q ex
    induction r with
    | nil => exact .nil
    | @cons p q ps qs h t ih =>
      rw [List.map_cons, List.map_cons]
      refine .cons ?_ ih
      by_cases z : p.1 = d
      · rw [if_pos z, if_pos (h.1.2.symm.trans z)]
        exact ⟨h.1, h.2.1, re⟩
      · rw [if_neg z, if_neg fun y => z (h.1.2.trans y)]
        exact h
theorem dput_keys {kvs : List (D × D)} {d e : D} (n : (kvs.map (·.1)).Nodup) : ((dput kvs d e).map (·.1)).Nodup := by
  unfold dput
  cases q : dlook kvs d with
  | some x =>
    rw [if_pos (by rfl), List.map_map]
    have z : ((fun p : D × D => p.1) ∘ fun p => if p.1 = d then (p.1, e) else p) = (·.1) := by
      funext p
      by_cases h : p.1 = d <;> simp [h]
    rw [z]
    exact n
  | none =>
    rw [if_neg (by simp), List.map_append, List.nodup_append]
    refine ⟨n, by simp, fun x hx y hy z => ?_⟩
    simp at hy
    subst hy; subst z
    obtain ⟨p, hp, e1⟩ := List.mem_map.mp hx
    unfold dlook at q
    rw [Option.map_eq_none_iff, List.find?_eq_none] at q
    exact q p hp (by simpa using e1)
theorem dput_len (kvs : List (D × D)) (d e : D) : (dput kvs d e).length ≤ kvs.length + 1 := by
  unfold dput
  split
  · rw [List.length_map]; omega
  · rw [List.length_append]; simp
theorem DNs.length (r : DNs K φ H kvs xs) : kvs.length = xs.length := Paired.length r
/-- a dict, with the count of its changes -/
def DictE {prog : Program} {w : World} {K : Type} [DecidableEq K] (knd : HeapKind prog w K) (h : Heap) (d : Addr) (xs : List (K × Addr × Value)) (ep : Nat) : Prop :=
  ∃ o es, h.get? d = some o ∧ o.ExactDict ∧ o.data = .dict es ep ∧ es.toList = xs.map (entryOfKey knd) ∧ (∀ x ∈ xs, knd.is h x.1 x.2.1) ∧ (xs.map (·.1)).Nodup
section
variable {prog : Program} {w : World} {K : Type} [DecidableEq K] {knd : HeapKind prog w K} {A : Around} {E : Value → Shared → Prop} {s : Shared}
theorem DictE.of {h : Heap} {d : Addr} {xs : List (K × Addr × Value)} {ep : Nat} (x : DictE knd h d xs ep) : h.DictOfH knd d xs :=
  let ⟨o, es, a, b, c, d, e, f⟩ := x; ⟨o, es, ep, a, b, c, d, e, f⟩
theorem dictSetE {d a : Addr} {ep : Nat} {xs : List (K × Addr × Value)} {k : K} {v : Value} {Q : Unit → Shared → Prop} (hu : knd.room A) (hkey : knd.is s.heap k a) (hm : DictE knd s.heap d xs ep)
    (hQ : ∀ h' ep', DictE knd h' d (storedH xs k a v) ep' → (ep' : Int) - (storedH xs k a v).length = (ep : Int) - xs.length → Heap.SameBut d s.heap h' → Q () { s with heap := h', toks := s.toks + knd.draws k })
    (hsz : xs.length ≤ sizeLine := by size_fits) :
    wpAny (model prog w) A (dictSet d (.ref a) v) Q E s := by
  obtain ⟨o, es, ho, hc, hd, he, his, hn⟩ := hm
  unfold dictSet
  try with_reducible refine wpAny_holding ?_
  refine wpAny_bind (knd.pyHash hu hkey ?_)
  unfold dictSetHashed
  try with_reducible refine wpAny_holding ?_
  refine wpAny_bind (wpAny_dictFind_heap (s := { s with toks := s.toks + knd.draws k }) hu hkey ho hd he his hn ?_ ?_)
  · intro hno
    have hnot : k ∉ xs.map (·.1) := not_mem_keys_of_get hno
    refine wpAny_bind (wpAny_rule (wpAny_updateDictKeys (hz := by have e := size_of_entries he; omega) (s := { s with toks := s.toks + knd.draws k }) ho hd (hQ _ (ep + 1) ⟨_, _, Heap.get?_update_self _ ho (Obj.isFreed_of_dict (Obj.data_mapDictKeys hd _)),
      hc.mapDictKeys _, Obj.data_mapDictKeys hd _, ?_, ?_, ?_⟩ ?_ (Heap.SameBut.update ..))))
    · rw [storedH_new (atKey_none_of_get hno)]
      simp [he, entryOfKey]
    · rw [storedH_new (atKey_none_of_get hno)]
      intro x hx
      rcases List.mem_append.mp hx with hx | hx
      · exact knd.keeps (his x hx) ho hd (Heap.SameBut.update ..)
      · simp only [List.mem_singleton] at hx
        subst hx
        exact knd.keeps hkey ho hd (Heap.SameBut.update ..)
    · rw [storedH_new (atKey_none_of_get hno)]
      rw [List.map_append, List.nodup_append]
      refine ⟨hn, by simp, ?_⟩
      intro x hx y hy
      simp only [List.map_cons, List.map_nil, List.mem_singleton] at hy
      subst hy
      exact fun e => hnot (e ▸ hx)
    · rw [storedH_new (atKey_none_of_get hno), List.length_append, List.length_singleton]
      omega
  · intro j p hj
    refine wpAny_bind (wpAny_rule (wpAny_bind (wpAny_updateDict (s := { s with toks := s.toks + knd.draws k }) ho hd (wpAny_point (hQ _ ep ⟨_, _, Heap.get?_update_self _ ho (Obj.isFreed_of_dict (Obj.data_mapDict hd _)),
      hc.mapDict _, Obj.data_mapDict hd _, ?_, ?_, ?_⟩ ?_ (Heap.SameBut.update ..))))))
    · rw [storedH_old (atKey_of_get hn hj)]
      have := modify_map_putAt (entryOfKey knd) (fun e : DictEntry => { e with val := v }) k v (fun _ _ => rfl) hn hj
      rw [← he] at this
      obtain ⟨l⟩ := es
      simpa using this
    · rw [storedH_old (atKey_of_get hn hj)]
      intro x hx
      obtain ⟨y, hy, rfl⟩ := List.mem_map.mp hx
      unfold putAt
      split <;> exact knd.keeps (his y hy) ho hd (Heap.SameBut.update ..)
    · rw [storedH_old (atKey_of_get hn hj)]
      rw [keys_map_putAt]; exact hn
    · rw [storedH_old (atKey_of_get hn hj), List.length_map]
theorem setItemE {d a : Addr} {ep : Nat} {xs : List (K × Addr × Value)} {k : K} {v : Value} {Q : Unit → Shared → Prop} (hu : knd.room A.in1) (hkey : knd.is s.heap k a) (hm : DictE knd s.heap d xs ep)
    (hQ : ∀ h' ep', DictE knd h' d (storedH xs k a v) ep' → (ep' : Int) - (storedH xs k a v).length = (ep : Int) - xs.length → Heap.SameBut d s.heap h' → Q () { s with heap := h', toks := s.toks + knd.draws k })
    (hsz : xs.length ≤ sizeLine := by size_fits) :
    wpAny (model prog w) A (setItem (.ref d) (.ref a) v) Q E s := by
  unfold setItem
  try with_reducible refine wpAny_holding ?_
  refine wpAny_bind (wpAny_sequenceKey hm.of.typeIs (by decide) ?_)
  refine wpAny_bind (wpAny_callSpecial?_slot (name := Str.ofString "__setitem__") hm.of.typeIs slot_dict_setitem
    (wpAny_call_entry slot_dict_setitem hm.of.typeIs entry_dict_setitem ?_ (args_dict_setitem _ _ _)))
  show wpAny _ _ (Builtin.Dict.notOrdered "__setitem__" ⟨[.ref d, .ref a, v], []⟩ >>= _) _ _ s
  refine wpAny_bind (wpAny_notOrdered_dict hm.of.typeIs ?_)
  show wpAny _ _ (dictSet d (.ref a) v >>= _) _ _ s
  exact wpAny_bind (dictSetE (hsz := hsz) hu hkey hm fun h' ep' hm' hc' hs' => wpAny_pure ⟨.none, rfl, wpAny_pure (hQ h' ep' hm' hc' hs')⟩)
end
theorem tri_len {xs : List (D × Addr × V)} {us : List Value} (rv : Vals (xs.map (·.2.2)) us) : (tri xs us).length = xs.length := by
  unfold tri
  rw [List.length_map, List.length_zip, ← rv.length, List.length_map, Nat.min_self]
/-- the library's view of it -/
theorem dn_atE (I : Inv X pins σ H s) {a : Addr} {c : Int} (e : H a = some (DnO a xs c)) (n : (kvs.map (·.1)).Nodup) (r : DNs X.K φ H kvs xs) :
    (a == sysModules) = false ∧ xs.length ≤ sizeLine ∧ ∃ us ep, Vals (xs.map (·.2.2)) us ∧ DictE (nestedKind X.prog X.w) s.heap a (tri xs us) ep ∧ ((ep : Nat) : Int) = (xs.length : Nat) + c := by
  obtain ⟨⟨hs, hz, us, rv, o, es, ep, ho, hx, hd, he, hc⟩, _⟩ := (show ObjOk X.prog X.w H s.heap a (DnO a xs c) from I.hok a _ e)
  refine ⟨hs, hz, us, ep, rv, ⟨o, es, ho, hx, hd, ?_, ?_, ?_⟩, hc⟩
  · rw [he]
    unfold tri
    rw [List.map_map]
    refine List.map_congr_left fun p hp => ?_
    have hm : p.1 ∈ xs := (List.of_mem_zip hp).1
    show (⟨hD p.1.1, _, _⟩ : DictEntry) = ⟨(nkD p.1.1).hash X.w, _, _⟩
    rw [hash_nk X.w 8 _ (isKey_D (r.all _ hm).1)]
  · intro y hy
    obtain ⟨p, hp, rfl⟩ := List.mem_map.mp hy
    obtain ⟨k, q⟩ := r.all _ (List.of_mem_zip hp).1
    exact key_is I q k
  · have e1 : (tri xs us).map (·.1) = (xs.map (·.1)).map nkD := by
      unfold tri
      rw [List.map_map, List.map_map]
      have : ∀ (xs : List (D × Addr × V)) (us : List Value), xs.length = us.length → (xs.zip us).map ((fun x : NestedKey × Addr × Value => x.1) ∘ fun p => (nkD p.1.1, p.1.2.1, p.2)) = xs.map (nkD ∘ fun x => x.1) := by
        intro xs
        induction xs with
        | nil => intro us _; simp
        | cons x xs ih =>
          intro us hl
          cases us with
          | nil => simp at hl
          | cons u us => simp only [List.zip_cons_cons, List.map_cons, ih us (Nat.succ.inj hl)]; rfl
      exact this xs us (by rw [← rv.length, List.length_map])
    rw [e1, ← r.keys]
    rw [List.Nodup, List.pairwise_map]
    refine List.Pairwise.imp_of_mem (fun {x y} hx hy ne q => ne ?_) n
    have kk : ∀ z ∈ kvs.map (·.1), isKey z = true := fun z hz => by
      rw [r.keys] at hz
      obtain ⟨x, hx, rfl⟩ := List.mem_map.mp hz
      exact (r.all x hx).1
    exact (nkey_iff (kk x hx) (kk y hy)).mp q

theorem dn_at (I : Inv X pins σ H s) {a : Addr} {c : Int} (e : H a = some (DnO a xs c)) (n : (kvs.map (·.1)).Nodup) (r : DNs X.K φ H kvs xs) :
    (a == sysModules) = false ∧ xs.length ≤ sizeLine ∧ ∃ us, Vals (xs.map (·.2.2)) us ∧ s.heap.DictOfH (nestedKind X.prog X.w) a (tri xs us) :=
  let ⟨h1, h2, us, _, h3, h4, _⟩ := dn_atE I e n r; ⟨h1, h2, us, h3, h4.of⟩
/-- the count is told by what stands there -/
theorem dn_count (I : Inv X pins σ H s) {a : Addr} {c c' : Int} {ys : List (D × Addr × V)} (e : H a = some (DnO a xs c)) (e' : H a = some (DnO a ys c')) : c = c' ∧ xs.length = ys.length := by
  obtain ⟨⟨_, _, us, rv, o, es, ep, ho, _, hd, he, hc⟩, _⟩ := (show ObjOk X.prog X.w H s.heap a (DnO a xs c) from I.hok a _ e)
  obtain ⟨⟨_, _, us2, rv2, o2, es2, ep2, ho2, _, hd2, he2, hc2⟩, _⟩ := (show ObjOk X.prog X.w H s.heap a (DnO a ys c') from I.hok a _ e')
  rw [ho] at ho2
  cases ho2
  rw [hd] at hd2
  cases hd2
  have l1 : es.toList.length = xs.length := by rw [he, List.length_map, List.length_zip, ← rv.length, List.length_map, Nat.min_self]
  have l2 : es.toList.length = ys.length := by rw [he2, List.length_map, List.length_zip, ← rv2.length, List.length_map, Nat.min_self]
  exact ⟨by omega, l1.symm.trans l2⟩

/-! ### keys ints and texts -/
abbrev DKs' (K : PySem.W.Frag) (φ : List Addr) (H : Hp) : List (D × D) → List (L2.Key × V) → Prop := Paired fun p q => KD p.1 q.1 ∧ VR K φ H p.2 q.2
theorem KD.iff {d e : D} {k l : L2.Key} (a : KD d k) (b : KD e l) : d = e ↔ k = l := by
  cases d <;> cases k <;> first | exact a.elim | skip
  all_goals cases e <;> cases l <;> first | exact b.elim | skip
  all_goals simp only [KD] at a b; subst a; subst b; simp
theorem leaf_of {d : D} (k : isLeaf d = true) {v : V} (r : VR K φ H d v) : ∃ q, KD d q ∧ v = kV q := by
  cases r with
  | int i => exact ⟨.inl i, rfl, rfl⟩
  | str x => exact ⟨.inr x, rfl, rfl⟩
  | _ => cases k
variable {ks : List (L2.Key × V)}
theorem DKs'.look (r : DKs' K φ H kvs ks) {d : D} {k : L2.Key} (hk : KD d k) : (∀ e, dlook kvs d = some e → ∃ v, valV ks k = some v ∧ VR K φ H e v) ∧ (dlook kvs d = none → valV ks k = none) := by
  induction r with
  | nil => exact ⟨fun e z => by simp [dlook] at z, fun _ => rfl⟩
  | @cons p q ps qs h t ih =>
    have i := KD.iff h.1 hk
    unfold dlook at ih ⊢
    by_cases z : p.1 = d
    · rw [List.find?_cons_of_pos (by simpa using z), valV_pos (i.mp z)]
      exact ⟨fun e ee => ⟨q.2, rfl, by cases ee; exact h.2⟩, fun ee => by cases ee⟩
    · rw [List.find?_cons_of_neg (by simpa using z), valV_neg fun y => z (i.mpr y)]
      exact ih
theorem DKs'.put (r : DKs' K φ H kvs ks) {d e : D} {k : L2.Key} {v : V} (hk : KD d k) (re : VR K φ H e v) : DKs' K φ H (dput kvs d e) (putK ks k v) := by
  have lk := r.look hk
  unfold dput putK
  rw [valV_any]
  cases q : dlook kvs d with
  | none =>
    rw [lk.2 q, if_neg (by simp), if_neg (by simp)]
    exact Paired.snoc r ⟨hk, re⟩
  | some e' =>
    obtain ⟨x, ex, _⟩ := lk.1 e' q
    rw [ex, if_pos (by rfl), if_pos (by rfl)]
    clear lk q ex
    induction r with
    | nil => exact .nil
    | @cons p q ps qs h t ih =>
      rw [List.map_cons, List.map_cons]
      refine .cons ?_ ih
      have i := KD.iff h.1 hk
      by_cases z : p.1 = d
      · rw [if_pos z, if_pos (i.mp z)]
        exact ⟨h.1, re⟩
      · rw [if_neg z, if_neg fun y => z (i.mpr y)]
        exact h

/-! ### the operations -/
variable {A : Around} {E : Value → Shared → Prop} {a : Addr} {k : Nat} {t : Bool} {d e : D} {y v : V} {u r : Value}
/-- what a dict is, by its own place -/
theorem dOf_ok (R : Rel X.K φ h H) (ea : φ[k]? = some a) (o : dOf h (.val (.ref k)) = some (t, kvs)) :
    (t = false ∧ h[k]? = some (.dct kvs) ∧ ∃ ks, H a = some (.dK ks) ∧ DKs' X.K φ H kvs ks) ∨ (t = true ∧ h[k]? = some (.dcn kvs) ∧ (kvs.map (·.1)).Nodup ∧ ∃ xs c, H a = some (DnO a xs c) ∧ DNs X.K φ H kvs xs) := by
  simp only [dOf] at o
  cases q : h[k]? with
  | none => rw [q] at o; cases o
  | some ob =>
    rw [q] at o
    cases ob with
    | lst _ => cases o
    | xc _ _ => cases o
    | dct l =>
      cases o
      obtain ⟨ks, z, r⟩ := R.obj k _ a q ea
      exact .inl ⟨rfl, rfl, ks, z, r⟩
    | dcn l =>
      cases o
      obtain ⟨xs, c, z, n, r⟩ := R.obj k _ a q ea
      exact .inr ⟨rfl, rfl, n, xs, c, z, r⟩
theorem dct_type (R : Rel X.K φ h H) (I : Inv X pins σ H s) (ea : φ[k]? = some a) (o : dOf h (.val (.ref k)) = some (t, kvs)) : s.TypeIs (.ref a) "dict" := by
  rcases dOf_ok R ea o with ⟨_, _, ks, z, r⟩ | ⟨_, _, n, xs, cc, z, r⟩
  · obtain ⟨_, _, vs, _, dd⟩ := dk_of I.hok z
    exact dd.typeIs
  · obtain ⟨_, _, us, _, dd⟩ := dn_at I z n r
    exact dd.typeIs
theorem dct_get {Q : Value → Shared → Prop} (hu : A.units + 9 < cLine) (R : Rel X.K φ h H) (I : Inv X pins σ H s) (ea : φ[k]? = some a) (o : dOf h (.val (.ref k)) = some (t, kvs)) (ok : okKey t d = true) (rd : VR X.K φ H d y) (ru : RelV y u)
    (l : dlook kvs d = some e) (hQ : ∀ w' s' v, Inv X pins σ H s' → RelV v w' → VR X.K φ H e v → Q w' s') : wpAny (model X.prog X.w) A (getItem (.ref a) u) Q E s := by
  rcases dOf_ok R ea o with ⟨rfl, _, ks, z, r⟩ | ⟨rfl, _, n, xs, cc, z, r⟩
  · obtain ⟨q, hq, rfl⟩ := leaf_of (show isLeaf d = true from ok) rd
    obtain ⟨v, ev, rv⟩ := (r.look hq).1 e l
    exact d_getItem (by omega) I (ev ▸ DGet.k z) ru fun w' s' I' r' => hQ w' s' v I' r' rv
  · have ok : isKey d = true := ok
    cases rd with
    | tup sq rr =>
      cases ru
      obtain ⟨_, _, us, rv, dd⟩ := dn_at I z n r
      obtain ⟨x, ex, re⟩ := (r.look _).1 e l
      obtain ⟨p, ep, rp⟩ := (tri_at ok xs us rv fun x hx => (r.all x hx).1).1 x ex
      refine wpAny_getItem_heap (by show A.in1.units + 8 < cLine; have : A.in1.units = A.units + 1 := rfl; omega) (key_is I (VR.tup sq rr) ok) dd ep ?_
      exact hQ _ _ _ (I.tok _) rp re
    | _ => cases ok
theorem dct_in {Q : Value → Shared → Prop} (hu : A.units + 9 < cLine) (R : Rel X.K φ h H) (I : Inv X pins σ H s) (ea : φ[k]? = some a) (o : dOf h (.val (.ref k)) = some (t, kvs)) (ok : okKey t d = true) (rd : VR X.K φ H d y) (ru : RelV y u)
    (hQ : ∀ s', Inv X pins σ H s' → Q (.bool (dlook kvs d).isSome) s') : wpAny (model X.prog X.w) A (compareOp .In u (.ref a)) Q E s := by
  rcases dOf_ok R ea o with ⟨rfl, _, ks, z, r⟩ | ⟨rfl, _, n, xs, cc, z, r⟩
  · obtain ⟨q, hq, rfl⟩ := leaf_of (show isLeaf d = true from ok) rd
    refine d_in (by omega) I (DGet.k z) ru fun s' I' => ?_
    have : (valV ks q).isSome = (dlook kvs d).isSome := by
      cases l : dlook kvs d with
      | none => rw [(r.look hq).2 l]; rfl
      | some e => obtain ⟨v, ev, _⟩ := (r.look hq).1 e l; rw [ev]; rfl
    rw [this]
    exact hQ s' I'
  · have ok : isKey d = true := ok
    cases rd with
    | @tup ds0 b0 ys0 sq rr =>
      cases ru
      obtain ⟨hs, _, us, rv, dd⟩ := dn_at I z n r
      refine wpAny_in_heap (by show A.in1.units + 8 < cLine; have : A.in1.units = A.units + 1 := rfl; omega) (key_is I (VR.tup sq rr) ok) hs dd ?_
      have : (atKey (tri xs us) (nkD (.tup ds0))).isSome = (dlook kvs (.tup ds0)).isSome := by
        cases l : dlook kvs (.tup ds0) with
        | none => rw [(tri_at ok xs us rv fun x hx => (r.all x hx).1).2 ((r.look _).2 l)]; rfl
        | some e =>
          obtain ⟨x, ex, re⟩ := (r.look _).1 e l
          obtain ⟨p, ep, rp⟩ := (tri_at ok xs us rv fun x hx => (r.all x hx).1).1 x ex
          rw [ep]; rfl
      rw [this]
      exact hQ _ (I.tok _)
    | _ => cases ok
theorem dct_notin {Q : Value → Shared → Prop} (hu : A.units + 9 < cLine) (R : Rel X.K φ h H) (I : Inv X pins σ H s) (ea : φ[k]? = some a) (o : dOf h (.val (.ref k)) = some (t, kvs)) (ok : okKey t d = true) (rd : VR X.K φ H d y) (ru : RelV y u)
    (hQ : ∀ s', Inv X pins σ H s' → Q (.bool (!(dlook kvs d).isSome)) s') : wpAny (model X.prog X.w) A (compareOp .NotIn u (.ref a)) Q E s := by
  rcases dOf_ok R ea o with ⟨rfl, _, ks, z, r⟩ | ⟨rfl, _, n, xs, cc, z, r⟩
  · obtain ⟨q, hq, rfl⟩ := leaf_of (show isLeaf d = true from ok) rd
    refine d_notIn (by omega) I (DGet.k z) ru fun s' I' => ?_
    have : (valV ks q).isSome = (dlook kvs d).isSome := by
      cases l : dlook kvs d with
      | none => rw [(r.look hq).2 l]; rfl
      | some e => obtain ⟨v, ev, _⟩ := (r.look hq).1 e l; rw [ev]; rfl
    rw [this]
    exact hQ s' I'
  · have ok : isKey d = true := ok
    cases rd with
    | @tup ds0 b0 ys0 sq rr =>
      cases ru
      obtain ⟨hs, _, us, rv, dd⟩ := dn_at I z n r
      refine wpAny_notIn_heap (by show A.in1.units + 8 < cLine; have : A.in1.units = A.units + 1 := rfl; omega) (key_is I (VR.tup sq rr) ok) hs dd ?_
      have : (atKey (tri xs us) (nkD (.tup ds0))).isSome = (dlook kvs (.tup ds0)).isSome := by
        cases l : dlook kvs (.tup ds0) with
        | none => rw [(tri_at ok xs us rv fun x hx => (r.all x hx).1).2 ((r.look _).2 l)]; rfl
        | some e =>
          obtain ⟨x, ex, re⟩ := (r.look _).1 e l
          obtain ⟨p, ep, rp⟩ := (tri_at ok xs us rv fun x hx => (r.all x hx).1).1 x ex
          rw [ep]; rfl
      rw [this]
      exact hQ _ (I.tok _)
    | _ => cases ok
/-- the own heap behind a store -/
def putO (t : Bool) (kvs : List (D × D)) (d e : D) : O := if t = true then .dcn (dput kvs d e) else .dct (dput kvs d e)
theorem dct_put {Q : Unit → Shared → Prop} (hu : A.units + 9 < cLine) (R : Rel X.K φ h H) (I : Inv X pins σ H s) (ea : φ[k]? = some a) (o : dOf h (.val (.ref k)) = some (t, kvs)) (ok : okKey t d = true) (hl : kvs.length < SZ) (rd : VR X.K φ H d y) (ru : RelV y u) (re : VR X.K φ H e v) (rv : RelV v r)
    (hQ : ∀ s' w', Inv X pins σ (upd H a w') s' → WX φ H φ (upd H a w') → Rel X.K φ (h.set k (putO t kvs d e)) (upd H a w') → Q () s') : wpAny (model X.prog X.w) A (setItem (.ref a) u r) Q E s := by
  rcases dOf_ok R ea o with ⟨rfl, _, ks, z, rr⟩ | ⟨rfl, _, n, xs, cc, z, rr⟩
  · obtain ⟨q, hq, rfl⟩ := leaf_of (show isLeaf d = true from ok) rd
    refine d_setItem (by omega) I (DPut.k z (by rw [← SZ_eq, ← Paired.length rr]; exact hl)) ru rv fun s' I' => ?_
    have w := WX.writeO (u := .dK (putK ks q v)) R ea (isDk z)
    refine hQ s' _ I' w (R.writeO ea w ⟨_, upd_same, ?_⟩)
    exact Paired.mapP (rr.put hq re) fun _ _ z => ⟨z.1, z.2.mono R w⟩
  · have ok : isKey d = true := ok
    cases rd with
    | @tup ds b ys sq rd =>
      cases ru
      obtain ⟨hs, hz, us, ep0, rvs, dd, hc0⟩ := dn_atE I z n rr
      have hz2 : (tri xs us).length ≤ sizeLine := by
        unfold tri
        rw [List.length_map, List.length_zip]
        omega
      refine setItemE (hsz := hz2) (by show A.in1.units + 8 < cLine; have : A.in1.units = A.units + 1 := rfl; omega) (key_is I (VR.tup sq rd) ok) dd fun h' ep dd' hc' sb => ?_
      obtain ⟨ws, rws, ew⟩ := tri_put (b := b) ok rv xs us rvs fun x hx => (rr.all x hx).1
      obtain ⟨ob, es, ho, hx, hd, he, _⟩ := id dd'
      have hp := rr.put (b := b) ok (VR.tup sq rd) re
      rw [ew, tri_len rws, tri_len rvs] at hc'
      have hn : ObjOk X.prog X.w (upd H a (DnO a (putX xs (.tup ds) b v) cc)) h' a (DnO a (putX xs (.tup ds) b v) cc) := by
        refine ⟨⟨hs, ?_, ws, rws, ob, es, ep, ho, hx, hd, ?_, by omega⟩, ⟨ob, ho⟩, fun h1 h2 q k => ?_⟩
        · rw [← hp.length, ← SZ_eq]
          have := dput_len kvs (.tup ds) e
          omega
        · rw [he, ew]
          unfold tri
          rw [List.map_map]
          refine List.map_congr_left fun p hm => ?_
          show (⟨(nkD p.1.1).hash X.w, _, _⟩ : DictEntry) = ⟨hD p.1.1, _, _⟩
          rw [hash_nk X.w 8 _ (isKey_D (hp.all _ (List.of_mem_zip hm).1).1)]
        · obtain ⟨q1, q2, us, q3, o, es, ep, q4, q5⟩ := q
          exact ⟨q1, q2, us, q3, o, es, ep, k o q4, q5⟩
      have I' := d_write (t' := s.toks + (nestedKind X.prog X.w).draws (nkD (.tup ds))) I (by rw [z]; exact True.intro) sb ⟨ob, ho⟩ hn
      have w := WX.writeO (u := DnO a (putX xs (.tup ds) b v) cc) R ea ⟨fun ys c' e' => .inl (by rw [(dn_count I z e').1]; exact ⟨_, rfl⟩), fun ys e' => by rw [z] at e'; exact absurd e' (by intro z; cases z)⟩
      refine hQ _ _ I' w (R.writeO ea w ⟨_, _, upd_same, dput_keys n, ?_⟩)
      exact Paired.mapP hp fun _ _ z => ⟨z.1, z.2.1.mono R w, z.2.2.mono R w⟩
    | _ => cases ok
/-- {}, keys to be tuples -/
theorem dn_empty {P : Program} {w : World} {H : Hp} (h : Heap) (hb : sysModules < h.objs.size) : ObjOk P w H (h.push { cls := .type "dict", data := .dict #[] }) h.objs.size (DnO h.objs.size [] 0) :=
  ⟨⟨beq_eq_false_iff_ne.mpr (Ne.symm (Nat.ne_of_lt hb)), Nat.zero_le _, [], .nil, _, #[], 0, Heap.get?_push_size _ rfl, ⟨rfl, rfl, rfl⟩, rfl, rfl, rfl⟩, ⟨_, Heap.get?_push_size _ rfl⟩,
    fun h1 h2 ⟨q1, q2, us, q3, o, es, ep, q4, q5⟩ k => ⟨q1, q2, us, q3, o, es, ep, k o q4, q5⟩⟩
end
end Py
/-! Core, part 3: == of dicts and of lists that hold such, where they are alike. -/
namespace PySem.W
open Lean Elab Tactic Meta PySem PySem.Calls PyProof.Rows PyProof.V PySem.Spec
section
variable {prog : Program} {w : World} {K : Type} [DecidableEq K] {knd : HeapKind prog w K} {A : Around} {E : Value → Shared → Prop} {s : Shared}
theorem samePairsH {nm : String} {a b : Addr} {ka kb : List (K × Addr × Value)} {Q : Bool → Shared → Prop} (hu : knd.room A) (ha : (a == sysModules) = false) (hb : (b == sysModules) = false)
    (da : s.heap.DictOfH knd a ka) (db : s.heap.DictOfH knd b kb) (hl : ka.length = kb.length) (hits : ∀ x ∈ ka, ∃ p y, (x.1, p, y) ∈ kb ∧ SeqAt.EqP prog w A s x.2.2 y true) (h : Q true s) :
    wpAny (model prog w) A (Builtin.Dict.samePairs nm a b) Q E s := by
  obtain ⟨oa, es, ep, hoa, _, hda, hea, hia, hna⟩ := da
  obtain ⟨ob, es', ep', hob, _, hdb, heb, hib, hnb⟩ := db
  have hla : es.size = ka.length := size_of_entries hea
  have hlb : es'.size = kb.length := size_of_entries heb
  have hsz : es.size = es'.size := by omega
  unfold Builtin.Dict.samePairs Builtin.Dict.showsAll
  rw [if_neg (show ¬ (a == sysModules) = true by rw [ha]; exact Bool.false_ne_true), if_neg (show ¬ (b == sysModules) = true by rw [hb]; exact Bool.false_ne_true)]
  refine wpAny_bind (wpAny_pure (wpAny_bind (wpAny_pure ?_)))
  refine wpAny_bind (wpAny_dictEntries hoa hda ?_)
  dsimp only
  refine wpAny_bind (wpAny_dictEntries hob hdb ?_)
  rw [if_neg (by rw [hsz]; simp)]
  refine wpAny_bind (wpAny_dictEpoch hoa hda ?_)
  refine wpAny_bind ?_
  rw [Std.Legacy.Range.forIn_eq_forIn_range']
  simp only [Std.Legacy.Range.size, Nat.sub_zero, Nat.add_sub_cancel, Nat.div_one]
  refine wpAny_forIn_list _
    (fun rest q s' => s' = s ∧ q = (none, ()) ∧ ∃ i, rest = List.range' i (es.size - i) ∧ i ≤ es.size)
    _ ?_ ?_ _ _ ⟨rfl, rfl, 0, by simp, Nat.zero_le _⟩
  · rintro x rest q s' ⟨rfl, rfl, i, hr, hi⟩
    have hlt : i < es.size := by
      rcases Nat.lt_or_ge i es.size with h | h
      · exact h
      · rw [Nat.sub_eq_zero_of_le h] at hr; simp at hr
    obtain ⟨rfl, hrest⟩ : x = i ∧ rest = List.range' (i + 1) (es.size - (i + 1)) := by
      have e : es.size - i = (es.size - (i + 1)) + 1 := by omega
      rw [e, List.range'_succ] at hr
      injection hr with h1 h2
      exact ⟨h1, h2⟩
    refine wpAny_bind (wpAny_dictEntries hoa hda ?_)
    rw [Array.getElem?_eq_getElem hlt]
    have hlt' : x < ka.length := by rw [← hla]; exact hlt
    obtain ⟨k, c, v, hkv⟩ : ∃ k c v, ka[x] = (k, c, v) := ⟨_, _, _, rfl⟩
    have hent : es[x] = entryOfKey knd (k, c, v) := by
      have z := entry_at hea x
      rw [Array.getElem?_eq_getElem hlt, List.getElem?_eq_getElem hlt', Option.map_some, hkv] at z
      exact Option.some.inj z
    have hmem : (k, c, v) ∈ ka := hkv ▸ List.getElem_mem hlt'
    obtain ⟨p, y, hy, he⟩ := hits _ hmem
    change SeqAt.EqP prog w A _ v y true at he
    rw [hent]
    refine wpAny_bind (wpAny_holding (wpAny_bind (wpAny_dictFind_heap hu (hia _ hmem) hob hdb heb hib hnb (fun hn => ?_) fun j q hj => ?_)))
    · obtain ⟨j, hj⟩ := List.mem_iff_getElem?.mp hy
      exact absurd hj (hn j _)
    · have hqe : q = (p, y) := by
        obtain ⟨j2, hj2⟩ := List.mem_iff_getElem?.mp hy
        have g1 : (kb.map (·.1))[j]? = some k := by rw [List.getElem?_map, hj]; rfl
        have g2 : (kb.map (·.1))[j2]? = some k := by rw [List.getElem?_map, hj2]; rfl
        have e1 := (List.getElem?_eq_some_iff.mp g1).1
        have ej : j = j2 := (List.getElem?_inj e1 hnb).mp (g1.trans g2.symm)
        rw [ej, hj2] at hj
        exact (congrArg (·.2) (Option.some.inj hj)).symm
      subst hqe
      have hj' : es'[j]? = some (entryOfKey knd (k, p, y)) := by rw [entry_at heb j, hj]; rfl
      refine wpAny_bind (wpAny_dictEntries hob hdb ?_)
      rw [hj']
      refine wpAny_holding (he _ _ ?_)
      show wpAny _ _ (if (!true) = true then _ else _) _ _ _
      rw [if_neg (by decide)]
      refine wpAny_bind (wpAny_dictEpoch hoa hda ?_)
      rw [if_neg (by simp)]
      exact wpAny_pure ⟨rfl, rfl, x + 1, hrest, hlt⟩
  · rintro q s' ⟨rfl, rfl, i, hr, hi⟩
    exact wpAny_pure h
theorem rcP_dictsH {a b : Addr} {ka kb : List (K × Addr × Value)} (hk : knd.room A.in1) (ha : (a == sysModules) = false) (hb : (b == sysModules) = false)
    (da : s.heap.DictOfH knd a ka) (db : s.heap.DictOfH knd b kb) (hu : A.units < cLine) (hl : ka.length = kb.length) (hits : ∀ x ∈ ka, ∃ p y, (x.1, p, y) ∈ kb ∧ SeqAt.EqP prog w A.in1 s x.2.2 y true) (E Q : Value → Shared → Prop) (h : Q (.bool true) s) : wpAny (model prog w) A (richCompare .Eq (.ref a) (.ref b)) Q E s := by
  refine wpAny_richCompare_same_room (op := .Eq) da.typeIs db.typeIs PySem.F.slot_dict_eq (wpAny_call_entry PySem.F.slot_dict_eq da.typeIs PySem.F.entry_dict_eq ?_ (PySem.F.args_dict_eq_2 _ _)) hu
  show wpAny _ _ (Builtin.Dict.dictSlotArgs "__eq__" ⟨[.ref a, .ref b], []⟩ >>= _) _ _ s
  refine wpAny_bind ?_
  unfold Builtin.Dict.dictSlotArgs
  refine wpAny_bind (wpAny_notOrdered_dict da.typeIs ?_)
  show wpAny _ _ (pure (Value.ref a, Value.ref b)) _ _ s
  refine wpAny_pure ?_
  refine wpAny_bind (wpAny_isInstance (T := "dict") db.typeIs PySem.F.sub_dict_dict ?_)
  simp only [Bool.not_true, Bool.false_eq_true, if_false]
  refine wpAny_bind (wpAny_pure (wpAny_bind (wpAny_pure ?_)))
  refine wpAny_bind (samePairsH hk ha hb da db hl hits ?_)
  refine wpAny_pure ⟨_, rfl, ?_, ?_⟩
  · exact fun x => nomatch x
  · simpa using h
end
end PySem.W
namespace PySem.W
open Lean Elab Tactic Meta PySem PySem.Calls PyProof.Rows PyProof.V PySem.Spec
section
variable {prog : Program} {w : World} {K : Type} [DecidableEq K] {A : Around} {E : Value → Shared → Prop} {s : Shared}
theorem neP_dictsH {knd : HeapKind prog w K} {a b : Addr} {ka kb : List (K × Addr × Value)} {Q : Value → Shared → Prop} (hk : knd.room A.in1) (ha : (a == sysModules) = false) (hb : (b == sysModules) = false)
    (da : s.heap.DictOfH knd a ka) (db : s.heap.DictOfH knd b kb) (hu : A.units < cLine) (hl : ka.length = kb.length) (hits : ∀ x ∈ ka, ∃ p y, (x.1, p, y) ∈ kb ∧ SeqAt.EqP prog w A.in1 s x.2.2 y true) (h : Q (.bool false) s) :
    wpAny (model prog w) A (compareOp .NotEq (.ref a) (.ref b)) Q E s := by
  refine wpAny_richCompare_same_room (op := .NotEq) da.typeIs db.typeIs PySem.F.slot_dict_ne (wpAny_call_entry PySem.F.slot_dict_ne da.typeIs PySem.F.entry_dict_ne ?_ (PySem.F.args_dict_ne_2 _ _)) hu
  show wpAny _ _ (Builtin.Dict.dictSlotArgs "__ne__" ⟨[.ref a, .ref b], []⟩ >>= _) _ _ s
  refine wpAny_bind ?_
  unfold Builtin.Dict.dictSlotArgs
  refine wpAny_bind (wpAny_notOrdered_dict da.typeIs ?_)
  show wpAny _ _ (pure (Value.ref a, Value.ref b)) _ _ s
  refine wpAny_pure ?_
  refine wpAny_bind (wpAny_isInstance (T := "dict") db.typeIs PySem.F.sub_dict_dict ?_)
  simp only [Bool.not_true, Bool.false_eq_true, if_false]
  refine wpAny_bind (wpAny_pure (wpAny_bind (wpAny_pure ?_)))
  refine wpAny_bind (samePairsH hk ha hb da db hl hits ?_)
  refine wpAny_pure ⟨_, rfl, ?_, ?_⟩
  · exact fun x => nomatch x
  · simpa using h
theorem neP_dicts {knd : KeyKind prog w K} {a b : Addr} {ka kb : List (K × Value)} {Q : Value → Shared → Prop} (ha : (a == sysModules) = false) (hb : (b == sysModules) = false)
    (da : s.heap.DictOf knd a ka) (db : s.heap.DictOf knd b kb) (hu : A.units < cLine) (hl : ka.length = kb.length) (hits : KeqHitsP prog w A.in1 s kb ka true) (h : Q (.bool false) s) :
    wpAny (model prog w) A (compareOp .NotEq (.ref a) (.ref b)) Q E s := by
  refine wpAny_richCompare_same_room (op := .NotEq) da.typeIs db.typeIs PySem.F.slot_dict_ne (wpAny_call_entry PySem.F.slot_dict_ne da.typeIs PySem.F.entry_dict_ne ?_ (PySem.F.args_dict_ne_2 _ _)) hu
  show wpAny _ _ (Builtin.Dict.dictSlotArgs "__ne__" ⟨[.ref a, .ref b], []⟩ >>= _) _ _ s
  refine wpAny_bind ?_
  unfold Builtin.Dict.dictSlotArgs
  refine wpAny_bind (wpAny_notOrdered_dict da.typeIs ?_)
  show wpAny _ _ (pure (Value.ref a, Value.ref b)) _ _ s
  refine wpAny_pure ?_
  refine wpAny_bind (wpAny_isInstance (T := "dict") db.typeIs PySem.F.sub_dict_dict ?_)
  simp only [Bool.not_true, Bool.false_eq_true, if_false]
  refine wpAny_bind (wpAny_pure (wpAny_bind (wpAny_pure ?_)))
  refine wpAny_bind (samePairsP ha hb da db (fun _ => hits) ?_)
  refine wpAny_pure ⟨_, rfl, ?_, ?_⟩
  · exact fun x => nomatch x
  · rw [hl]
    simpa using h
end
end PySem.W
namespace Py
open PySem PySem.Spec PyProof.Rows
open L2 hiding St start wipe
section
variable [Tau] {ω : Wsh} {ε : XK} {X : Cx} {pins : List (Addr × Obj)} {σ : L2.St} {H : Hp} {s : Shared} {φ : List Addr} {h : Hh}
theorem items_alike {A : Around} {F : D → D → Bool} (ih : ∀ {d e : D} {x y : V} {v u : Value}, F d e = true → VR X.K φ H d x → VR X.K φ H e y → RelV x v → RelV y u → SeqAt.EqP X.prog X.w A s v u true) :
    ∀ {ds es : List D} {xs ys : List V} {us ws : List Value}, VRs X.K φ H ds xs → VRs X.K φ H es ys → Vals xs us → Vals ys ws → (ds.zip es).all (fun p => F p.1 p.2) = true → ∀ j (h1 : j < us.length) (h2 : j < ws.length), SeqAt.EqP X.prog X.w A s us[j] ws[j] true
  | _, _, _, _, _, _, .nil, _, .nil, _, _, j, h1, _ => absurd h1 (Nat.not_lt_zero j)
  | _, _, _, _, _, _, .cons _ _, .nil, _, .nil, _, j, _, h2 => absurd h2 (Nat.not_lt_zero j)
  | _, _, _, _, _, _, .cons r1 t1, .cons r2 t2, .cons a1 b1, .cons a2 b2, k, j, h1, h2 => by
    rw [List.zip_cons_cons, List.all_cons, Bool.and_eq_true] at k
    cases j with
    | zero => exact ih k.1 r1 r2 a1 a2
    | succ j => exact items_alike ih t1 t2 b1 b2 k.2 j (Nat.lt_of_succ_lt_succ h1) (Nat.lt_of_succ_lt_succ h2)
theorem hits_alike {A : Around} {F : D → D → Bool} (ih : ∀ {d e : D} {x y : V} {v u : Value}, F d e = true → VR X.K φ H d x → VR X.K φ H e y → RelV x v → RelV y u → SeqAt.EqP X.prog X.w A s v u true)
    {kb : List (D × D)} {ls : List (L2.Key × V)} {vb : List (L2.Key × Value)} (rb : DKs' X.K φ H kb ls) (qb : KV ls vb) : ∀ {ka : List (D × D)} {ks : List (L2.Key × V)} {va : List (L2.Key × Value)}, DKs' X.K φ H ka ks → KV ks va →
    (∀ p ∈ ka, ∃ v, dlook kb p.1 = some v ∧ F p.2 v = true) → PySem.W.KeqHitsP X.prog X.w A s vb va true
  | _, _, _, .nil, .nil, _ => .nil
  | _, _, _, .cons (a := p) (b := q) r t, .cons (b := z) r2 t2, hh => by
    obtain ⟨e, e1, e2⟩ := hh p List.mem_cons_self
    obtain ⟨v, ev, rv⟩ := (rb.look r.1).1 e e1
    have rr : RelO (some v) (valueAt vb q.1) := by rw [← ev]; exact qb.val q.1
    obtain ⟨y, hy, ry⟩ := rr.some_of
    obtain ⟨key, w⟩ := z
    obtain ⟨g1, g2⟩ := r2
    have g1 : q.1 = key := g1
    rw [g1] at hy
    show PySem.W.KeqHitsP X.prog X.w A s vb ((key, w) :: _) (true && true)
    exact .hit hy (ih e2 r.2 rv g2 ry) (hits_alike ih rb qb t t2 fun p' hp => hh p' (List.mem_cons_of_mem _ hp))
theorem tri_mem {d : D} {xs : List (D × Addr × V)} {us : List Value} {p : Addr × Value} (e : atKey (tri xs us) (nkD d) = some p) : (nkD d, p.1, p.2) ∈ tri xs us := by
  unfold atKey at e
  obtain ⟨x, e1, e2⟩ := Option.map_eq_some_iff.mp e
  have h1 := List.mem_of_find?_eq_some e1
  have h2 := List.find?_some e1
  simp only [decide_eq_true_eq, beq_iff_eq] at h2
  obtain ⟨x1, x2, x3⟩ := x
  cases e2
  cases h2
  exact h1
theorem hits_alikeN {A : Around} {F : D → D → Bool} (ih : ∀ {d e : D} {x y : V} {v u : Value}, F d e = true → VR X.K φ H d x → VR X.K φ H e y → RelV x v → RelV y u → SeqAt.EqP X.prog X.w A s v u true)
    {kb : List (D × D)} {ls : List (D × Addr × V)} {vb : List Value} (rb : DNs X.K φ H kb ls) (qb : Vals (ls.map (·.2.2)) vb) : ∀ {ka : List (D × D)} {ks : List (D × Addr × V)} {va : List Value}, DNs X.K φ H ka ks → Vals (ks.map (·.2.2)) va →
    (∀ p ∈ ka, ∃ v, dlook kb p.1 = some v ∧ F p.2 v = true) → ∀ x ∈ tri ks va, ∃ p y, (x.1, p, y) ∈ tri ls vb ∧ SeqAt.EqP X.prog X.w A s x.2.2 y true
  | _, _, _, .nil, .nil, _ => fun x hx => by simp [tri] at hx
  | _, _, _, .cons (a := p) (b := q) r t, .cons r2 t2, hh => by
    intro x hx
    rw [tri_cons] at hx
    rcases List.mem_cons.mp hx with rfl | hx
    · obtain ⟨e, e1, e2⟩ := hh p List.mem_cons_self
      obtain ⟨z, ez, rz⟩ := (rb.look _).1 e e1
      obtain ⟨p', ep, rp⟩ := (tri_at r.1.1 ls vb qb fun x hx => (rb.all x hx).1).1 z ez
      have m := tri_mem ep
      rw [r.1.2] at m
      exact ⟨p'.1, p'.2, m, ih e2 r.2.2 rz r2 rp⟩
    · exact hits_alikeN ih rb qb t t2 (fun p' hp => hh p' (List.mem_cons_of_mem _ hp)) x hx
theorem hitD_iff {F : D → D → Bool} {xs ys : List (D × D)} (e : HitD F xs ys = true) : xs.length = ys.length ∧ ∀ p ∈ xs, ∃ v, dlook ys p.1 = some v ∧ F p.2 v = true := by
  unfold HitD at e
  rw [Bool.and_eq_true, decide_eq_true_eq, List.all_eq_true] at e
  refine ⟨e.1, fun p hp => ?_⟩
  have := e.2 p hp
  split at this
  · exact ⟨_, by assumption, this⟩
  · cases this
end
end Py
/-! Core, part C: comparisons, truth, items, displays, calls of built-ins. -/
namespace Py
open PySem PySem.Spec PyProof.Rows
open L2 hiding St start wipe
section
variable [Tau] {ω : Wsh} {ε : XK} {X : Cx} {K : PySem.W.Frag} {φ φ1 : List Addr} {h h1 : Hh} {H H0 H1 : Hp} {st : St} {σ : L2.St} {α β γ : Type}

/-! ### what == sees -/
theorem allSome_cons {α β : Type} {f : α → Option β} {a : α} {as : List α} {bs : List β} (e : allSome f (a :: as) = some bs) : ∃ b cs, f a = some b ∧ allSome f as = some cs ∧ bs = b :: cs := by
  simp only [allSome] at e
  cases e1 : f a with
  | none => rw [e1] at e; cases e
  | some b =>
    cases e2 : allSome f as with
    | none => rw [e1, e2] at e; cases e
    | some cs =>
      rw [e1, e2] at e
      cases e
      exact ⟨b, cs, rfl, rfl, rfl⟩
theorem toPs_ok (hp : ∀ (d : D) (v : V) (p : PyData), VR K φ H d v → toP h n d = some p → Dp K H v p ∧ p.canLay0 = true ∧ p.depth ≤ n) :
    ∀ (ds : List D) (vs : List V) (ps : List PyData), VRs K φ H ds vs → allSome (toP h n) ds = some ps → DpAll K H vs ps ∧ PyData.canLayAll0 ps = true ∧ PyData.depthAll ps ≤ n
  | [], _, _, .nil, e => by
    cases e
    exact ⟨.nil, by simp [PyData.canLayAll0], by simp [PyData.depthAll]⟩
  | d :: ds, _, _, .cons r t, e => by
    obtain ⟨p, ps, e1, e2, rfl⟩ := allSome_cons e
    obtain ⟨a1, a2, a3⟩ := hp _ _ _ r e1
    obtain ⟨b1, b2, b3⟩ := toPs_ok hp ds _ ps t e2
    refine ⟨.cons a1 b1, by simp [PyData.canLayAll0, a2, b2], ?_⟩
    simp only [PyData.depthAll]
    omega
theorem toP_ok (R : Rel K φ h H) : ∀ (n : Nat) (d : D) (v : V) (p : PyData), VR K φ H d v → toP h n d = some p → Dp K H v p ∧ p.canLay0 = true ∧ p.depth ≤ n := by
  intro n
  induction n with
  | zero =>
    intro d v p r e
    cases r with
    | non => cases e; exact ⟨.non, by simp [PyData.canLay0], by simp [PyData.depth]⟩
    | bl b => cases e; exact ⟨.bl b, by simp [PyData.canLay0], by simp [PyData.depth]⟩
    | int i => cases e; exact ⟨.int i, by simp [PyData.canLay0], by simp [PyData.depth]⟩
    | str x =>
      simp only [toP] at e
      split at e
      · cases e; exact ⟨.str x, by assumption, by simp [PyData.depth]⟩
      · cases e
    | tup _ _ => cases e
    | ref _ => cases e
    | rl _ _ => cases e
  | succ n ih =>
    intro d v p r e
    have go : ∀ (ds : List D) (vs : List V) (ps : List PyData), VRs K φ H ds vs → allSome (toP h n) ds = some ps → DpAll K H vs ps ∧ PyData.canLayAll0 ps = true ∧ PyData.depthAll ps ≤ n := toPs_ok ih
    cases r with
    | non => cases e; exact ⟨.non, by simp [PyData.canLay0], by simp [PyData.depth]⟩
    | bl b => cases e; exact ⟨.bl b, by simp [PyData.canLay0], by simp [PyData.depth]⟩
    | int i => cases e; exact ⟨.int i, by simp [PyData.canLay0], by simp [PyData.depth]⟩
    | str x =>
      simp only [toP] at e
      split at e
      · cases e; exact ⟨.str x, by assumption, by simp [PyData.depth]⟩
      · cases e
    | tup q r =>
      simp only [toP] at e
      obtain ⟨ps, e1, rfl⟩ := Option.map_eq_some_iff.mp e
      obtain ⟨a1, a2, a3⟩ := go _ _ _ r e1
      exact ⟨.tup q a1, by simp [PyData.canLay0, a2], by simp only [PyData.depth]; omega⟩
    | rl q r =>
      simp only [toP] at e
      obtain ⟨ps, e1, rfl⟩ := Option.map_eq_some_iff.mp e
      obtain ⟨a1, a2, a3⟩ := go _ _ _ r e1
      exact ⟨.lst q.seq a1, by simp [PyData.canLay0, a2], by simp only [PyData.depth]; omega⟩
    | @ref k a ea =>
      simp only [toP] at e
      split at e
      · rename_i ds e2
        obtain ⟨ps, e1, rfl⟩ := Option.map_eq_some_iff.mp e
        obtain ⟨xs, q, r⟩ := R.lst e2 ea
        obtain ⟨a1, a2, a3⟩ := go _ _ _ r e1
        exact ⟨.lst (SqL.of q) a1, by simp [PyData.canLay0, a2], by simp only [PyData.depth]; omega⟩
      · cases e
theorem toPR_ok (R : Rel K φ h H) {a : RV} {v : V} {p : PyData} (r : VRR K φ H H0 a v) (e : toPR h a = some p) : Dp K H v p ∧ SeqAt.shaped p = true := by
  cases a with
  | val d =>
    obtain ⟨a1, a2, a3⟩ := toP_ok R 41 d v p r e
    exact ⟨a1, by simp only [SeqAt.shaped, a2, Bool.true_and, decide_eq_true_eq]; omega⟩
  | raw ds =>
    obtain ⟨a, xs, rfl, _, _, q, r⟩ := r
    obtain ⟨ps, e1, rfl⟩ := Option.map_eq_some_iff.mp e
    obtain ⟨a1, a2, a3⟩ := toPs_ok (toP_ok R 40) _ _ _ r e1
    refine ⟨.lst (SqL.of q) a1, ?_⟩
    have e2 : (PyData.list ps).depth = PyData.depthAll ps + 1 := by simp only [PyData.depth]
    have e3 : (PyData.list ps).canLay0 = true := by simp only [PyData.canLay0, a2]
    simp only [SeqAt.shaped, e2, e3, Bool.true_and, decide_eq_true_eq]
    omega

section
variable [Tau] {ω : Wsh} {ε : XK} {X : Cx} {pins : List (Addr × Obj)} {σ : L2.St} {s : Shared} {φ : List Addr} {h : Hh} {H : Hp}
/-- what stands at two places, alike -/
theorem dR_ok (I : Inv X pins σ H s) (R : Rel X.K φ h H) {F : D → D → Bool} {A : Around} (hu : A.units + 80 < cLine) (ih : ∀ {d e : D} {x y : V} {v u : Value}, F d e = true → VR X.K φ H d x → VR X.K φ H e y → RelV x v → RelV y u → SeqAt.EqP X.prog X.w A.in1 s v u true)
    {k m : Nat} {a b : Addr} (hk : dR h F k m = true) (ea : φ[k]? = some a) (eb : φ[m]? = some b) (E Q : Value → Shared → Prop) (q : Q (.bool true) s) : wpAny (model X.prog X.w) A (richCompare .Eq (.ref a) (.ref b)) Q E s := by
  unfold dR at hk
  split at hk
  · rename_i ds es e1 e2
    rw [Bool.and_eq_true, decide_eq_true_eq] at hk
    obtain ⟨xs, z1, r1⟩ := R.obj _ _ a e1 ea
    obtain ⟨ys, z2, r2⟩ := R.obj _ _ b e2 eb
    obtain ⟨us, w1, p1, _⟩ := I.list (show SqL X.K H a xs from .inl (.inl z1))
    obtain ⟨ws, w2, p2, _⟩ := I.list (show SqL X.K H b ys from .inl (.inl z2))
    have hsz : us.toArray.size = ws.toArray.size := by
      rw [List.size_toArray, List.size_toArray, ← w1.length, ← w2.length, VRs.length r1, VRs.length r2]
      exact hk.1
    refine SeqAt.rcP_lists (e := fun _ => true) p1.isList p2.isList hsz (by omega) (fun j h1 h2 => ?_) E Q ?_
    · have z := items_alike ih r1 r2 w1 w2 hk.2 j (by simpa using h1) (by simpa using h2)
      simpa using z
    · rw [show ((List.range us.toArray.size).all fun _ => true) = true from List.all_eq_true.mpr fun _ _ => rfl]
      exact q
  · rename_i ds es e1 e2
    obtain ⟨hl, hh⟩ := hitD_iff hk
    obtain ⟨ks, z1, r1⟩ := R.obj _ _ a e1 ea
    obtain ⟨ls, z2, r2⟩ := R.obj _ _ b e2 eb
    obtain ⟨_, ya, va, ra, da⟩ := (show ObjOk X.prog X.w H s.heap a (.dK ks) from I.hok a _ z1)
    obtain ⟨_, yb, vb, rb, db⟩ := (show ObjOk X.prog X.w H s.heap b (.dK ls) from I.hok b _ z2)
    refine PySem.W.rcP_dicts (knd := mixKind X.prog X.w) (r := true) ya yb da db (by omega) (fun _ => hits_alike ih r2 rb r1 ra hh) E Q ?_
    have e : va.length = vb.length := by rw [← ra.length, ← rb.length, ← Paired.length r1, ← Paired.length r2]; exact hl
    rw [show (va.length == vb.length && true) = true from by rw [e]; simp]
    exact q
  · rename_i ds es e1 e2
    obtain ⟨hl, hh⟩ := hitD_iff hk
    obtain ⟨ks, c1, z1, n1, r1⟩ := R.obj _ _ a e1 ea
    obtain ⟨ls, c2, z2, n2, r2⟩ := R.obj _ _ b e2 eb
    obtain ⟨ya, _, va, ra, da⟩ := dn_at I z1 n1 r1
    obtain ⟨yb, _, vb, rb, db⟩ := dn_at I z2 n2 r2
    refine PySem.W.rcP_dictsH (knd := nestedKind X.prog X.w) (by show A.in1.units + 8 < cLine; have : A.in1.units = A.units + 1 := rfl; omega) ya yb da db (by omega) (by rw [tri_len ra, tri_len rb, ← DNs.length r1, ← DNs.length r2]; exact hl) (hits_alikeN ih r2 rb r1 ra hh) E Q q
  · cases hk
theorem dE_ok (I : Inv X pins σ H s) (R : Rel X.K φ h H) : ∀ (n : Nat) (A : Around), A.units + n + 100 < cLine → ∀ {d e : D} {x y : V} {v u : Value}, dE h n d e = true → VR X.K φ H d x → VR X.K φ H e y → RelV x v → RelV y u → SeqAt.EqP X.prog X.w A s v u true
  | 0, _, _, _, _, _, _, _, _, k, _, _, _, _ => by cases k
  | n + 1, A, hu, d, e, x, y, v, u, k, rx, ry, rv, ru => by
    unfold dE at k
    rw [Bool.or_eq_true] at k
    rcases k with k | k
    · split at k
      · rename_i a b e1 e2
        obtain ⟨d1, s1⟩ := toPR_ok (H0 := H) R (a := .val d) rx e1
        obtain ⟨d2, s2⟩ := toPR_ok (H0 := H) R (a := .val e) ry e2
        obtain ⟨as, r1⟩ := Dp.reads I a x v d1 rv
        obtain ⟨bs, r2⟩ := Dp.reads I b y u d2 ru
        have z := SeqAt.eqAt_reads a b A s v u as bs r1 r2 (SeqAt.canLay_of_shaped s1) (SeqAt.canLay_of_shaped s2) (SeqAt.room_of_shaped s1 (by omega))
        rw [k] at z
        exact z.eqP
      · cases k
    · split at k
      · cases rx with
        | @ref _ a ea =>
          cases ry with
          | @ref _ b eb =>
            obtain rfl : v = .ref a := rv
            obtain rfl : u = .ref b := ru
            by_cases e : a = b
            · subst e
              exact (SeqAt.EqAt.same _).eqP
            · exact SeqAt.eqP_refs e fun E Q q => dR_ok I R (by omega) (dE_ok I R n A.in1 (by show A.units + 1 + n + 100 < cLine; omega)) k ea eb E Q q
      · cases k
/-- .. what != says of dicts -/
theorem dN_ok (I : Inv X pins σ H s) (R : Rel X.K φ h H) {F : D → D → Bool} {A : Around} (hu : A.units + 80 < cLine) (ih : ∀ {d e : D} {x y : V} {v u : Value}, F d e = true → VR X.K φ H d x → VR X.K φ H e y → RelV x v → RelV y u → SeqAt.EqP X.prog X.w A.in1 s v u true)
    {k m : Nat} {a b : Addr} (hk : dR h F k m = true) (hc : isDc h k = true) (ea : φ[k]? = some a) (eb : φ[m]? = some b) {E Q : Value → Shared → Prop} (q : Q (.bool false) s) : wpAny (model X.prog X.w) A (compareOp .NotEq (.ref a) (.ref b)) Q E s := by
  unfold dR at hk
  split at hk
  · rename_i ds es e1 e2
    unfold isDc at hc
    rw [e1] at hc
    cases hc
  · rename_i ds es e1 e2
    obtain ⟨hl, hh⟩ := hitD_iff hk
    obtain ⟨ks, z1, r1⟩ := R.obj _ _ a e1 ea
    obtain ⟨ls, z2, r2⟩ := R.obj _ _ b e2 eb
    obtain ⟨_, ya, va, ra, da⟩ := (show ObjOk X.prog X.w H s.heap a (.dK ks) from I.hok a _ z1)
    obtain ⟨_, yb, vb, rb, db⟩ := (show ObjOk X.prog X.w H s.heap b (.dK ls) from I.hok b _ z2)
    exact PySem.W.neP_dicts (knd := mixKind X.prog X.w) ya yb da db (by omega) (by rw [← ra.length, ← rb.length, ← Paired.length r1, ← Paired.length r2]; exact hl) (hits_alike ih r2 rb r1 ra hh) q
  · rename_i ds es e1 e2
    obtain ⟨hl, hh⟩ := hitD_iff hk
    obtain ⟨ks, c1, z1, n1, r1⟩ := R.obj _ _ a e1 ea
    obtain ⟨ls, c2, z2, n2, r2⟩ := R.obj _ _ b e2 eb
    obtain ⟨ya, _, va, ra, da⟩ := dn_at I z1 n1 r1
    obtain ⟨yb, _, vb, rb, db⟩ := dn_at I z2 n2 r2
    exact PySem.W.neP_dictsH (knd := nestedKind X.prog X.w) (by show A.in1.units + 8 < cLine; have : A.in1.units = A.units + 1 := rfl; omega) ya yb da db (by omega) (by rw [tri_len ra, tri_len rb, ← DNs.length r1, ← DNs.length r2]; exact hl) (hits_alikeN ih r2 rb r1 ra hh) q
  · cases hk
theorem dER_ref {ne : Bool} {x y : RV} (e : dER ne h x y = true) : ∃ k m, x = .val (.ref k) ∧ y = .val (.ref m) ∧ dR h (dE h 20) k m = true ∧ (ne = true → isDc h k = true) := by
  unfold dER at e
  split at e
  · rw [Bool.and_eq_true] at e
    refine ⟨_, _, rfl, rfl, e.1, fun z => ?_⟩
    have := e.2
    rw [z] at this
    simpa using this
  · cases e
end
theorem dOf_ref {x : RV} {v : V} {t : Bool} {kvs : List (D × D)} (r : VRR K φ H H0 x v) (o : dOf h x = some (t, kvs)) : ∃ k a, x = .val (.ref k) ∧ v = .ref a ∧ φ[k]? = some a := by
  cases x with
  | raw ds => cases o
  | val d =>
    cases r with
    | ref e => exact ⟨_, _, rfl, rfl, e⟩
    | _ => cases o
theorem VR.dec_non {d : D} {v : V} (r : VR K φ H d v) : decide (v = .non) = decide (d = .non) := by
  cases r <;> simp
/-- in a tuple of data -/
def rInT (K : PySem.W.Frag) : R2 := fun x y H Q => ∃ d ds, Dp K H x d ∧ Dp K H y (.tuple ds) ∧ SeqAt.shaped d = true ∧ SeqAt.shaped (.tuple ds) = true ∧ Q (.bl (ds.any fun z => PyData.eqv z d)) H
def rNotInT (K : PySem.W.Frag) : R2 := fun x y H Q => ∃ d ds, Dp K H x d ∧ Dp K H y (.tuple ds) ∧ SeqAt.shaped d = true ∧ SeqAt.shaped (.tuple ds) = true ∧ Q (.bl (!ds.any fun z => PyData.eqv z d)) H
theorem op_inT (hu : X.A.units + 65 < cLine) : OpR X (compareOp .In) (rInT X.K) := by
  rintro pins s σ H x y v u Q I rx ry ⟨d, ds, kx, ky, hd, he, q⟩
  obtain ⟨as, r1⟩ := Dp.reads I d x v kx rx
  obtain ⟨bs, r2⟩ := Dp.reads I (.tuple ds) y u ky ry
  exact SeqAt.in_tuple_reads r2 r1 (SeqAt.canLay_of_shaped he) (SeqAt.canLay_of_shaped hd) (room_in_shaped hd hu) ⟨.bl _, H, I, rfl, q⟩
theorem op_notInT (hu : X.A.units + 65 < cLine) : OpR X (compareOp .NotIn) (rNotInT X.K) := by
  rintro pins s σ H x y v u Q I rx ry ⟨d, ds, kx, ky, hd, he, q⟩
  obtain ⟨as, r1⟩ := Dp.reads I d x v kx rx
  obtain ⟨bs, r2⟩ := Dp.reads I (.tuple ds) y u ky ry
  exact SeqAt.notIn_tuple_reads r2 r1 (SeqAt.canLay_of_shaped he) (SeqAt.canLay_of_shaped hd) (room_in_shaped hd hu) ⟨.bl _, H, I, rfl, q⟩
theorem cmp_ok (hu : X.A.units + 128 < cLine) (o : CmpOp) : OpR X (compareOp o) (TR2 X.K (opCmp o)) := by
  intro pins s σ H x y v u Q I rx ry ⟨φ, h, a, b, Ha, Hb, R, ra, rb, ε, q⟩
  unfold opCmp at q
  split at q
  · split at q
    · rename_i p1 p2 e1 e2
      obtain ⟨d1, s1⟩ := toPR_ok R ra e1
      obtain ⟨d2, s2⟩ := toPR_ok R rb e2
      exact op_eqD (by omega) pins s σ H _ _ v u Q I rx ry ⟨p1, p2, d1, d2, s1, s2, q.here R (VR.bl _)⟩
    · split at q
      · rename_i z
        obtain ⟨k, m, rfl, rfl, hk, _⟩ := dER_ref z
        cases (show VR X.K φ H _ x from ra) with
        | @ref _ a ea =>
          cases (show VR X.K φ H _ y from rb) with
          | @ref _ b eb =>
            obtain rfl : v = Value.ref a := rx
            obtain rfl : u = Value.ref b := ry
            exact dR_ok I R (by omega) (dE_ok I R 20 X.A.in1 (by show X.A.units + 1 + 20 + 100 < cLine; omega)) hk ea eb _ _ ⟨.bl true, H, I, rfl, q.here R (VR.bl _)⟩
      · exact q.elim
  · split at q
    · rename_i p1 p2 e1 e2
      obtain ⟨d1, s1⟩ := toPR_ok R ra e1
      obtain ⟨d2, s2⟩ := toPR_ok R rb e2
      exact op_neD (by omega) pins s σ H _ _ v u Q I rx ry ⟨p1, p2, d1, d2, s1, s2, q.here R (VR.bl _)⟩
    · split at q
      · rename_i z
        obtain ⟨k, m, rfl, rfl, hk, hc⟩ := dER_ref z
        cases (show VR X.K φ H _ x from ra) with
        | @ref _ a ea =>
          cases (show VR X.K φ H _ y from rb) with
          | @ref _ b eb =>
            obtain rfl : v = Value.ref a := rx
            obtain rfl : u = Value.ref b := ry
            exact dN_ok I R (by omega) (dE_ok I R 20 X.A.in1 (by show X.A.units + 1 + 20 + 100 < cLine; omega)) hk (hc rfl) ea eb ⟨.bl false, H, I, rfl, q.here R (VR.bl _)⟩
      · exact q.elim
  · split at q
    · obtain rfl := ra.int
      obtain rfl := rb.int
      exact op_lt pins s σ H _ _ v u Q I rx ry ⟨_, _, rfl, rfl, q.here R (VR.bl _)⟩
    · exact q.elim
  · split at q
    · obtain rfl := ra.int
      obtain rfl := rb.int
      exact op_le pins s σ H _ _ v u Q I rx ry ⟨_, _, rfl, rfl, q.here R (VR.bl _)⟩
    · exact q.elim
  · split at q
    · obtain rfl := ra.int
      obtain rfl := rb.int
      exact op_gt pins s σ H _ _ v u Q I rx ry ⟨_, _, rfl, rfl, q.here R (VR.bl _)⟩
    · exact q.elim
  · split at q
    · obtain rfl := ra.int
      obtain rfl := rb.int
      exact op_ge pins s σ H _ _ v u Q I rx ry ⟨_, _, rfl, rfl, q.here R (VR.bl _)⟩
    · exact q.elim
  · split at q
    · obtain rfl := rb.non
      exact op_isN pins s σ H _ _ v u Q I rx ry ⟨rfl, by rw [VR.dec_non (show VR X.K φ H _ x from ra)]; exact q.here R (VR.bl _)⟩
    · obtain rfl := ra.bl
      obtain rfl := rb.bl
      exact op_isBl pins s σ H _ _ v u Q I rx ry ⟨_, _, rfl, rfl, q.here R (VR.bl _)⟩
    · exact q.elim
  · split at q
    · obtain rfl := rb.non
      exact op_notN pins s σ H _ _ v u Q I rx ry ⟨rfl, by rw [VR.dec_non (show VR X.K φ H _ x from ra)]; exact q.here R (VR.bl _)⟩
    · obtain rfl := ra.bl
      obtain rfl := rb.bl
      exact op_notBl pins s σ H _ _ v u Q I rx ry ⟨_, _, rfl, rfl, q.here R (VR.bl _)⟩
    · exact q.elim
  · split at q
    · rename_i t kvs eo
      split at q
      · rename_i d
        split at q
        · rename_i ok
          obtain ⟨k, a, rfl, rfl, ea⟩ := dOf_ref rb eo
          cases ry
          exact dct_in (by omega) R I ea eo ok ra rx fun s' I' => ⟨.bl _, H, I', rfl, q.here R (VR.bl _)⟩
        · exact q.elim
      · exact q.elim
    split at q
    · rename_i p1 p2 e1 e2
      obtain ⟨d1, s1⟩ := toPR_ok R ra e1
      obtain ⟨d2, s2⟩ := toPR_ok R rb e2
      exact op_inD (by omega) pins s σ H _ _ v u Q I rx ry ⟨p1, p2, d1, d2, s1, s2, q.here R (VR.bl _)⟩
    · rename_i p1 p2 e1 e2
      obtain ⟨d1, s1⟩ := toPR_ok R ra e1
      obtain ⟨d2, s2⟩ := toPR_ok R rb e2
      exact op_inT (by omega) pins s σ H _ _ v u Q I rx ry ⟨p1, p2, d1, d2, s1, s2, q.here R (VR.bl _)⟩
    · exact q.elim
  · split at q
    · rename_i t kvs eo
      split at q
      · rename_i d
        split at q
        · rename_i ok
          obtain ⟨k, a, rfl, rfl, ea⟩ := dOf_ref rb eo
          cases ry
          exact dct_notin (by omega) R I ea eo ok ra rx fun s' I' => ⟨.bl _, H, I', rfl, q.here R (VR.bl _)⟩
        · exact q.elim
      · exact q.elim
    split at q
    · rename_i p1 p2 e1 e2
      obtain ⟨d1, s1⟩ := toPR_ok R ra e1
      obtain ⟨d2, s2⟩ := toPR_ok R rb e2
      exact op_notInD (by omega) pins s σ H _ _ v u Q I rx ry ⟨p1, p2, d1, d2, s1, s2, q.here R (VR.bl _)⟩
    · rename_i p1 p2 e1 e2
      obtain ⟨d1, s1⟩ := toPR_ok R ra e1
      obtain ⟨d2, s2⟩ := toPR_ok R rb e2
      exact op_notInT (by omega) pins s σ H _ _ v u Q I rx ry ⟨p1, p2, d1, d2, s1, s2, q.here R (VR.bl _)⟩
    · exact q.elim

theorem lsOf_ok {φ : List Addr} {x : RV} {v : V} {ds : List D} (R : Rel K φ h H) (r : VRR K φ H H0 x v) (e : lsOf h x = some ds) : ∃ a xs, v = .ref a ∧ SqL K H a xs ∧ VRs K φ H ds xs := by
  cases x with
  | raw es =>
    cases e
    obtain ⟨a, xs, e, _, _, q, r⟩ := r
    exact ⟨a, xs, e, SqL.of q, r⟩
  | val d =>
    cases r with
    | @ref n a ea =>
      simp only [lsOf] at e
      cases e2 : h[n]? with
      | none => rw [e2] at e; cases e
      | some o =>
        cases o with
        | dct kvs => rw [e2] at e; cases e
        | dcn kvs => rw [e2] at e; cases e
        | xc _ _ => rw [e2] at e; cases e
        | lst es =>
          rw [e2] at e
          cases e
          obtain ⟨xs, q, r⟩ := R.lst e2 ea
          exact ⟨a, xs, rfl, SqL.of q, r⟩
    | rl q r =>
      cases e
      exact ⟨_, _, rfl, q.seq, r⟩
    | _ => cases e

/-! ### truth -/
theorem VRs.isEmpty {ds : List D} {vs : List V} (r : VRs K φ H ds vs) : vs.isEmpty = ds.isEmpty := by cases r <;> rfl
theorem truV_ok (R : Rel K φ h H) {a : RV} {v : V} {t : Bool} (r : VRR K φ H H0 a v) (e : tru h a = some t) : TruV K v H t := by
  cases a with
  | raw ds =>
    obtain ⟨a, xs, rfl, _, _, q, r⟩ := r
    cases e
    exact .inl ⟨xs, SqL.of q, by rw [r.isEmpty]⟩
  | val d =>
    cases r with
    | non => cases e; rfl
    | bl b => cases e; rfl
    | int i => cases e; rfl
    | str x =>
      simp only [tru] at e
      split at e
      · cases e
        exact ⟨by rw [← SZ_eq]; assumption, rfl⟩
      · cases e
    | tup q r => cases e; exact .inr (.inl ⟨_, q, by rw [r.isEmpty]⟩)
    | rl q r => cases e; exact .inl ⟨_, q.seq, by rw [r.isEmpty]⟩
    | @ref k a ea =>
      simp only [tru] at e
      split at e
      · rename_i ds e2
        cases e
        obtain ⟨xs, q, r⟩ := R.lst e2 ea
        exact .inl ⟨xs, SqL.of q, by rw [r.isEmpty]⟩
      · cases e
/-- an expression's truth -/
def truO (o : St → Hh → Out RV) : St → Hh → Out Bool := fun st h => bnd (o st h) fun x h => match tru h x with
  | some t => .ok t h
  | none => .fail
theorem post_tru {a : RV} {h : Hh} {Q : Bool → Hp → Prop} (p : Post K ε φ H BE (match tru h a with | some t => (.ok t h : Out Bool) | none => .fail) Q) (R : Rel K φ h H) : ∃ t, tru h a = some t ∧ Q t H := by
  cases e : tru h a with
  | none => rw [e] at p; exact p.elim
  | some t =>
    rw [e] at p
    exact ⟨t, rfl, p.here R rfl⟩
theorem tru_of {o : St → Hh → Out RV} {Q : Bool → Hp → Prop} (q : TBr K ω (truO o) σ H Q) : TEr K ω o σ H fun x H' => ∃ k, TruV K x H' k ∧ Q k H' := by
  obtain ⟨φ, h, st, R, S, q⟩ := q
  refine ⟨φ, h, st, R, S, ?_⟩
  refine Post.seq q fun x h1 e1 q φ1 H1 v1 w1 R1 r1 => ?_
  obtain ⟨t, e, q⟩ := post_tru (q.sh R w1 R1) R1
  exact ⟨t, truV_ok R1 r1 e, q⟩
/-- .. of one that gives True or False -/
theorem tru_bl {o : St → Hh → Out RV} {Q : Bool → Hp → Prop} (hb : ∀ st h r h', o st h = .ok r h' → ∃ k, r = .val (.bl k)) (q : TBr K ω (truO o) σ H Q) : TEr K ω o σ H fun x H' => ∃ k, x = .bl k ∧ Q k H' := by
  obtain ⟨φ, h, st, R, S, q⟩ := q
  refine ⟨φ, h, st, R, S, ?_⟩
  refine Post.seq q fun x h1 e1 q φ1 H1 v1 w1 R1 r1 => ?_
  obtain ⟨k, rfl⟩ := hb _ _ _ _ e1
  obtain rfl := r1.bl
  exact ⟨k, rfl, (q.sh R w1 R1).here R1 rfl⟩
theorem opCmp_bl {o : CmpOp} {x y r : RV} {h h' : Hh} (e : opCmp o x y h = .ok r h') : ∃ k, r = .val (.bl k) := by
  unfold opCmp at e
  repeat (first | (split at e) | (cases e; exact ⟨_, rfl⟩) | cases e)
theorem bnd_ok_of {o : Out α} {f : α → Hh → Out β} {b : β} {h' : Hh} (e : bnd o f = .ok b h') : ∃ a h1, o = .ok a h1 ∧ f a h1 = .ok b h' := by
  cases o with
  | ok a h1 => exact ⟨a, h1, rfl, e⟩
  | exc => cases e
  | fail => cases e

/-! ### tests -/
variable {a b : Expr} {pos : Pos}
theorem jt_plain {e : Expr} {o : St → Hh → Out RV} (p : PE X e (TEr X.K ω o)) (he : ∀ whole, isTrue e X.env whole = (do let v ← whole; standAt e.pos; holding [v] (truthy v))) : PT X e (TBr X.K ω (truO o)) :=
  pt_imp (pt_truth p he) fun _ _ _ q => tru_of q
theorem jt_cmp {op : CmpOp} {oa ob : St → Hh → Out RV} (hu : X.A.units + 128 < cLine) (ha : PE X a (TEr X.K ω oa)) (hb : PE X b (TEr X.K ω ob)) (hm : behindInMarks op b = false) :
    PT X (.Compare a [op] [b] pos) (TBr X.K ω (truO fun st h => Py.bnd (oa st h) fun x h => Py.bnd (ob st h) fun y h => opCmp op x y h)) :=
  pt_imp (pt_cmpR (cmp_ok hu op) ha hb hm) fun _ _ _ q => two (tru_bl (fun st h r h' e => by
    obtain ⟨x, h1, _, e⟩ := bnd_ok_of e
    obtain ⟨y, h2, _, e⟩ := bnd_ok_of e
    exact opCmp_bl e) q)
end
end Py
/-! Core, part D: and, or, not; displays; items, slices; built-ins; methods; isinstance. -/
namespace Py
open PySem PySem.Spec PyProof.Rows
open L2 hiding St start wipe
section
variable [Tau] {ω : Wsh} {ε : XK} {X : Cx} {K : PySem.W.Frag} {φ φ1 : List Addr} {h h1 : Hh} {H H0 H1 : Hp} {st : St} {σ : L2.St} {α β γ : Type} {a b c e : Expr} {es : List Expr} {pos : Pos}
variable {oa ob oc : St → Hh → Out RV}

/-! ### what is handed on -/
theorem mat_post {B : List Addr → Hp → D → V → Prop} {r : RV} {Q : VK} {v : V} (p : Post K ε φ H (BD K) (mat r h1) Q) (w : WX φ H φ1 H1) (R1 : Rel K φ1 h1 H1) (r1 : VRR K φ1 H1 H r v) : Q v H1 := by
  cases r with
  | val d => exact p φ1 H1 v w R1 r1
  | raw ds =>
    obtain ⟨a, xs, rfl, f, n, q, r⟩ := r1
    obtain ⟨ψ, e1, f1, k1, d1⟩ := w
    refine p (φ1 ++ [a]) H1 _ ⟨ψ ++ [a], by rw [e1, List.append_assoc], fun c hc => ?_, k1, d1⟩ (R1.push n q r) (VR.ref ?_)
    · rcases List.mem_append.mp hc with hc | hc
      · exact f1 c hc
      · rw [List.mem_singleton.mp hc]; exact f
    · rw [← R1.len, List.getElem?_append_right (Nat.le_refl _), Nat.sub_self]
      rfl
theorem matE {o : St → Hh → Out RV} {Q : VK} (q : TDr K ω (fun st h => Py.bnd (o st h) mat) σ H Q) : TEr K ω o σ H Q := by
  obtain ⟨φ, h, st, R, S, q⟩ := q
  refine ⟨φ, h, st, R, S, ?_⟩
  exact Post.seq q fun x h1 e1 q φ1 H1 v1 w1 R1 r1 => mat_post (B := BD K) q w1 R1 r1
theorem jd {o : St → Hh → Out RV} (p : PE X e (TEr X.K ω o)) : PE X e (TDr X.K ω fun st h => Py.bnd (o st h) mat) := pe_imp p fun _ _ _ q => matE q

/-! ### and, or, not, if -/
theorem je_one {op : BoolOp} (p : PE X a (TEr X.K ω oa)) : PE X (.BoolOp op [a] pos) (TEr X.K ω oa) := pe_one p
theorem je_and {rest : List Expr} (ha : PE X a (TEr X.K ω oa)) (hb : PE X (.BoolOp .And (b :: rest) pos) (TEr X.K ω ob)) :
    PE X (.BoolOp .And (a :: b :: rest) pos) (TEr X.K ω fun st h => Py.bnd (oa st h) fun x h => match tru h x with
      | some true => ob st h
      | some false => .ok x h
      | none => .fail) := pe_imp (pe_andT ha hb) fun σ H Q ⟨φ, h, st, R, S, q⟩ => by
  refine ⟨φ, h, st, R, S, ?_⟩
  refine Post.seq q fun x h1 e1 q φ1 H1 v1 w1 R1 r1 => ?_
  cases e : tru h1 x with
  | none => rw [e] at q; exact q.elim
  | some t =>
    rw [e] at q
    refine ⟨t, truV_ok R1 r1 e, ?_⟩
    cases t with
    | true => exact iteT ⟨φ1, h1, st, R1, S.mono R w1, q.shR R w1 R1⟩
    | false => exact iteF (q φ1 H1 v1 w1 R1 r1)
theorem je_or {rest : List Expr} (ha : PE X a (TEr X.K ω oa)) (hb : PE X (.BoolOp .Or (b :: rest) pos) (TEr X.K ω ob)) :
    PE X (.BoolOp .Or (a :: b :: rest) pos) (TEr X.K ω fun st h => Py.bnd (oa st h) fun x h => match tru h x with
      | some true => .ok x h
      | some false => ob st h
      | none => .fail) := pe_imp (pe_orT ha hb) fun σ H Q ⟨φ, h, st, R, S, q⟩ => by
  refine ⟨φ, h, st, R, S, ?_⟩
  refine Post.seq q fun x h1 e1 q φ1 H1 v1 w1 R1 r1 => ?_
  cases e : tru h1 x with
  | none => rw [e] at q; exact q.elim
  | some t =>
    rw [e] at q
    refine ⟨t, truV_ok R1 r1 e, ?_⟩
    cases t with
    | true => exact iteT (q φ1 H1 v1 w1 R1 r1)
    | false => exact iteF ⟨φ1, h1, st, R1, S.mono R w1, q.shR R w1 R1⟩
theorem je_not (ha : PE X a (TEr X.K ω oa)) : PE X (.UnaryOp .Not a pos) (TEr X.K ω fun st h => Py.bnd (oa st h) fun x h => match tru h x with
      | some t => .ok (.val (.bl (!t))) h
      | none => .fail) := pe_imp (pe_notT ha) fun σ H Q ⟨φ, h, st, R, S, q⟩ => by
  refine ⟨φ, h, st, R, S, ?_⟩
  refine Post.seq q fun x h1 e1 q φ1 H1 v1 w1 R1 r1 => ?_
  cases e : tru h1 x with
  | none => rw [e] at q; exact q.elim
  | some t =>
    rw [e] at q
    exact ⟨t, truV_ok R1 r1 e, (q.shR R w1 R1).here R1 (VR.bl _)⟩
theorem je_neg (ha : PE X a (TEr X.K ω oa)) : PE X (.UnaryOp .USub a pos) (TEr X.K ω fun st h => Py.bnd (oa st h) fun x h => match x with
      | .val (.int i) => .ok (.val (.int (-i))) h
      | _ => .fail) := pe_imp (pe_un un_neg ha) fun σ H Q ⟨φ, h, st, R, S, q⟩ => by
  refine ⟨φ, h, st, R, S, ?_⟩
  refine Post.seq q fun x h1 e1 q φ1 H1 v1 w1 R1 r1 => ?_
  split at q
  · obtain rfl := r1.int
    exact ⟨_, rfl, (q.shR R w1 R1).here R1 (VR.int _)⟩
  · exact q.elim
theorem je_ifx (hc : PT X c (TBr X.K ω (truO oc))) (ha : PE X a (TEr X.K ω oa)) (hb : PE X b (TEr X.K ω ob)) :
    PE X (.IfExp c a b pos) (TEr X.K ω fun st h => Py.bnd (oc st h) fun x h => match tru h x with
      | some true => oa st h
      | some false => ob st h
      | none => .fail) := pe_imp (pe_ifExp hc ha hb) fun σ H Q ⟨φ, h, st, R, S, q⟩ => by
  refine ⟨φ, h, st, R, S, ?_⟩
  unfold truO
  dsimp only at q
  cases e1 : oc st h with
  | fail => rw [e1] at q; exact q.elim
  | exc c fs h1 => rw [e1] at q; exact q
  | ok x h1 =>
  rw [e1] at q
  simp only [bnd_ok] at q ⊢
  cases e : tru h1 x with
  | none => rw [e] at q; exact q.elim
  | some t =>
    rw [e] at q
    intro φ1 H1 v1 w1 R1 r1
    obtain rfl : t = v1 := r1
    cases t with
    | true => exact iteT ⟨φ1, h1, st, R1, S.mono R w1, q.shR R w1 R1⟩
    | false => exact iteF ⟨φ1, h1, st, R1, S.mono R w1, q.shR R w1 R1⟩
/-- .. as tests -/
theorem jt_one {op : BoolOp} (p : PT X a (TBr X.K ω (truO oa))) : PW X (.BoolOp op [a] pos) (TBr X.K ω (truO oa)) := by
  cases op with
  | And => exact pw_and1 p
  | Or => exact pw_or1 p
theorem pw_imp {e : Expr} {t t' : TT} (p : PW X e t) (k : ∀ σ H Q, t' σ H Q → t σ H Q) : PW X e t' := ⟨fun wh pins s σ H Q i q => p.run wh pins s σ H Q i (k σ H Q q)⟩
theorem jt_and {rest : List Expr} (ha : PT X a (TBr X.K ω (truO oa))) (hb : PW X (.BoolOp .And (b :: rest) pos) (TBr X.K ω (truO ob))) :
    PW X (.BoolOp .And (a :: b :: rest) pos) (TBr X.K ω (truO fun st h => Py.bnd (oa st h) fun x h => match tru h x with
      | some true => ob st h
      | some false => .ok x h
      | none => .fail)) := pw_imp (pw_and ha hb) fun σ H Q ⟨φ, h, st, R, S, q⟩ => by
  refine ⟨φ, h, st, R, S, ?_⟩
  unfold truO at q ⊢
  dsimp only at q
  cases e1 : oa st h with
  | fail => rw [e1] at q; exact q.elim
  | exc c fs h1 => rw [e1] at q; exact q
  | ok x h1 =>
  rw [e1] at q
  simp only [bnd_ok] at q ⊢
  cases e : tru h1 x with
  | none => rw [e] at q; exact q.elim
  | some t =>
    rw [e] at q
    intro φ1 H1 v1 w1 R1 r1
    obtain rfl : t = v1 := r1
    cases t with
    | true =>
      refine iteT ⟨φ1, h1, st, R1, S.mono R w1, ?_⟩
      exact q.sh R w1 R1
    | false =>
      simp only [bnd_ok, e] at q
      exact iteF (q φ1 H1 _ w1 R1 rfl)
theorem jt_or {rest : List Expr} (ha : PT X a (TBr X.K ω (truO oa))) (hb : PW X (.BoolOp .Or (b :: rest) pos) (TBr X.K ω (truO ob))) :
    PW X (.BoolOp .Or (a :: b :: rest) pos) (TBr X.K ω (truO fun st h => Py.bnd (oa st h) fun x h => match tru h x with
      | some true => .ok x h
      | some false => ob st h
      | none => .fail)) := pw_imp (pw_or ha hb) fun σ H Q ⟨φ, h, st, R, S, q⟩ => by
  refine ⟨φ, h, st, R, S, ?_⟩
  unfold truO at q ⊢
  dsimp only at q
  cases e1 : oa st h with
  | fail => rw [e1] at q; exact q.elim
  | exc c fs h1 => rw [e1] at q; exact q
  | ok x h1 =>
  rw [e1] at q
  simp only [bnd_ok] at q ⊢
  cases e : tru h1 x with
  | none => rw [e] at q; exact q.elim
  | some t =>
    rw [e] at q
    intro φ1 H1 v1 w1 R1 r1
    obtain rfl : t = v1 := r1
    cases t with
    | false =>
      refine iteF ⟨φ1, h1, st, R1, S.mono R w1, ?_⟩
      exact q.sh R w1 R1
    | true =>
      simp only [bnd_ok, e] at q
      exact iteT (q φ1 H1 _ w1 R1 rfl)
theorem jt_not (ha : PT X a (TBr X.K ω (truO oa))) : PT X (.UnaryOp .Not a pos) (TBr X.K ω (truO fun st h => Py.bnd (oa st h) fun x h => match tru h x with
      | some t => .ok (.val (.bl (!t))) h
      | none => .fail)) := pt_imp (pt_not ha) fun σ H Q ⟨φ, h, st, R, S, q⟩ => by
  refine ⟨φ, h, st, R, S, ?_⟩
  unfold truO at q ⊢
  dsimp only at q
  cases e1 : oa st h with
  | fail => rw [e1] at q; exact q.elim
  | exc c fs h1 => rw [e1] at q; exact q
  | ok x h1 =>
  rw [e1] at q
  simp only [bnd_ok] at q ⊢
  cases e : tru h1 x with
  | none => rw [e] at q; exact q.elim
  | some t =>
    rw [e] at q
    intro φ1 H1 v1 w1 R1 r1
    obtain rfl : t = v1 := r1
    exact q φ1 H1 _ w1 R1 rfl

/-! ### argument lists, displays -/
def noStar : Expr → Bool
  | .Starred _ _ => false
  | _ => true
theorem star_cons {env : Env} (n : noStar e = true) : starEach (e :: es) env = (false, eval e env) :: starEach es env := by
  cases e with
  | Starred x p => exact absurd (show false = true from n) Bool.false_ne_true
  | _ => rfl
theorem ja_nil : PA X [] (TAr X.K ω fun _ h => .ok [] h) := pa_imp pa_nil fun σ H Q ⟨φ, h, st, R, S, q⟩ => q.here R VRs.nil
theorem ja_cons {od : St → Hh → Out D} {os : St → Hh → Out (List D)} (n : noStar e = true) (ha : PE X e (TDr X.K ω od)) (hr : PA X es (TAr X.K ω os)) :
    PA X (e :: es) (TAr X.K ω fun st h => Py.bnd (od st h) fun d h => Py.bnd (os st h) fun ds h => .ok (d :: ds) h) := pa_imp (pa_cons ha hr (star_cons n)) fun σ H Q ⟨φ, h, st, R, S, q⟩ => by
  refine ⟨φ, h, st, R, S, ?_⟩
  refine Post.seq q fun d h1 e1 q φ1 H1 v1 w1 R1 r1 => ?_
  refine ⟨φ1, h1, st, R1, S.mono R w1, ?_⟩
  refine Post.seq (q.sh R w1 R1) fun ds h2 e2 q φ2 H2 vs w2 R2 r2 => ?_
  exact (q.sh R1 w2 R2).here R2 (VRs.cons (r1.mono R1 w2) r2)
/-- the arguments of a built-in: lists just made may be among them -/
abbrev VRRs (K : PySem.W.Frag) (φ : List Addr) (H H0 : Hp) : List RV → List V → Prop := Paired (VRR K φ H H0)
abbrev BRs (K : PySem.W.Frag) (H0 : Hp) : List Addr → Hp → List RV → List V → Prop := fun φ H => VRRs K φ H H0
theorem VRRs.mono (R : Rel K φ h H) (w : WX φ H φ1 H1) : ∀ {rs : List RV} {vs : List V}, VRRs K φ H H0 rs vs → VRRs K φ1 H1 H0 rs vs
  | _, _, .nil => .nil
  | _, _, .cons r t => .cons (r.mono R w) (VRRs.mono R w t)
theorem VRRs.back (hb : ∀ b, H1 b = none → H0 b = none) : ∀ {rs : List RV} {vs : List V}, VRRs K φ H H1 rs vs → VRRs K φ H H0 rs vs
  | _, _, .nil => .nil
  | _, _, .cons r t => .cons (r.back hb) (VRRs.back hb t)
def TARr (K : PySem.W.Frag) (ω : Wsh) (o : St → Hh → Out (List RV)) : TA := fun σ H Q => ∃ φ h st, Rel K φ h H ∧ SR K φ H st σ ∧ Post K (wAt ω σ) φ H (BRs K H) (o st h) Q
theorem jr_nil : PA X [] (TARr X.K ω fun _ h => .ok [] h) := pa_imp pa_nil fun σ H Q ⟨φ, h, st, R, S, q⟩ => q.here R Paired.nil
theorem jr_cons {os : St → Hh → Out (List RV)} (n : noStar e = true) (ha : PE X e (TEr X.K ω oa)) (hr : PA X es (TARr X.K ω os)) :
    PA X (e :: es) (TARr X.K ω fun st h => Py.bnd (oa st h) fun d h => Py.bnd (os st h) fun ds h => .ok (d :: ds) h) := pa_imp (pa_cons ha hr (star_cons n)) fun σ H Q ⟨φ, h, st, R, S, q⟩ => by
  refine ⟨φ, h, st, R, S, ?_⟩
  refine Post.seq q fun d h1 e1 q φ1 H1 v1 w1 R1 r1 => ?_
  refine ⟨φ1, h1, st, R1, S.mono R w1, ?_⟩
  refine Post.seqW q R w1 R1 fun ds h2 e2 q φ2 H2 vs w2 R2 r2 => ?_
  exact q φ2 H2 _ (w1.trans R R1 w2) R2 (.cons (r1.mono R1 w2) (VRRs.back (fun b => WX.fresh_back R R1 w1) r2))
theorem je_tup {os : St → Hh → Out (List D)} {k : Nat} (ha : PA X es (TAr X.K ω os)) : PE X (.Tuple es k pos) (TEr X.K ω fun st h => Py.bnd (os st h) fun ds h => if ds.length ≤ SZ then .ok (.val (.tup ds)) h else .fail) :=
  pe_imp (pe_tup ha) fun σ H Q ⟨φ, h, st, R, S, q⟩ => by
    refine ⟨φ, h, st, R, S, ?_⟩
    refine Post.seq q fun ds h1 e1 q φ1 H1 vs w1 R1 r1 => ?_
    have q := q.shR R w1 R1
    split at q
    · exact ⟨by rw [r1.length, ← SZ_eq]; assumption, fun p hp => tup_new R1 hp r1 q⟩
    · exact q.elim
theorem je_lst {os : St → Hh → Out (List D)} (ha : PA X es (TAr X.K ω os)) : PE X (.List es pos) (TEr X.K ω fun st h => Py.bnd (os st h) fun ds h => if ds.length ≤ SZ then .ok (.raw ds) h else .fail) :=
  pe_imp (pe_lst ha) fun σ H Q ⟨φ, h, st, R, S, q⟩ => by
    refine ⟨φ, h, st, R, S, ?_⟩
    refine Post.seq q fun ds h1 e1 q φ1 H1 vs w1 R1 r1 => ?_
    have q := q.shR R w1 R1
    split at q
    · exact ⟨by rw [r1.length, ← SZ_eq]; assumption, fun p hp => raw_new R1 hp r1 q⟩
    · exact q.elim

/-! ### items, slices -/
def noSlice : Expr → Bool
  | .Slice _ _ _ _ => false
  | _ => true
theorem plainIx {b : Expr} (n : noSlice b = true) : PlainIx b := fun o i => by
  cases b with
  | Slice _ _ _ _ => exact absurd (show false = true from n) Bool.false_ne_true
  | _ => rfl
theorem ix_ok (hu : X.A.units + 128 < cLine) : IxR X (TR2 X.K opIx) := by
  intro value slice pins s σ H x y v u Q I rx ry ⟨φ, h, a, b, Ha, Hb, R, ra, rb, ε, q⟩ hs
  unfold opIx at q
  split at q
  · rename_i t kvs eo
    split at q
    · rename_i d
      split at q
      · rename_i ok
        obtain ⟨k, p, rfl, rfl, ea⟩ := dOf_ref ra eo
        cases rx
        split at q
        · rename_i e l
          exact tail_any (dct_type R I ea eo) PySem.F.slot_dict_getitem.lookup (dct_get (by omega) R I ea eo ok rb ry l fun w' s' v' I' r' rv => ⟨v', _, I', r', q.here R rv⟩) hs
        · exact q.elim
      · exact q.elim
    · exact q.elim
  split at q
  · obtain rfl := rb.int
    split at q
    · obtain rfl := ra.str
      split at q
      · split at q
        · exact ix_str value slice pins s σ H _ _ v u Q I rx ry ⟨_, _, _, rfl, rfl, by rw [← SZ_eq]; assumption, by assumption, q.here R (VR.str _)⟩ hs
        · exact q.elim
      · exact q.elim
    · split at q
      · rename_i ds e1
        obtain ⟨p, xs, rfl, sq, r1⟩ := seqOf_ok R ra e1
        split at q
        · rename_i d e2
          obtain ⟨w, e3, r3⟩ := r1.atI e2
          rcases sq with sq | sq
          · exact ix_list value slice pins s σ H _ _ v u Q I rx ry ⟨_, _, _, _, rfl, rfl, sq, e3, q.here R r3⟩ hs
          · exact ix_tup value slice pins s σ H _ _ v u Q I rx ry ⟨_, _, _, _, rfl, rfl, sq, e3, q.here R r3⟩ hs
        · exact q.elim
      · exact q.elim
  · exact q.elim
theorem je_ix (hu : X.A.units + 128 < cLine) (n : noSlice b = true) (ha : PE X a (TEr X.K ω oa)) (hb : PE X b (TEr X.K ω ob)) :
    PE X (.Subscript a b pos) (TEr X.K ω fun st h => Py.bnd (oa st h) fun x h => Py.bnd (ob st h) fun y h => opIx x y h) := pe_imp (pe_ix (ix_ok hu) ha hb (plainIx n)) fun _ _ _ q => two q
def TSl (K : PySem.W.Frag) (p : RV → Option Int → Option Int → Hh → Out RV) : V → Option Int → Option Int → Hp → VK → Prop := fun x lo hi H Q => ∃ φ h a Ha, Rel K φ h H ∧ VRR K φ H Ha a x ∧ ∃ ε, Post K ε φ H (BR K H) (p a lo hi h) Q
theorem slc_ok : SlR X (TSl X.K opSlc) := by
  intro pins s σ H x v vl vu lo hi sl Q I rx hs pl pu ⟨φ, h, a, Ha, R, ra, ε, q⟩
  unfold opSlc at q
  split at q
  · obtain ⟨p, xs, rfl, sq, r1⟩ := ra.tup
    refine sl_tupA pins s σ H _ v vl vu lo hi sl Q I rx hs pl pu ⟨_, _, rfl, sq, fun z => ?_, fun _ p hp => tup_new R hp (r1.cut lo hi) q⟩
    refine q.here R ?_
    have e : cutV xs lo hi = xs := by
      unfold cutV
      rw [z.1, z.2, List.drop_zero, Nat.sub_zero, List.take_length]
    have r2 := r1.cut lo hi
    rw [e] at r2
    exact VR.tup sq r2
  · split at q
    · rename_i x' hx' ds e1
      obtain ⟨p, xs, rfl, sq, r1⟩ := lsOf_ok R ra e1
      exact sl_list pins s σ H _ v vl vu lo hi sl Q I rx hs pl pu ⟨_, _, rfl, sq, fun p hp => raw_new R hp (r1.cut lo hi) q⟩
    · exact q.elim
theorem jo_no : PO X none (TOr X.K ω fun _ h => .ok none h) := ⟨fun pins s σ H Q I ⟨φ, h, st, R, S, q⟩ => po_none.run pins s σ H Q I (q.here R rfl)⟩
theorem jo_yes (ha : PE X a (TEr X.K ω oa)) : PO X (some a) (TOr X.K ω fun st h => Py.bnd (oa st h) fun x h => match x with
    | .val (.int i) => .ok (some i) h
    | _ => .fail) := ⟨fun pins s σ H Q I ⟨φ, h, st, R, S, q⟩ => (po_some ha).run pins s σ H Q I (by
      refine ⟨φ, h, st, R, S, ?_⟩
      refine Post.seq q fun x h1 e1 q φ1 H1 v1 w1 R1 r1 => ?_
      split at q
      · obtain rfl := r1.int
        exact ⟨_, rfl, q φ1 H1 _ w1 R1 rfl⟩
      · exact q.elim)⟩
theorem je_slc {lo hi : Option Expr} {p2 : Pos} {ol oh : St → Hh → Out (Option Int)} (ha : PE X a (TEr X.K ω oa)) (hl : PO X lo (TOr X.K ω ol)) (hh : PO X hi (TOr X.K ω oh)) :
    PE X (.Subscript a (.Slice lo hi none p2) pos) (TEr X.K ω fun st h => Py.bnd (oa st h) fun x h => Py.bnd (ol st h) fun l h => Py.bnd (oh st h) fun u h => opSlc x l u h) :=
  pe_imp (pe_slice slc_ok ha hl hh) fun σ H Q ⟨φ, h, st, R, S, q⟩ => by
    refine ⟨φ, h, st, R, S, ?_⟩
    refine Post.seq q fun x h1 e1 q φ1 H1 v1 w1 R1 r1 => ?_
    refine ⟨φ1, h1, st, R1, S.mono R w1, ?_⟩
    refine Post.seq (q.shR R w1 R1) fun l h2 e2 q φ2 H2 v2 w2 R2 r2 => ?_
    obtain rfl : l = v2 := r2
    refine ⟨φ2, h2, st, R2, (S.mono R w1).mono R1 w2, ?_⟩
    refine Post.seq (q.shR R1 w2 R2) fun u h3 e3 q φ3 H3 v3 w3 R3 r3 => ?_
    obtain rfl : u = v3 := r3
    exact ⟨φ3, h3, x, H, R3, (r1.mono R1 w2).mono R2 w3, _, q.shR R2 w3 R3⟩
end
end Py
/-! Core, part E: what is walked. -/
namespace Py
open PySem PySem.Spec PyProof.Rows
open L2 hiding St start wipe

/-! ### enumerate of a tuple: begun with one argument, its turns -/
theorem enumNew1 {v : Value} {ob : Obj} {P : Heap → Prop} (B : Begins v ob P) :
    Meets (Builtin.«enumerate.__new__» ⟨[.type "enumerate", v], []⟩) (fun _ R s => P s.heap ∧
      R (.ok (.ret (.ref (s.heap.push ob).objs.size))) { s with heap := (s.heap.push ob).push { cls := .type "enumerate", data := .fields #[.none, .bool false, .ref s.heap.objs.size, rawInt 0, .none, .none] } }) :=
  .of_wp fun prog w A R s ⟨hP, hR⟩ => by
    obtain ⟨hp, gn, dr, tk, os⟩ := s
    have hsub := sub_enumerate
    have it1 : ∀ {A' : Around} {E : Value → Shared → Prop} {Q : Value → Shared → Prop}, Q (.ref hp.objs.size) ⟨hp.push ob, gn, dr, tk, os⟩ → wpAny (model prog w) A' (pyIter v) Q E ⟨hp, gn, dr, tk, os⟩ :=
      fun q => B.iter prog w _ _ ⟨hp, gn, dr, tk, os⟩ _ hP q
    wp_walk using it1
    refine wpAny_stack_any fun st => wpAny_pure ?_
    split
    · rename_i cc _ _ _ _ _
      cases (cc == Value.type "enumerate")
      · wp_walk using it1
        exact ⟨_, rfl, hR⟩
      · wp_walk using it1
        exact ⟨_, rfl, hR⟩
    · wp_walk using it1
      exact ⟨_, rfl, hR⟩
theorem enumCall1 {prog : Program} {w : World} {A : Around} {E : Value → Shared → Prop} {s : Shared} {v : Value} {ob : Obj} {P : Heap → Prop} {Q : Value → Shared → Prop} (B : Begins v ob P) (hP : P s.heap)
    (hQ : ∀ h', IsEnum h' (s.heap.objs.size + 1) s.heap.objs.size 0 .none → h'.get? s.heap.objs.size = some ob → (∀ b o, s.heap.get? b = some o → h'.get? b = some o) → Q (.ref (s.heap.objs.size + 1)) { s with heap := h' }) :
    wpAny (model prog w) A (call (.type "enumerate") [v]) Q E s := by
  refine callType_new F.called_enumerate (by decide) (F.typeCall_enumerate_1 _) (F.newCall_enumerate_1 _) (fun obj => F.args_object_init_2 obj _) F.entry_enumerate_new (enumNew1 B) ⟨hP, ?_⟩
  have sz : (s.heap.push ob).objs.size = s.heap.objs.size + 1 := Heap.size_push ..
  show _ ∧ _
  rw [sz]
  have hE : IsEnum ((s.heap.push ob).push { cls := .type "enumerate", data := .fields #[.none, .bool false, .ref s.heap.objs.size, rawInt 0, .none, .none] }) (s.heap.objs.size + 1) s.heap.objs.size 0 .none := by
    have z := Heap.get?_push_size (s.heap.push ob) (o := { cls := .type "enumerate", data := .fields #[.none, .bool false, .ref s.heap.objs.size, rawInt 0, .none, .none] }) rfl
    rw [sz] at z
    exact z
  exact ⟨⟨_, hE, rfl⟩, hQ _ hE (Heap.get?_push_of_some _ (Heap.get?_push_size _ B.free)) fun b o x => Heap.get?_push_of_some _ (Heap.get?_push_of_some _ x)⟩
def ItET (K : PySem.W.Frag) (a : Addr) : It :=
  ⟨fun i H => ∃ (xs : List V) (x : V), SqT K H a xs ∧ xs[i]? = some x,
   fun i H v H' => ∃ p x, v = .ref p ∧ H p = none ∧ H' = upd H p (.tup [.int (i : Nat), x]) ∧ ∀ xs, SqT K H a xs → xs[i]? = some x,
   fun i H => ∃ xs : List V, SqT K H a xs ∧ xs.length = i⟩
theorem turnET {P : Program} {w : World} {K : PySem.W.Frag} {elts : List Expr} {kk : Nat} {tpos : Pos} (a en it : Addr) :
    Turn P w K (.Tuple elts kk tpos) (ItET K a) [en, it] en (fun i h => (∃ old, IsEnum h en it ((i : Nat) : Int) old) ∧ h.IsTupleIter it a i ∧ en ≠ it) where
  mem := List.mem_cons_self
  obj := by
    rintro i h ⟨⟨old, hE⟩, ⟨ob, e1, _, e3⟩, _⟩ b hb
    rcases List.mem_cons.mp hb with rfl | hb
    · exact ⟨_, hE, fun v z => nomatch z⟩
    · rw [List.mem_singleton.mp hb]
      exact ⟨ob, e1, fun v z => by rw [e3] at z; cases z⟩
  keep := fun i h h' ⟨⟨old, hE⟩, hI, ne⟩ k => ⟨⟨old, k en List.mem_cons_self _ hE⟩, hI.at fun o q => k it (List.mem_cons_of_mem _ List.mem_cons_self) o q, ne⟩
  item := by
    intro X hP hw hK hc i pins s σ H E J hf st hg
    subst hP hw hK
    obtain ⟨⟨old, hE⟩, hI, ne⟩ := st
    obtain ⟨xs, x, sq, hx⟩ := hg
    obtain ⟨its, rv, pt, _⟩ := J.tuple sq
    obtain ⟨u, hu, ru⟩ := rv.get hx
    have hu' : its.toArray[i]? = some u := by simpa using hu
    have hi : i < its.toArray.size := by
      obtain ⟨z, _⟩ := Array.getElem?_eq_some_iff.mp hu'
      exact z
    have hlE : en < s.heap.objs.size := Heap.lt_size hE
    have hlI : it < s.heap.objs.size := by
      obtain ⟨_, q, _⟩ := hI
      exact Heap.lt_size q
    have ait : a ≠ it := by
      rintro rfl
      obtain ⟨o1, q1, c1, _⟩ := hI
      obtain ⟨o2, q2, c2, _⟩ := pt
      rw [q1] at q2
      cases q2
      have z : Value.type "tuple_iterator" ≠ Value.type "tuple" := by decide +kernel
      exact z (c1.symm.trans c2)
    have aen : en ≠ a := by
      rintro rfl
      obtain ⟨o2, q2, c2, _⟩ := pt
      rw [hE] at q2
      cases q2
      have z : Value.type "enumerate" ≠ Value.type "tuple" := by decide +kernel
      exact z c2
    have DD := Draws.tuple (prog := X.prog) (w := X.w) (A := X.A.in1) (J.ok.hd hc) it a ait its.toArray
    refine wpAny_pyNext_enum_itemD DD hE ⟨hI, pt⟩ hi ne (by simp [ne, aen]) fun x' h' tk hp hO hI' hT _ hk => ?_
    have ex : x' = u := Option.some.inj (hp.symm.trans hu')
    subst ex
    refine ⟨_, rfl, wpAny_letOwnedTupleGo_enum (s := { s with heap := h', toks := tk + 1 }) hO fun h'' hE' sb => ?_⟩
    have hT2 := (sb.2 _ (Nat.ne_of_gt hlE)).trans hT
    have new : ObjOk X.prog X.w (upd H s.heap.objs.size (.tup [.int (i : Nat), x])) h'' s.heap.objs.size (.tup [.int (i : Nat), x]) :=
      ⟨by show 2 ≤ sizeLine; decide, [_, _], .cons ⟨_, rfl⟩ (.cons ru .nil), ⟨_, hT2, rfl, _, rfl⟩⟩
    have I1 := J.turnedNew (h' := h'') (t' := tk + 1) (ch := [en, it]) (fun b ob hb q => (sb.2 b (fun z => hb (by simp [z]))).trans (hk b ob (fun z => hb (by simp [z])) (fun z => hb (by simp [z])) q)) hf (Nat.le_refl _) new
    refine ⟨.ref s.heap.objs.size, _, I1, rfl, ⟨_, x, rfl, J.hok.fresh (Nat.le_refl _), rfl, fun ys hy => by rw [J.tuple_inj hy sq]; exact hx⟩, ⟨⟨x', ?_⟩, hI'.1.at fun o q => (sb.2 it (Ne.symm ne)).trans q, ne⟩, fun b hb => ?_⟩
    · rw [show ((i + 1 : Nat) : Int) = (i : Int) + 1 by omega]
      exact hE'
    · have hlt : b < s.heap.objs.size := by
        rcases List.mem_cons.mp hb with rfl | hb
        · exact hlE
        · rw [List.mem_singleton.mp hb]; exact hlI
      rw [upd_ne (Nat.ne_of_lt hlt)]
      exact (hf b hb).1
  done := by
    intro X hP hw hK hc i pins s σ H E J hf st hg
    subst hP hw hK
    obtain ⟨⟨old, hE⟩, hI, ne⟩ := st
    obtain ⟨xs, sq, hx⟩ := hg
    obtain ⟨its, rv, pt, _⟩ := J.tuple sq
    have ait : a ≠ it := by
      rintro rfl
      obtain ⟨o1, q1, c1, _⟩ := hI
      obtain ⟨o2, q2, c2, _⟩ := pt
      rw [q1] at q2
      cases q2
      have z : Value.type "tuple_iterator" ≠ Value.type "tuple" := by decide +kernel
      exact z (c1.symm.trans c2)
    have DD := Draws.tuple (prog := X.prog) (w := X.w) (A := X.A.in1) (J.ok.hd hc) it a ait its.toArray
    have el : its.toArray.size = i := by rw [← hx, rv.length, List.size_toArray]
    obtain ⟨f0, f1, f2, f3, f4, f5⟩ := hf it (by simp)
    refine wpAny_pyNext_enum_endD DD hE (by rw [el]; exact ⟨hI, pt⟩) fun h' eb => ⟨rfl, J.turned (t' := s.toks) (fun b o hb q => eb b o hb q) f0 f1 f3 f4 f5⟩
  self := fun A i s Q E st h => let ⟨⟨_, hE⟩, _⟩ := st; wpAny_pyIter_enum hE h
section
variable [Tau] {ω : Wsh} {ε : XK} {X : Cx}
theorem pi_enumA {e : Expr} {ta : TA} {p pos tpos : Pos} {elts : List Expr} {kk : Nat} (hg : Gl X "enumerate") (hm : X.mg "enumerate" = none) (ha : PA X [e] ta) (hs : starEach [e] X.env = [(false, eval e X.env)]) :
    PI X (.Tuple elts kk tpos) (.Call (.Name "enumerate" p) [e] [] pos) (fun σ H R => ta σ H fun vs H1 => ∃ a xs, vs = [.ref a] ∧ ((SqL X.K H1 a xs ∧ R (Ite X.K a) H1) ∨ (SqT X.K H1 a xs ∧ R (ItET X.K a) H1))) := by
  refine ⟨fun pins s σ H R J hh => ?_⟩
  refine Call_ (ld_blt J hg hm boot_enumerate (PyProof.Rows.callWith_type1 (thn (ha.run pos pins s σ H _ J hh) fun us s1 ⟨vs, H1, J1, r1, q1⟩ => ?_) hs rfl))
  obtain ⟨a, xs, rfl, q⟩ := q1
  cases r1 with
  | cons r rr =>
    cases rr
    cases r
    have fin : ∀ b ∈ [s1.heap.objs.size + 1, s1.heap.objs.size], FpOk X pins H1 b := fun b hb => by
      have le : s1.heap.objs.size ≤ b := by
        rcases List.mem_cons.mp hb with rfl | hb
        · exact Nat.le_add_right _ _
        · rw [List.mem_singleton.mp hb]
          exact Nat.le_refl _
      exact J1.fpOk le (J1.hok.fresh le)
    rcases q with ⟨sq, q⟩ | ⟨sq, q⟩
    · obtain ⟨its, rv, pl, _⟩ := J1.list sq
      refine call_enumerate_list pl.isList fun h' hE hI _ hk => wpAny_pyIter_enum hE ?_
      exact ⟨s1.heap.objs.size + 1, _, _, _, H1, rfl, J1.kept (t' := s1.toks) hk, turn_enum a (s1.heap.objs.size + 1) s1.heap.objs.size, ⟨⟨.none, hE⟩, hI, Nat.succ_ne_self _⟩, fin, q⟩
    · obtain ⟨its, rv, pt, _⟩ := J1.tuple sq
      refine enumCall1 (begins_tuple a its.toArray) pt fun h' hE hI hk => wpAny_pyIter_enum hE ?_
      exact ⟨s1.heap.objs.size + 1, _, _, _, H1, rfl, J1.kept (t' := s1.toks) hk, turnET a (s1.heap.objs.size + 1) s1.heap.objs.size, ⟨⟨.none, hE⟩, ⟨_, hI, rfl, rfl⟩, Nat.succ_ne_self _⟩, fin, q⟩
/-- a list or a tuple, whichever comes -/
theorem pi_seqA {tg l : Expr} {tl : TE} (hl : PE X l tl) : PI X tg l (fun σ H R => tl σ H fun x H1 => ∃ a xs, x = .ref a ∧ ((SqL X.K H1 a xs ∧ R (Itl X.K a) H1) ∨ (SqT X.K H1 a xs ∧ R (Itt X.K a) H1))) := by
  refine ⟨fun pins s σ H R J hh => ?_⟩
  refine thn (hl.run pins s σ H _ J hh) fun v s1 ⟨x, H1, J1, r1, a, xs, ex, q⟩ => ?_
  subst ex
  cases r1
  have fin : ∀ b ∈ [s1.heap.objs.size], FpOk X pins H1 b := fun b hb => by
    rw [List.mem_singleton.mp hb]
    exact J1.fpOk (Nat.le_refl _) (J1.hok.fresh (Nat.le_refl _))
  rcases q with ⟨sq, q⟩ | ⟨sq, q⟩
  · obtain ⟨its, rv, pl, _⟩ := J1.list sq
    exact wpAny_pyIter_list pl.isList ⟨s1.heap.objs.size, _, _, _, H1, rfl, J1.kept (t' := s1.toks) fun b o z => Heap.get?_push_of_some _ z, turn_list a _, ⟨_, Heap.get?_push_size _ rfl, rfl, rfl⟩, fin, q⟩
  · obtain ⟨its, rv, pt, _⟩ := J1.tuple sq
    exact wpAny_pyIter_tuple (show s1.heap.IsTuple a its.toArray from pt) ⟨s1.heap.objs.size, _, _, _, H1, rfl, J1.kept (t' := s1.toks) fun b o z => Heap.get?_push_of_some _ z, turn_tuple a _, ⟨_, Heap.get?_push_size _ rfl, rfl, rfl⟩, fin, q⟩
end
end Py
/-! Core, part F: iterators by items; targets; comprehensions. -/
namespace Py
open PySem PySem.Spec PyProof.Rows
open L2 hiding St start wipe

/-! ### what is walked, as items -/
structure Wk [Tau] (K : PySem.W.Frag) (φ0 : List Addr) (H0 : Hp) (J : It) (ds : List D) (gs : Gd) : Prop where
  go : ∀ (φ : List Addr) (h : Hh) (H : Hp) (i : Nat) (d : D), WX φ0 H0 φ H → Rel K φ h H → still gs h → ds[i]? = some d → J.go i H ∧ ∀ x H', J.yld i H x H' → WX φ H φ H' ∧ Rel K φ h H' ∧ VR K φ H' d x
  stop : ∀ (φ : List Addr) (h : Hh) (H : Hp), WX φ0 H0 φ H → Rel K φ h H → still gs h → J.stop ds.length H
abbrev BW [Tau] (K : PySem.W.Frag) : List Addr → Hp → (List D × Gd) → It → Prop := fun φ H p J => Wk K φ H J p.1 p.2
def TIr [Tau] (K : PySem.W.Frag) (ω : Wsh) (o : St → Hh → Out (List D × Gd)) : TI := fun σ H R => ∃ φ h st, Rel K φ h H ∧ SR K φ H st σ ∧ Post K (wAt ω σ) φ H (BW K) (o st h) R
/-- a list, a tuple that stands as long as the guards do -/
def LS [Tau] (K : PySem.W.Frag) (φ0 : List Addr) (H0 : Hp) (a : Addr) (ds : List D) (gs : Gd) : Prop := ∀ (φ : List Addr) (h : Hh) (H : Hp), WX φ0 H0 φ H → Rel K φ h H → still gs h → ∃ xs, SqL K H a xs ∧ VRs K φ H ds xs
def TS' [Tau] (K : PySem.W.Frag) (φ0 : List Addr) (H0 : Hp) (a : Addr) (ds : List D) (gs : Gd) : Prop := ∀ (φ : List Addr) (h : Hh) (H : Hp), WX φ0 H0 φ H → Rel K φ h H → still gs h → ∃ xs, SqT K H a xs ∧ VRs K φ H ds xs
section
variable [Tau] {ω : Wsh} {ε : XK} {X : Cx} {K : PySem.W.Frag} {φ φ0 φ1 : List Addr} {h h1 : Hh} {H H0 H1 : Hp} {st : St} {σ : L2.St} {α β γ : Type} {a b : Addr} {ds es : List D} {gs hs : Gd}
theorem itSeq_ok {x : RV} {v : V} {p : List D × Gd} (R : Rel K φ h H) (r : VRR K φ H H0 x v) (e : itSeq x h = some p) : still p.2 h ∧ ∃ a, v = .ref a ∧ ((isTup x = false ∧ LS K φ H a p.1 p.2) ∨ (isTup x = true ∧ TS' K φ H a p.1 p.2)) := by
  cases x with
  | raw es =>
    cases e
    obtain ⟨a, xs, rfl, _, n, q, r⟩ := r
    exact ⟨fun _ z => by simp at z, a, rfl, .inl ⟨rfl, fun φ' h' H' w R' _ => ⟨xs, SqL.of (w.keep n q), r.mono R w⟩⟩⟩
  | val d =>
    cases r with
    | tup q r =>
      cases e
      exact ⟨fun _ z => by simp at z, _, rfl, .inr ⟨rfl, fun φ' h' H' w R' _ => ⟨_, w.sqt R q, r.mono R w⟩⟩⟩
    | rl q r =>
      cases e
      exact ⟨fun _ z => by simp at z, _, rfl, .inl ⟨rfl, fun φ' h' H' w R' _ => ⟨_, (w.sqs R q).seq, r.mono R w⟩⟩⟩
    | @ref n a ea =>
      simp only [itSeq] at e
      cases e2 : h[n]? with
      | none => rw [e2] at e; cases e
      | some o =>
        cases o with
        | dct kvs => rw [e2] at e; cases e
        | dcn kvs => rw [e2] at e; cases e
        | xc _ _ => rw [e2] at e; cases e
        | lst es =>
          rw [e2] at e
          cases e
          refine ⟨fun p hp => by rw [List.mem_singleton.mp hp]; exact e2, a, rfl, .inl ⟨rfl, fun φ' h' H' w R' s => ?_⟩⟩
          obtain ⟨xs, q, r⟩ := R'.lst (s _ List.mem_cons_self) (w.get ea)
          exact ⟨xs, SqL.of q, r⟩
    | _ => cases e
theorem wk_list (l : LS K φ H a ds gs) : Wk K φ H (Itl K a) ds gs where
  go := fun φ' h' H' i d w R s e => by
    obtain ⟨xs, q, r⟩ := l φ' h' H' w R s
    obtain ⟨v, ev, rv⟩ := r.get e
    refine ⟨⟨xs, v, q, ev⟩, fun x H2 ⟨e1, e2⟩ => ?_⟩
    subst e1
    have z := e2 xs q
    rw [ev] at z
    cases z
    exact ⟨WX.refl, R, rv⟩
  stop := fun φ' h' H' w R s => by
    obtain ⟨xs, q, r⟩ := l φ' h' H' w R s
    exact ⟨xs, q, Nat.le_of_eq r.length⟩
theorem wk_tup (l : TS' K φ H a ds gs) : Wk K φ H (Itt K a) ds gs where
  go := fun φ' h' H' i d w R s e => by
    obtain ⟨xs, q, r⟩ := l φ' h' H' w R s
    obtain ⟨v, ev, rv⟩ := r.get e
    refine ⟨⟨xs, v, q, ev⟩, fun x H2 ⟨e1, e2⟩ => ?_⟩
    subst e1
    have z := e2 xs q
    rw [ev] at z
    cases z
    exact ⟨WX.refl, R, rv⟩
  stop := fun φ' h' H' w R s => by
    obtain ⟨xs, q, r⟩ := l φ' h' H' w R s
    exact ⟨xs, q, Nat.le_of_eq r.length⟩
theorem enumFrom_get : ∀ (ds : List D) (k i : Nat) (d : D), (enumFrom k ds)[i]? = some d → ∃ e, ds[i]? = some e ∧ d = .tup [.int ((k + i : Nat) : Int), e]
  | [], _, _, _, z => by simp [enumFrom] at z
  | e :: ds, k, 0, d, z => by
    simp [enumFrom] at z
    exact ⟨e, rfl, by rw [← z]; simp⟩
  | e :: ds, k, i + 1, d, z => by
    obtain ⟨f, h1, h2⟩ := enumFrom_get ds (k + 1) i d (by simpa [enumFrom] using z)
    exact ⟨f, by simpa using h1, by rw [h2]; congr 3; omega⟩
theorem enumFrom_len : ∀ (ds : List D) (k : Nat), (enumFrom k ds).length = ds.length
  | [], _ => rfl
  | _ :: ds, k => congrArg (· + 1) (enumFrom_len ds (k + 1))
theorem pair_new {H' : Hp} {p : Addr} {d1 d2 : D} {x y : V} (R : Rel K φ h H) (hp : H p = none) (r1 : VR K φ H d1 x) (r2 : VR K φ H d2 y) (e : H' = upd H p (.tup [x, y])) : WX φ H φ H' ∧ Rel K φ h H' ∧ VR K φ H' (.tup [d1, d2]) (.ref p) := by
  subst e
  have w : WX φ H φ (upd H p (.tup [x, y])) := WX.new hp
  exact ⟨w, R.new hp, .tup (SqT.of upd_same) (.cons (r1.mono R w) (.cons (r2.mono R w) .nil))⟩
theorem wk_enumL (l : LS K φ H a ds gs) : Wk K φ H (Ite K a) (enumFrom 0 ds) gs where
  go := fun φ' h' H' i d w R s e => by
    obtain ⟨xs, q, r⟩ := l φ' h' H' w R s
    obtain ⟨d1, e1, rfl⟩ := enumFrom_get _ _ _ _ e
    obtain ⟨v, ev, rv⟩ := r.get e1
    refine ⟨⟨xs, v, q, ev⟩, fun x H2 ⟨p, y, ex, hp, eh, hy⟩ => ?_⟩
    subst ex
    have z := hy xs q
    rw [ev] at z
    cases z
    rw [Nat.zero_add]
    exact pair_new R hp (.int _) rv eh
  stop := fun φ' h' H' w R s => by
    obtain ⟨xs, q, r⟩ := l φ' h' H' w R s
    exact ⟨xs, q, by rw [enumFrom_len]; exact Nat.le_of_eq r.length⟩
theorem wk_enumT (l : TS' K φ H a ds gs) : Wk K φ H (ItET K a) (enumFrom 0 ds) gs where
  go := fun φ' h' H' i d w R s e => by
    obtain ⟨xs, q, r⟩ := l φ' h' H' w R s
    obtain ⟨d1, e1, rfl⟩ := enumFrom_get _ _ _ _ e
    obtain ⟨v, ev, rv⟩ := r.get e1
    refine ⟨⟨xs, v, q, ev⟩, fun x H2 ⟨p, y, ex, hp, eh, hy⟩ => ?_⟩
    subst ex
    have z := hy xs q
    rw [ev] at z
    cases z
    rw [Nat.zero_add]
    exact pair_new R hp (.int _) rv eh
  stop := fun φ' h' H' w R s => by
    obtain ⟨xs, q, r⟩ := l φ' h' H' w R s
    exact ⟨xs, q, by rw [enumFrom_len]; exact r.length⟩
theorem zipD_get : ∀ (ds es : List D) (i : Nat) (d : D), (zipD ds es)[i]? = some d → ∃ e f, ds[i]? = some e ∧ es[i]? = some f ∧ d = .tup [e, f]
  | [], _, _, _, z => by simp [zipD] at z
  | _ :: _, [], _, _, z => by simp [zipD] at z
  | e :: ds, f :: es, 0, d, z => by
    simp [zipD] at z
    exact ⟨e, f, rfl, rfl, z.symm⟩
  | e :: ds, f :: es, i + 1, d, z => by
    obtain ⟨e', f', h1, h2, h3⟩ := zipD_get ds es i d (by simpa [zipD] using z)
    exact ⟨e', f', by simpa using h1, by simpa using h2, h3⟩
theorem zipD_len : ∀ (ds es : List D), ds.length ≤ (zipD ds es).length ∨ es.length ≤ (zipD ds es).length
  | [], _ => .inl (Nat.zero_le _)
  | _ :: _, [] => .inr (Nat.zero_le _)
  | _ :: ds, _ :: es => (zipD_len ds es).imp Nat.succ_le_succ Nat.succ_le_succ
theorem still_app {gs hs : Gd} {h : Hh} : still (gs ++ hs) h ↔ still gs h ∧ still hs h := by
  unfold still
  simp only [List.mem_append]
  exact ⟨fun z => ⟨fun p hp => z p (.inl hp), fun p hp => z p (.inr hp)⟩, fun z p hp => hp.elim (z.1 p) (z.2 p)⟩
theorem wk_zipL (l : LS K φ H a ds gs) (m : LS K φ H b es hs) : Wk K φ H (Itz K a b) (zipD ds es) (gs ++ hs) where
  go := fun φ' h' H' i d w R s e => by
    obtain ⟨s1, s2⟩ := still_app.mp s
    obtain ⟨xs, q, r⟩ := l φ' h' H' w R s1
    obtain ⟨ys, q2, r2⟩ := m φ' h' H' w R s2
    obtain ⟨d1, d2, e1, e2, rfl⟩ := zipD_get _ _ _ _ e
    obtain ⟨v, ev, rv⟩ := r.get e1
    obtain ⟨u, eu, ru⟩ := r2.get e2
    refine ⟨⟨xs, ys, v, u, q, q2, ev, eu⟩, fun x H2 ⟨p, y, y2, ex, hp, eh, hy, hy2⟩ => ?_⟩
    subst ex
    have z := hy xs q
    rw [ev] at z
    cases z
    have z := hy2 ys q2
    rw [eu] at z
    cases z
    exact pair_new R hp rv ru eh
  stop := fun φ' h' H' w R s => by
    obtain ⟨s1, s2⟩ := still_app.mp s
    obtain ⟨xs, q, r⟩ := l φ' h' H' w R s1
    obtain ⟨ys, q2, r2⟩ := m φ' h' H' w R s2
    exact ⟨xs, ys, q, q2, by rw [r.length, r2.length]; exact zipD_len ds es⟩
theorem wk_zipT (l : TS' K φ H a ds gs) (m : TS' K φ H b es hs) : Wk K φ H (RZ.ItzT K a b) (zipD ds es) (gs ++ hs) where
  go := fun φ' h' H' i d w R s e => by
    obtain ⟨s1, s2⟩ := still_app.mp s
    obtain ⟨xs, q, r⟩ := l φ' h' H' w R s1
    obtain ⟨ys, q2, r2⟩ := m φ' h' H' w R s2
    obtain ⟨d1, d2, e1, e2, rfl⟩ := zipD_get _ _ _ _ e
    obtain ⟨v, ev, rv⟩ := r.get e1
    obtain ⟨u, eu, ru⟩ := r2.get e2
    refine ⟨⟨xs, ys, v, u, q, q2, ev, eu⟩, fun x H2 ⟨p, y, y2, ex, hp, eh, hy, hy2⟩ => ?_⟩
    subst ex
    have z := hy xs q
    rw [ev] at z
    cases z
    have z := hy2 ys q2
    rw [eu] at z
    cases z
    exact pair_new R hp rv ru eh
  stop := fun φ' h' H' w R s => by
    obtain ⟨s1, s2⟩ := still_app.mp s
    obtain ⟨xs, q, r⟩ := l φ' h' H' w R s1
    obtain ⟨ys, q2, r2⟩ := m φ' h' H' w R s2
    exact ⟨xs, ys, q, q2, by rw [r.length, r2.length]; exact zipD_len ds es⟩
/-- a list at a, a tuple at b, as they stand at each turn; the items in new pairs -/
def ItzM (K : PySem.W.Frag) (a b : Addr) : It where
  go i H := ∃ (xs ys : List V) (x y : V), SqL K H a xs ∧ SqT K H b ys ∧ xs[i]? = some x ∧ ys[i]? = some y
  yld i H v H' := ∃ T x y, v = .ref T ∧ H T = none ∧ H' = upd H T (.tup [x, y]) ∧ (∀ xs, SqL K H a xs → xs[i]? = some x) ∧ ∀ ys, SqT K H b ys → ys[i]? = some y
  stop i H := ∃ xs ys : List V, SqL K H a xs ∧ SqT K H b ys ∧ i ≤ xs.length ∧ i ≤ ys.length ∧ (i = xs.length ∨ i = ys.length)
theorem turn_zipM {P : Program} {w : World} {K : PySem.W.Frag} {elts : List Expr} {kk : Nat} {tpos : Pos} {a b z TI TO i1 i2 : Addr} (S : ZipSep2 z TI TO i1 i2 [i1, a] [i2, b]) (na : a ≠ i1) (nb : b ≠ i2) :
    Turn P w K (.Tuple elts kk tpos) (ItzM K a b) [z, TI, TO, i1, i2] z (fun i h => IsZip h z TI TO .none ∧ IsTupOf2 h TI (.ref i1) (.ref i2) ∧ (∃ x y, IsTupOf2 h TO x y) ∧ h.IsListIter i1 a i ∧ h.IsTupleIter i2 b i) where
  mem := by simp
  obj := fun i h st c hc => by
    obtain ⟨hz, hTI, ⟨x, y, hTO⟩, ⟨o1, e1, _, d1⟩, ⟨o2, e2, _, d2⟩⟩ := st
    have five : c = z ∨ c = TI ∨ c = TO ∨ c = i1 ∨ c = i2 := by simpa using hc
    rcases five with rfl | rfl | rfl | rfl | rfl
    · exact ⟨_, hz, fun v y => nomatch y⟩
    · exact ⟨_, hTI, fun v y => nomatch y⟩
    · exact ⟨_, hTO, fun v y => nomatch y⟩
    · exact ⟨o1, e1, fun v y => by rw [d1] at y; cases y⟩
    · exact ⟨o2, e2, fun v y => by rw [d2] at y; cases y⟩
  keep := fun i h h' st k => by
    obtain ⟨hz, hTI, ⟨x, y, hTO⟩, g1, g2⟩ := st
    exact ⟨k z (by simp) _ hz, k TI (by simp) _ hTI, ⟨x, y, k TO (by simp) _ hTO⟩, g1.at fun o y => k i1 (by simp) o y, g2.at fun o y => k i2 (by simp) o y⟩
  item := by
    intro X hP hw hK hc i pins s σ H E I hf st hg
    subst hP hw hK
    obtain ⟨hz, hTI, ⟨x0, y0, hTO⟩, g1, g2⟩ := st
    obtain ⟨xs, ys, x, y, hqx, hqy, hx, hy⟩ := hg
    obtain ⟨its, rv, p, _⟩ := I.list hqx
    obtain ⟨its2, rv2, p2, _⟩ := I.tuple hqy
    have p2 : s.heap.IsTuple b its2.toArray := p2
    obtain ⟨u, hu, ru⟩ := rv.get hx
    obtain ⟨u2, hu2, ru2⟩ := rv2.get hy
    have hzl : z < s.heap.objs.size := Heap.lt_size hz
    have l1 : i < its.toArray.size := by simpa using (List.getElem?_eq_some_iff.mp hu).1
    have l2 : i < its2.toArray.size := by simpa using (List.getElem?_eq_some_iff.mp hu2).1
    have dh : X.A.in1.handled = none := I.ok.hd hc
    refine wpAny_pyNext_zipD2_item S (Draws.list dh i1 a na its.toArray) (Draws.tuple dh i2 b nb its2.toArray) hz hTI hTO ⟨g1, p.isList⟩ ⟨g2, p2⟩ l1 l2 fun x1 x2 h' tk y1 y2 z' TO' d1 d2 hT hsz hk => ?_
    obtain rfl : u = x1 := Option.some.inj (hu.symm.trans (by simpa using y1))
    obtain rfl : u2 = x2 := Option.some.inj (hu2.symm.trans (by simpa using y2))
    refine ⟨_, rfl, wpAny_letOwnedTupleGo_zip (s := { s with heap := h', toks := tk }) z' fun h'' z'' sb => ?_⟩
    have hT2 : h''.get? s.heap.objs.size = some { cls := .type "tuple", data := .seq #[u, u2] } := (sb.2 _ (Nat.ne_of_gt hzl)).trans hT
    have fresh : ObjOk X.prog X.w (upd H s.heap.objs.size (.tup [x, y])) h'' s.heap.objs.size (.tup [x, y]) :=
      ⟨by show 2 ≤ sizeLine; decide, [u, u2], .cons ru (.cons ru2 .nil), ⟨_, hT2, rfl, _, rfl⟩⟩
    have I1 : Inv X pins σ (upd H s.heap.objs.size (.tup [x, y])) { s with heap := h'', toks := tk } :=
      I.turnedNew (t' := tk) (ch := [z, TI, TO, i1, i2]) (fun c o hb y => by
        simp only [List.mem_cons, List.mem_nil_iff, or_false, not_or] at hb
        exact (sb.2 c hb.1).trans (hk c o hb.1 hb.2.2.1 hb.2.2.2.1 hb.2.2.2.2 y)) hf (Nat.le_refl _) fresh
    refine ⟨.ref s.heap.objs.size, _, I1, rfl, ⟨_, x, y, rfl, I.hok.fresh (Nat.le_refl _), rfl, fun l hl => by rw [I.list_inj hl hqx]; exact hx, fun l hl => by rw [I.tuple_inj hl hqy]; exact hy⟩, ⟨z'', ?_, ⟨u, u2, ?_⟩, ?_, ?_⟩, fun c hcm => ?_⟩
    · exact (sb.2 _ S.TIz).trans (hk _ _ S.TIz S.TITO S.TIi1 S.TIi2 hTI)
    · exact (sb.2 _ S.TOz).trans TO'
    · exact d1.1.at fun o y => (sb.2 _ S.zi1.symm).trans y
    · exact d2.1.at fun o y => (sb.2 _ S.zi2.symm).trans y
    · have lt : c < s.heap.objs.size := by
        have five : c = z ∨ c = TI ∨ c = TO ∨ c = i1 ∨ c = i2 := by simpa using hcm
        rcases five with rfl | rfl | rfl | rfl | rfl
        · exact hzl
        · exact Heap.lt_size hTI
        · exact Heap.lt_size hTO
        · obtain ⟨_, e1, _⟩ := g1; exact Heap.lt_size e1
        · obtain ⟨_, e2, _⟩ := g2; exact Heap.lt_size e2
      rw [upd_ne (Nat.ne_of_lt lt)]
      exact (hf c hcm).1
  done := by
    intro X hP hw hK hc i pins s σ H E I hf st hg
    subst hP hw hK
    obtain ⟨hz, hTI, ⟨x0, y0, hTO⟩, g1, g2⟩ := st
    obtain ⟨xs, ys, hqx, hqy, le1, le2, hend⟩ := hg
    obtain ⟨its, rv, p, _⟩ := I.list hqx
    obtain ⟨its2, rv2, p2, _⟩ := I.tuple hqy
    have p2 : s.heap.IsTuple b its2.toArray := p2
    have l1 : its.toArray.size = xs.length := by rw [List.size_toArray]; exact rv.length.symm
    have l2 : its2.toArray.size = ys.length := by rw [List.size_toArray]; exact rv2.length.symm
    have dh : X.A.in1.handled = none := I.ok.hd hc
    exact wpAny_pyNext_zipD2_end S (Draws.list dh i1 a na its.toArray) (Draws.tuple dh i2 b nb its2.toArray) hz hTI hTO ⟨g1, p.isList⟩ ⟨g2, p2⟩ (by omega) (by omega) (by omega) fun h' tk hk => ⟨rfl, I.turnedL (t' := tk) (ch := [z, TI, TO, i1, i2]) (fun c o hb y => by
      simp only [List.mem_cons, List.mem_nil_iff, or_false, not_or] at hb
      exact hk c o hb.1 hb.2.2.1 hb.2.2.2.1 hb.2.2.2.2 y) hf⟩
  self := fun A i s Q E st h => wpAny_pyIter_zip st.1 h
def iZipM (K : PySem.W.Frag) (ta : TA) : TI := fun σ H R => ta σ H fun vs H1 => ∃ a b xs ys, vs = [.ref a, .ref b] ∧ ((SqL K H1 a xs ∧ SqL K H1 b ys ∧ R (Itz K a b) H1) ∨ (SqT K H1 a xs ∧ SqT K H1 b ys ∧ R (RZ.ItzT K a b) H1) ∨ (SqL K H1 a xs ∧ SqT K H1 b ys ∧ R (ItzM K a b) H1))
theorem pi_zipM {X : Cx} {e e2 : Expr} {ta : TA} {p pos tpos : Pos} {elts : List Expr} {kk : Nat} (hg : Gl X "zip") (hm : X.mg "zip" = none) (ha : PA X [e, e2] ta)
    (hs : starEach [e, e2] X.env = (false, eval e X.env) :: starEach [e2] X.env) (hpl : (backTo pos (starEach [e2] X.env)).any (·.1) = false) :
    PI X (.Tuple elts kk tpos) (.Call (.Name "zip" p) [e, e2] [] pos) (iZipM X.K ta) := by
  refine ⟨fun pins s σ H R I h => Call_ (ld_blt I hg hm boot_zip (callWith_type1 (thn (ha.run pos pins s σ H _ I h) fun us s1 ⟨vs, H1, I1, r1, a, b, xs, ys, ev, q⟩ => ?_) hs hpl))⟩
  subst ev
  obtain ⟨u, v, eu, ru, rv⟩ := vals2 r1
  subst eu
  obtain rfl : u = Value.ref a := ru
  obtain rfl : v = Value.ref b := rv
  have frs : ∀ c ∈ [s1.heap.objs.size + 4, s1.heap.objs.size + 2, s1.heap.objs.size + 3, s1.heap.objs.size, s1.heap.objs.size + 1], FpOk X pins H1 c := fun c hcm => by
    have le : s1.heap.objs.size ≤ c := by
      simp only [List.mem_cons, List.mem_nil_iff, or_false] at hcm
      rcases hcm with rfl | rfl | rfl | rfl | rfl <;> first | exact Nat.le_add_right _ _ | exact Nat.le_refl _
    exact I1.fpOk le (I1.hok.fresh le)
  rcases q with ⟨hqx, hqy, q⟩ | ⟨hqx, hqy, q⟩ | ⟨hqx, hqy, q⟩
  · obtain ⟨its, w1, p1, _⟩ := I1.list hqx
    obtain ⟨its2, w2, p2, _⟩ := I1.list hqy
    exact call_zip_2 p1.isList p2.isList fun h' hz hTI hTO h1 h2 hsz hk => wpAny_pyIter_zip hz ⟨_, _, _, _, H1, rfl, I1.kept (t' := s1.toks) hk, turn_zip (PySem.W.ktu_apart _ a b p1.lt p2.lt), ⟨hz, hTI, ⟨_, _, hTO⟩, h1, h2⟩, frs, q⟩
  · obtain ⟨its, w1, p1, _⟩ := I1.tuple hqx
    obtain ⟨its2, w2, p2, _⟩ := I1.tuple hqy
    obtain ⟨o1, ho1, _⟩ := id p1
    obtain ⟨o2, ho2, _⟩ := id p2
    exact RZ.call_zipT (show s1.heap.IsTuple a its.toArray from p1) (show s1.heap.IsTuple b its2.toArray from p2) fun h' hz hTI hTO h1 h2 hsz hk => wpAny_pyIter_zip hz ⟨_, _, _, _, H1, rfl, I1.kept (t' := s1.toks) hk, RZ.turn_zipT (PySem.W.ktu_apart _ a b (Heap.lt_size ho1) (Heap.lt_size ho2)), ⟨hz, hTI, ⟨_, _, hTO⟩, h1, h2⟩, frs, q⟩
  · obtain ⟨its, w1, p1, _⟩ := I1.list hqx
    obtain ⟨its2, w2, p2, _⟩ := I1.tuple hqy
    obtain ⟨o2, ho2, _⟩ := id p2
    have la := p1.lt
    have lb := Heap.lt_size ho2
    refine zip_begins2 (begins_list a its.toArray) (begins_tuple b its2.toArray) p1.isList (show s1.heap.IsTuple b its2.toArray from p2) fun h' hz hTI hTO h1 h2 hsz hk => wpAny_pyIter_zip hz ?_
    exact ⟨_, _, _, _, H1, rfl, I1.kept (t' := s1.toks) hk, turn_zipM (zip_sep2 (fp1 := [a]) (fp2 := [b]) (fun c hc => by rw [List.mem_singleton.mp hc]; exact la) (fun c hc => by rw [List.mem_singleton.mp hc]; exact lb)) (Nat.ne_of_lt la) (Nat.ne_of_lt (Nat.lt_succ_of_lt lb)), ⟨hz, hTI, ⟨_, _, hTO⟩, ⟨_, h1, rfl, rfl⟩, ⟨_, h2, rfl, rfl⟩⟩, frs, q⟩
theorem zipD_le : ∀ (ds es : List D), (zipD ds es).length ≤ ds.length ∧ (zipD ds es).length ≤ es.length ∧ ((zipD ds es).length = ds.length ∨ (zipD ds es).length = es.length)
  | [], es => ⟨Nat.le_refl _, Nat.zero_le _, .inl rfl⟩
  | _ :: _, [] => ⟨Nat.zero_le _, Nat.le_refl _, .inr rfl⟩
  | _ :: ds, _ :: es => by
    obtain ⟨h1, h2, h3⟩ := zipD_le ds es
    exact ⟨Nat.succ_le_succ h1, Nat.succ_le_succ h2, h3.imp (congrArg (· + 1)) (congrArg (· + 1))⟩
theorem wk_zipM (l : LS K φ H a ds gs) (m : TS' K φ H b es hs) : Wk K φ H (ItzM K a b) (zipD ds es) (gs ++ hs) where
  go := fun φ' h' H' i d w R s e => by
    obtain ⟨s1, s2⟩ := still_app.mp s
    obtain ⟨xs, q, r⟩ := l φ' h' H' w R s1
    obtain ⟨ys, q2, r2⟩ := m φ' h' H' w R s2
    obtain ⟨d1, d2, e1, e2, rfl⟩ := zipD_get _ _ _ _ e
    obtain ⟨v, ev, rv⟩ := r.get e1
    obtain ⟨u, eu, ru⟩ := r2.get e2
    refine ⟨⟨xs, ys, v, u, q, q2, ev, eu⟩, fun x H2 ⟨p, y, y2, ex, hp, eh, hy, hy2⟩ => ?_⟩
    subst ex
    have z := hy xs q
    rw [ev] at z
    cases z
    have z := hy2 ys q2
    rw [eu] at z
    cases z
    exact pair_new R hp rv ru eh
  stop := fun φ' h' H' w R s => by
    obtain ⟨s1, s2⟩ := still_app.mp s
    obtain ⟨xs, q, r⟩ := l φ' h' H' w R s1
    obtain ⟨ys, q2, r2⟩ := m φ' h' H' w R s2
    obtain ⟨h1, h2, h3⟩ := zipD_le ds es
    exact ⟨xs, ys, q, q2, by rw [r.length]; exact h1, by rw [r2.length]; exact h2, by rw [r.length, r2.length]; exact h3⟩
theorem wk_rng {lo : Int} {n : Nat} : Wk K φ H (Itr lo n) (rng lo n) [] where
  go := fun φ' h' H' i d w R s e => by
    unfold rng at e
    rw [List.getElem?_map] at e
    cases e2 : (List.range n)[i]? with
    | none => rw [e2] at e; cases e
    | some j =>
      rw [e2] at e
      cases e
      have hi : i < n := by simpa using (List.getElem?_eq_some_iff.mp e2).1
      have ej : j = i := by
        rw [List.getElem?_range hi] at e2
        exact (Option.some.inj e2).symm
      subst ej
      refine ⟨hi, fun x H2 ⟨e1, e2⟩ => ?_⟩
      subst e1
      subst e2
      exact ⟨WX.refl, R, .int _⟩
  stop := fun φ' h' H' w R s => by
    show n ≤ _
    unfold rng
    rw [List.length_map, List.length_range]
    exact Nat.le_refl _

/-! ### what a loop walks, by the evaluator -/
variable {e e2 tg : Expr} {oa ob : St → Hh → Out RV} {pos p : Pos} {k : Nat}
theorem pi_imp {w w' : TI} {it : Expr} (q : PI X tg it w) (f : ∀ σ H R, w' σ H R → w σ H R) : PI X tg it w' := ⟨fun pins s σ H R i z => q.run pins s σ H R i (f σ H R z)⟩
theorem lsL {φ : List Addr} {h : Hh} (R : Rel K φ h H) (s : still gs h) (l : LS K φ H a ds gs) : ∃ xs, SqL K H a xs := let ⟨xs, q, _⟩ := l φ h H WX.refl R s; ⟨xs, q⟩
theorem tsT {φ : List Addr} {h : Hh} (R : Rel K φ h H) (s : still gs h) (l : TS' K φ H a ds gs) : ∃ xs, SqT K H a xs := let ⟨xs, q, _⟩ := l φ h H WX.refl R s; ⟨xs, q⟩
theorem ji_seq (he : PE X e (TEr X.K ω oa)) : PI X tg e (TIr X.K ω fun st h => Py.bnd (oa st h) fun x h => match itSeq x h with
    | some p => .ok p h
    | none => .fail) := pi_imp (pi_seqA he) fun σ H Rr ⟨φ, h, st, R, S, q⟩ => by
  refine ⟨φ, h, st, R, S, ?_⟩
  refine Post.seq q fun x h1 e1 eo φ1 H1 v1 w1 R1 r1 => ?_
  cases e2 : itSeq x h1 with
  | none => rw [e2] at eo; exact eo.elim
  | some p' =>
    rw [e2] at eo
    obtain ⟨s, a, rfl, ⟨_, l⟩ | ⟨_, l⟩⟩ := itSeq_ok R1 r1 e2
    · obtain ⟨xs, sq⟩ := lsL R1 s l
      exact ⟨a, xs, rfl, .inl ⟨sq, eo φ1 H1 _ w1 R1 (wk_list l)⟩⟩
    · obtain ⟨xs, sq⟩ := tsT R1 s l
      exact ⟨a, xs, rfl, .inr ⟨sq, eo φ1 H1 _ w1 R1 (wk_tup l)⟩⟩
theorem ji_rng1 (hg : Gl X "range") (hm : X.mg "range" = none) (n : noStar e = true) (he : PE X e (TEr X.K ω oa)) : PI X tg (.Call (.Name "range" p) [e] [] pos) (TIr X.K ω fun st h => Py.bnd (oa st h) fun x h => match x with
    | .val (.int j) => if -(2 ^ 62) ≤ j ∧ j < 2 ^ 62 then .ok (rng 0 j.toNat, []) h else .fail
    | _ => .fail) := pi_imp (pi_range1 hg hm (pa_cons he pa_nil (star_cons n)) (star_cons n)) fun σ H Rr ⟨φ, h, st, R, S, q⟩ => by
  refine ⟨φ, h, st, R, S, ?_⟩
  refine Post.seq q fun x h1 e1 eo φ1 H1 v1 w1 R1 r1 => ?_
  split at eo
  · split at eo
    · rename_i hb
      obtain rfl := r1.int
      exact ⟨_, rfl, hb.1, hb.2, eo φ1 H1 _ w1 R1 wk_rng⟩
    · exact eo.elim
  · exact eo.elim
theorem ji_rng2 (hg : Gl X "range") (hm : X.mg "range" = none) (n : noStar e = true) (n2 : noStar e2 = true) (he : PE X e (TEr X.K ω oa)) (he2 : PE X e2 (TEr X.K ω ob)) :
    PI X tg (.Call (.Name "range" p) [e, e2] [] pos) (TIr X.K ω fun st h => Py.bnd (oa st h) fun x h => Py.bnd (ob st h) fun y h => match x, y with
    | .val (.int i), .val (.int j) => if -(2 ^ 62) ≤ i ∧ i < 2 ^ 62 ∧ -(2 ^ 62) ≤ j ∧ j < 2 ^ 62 then .ok (rng i (j - i).toNat, []) h else .fail
    | _, _ => .fail) := pi_imp (pi_range2 hg hm (pa_cons he (pa_cons he2 pa_nil (star_cons n2)) (star_cons n)) (by rw [star_cons n, star_cons n2]; rfl) (star_cons n2)) fun σ H Rr ⟨φ, h, st, R, S, q⟩ => by
  refine ⟨φ, h, st, R, S, ?_⟩
  refine Post.seq q fun x h1 e1 eo φ1 H1 v1 w1 R1 r1 => ?_
  refine ⟨φ1, h1, st, R1, S.mono R w1, ?_⟩
  refine Post.seqW eo R w1 R1 fun y h2 e2 eo φ2 H2 v2 w2 R2 r2 => ?_
  split at eo
  · split at eo
    · rename_i hb
      obtain rfl := r1.int
      obtain rfl := r2.int
      exact ⟨_, _, rfl, hb, eo φ2 H2 _ (w1.trans R R1 w2) R2 wk_rng⟩
    · exact eo.elim
  · exact eo.elim
theorem ji_enum {elts : List Expr} {tpos : Pos} (hg : Gl X "enumerate") (hm : X.mg "enumerate" = none) (n : noStar e = true) (he : PE X e (TEr X.K ω oa)) :
    PI X (.Tuple elts k tpos) (.Call (.Name "enumerate" p) [e] [] pos) (TIr X.K ω fun st h => Py.bnd (oa st h) fun x h => match itSeq x h with
    | some p => .ok (enumFrom 0 p.1, p.2) h
    | none => .fail) := pi_imp (pi_enumA hg hm (pa_cons he pa_nil (star_cons n)) (star_cons n)) fun σ H Rr ⟨φ, h, st, R, S, q⟩ => by
  refine ⟨φ, h, st, R, S, ?_⟩
  refine Post.seq q fun x h1 e1 eo φ1 H1 v1 w1 R1 r1 => ?_
  cases e2 : itSeq x h1 with
  | none => rw [e2] at eo; exact eo.elim
  | some p' =>
    rw [e2] at eo
    obtain ⟨s, a, rfl, ⟨_, l⟩ | ⟨_, l⟩⟩ := itSeq_ok R1 r1 e2
    · obtain ⟨xs, sq⟩ := lsL R1 s l
      exact ⟨a, xs, rfl, .inl ⟨sq, eo φ1 H1 _ w1 R1 (wk_enumL l)⟩⟩
    · obtain ⟨xs, sq⟩ := tsT R1 s l
      exact ⟨a, xs, rfl, .inr ⟨sq, eo φ1 H1 _ w1 R1 (wk_enumT l)⟩⟩
theorem LS.mono {φ : List Addr} {h : Hh} (R : Rel K φ h H) (R1 : Rel K φ1 h1 H1) (w : WX φ H φ1 H1) (l : LS K φ H a ds gs) : LS K φ1 H1 a ds gs := fun φ' h' H' w' R' s => l φ' h' H' (w.trans R R1 w') R' s
theorem TS'.mono {φ : List Addr} {h : Hh} (R : Rel K φ h H) (R1 : Rel K φ1 h1 H1) (w : WX φ H φ1 H1) (l : TS' K φ H a ds gs) : TS' K φ1 H1 a ds gs := fun φ' h' H' w' R' s => l φ' h' H' (w.trans R R1 w') R' s
theorem ji_zip {elts : List Expr} {tpos : Pos} (hg : Gl X "zip") (hm : X.mg "zip" = none) (n : noStar e = true) (n2 : noStar e2 = true) (he : PE X e (TEr X.K ω oa)) (he2 : PE X e2 (TEr X.K ω ob)) :
    PI X (.Tuple elts k tpos) (.Call (.Name "zip" p) [e, e2] [] pos) (TIr X.K ω fun st h => Py.bnd (oa st h) fun x h => Py.bnd (ob st h) fun y h => match itSeq x h, itSeq y h, sameKind x y with
    | some p, some q, true => .ok (zipD p.1 q.1, p.2 ++ q.2) h
    | _, _, _ => .fail) := pi_imp (pi_zipM hg hm (pa_cons he (pa_cons he2 pa_nil (star_cons n2)) (star_cons n)) (star_cons n) (by rw [star_cons n2]; rfl)) fun σ H Rr ⟨φ, h, st, R, S, q⟩ => by
  refine ⟨φ, h, st, R, S, ?_⟩
  refine Post.seq q fun x h1 e1 eo φ1 H1 v1 w1 R1 r1 => ?_
  refine ⟨φ1, h1, st, R1, S.mono R w1, ?_⟩
  refine Post.seqW eo R w1 R1 fun y h2 e2 eo φ2 H2 v2 w2 R2 r2 => ?_
  split at eo
  · rename_i p1 p2 g1 g2 g3
    obtain ⟨s1, a, rfl, l⟩ := itSeq_ok R2 (r1.mono R1 w2) g1
    obtain ⟨s2, b, rfl, m⟩ := itSeq_ok R2 r2 g2
    unfold sameKind at g3
    rcases l with ⟨k1, l⟩ | ⟨k1, l⟩ <;> rcases m with ⟨k2, m⟩ | ⟨k2, m⟩ <;> rw [k1, k2] at g3
    · obtain ⟨xs, sq⟩ := lsL R2 s1 l
      obtain ⟨ys, sq2⟩ := lsL R2 s2 m
      exact ⟨a, b, xs, ys, rfl, .inl ⟨sq, sq2, eo φ2 H2 _ (w1.trans R R1 w2) R2 (wk_zipL l m)⟩⟩
    · obtain ⟨xs, sq⟩ := lsL R2 s1 l
      obtain ⟨ys, sq2⟩ := tsT R2 s2 m
      exact ⟨a, b, xs, ys, rfl, .inr (.inr ⟨sq, sq2, eo φ2 H2 _ (w1.trans R R1 w2) R2 (wk_zipM l m)⟩)⟩
    · cases g3
    · obtain ⟨xs, sq⟩ := tsT R2 s1 l
      obtain ⟨ys, sq2⟩ := tsT R2 s2 m
      exact ⟨a, b, xs, ys, rfl, .inr (.inl ⟨sq, sq2, eo φ2 H2 _ (w1.trans R R1 w2) R2 (wk_zipT l m)⟩)⟩
  · exact eo.elim
end
end Py
/-! Core, part G: targets, comprehensions. -/
namespace Py
open PySem PySem.Spec PyProof.Rows
open L2 hiding St start wipe
def cat2 : Option (List Nat) → Option (List Nat) → Option (List Nat)
  | some a, some b => some (a ++ b)
  | _, _ => none
/-! the slots that a target of names stores to; none where there is another sort of target -/
mutual
def gOwn : G → Option (List Nat)
  | .name i => some [i]
  | .tup gs => gOwns gs
  | .sub _ _ => none
def gOwns : Gs → Option (List Nat)
  | .nil => some []
  | .cons g gs => cat2 (gOwn g) (gOwns gs)
end
/-- behind a target's store: the slots -/
structure BS [Tau] (K : PySem.W.Frag) (σ : L2.St) (own : Option (List Nat)) (φ : List Addr) (H : Hp) (st : St) (σ' : L2.St) : Prop where
  sr : SR K φ H st σ'
  out : ∀ l, own = some l → σ'.length = σ.length ∧ ∀ i, i ∉ l → σ'[i]? = σ[i]?
/-- nothing is raised -/
def PostN [Tau] {α β : Type} (K : PySem.W.Frag) (φ : List Addr) (H : Hp) (B : List Addr → Hp → α → β → Prop) (o : Out α) (Q : β → Hp → Prop) : Prop :=
  match o with
  | .ok a h' => ∀ φ' H' b, WX φ H φ' H' → Rel K φ' h' H' → B φ' H' a b → Q b H'
  | _ => False
def TGr [Tau] (K : PySem.W.Frag) (own : Option (List Nat)) (o : D → St → Hh → Out St) : TG := fun v σ H Q => ∃ φ h st d, Rel K φ h H ∧ SR K φ H st σ ∧ VR K φ H d v ∧ PostN K φ H (BS K σ own) (o d st h) Q
def TGsr [Tau] (K : PySem.W.Frag) (own : Option (List Nat)) (o : List D → St → Hh → Out St) : TGs := fun vs σ H Q => ∃ φ h st ds, Rel K φ h H ∧ SR K φ H st σ ∧ VRs K φ H ds vs ∧ PostN K φ H (BS K σ own) (o ds st h) Q
section
variable [Tau] {ω : Wsh} {ε : XK} {X : Cx} {K : PySem.W.Frag} {φ φ0 φ1 : List Addr} {h h1 : Hh} {H H0 H1 : Hp} {st : St} {σ : L2.St} {e a b tg : Expr} {ts : List Expr} {oa ob : St → Hh → Out RV} {pos : Pos} {k : Nat}
theorem PostN.bnd {α β γ : Type} {B : List Addr → Hp → β → γ → Prop} {o : Out α} {f : α → Hh → Out β} {Q : γ → Hp → Prop} (p : PostN K φ H B (Py.bndF o f) Q) : ∃ a h1, o = .ok a h1 ∧ PostN K φ H B (f a h1) Q := by
  cases o with
  | ok a h1 => exact ⟨a, h1, rfl, p⟩
  | exc => exact p.elim
  | fail => exact p.elim
theorem PostN.ok {α β : Type} {B : List Addr → Hp → α → β → Prop} {o : Out α} {Q : β → Hp → Prop} (p : PostN K φ H B o Q) : ∃ a h', o = .ok a h' ∧ ∀ φ' H' b, WX φ H φ' H' → Rel K φ' h' H' → B φ' H' a b → Q b H' := by
  cases o with
  | ok a h => exact ⟨a, h, rfl, p⟩
  | exc => exact p.elim
  | fail => exact p.elim
theorem SR.set {i : Nat} {d : D} {v : V} (S : SR K φ H st σ) (r : VR K φ H d v) : SR K φ H (st.set i (some d)) (σ.set i (some v)) := by
  refine ⟨by rw [List.length_set, List.length_set]; exact S.len, fun j e ej => ?_⟩
  by_cases hij : i = j
  · subst hij
    by_cases hi : i < st.length
    · rw [List.getElem?_set_self hi] at ej
      cases ej
      exact .inl ⟨v, List.getElem?_set_self (by rw [S.len]; exact hi), r⟩
    · have z := (List.getElem?_eq_some_iff.mp ej).1
      rw [List.length_set] at z
      exact absurd z hi
  · rw [List.getElem?_set_ne hij] at ej ⊢
    exact S.valP j e ej
theorem pg_imp {t t' : TG} (p : PG X tg t) (f : ∀ v σ H Q, t' v σ H Q → t v σ H Q) : PG X tg t' := ⟨fun pins s σ H v u Q i r z => p.run pins s σ H v u Q i r (f v σ H Q z)⟩
theorem pgs_imp {t t' : TGs} (p : PGs X ts t) (f : ∀ v σ H Q, t' v σ H Q → t v σ H Q) : PGs X ts t' := ⟨fun pins s σ H v u Q i r z => p.run pins s σ H v u Q i r (f v σ H Q z)⟩
theorem jg_name {i : Nat} {x : Str} (hN : X.N.Nodup) (hi : X.N[i]? = some x) (hx : Loc X.env.scope x) (hf : X.fn x = true ∨ X.env.scope.names.lookup x = some .local) :
    PG X (.Name x pos) (TGr X.K (some [i]) fun d st h => .ok (st.set i (some d)) h) := pg_imp (pg_name hN hi hx hf) fun v σ H Q ⟨φ, h, st, d, R, S, r, q⟩ =>
  q φ H _ WX.refl R ⟨S.set r, fun l e => by
    cases e
    exact ⟨List.length_set .., fun j hj => List.getElem?_set_ne fun z => hj (by rw [z]; exact List.mem_cons_self)⟩⟩
theorem assign_cons {env : Env} (n : noStar e = true) : assignEach (e :: ts) env = (false, assign e env) :: assignEach ts env := by
  cases e with
  | Starred x p => exact absurd (show false = true from n) Bool.false_ne_true
  | _ => rfl
theorem jgs_nil : PGs X [] (TGsr X.K (some []) fun ds st h => match ds with
    | [] => .ok st h
    | _ => .fail) := pgs_imp pgs_nil fun v σ H Q ⟨φ, h, st, ds, R, S, r, q⟩ => by
  cases r with
  | nil => exact ⟨rfl, q φ H _ WX.refl R ⟨S, fun l e => ⟨rfl, fun _ _ => rfl⟩⟩⟩
  | cons => exact q.elim
theorem jgs_cons {og : D → St → Hh → Out St} {os : List D → St → Hh → Out St} {o1 o2 : Option (List Nat)} (n : noStar tg = true) (hg : PG X tg (TGr X.K o1 og)) (hr : PGs X ts (TGsr X.K o2 os)) :
    PGs X (tg :: ts) (TGsr X.K (cat2 o1 o2) fun ds st h => match ds with
      | d :: ds => Py.bndF (og d st h) fun st h => os ds st h
      | [] => .fail) := pgs_imp (pgs_cons hg hr (by rw [assign_cons n]; rfl)) fun v σ H Q ⟨φ, h, st, ds, R, S, r, q⟩ => by
  cases r with
  | nil => exact q.elim
  | cons r1 r2 =>
    refine ⟨_, _, rfl, φ, h, st, _, R, S, r1, ?_⟩
    obtain ⟨st1, h1, e1, q⟩ := PostN.bnd q
    rw [e1]
    intro φ1 H1 σ1 w1 R1 B1
    refine ⟨φ1, h1, st1, _, R1, B1.sr, r2.mono R w1, ?_⟩
    obtain ⟨st2, h2, e2, q⟩ := PostN.ok q
    rw [e2]
    intro φ2 H2 σ2 w2 R2 B2
    refine q φ2 H2 σ2 (w1.trans R R1 w2) R2 ⟨B2.sr, fun l el => ?_⟩
    cases o1 with
    | none => cases el
    | some l1 =>
      cases o2 with
      | none => cases el
      | some l2 =>
        cases el
        obtain ⟨a1, a2⟩ := B1.out l1 rfl
        obtain ⟨b1, b2⟩ := B2.out l2 rfl
        exact ⟨b1.trans a1, fun i hi => (b2 i fun z => hi (List.mem_append_right _ z)).trans (a2 i fun z => hi (List.mem_append_left _ z))⟩
theorem starless : ∀ (ts : List Expr) (env : Env), ts.all noStar = true → (assignEach ts env).length = ts.length ∧ (assignEach ts env).findIdx? (·.1) = none
  | [], _, _ => ⟨rfl, rfl⟩
  | t :: ts, env, n => by
    rw [List.all_cons, Bool.and_eq_true] at n
    obtain ⟨z1, z2⟩ := starless ts env n.2
    rw [assign_cons n.1]
    refine ⟨congrArg (· + 1) z1, ?_⟩
    rw [List.findIdx?_cons]
    simp [z2]
theorem jg_tup {os : List D → St → Hh → Out St} {own : Option (List Nat)} (hc : X.calm = true) (n : ts.all noStar = true) (hl : ∀ ds st h st' h', os ds st h = .ok st' h' → ds.length = ts.length) (hr : PGs X ts (TGsr X.K own os)) :
    PG X (.Tuple ts k pos) (TGr X.K own fun d st h => match d with
      | .tup ds => os ds st h
      | _ => .fail) := pg_imp (pg_tup (n := ts.length) hc hr (starless ts _ n).1 (starless ts _ n).2) fun v σ H Q ⟨φ, h, st, d, R, S, r, q⟩ => by
  cases r with
  | tup sq r =>
    obtain ⟨st1, h1, e1, q'⟩ := PostN.ok q
    exact ⟨_, _, rfl, sq, by rw [r.length]; exact hl _ _ _ _ _ e1, φ, h, st, _, R, S, r, q⟩
  | _ => exact q.elim
theorem ixN_lt {n : Nat} {i : Int} {j : Nat} (e : ixN n i = some j) : j < n := (ixN_seq e).2.1
/-- o[i] = d by values -/
def TS3 (K : PySem.W.Frag) : V → V → V → Hp → (Hp → Prop) → Prop := fun x y v H Q => ∃ φ h a b d Ha Hb h', Rel K φ h H ∧ VRR K φ H Ha a x ∧ VRR K φ H Hb b y ∧ VR K φ H d v ∧ opSet a b d h = some h' ∧
  ∀ w, WX φ H φ w → Rel K φ h' w → Q w
theorem set_ok (hu : X.A.units + 128 < cLine) : PSet X (TS3 X.K) := by
  intro pins s σ H o i v ov iv u Q I ro ri rv ⟨φ, h, a, b, d, Ha, Hb, h', R, ra, rb, rd, e, q⟩
  unfold opSet at e
  split at e
  rotate_left
  · cases e
  rename_i k
  cases (ra : VR X.K φ H _ o) with
  | @ref _ p ea =>
  cases ro
  have dict : ∀ (t : Bool) (kvs : List (D × D)) (i0 : D), dOf h (.val (.ref k)) = some (t, kvs) → okKey t i0 = true → kvs.length < SZ → VR X.K φ H i0 i → h' = h.set k (putO t kvs i0 d) →
      wpAny (model X.prog X.w) X.A (setItem (.ref p) iv u) (fun _ s' => ∃ H', L2.Inv X pins σ H' s' ∧ Q H') X.xe s := fun t kvs i0 eo ok hl ri0 eh =>
    dct_put (by omega) R I ea eo ok hl ri0 ri rd rv fun s' w' I' w Rn => ⟨_, I', q _ w (by rw [eh]; exact Rn)⟩
  split at e
  · rename_i ds e3
    split at e
    · rename_i j
      obtain rfl := rb.int
      split at e
      · rename_i m e4
        cases e
        obtain ⟨xs, ex, rx⟩ := R.lst e3 ea
        refine set_list pins s σ H (.ref p) _ v _ iv u Q I rfl ri rv ⟨p, xs, j, m, rfl, rfl, ex, by rw [rx.length]; exact e4, ?_⟩
        exact q _ (WX.write R ea ex) (R.write ea ex (rx.set rd m))
      · cases e
    · cases e
  · rename_i kvs e3
    split at e
    · rename_i i0
      split at e
      · rename_i hc
        cases e
        exact dict false kvs i0 (by simp only [dOf, e3]) hc.1 hc.2 rb rfl
      · cases e
    · cases e
  · rename_i kvs e3
    split at e
    · rename_i i0
      split at e
      · rename_i hc
        cases e
        exact dict true kvs i0 (by simp only [dOf, e3]) hc.1 hc.2 rb rfl
      · cases e
    · cases e
  · cases e
theorem jg_sub (hu : X.A.units + 128 < cLine) (n : noSlice b = true) (ha : PE X a (TEr X.K ω oa)) (hb : PE X b (TEr X.K ω ob)) :
    PG X (.Subscript a b pos) (TGr X.K none fun d st h => Py.bndF (oa st h) fun x h => Py.bndF (ob st h) fun y h => match opSet x y d h with
    | some h' => .ok st h'
    | none => .fail) := pg_imp (pg_sub ha hb (set_ok hu) (fun v => by
      cases b with
      | Slice _ _ _ _ => exact absurd (show false = true from n) Bool.false_ne_true
      | _ => rfl)) fun v σ H Q ⟨φ, h, st, d, R, S, r, q⟩ => by
  refine ⟨φ, h, st, R, S, ?_⟩
  obtain ⟨x, h1, e1, q⟩ := PostN.bnd q
  rw [e1]
  intro φ1 H1 v1 w1 R1 r1
  refine ⟨φ1, h1, st, R1, S.mono R w1, ?_⟩
  obtain ⟨y, h2, e2, q⟩ := PostN.bnd q
  rw [e2]
  intro φ2 H2 v2 w2 R2 r2
  have w12 := w1.trans R R1 w2
  split at q
  · rename_i h' e3
    refine ⟨φ2, h2, x, y, d, H, H1, h', R2, r1.mono R1 w2, r2, r.mono R w12, e3, fun w w3 R3 => ?_⟩
    exact q φ2 w σ (w12.trans R R2 w3) R3 ⟨(S.mono R w12).mono R2 w3, fun l el => by cases el⟩
  · exact q.elim

/-! ### comprehensions -/
/-- a list that isn't tracked grows -/
structure Grow (K : PySem.W.Frag) (H H' : Hp) : Prop where
  t : ∀ a xs, SqT K H a xs → SqT K H' a xs
  s : ∀ a xs, SqS K H a xs → SqS K H' a xs
theorem grow {D : Addr} {xs ys : List V} (e : H D = some (.lst xs)) : Grow K H (upd H D (.lst ys)) := by
  refine ⟨fun a zs q => ?_, fun a zs q => ?_⟩
  · rcases q with (q | ⟨o, q⟩) | q
    · exact .inl (.inl (by rw [upd_ne (ne_of q e (by intro z; cases z))]; exact q))
    · exact .inl (.inr ⟨o, by rw [upd_ne (ne_of q e (by intro z; cases z))]; exact q⟩)
    · exact .inr q
  · rcases q with ⟨o, q⟩ | q
    · exact .inl ⟨o, by rw [upd_ne (ne_of q e (by intro z; cases z))]; exact q⟩
    · exact .inr q
mutual
theorem VR.grow {H' : Hp} (g : Grow K H H') : ∀ {d : D} {v : V}, VR K φ H d v → VR K φ H' d v
  | _, _, .non => .non
  | _, _, .bl b => .bl b
  | _, _, .int i => .int i
  | _, _, .str x => .str x
  | _, _, .tup q r => .tup (g.t _ _ q) (VRs.grow g r)
  | _, _, .ref e => .ref e
  | _, _, .rl q r => .rl (g.s _ _ q) (VRs.grow g r)
theorem VRs.grow {H' : Hp} (g : Grow K H H') : ∀ {ds : List D} {vs : List V}, VRs K φ H ds vs → VRs K φ H' ds vs
  | _, _, .nil => .nil
  | _, _, .cons r t => .cons (VR.grow g r) (VRs.grow g t)
end
theorem Rel.grow {D : Addr} {xs ys : List V} (R : Rel K φ h H) (hD : D ∉ φ) (e : H D = some (.lst xs)) : Rel K φ h (upd H D (.lst ys)) := by
  refine ⟨R.len, fun n o a h1 h2 => ?_, R.inj, tabs_write R.tab e (.lst _), Tau.keep R.inv (.write e (.lst _))⟩
  exact (R.obj n o a h1 h2).map (upd_ne fun z => hD (by rw [← z]; exact List.mem_of_getElem? h2)) (fun b ys q => by rw [upd_ne (ne_of q e (by intro z; cases z))]; exact q) (fun _ _ r => r.grow (Py.grow e)) fun _ _ r => r.grow (Py.grow e)
theorem SR.wipe (S : SR K φ H st σ) : ∀ (vs : List Nat), SR K φ H (wipe st vs) (L2.wipe σ vs)
  | [] => S
  | v :: vs => by
    have z := SR.wipe S vs
    unfold Py.wipe L2.wipe
    refine ⟨by rw [List.length_set, List.length_set]; exact z.len, fun j e ej => ?_⟩
    by_cases hij : v = j
    · subst hij
      by_cases hi : v < (Py.wipe st vs).length
      · rw [List.getElem?_set_self hi] at ej
        cases ej
      · have z := (List.getElem?_eq_some_iff.mp ej).1
        rw [List.length_set] at z
        exact absurd z hi
    · rw [List.getElem?_set_ne hij] at ej ⊢
      exact z.valP j e ej
theorem wipe_get (i : Nat) : ∀ (vs : List Nat), (L2.wipe σ vs)[i]? = if i ∈ vs then (if i < σ.length then some none else none) else σ[i]?
  | [] => by simp [L2.wipe]
  | v :: vs => by
    unfold L2.wipe
    rw [List.getElem?_set, wipe_get i vs, wipe_length]
    by_cases hv : v = i
    · subst hv
      simp
    · have hv' : ¬ i = v := fun z => hv z.symm
      simp [hv, hv']
theorem wipe_eq {σ' : L2.St} {vs : List Nat} (hl : σ'.length = σ.length) (hv : ∀ i : Nat, i ∉ vs → σ'[i]? = σ[i]?) : L2.wipe σ' vs = L2.wipe σ vs := by
  apply List.ext_getElem?
  intro i
  rw [wipe_get, wipe_get, hl]
  by_cases hi : i ∈ vs
  · rw [if_pos hi, if_pos hi]
  · rw [if_neg hi, if_neg hi]
    exact hv i hi
theorem wipe_wipe {vs : List Nat} : L2.wipe (L2.wipe σ vs) vs = L2.wipe σ vs := by
  apply List.ext_getElem?
  intro i
  rw [wipe_get, wipe_get, wipe_length]
  by_cases hi : i ∈ vs
  · rw [if_pos hi, if_pos hi]
  · rw [if_neg hi, if_neg hi]

/-- a comprehension's turn -/
def lcTurn (st : St) (own : List Nat) (og : D → St → Hh → Out St) (oc : St → Hh → Out Bool) (oe : St → Hh → Out D) : D → Hh → Out (Option D) := fun d h =>
  Py.bnd (og d (wipe st own) h) fun st2 h => Py.bnd (oc st2 h) fun b h => if b = true then Py.bnd (oe st2 h) fun v h => .ok (some v) h else .ok none h
theorem bndF_ok_of {α β : Type} {o : Out α} {f : α → Hh → Out β} {b : β} {h' : Hh} (e : bndF o f = .ok b h') : ∃ a h1, o = .ok a h1 ∧ f a h1 = .ok b h' := by
  cases o with
  | ok a h1 => exact ⟨a, h1, rfl, e⟩
  | exc => cases e
  | fail => cases e
theorem lcLoop_no {turn : D → Hh → Out (Option D)} {gs : Gd} {c : Str} {fs : List (Str × D)} {hf : Hh} : ∀ (ds acc : List D) (h : Hh), lcLoop turn gs ds acc h ≠ .exc c fs hf
  | [], acc, h, e => by
    unfold lcLoop at e
    split at e <;> cases e
  | d :: ds, acc, h, e => by
    unfold lcLoop at e
    split at e
    · cases ht : turn d h with
      | ok r h' =>
        rw [ht] at e
        have e : (match r with
          | some v => if acc.length < SZ then lcLoop turn gs ds (acc ++ [v]) h' else .fail
          | none => lcLoop turn gs ds acc h') = .exc c fs hf := e
        cases r with
        | none => exact lcLoop_no ds acc h' e
        | some v =>
          simp only at e
          split at e
          · exact lcLoop_no ds _ h' e
          · cases e
      | exc => rw [ht] at e; cases e
      | fail => rw [ht] at e; cases e
    · cases e
theorem lcLoop_cons {turn : D → Hh → Out (Option D)} {gs : Gd} {d : D} {ds acc vs : List D} {h hf : Hh} (e : lcLoop turn gs (d :: ds) acc h = .ok vs hf) :
    still gs h ∧ ∃ r h', turn d h = .ok r h' ∧ (match r with
      | some v => acc.length < SZ ∧ lcLoop turn gs ds (acc ++ [v]) h' = .ok vs hf
      | none => lcLoop turn gs ds acc h' = .ok vs hf) := by
  unfold lcLoop at e
  split at e
  · rename_i s
    obtain ⟨r, h', e1, e2⟩ := bndF_ok_of e
    refine ⟨s, r, h', e1, ?_⟩
    cases r with
    | none => exact e2
    | some v =>
      simp only at e2
      split at e2
      · exact ⟨by assumption, e2⟩
      · cases e2
  · cases e
theorem lcLoop_nil {turn : D → Hh → Out (Option D)} {gs : Gd} {acc vs : List D} {h hf : Hh} (e : lcLoop turn gs [] acc h = .ok vs hf) : still gs h ∧ acc = vs ∧ h = hf := by
  unfold lcLoop at e
  split at e
  · cases e
    exact ⟨by assumption, rfl, rfl⟩
  · cases e
theorem lc_reads {oi : St → Hh → Out (List D × Gd)} {og : D → St → Hh → Out St} {oc : St → Hh → Out Bool} {oe : St → Hh → Out D} {own : List Nat} {gown : Option (List Nat)} {Q : VK} (hown : ∃ l, gown = some l ∧ ∀ i ∈ l, i ∈ own)
    (q : TEr K ω (fun st h => Py.bnd (oi st h) fun p h => Py.bnd (lcLoop (lcTurn st own og oc oe) p.2 p.1 [] h) fun vs h => .ok (.raw vs) h) σ H Q) :
    tLc (TIr K ω oi) (TGr K gown og) (TBr K F0 oc) (TDr K F0 oe) own σ H Q := by
  obtain ⟨φ, h, st, R, S, q⟩ := q
  refine ⟨φ, h, st, R, S, Post.seq q fun p h1 e1 q φ1 H1 J w1 R1 W => ?_⟩
  intro D hD
  obtain ⟨vs, hf, e2, q⟩ : ∃ vs hf, lcLoop (lcTurn st own og oc oe) p.2 p.1 [] h1 = .ok vs hf ∧ Post K (wAt ω σ) φ H (BR K H) (.ok (.raw vs) hf) Q := by
    cases e : lcLoop (lcTurn st own og oc oe) p.2 p.1 [] h1 with
    | ok vs hf => rw [e] at q; exact ⟨vs, hf, rfl, q⟩
    | exc => exact absurd e (lcLoop_no _ _ _)
    | fail => rw [e] at q; exact q.elim
  have fin : ∀ φ' H' xs, WX φ1 H1 φ' H' → Rel K φ' hf H' → D ∉ φ' → H' D = some (.lst xs) → VRs K φ' H' vs xs → Q (.ref D) H' := fun φ' H' xs w' R' n e r =>
    q φ' H' _ (w1.trans R R1 w') R' ⟨D, xs, rfl, WX.fresh_back R R1 w1 hD, n, e, r⟩
  have S1 := S.mono R w1
  refine ⟨fun i m H => m = p.1.length - i ∧ i ≤ p.1.length ∧ ∃ φ' h' acc xs, WX φ1 H1 φ' H ∧ Rel K φ' h' H ∧ D ∉ φ' ∧ H D = some (.lst xs) ∧ VRs K φ' H acc xs ∧ lcLoop (lcTurn st own og oc oe) p.2 (p.1.drop i) acc h' = .ok vs hf,
    ⟨p.1.length, (Nat.sub_zero _).symm, Nat.zero_le _, φ1, h1, [], [], WX.new hD, R1.new hD, R1.notin hD, upd_same, .nil, e2⟩, ?_⟩
  rintro i m Hi ⟨rfl, hi, φi, hhi, acc, xs, wi, Ri, nD, eD, rD, el⟩
  by_cases hlt : i < p.1.length
  · have ed : p.1.drop i = p.1[i] :: p.1.drop (i + 1) := List.drop_eq_getElem_cons hlt
    rw [ed] at el
    obtain ⟨s, r, h2, et, el⟩ := lcLoop_cons el
    obtain ⟨go, yl⟩ := W.go φi hhi Hi i p.1[i] wi Ri s (List.getElem?_eq_getElem hlt)
    refine .inr ⟨go, fun H' => i + 1 ≤ p.1.length ∧ ∃ φ' h' acc xs, WX φ1 H1 φ' H' ∧ Rel K φ' h' H' ∧ D ∉ φ' ∧ H' D = some (.lst xs) ∧ VRs K φ' H' acc xs ∧ lcLoop (lcTurn st own og oc oe) p.2 (p.1.drop (i + 1)) acc h' = .ok vs hf,
      fun H' z => ⟨p.1.length - (i + 1), by omega, rfl, z.1, z.2⟩, fun x H' y => ?_⟩
    obtain ⟨wy, Ry, ry⟩ := yl x H' y
    have w1y := wi.trans R1 Ri wy
    obtain ⟨st2, h3, eg, et⟩ := bnd_ok_of et
    refine ⟨φi, hhi, wipe st own, _, Ry, (S1.mono R1 w1y).wipe own, ry, ?_⟩
    rw [eg]
    intro φ3 H3 σ3 w3 R3 B3
    have nD3 := w3.notin nD (wy.keep nD eD)
    have eD3 := w3.keep nD (wy.keep nD eD)
    have w13 := w1y.trans R1 Ry w3
    refine ⟨?_, ?_⟩
    · obtain ⟨l, el, hl⟩ := hown
      obtain ⟨a1, a2⟩ := B3.out l el
      rw [← wipe_wipe (σ := σ)]
      exact wipe_eq a1 fun i hi => a2 i fun z => hi (hl i z)
    · obtain ⟨b, h4, ec, et⟩ := bnd_ok_of et
      refine ⟨φ3, h3, st2, R3, B3.sr, ?_⟩
      rw [ec]
      intro φ4 H4 b' w4 R4 eb
      obtain rfl : b = b' := eb
      have nD4 := w4.notin nD3 eD3
      have eD4 := w4.keep nD3 eD3
      have w14 := w13.trans R1 R3 w4
      cases b with
      | false =>
        rw [if_neg (by decide)] at et
        cases et
        refine iteF ⟨hlt, φ4, _, acc, xs, w14, R4, nD4, eD4, ?_, el⟩
        exact ((rD.mono Ri wy).mono Ry w3).mono R3 w4
      | true =>
        rw [if_pos rfl] at et
        obtain ⟨v, h5, ev, et⟩ := bnd_ok_of et
        cases et
        obtain ⟨sz, el⟩ := el
        refine iteT ⟨φ4, h4, st2, R4, B3.sr.mono R3 w4, ?_⟩
        rw [ev]
        intro φ5 H5 y5 w5 R5 r5
        have nD5 := w5.notin nD4 eD4
        have eD5 := w5.keep nD4 eD4
        have w15 := w14.trans R1 R4 w5
        have rD5 := (((rD.mono Ri wy).mono Ry w3).mono R3 w4).mono R4 w5
        refine ⟨xs, eD5, by rw [rD.length, ← SZ_eq]; exact sz, hlt, φ5, _, acc ++ [v], xs ++ [y5], ?_, R5.grow nD5 eD5, nD5, upd_same, (rD5.append (.cons r5 .nil)).grow (grow eD5), el⟩
        obtain ⟨ψ, e6, f6, k6, d6⟩ := w15
        exact ⟨ψ, e6, f6, fun c o hc q => by rw [upd_ne (ne_of_none q hD)]; exact k6 c o hc q, DnC.upd hD d6⟩
  · have hi' : i = p.1.length := by omega
    subst hi'
    rw [List.drop_length] at el
    obtain ⟨s, rfl, rfl⟩ := lcLoop_nil el
    exact .inl ⟨W.stop φi _ Hi wi Ri s, fin φi Hi xs wi Ri nD eD rD⟩
end
end Py
/-! Core, part H: comprehensions as expressions, statements. -/
namespace Py
open PySem PySem.Spec PyProof.Rows
open L2 hiding St start wipe

def PostS [Tau] (K : PySem.W.Frag) (ω : Wsh) (φ : List Addr) (H : Hp) (o : OutS) (Z : Ends) : Prop := match o with
  | .nx st h => ∀ φ' H' σ', WX φ H φ' H' → Rel K φ' h H' → SR K φ' H' st σ' → Z.nx σ' H'
  | .rt d h => ∀ φ' H' v, WX φ H φ' H' → Rel K φ' h H' → VR K φ' H' d v → Z.rt v H'
  | .bk st h => ∀ φ' H' σ', WX φ H φ' H' → Rel K φ' h H' → SR K φ' H' st σ' → Z.bk σ' H'
  | .ct st h => ∀ φ' H' σ', WX φ H φ' H' → Rel K φ' h H' → SR K φ' H' st σ' → Z.ct σ' H'
  | .exc c fs st h => ∀ φ' H' σ' cls d, WX φ H φ' H' → Rel K φ' h H' → SR K φ' H' st σ' → XcR K φ' H' c fs cls d → ω cls d σ' H'
  | .fail => False
def TSr [Tau] (K : PySem.W.Frag) (ω : Wsh) (o : St → Hh → OutS) : TS := fun Z σ H => ∃ φ h st, Rel K φ h H ∧ SR K φ H st σ ∧ PostS K ω φ H (o st h) Z
section
variable [Tau] {ω : Wsh} {ε : XK} {X : Cx} {K : PySem.W.Frag} {φ φ0 φ1 : List Addr} {h h1 : Hh} {H H0 H1 : Hp} {st : St} {σ : L2.St} {e a b c tg iter : Expr} {oa ob : St → Hh → Out RV} {pos p : Pos} {k : Nat} {Z : Ends} {α : Type}
theorem PostS.shift {o : OutS} (q : PostS K ω φ H o Z) (R : Rel K φ h H) (w : WX φ H φ1 H1) (R1 : Rel K φ1 h1 H1) : PostS K ω φ1 H1 o Z := by
  cases o with
  | nx st h => exact fun φ2 H2 σ2 w2 R2 S2 => q φ2 H2 σ2 (w.trans R R1 w2) R2 S2
  | rt d h => exact fun φ2 H2 σ2 w2 R2 S2 => q φ2 H2 σ2 (w.trans R R1 w2) R2 S2
  | bk st h => exact fun φ2 H2 σ2 w2 R2 S2 => q φ2 H2 σ2 (w.trans R R1 w2) R2 S2
  | ct st h => exact fun φ2 H2 σ2 w2 R2 S2 => q φ2 H2 σ2 (w.trans R R1 w2) R2 S2
  | exc c fs st h => exact fun φ2 H2 σ2 cls d w2 R2 S2 x => q φ2 H2 σ2 cls d (w.trans R R1 w2) R2 S2 x
  | fail => exact q
theorem PostS.seq {β : Type} {B : List Addr → Hp → α → β → Prop} {o : Out α} {f : α → Hh → OutS} {Q1 : β → Hp → Prop} (q : PostS K ω φ H (bndS st o f) Z) (R : Rel K φ h H) (S : SR K φ H st σ)
    (k : ∀ a h1, o = .ok a h1 → PostS K ω φ H (f a h1) Z → ∀ φ1 H1 b, WX φ H φ1 H1 → Rel K φ1 h1 H1 → B φ1 H1 a b → Q1 b H1) : Post K (wAt ω σ) φ H B o Q1 := by
  cases o with
  | ok a h1 => exact k a h1 rfl q
  | exc c fs h1 => exact fun φ2 H2 cls d w2 R2 x => q φ2 H2 σ cls d w2 R2 (S.mono R w2) x
  | fail => exact q
theorem PostS.bndF {o : Out α} {f : α → Hh → OutS} (q : PostS K ω φ H (bndSF o f) Z) : ∃ a h1, o = .ok a h1 ∧ PostS K ω φ H (f a h1) Z := by
  cases o with
  | ok a h1 => exact ⟨a, h1, rfl, q⟩
  | exc => exact q.elim
  | fail => exact q.elim
theorem ps_imp {s : Stmt} {t t' : TS} (p : PS X s t) (f : ∀ Z σ H, t' Z σ H → t Z σ H) : PS X s t' := ⟨fun pins s σ H Z i q => p.run pins s σ H Z i (f Z σ H q)⟩
theorem pss_imp {s : List Stmt} {t t' : TS} (p : PSs X s t) (f : ∀ Z σ H, t' Z σ H → t Z σ H) : PSs X s t' := ⟨fun pins s σ H Z i q => p.run pins s σ H Z i (f Z σ H q)⟩

/-! ### blocks -/
theorem jss_nil : PSs X [] (TSr X.K ω fun st h => .nx st h) := pss_imp pss_nil fun Z σ H ⟨φ, h, st, R, S, q⟩ => q φ H σ WX.refl R S
theorem jss_cons {s : Stmt} {ss : List Stmt} {os : St → Hh → OutS} {oss : St → Hh → OutS} (h1 : PS X s (TSr X.K ω os)) (h2 : PSs X ss (TSr X.K ω oss)) : PSs X (s :: ss) (TSr X.K ω fun st h => thenS (os st h) fun st h => oss st h) :=
  pss_imp (pss_cons h1 h2) fun Z σ H ⟨φ, h, st, R, S, q⟩ => by
    refine ⟨φ, h, st, R, S, ?_⟩
    show PostS X.K ω φ H (os st h) _
    have q : PostS X.K ω φ H (thenS (os st h) fun st h => oss st h) Z := q
    cases e : os st h with
    | nx st1 h1 =>
      rw [e] at q
      exact fun φ1 H1 σ1 w1 R1 S1 => ⟨φ1, h1, st1, R1, S1, PostS.shift q R w1 R1⟩
    | rt d h1 => rw [e] at q; exact q
    | bk d h1 => rw [e] at q; exact q
    | ct d h1 => rw [e] at q; exact q
    | exc => rw [e] at q; exact q
    | fail => rw [e] at q; exact q

/-! ### comprehensions -/
theorem je_lc {elt : Expr} {ifs : List Expr} {scope : Scope} {own : List (Str × Nat)} {oi : St → Hh → Out (List D × Gd)} {og : D → St → Hh → Out St} {oc : St → Hh → Out Bool} {oe : St → Hh → Out RV} {gown : Option (List Nat)} (hc : X.calm = true) (hN : X.N.Nodup)
    (hown : ∃ l, gown = some l ∧ ∀ i ∈ l, i ∈ own.map (·.2)) (hi : PI X tg iter (TIr X.K ω oi)) (ok : BlkOk X.N X.env.scope scope own)
    (hg : ∀ (s : Shared) (H : Hp) (C : Addr) (cl : List (Str × Addr)) (fp : List Addr), PG (X.blk s H scope (compEnvC scope cl C X.env) fp) tg (TGr X.K gown og))
    (ht : ∀ (s : Shared) (H : Hp) (C : Addr) (cl : List (Str × Addr)) (fp : List Addr), PTs (X.blk s H scope (compEnvC scope cl C X.env) fp) ifs (TBr X.K F0 oc))
    (he : ∀ (s : Shared) (H : Hp) (C : Addr) (cl : List (Str × Addr)) (fp : List Addr), PE (X.blk s H scope (compEnvC scope cl C X.env) fp) elt (TEr X.K F0 oe)) (hs : ∀ x, foldedSetIterable iter X.env x = pure x) :
    PE X (.ListComp elt [⟨tg, iter, ifs, 0⟩] scope pos) (TEr X.K ω fun st h => Py.bnd (oi st h) fun p h => Py.bnd (lcLoop (lcTurn st (own.map (·.2)) og oc fun st h => Py.bnd (oe st h) mat) p.2 p.1 [] h) fun vs h => .ok (.raw vs) h) :=
  pe_imp (pe_lc hc hN hi ok hg ht (fun s H C cl fp => jd (he s H C cl fp)) hs) fun σ H Q q => lc_reads hown q
/-! ### assignments -/
theorem asg_reads {od : St → Hh → Out D} {og : D → St → Hh → Out St} {own : Option (List Nat)} {te : TE} (he : ∀ σ H Q, TDr K ω od σ H Q → te σ H Q)
    (q : TSr K ω (fun st h => bndS st (od st h) fun d h => bndSF (og d st h) fun st h => .nx st h) Z σ H) : tAsg te (TGr K own og) Z σ H := by
  obtain ⟨φ, h, st, R, S, q⟩ := q
  refine he _ _ _ ⟨φ, h, st, R, S, ?_⟩
  refine PostS.seq q R S fun d h1 e1 q φ1 H1 v1 w1 R1 r1 => ?_
  refine ⟨φ1, h1, st, d, R1, S.mono R w1, r1, ?_⟩
  obtain ⟨st2, h2, e2, q⟩ := PostS.bndF (q.shift R w1 R1)
  rw [e2]
  exact fun φ2 H2 σ2 w2 R2 B2 => q φ2 H2 σ2 w2 R2 B2.sr
def isComp : Expr → Bool
  | .ListComp _ _ _ _ => true
  | .SetComp _ _ _ _ => true
  | .DictComp _ _ _ _ _ => true
  | _ => false
theorem sw_none {t : Option Expr} {l : Nat} {env : Env} (n : isComp e = false) : swapsWith e t l env = pure false := by
  cases e with
  | ListComp _ _ _ _ => cases n
  | SetComp _ _ _ _ => cases n
  | DictComp _ _ _ _ _ => cases n
  | _ => rfl
theorem name_reads {i : Nat} {od : St → Hh → Out D} {te : TE} (he : ∀ σ H Q, TDr K ω od σ H Q → te σ H Q)
    (q : TSr K ω (fun st h => bndS st (od st h) fun d h => .nx (st.set i (some d)) h) Z σ H) : tAsg te (gName i) Z σ H := by
  obtain ⟨φ, h, st, R, S, q⟩ := q
  refine he _ _ _ ⟨φ, h, st, R, S, ?_⟩
  refine PostS.seq q R S fun d h1 e1 q φ1 H1 v1 w1 R1 r1 => ?_
  exact q φ1 H1 _ w1 R1 ((S.mono R w1).set r1)
/-- a name = anything but a comprehension; or one that the model stores plainly -/
theorem js_set {i : Nat} {x : Str} {pos' : Pos} (hN : X.N.Nodup) (hi : X.N[i]? = some x) (hx : Loc X.env.scope x) (hf : X.fn x = true ∨ X.env.scope.names.lookup x = some .local) (he : PE X e (TEr X.K ω oa)) (hs : swapsWith e (some (.Name x pos')) pos.line X.env = pure false) :
    PS X (.Assign [.Name x pos'] e pos) (TSr X.K ω fun st h => bndS st (Py.bnd (oa st h) mat) fun d h => .nx (st.set i (some d)) h) :=
  ps_imp (ps_set hN hi hx (jd he) hs hf) fun Z σ H q => name_reads (fun _ _ _ z => z) q
/-- a name = a comprehension, stored within its frame -/
theorem js_setLc {i : Nat} {y : Str} {py : Pos} {elt : Expr} {ifs : List Expr} {scope : Scope} {own : List (Str × Nat)} {spos : Pos} {oi : St → Hh → Out (List D × Gd)} {og : D → St → Hh → Out St} {oc : St → Hh → Out Bool} {oe : St → Hh → Out RV} {gown : Option (List Nat)} (hc : X.calm = true) (hN : X.N.Nodup)
    (hy : X.N[i]? = some y) (hyl : X.env.scope.names.lookup y = some .local) (hsw : swapsWith (.ListComp elt [⟨tg, iter, ifs, 0⟩] scope pos) (some (.Name y py)) spos.line X.env = pure true)
    (hown : ∃ l, gown = some l ∧ ∀ i ∈ l, i ∈ own.map (·.2)) (hi : PI X tg iter (TIr X.K ω oi)) (ok : BlkOk X.N X.env.scope scope own)
    (hg : ∀ (s : Shared) (H : Hp) (C : Addr) (cl : List (Str × Addr)) (fp : List Addr), PG (X.blk s H scope (compEnvC scope cl C X.env) fp) tg (TGr X.K gown og))
    (ht : ∀ (s : Shared) (H : Hp) (C : Addr) (cl : List (Str × Addr)) (fp : List Addr), PTs (X.blk s H scope (compEnvC scope cl C X.env) fp) ifs (TBr X.K F0 oc))
    (he : ∀ (s : Shared) (H : Hp) (C : Addr) (cl : List (Str × Addr)) (fp : List Addr), PE (X.blk s H scope (compEnvC scope cl C X.env) fp) elt (TEr X.K F0 oe)) (hs : ∀ x, foldedSetIterable iter X.env x = pure x) :
    PS X (.Assign [.Name y py] (.ListComp elt [⟨tg, iter, ifs, 0⟩] scope pos) spos) (TSr X.K ω fun st h => bndS st (Py.bnd (Py.bnd (oi st h) fun p h => Py.bnd (lcLoop (lcTurn st (own.map (·.2)) og oc fun st h => Py.bnd (oe st h) mat) p.2 p.1 [] h) fun vs h => .ok (.raw vs) h) mat) fun d h => .nx (st.set i (some d)) h) :=
  ps_imp (ps_setLc hc hN hy hyl hsw hi ok hg ht (fun s H C cl fp => jd (he s H C cl fp)) hs) fun Z σ H q => name_reads (fun σ H Q z => lc_reads hown (matE z)) q
def isName : Expr → Bool
  | .Name _ _ => true
  | _ => false
def isTuple : Expr → Bool
  | .Tuple _ _ _ => true
  | _ => false
def isList : Expr → Bool
  | .List _ _ => true
  | _ => false
theorem sw_tg {l : Nat} {env : Env} (n : isName tg = false) : swapsWithSole [tg] e l env = pure false := by
  unfold swapsWithSole
  cases e <;> first
    | rfl
    | (cases tg with
       | Name _ _ => cases n
       | _ => rfl)
theorem ss_tg {env : Env} (n : isTuple e = false) : swappedStores [tg] e env = pure none := by
  cases e with
  | Tuple _ _ _ => cases n
  | _ => (cases tg <;> rfl)
theorem js_asg {og : D → St → Hh → Out St} {own : Option (List Nat)} (n : isName tg = false) (n2 : isTuple e = false) (n3 : noStar tg = true) (he : PE X e (TEr X.K ω oa)) (hg : PG X tg (TGr X.K own og)) :
    PS X (.Assign [tg] e pos) (TSr X.K ω fun st h => bndS st (Py.bnd (oa st h) mat) fun d h => bndSF (og d st h) fun st h => .nx st h) :=
  ps_imp (ps_asg (jd he) hg (sw_tg n) (ss_tg n2) (by rw [assign_cons n3]; rfl)) fun Z σ H q => asg_reads (fun _ _ _ z => z) q
theorem ss_sub {env : Env} {o i : Expr} {q : Pos} : swappedStores [.Subscript o i q] e env = pure none := by
  cases e <;> rfl
/-- o[i] = a tuple written -/
theorem js_asgS {o i : Expr} {q : Pos} {og : D → St → Hh → Out St} {own : Option (List Nat)} (he : PE X e (TEr X.K ω oa)) (hg : PG X (.Subscript o i q) (TGr X.K own og)) :
    PS X (.Assign [.Subscript o i q] e pos) (TSr X.K ω fun st h => bndS st (Py.bnd (oa st h) mat) fun d h => bndSF (og d st h) fun st h => .nx st h) :=
  ps_imp (ps_asg (jd he) hg (sw_tg rfl) ss_sub (by rw [assign_cons rfl]; rfl)) fun Z σ H q => asg_reads (fun _ _ _ z => z) q

/-! ### small statements -/
theorem js_expr (n : isComp e = false) (he : PE X e (TEr X.K ω oa)) : PS X (.Expr e pos) (TSr X.K ω fun st h => bndS st (oa st h) fun _ h => .nx st h) :=
  ps_imp (ps_expr he (sw_none n)) fun Z σ H ⟨φ, h, st, R, S, q⟩ => by
    refine ⟨φ, h, st, R, S, ?_⟩
    exact PostS.seq q R S fun d h1 e1 q φ1 H1 v1 w1 R1 r1 => q φ1 H1 σ w1 R1 (S.mono R w1)
theorem js_ret (he : PE X e (TEr X.K ω oa)) : PS X (.Return (some e) pos) (TSr X.K ω fun st h => bndS st (Py.bnd (oa st h) mat) fun d h => .rt d h) :=
  ps_imp (ps_ret (jd he)) fun Z σ H ⟨φ, h, st, R, S, q⟩ => by
    refine ⟨φ, h, st, R, S, ?_⟩
    exact PostS.seq q R S fun d h1 e1 q => q
theorem js_retN : PS X (.Return none pos) (TSr X.K ω fun _ h => .rt .non h) := ps_imp ps_retN fun Z σ H ⟨φ, h, st, R, S, q⟩ => q φ H _ WX.refl R .non
theorem js_pass : PS X (.Pass pos) (TSr X.K ω fun st h => .nx st h) := ps_imp ps_pass fun Z σ H ⟨φ, h, st, R, S, q⟩ => q φ H σ WX.refl R S
theorem js_brk : PS X (.Break pos) (TSr X.K ω fun st h => .bk st h) := ps_imp ps_break fun Z σ H ⟨φ, h, st, R, S, q⟩ => q φ H σ WX.refl R S
theorem js_cnt : PS X (.Continue pos) (TSr X.K ω fun st h => .ct st h) := ps_imp ps_continue fun Z σ H ⟨φ, h, st, R, S, q⟩ => q φ H σ WX.refl R S
theorem js_aug {i : Nat} {x : Str} {sub : Bool} {pos' : Pos} (hp : ∀ f, Tau.pin ≠ some (i, f)) (hN : X.N.Nodup) (hi : X.N[i]? = some x) (hx : Loc X.env.scope x) (hf : X.fn x = true ∨ X.env.scope.names.lookup x = some .local) (he : PE X e (TEr X.K ω oa)) :
    PS X (.AugAssign (.Name x pos') (if sub = true then .Sub else .Add) e pos) (TSr X.K ω fun st h => match st[i]? with
    | some (some (.int a)) => bndS st (oa st h) fun y h => match y with
      | .val (.int b) => .nx (st.set i (some (.int (if sub = true then a - b else a + b)))) h
      | _ => .fail
    | _ => .fail) := by
  have ip : PIp X (if sub = true then Operator.Sub else Operator.Add) (ipI fun a b => if sub = true then a - b else a + b) := by
    cases sub with
    | true => exact ip_sub
    | false => exact ip_add
  refine ps_imp (ps_aug hN hi hx he ip hf) fun Z σ H ⟨φ, h, st, R, S, q⟩ => ?_
  generalize hf : (fun a b : Int => if sub = true then a - b else a + b) = f
  have q : PostS X.K ω φ H (match st[i]? with
    | some (some (.int a)) => bndS st (oa st h) fun y h => match y with
      | .val (.int b) => .nx (st.set i (some (.int (f a b)))) h
      | _ => .fail
    | _ => .fail) Z := by rw [← hf]; exact q
  split at q
  · rename_i a ea
    obtain ⟨v, ev, r⟩ := S.val hp _ ea
    cases r
    refine ⟨_, ev, φ, h, st, R, S, ?_⟩
    refine PostS.seq q R S fun y h1 e1 q φ1 H1 v1 w1 R1 r1 => ?_
    split at q
    · obtain rfl := r1.int
      exact ⟨_, _, rfl, rfl, q φ1 H1 _ w1 R1 ((S.mono R w1).set (.int _))⟩
    · exact q.elim
  · exact q.elim

/-! ### if, while, for -/
theorem js_if {x y : List Stmt} {ox oy : St → Hh → OutS} (hc : PT X c (TBr X.K ω (truO oa))) (hx : PSs X x (TSr X.K ω ox)) (hy : PSs X y (TSr X.K ω oy)) :
    PS X (.If c x y pos) (TSr X.K ω fun st h => bndS st (oa st h) fun v h => match tru h v with
      | some true => ox st h
      | some false => oy st h
      | none => .fail) := ps_imp (ps_if hc hx hy) fun Z σ H ⟨φ, h, st, R, S, q⟩ => by
  refine ⟨φ, h, st, R, S, ?_⟩
  unfold truO
  dsimp only at q
  cases e1 : oa st h with
  | fail => rw [e1] at q; exact q.elim
  | exc c fs h1 => rw [e1] at q; exact fun φ2 H2 cls d w2 R2 x => q φ2 H2 σ cls d w2 R2 (S.mono R w2) x
  | ok v h1 =>
  rw [e1] at q
  simp only [bnd_ok, bndS_ok] at q ⊢
  cases e : tru h1 v with
  | none => rw [e] at q; exact q.elim
  | some t =>
    rw [e] at q
    intro φ1 H1 v1 w1 R1 r1
    obtain rfl : t = v1 := r1
    cases t with
    | true => exact iteT ⟨φ1, h1, st, R1, S.mono R w1, PostS.shift q R w1 R1⟩
    | false => exact iteF ⟨φ1, h1, st, R1, S.mono R w1, PostS.shift q R w1 R1⟩
theorem js_while {x : List Stmt} {ox : St → Hh → OutS} {n : Nat} (hp : PassesOwn (model X.prog X.w) X.A X.env X.xe) (hc : PT X c (TBr X.K ω (truO oa))) (hx : PSs X x (TSr X.K ω ox)) :
    PS X (.While c x [] pos) (TSr X.K ω (whlLoop (truO oa) ox n)) := ps_imp (ps_while hp hc hx) fun Z σ H ⟨φ, h, st, R, S, q⟩ => by
  refine ⟨fun m σ H => ∃ φ h st, Rel X.K φ h H ∧ SR X.K φ H st σ ∧ PostS X.K ω φ H (whlLoop (truO oa) ox m st h) Z, ⟨n, φ, h, st, R, S, q⟩, ?_⟩
  rintro m σ H ⟨φ, h, st, R, S, q⟩
  cases m with
  | zero => exact q.elim
  | succ m =>
    refine ⟨φ, h, st, R, S, ?_⟩
    refine PostS.seq (show PostS X.K ω φ H (bndS st (truO oa st h) _) Z from q) R S fun t h1 e1 q φ1 H1 v1 w1 R1 r1 => ?_
    obtain rfl : t = v1 := r1
    have S1 := S.mono R w1
    cases t with
    | false =>
      rw [if_neg (by decide)] at q
      exact iteF (q φ1 H1 σ w1 R1 S1)
    | true =>
      rw [if_pos rfl] at q
      refine iteT ⟨fun σ H => ∃ φ h st, Rel X.K φ h H ∧ SR X.K φ H st σ ∧ PostS X.K ω φ H (whlLoop (truO oa) ox m st h) Z, fun σ' H' z => ⟨m, Nat.lt_succ_self m, z⟩, φ1, h1, st, R1, S1, ?_⟩
      have q := PostS.shift q R w1 R1
      cases e : ox st h1 with
      | nx st2 h2 =>
        rw [e] at q
        exact fun φ2 H2 σ2 w2 R2 S2 => ⟨φ2, h2, st2, R2, S2, PostS.shift q R1 w2 R2⟩
      | ct st2 h2 =>
        rw [e] at q
        exact fun φ2 H2 σ2 w2 R2 S2 => ⟨φ2, h2, st2, R2, S2, PostS.shift q R1 w2 R2⟩
      | bk st2 h2 => rw [e] at q; exact q
      | rt d h2 => rw [e] at q; exact q
      | exc => rw [e] at q; exact q
      | fail => rw [e] at q; exact q
theorem js_for {x : List Stmt} {oi : St → Hh → Out (List D × Gd)} {og : D → St → Hh → Out St} {own : Option (List Nat)} {ox : St → Hh → OutS} (hp : PassesOwn (model X.prog X.w) X.A X.env X.xe) (hc : X.calm = true) (hi : PI X tg iter (TIr X.K ω oi)) (hg : PG X tg (TGr X.K own og)) (hx : PSs X x (TSr X.K ω ox))
    (hs : ∀ x, foldedSetIterable iter X.env x = pure x) :
    PS X (.For tg iter x [] pos) (TSr X.K ω fun st h => bndS st (oi st h) fun p h => forLoop (fun d st h => bndSF (og d st h) fun st h => ox st h) p.2 p.1 st h) :=
  ps_imp (ps_for hp hc hi hg hx hs) fun Z σ H ⟨φ, h, st, R, S, q⟩ => by
  refine ⟨φ, h, st, R, S, PostS.seq q R S fun p h1 e1 q φ1 H1 J w1 R1 W => ?_⟩
  have q := PostS.shift q R w1 R1
  refine ⟨fun i m σ H => m = p.1.length - i ∧ i ≤ p.1.length ∧ ∃ φ h st, WX φ1 H1 φ H ∧ Rel X.K φ h H ∧ SR X.K φ H st σ ∧ PostS X.K ω φ H (forLoop (fun d st h => bndSF (og d st h) fun st h => ox st h) p.2 (p.1.drop i) st h) Z,
    ⟨p.1.length, (Nat.sub_zero _).symm, Nat.zero_le _, φ1, h1, st, WX.refl, R1, S.mono R w1, q⟩, ?_⟩
  rintro i m σi Hi ⟨rfl, hi, φi, hhi, sti, wi, Ri, Si, qi⟩
  by_cases hlt : i < p.1.length
  · have ed : p.1.drop i = p.1[i] :: p.1.drop (i + 1) := List.drop_eq_getElem_cons hlt
    rw [ed] at qi
    unfold forLoop at qi
    split at qi
    · rename_i s
      obtain ⟨go, yl⟩ := W.go φi hhi Hi i p.1[i] wi Ri s (List.getElem?_eq_getElem hlt)
      refine .inr ⟨go, fun σ' H' => i + 1 ≤ p.1.length ∧ ∃ φ h st, WX φ1 H1 φ H' ∧ Rel X.K φ h H' ∧ SR X.K φ H' st σ' ∧ PostS X.K ω φ H' (forLoop (fun d st h => bndSF (og d st h) fun st h => ox st h) p.2 (p.1.drop (i + 1)) st h) Z,
        fun σ' H' z => ⟨p.1.length - (i + 1), by omega, rfl, z.1, z.2⟩, fun x H' y => ?_⟩
      obtain ⟨wy, Ry, ry⟩ := yl x H' y
      have w1y := wi.trans R1 Ri wy
      have Sy := Si.mono Ri wy
      refine ⟨φi, hhi, sti, _, Ry, Sy, ry, ?_⟩
      cases eg : og p.1[i] sti hhi with
      | exc => simp only [eg, bndSF] at qi; exact qi.elim
      | fail => simp only [eg, bndSF] at qi; exact qi.elim
      | ok st2 h2 =>
        simp only [eg, bndSF] at qi
        intro φ2 H2 σ2 w2 R2 B2
        refine ⟨φ2, h2, st2, R2, B2.sr, ?_⟩
        have w12 := w1y.trans R1 Ry w2
        have qi := PostS.shift (PostS.shift qi Ri wy Ry) Ry w2 R2
        cases e : ox st2 h2 with
        | nx st3 h3 =>
          rw [e] at qi
          exact fun φ3 H3 σ3 w3 R3 S3 => ⟨hlt, φ3, h3, st3, w12.trans R1 R2 w3, R3, S3, PostS.shift qi R2 w3 R3⟩
        | ct st3 h3 =>
          rw [e] at qi
          exact fun φ3 H3 σ3 w3 R3 S3 => ⟨hlt, φ3, h3, st3, w12.trans R1 R2 w3, R3, S3, PostS.shift qi R2 w3 R3⟩
        | bk st3 h3 => rw [e] at qi; exact qi
        | rt d h3 => rw [e] at qi; exact qi
        | exc => rw [e] at qi; exact qi
        | fail => rw [e] at qi; exact qi
    · exact qi.elim
  · have hi' : i = p.1.length := by omega
    subst hi'
    rw [List.drop_length] at qi
    unfold forLoop at qi
    split at qi
    · rename_i s
      exact .inl ⟨W.stop φi hhi Hi wi Ri s, qi φi Hi σi WX.refl Ri Si⟩
    · exact qi.elim
end
end Py
/-! Core, part V: the order of ints and of tuples of such; sorted. -/
namespace Py
open PySem PySem.Spec PyProof.Rows
open L2 hiding St start wipe
mutual
def pdD : D → PyData
  | .int i => .int i
  | .tup ds => .tuple (pdDs ds)
  | _ => .none
def pdDs : List D → List PyData
  | [] => []
  | d :: ds => pdD d :: pdDs ds
end
theorem srtI_cases {n : Nat} {d : D} (e : srtI n d = true) : (∃ i, d = .int i) ∨ ∃ m ds, n = m + 1 ∧ d = .tup ds ∧ srtIs m ds = true := by
  cases d with
  | int i => exact .inl ⟨i, rfl⟩
  | tup ds =>
    cases n with
    | zero => simp [srtI] at e
    | succ m => exact .inr ⟨m, ds, rfl, rfl, by simpa only [srtI] using e⟩
  | _ => cases n <;> simp [srtI] at e
/-- what two such say of one another -/
structure Od (a b : D) : Prop where
  al : W.alike (pdD a) (pdD b) = true
  eq : PyData.eqv (pdD a) (pdD b) = D.eqB a b
  lt : W.dataLt (pdD a) (pdD b) = ltD a b
  anti : ltD a b = false → ltD b a = false → a = b
structure Ods (as bs : List D) : Prop where
  al : W.alikeAll (pdDs as) (pdDs bs) = true
  eq : PyData.eqvAll (pdDs as) (pdDs bs) = D.eqBs as bs
  lt : PyProof.Rows.lexLt itemOrd (W.keyToksAll (pdDs as)) (W.keyToksAll (pdDs bs)) = ltDs as bs
  anti : ltDs as bs = false → ltDs bs as = false → as = bs
theorem ods_of {n : Nat} (ih : ∀ a b, srtI n a = true → srtI n b = true → alk a b = true → Od a b) : ∀ as bs, srtIs n as = true → srtIs n bs = true → alks as bs = true → Ods as bs
  | [], [], _, _, _ => ⟨by simp [pdDs, W.alikeAll], by simp [pdDs, PyData.eqvAll, D.eqBs], by simp only [pdDs, ltDs]; exact lex_irrefl _, fun _ _ => rfl⟩
  | [], b :: bs, _, _, _ => ⟨by simp [pdDs, W.alikeAll], by simp [pdDs, PyData.eqvAll, D.eqBs], by
      simp only [pdDs, ltDs, W.keyToksAll]
      exact (lex_diff (O := itemOrd) (by simp)).trans (by decide), fun h _ => by simp [ltDs] at h⟩
  | a :: as, [], _, _, _ => ⟨by simp [pdDs, W.alikeAll], by simp [pdDs, PyData.eqvAll, D.eqBs], by
      simp only [pdDs, ltDs, W.keyToksAll]
      exact (lex_diff (O := itemOrd) (by simp)).trans (by decide), fun _ h => by simp [ltDs] at h⟩
  | a :: as, b :: bs, ka, kb, h => by
    simp only [srtIs, Bool.and_eq_true] at ka kb
    simp only [alks, Bool.and_eq_true] at h
    have o := ih a b ka.1 kb.1 h.1
    have os := ods_of ih as bs ka.2 kb.2 h.2
    refine ⟨by simp [pdDs, W.alikeAll, o.al, os.al], by simp [pdDs, PyData.eqvAll, D.eqBs, o.eq, os.eq], ?_, fun h1 h2 => ?_⟩
    · simp only [pdDs, ltDs]
      cases e : PyData.eqv (pdD a) (pdD b) with
      | true =>
        rw [W.dataLt_all_yes o.al e, os.lt, if_pos (o.eq.symm.trans e)]
      | false =>
        rw [W.dataLt_all_no o.al e, o.lt, if_neg (by rw [← o.eq, e]; exact Bool.false_ne_true)]
    · simp only [ltDs] at h1 h2
      by_cases e : D.eqB a b = true
      · obtain rfl := (D.eqB_iff a b).mp e
        rw [if_pos e] at h1 h2
        rw [os.anti h1 h2]
      · rw [if_neg e] at h1
        rw [if_neg fun z => e ((D.eqB_iff a b).mpr ((D.eqB_iff b a).mp z).symm)] at h2
        exact absurd ((D.eqB_iff a b).mpr (o.anti h1 h2)) e
theorem od_of : ∀ (n : Nat) (a b : D), srtI n a = true → srtI n b = true → alk a b = true → Od a b := by
  have iOd : ∀ i j : Int, Od (.int i) (.int j) := fun i j => ⟨by simp [pdD, W.alike], by simp [pdD, PyData.eqv, D.eqB], by simp only [pdD, ltD]; exact W.dataLt_int i j, fun h1 h2 => by
    simp only [ltD, decide_eq_false_iff_not] at h1 h2
    rw [show i = j by omega]⟩
  intro n
  induction n with
  | zero =>
    intro a b ka kb h
    rcases srtI_cases ka with ⟨i, rfl⟩ | ⟨m, ds, z, _⟩
    · rcases srtI_cases kb with ⟨j, rfl⟩ | ⟨m, ds, z, _⟩
      · exact iOd i j
      · cases z
    · cases z
  | succ n ih =>
    intro a b ka kb h
    rcases srtI_cases ka with ⟨i, rfl⟩ | ⟨m, ds, z, rfl, k1⟩
    · rcases srtI_cases kb with ⟨j, rfl⟩ | ⟨m, ds, z, rfl, k2⟩
      · exact iOd i j
      · simp [alk] at h
    · rcases srtI_cases kb with ⟨j, rfl⟩ | ⟨m2, es, z2, rfl, k2⟩
      · simp [alk] at h
      · cases z; cases z2
        simp only [alk] at h
        have o := ods_of ih ds es k1 k2 h
        exact ⟨by simp [pdD, W.alike, o.al], by simp [pdD, PyData.eqv, D.eqB, o.eq], by simp only [pdD, ltD]; rw [W.dataLt_tuple]; exact o.lt, fun h1 h2 => by
          simp only [ltD] at h1 h2
          rw [o.anti h1 h2]⟩
theorem depths_of {n : Nat} (ih : ∀ d, srtI n d = true → (pdD d).depth ≤ n) : ∀ ds, srtIs n ds = true → PyData.depthAll (pdDs ds) ≤ n
  | [], _ => by simp [pdDs, PyData.depthAll]
  | d :: ds, k => by
    simp only [srtIs, Bool.and_eq_true] at k
    have h1 := ih d k.1
    have h2 := depths_of ih ds k.2
    simp only [pdDs, PyData.depthAll]
    omega
theorem depth_of : ∀ (n : Nat) (d : D), srtI n d = true → (pdD d).depth ≤ n := by
  intro n
  induction n with
  | zero =>
    intro d k
    rcases srtI_cases k with ⟨i, rfl⟩ | ⟨m, ds, z, _⟩
    · simp [pdD, PyData.depth]
    · cases z
  | succ n ih =>
    intro d k
    rcases srtI_cases k with ⟨i, rfl⟩ | ⟨m, ds, z, rfl, k1⟩
    · simp [pdD, PyData.depth]
    · cases z
      have := depths_of ih ds k1
      simp only [pdD, PyData.depth]
      omega
section
variable {K : PySem.W.Frag} {φ : List Addr} {H : Hp}
theorem pds_ok {n : Nat} (ih : ∀ (d : D) (v : V), VR K φ H d v → srtI n d = true → Dp K H v (pdD d)) : ∀ (ds : List D) (vs : List V), VRs K φ H ds vs → srtIs n ds = true → DpAll K H vs (pdDs ds)
  | [], _, .nil, _ => by simp only [pdDs]; exact .nil
  | d :: ds, _, .cons r t, k => by
    simp only [srtIs, Bool.and_eq_true] at k
    simp only [pdDs]
    exact .cons (ih d _ r k.1) (pds_ok ih ds _ t k.2)
theorem pd_ok : ∀ (n : Nat) (d : D) (v : V), VR K φ H d v → srtI n d = true → Dp K H v (pdD d) := by
  intro n
  induction n with
  | zero =>
    intro d v r k
    rcases srtI_cases k with ⟨i, rfl⟩ | ⟨m, ds, z, _⟩
    · cases r; simp only [pdD]; exact .int i
    · cases z
  | succ n ih =>
    intro d v r k
    rcases srtI_cases k with ⟨i, rfl⟩ | ⟨m, ds, z, rfl, k1⟩
    · cases r; simp only [pdD]; exact .int i
    · cases z
      cases r with
      | tup sq r =>
        simp only [pdD]
        exact .tup sq (pds_ok ih ds _ r k1)
end
/-! ### sorted -/
theorem ins_perm (d : D) : ∀ ds, (ins d ds).Perm (d :: ds)
  | [] => List.Perm.refl _
  | e :: es => by
    unfold ins
    split
    · exact ((ins_perm d es).cons e).trans (List.Perm.swap d e es)
    · exact List.Perm.refl _
theorem isrt_perm : ∀ ds, (isrt ds).Perm ds
  | [] => List.Perm.refl _
  | d :: ds => (ins_perm d _).trans ((isrt_perm ds).cons d)
abbrev leP (a b : D) : Prop := W.dataLe false pdD a b = true
theorem leP_tot : W.TotalLe (W.dataLe (β := D) false pdD) := W.sortLe_total _ _ _
theorem leP_iff {a b : D} : leP a b ↔ W.dataLt (pdD b) (pdD a) = false := by
  unfold leP
  rw [W.dataLe_eq]
  simp
theorem ins_srt {d : D} : ∀ {ds : List D}, (∀ e ∈ ds, W.dataLt (pdD e) (pdD d) = ltD e d) → ds.Pairwise leP → (ins d ds).Pairwise leP
  | [], _, _ => List.pairwise_singleton _ _
  | e :: es, h, p => by
    obtain ⟨p1, p2⟩ := List.pairwise_cons.mp p
    unfold ins
    by_cases q : ltD e d = true
    · rw [if_pos q]
      refine List.pairwise_cons.mpr ⟨fun x hx => ?_, ins_srt (fun y hy => h y (List.mem_cons_of_mem _ hy)) p2⟩
      rcases List.mem_cons.mp ((ins_perm d es).mem_iff.mp hx) with rfl | hx
      · have t := leP_tot.total e x
        rcases t with t | t
        · exact t
        · have := leP_iff.mp t
          rw [h e List.mem_cons_self, q] at this
          cases this
      · exact p1 x hx
    · rw [if_neg q]
      have ed : leP d e := leP_iff.mpr (by rw [h e List.mem_cons_self]; simpa using q)
      refine List.pairwise_cons.mpr ⟨fun x hx => ?_, p⟩
      rcases List.mem_cons.mp hx with rfl | hx
      · exact ed
      · exact leP_tot.trans _ _ _ ed (p1 x hx)
theorem isrt_srt : ∀ {ds : List D}, (∀ a ∈ ds, ∀ b ∈ ds, W.dataLt (pdD a) (pdD b) = ltD a b) → (isrt ds).Pairwise leP
  | [], _ => List.Pairwise.nil
  | d :: ds, h => ins_srt (fun e he => h e (List.mem_cons_of_mem _ ((isrt_perm ds).mem_iff.mp he)) d List.mem_cons_self) (isrt_srt fun a ha b hb => h a (List.mem_cons_of_mem _ ha) b (List.mem_cons_of_mem _ hb))
theorem perm_eq {α : Type} {r : α → α → Prop} : ∀ {as bs : List α}, as.Perm bs → as.Pairwise r → bs.Pairwise r → (∀ a ∈ as, ∀ b ∈ as, r a b → r b a → a = b) → as = bs
  | [], bs, p, _, _, _ => (List.nil_perm.mp p).symm
  | a :: as, [], p, _, _, _ => absurd p.length_eq (by simp)
  | a :: as, b :: bs, p, sa, sb, h => by
    obtain ⟨a1, a2⟩ := List.pairwise_cons.mp sa
    obtain ⟨b1, b2⟩ := List.pairwise_cons.mp sb
    have e : a = b := by
      have ma : a ∈ b :: bs := p.mem_iff.mp List.mem_cons_self
      have mb : b ∈ a :: as := p.mem_iff.mpr List.mem_cons_self
      rcases List.mem_cons.mp ma with q | ma
      · exact q
      · rcases List.mem_cons.mp mb with q | mb
        · exact q.symm
        · exact h a List.mem_cons_self b (List.mem_cons_of_mem _ mb) (a1 b mb) (b1 a ma)
    subst e
    rw [perm_eq (List.perm_cons a |>.mp p) a2 b2 fun x hx y hy => h x (List.mem_cons_of_mem _ hx) y (List.mem_cons_of_mem _ hy)]
theorem sortable_of {ds : List D} (k : sortable ds = true) : (∀ d ∈ ds, srtI 8 d = true) ∧ (∀ a ∈ ds, ∀ b ∈ ds, alk a b = true) ∧ ((∀ d ∈ ds, isIntD d = true) ∨ ∀ d ∈ ds, isTupD d = true) ∧ ds.length ≤ SZ := by
  unfold sortable at k
  simp only [Bool.and_eq_true, Bool.or_eq_true, List.all_eq_true, decide_eq_true_eq] at k
  exact ⟨k.1.1.1, k.1.1.2, k.1.2, k.2⟩
theorem isrt_eq {ds : List D} (k : sortable ds = true) : ds.mergeSort (W.dataLe false pdD) = isrt ds := by
  obtain ⟨k1, k2, k3, k4⟩ := sortable_of k
  have od : ∀ a ∈ ds, ∀ b ∈ ds, Od a b := fun a ha b hb => od_of 8 a b (k1 a ha) (k1 b hb) (k2 a ha b hb)
  refine perm_eq ((List.mergeSort_perm ds _).trans (isrt_perm ds).symm) (List.pairwise_mergeSort leP_tot.trans (fun a b => by rw [Bool.or_eq_true]; exact leP_tot.total a b) ds) (isrt_srt fun a ha b hb => (od a ha b hb).lt) fun a ha b hb h1 h2 => ?_
  have ha := (List.mergeSort_perm ds _).mem_iff.mp ha
  have hb := (List.mergeSort_perm ds _).mem_iff.mp hb
  refine (od a ha b hb).anti ?_ ?_
  · rw [← (od a ha b hb).lt]; exact leP_iff.mp h2
  · rw [← (od b hb a ha).lt]; exact leP_iff.mp h1
section
variable [Tau] {ω : Wsh} {ε : XK} {X : Cx} {φ : List Addr} {h : Hh} {H : Hp}
theorem each_of {s : Shared} {pins : List (Addr × Obj)} {σ : L2.St} (I : L2.Inv X pins σ H s) : ∀ {ds : List D} {vs : List V} {us : List Value}, VRs X.K φ H ds vs → Vals vs us → (∀ d ∈ ds, srtI 8 d = true) →
    W.EachIs (fun u d => ∃ v, L2.RelV v u ∧ VR X.K φ H d v) us ds ∧ W.EachIs (fun u d => ∃ as, Reads s.heap u (pdD d) as) us ds
  | [], _, _, .nil, .nil, _ => ⟨.nil, .nil⟩
  | d :: ds, _, _, .cons r t, .cons q z, k => by
    obtain ⟨a, b⟩ := each_of I t z fun x hx => k x (List.mem_cons_of_mem _ hx)
    exact ⟨.cons ⟨_, q, r⟩ a, .cons (Dp.reads I _ _ _ (pd_ok 8 d _ r (k d List.mem_cons_self)) q) b⟩
theorem each_back : ∀ {ds : List D} {us : List Value}, W.EachIs (fun u d => ∃ v, L2.RelV v u ∧ VR X.K φ H d v) us ds → ∃ vs, VRs X.K φ H ds vs ∧ Vals vs us
  | _, _, .nil => ⟨[], .nil, .nil⟩
  | _, _, .cons ⟨v, q, r⟩ t => by
    obtain ⟨vs, a, b⟩ := each_back t
    exact ⟨v :: vs, .cons r a, .cons q b⟩
theorem sorted_ok (hu : X.A.units + 128 < cLine) {pins : List (Addr × Obj)} {s : Shared} {σ : L2.St} {a : Addr} {ds : List D} {vs : List V} {us : List Value} {Q : VK} (I : L2.Inv X pins σ H s) (R : Rel X.K φ h H) (sq : SqL X.K H a vs) (r : VRs X.K φ H ds vs) (k : sortable ds = true)
    (ru : Vals [V.ref a] us) (q : Post X.K ε φ H (BR X.K H) (.ok (.raw (isrt ds)) h) Q) : wpAny (model X.prog X.w) X.A (call (.builtin "sorted") us) (EP X pins σ Q) X.xe s := by
  obtain ⟨k1, k2, k3, k4⟩ := sortable_of k
  obtain ⟨its, rv, pl, hz⟩ := I.list sq
  cases ru with
  | cons r0 rt =>
  cases rt
  cases r0
  obtain ⟨e1, e2⟩ := each_of I r rv k1
  have al : W.AllAlike (ds.map pdD) := by
    intro x hx y hy
    obtain ⟨d, hd, rfl⟩ := List.mem_map.mp hx
    obtain ⟨e, he, rfl⟩ := List.mem_map.mp hy
    exact (od_of 8 d e (k1 d hd) (k1 e he) (k2 d hd e he)).al
  have so : W.Sortable (ds.map pdD) := by
    rcases k3 with k3 | k3
    · refine .inr fun x hx => ?_
      obtain ⟨d, hd, rfl⟩ := List.mem_map.mp hx
      have := k3 d hd
      cases d <;> simp [isIntD] at this
      simp [pdD]
    · refine .inl fun x hx => ?_
      obtain ⟨d, hd, rfl⟩ := List.mem_map.mp hx
      have := k3 d hd
      cases d with
      | tup es =>
        cases es with
        | nil => simp [isTupD] at this
        | cons e es => exact ⟨_, _, by simp only [pdD, pdDs]; rfl⟩
      | _ => simp [isTupD] at this
  refine W.sorted_data (enc := pdD) pl.isList e1 e2 al so (by rw [← SZ_eq]; exact k4) (fun d hd => ?_) fun out ho eo => ?_
  · have := depth_of 8 d (k1 d hd)
    omega
  · rw [isrt_eq k] at eo
    obtain ⟨ws, rws, rvs⟩ := each_back eo
    obtain ⟨ep, he⟩ := PyProof.Rows.sortedAll_at s.heap its out.toArray
    refine ⟨.ref _, upd H (s.heap.objs.size + 1) (.lst ws), I.laid (t' := s.toks) (fun _ _ => PyProof.Rows.sortedAll_old) (Nat.le_succ _) ⟨?_, out, ep, rvs, he⟩, rfl, raw_new R (I.hok.fresh (Nat.le_succ _)) rws q⟩
    rw [rws.length, (isrt_perm ds).length_eq, ← SZ_eq]
    exact k4
end
end Py
/-! Core, part I: calls: built-ins, methods, isinstance, own defs. -/
namespace Py
open PySem PySem.Spec PyProof.Rows
open L2 hiding St start wipe
/-- sum of a list or a tuple of ints -/
def rSumT (K : PySem.W.Frag) : List V → Hp → VK → Prop := fun vs H Q => ∃ (a : Addr) (ns : List Int), vs = [V.ref a] ∧ (SqL K H a (ns.map V.int) ∨ SqT K H a (ns.map V.int)) ∧ Q (.int ns.sum) H
theorem cr_sumT {X : Cx} (hc : X.calm = true) : CallR X (.builtin "sum") (rSumT X.K) := by
  intro pins s σ H vs us Q I r h
  obtain ⟨a, ns, rfl, hs | hs, q⟩ := h
  · exact cr_sum hc pins s σ H _ us Q I r ⟨a, ns, rfl, hs, q⟩
  · obtain ⟨its, rv, pt, _⟩ := I.tuple hs
    rw [Vals.ref1 r]
    have hi := rv.ints
    obtain ⟨xs, hx⟩ := hi.allInts.items
    have hn : numsOf (intItems xs).toList = ns := by rw [← hx]; exact hi.numsOf
    rw [nums_intItems] at hn
    have pt : s.heap.IsTuple a its.toArray := pt
    rw [hx] at pt
    refine PySem.W.ktm_sumG (I.ok.hd hc) pt fun h' tk t' hk => ?_
    rw [preSum_eq, List.take_of_length_le (by simp), hn]
    exact ⟨.int _, H, I.kept hk, ⟨_, rfl⟩, q⟩

def TRC [Tau] (K : PySem.W.Frag) (p : List RV → Hh → Out RV) : List V → Hp → VK → Prop := fun vs H Q => ∃ φ h rs Ha, Rel K φ h H ∧ VRRs K φ H Ha rs vs ∧ ∃ ε, Post K ε φ H (BR K H) (p rs h) Q
section
variable [Tau] {ω : Wsh} {ε : XK} {X : Cx} {K : PySem.W.Frag} {φ φ0 φ1 : List Addr} {h h1 : Hh} {H H0 H1 : Hp} {st : St} {σ : L2.St} {e a b c : Expr} {es : List Expr} {oa ob : St → Hh → Out RV} {pos p : Pos} {k : Nat} {α : Type}
theorem args_reads {os : St → Hh → Out (List RV)} {f : List RV → Hh → Out RV} {Q : VK} (q : TEr K ω (fun st h => Py.bnd (os st h) fun rs h => f rs h) σ H Q) : TARr K ω os σ H fun vs H1 => TRC K f vs H1 Q := by
  obtain ⟨φ, h, st, R, S, q⟩ := q
  refine ⟨φ, h, st, R, S, ?_⟩
  exact Post.seq q fun rs h1 e1 q φ1 H1 vs w1 R1 r1 => ⟨φ1, h1, rs, H, R1, r1, _, q.shR R w1 R1⟩

/-! ### lists of ints, of truths -/
theorem asInts_ok : ∀ {ds : List D} {vs : List V} {ns : List Int}, VRs K φ H ds vs → asInts ds = some ns → vs = ns.map V.int
  | _, _, _, .nil, e => by cases e; rfl
  | _, _, _, .cons r t, e => by
    obtain ⟨n, ns', e1, e2, rfl⟩ := allSome_cons e
    cases r with
    | int i => cases e1; rw [List.map_cons, ← asInts_ok t e2]
    | _ => cases e1
theorem asBls_ok : ∀ {ds : List D} {vs : List V} {ns : List Bool}, VRs K φ H ds vs → asBls ds = some ns → vs = ns.map V.bl
  | _, _, _, .nil, e => by cases e; rfl
  | _, _, _, .cons r t, e => by
    obtain ⟨n, ns', e1, e2, rfl⟩ := allSome_cons e
    cases r with
    | bl i => cases e1; rw [List.map_cons, ← asBls_ok t e2]
    | _ => cases e1
theorem maxI_spec : ∀ (a : Int) (as : List Int), maxI (a :: as) ∈ a :: as ∧ ∀ y ∈ a :: as, y ≤ maxI (a :: as)
  | a, [] => ⟨List.mem_cons_self, fun y hy => by rw [List.mem_singleton.mp hy]; exact Int.le_refl _⟩
  | a, b :: as => by
    obtain ⟨h1, h2⟩ := maxI_spec b as
    have e : maxI (a :: b :: as) = if maxI (b :: as) < a then a else maxI (b :: as) := rfl
    rw [e]
    split
    · refine ⟨List.mem_cons_self, fun y hy => ?_⟩
      rcases List.mem_cons.mp hy with rfl | hy
      · exact Int.le_refl _
      · have := h2 y hy; omega
    · refine ⟨List.mem_cons_of_mem _ h1, fun y hy => ?_⟩
      rcases List.mem_cons.mp hy with rfl | hy
      · omega
      · exact h2 y hy
theorem minI_spec : ∀ (a : Int) (as : List Int), minI (a :: as) ∈ a :: as ∧ ∀ y ∈ a :: as, minI (a :: as) ≤ y
  | a, [] => ⟨List.mem_cons_self, fun y hy => by rw [List.mem_singleton.mp hy]; exact Int.le_refl _⟩
  | a, b :: as => by
    obtain ⟨h1, h2⟩ := minI_spec b as
    have e : minI (a :: b :: as) = if a < minI (b :: as) then a else minI (b :: as) := rfl
    rw [e]
    split
    · refine ⟨List.mem_cons_self, fun y hy => ?_⟩
      rcases List.mem_cons.mp hy with rfl | hy
      · exact Int.le_refl _
      · have := h2 y hy; omega
    · refine ⟨List.mem_cons_of_mem _ h1, fun y hy => ?_⟩
      rcases List.mem_cons.mp hy with rfl | hy
      · omega
      · exact h2 y hy
theorem rs1 {x : RV} {vs : List V} (r : VRRs K φ H H0 [x] vs) : ∃ v, vs = [v] ∧ VRR K φ H H0 x v := by
  cases r with
  | cons r t => cases t; exact ⟨_, rfl, r⟩
theorem rs2 {x y : RV} {vs : List V} (r : VRRs K φ H H0 [x, y] vs) : ∃ v w, vs = [v, w] ∧ VRR K φ H H0 x v ∧ VRR K φ H H0 y w := by
  cases r with
  | cons r t =>
    cases t with
    | cons r2 t => cases t; exact ⟨_, _, rfl, r, r2⟩
/-! min of two tuples -/
theorem call_min_twoH {prog : Program} {w : World} {A : Around} {E : Value → Shared → Prop} {s : Shared} {a b : Value} {Q : Value → Shared → Prop}
    (h : wpAny (model prog w) A.in1 (pyIter (.ref s.heap.objs.size)) (fun it s₂ => ∃ I fp wr G n P St H bt, it = .ref I ∧ WalksS prog w A.in1 I fp wr G n P St ∧ St 0 s₂ ∧ (∀ b ∈ fp, b < s₂.heap.objs.size) ∧ 0 < n ∧
      (∀ b o, H.get? b = some o → b ∉ wr) ∧ (∀ b o, H.get? b = some o → s₂.heap.get? b = some o) ∧ CmpIn prog w A.in1 .Lt H P bt ∧ ∀ v s', P (argBest bt (n - 1)) v → Moved wr G s₂ s' → Q v s') E { s with heap := s.heap.push { cls := .type "tuple", data := .seq #[a, b] } }) :
    wpAny (model prog w) A (call (.builtin "min") [a, b]) Q E s := by
  have hname : (toString "min" ++ toString ".loop" : String) = "min.loop" := by decide
  refine call_function_tree F.kind_min F.plain_min F.entry_min (F.args_min2 _ _) ?_
  show wpAny _ A.in1 (Builtin.Builtins.bindParams "min" ["key", "default"] 0 ⟨[], []⟩ >>= _) _ _ s
  refine wpAny_bind (wpAny_of_eq (show Builtin.Builtins.bindParams "min" ["key", "default"] 0 ⟨[], []⟩ = pure [none, none] from rfl) ?_)
  show wpAny _ A.in1 (newTuple [a, b] >>= _) _ _ s
  refine wpAny_bind (wpAny_newObj_type ?_)
  refine wpAny_bind (wpAny_mono h (fun it s₂ h₂ => ?_) fun _ _ e => e)
  obtain ⟨I, fp, wr, G, n, P, St, H, bt, rfl, W, hst, hfp, hn, hw, hkeep, hcmp, hQ⟩ := h₂
  refine wpAny_bind (wpAny_newObj_type ?_)
  have hSf : s₂.heap.objs.size ∉ fp := fun hm => Nat.lt_irrefl _ (hfp _ hm)
  rw [hname]
  refine wpAny_pure ⟨plainId_quiet F.plain_min_loop _, codeAny_min_loop_firstH W H hw bt hcmp s₂.heap.objs.size hSf (fresh_in hkeep) _ hn (fun b o e => Heap.get?_push_of_some _ (hkeep b o e)) (W.frame 0 s₂ _ s₂.toks hst (Nat.le_refl _) fun b _ o e => Heap.get?_push_of_some _ e) (Heap.get?_push_size _ rfl) fun v s' hP hm => ?_⟩
  exact hQ v s' hP (Moved.drop_new (tk := s₂.toks) hm (Nat.le_refl _))
theorem min_two_data {prog : Program} {w : World} {A : Around} {E : Value → Shared → Prop} {s : Shared} {a b : Value} {x y : PyData} {as : List Addr} {Q : Value → Shared → Prop} (hh : A.handled = none) (hr : ReadsAll s.heap [a, b] [x, y] as) (ha : W.AlikeAll [x, y]) (hu : A.units + 1 + PyData.depthAll [x, y] < cLine)
    (h : ∀ h' tk, (∀ c o, s.heap.get? c = some o → h'.get? c = some o) → Q (if W.dataLt y x = true then b else a) { s with heap := h', toks := tk }) : wpAny (model prog w) A (call (.builtin "min") [a, b]) Q E s := by
  have hT : (s.heap.push { cls := .type "tuple", data := .seq #[a, b] }).IsTuple s.heap.objs.size #[a, b] := ⟨_, Heap.get?_push_size _ rfl, rfl, 0, rfl⟩
  have kp : ∀ c o, s.heap.get? c = some o → (s.heap.push { cls := .type "tuple", data := .seq #[a, b] }).get? c = some o := fun c o e => Heap.get?_push_of_some _ e
  have hr1 := ReadsAll.keeps kp hr
  refine call_min_twoH (W.iter_tupleW (A := A.in1) hh hT fun s₂ e Wk st hfp hw hk => ?_)
  refine ⟨_, _, _, _, _, _, _, (s.heap.push { cls := .type "tuple", data := .seq #[a, b] }), _, rfl, Wk, st, hfp, (show 0 < 2 by decide), hw, hk, W.cmpIn_lt (A := A.in1) (s := { s with heap := s.heap.push { cls := .type "tuple", data := .seq #[a, b] } }) (vs := #[a, b]) hr1 ha hu, fun v s' hP m => ?_⟩
  obtain ⟨h', tk, rfl, hk'⟩ := W.moved_old e rfl m
  have hv : v = if W.dataLt y x = true then b else a := by
    cases hc : W.dataLt y x <;> simp [argBest, hc] at hP <;> simp [hP]
  rw [hv]
  exact h h' tk fun c o e => hk' c o (kp c o e)
theorem call_min2T {X : Cx} {φ : List Addr} {h : Hh} {H : Hp} (hu : X.A.units + 128 < cLine) (hc : X.calm = true) {pins : List (Addr × Obj)} {s : Shared} {σ : L2.St} {x y : D} {v w : V} {us : List Value} {Q : VK} (I : L2.Inv X pins σ H s) (R : Rel X.K φ h H) (r : VR X.K φ H x v) (r2 : VR X.K φ H y w) (ru : Vals [v, w] us) (ok : bestOk [x, y] = true)
    (q : Post X.K ε φ H (BR X.K H) (.ok (.val (minD x [y])) h) Q) : wpAny (model X.prog X.w) X.A (call (.builtin "min") us) (EP X pins σ Q) X.xe s := by
  unfold bestOk at ok
  simp only [Bool.and_eq_true, List.all_eq_true] at ok
  have k1 := ok.1
  have od : ∀ a ∈ [x, y], ∀ b ∈ [x, y], Od a b := fun a ha b hb => od_of 8 a b (k1 a ha) (k1 b hb) (ok.2 a ha b hb)
  have rs : VRs X.K φ H [x, y] [v, w] := .cons r (.cons r2 .nil)
  have ea := (each_of I rs ru k1).2
  cases ru with
  | @cons _ u1 _ _ s1 t1 =>
  cases t1 with
  | @cons _ u2 _ _ s2 t2 =>
  cases t2
  cases ea with
  | cons e1 t1 =>
  cases t1 with
  | cons e2 t2 =>
  obtain ⟨as1, g1⟩ := e1
  obtain ⟨as2, g2⟩ := e2
  have mx : x ∈ [x, y] := List.mem_cons_self
  have my : y ∈ [x, y] := List.mem_cons_of_mem _ List.mem_cons_self
  have al : W.AlikeAll [pdD x, pdD y] := by
    have m2 : ∀ p ∈ [pdD x, pdD y], ∃ d ∈ [x, y], p = pdD d := fun p hp => by
      rcases List.mem_cons.mp hp with z | hp
      · exact ⟨x, mx, z⟩
      · exact ⟨y, my, List.mem_singleton.mp hp⟩
    refine ⟨fun a ha b hb => ?_, fun a ha => ?_⟩
    · obtain ⟨p, hp, rfl⟩ := m2 a ha
      obtain ⟨q, hq, rfl⟩ := m2 b hb
      exact (od p hp q hq).al
    · obtain ⟨p, hp, rfl⟩ := m2 a ha
      rcases srtI_cases (k1 p hp) with ⟨i, rfl⟩ | ⟨m, es, _, rfl, _⟩ <;> simp [pdD]
  have d1 := depth_of 8 x (k1 x mx)
  have d2 := depth_of 8 y (k1 y my)
  have hdep : X.A.units + 1 + PyData.depthAll [pdD x, pdD y] < cLine := by
    simp only [PyData.depthAll]
    omega
  refine min_two_data (I.ok.hd hc) (.cons g1 (.cons g2 .nil)) al hdep fun h' tk kk => ?_
  have l : W.dataLt (pdD y) (pdD x) = ltD y x := (od y my x mx).lt
  rw [l]
  have em : minD x [y] = if ltD y x = true then y else x := rfl
  rw [em] at q
  by_cases z : ltD y x = true
  · rw [if_pos z] at q ⊢
    exact ⟨w, H, I.kept kk, s2, q.here R r2⟩
  · rw [if_neg z] at q ⊢
    exact ⟨v, H, I.kept kk, s1, q.here R r⟩


/-! ### ints, each once, rising -/
theorem insI_mem (i : Int) : ∀ (js : List Int) (k : Int), k ∈ insI i js ↔ k = i ∨ k ∈ js
  | [], k => by simp [insI]
  | j :: js, k => by
    unfold insI
    split
    · rw [List.mem_cons, insI_mem i js k, List.mem_cons]
      constructor
      · rintro (h | h | h)
        · exact .inr (.inl h)
        · exact .inl h
        · exact .inr (.inr h)
      · rintro (h | h | h)
        · exact .inr (.inl h)
        · exact .inl h
        · exact .inr (.inr h)
    · split
      · rename_i e
        subst e
        simp
      · simp
theorem setI_mem : ∀ (ns : List Int) (k : Int), k ∈ setI ns ↔ k ∈ ns
  | [], k => by simp [setI]
  | n :: ns, k => by rw [setI, insI_mem, setI_mem ns k, List.mem_cons]
theorem insI_lt {i : Int} : ∀ {js : List Int}, js.Pairwise (· < ·) → (insI i js).Pairwise (· < ·)
  | [], _ => List.pairwise_singleton _ _
  | j :: js, p => by
    obtain ⟨p1, p2⟩ := List.pairwise_cons.mp p
    unfold insI
    split
    · refine List.pairwise_cons.mpr ⟨fun k hk => ?_, insI_lt p2⟩
      rcases (insI_mem i js k).mp hk with rfl | hk
      · assumption
      · exact p1 k hk
    · split
      · exact p
      · refine List.pairwise_cons.mpr ⟨fun k hk => ?_, p⟩
        rcases List.mem_cons.mp hk with rfl | hk
        · omega
        · have := p1 k hk; omega
theorem setI_lt : ∀ ns : List Int, (setI ns).Pairwise (· < ·)
  | [] => List.Pairwise.nil
  | n :: ns => insI_lt (setI_lt ns)
theorem setI_srt (ns : List Int) : (setI ns).Pairwise (· ≤ ·) := (setI_lt ns).imp fun h => Int.le_of_lt h
theorem lt_nodup {ns : List Int} (h : ns.Pairwise (· < ·)) : ns.Nodup := h.imp fun h e => by omega
theorem setI_perm {ns : List Int} (n : ns.Nodup) : (setI ns).Perm ns := by
  rw [List.perm_ext_iff_of_nodup (lt_nodup (setI_lt ns)) n]
  exact setI_mem ns
theorem vrs_ints : ∀ ns : List Int, VRs K φ H (ns.map D.int) (ns.map V.int)
  | [] => .nil
  | n :: ns => .cons (.int n) (vrs_ints ns)
theorem keys_int {kvs : List (D × D)} {ks : List (L2.Key × V)} {ns : List Int} (r : DKs' K φ H kvs ks) (e : asInts (kvs.map (·.1)) = some ns) : ks.map (·.1) = ns.map Sum.inl := by
  induction r generalizing ns with
  | nil => cases e; rfl
  | @cons p q ps qs h t ih =>
    rw [List.map_cons] at e
    obtain ⟨n, ns', e1, e2, rfl⟩ := allSome_cons e
    rw [List.map_cons, List.map_cons, ih e2]
    obtain ⟨h1, _⟩ := h
    cases hp : p.1 with
    | int i =>
      rw [hp] at e1 h1
      cases e1
      cases hq : q.1 with
      | inl j => rw [hq] at h1; rw [show n = j from h1]
      | inr j => rw [hq] at h1; exact h1.elim
    | _ => rw [hp] at e1; cases e1
theorem keys_nodup {pins : List (Addr × Obj)} {s : Shared} {a : Addr} {kvs : List (D × D)} {ks : List (L2.Key × V)} {ns : List Int} (I : L2.Inv X pins σ H s) (r : DKs' X.K φ H kvs ks) (e : asInts (kvs.map (·.1)) = some ns) (z : H a = some (.dK ks)) : ns.Nodup := by
  obtain ⟨_, _, vs, rel, o, es, ep, _, _, _, _, _, nd⟩ := dk_of I.hok z
  rw [← rel.keys, keys_int r e] at nd
  exact List.Pairwise.imp (fun h q => h (by rw [q])) (List.pairwise_map.mp nd)

/-! ### the built-ins -/
def bfName : Bf → Str
  | .len => "len" | .int => "int" | .str => "str" | .tuple => "tuple" | .list => "list" | .max => "max" | .min => "min" | .sum => "sum" | .all => "all" | .any => "any" | .abs => "abs" | .bool => "bool" | .sorted => "sorted"
/-- its value; a class or a function -/
def bfVal : Bf → Value
  | .len => .builtin "len" | .int => .type "int" | .str => .type "str" | .tuple => .type "tuple" | .list => .type "list" | .max => .builtin "max" | .min => .builtin "min" | .sum => .builtin "sum" | .all => .builtin "all" | .any => .builtin "any" | .abs => .builtin "abs" | .bool => .type "bool" | .sorted => .builtin "sorted"
theorem bf_boot (f : Bf) : bootBuiltins (bfName f) = some (bfVal f) := by cases f <;> decide +kernel
theorem len_dict {φ : List Addr} {h : Hh} {H Ha : Hp} {x : RV} {v : V} {t : Bool} {kvs : List (D × D)} {Q : VK} (R : Rel X.K φ h H) (r : VRR X.K φ H Ha x v) (e : dOf h x = some (t, kvs)) (pins : List (Addr × Obj)) (s : Shared) (σ : L2.St) (us : List Value) (I : L2.Inv X pins σ H s) (rus : Vals [v] us) (q : Q (.int kvs.length) H) :
    wpAny (model X.prog X.w) X.A (PySem.call (.builtin "len") us) (EP X pins σ Q) X.xe s := by
  cases x with
  | raw _ => cases e
  | val d =>
    cases r with
    | @ref k a ea =>
      rcases dOf_ok R ea e with ⟨_, _, ks, z, rr⟩ | ⟨_, _, n, xs, c, z, rr⟩
      · exact call_lenD pins s σ H _ us Q I rus ⟨a, ks, rfl, z, by rw [← Paired.length rr]; exact q⟩
      · obtain ⟨u, rfl, rx⟩ := vals1 rus
        cases rx
        obtain ⟨hs, hz, us, rv, dd⟩ := dn_at I z n rr
        refine call_len_dictH hs dd (by rw [tri_len rv]; rw [sizeLine_eq] at hz; omega) ?_
        rw [tri_len rv, ← rr.length]
        exact ⟨.int ((kvs.length : Nat) : Int), H, I.tok _, ⟨_, rfl⟩, q⟩
    | _ => cases e
theorem bfCall_ok (hu : X.A.units + 128 < cLine) (hc : X.calm = true) (f : Bf) : CallR X (bfVal f) (TRC X.K (opB f)) := by
  intro pins s σ H xs us Q I rus ⟨φ, h, rs, Ha, R, rr, ε, q⟩
  unfold opB at q
  split at q
  · obtain ⟨v, rfl, r⟩ := rs1 rr
    obtain rfl := r.str
    split at q
    · exact call_len pins s σ H _ us Q I rus ⟨_, _, rfl, ⟨by rw [← SZ_eq]; assumption, rfl⟩, q.here R (VR.int _)⟩
    · exact q.elim
  · obtain ⟨v, rfl, r⟩ := rs1 rr
    split at q
    · rename_i t kvs e1
      exact len_dict R r e1 pins s σ us I rus (q.here R (VR.int _))
    split at q
    · rename_i ds e1
      obtain ⟨a, ys, rfl, sq, r1⟩ := seqOf_ok R r e1
      refine call_len pins s σ H _ us Q I rus ⟨_, ys.length, rfl, ?_, ?_⟩
      · rcases sq with sq | sq
        · exact .inl ⟨ys, sq, rfl⟩
        · exact .inr ⟨ys, sq, rfl⟩
      · rw [r1.length]
        exact q.here R (VR.int _)
    · exact q.elim
  · obtain ⟨v, rfl, r⟩ := rs1 rr
    split at q
    · rename_i ds e1
      split at q
      · rename_i k
        obtain ⟨a, ys, rfl, sq, r1⟩ := lsOf_ok R r e1
        exact sorted_ok hu I R sq r1 k rus (q.shR R WX.refl R)
      · exact q.elim
    · split at q
      · rename_i kvs eo
        split at q
        · rename_i ns en
          split at q
          · rename_i h64
            obtain ⟨k, a, rfl, rfl, ea⟩ := dOf_ref r eo
            rcases dOf_ok R ea eo with ⟨_, _, ks, z, rk⟩ | ⟨zz, _⟩
            · refine call_sortedDI hc pins s σ H _ us Q I rus ⟨a, ks, ns, rfl, .inl z, keys_int rk en, h64, fun ys p pm pw hp => ?_⟩
              have ey : ys = setI ns := perm_eq (pm.trans (setI_perm (keys_nodup I rk en z)).symm) pw (setI_srt ns) fun a _ b _ h1 h2 => Int.le_antisymm h1 h2
              rw [ey]
              exact raw_new R hp (vrs_ints _) (q.shR R WX.refl R)
            · cases zz
          · exact q.elim
        · exact q.elim
      · exact q.elim
  · obtain ⟨v, rfl, r⟩ := rs1 rr
    obtain rfl := r.int
    exact call_int1 pins s σ H _ us Q I rus (.inl ⟨_, rfl, q.here R (VR.int _)⟩)
  · obtain ⟨v, rfl, r⟩ := rs1 rr
    obtain rfl := r.bl
    exact call_int1 pins s σ H _ us Q I rus (.inr ⟨_, rfl, q.here R (VR.int _)⟩)
  · obtain ⟨v, rfl, r⟩ := rs1 rr
    obtain rfl := r.str
    split at q
    · rename_i n e1
      split at q
      · exact call_int_str pins s σ H _ us Q I rus ⟨_, n, rfl, e1, by assumption, q.here R (VR.int _)⟩
      · exact q.elim
    · exact q.elim
  · obtain ⟨v, rfl, r⟩ := rs1 rr
    obtain rfl := r.int
    exact call_abs pins s σ H _ us Q I rus ⟨_, rfl, q.here R (VR.int _)⟩
  · obtain ⟨v, rfl, r⟩ := rs1 rr
    obtain rfl := r.int
    split at q
    · exact call_str_int pins s σ H _ us Q I rus ⟨_, rfl, by assumption, q.here R (VR.str _)⟩
    · exact q.elim
  · obtain ⟨v, rfl, r⟩ := rs1 rr
    split at q
    · rename_i ds e1
      obtain ⟨a, ys, rfl, sq, r1⟩ := seqOf_ok R r e1
      rcases sq with sq | sq
      · exact call_tuple_of pins s σ H _ us Q I rus ⟨a, ys, rfl, .inl ⟨sq, fun p hp => tup_new R hp r1 q⟩⟩
      · exact call_tuple_of pins s σ H _ us Q I rus ⟨a, ys, rfl, .inr ⟨sq, q.here R (VR.tup sq r1)⟩⟩
    · exact q.elim
  · obtain ⟨v, rfl, r⟩ := rs1 rr
    split at q
    · rename_i ds e1
      obtain ⟨a, ys, rfl, sq, r1⟩ := seqOf_ok R r e1
      exact call_list_of pins s σ H _ us Q I rus ⟨a, ys, rfl, sq, fun p hp => raw_new R hp r1 q⟩
    · exact q.elim
  · obtain ⟨v, w, rfl, r, r2⟩ := rs2 rr
    obtain rfl := r.int
    obtain rfl := r2.int
    exact call_max2 hc pins s σ H _ us Q I rus ⟨_, _, rfl, q.here R (VR.int _)⟩
  · obtain ⟨v, w, rfl, r, r2⟩ := rs2 rr
    obtain rfl := r.int
    obtain rfl := r2.int
    exact call_min2 hc pins s σ H _ us Q I rus ⟨_, _, rfl, q.here R (VR.int _)⟩
  · obtain ⟨v, w, rfl, r, r2⟩ := rs2 rr
    split at q
    · rename_i ok
      exact call_min2T hu hc I R r r2 rus ok q
    · exact q.elim
  · obtain ⟨v, rfl, r⟩ := rs1 rr
    split at q
    · rename_i n ns e1
      obtain ⟨ds, e2, e3⟩ := Option.bind_eq_some_iff.mp e1
      obtain ⟨a, ys, rfl, sq, r1⟩ := lsOf_ok R r e2
      have ev := asInts_ok r1 e3
      rw [ev] at sq
      refine cr_max hc pins s σ H _ us Q I rus ⟨a, _, rfl, sq, Nat.succ_pos _, fun m hm hle => ?_⟩
      obtain ⟨h1, h2⟩ := maxI_spec n ns
      have em : m = maxI (n :: ns) := Int.le_antisymm (h2 m hm) (hle _ h1)
      rw [em]
      exact q.here R (VR.int _)
    · exact q.elim
  · obtain ⟨v, rfl, r⟩ := rs1 rr
    split at q
    · rename_i n ns e1
      obtain ⟨ds, e2, e3⟩ := Option.bind_eq_some_iff.mp e1
      obtain ⟨a, ys, rfl, sq, r1⟩ := lsOf_ok R r e2
      have ev := asInts_ok r1 e3
      rw [ev] at sq
      refine cr_min hc pins s σ H _ us Q I rus ⟨a, _, rfl, sq, Nat.succ_pos _, fun m hm hle => ?_⟩
      obtain ⟨h1, h2⟩ := minI_spec n ns
      have em : m = minI (n :: ns) := Int.le_antisymm (hle _ h1) (h2 m hm)
      rw [em]
      exact q.here R (VR.int _)
    · exact q.elim
  · obtain ⟨v, rfl, r⟩ := rs1 rr
    split at q
    · rename_i ns e1
      obtain ⟨ds, e2, e3⟩ := Option.bind_eq_some_iff.mp e1
      obtain ⟨a, ys, rfl, sq, r1⟩ := seqOf_ok R r e2
      have ev := asInts_ok r1 e3
      rw [ev] at sq
      exact cr_sumT hc pins s σ H _ us Q I rus ⟨a, _, rfl, sq, q.here R (VR.int _)⟩
    · exact q.elim
  · obtain ⟨v, rfl, r⟩ := rs1 rr
    split at q
    · rename_i ns e1
      obtain ⟨ds, e2, e3⟩ := Option.bind_eq_some_iff.mp e1
      obtain ⟨a, ys, rfl, sq, r1⟩ := lsOf_ok R r e2
      have ev := asBls_ok r1 e3
      rw [ev] at sq
      exact cr_all hc pins s σ H _ us Q I rus ⟨a, _, rfl, sq, q.here R (VR.bl _)⟩
    · exact q.elim
  · obtain ⟨v, rfl, r⟩ := rs1 rr
    split at q
    · rename_i ns e1
      obtain ⟨ds, e2, e3⟩ := Option.bind_eq_some_iff.mp e1
      obtain ⟨a, ys, rfl, sq, r1⟩ := lsOf_ok R r e2
      have ev := asBls_ok r1 e3
      rw [ev] at sq
      exact cr_any hc pins s σ H _ us Q I rus ⟨a, _, rfl, sq, q.here R (VR.bl _)⟩
    · exact q.elim
  · exact q.elim
theorem starsN : ∀ (es : List Expr) (env : Env), es.all noStar = true → (backTo pos (starEach es env)).any (·.1) = false
  | [], _, _ => rfl
  | e :: es, env, n => by
    rw [List.all_cons, Bool.and_eq_true] at n
    rw [star_cons n.1]
    exact starsN es env n.2
theorem je_blt {x : Str} {f : Bf} {os : St → Hh → Out (List RV)} (hu : X.A.units + 128 < cLine) (hc : X.calm = true) (hx : x = bfName f) (hg : Gl X x) (hm : X.mg x = none) (n : (e :: es).all noStar = true) (ha : PA X (e :: es) (TARr X.K ω os)) :
    PE X (.Call (.Name x p) (e :: es) [] pos) (TEr X.K ω fun st h => Py.bnd (os st h) fun rs h => opB f rs h) := by
  have n2 := n
  rw [List.all_cons, Bool.and_eq_true] at n2
  have boot : bootBuiltins x = some (bfVal f) := by rw [hx]; exact bf_boot f
  have hn : x ≠ "__name__" := by rw [hx]; cases f <;> decide
  have hd : (x == ("__debug__" : Str)) = false := by rw [hx]; cases f <;> decide
  have call := bfCall_ok (X := X) hu hc f
  have fn : ∀ id, bfVal f = .builtin id → PE X (.Call (.Name x p) (e :: es) [] pos) (tCB (TRC X.K (opB f)) (TARr X.K ω os)) := fun id z => by
    rw [z] at call boot
    exact pe_callB call hg hm boot ha hn hd (star_cons n2.1) (starsN es _ n2.2)
  have ty : ∀ id, bfVal f = .type id → PE X (.Call (.Name x p) (e :: es) [] pos) (tCB (TRC X.K (opB f)) (TARr X.K ω os)) := fun id z => by
    rw [z] at call boot
    exact pe_callTy call hg hm boot ha hn hd (star_cons n2.1) (starsN es _ n2.2)
  refine pe_imp (t := tCB (TRC X.K (opB f)) (TARr X.K ω os)) ?_ fun σ H Q q => args_reads q
  cases f <;> first | exact fn _ rfl | exact ty _ rfl
end
end Py
/-! Core, part J: chained comparisons. -/
namespace Py
open PySem PySem.Spec PyProof.Rows
open L2 hiding St start wipe
def ch2 (o p : CmpOp) (oa ob oc : St → Hh → Out RV) : St → Hh → Out RV := fun st h => Py.bnd (oa st h) fun x h => Py.bnd (ob st h) fun y h => Py.bnd (opCmp o x y h) fun t h => match t with
  | .val (.bl true) => Py.bnd (oc st h) fun z h => opCmp p y z h
  | .val (.bl false) => .ok (.val (.bl false)) h
  | _ => .fail
section
variable [Tau] {ω : Wsh} {ε : XK} {X : Cx} {σ : L2.St} {H : Hp} {a b c : Expr} {oa ob oc : St → Hh → Out RV} {pos : Pos} {o p : CmpOp}
theorem ch_reads {Q : VK} (q : TEr X.K ω (ch2 o p oa ob oc) σ H Q) : tChain (TR2 X.K (opCmp o)) (TR2 X.K (opCmp p)) (TEr X.K ω oa) (TEr X.K ω ob) (TEr X.K ω oc) σ H Q := by
  obtain ⟨φ, h, st, R, S, q⟩ := q
  refine ⟨φ, h, st, R, S, ?_⟩
  refine Post.seq q fun x h1 e1 q φ1 H1 v1 w1 R1 r1 => ?_
  refine ⟨φ1, h1, st, R1, S.mono R w1, ?_⟩
  refine Post.seq (q.shR R w1 R1) fun y h2 e2 q φ2 H2 v2 w2 R2 r2 => ?_
  refine ⟨φ2, h2, x, y, H, H1, R2, r1.mono R1 w2, r2, wAt ω σ, ?_⟩
  refine Post.seq (q.shR R1 w2 R2) fun t h3 e3 q φ3 H3 v3 w3 R3 r3 => ?_
  obtain ⟨k, rfl⟩ := opCmp_bl e3
  obtain rfl := r3.bl
  refine ⟨k, rfl, ?_⟩
  have q := q.shR R2 w3 R3
  cases k with
  | false => exact iteF (q.here R3 (VR.bl false))
  | true =>
    refine iteT ⟨φ3, h3, st, R3, ((S.mono R w1).mono R1 w2).mono R2 w3, ?_⟩
    refine Post.seq (show Post X.K _ φ3 H3 (BR X.K H3) (Py.bnd (oc st h3) fun z h => opCmp p y z h) Q from q) fun z h4 e4 q φ4 H4 v4 w4 R4 r4 => ?_
    exact ⟨φ4, h4, y, z, H1, H3, R4, (r2.mono R2 w3).mono R3 w4, r4, _, q.shR R3 w4 R4⟩
theorem ch_bl {st : St} {h h' : Hh} {r : RV} (e : ch2 o p oa ob oc st h = .ok r h') : ∃ k, r = .val (.bl k) := by
  unfold ch2 at e
  obtain ⟨x, h1, _, e⟩ := bnd_ok_of e
  obtain ⟨y, h2, _, e⟩ := bnd_ok_of e
  obtain ⟨t, h3, _, e⟩ := bnd_ok_of e
  split at e
  · obtain ⟨z, h4, _, e⟩ := bnd_ok_of e
    exact opCmp_bl e
  · cases e
    exact ⟨_, rfl⟩
  · cases e
theorem je_ch (hu : X.A.units + 128 < cLine) (ha : PE X a (TEr X.K ω oa)) (hb : PE X b (TEr X.K ω ob)) (hc : PE X c (TEr X.K ω oc)) (hm : lastMarks [o, p] [b, c] = false) : PE X (.Compare a [o, p] [b, c] pos) (TEr X.K ω (ch2 o p oa ob oc)) :=
  pe_imp (pe_chain (cmp_ok hu o) (cmp_ok hu p) ha hb hc hm) fun _ _ _ q => ch_reads q
theorem jt_ch (hu : X.A.units + 128 < cLine) (ha : PE X a (TEr X.K ω oa)) (hb : PE X b (TEr X.K ω ob)) (hc : PE X c (TEr X.K ω oc)) (hm : lastMarks [o, p] [b, c] = false) : PT X (.Compare a [o, p] [b, c] pos) (TBr X.K ω (truO (ch2 o p oa ob oc))) :=
  pt_imp (pt_chain (cmp_ok hu o) (cmp_ok hu p) ha hb hc hm) fun _ _ _ q => ch_reads (tru_bl (fun st h r h' e => ch_bl e) q)
/-- xs[::-1] -/
theorem je_revs {k : Nat} {p1 p2 p3 : Pos} (ha : PE X a (TEr X.K ω oa)) : PE X (.Subscript a (.Slice none none (some (.UnaryOp .USub (.Constant (.int 1) k p1) p2)) p3) pos) (TEr X.K ω fun st h => Py.bnd (oa st h) fun x h => match lsOf h x with
    | some ds => .ok (.raw ds.reverse) h
    | none => .fail) := pe_imp (pe_revL ha) fun σ H Q ⟨φ, h, st, R, S, q⟩ => by
  refine ⟨φ, h, st, R, S, ?_⟩
  refine Post.seq q fun x h1 e1 q φ1 H1 v1 w1 R1 r1 => ?_
  have q := q.shR R w1 R1
  cases e : lsOf h1 x with
  | none => rw [e] at q; exact q.elim
  | some ds =>
    rw [e] at q
    obtain ⟨ad, xs, rfl, sq, rr⟩ := lsOf_ok R1 r1 e
    exact ⟨ad, xs, rfl, sq, fun p hp => raw_new R1 hp rr.reverse q⟩
/-- tuple(reversed(xs)) -/
theorem je_trv {x y : Str} {p p2 pos2 : Pos} (ex : x = "tuple") (ey : y = "reversed") (hc : X.calm = true) (hg : Gl X x) (hm : X.mg x = none) (hg2 : Gl X y) (hm2 : X.mg y = none) (n : noStar a = true) (ha : PE X a (TEr X.K ω oa)) :
    PE X (.Call (.Name x p) [.Call (.Name y p2) [a] [] pos2] [] pos) (TEr X.K ω fun st h => Py.bnd (oa st h) fun x h => match lsOf h x with
    | some ds => .ok (.val (.tup ds.reverse)) h
    | none => .fail) := by
  subst ex ey
  refine pe_imp (RT.pe_tupRev hc hg hm hg2 hm2 ha (star_cons n) rfl) fun σ H Q ⟨φ, h, st, R, S, q⟩ => ?_
  refine ⟨φ, h, st, R, S, ?_⟩
  refine Post.seq q fun x h1 e1 q φ1 H1 v1 w1 R1 r1 => ?_
  have q := q.shR R w1 R1
  cases e : lsOf h1 x with
  | none => rw [e] at q; exact q.elim
  | some ds =>
    rw [e] at q
    obtain ⟨ad, xs, rfl, sq, rr⟩ := lsOf_ok R1 r1 e
    exact ⟨ad, xs, rfl, sq, fun p hp => tup_new R1 hp rr.reverse q⟩

/-! ### displays of dicts -/
/-- something new is tracked -/
theorem new_ref {φ : List Addr} {h : Hh} {H : Hp} {p : Addr} {u : HO} {o : O} {Q : VK} (R : Rel X.K φ h H) (hp : H p = none) (q : OR X.K φ (upd H p u) o p) (z : Post X.K ε φ H (BR X.K H) (.ok (.val (.ref h.length)) (h ++ [o])) Q) : Q (.ref p) (upd H p u) := by
  have w0 : WX φ H φ (upd H p u) := WX.new hp
  have R0 : Rel X.K φ h (upd H p u) := R.new hp
  refine z (φ ++ [p]) _ _ ⟨[p], rfl, fun a ha => by rw [List.mem_singleton.mp ha]; exact hp, fun b o hb e => .inl (by rw [upd_ne (ne_of_none e hp)]; exact e), DnC.upd hp .refl⟩ (R0.pushO (R.notin hp) q) (VR.ref ?_)
  rw [List.getElem?_append_right (by rw [R.len]; exact Nat.le_refl _), R.len, Nat.sub_self]
  rfl
def tDNewN : TE := fun _ H Q => ∀ p, H p = none → Q (.ref p) (upd H p (DnO p [] 0))
theorem pe_dnewN : PE X (.Dict [] [] pos) tDNewN := ⟨fun pins s σ H Q I h =>
  wpAny_Dict_empty ⟨.ref s.heap.objs.size, _, I.laid (a := s.heap.objs.size) (o := DnO s.heap.objs.size [] 0) (t' := s.toks) (fun _ _ q => Heap.get?_push_of_some _ q) (Nat.le_refl _) (dn_empty s.heap I.big), rfl, h _ (I.hok.fresh (Nat.le_refl _))⟩⟩
theorem je_dnew (t : Bool) : PE X (.Dict [] [] pos) (TEr X.K ω fun _ h => .ok (.val (.ref h.length)) (h ++ [if t = true then .dcn [] else .dct []])) := by
  cases t with
  | true => exact pe_imp pe_dnewN fun σ H Q ⟨φ, h, st, R, S, q⟩ p hp => new_ref R hp (o := .dcn []) ⟨[], 0, upd_same, by simp, .nil⟩ q
  | false => exact pe_imp pe_dnewK fun σ H Q ⟨φ, h, st, R, S, q⟩ p hp => new_ref R hp (o := .dct []) ⟨[], upd_same, .nil⟩ q
/-- a written key -/
def keyE (d : D) (e : Expr) : Bool := match d, e with
  | .int i, .Constant (.int j) _ _ => decide (i = j)
  | .str x, .Constant (.str y) _ _ => decide (x = y)
  | _, _ => false
def keyV : D → V
  | .int i => .int i
  | .str x => .str x
  | _ => .non
theorem je_key {d : D} {e : Expr} (k : keyE d e = true) : PE X e (tC (keyV d)) ∧ isLeaf d = true := by
  unfold keyE at k
  split at k
  · simp only [decide_eq_true_eq] at k; subst k; exact ⟨pe_int, rfl⟩
  · simp only [decide_eq_true_eq] at k; subst k; exact ⟨pe_str, rfl⟩
  · cases k
theorem key_leaf {d : D} {e : Expr} (k : keyE d e = true) : isLeaf d = true := by
  unfold keyE at k
  split at k
  · rfl
  · rfl
  · cases k
def keysE : List D → List (Option Expr) → Bool
  | [], [] => true
  | d :: ds, some e :: es => keyE d e && keysE ds es
  | _, _ => false
/-- the values' readings by their keys -/
inductive DPs (X : Cx) (ω : Wsh) (pos : Pos) : List D → List (Option Expr) → List Expr → (St → Hh → Out (List D)) → Prop
  | nil : DPs X ω pos [] [] [] fun _ h => .ok [] h
  | cons {d : D} {ds : List D} {k v : Expr} {ks : List (Option Expr)} {vs : List Expr} {od : St → Hh → Out D} {os : St → Hh → Out (List D)} : keyE d k = true → PE X v (TDr X.K ω od) → DPs X ω pos ds ks vs os →
      DPs X ω pos (d :: ds) (some k :: ks) (v :: vs) fun st h => Py.bnd (od st h) fun d h => Py.bnd (os st h) fun ds h => .ok (d :: ds) h
theorem DPs.run {pos : Pos} {ds : List D} {ks : List (Option Expr)} {vs : List Expr} {os : St → Hh → Out (List D)} (r : DPs X ω pos ds ks vs os) : ∃ trs, PPs X pos ks vs trs ∧
    ∀ (σ : L2.St) (H : Hp) (Q : List (V × V) → Hp → Prop), TAr X.K ω os σ H (fun ys H' => ys.length = ds.length → Q ((ds.map keyV).zip ys) H') → tPairs trs σ H Q := by
  induction r with
  | nil => exact ⟨[], pps_nil, fun σ H Q ⟨φ, h, st, R, S, q⟩ => q.here R VRs.nil rfl⟩
  | cons hk hv t ih =>
    obtain ⟨trs, h1, h2⟩ := ih
    refine ⟨(_, _) :: trs, pps_cons (je_key hk).1 hv h1, fun σ H Q ⟨φ, h, st, R, S, q⟩ => ?_⟩
    refine ⟨φ, h, st, R, S, ?_⟩
    refine Post.seq q fun d h3 e1 q φ1 H1 v1 w1 R1 r1 => ?_
    refine h2 σ H1 _ ⟨φ1, h3, st, R1, S.mono R w1, ?_⟩
    exact Post.seq (q.sh R w1 R1) fun ds2 h4 e2 q φ2 H2 vs2 w2 R2 r2 el => (q.sh R1 w2 R2).here R2 (VRs.cons (r1.mono R1 w2) r2) (congrArg (· + 1) el)
theorem DPs.len {pos : Pos} {ds : List D} {ks : List (Option Expr)} {vs : List Expr} {os : St → Hh → Out (List D)} (r : DPs X ω pos ds ks vs os) : ks.all (·.isSome) = true ∧ ks.length = vs.length ∧ ks.length = ds.length ∧ ds.all isLeaf = true := by
  induction r with
  | nil => exact ⟨rfl, rfl, rfl, rfl⟩
  | cons hk hv t ih => exact ⟨by simp [ih.1], by simp [ih.2.1], by simp [ih.2.2.1], by rw [List.all_cons, key_leaf hk, ih.2.2.2]; rfl⟩
def keyL : D → L2.Key
  | .int i => .inl i
  | .str x => .inr x
  | _ => .inl 0
theorem keyL_ok {d : D} (k : isLeaf d = true) : KD d (keyL d) ∧ keyV d = kV (keyL d) := by
  cases d with
  | int i => exact ⟨rfl, rfl⟩
  | str x => exact ⟨rfl, rfl⟩
  | _ => cases k
theorem merge_ok {φ : List Addr} {H : Hp} : ∀ {ds : List D} {ws : List V} {ks : List D} {kvs : List (D × D)} {xs : List (L2.Key × V)}, VRs X.K φ H ds ws → ks.all isLeaf = true → DKs' X.K φ H kvs xs →
    DKs' X.K φ H (mergeD kvs (ks.zip ds)) (((ks.map keyL).zip ws).foldl (fun acc kv => putK acc kv.1 kv.2) xs)
  | _, _, ks, _, _, .nil, _, q => by cases ks <;> exact q
  | _, _, [], _, _, .cons _ _, _, q => q
  | _, _, k0 :: ks, _, _, .cons r0 t, k, q => by
    simp only [List.all_cons, Bool.and_eq_true] at k
    have z := merge_ok t k.2 (q.put (keyL_ok k.1).1 r0)
    exact z
/-- what is changed is no tuple, and no frozen thing -/
theorem growT {K : PySem.W.Frag} {H : Hp} {D : Addr} {u v : HO} (e : H D = some u) (t : Trk u) : Grow K H (upd H D v) := by
  have ne : ∀ a o, H a = some o → (∀ xs, o = .tup xs → False) → True := fun _ _ _ _ => trivial
  refine ⟨fun a zs q => ?_, fun a zs q => ?_⟩
  · rcases q with (q | ⟨o, q⟩) | q
    · exact .inl (.inl (by rw [upd_ne (fun z => by subst z; rw [e] at q; exact t.noTup (Option.some.inj q))]; exact q))
    · exact .inl (.inr ⟨o, by rw [upd_ne (fun z => by subst z; rw [e] at q; exact t.noFrz (Option.some.inj q))]; exact q⟩)
    · exact .inr q
  · rcases q with ⟨o, q⟩ | q
    · exact .inl ⟨o, by rw [upd_ne (fun z => by subst z; rw [e] at q; exact t.noFrz (Option.some.inj q))]; exact q⟩
    · exact .inr q
theorem Rel.growT {K : PySem.W.Frag} {φ : List Addr} {h : Hh} {H : Hp} {D : Addr} {u v : HO} (R : Rel K φ h H) (hD : D ∉ φ) (e : H D = some u) (t : Trk u) : Rel K φ h (upd H D v) :=
  ⟨R.len, fun n o a h1 h2 => (R.obj n o a h1 h2).map (upd_ne fun z => hD (by rw [← z]; exact List.mem_of_getElem? h2)) (fun b ys q => by rw [upd_ne (fun z => by subst z; rw [e] at q; exact t.noXd (Option.some.inj q))]; exact q) (fun _ _ r => r.grow (Py.growT e t)) fun _ _ r => r.grow (Py.growT e t), R.inj, tabs_write R.tab e t, Tau.keep R.inv (.write e t)⟩
theorem pairs_keys : ∀ {ks : List D} {ys : List V}, ks.all isLeaf = true → (ks.map keyV).zip ys = ((ks.map keyL).zip ys).map fun kv => (kV kv.1, kv.2)
  | [], _, _ => by simp
  | _ :: _, [], _ => by simp
  | k :: ks, y :: ys, h => by
    simp only [List.all_cons, Bool.and_eq_true] at h
    simp only [List.map_cons, List.zip_cons_cons, pairs_keys h.2, (keyL_ok h.1).2]
theorem je_dct {ks : List D} {keys : List (Option Expr)} {values : List Expr} {os : St → Hh → Out (List D)} (hk : ks ≠ [] ∧ ks.length ≤ 15) (r : DPs X ω pos ks keys values os) :
    PE X (.Dict keys values pos) (TEr X.K ω fun st h => Py.bnd (os st h) fun ds h => if ks.all isLeaf = true ∧ ks.length = ds.length ∧ ks.length ≤ 15 ∧ ks ≠ [] then .ok (.val (.ref h.length)) (h ++ [.dct (mergeD [] (ks.zip ds))]) else .fail) := by
  obtain ⟨trs, h1, h2⟩ := r.run
  obtain ⟨l1, l2, l3, l4⟩ := r.len
  refine pe_imp (pe_disp h1 l1 l2 (fun z => hk.1 (by rw [z] at l3; exact List.length_eq_zero_iff.mp l3.symm)) (by rw [l3]; exact hk.2)) fun σ H Q ⟨φ, h, st, R, S, q⟩ p hp => ?_
  have w0 : WX φ H φ (upd H p (.dK [])) := WX.new hp
  have R0 : Rel X.K φ h (upd H p (.dK [])) := R.new hp
  refine h2 σ _ _ ⟨φ, h, st, R0, S.mono R w0, ?_⟩
  refine Post.seqW q R w0 R0 fun ds h3 e1 q φ1 H1 vs w1 R1 r1 el => ?_
  have hn := R.notin hp
  have hp1 := w1.keep hn upd_same
  have hn1 := w1.notin hn upd_same
  refine ⟨hp1, (ks.map keyL).zip vs, pairs_keys l4, by rw [List.length_zip, List.length_map]; omega, ?_⟩
  have hl : ks.length = ds.length := by rw [← r1.length, el]
  rw [if_pos ⟨l4, hl, hk.2, hk.1⟩] at q
  have w01 := w0.trans R R0 w1
  have g := Py.growT (K := X.K) (v := .dK (mergeK [] ((ks.map keyL).zip vs))) hp1 (Trk.dK [])
  have R2 := R1.growT (v := .dK (mergeK [] ((ks.map keyL).zip vs))) hn1 hp1 (Trk.dK [])
  obtain ⟨ψ, e1, f1, k1, d1⟩ := w01
  refine q (φ1 ++ [p]) _ _ ⟨ψ ++ [p], by rw [e1, List.append_assoc], fun a ha => ?_, fun b o hb e => ?_, DnC.upd hp d1⟩ (R2.pushO hn1 ⟨_, upd_same, ?_⟩) (VR.ref ?_)
  · rcases List.mem_append.mp ha with ha | ha
    · exact f1 a ha
    · rw [List.mem_singleton.mp ha]; exact hp
  · rw [upd_ne (ne_of_none e hp)]
    exact k1 b o hb e
  · have m := merge_ok (kvs := []) (xs := []) r1 l4 .nil
    exact Paired.mapP m fun _ _ z => ⟨z.1, z.2.grow g⟩
  · rw [List.getElem?_append_right (by rw [R1.len]; exact Nat.le_refl _), R1.len, Nat.sub_self]
    rfl
end
end Py
/-! Core, part W: list(reversed(xs)). -/
namespace Py
open PySem PySem.Spec PyProof.Rows
open L2 hiding St start wipe
section
variable {prog : Program} {w : World} {A : Around} {E : Value → Shared → Prop} {s : Shared}
theorem rv_extend {R : Result → Shared → Prop} {ri l S : Addr} {items : Array Value} (nH : A.handled = none) (rI : s.heap.IsRevIter ri l ((items.size : Int) - 1)) (lI : s.heap.IsList l items) (nI : l ≠ ri) (zI : items.size ≤ sizeLine) (nSi : S ≠ ri) (nSl : S ≠ l)
    (res : Value) (c₀ : Nat) (sI : s.heap.get? S = some { cls := .type "list", data := .seq #[] c₀ })
    (kR : ∀ (h' : Heap) (tk : Nat) (acc : Array Value) (c' : Nat), (∀ b o, b ≠ S → b ≠ ri → s.heap.get? b = some o → h'.get? b = some o) → h'.get? S = some { cls := .type "list", dict := none, data := .seq acc c', slots := #[] } → ItemsOf (fun i v => items[items.size - 1 - i]? = some v) acc items.size → R (.ok (.ret res)) { s with heap := h', toks := tk }) :
    wpAny (model prog w) A.in1 (Builtin.List.listExtendWith (.ref S) (.ref ri) res)
      (fun fi s' => match fi with | .done f => R (.ok f) s' | .again c' => c'.quiet = true ∧ codeAny (model prog w) A c' R s') (fun e s' => R (.error e) s') s := by
  have W := (Walks.listRev (prog := prog) (w := w) (A := A.in1) nH ri l nI items).toS
  have nSf : S ∉ [ri, l] := by simp only [List.mem_cons, List.not_mem_nil, or_false, not_or]; exact ⟨nSi, nSl⟩
  have tI : s.TypeIs (.ref ri) "list_reverseiterator" := Heap.IsRevIter.typeIs rI
  have e1x : Builtin.List.listSameRef (.ref S) (.ref ri) = false := by simp [Builtin.List.listSameRef, nSi]
  unfold Builtin.List.listExtendWith
  refine wpAny_bind (wpAny_typeOf tI ?_)
  rw [if_neg (by rw [e1x]; decide)]
  refine wpAny_bind (wpAny_pyIter_revIter rI ?_)
  refine wpAny_bind (wpAny_holding ?_)
  unfold Builtin.List.listLengthHint
  refine wpAny_bind (wpAny_specialOf tI RT.nolen_lri ?_)
  show wpAny _ A.in1 (specialOf (Value.ref ri) (Str.ofString "__length_hint__") >>= _) _ _ _
  refine wpAny_bind (wpAny_specialOf tI RT.hint_lri ?_)
  generalize eid : ("list_reverseiterator.__length_hint__" : String) = id0
  wp_delta
  rw [show splitId id0 = some ("list_reverseiterator", "__length_hint__") from by subst eid; decide +kernel]
  subst eid
  refine wpAny_bind (wpAny_isInstance (b := true) tI (by rw [isSubtype_type]; kernel_rfl) ?_)
  refine wpAny_pure ?_
  rw [if_neg (by decide)]
  have z0 : ((items.size : Nat) : Int) - 1 - ((0 : Nat) : Int) = (items.size : Int) - 1 := by omega
  refine wpAny_pure ⟨plainId_quiet F.plain_extend_loop _, codeAny_extend_loopS W zI _ nSf _ items.size 0 _ _ _ rfl (Nat.zero_le _) ⟨Nat.zero_le _, by rw [z0]; exact rI, lI⟩ sI (ItemsOf.nil _) fun s' acc' c' mv sI' ia => ?_⟩
  rw [Moved.eq_with mv]
  refine kR s'.heap s'.toks acc' c' (fun b o nb hb2 e => mv.heap b o (fun mm => ?_) e) sI' ia
  rcases List.mem_cons.mp mm with e' | mm
  · exact nb e'
  · exact hb2 (List.mem_singleton.mp mm)
theorem rv_init {R : Result → Shared → Prop} {ri l S : Addr} {items : Array Value} (nH : A.handled = none) (rI : s.heap.IsRevIter ri l ((items.size : Int) - 1)) (lI : s.heap.IsList l items) (nI : l ≠ ri) (zI : items.size ≤ sizeLine) (nSi : S ≠ ri) (nSl : S ≠ l)
    (sI : s.heap.get? S = some { cls := .type "list", data := .seq #[] })
    (kR : ∀ (h' : Heap) (tk : Nat) (acc : Array Value) (c' : Nat), (∀ b o, b ≠ S → b ≠ ri → s.heap.get? b = some o → h'.get? b = some o) → h'.get? S = some { cls := .type "list", dict := none, data := .seq acc c', slots := #[] } → ItemsOf (fun i v => items[items.size - 1 - i]? = some v) acc items.size → R (.ok (.ret .none)) { s with heap := h', toks := tk }) :
    wpAny (model prog w) A.in1 (Builtin.«list.__init__» ⟨[.ref S, .ref ri], []⟩)
      (fun fi s' => match fi with | .done f => R (.ok f) s' | .again c' => c'.quiet = true ∧ codeAny (model prog w) A c' R s') (fun e s' => R (.error e) s') s := by
  show wpAny _ _ (do let old ← Builtin.List.listItems (.ref S); Builtin.List.listUpdate (.ref S) (fun _ => #[]); letGo old.toList.reverse; Builtin.List.listExtendWith (.ref S) (.ref ri) .none) _ _ s
  refine wpAny_bind ?_
  unfold Builtin.List.listItems
  refine wpAny_bind (wpAny_seqItems sI rfl (wpAny_pure ?_))
  show wpAny _ _ (updateSeq S (fun _ => #[]) >>= fun _ => letGo (#[] : Array Value).toList.reverse >>= fun _ => Builtin.List.listExtendWith (.ref S) (.ref ri) .none) _ _ s
  refine wpAny_bind (wpAny_updateSeq sI rfl ?_)
  have sI2 := Heap.get?_update_self (Obj.mapSeq (fun _ => (#[] : Array Value))) sI rfl
  have oe : ∀ b o, b ≠ S → s.heap.get? b = some o → (s.heap.update S (Obj.mapSeq (fun _ => (#[] : Array Value)))).get? b = some o :=
    fun b o nb e => (Heap.get?_update_other _ _ (Ne.symm nb)).trans e
  refine wpAny_bind (wpAny_letGo ?_)
  refine rv_extend (s := { s with heap := s.heap.update S (Obj.mapSeq (fun _ => (#[] : Array Value))) }) nH (rI.at fun o e => oe ri o nSi.symm e) ?_ nI zI nSi nSl .none _ sI2 fun h' tk acc c' kp sI' ia => kR h' tk acc c' (fun b o nb hb2 e => kp b o nb hb2 (oe b o nb e)) sI' ia
  obtain ⟨ol, eol, r⟩ := lI
  exact ⟨ol, oe l ol nSl.symm eol, r⟩
theorem rv_call {Q : Value → Shared → Prop} {ri l : Addr} {items : Array Value} (nH : A.handled = none) (rI : s.heap.IsRevIter ri l ((items.size : Int) - 1)) (lI : s.heap.IsList l items) (nI : l ≠ ri) (zI : items.size ≤ sizeLine)
    (kQ : ∀ (h' : Heap) (tk : Nat) (acc : Array Value) (c' : Nat), (∀ b o, b ≠ ri → s.heap.get? b = some o → h'.get? b = some o) → h'.get? s.heap.objs.size = some { cls := .type "list", dict := none, data := .seq acc c', slots := #[] } → ItemsOf (fun i v => items[items.size - 1 - i]? = some v) acc items.size → Q (.ref s.heap.objs.size) { s with heap := h', toks := tk }) :
    wpAny (model prog w) A (call (.type "list") [.ref ri]) Q E s := by
  refine callType_codes (Q₁ := fun obj t1 => obj = .ref s.heap.objs.size ∧ t1 = { s with heap := s.heap.push { cls := .type "list", data := .seq #[] } }) PySem.F.called_list (PySem.F.typeCall_list_1 _) PySem.F.entry_list_init
    (code_list_new _ ⟨rfl, rfl⟩) fun obj t1 z1 => ?_
  obtain ⟨rfl, rfl⟩ := z1
  have sI : (s.heap.push { cls := .type "list", data := .seq #[] }).get? s.heap.objs.size = some { cls := .type "list", data := .seq #[] } := Heap.get?_push_size _ rfl
  obtain ⟨oi, eoi, _⟩ := id rI
  obtain ⟨ol, eol, _⟩ := id lI
  refine ⟨⟨_, sI, rfl⟩, PySem.F.args_list_init_2 _ _, rv_init (A := A.in1) nH (rI.at fun o e => Heap.get?_push_of_some _ e) (lI.push _) nI zI (Nat.ne_of_gt (Heap.lt_size eoi)) (Nat.ne_of_gt (Heap.lt_size eol)) sI (fun h' tk acc c' kp sI' ia => ?_)⟩
  exact ⟨rfl, kQ h' tk acc c' (fun b o nb e => kp b o (Nat.ne_of_lt (Heap.lt_size e)) nb (Heap.get?_push_of_some _ e)) sI' ia⟩
end
/-- list(reversed(x)), x a list: a new list -/
def tListRev (K : PySem.W.Frag) (te : TE) : TE := fun σ H Q => te σ H fun v G1 => ∃ (a : Addr) (xs : List V), v = .ref a ∧ SqL K G1 a xs ∧ ∀ q, G1 q = none → Q (.ref q) (upd G1 q (.lst xs.reverse))
section
variable [Tau] {ω : Wsh} {ε : XK} {X : Cx} {a : Expr} {oa : St → Hh → Out RV}
theorem pe_listRev {e : Expr} {te : TE} {p p2 pos pos2 : Pos} (hc : X.calm = true) (hg : Gl X "list") (mv : X.mg "list" = none) (hg2 : Gl X "reversed") (hm2 : X.mg "reversed" = none) (he : PE X e te)
    (es1 : starEach [e] X.env = (false, eval e X.env) :: starEach [] X.env := by rfl)
    (es2 : starEach [.Call (.Name "reversed" p2) [e] [] pos2] X.env = (false, eval (.Call (.Name "reversed" p2) [e] [] pos2) X.env) :: starEach [] X.env := by rfl) :
    PE X (.Call (.Name "list" p) [.Call (.Name "reversed" p2) [e] [] pos2] [] pos) (tListRev X.K te) := by
  refine ⟨fun pins s σ H Q I h => ?_⟩
  refine Call_ (ld_blt I hg mv PyProof.Rows.boot_list (PyProof.Rows.callWith_type1 (args_cons (Call_ (ld_blt I hg2 hm2 PyProof.Rows.boot_reversed (PyProof.Rows.callWith_type1 (args_cons (thn (he.run pins s σ H _ I h) fun u s1 ⟨v, G1, J1, r1, q1⟩ => args_nil ?_) es1) es1 rfl))) es2) es2 rfl))
  obtain ⟨a, xs, ev, sq, q⟩ := q1
  subst ev
  obtain rfl : u = Value.ref a := r1
  obtain ⟨its, rv, p', zz⟩ := J1.list sq
  refine call_reversed_list p'.isList (args_nil ?_)
  have ke : ∀ b o, s1.heap.get? b = some o → (s1.heap.push (revObj a ((its.toArray.size : Int) - 1))).get? b = some o := fun b o e => Heap.get?_push_of_some _ e
  have I2 : Inv X pins σ G1 { s1 with heap := s1.heap.push (revObj a ((its.toArray.size : Int) - 1)) } := J1.kept (t' := s1.toks) ke
  obtain ⟨f0, f1, f2, f3, f4, f5⟩ := J1.fpOk (H' := G1) (b := s1.heap.objs.size) (Nat.le_refl _) (J1.hok.fresh (Nat.le_refl _))
  have lI := p'.isList
  obtain ⟨ol, eol, _⟩ := id lI
  have nI : a ≠ s1.heap.objs.size := Nat.ne_of_lt (Heap.lt_size eol)
  have zI : its.toArray.size ≤ sizeLine := by rw [List.size_toArray, ← rv.length]; exact zz
  refine rv_call (s := { s1 with heap := s1.heap.push (revObj a ((its.toArray.size : Int) - 1)) }) (J1.ok.hd hc) ⟨_, Heap.get?_push_size _ rfl, rfl, rfl⟩ (lI.push _) nI zI fun h' tk acc c' kp sI iI => ?_
  have hz2 : (s1.heap.push (revObj a ((its.toArray.size : Int) - 1))).objs.size = s1.heap.objs.size + 1 := by simp [Heap.push]
  have sI : h'.get? (s1.heap.push (revObj a ((its.toArray.size : Int) - 1))).objs.size = some { cls := .type "list", dict := none, data := .seq acc c', slots := #[] } := sI
  have hcar : G1 s1.heap.objs.size = none := J1.hok.fresh (Nat.le_refl _)
  have hq2 : G1 (s1.heap.objs.size + 1) = none := J1.hok.fresh (Nat.le_succ _)
  refine ⟨.ref (s1.heap.push (revObj a ((its.toArray.size : Int) - 1))).objs.size, upd G1 (s1.heap.push (revObj a ((its.toArray.size : Int) - 1))).objs.size (.lst xs.reverse), I2.turnedNew (t' := tk) (ch := [s1.heap.objs.size]) (fun b o nb e => kp b o (fun z => nb (by simp [z])) e) (fun b nb => by
    have e : b = s1.heap.objs.size := by simpa using nb
    subst e
    exact ⟨f0, f1, f2, f3, f4, f5⟩) (Nat.le_refl _) ⟨by rw [List.length_reverse]; exact zz, acc.toList, c', RT.vals_rev rv iI, ?_⟩, rfl, q _ (by rw [hz2]; exact hq2)⟩
  rw [sI]
/-- list(reversed(xs)) -/
theorem je_lrv {x y : Str} {p p2 pos pos2 : Pos} (ex : x = "list") (ey : y = "reversed") (hc : X.calm = true) (hg : Gl X x) (mv : X.mg x = none) (hg2 : Gl X y) (hm2 : X.mg y = none) (n : noStar a = true) (ha : PE X a (TEr X.K ω oa)) :
    PE X (.Call (.Name x p) [.Call (.Name y p2) [a] [] pos2] [] pos) (TEr X.K ω fun st h => Py.bnd (oa st h) fun x h => match lsOf h x with
    | some ds => .ok (.raw ds.reverse) h
    | none => .fail) := by
  subst ex ey
  refine pe_imp (pe_listRev hc hg mv hg2 hm2 ha (star_cons n) rfl) fun σ H Q ⟨φ, h, st, R, S, q⟩ => ?_
  refine ⟨φ, h, st, R, S, ?_⟩
  refine Post.seq q fun x e1x e1 q φ1 G1 v1 w1 R1 r1 => ?_
  have q := q.shR R w1 R1
  cases e : lsOf e1x x with
  | none => rw [e] at q; exact q.elim
  | some ds =>
    rw [e] at q
    obtain ⟨ad, xs, rfl, sq, rr⟩ := lsOf_ok R1 r1 e
    exact ⟨ad, xs, rfl, sq, fun p hp => raw_new R1 hp rr.reverse q⟩
end
end Py
/-! Core, part Y: sorted(set(xs)), a list of ints. -/
namespace Py
open PySem PySem.Spec PyProof.Rows
open L2 hiding St start wipe
section
variable {P : Program} {w : World} {A : Around} {E : Value → Shared → Prop} {s : Shared}
theorem call_setL {l : Addr} {us : Array Value} (ns : List Int) {Q : Value → Shared → Prop} (nH : A.handled = none) (lI : s.heap.IsList l us) (iI : IntsAre us.toList ns) (bI : ns.length + 1 < scanBound)
    (kQ : ∀ (g : Heap) (tk c : Nat), SetR w g s.heap.objs.size (fun j => decide (j ∈ ns)) c → c ≤ ns.length → (∀ b o, s.heap.get? b = some o → g.get? b = some o) → Q (.ref s.heap.objs.size) { s with heap := g, toks := tk }) :
    wpAny (model P w) A (call (.type "set") [.ref l]) Q E s := by
  have zI : us.size = ns.length := by
    have q := IntsAre.length iI; rwa [Array.length_toList] at q
  obtain ⟨c, tl, mR⟩ := F.called_set.mro
  have mD := F.called_set.made; have sB := F.called_set.sub
  refine wpAny_call (codeAny_of_tree ?_)
  show wpAny _ _ (callAny (.type "set") _) _ _ _
  refine wpAny_pure ⟨Code.quiet_builtin _ (by decide +kernel), codeAny_builtin F.entry_type_call ?_⟩
  rw [Around.under_plain (weight_type_call_type "set" [.ref l] []) rfl]
  have n1 := F.called_set.notType; have n2 := F.called_set.canCreate; have n3 := F.typeCall_set_1 (.ref l)
  repeat (any_goals (first | assumption | wp_step))
  refine codeAny_mono (code_set_led1 (.ref l) (E := E) (Q₁ := fun x s1 => x = .ref s.heap.objs.size ∧ s1 = { s with heap := s.heap.push { cls := .type "set", dict := none, data := .set #[] 0 (.fresh 0 0 (!w.params.followText "set-order")) } }) ⟨rfl, rfl⟩) fun r s1 z => ?_
  cases r with
  | error e => exact z
  | ok fl =>
    cases fl with
    | ret x =>
      obtain ⟨rfl, rfl⟩ := z
      have eS : (s.heap.push { cls := .type "set", dict := none, data := .set #[] 0 (.fresh 0 0 (!w.params.followText "set-order")) }).get? s.heap.objs.size = some { cls := .type "set", dict := none, data := .set #[] 0 (.fresh 0 0 (!w.params.followText "set-order")) } := Heap.get?_push_size _ rfl
      have tS : Shared.TypeIs { s with heap := s.heap.push { cls := .type "set", dict := none, data := .set #[] 0 (.fresh 0 0 (!w.params.followText "set-order")) } } (.ref s.heap.objs.size) "set" := ⟨_, eS, rfl⟩
      have n4 := F.called_set.init.lookup; have n5 := F.called_set.init.bind (.ref s.heap.objs.size)
      repeat (any_goals (first | assumption | wp_step))
      refine codeAny_mono (codeAny_call_builtin (R := wants (fun r s2 => r = .none ∧ ∃ g tk c, s2 = { s with heap := g, toks := tk } ∧ SetR w g s.heap.objs.size (fun j => decide (j ∈ ns)) c ∧ c ≤ ns.length ∧
          (∀ b o, s.heap.get? b = some o → g.get? b = some o)) E) F.called_set.init.plain F.entry_set_init (check_set_init_1 tS ?_)) fun r2 s2 z2 => ?_
      · obtain ⟨⟨c0, d0, da, sl⟩, eL, e1, nl, e2⟩ := lI
        simp only at e1 e2; subst e1; subst e2
        have eL1 : (s.heap.push { cls := .type "set", dict := none, data := .set #[] 0 (.fresh 0 0 (!w.params.followText "set-order")) }).get? l = some { cls := .type "list", dict := d0, data := .seq us nl, slots := sl } := Heap.get?_push_of_some _ eL
        have m1 := F.sub_list_set; have m2 := F.sub_list_frozenset
        have m3 : (Value.type "list" == Value.type "dict") = false := by decide
        have lI1 : (s.heap.push { cls := .type "set", dict := none, data := .set #[] 0 (.fresh 0 0 (!w.params.followText "set-order")) }).IsList l us := ⟨_, eL1, rfl, nl, rfl⟩
        unfold Builtin.«set.__init__» noKeywords Builtin.Frozenset.updateFrom
        generalize eP : pyIter = PI
        wp_walk
        subst eP
        refine wpAny_pyIter_list lI1 ?_
        refine wpAny_bind (wpAny_runValue ?_)
        have ltS : l < s.heap.objs.size := Heap.lt_size eL
        have n3H : A.in1.in1.in1.handled = none := by simp [nH]
        have zS : (s.heap.push { cls := .type "set", dict := none, data := .set #[] 0 (.fresh 0 0 (!w.params.followText "set-order")) }).objs.size = s.heap.objs.size + 1 := Heap.size_push ..
        have neI : l ≠ (s.heap.push { cls := .type "set", dict := none, data := .set #[] 0 (.fresh 0 0 (!w.params.followText "set-order")) }).objs.size := by rw [zS]; exact Nat.ne_of_lt (Nat.lt_succ_of_lt ltS)
        have nS : s.heap.objs.size ∉ [(s.heap.push { cls := .type "set", dict := none, data := .set #[] 0 (.fresh 0 0 (!w.params.followText "set-order")) }).objs.size, l] := by
          rw [zS]; simp only [List.mem_cons, List.not_mem_nil, or_false, not_or]; exact ⟨Nat.ne_of_lt (Nat.lt_succ_self _), Nat.ne_of_gt ltS⟩
        have vI : ∀ (i : Nat) (v : Value), us[i]? = some v → ∃ k t, ns[i]? = some k ∧ v = .int k t := fun i v ev => by
          have hi : i < ns.length := by rw [← zI]; exact (Array.getElem?_eq_some_iff.mp ev).1
          obtain ⟨t, e⟩ := PyProof.Rows.IntsAre.int_at iI i v (by rw [Array.getElem?_toList]; exact ev)
          exact ⟨ns[i], t, List.getElem?_eq_getElem hi, by rw [e, List.getD_eq_getElem?_getD, List.getElem?_eq_getElem hi] <;> rfl⟩
        refine set_update_ints ((Walks.list n3H _ l neI us).toS) s.heap.objs.size nS ns zI bI vI (us.size - 0) 0 _ (by omega) (Nat.zero_le _) ⟨⟨_, Heap.get?_push_size _ rfl, rfl, rfl⟩, (lI1.push _)⟩ ⟨0, Nat.le_refl 0, setR_new_at (Heap.get?_push_of_some _ eS)⟩ ?_
        rintro ⟨g, g2, d2, tk, os⟩ c2 mv hc R2
        have eg : g2 = s.gens := mv.gens; have ed : d2 = s.drawn := mv.drawn; have eo : os = s.os := mv.os
        subst eg ed eo
        show wpAny _ _ _ _ _ _
        refine wpAny_pure ?_
        show wpAny _ _ (ret Value.none) _ _ _
        rw [zI] at hc
        refine wpAny_pure ⟨rfl, g, tk, c2, rfl, R2, hc, fun b o e => ?_⟩
        have lb : b < s.heap.objs.size := Heap.lt_size e
        refine mv.heap b o ?_ (Heap.get?_push_of_some _ (Heap.get?_push_of_some _ e))
        rw [zS]; simp only [List.mem_cons, List.not_mem_nil, or_false, not_or]; exact ⟨Nat.ne_of_lt lb, Nat.ne_of_lt (Nat.lt_succ_of_lt lb)⟩
      · cases r2 with
        | error e => exact z2
        | ok fl2 =>
          cases fl2 with
          | ret r =>
            obtain ⟨rfl, g, tk, c2, rfl, R2, hc, k2⟩ := z2
            repeat (any_goals (first | assumption | wp_step))
            exact kQ _ _ _ R2 hc k2
          | _ => exact z2.elim
    | _ => exact z.elim
end
theorem setR_count {w : World} {h : Heap} {a : Addr} {ns : List Int} {c : Nat} (R : SetR w h a (fun j => decide (j ∈ ns)) c) : c = (setI ns).length := by
  obtain ⟨o, es, ep, t, ho, hx, hd, g, nd, hm, hb, hf, hn, _⟩ := R
  have p : (es.toList.map keyOf).Perm (setI ns) := (List.perm_ext_iff_of_nodup nd (lt_nodup (setI_lt ns))).mpr fun z => by rw [← hm z, decide_eq_true_eq, setI_mem]
  rw [← hn, ← p.length_eq, List.length_map, Array.length_toList]
/-- sorted(set(x)), x a list of fewer than 4000 ints, less than 64 of them unlike: a new list -/
def tSSet (K : PySem.W.Frag) (te : TE) : TE := fun σ H Q => te σ H fun v H1 => ∃ (a : Addr) (ns : List Int), v = .ref a ∧ SqL K H1 a (ns.map V.int) ∧ (ns.length < 4000 ∧ (setI ns).length < 64) ∧ ∀ q, H1 q = none → Q (.ref q) (upd H1 q (.lst ((setI ns).map V.int)))
section
variable [Tau] {ω : Wsh} {ε : XK} {X : Cx} {a : Expr} {oa : St → Hh → Out RV}
theorem pe_sset {e : Expr} {te : TE} {p p2 pos pos2 : Pos} (hc : X.calm = true) (hg : Gl X "sorted") (hm : X.mg "sorted" = none) (hg2 : Gl X "set") (hm2 : X.mg "set" = none) (he : PE X e te)
    (hs : starEach [e] X.env = (false, eval e X.env) :: starEach [] X.env := by rfl)
    (hs2 : starEach [.Call (.Name "set" p2) [e] [] pos2] X.env = (false, eval (.Call (.Name "set" p2) [e] [] pos2) X.env) :: starEach [] X.env := by rfl) :
    PE X (.Call (.Name "sorted" p) [.Call (.Name "set" p2) [e] [] pos2] [] pos) (tSSet X.K te) := by
  refine ⟨fun pins s σ H Q I h => ?_⟩
  refine Call_ (ld_blt I hg hm boot_sorted (PyProof.Rows.callWith_builtin1 (PyProof.Rows.args_cons (Call_ (ld_blt I hg2 hm2 boot_set (PyProof.Rows.callWith_type1 (PyProof.Rows.args_cons (thn (he.run pins s σ H _ I h) fun u s1 ⟨v, H1, I1, r1, q1⟩ => PyProof.Rows.args_nil ?_) hs) hs rfl))) hs2) hs2 rfl))
  obtain ⟨b, ns, rfl, sq, ⟨h40, h64⟩, q⟩ := q1
  cases r1
  obtain ⟨its, rv, pl, zz⟩ := I1.list sq
  refine call_setL ns (I1.ok.hd hc) pl.isList (ints_of_vals rv) (by unfold scanBound; omega) fun g tk c R hcn k => PyProof.Rows.args_nil ?_
  have I2 : Inv X pins σ H1 { s1 with heap := g, toks := tk } := I1.kept k
  have hcn2 : c < 64 := by rw [setR_count R]; exact h64
  have R2 : SetR X.w ({ s1 with heap := g, toks := tk } : Shared).heap s1.heap.objs.size (fun j => decide (j ∈ ns)) c := R
  generalize ({ s1 with heap := g, toks := tk } : Shared) = s2 at I2 R2
  generalize s1.heap.objs.size = sa at R2
  refine sorted_set R2 (I2.ok.hd hc) hcn2 fun s' p out cc ms kk gg oo hp hgt hi hsrt hmem hlen => ?_
  have em : ms = setI ns := perm_eq ((List.perm_ext_iff_of_nodup (lt_nodup hsrt) (lt_nodup (setI_lt ns))).mpr fun z => by rw [hmem z, decide_eq_true_eq, setI_mem]) (hsrt.imp fun z => Int.le_of_lt z) (setI_srt ns) fun x _ y _ z1 z2 => Int.le_antisymm z1 z2
  have hsz : (ms.map V.int).length ≤ sizeLine := by rw [List.length_map, hlen, sizeLine_eq]; omega
  have hpn : H1 p = none := I2.hok.fresh hp
  have J : L2.Inv X pins σ (upd H1 p (.lst (ms.map V.int))) { s2 with heap := s'.heap, gens := s'.gens, drawn := s'.drawn, toks := s'.toks } :=
    I2.call (ch := []) (Un.laid kk hp hpn) (I2.hok.laid kk hp ⟨hsz, out.toList, cc, vals_of_ints hi, hgt⟩) (by rw [gg]; exact I2.bare) (fun _ z => nomatch z)
  have e : s' = { s2 with heap := s'.heap, gens := s'.gens, drawn := s'.drawn, toks := s'.toks } := by
    cases s'; cases s2; cases oo; rfl
  rw [e]
  exact ⟨.ref p, _, J, rfl, by rw [em]; exact q p hpn⟩
/-- sorted(set(xs)) -/
theorem je_sset {x y : Str} {p p2 pos pos2 : Pos} (ex : x = "sorted") (ey : y = "set") (hc : X.calm = true) (hg : Gl X x) (hm : X.mg x = none) (hg2 : Gl X y) (hm2 : X.mg y = none) (n : noStar a = true) (ha : PE X a (TEr X.K ω oa)) :
    PE X (.Call (.Name x p) [.Call (.Name y p2) [a] [] pos2] [] pos) (TEr X.K ω fun st h => Py.bnd (oa st h) fun x h => match (lsOf h x).bind asInts with
    | some ns => if ns.length < 4000 ∧ (setI ns).length < 64 then .ok (.raw ((setI ns).map .int)) h else .fail
    | none => .fail) := by
  subst ex ey
  refine pe_imp (pe_sset hc hg hm hg2 hm2 ha (star_cons n) rfl) fun σ H Q ⟨φ, h, st, R, S, q⟩ => ?_
  refine ⟨φ, h, st, R, S, ?_⟩
  refine Post.seq q fun x h1 e1 q φ1 H1 v1 w1 R1 r1 => ?_
  have q := q.shR R w1 R1
  cases e : lsOf h1 x with
  | none => rw [e] at q; exact q.elim
  | some ds =>
    rw [e] at q
    cases ei : asInts ds with
    | none => rw [Option.bind_some, ei] at q; exact q.elim
    | some ns =>
      rw [Option.bind_some, ei] at q
      dsimp only at q
      obtain ⟨ad, xs, rfl, sq, rr⟩ := lsOf_ok R1 r1 e
      by_cases h64 : ns.length < 4000 ∧ (setI ns).length < 64
      · rw [if_pos h64] at q
        obtain rfl := asInts_ok rr ei
        exact ⟨ad, ns, rfl, sq, h64, fun p hp => raw_new R1 hp (vrs_ints _) q⟩
      · rw [if_neg h64] at q
        exact q.elim
end
end Py
/-! Core, part Z: a display of one pair whose key is a tuple. -/
namespace Py
open PySem PySem.Spec PyProof.Rows
open L2 hiding St start wipe
section
variable [Tau] {ω : Wsh} {ε : XK} {X : Cx} {pos : Pos}
def tD1 (X : Cx) (tk tv : TE) : TE := fun σ H Q => ∀ p, H p = none → tk σ (upd H p (DnO p [] 0)) fun x H1 => tv σ H1 fun y H2 => H2 p = some (DnO p [] 0) ∧
  ∃ (d : D) (b : Addr) (φ : List Addr), x = .ref b ∧ isKey d = true ∧ VR X.K φ H2 d (.ref b) ∧ ∀ c, Q (.ref p) (upd H2 p (DnO p [(d, b, y)] c))
theorem pe_disp1 {k v : Expr} {tk tv : TE} (hu : X.A.units + 9 < cLine) (hk : PE X k tk) (hv : PE X v tv) : PE X (.Dict [some k] [v] pos) (tD1 X tk tv) := by
  refine ⟨fun pins s σ H Q I q => ?_⟩
  have hn := I.hok.fresh (Nat.le_refl s.heap.objs.size)
  have I1 := I.laid (a := s.heap.objs.size) (o := DnO s.heap.objs.size [] 0) (h' := s.heap.push { cls := .type "dict", data := .dict #[] }) (t' := s.toks) (fun _ _ z => Heap.get?_push_of_some _ z) (Nat.le_refl _) (dn_empty s.heap I.big)
  rw [arm_eval_Dict, zip_pairTrees [some k] [v] X.env pos rfl rfl, dictDisplay_pairs (pairTrees [some k] [v] X.env pos) (by simp [pairTrees]) (by simp [pairTrees])]
  refine wpAny_bind (wpAny_standAt (wpAny_bind (wpAny_subDictH (knd := nestedKind X.prog X.w) (Q := fun d s' => wpAny (model X.prog X.w) X.A (pure (Value.ref d)) (EP X pins σ Q) X.xe s') (by show X.A.units + 8 < cLine; omega) (by simp [pairTrees]) ?_)))
  let Q2 : List (V × V) → Hp → Prop := fun ps H2 => match ps with
    | [(x, y)] => H2 s.heap.objs.size = some (DnO s.heap.objs.size [] 0) ∧ ∃ (d : D) (b : Addr) (φ : List Addr), x = .ref b ∧ isKey d = true ∧ VR X.K φ H2 d (.ref b) ∧ ∀ c, Q (.ref s.heap.objs.size) (upd H2 s.heap.objs.size (DnO s.heap.objs.size [(d, b, y)] c))
    | _ => False
  refine thn ((pps_cons (pos := pos) hk hv pps_nil).run pins _ σ _ Q2 I1 (q _ hn)) fun ws s2 ⟨ps, H2, I2, rel, q2⟩ => ?_
  match ps, rel, q2 with
  | [(x, y)], .cons (b := (u, r)) ⟨rx, ry⟩ .nil, ⟨e, d, b, φ, ex, ok, rd, q3⟩ =>
    subst ex
    obtain rfl : u = Value.ref b := rx
    have ry : RelV y r := ry
    obtain ⟨hs, hz, us, rv, dd⟩ := dn_at (φ := φ) (kvs := []) I2 e List.nodup_nil .nil
    cases rv
    refine ⟨[(nkD d, b, r)], ⟨rfl, rfl, key_is I2 rd ok, trivial⟩, dd, fun h' tk dd' sb => wpAny_pure ?_⟩
    have dd2 : h'.DictOfH (nestedKind X.prog X.w) s.heap.objs.size (tri [(d, b, y)] [r]) := dd'
    obtain ⟨ob, es, ep, ho, hx, hd, he, _⟩ := id dd2
    have hnew : ObjOk X.prog X.w (upd H2 s.heap.objs.size (DnO s.heap.objs.size [(d, b, y)] (ep - 1))) h' s.heap.objs.size (DnO s.heap.objs.size [(d, b, y)] (ep - 1)) := by
      refine ⟨⟨hs, by show 1 ≤ sizeLine; rw [sizeLine_eq]; omega, [r], .cons ry .nil, ob, es, ep, ho, hx, hd, ?_, by show (ep : Int) = 1 + ((ep : Int) - 1); omega⟩, ⟨ob, ho⟩, fun h1 h2 q k => ?_⟩
      · rw [he]
        show [(⟨(nkD d).hash X.w, _, _⟩ : DictEntry)] = [⟨hD d, _, _⟩]
        rw [hash_nk X.w 8 _ (isKey_D ok)]
      · obtain ⟨q1, q2, us, q3, o, es, ep, q4, q5⟩ := q
        exact ⟨q1, q2, us, q3, o, es, ep, k o q4, q5⟩
    exact ⟨.ref s.heap.objs.size, _, d_write (t' := tk) I2 (by rw [e]; exact True.intro) sb ⟨ob, ho⟩ hnew, rfl, q3 _⟩
/-- {k: v}, k a tuple -/
theorem je_d1 {ke ve : Expr} {ok ov : St → Hh → Out D} (hu : X.A.units + 9 < cLine) (hk : PE X ke (TDr X.K ω ok)) (hv : PE X ve (TDr X.K ω ov)) :
    PE X (.Dict [some ke] [ve] pos) (TEr X.K ω fun st h => Py.bnd (ok st h) fun k h => Py.bnd (ov st h) fun v h => if isKey k = true then .ok (.val (.ref h.length)) (h ++ [.dcn [(k, v)]]) else .fail) := by
  refine pe_imp (pe_disp1 hu hk hv) fun σ H Q ⟨φ, h, st, R, S, q⟩ p hp => ?_
  have w0 : WX φ H φ (upd H p (DnO p [] 0)) := WX.new hp
  have R0 : Rel X.K φ h (upd H p (DnO p [] 0)) := R.new hp
  have hn := R.notin hp
  refine ⟨φ, h, st, R0, S.mono R w0, ?_⟩
  refine Post.seqW q R w0 R0 fun kd h3 e1 q φ1 H1 x w1 R1 r1 => ?_
  have hp1 := w1.keep hn upd_same
  have hn1 := w1.notin hn upd_same
  have w01 := w0.trans R R0 w1
  refine ⟨φ1, h3, st, R1, S.mono R w01, ?_⟩
  refine Post.seqW q R w01 R1 fun vd h4 e2 q φ2 H2 y w2 R2 r2 => ?_
  have hp2 := w2.keep hn1 hp1
  have hn2 := w2.notin hn1 hp1
  have w02 := w01.trans R R1 w2
  by_cases ok : isKey kd = true
  · rw [if_pos ok] at q
    have rk : VR X.K φ2 H2 kd x := r1.mono R1 w2
    obtain ⟨b, rfl⟩ : ∃ b, x = V.ref b := by
      cases rk with
      | @tup ds b ys sq rr => exact ⟨b, rfl⟩
      | _ => cases ok
    refine ⟨hp2, kd, b, φ2, rfl, ok, rk, fun cc => ?_⟩
    have g := Py.growT (K := X.K) (v := DnO p [(kd, b, y)] cc) hp2 (Trk.dN p [] 0)
    have R3 := R2.growT (v := DnO p [(kd, b, y)] cc) hn2 hp2 (Trk.dN p [] 0)
    obtain ⟨ψ, f0, f1, k1, d1⟩ := w02
    refine q (φ2 ++ [p]) _ _ ⟨ψ ++ [p], by rw [f0, List.append_assoc], fun a ha => ?_, fun c o hb e => ?_, DnC.upd hp d1⟩ (R3.pushO hn2 ⟨[(kd, b, y)], cc, upd_same, by simp, ?_⟩) (VR.ref ?_)
    · rcases List.mem_append.mp ha with ha | ha
      · exact f1 a ha
      · rw [List.mem_singleton.mp ha]; exact hp
    · rw [upd_ne (ne_of_none e hp)]
      exact k1 c o hb e
    · exact .cons ⟨⟨ok, rfl⟩, rk.grow g, (show VR X.K φ2 H2 vd y from r2).grow g⟩ .nil
    · rw [List.getElem?_append_right (by rw [R2.len]; exact Nat.le_refl _), R2.len, Nat.sub_self]
      rfl
  · rw [if_neg ok] at q
    exact q.elim
/-! a display of two pairs -/
def tD2 (X : Cx) (tk tv tk2 tv2 : TE) : TE := fun σ H Q => ∀ p, H p = none → tk σ (upd H p (DnO p [] 0)) fun x H1 => tv σ H1 fun y H2 => tk2 σ H2 fun x2 H3 => tv2 σ H3 fun y2 H4 => H4 p = some (DnO p [] 0) ∧
  ∃ (d d2 : D) (b b2 : Addr) (φ : List Addr), x = .ref b ∧ x2 = .ref b2 ∧ isKey d = true ∧ isKey d2 = true ∧ VR X.K φ H4 d (.ref b) ∧ VR X.K φ H4 d2 (.ref b2) ∧ ∀ c, Q (.ref p) (upd H4 p (DnO p (putX [(d, b, y)] d2 b2 y2) c))
theorem pe_disp2 {k v k2 v2 : Expr} {tk tv tk2 tv2 : TE} (hu : X.A.units + 9 < cLine) (hk : PE X k tk) (hv : PE X v tv) (hk2 : PE X k2 tk2) (hv2 : PE X v2 tv2) : PE X (.Dict [some k, some k2] [v, v2] pos) (tD2 X tk tv tk2 tv2) := by
  refine ⟨fun pins s σ H Q I q => ?_⟩
  have hn := I.hok.fresh (Nat.le_refl s.heap.objs.size)
  have I1 := I.laid (a := s.heap.objs.size) (o := DnO s.heap.objs.size [] 0) (h' := s.heap.push { cls := .type "dict", data := .dict #[] }) (t' := s.toks) (fun _ _ z => Heap.get?_push_of_some _ z) (Nat.le_refl _) (dn_empty s.heap I.big)
  rw [arm_eval_Dict, zip_pairTrees [some k, some k2] [v, v2] X.env pos rfl rfl, dictDisplay_pairs (pairTrees [some k, some k2] [v, v2] X.env pos) (by simp [pairTrees]) (by simp [pairTrees])]
  refine wpAny_bind (wpAny_standAt (wpAny_bind (wpAny_subDictH (knd := nestedKind X.prog X.w) (Q := fun d s' => wpAny (model X.prog X.w) X.A (pure (Value.ref d)) (EP X pins σ Q) X.xe s') (by show X.A.units + 8 < cLine; omega) (by simp [pairTrees]) ?_)))
  let Q2 : List (V × V) → Hp → Prop := fun ps H2 => match ps with
    | [(x, y), (x2, y2)] => H2 s.heap.objs.size = some (DnO s.heap.objs.size [] 0) ∧ ∃ (d d2 : D) (b b2 : Addr) (φ : List Addr), x = .ref b ∧ x2 = .ref b2 ∧ isKey d = true ∧ isKey d2 = true ∧ VR X.K φ H2 d (.ref b) ∧ VR X.K φ H2 d2 (.ref b2) ∧ ∀ c, Q (.ref s.heap.objs.size) (upd H2 s.heap.objs.size (DnO s.heap.objs.size (putX [(d, b, y)] d2 b2 y2) c))
    | _ => False
  refine thn ((pps_cons (pos := pos) hk hv (pps_cons (pos := pos) hk2 hv2 pps_nil)).run pins _ σ _ Q2 I1 (q _ hn)) fun ws s2 ⟨ps, H2, I2, rel, q2⟩ => ?_
  rcases ps with _ | ⟨⟨x, y⟩, _ | ⟨⟨x2, y2⟩, _ | ⟨p3, pt⟩⟩⟩
  · exact q2.elim
  · exact q2.elim
  · obtain ⟨e, d, d2, b, b2, φ, ex, ex2, ok, ok2, rd, rd2, q3⟩ := q2
    cases rel with
    | @cons _ ur _ _ rp rt =>
    cases rt with
    | @cons _ ur2 _ _ rp2 rt2 =>
    cases rt2
    obtain ⟨u, r⟩ := ur
    obtain ⟨u2, r2⟩ := ur2
    obtain ⟨rx, ry⟩ := rp
    obtain ⟨rx2, ry2⟩ := rp2
    subst ex ex2
    obtain rfl : u = Value.ref b := rx
    obtain rfl : u2 = Value.ref b2 := rx2
    have ry : RelV y r := ry
    have ry2 : RelV y2 r2 := ry2
    obtain ⟨hs, hz, us, rv, dd⟩ := dn_at (φ := φ) (kvs := []) I2 e List.nodup_nil .nil
    cases rv
    refine ⟨[(nkD d, b, r), (nkD d2, b2, r2)], ⟨rfl, rfl, key_is I2 rd ok, rfl, rfl, key_is I2 rd2 ok2, trivial⟩, dd, fun h' tk dd' sb => wpAny_pure ?_⟩
    have keys : ∀ x ∈ [(d, b, y)], isKey x.1 = true := fun x hx => by rw [List.mem_singleton.mp hx]; exact ok
    obtain ⟨vs, rvs, ew⟩ := tri_put (b := b2) ok2 ry2 [(d, b, y)] [r] (.cons ry .nil) keys
    have dd2 : h'.DictOfH (nestedKind X.prog X.w) s.heap.objs.size (tri (putX [(d, b, y)] d2 b2 y2) vs) := by
      rw [← ew]
      exact dd'
    obtain ⟨ob, es, ep, ho, hx, hd, he, _⟩ := id dd2
    have keys2 : ∀ x ∈ putX [(d, b, y)] d2 b2 y2, isKey x.1 = true := fun x hx => by
      unfold putX at hx
      split at hx
      · obtain ⟨z, hz, rfl⟩ := List.mem_map.mp hx
        have := keys z hz
        split <;> exact this
      · rcases List.mem_append.mp hx with z | z
        · exact keys x z
        · rw [List.mem_singleton.mp z]; exact ok2
    have len2 : (putX [(d, b, y)] d2 b2 y2).length ≤ 2 := by
      unfold putX
      split <;> simp
    have hnew : ObjOk X.prog X.w (upd H2 s.heap.objs.size (DnO s.heap.objs.size (putX [(d, b, y)] d2 b2 y2) ((ep : Int) - (putX [(d, b, y)] d2 b2 y2).length))) h' s.heap.objs.size (DnO s.heap.objs.size (putX [(d, b, y)] d2 b2 y2) ((ep : Int) - (putX [(d, b, y)] d2 b2 y2).length)) := by
      refine ⟨⟨hs, by rw [sizeLine_eq]; omega, vs, rvs, ob, es, ep, ho, hx, hd, ?_, by omega⟩, ⟨ob, ho⟩, fun h1 h2 q k => ?_⟩
      · rw [he]
        unfold tri
        rw [List.map_map]
        refine List.map_congr_left fun p hm => ?_
        show (⟨(nkD p.1.1).hash X.w, _, _⟩ : DictEntry) = ⟨hD p.1.1, _, _⟩
        rw [hash_nk X.w 8 _ (isKey_D (keys2 _ (List.of_mem_zip hm).1))]
      · obtain ⟨q1, q2, us, q3, o, es, ep, q4, q5⟩ := q
        exact ⟨q1, q2, us, q3, o, es, ep, k o q4, q5⟩
    exact ⟨.ref s.heap.objs.size, _, d_write (t' := tk) I2 (by rw [e]; exact True.intro) sb ⟨ob, ho⟩ hnew, rfl, q3 _⟩
  · exact q2.elim
theorem key_ref {φ : List Addr} {H : Hp} {kd : D} {x : V} (ok : isKey kd = true) (r : VR X.K φ H kd x) : ∃ b, x = V.ref b := by
  cases r with
  | @tup ds b ys sq rr => exact ⟨b, rfl⟩
  | _ => cases ok
/-- {k: v, k2: v2}, the keys tuples -/
theorem je_d2 {ke ve ke2 ve2 : Expr} {o1 o2 o3 o4 : St → Hh → Out D} (hu : X.A.units + 9 < cLine) (hk : PE X ke (TDr X.K ω o1)) (hv : PE X ve (TDr X.K ω o2)) (hk2 : PE X ke2 (TDr X.K ω o3)) (hv2 : PE X ve2 (TDr X.K ω o4)) :
    PE X (.Dict [some ke, some ke2] [ve, ve2] pos) (TEr X.K ω fun st h => Py.bnd (o1 st h) fun k h => Py.bnd (o2 st h) fun v h => Py.bnd (o3 st h) fun k2 h => Py.bnd (o4 st h) fun v2 h => if isKey k = true ∧ isKey k2 = true then .ok (.val (.ref h.length)) (h ++ [.dcn (dput [(k, v)] k2 v2)]) else .fail) := by
  refine pe_imp (pe_disp2 hu hk hv hk2 hv2) fun σ H Q ⟨φ, h, st, R, S, q⟩ p hp => ?_
  have w0 : WX φ H φ (upd H p (DnO p [] 0)) := WX.new hp
  have R0 : Rel X.K φ h (upd H p (DnO p [] 0)) := R.new hp
  have hn := R.notin hp
  refine ⟨φ, h, st, R0, S.mono R w0, ?_⟩
  refine Post.seqW q R w0 R0 fun kd h3 e1 q φ1 H1 x w1 R1 r1 => ?_
  have hp1 := w1.keep hn upd_same
  have hn1 := w1.notin hn upd_same
  have w01 := w0.trans R R0 w1
  refine ⟨φ1, h3, st, R1, S.mono R w01, ?_⟩
  refine Post.seqW q R w01 R1 fun vd h4 e2 q φ2 H2 y w2 R2 r2 => ?_
  have hp2 := w2.keep hn1 hp1
  have hn2 := w2.notin hn1 hp1
  have w02 := w01.trans R R1 w2
  refine ⟨φ2, h4, st, R2, S.mono R w02, ?_⟩
  refine Post.seqW q R w02 R2 fun kd2 h5 e3 q φ3 H3 x2 w3 R3 r3 => ?_
  have hp3 := w3.keep hn2 hp2
  have hn3 := w3.notin hn2 hp2
  have w03 := w02.trans R R2 w3
  refine ⟨φ3, h5, st, R3, S.mono R w03, ?_⟩
  refine Post.seqW q R w03 R3 fun vd2 h6 e4 q φ4 H4 y2 w4 R4 r4 => ?_
  have hp4 := w4.keep hn3 hp3
  have hn4 := w4.notin hn3 hp3
  have w04 := w03.trans R R3 w4
  by_cases ok : isKey kd = true ∧ isKey kd2 = true
  · rw [if_pos ok] at q
    have rk : VR X.K φ4 H4 kd x := ((r1.mono R1 w2).mono R2 w3).mono R3 w4
    have rk2 : VR X.K φ4 H4 kd2 x2 := r3.mono R3 w4
    have rv : VR X.K φ4 H4 vd y := (VR.mono R2 w3 (show VR X.K φ2 H2 vd y from r2)).mono R3 w4
    have rv2 : VR X.K φ4 H4 vd2 y2 := r4
    obtain ⟨b, rfl⟩ := key_ref ok.1 rk
    obtain ⟨b2, rfl⟩ := key_ref ok.2 rk2
    refine ⟨hp4, kd, kd2, b, b2, φ4, rfl, rfl, ok.1, ok.2, rk, rk2, fun cc => ?_⟩
    have g := Py.growT (K := X.K) (v := DnO p (putX [(kd, b, y)] kd2 b2 y2) cc) hp4 (Trk.dN p [] 0)
    have R5 := R4.growT (v := DnO p (putX [(kd, b, y)] kd2 b2 y2) cc) hn4 hp4 (Trk.dN p [] 0)
    have d1 : DNs X.K φ4 H4 [(kd, vd)] [(kd, b, y)] := .cons ⟨⟨ok.1, rfl⟩, rk, rv⟩ .nil
    have hp := d1.put ok.2 rk2 rv2
    obtain ⟨ψ, f0, f1, k1, dd1⟩ := w04
    refine q (φ4 ++ [p]) _ _ ⟨ψ ++ [p], by rw [f0, List.append_assoc], fun a ha => ?_, fun c o hb e => ?_, DnC.upd ‹H p = none› dd1⟩ (R5.pushO hn4 ⟨putX [(kd, b, y)] kd2 b2 y2, cc, upd_same, dput_keys (by simp), ?_⟩) (VR.ref ?_)
    · rcases List.mem_append.mp ha with ha | ha
      · exact f1 a ha
      · rw [List.mem_singleton.mp ha]; exact ‹H p = none›
    · rw [upd_ne (ne_of_none e ‹H p = none›)]
      exact k1 c o hb e
    · exact Paired.mapP hp fun _ _ z => ⟨z.1, z.2.1.grow g, z.2.2.grow g⟩
    · rw [List.getElem?_append_right (by rw [R4.len]; exact Nat.le_refl _), R4.len, Nat.sub_self]
      rfl
  · rw [if_neg ok] at q
    exact q.elim
end
/-! min and max of a list of data, with and without a default -/
theorem od_eq {a b : D} (o : Od a b) (oa : Od a a) (e : pdD a = pdD b) : a = b := by
  have h1 := o.eq
  have h2 := oa.eq
  rw [← e, h2] at h1
  exact (D.eqB_iff a b).mp (h1 ▸ (D.eqB_iff a a).mpr rfl)
theorem minD_mem : ∀ (ds : List D) (d : D), Py.minD d ds ∈ d :: ds
  | [], d => List.mem_singleton.mpr rfl
  | e :: es, d => by
    have i := minD_mem es (if ltD e d = true then e else d)
    rw [Py.minD]
    rcases List.mem_cons.mp i with z | z
    · rw [z]
      split
      · exact List.mem_cons_of_mem _ List.mem_cons_self
      · exact List.mem_cons_self
    · exact List.mem_cons_of_mem _ (List.mem_cons_of_mem _ z)
theorem maxD_mem : ∀ (ds : List D) (d : D), Py.maxD d ds ∈ d :: ds
  | [], d => List.mem_singleton.mpr rfl
  | e :: es, d => by
    have i := maxD_mem es (if ltD d e = true then e else d)
    rw [Py.maxD]
    rcases List.mem_cons.mp i with z | z
    · rw [z]
      split
      · exact List.mem_cons_of_mem _ List.mem_cons_self
      · exact List.mem_cons_self
    · exact List.mem_cons_of_mem _ (List.mem_cons_of_mem _ z)
theorem min_pd : ∀ (ds : List D) (d : D), (∀ a ∈ d :: ds, ∀ b ∈ d :: ds, Od a b) → W.minD (pdD d) (ds.map pdD) = pdD (Py.minD d ds)
  | [], d, _ => rfl
  | e :: es, d, o => by
    have l := (o e (List.mem_cons_of_mem _ List.mem_cons_self) d List.mem_cons_self).lt
    have i := min_pd es (if ltD e d = true then e else d) fun a ha b hb => by
      have sub : ∀ c, c ∈ (if ltD e d = true then e else d) :: es → c ∈ d :: e :: es := fun c hc => by
        rcases List.mem_cons.mp hc with z | z
        · rw [z]
          split
          · exact List.mem_cons_of_mem _ List.mem_cons_self
          · exact List.mem_cons_self
        · exact List.mem_cons_of_mem _ (List.mem_cons_of_mem _ z)
      exact o a (sub a ha) b (sub b hb)
    rw [Py.minD, ← i]
    unfold W.minD
    rw [List.map_cons, List.foldl_cons, l]
    congr 1
    split <;> rfl
theorem max_pd : ∀ (ds : List D) (d : D), (∀ a ∈ d :: ds, ∀ b ∈ d :: ds, Od a b) → W.maxD (pdD d) (ds.map pdD) = pdD (Py.maxD d ds)
  | [], d, _ => rfl
  | e :: es, d, o => by
    have l := (o d List.mem_cons_self e (List.mem_cons_of_mem _ List.mem_cons_self)).lt
    have i := max_pd es (if ltD d e = true then e else d) fun a ha b hb => by
      have sub : ∀ c, c ∈ (if ltD d e = true then e else d) :: es → c ∈ d :: e :: es := fun c hc => by
        rcases List.mem_cons.mp hc with z | z
        · rw [z]
          split
          · exact List.mem_cons_of_mem _ List.mem_cons_self
          · exact List.mem_cons_self
        · exact List.mem_cons_of_mem _ (List.mem_cons_of_mem _ z)
      exact o a (sub a ha) b (sub b hb)
    rw [Py.maxD, ← i]
    unfold W.maxD
    rw [List.map_cons, List.foldl_cons, l]
    congr 1
    split <;> rfl
def mxName (mx : Bool) : Str := if mx = true then "max" else "min"
/-- the asked call's premise: x a list at v, the default's value in zs -/
def rBst [Tau] (K : PySem.W.Frag) (mx : Bool) : List V → List V → Hp → VK → Prop := fun vs zs H Q => ∃ φ h x v Ha dd, vs = [v] ∧ zs.length ≤ 1 ∧ Rel K φ h H ∧ VRR K φ H Ha x v ∧ VRs K φ H dd zs ∧ ∃ ε, Post K ε φ H (BR K H) (bestO mx dd (lsOf h x) h) Q
section
variable [Tau] {ω : Wsh} {ε : XK} {X : Cx} {K : PySem.W.Frag} {φ : List Addr} {h : Hh} {H : Hp} {a : Expr} {oa : St → Hh → Out RV}
theorem reads_all {s : Shared} : ∀ {us : List Value} {ds : List D}, W.EachIs (fun u d => ∃ as, Reads s.heap u (pdD d) as) us ds → ∃ as, ReadsAll s.heap us (ds.map pdD) as
  | _, _, .nil => ⟨_, .nil⟩
  | _, _, .cons ⟨as, r⟩ t => by
    obtain ⟨bs, q⟩ := reads_all t
    exact ⟨_, .cons r q⟩
theorem vals_get : ∀ {xs : List V} {us : List Value} {i : Nat} {u : Value}, Vals xs us → us[i]? = some u → ∃ x, xs[i]? = some x ∧ RelV x u
  | _, _, 0, _, .cons r _, e => by cases e; exact ⟨_, rfl, r⟩
  | _, _, i + 1, _, .cons _ t, e => vals_get (i := i) t e
theorem vrs_back : ∀ {ds : List D} {vs : List V} {i : Nat} {v : V}, VRs K φ H ds vs → vs[i]? = some v → ∃ d, ds[i]? = some d ∧ VR K φ H d v
  | _, _, 0, _, .cons r _, e => by cases e; exact ⟨_, rfl, r⟩
  | _, _, i + 1, _, .cons _ t, e => vrs_back (i := i) t e
theorem bestOk_of {ds : List D} (k : bestOk ds = true) : (∀ d ∈ ds, srtI 8 d = true) ∧ ∀ a ∈ ds, ∀ b ∈ ds, Od a b := by
  unfold bestOk at k
  simp only [Bool.and_eq_true, List.all_eq_true] at k
  exact ⟨k.1, fun a ha b hb => od_of 8 a b (k.1 a ha) (k.1 b hb) (k.2 a ha b hb)⟩
theorem call_best (mx : Bool) (hu : X.A.units + 128 < cLine) (hc : X.calm = true) {pins : List (Addr × Obj)} {s : Shared} {σ : L2.St} {x : RV} {v : V} {Ha : Hp} {us : List Value} {dd : List D} {zs : List V} {ws : List Value} {Q : VK} (hz : ws = [] ∨ ∃ w, ws = [w]) (I : L2.Inv X pins σ H s) (R : Rel X.K φ h H) (r : VRR X.K φ H Ha x v) (ru : Vals [v] us) (rd : VRs X.K φ H dd zs) (rz : Vals zs ws)
    (q : Post X.K ε φ H (BR X.K H) (bestO mx dd (lsOf h x) h) Q) : wpAny (model X.prog X.w) X.A (call (.builtin (if mx = true then "max" else "min")) us ([Str.ofString "default"].zip ws)) (EP X pins σ Q) X.xe s := by
  unfold bestO at q
  cases ru with
  | cons r0 rt =>
  cases rt
  split at q
  · rename_i e1
    obtain ⟨a, ys, rfl, sq, r1⟩ := lsOf_ok R r e1
    cases r1
    cases r0
    obtain ⟨its, rv, pl, hzz⟩ := I.list sq
    cases rv
    split at q
    · rename_i d
      cases rd with
      | @cons _ z _ _ r2 t2 =>
      cases t2
      cases rz with
      | @cons _ w _ _ r3 t3 =>
      cases t3
      have fin : ∀ h' tk, (∀ b o, s.heap.get? b = some o → h'.get? b = some o) → EP X pins σ Q w { s with heap := h', toks := tk } := fun h' tk kk => ⟨z, H, I.kept kk, r3, q.here R r2⟩
      have al : W.AlikeAll [] := ⟨fun x hx => absurd hx (by simp), fun x hx => absurd hx (by simp)⟩
      cases mx with
      | true => exact W.max_list_default (I.ok.hd hc) pl.isList (ReadsAll.nil) al (by show X.A.units + 1 + 0 < cLine; omega) (fun _ => fin) (fun y ys i v h' tk bs e => by cases e)
      | false => exact W.min_list_default (I.ok.hd hc) pl.isList (ReadsAll.nil) al (by show X.A.units + 1 + 0 < cLine; omega) (fun _ => fin) (fun y ys i v h' tk bs e => by cases e)
    · exact q.elim
  · rename_i d ds e1
    split at q
    · rename_i ok
      obtain ⟨a, ys, rfl, sq, r1⟩ := lsOf_ok R r e1
      cases r0
      obtain ⟨its, rv, pl, hzz⟩ := I.list sq
      obtain ⟨k1, od⟩ := bestOk_of ok
      obtain ⟨as, ra⟩ := reads_all (each_of I r1 rv k1).2
      have al : W.AlikeAll ((d :: ds).map pdD) := by
        refine ⟨fun x hx y hy => ?_, fun x hx => ?_⟩
        · obtain ⟨p, hp, rfl⟩ := List.mem_map.mp hx
          obtain ⟨q, hq, rfl⟩ := List.mem_map.mp hy
          exact (od p hp q hq).al
        · obtain ⟨p, hp, rfl⟩ := List.mem_map.mp hx
          rcases srtI_cases (k1 p hp) with ⟨i, rfl⟩ | ⟨m, es, _, rfl, _⟩ <;> simp [pdD]
      have hdep : PyData.depthAll ((d :: ds).map pdD) ≤ 8 := by
        have key : ∀ l : List D, (∀ p ∈ l, srtI 8 p = true) → PyData.depthAll (l.map pdD) ≤ 8 := by
          intro l
          induction l with
          | nil => exact fun _ => by simp [PyData.depthAll]
          | cons a l ih =>
            intro hl
            have i := ih fun p hp => hl p (List.mem_cons_of_mem _ hp)
            have j := depth_of 8 a (hl a List.mem_cons_self)
            rw [List.map_cons]
            simp only [PyData.depthAll]
            omega
        exact key _ k1
      have fin : ∀ (e : D), e ∈ d :: ds → ∀ (i : Nat) v h' tk bs, its.toArray[i]? = some v → Reads h' v (pdD e) bs → (∀ b o, s.heap.get? b = some o → h'.get? b = some o) → Post X.K ε φ H (BR X.K H) (.ok (.val e) h) Q → EP X pins σ Q v { s with heap := h', toks := tk } := fun e he i v h' tk bs ei rd kk q => by
        have ei2 : its[i]? = some v := by simpa using ei
        obtain ⟨y, ey, ry⟩ := vals_get rv ei2
        obtain ⟨di, edi, rdi⟩ := vrs_back r1 ey
        have hdi := List.mem_of_getElem? edi
        obtain ⟨cs, rc⟩ := Dp.reads I _ _ _ (pd_ok 8 di _ rdi (k1 di hdi)) ry
        have same : pdD e = pdD di := (reads_det (fun b o g _ => kk b o g) rc rd).1
        have eq : di = e := od_eq (od di hdi e he) (od di hdi di hdi) same.symm
        subst eq
        exact ⟨y, H, I.kept kk, ry, q.here R rdi⟩
      rcases hz with rfl | ⟨w, rfl⟩
      · cases mx with
        | true =>
          refine W.max_list_data (I.ok.hd hc) pl.isList (x := pdD d) (xs := ds.map pdD) (by simpa using ra) al (by rw [List.map_cons] at hdep; omega) fun i v h' tk bs ei rd kk => ?_
          rw [max_pd ds d od] at rd
          exact fin _ (maxD_mem ds d) i v h' tk bs ei rd kk q
        | false =>
          refine W.min_list_data (I.ok.hd hc) pl.isList (x := pdD d) (xs := ds.map pdD) (by simpa using ra) al (by rw [List.map_cons] at hdep; omega) fun i v h' tk bs ei rd kk => ?_
          rw [min_pd ds d od] at rd
          exact fin _ (minD_mem ds d) i v h' tk bs ei rd kk q
      · cases mx with
        | true =>
          refine W.max_list_default (I.ok.hd hc) pl.isList (xs := pdD d :: ds.map pdD) (by simpa using ra) al (by rw [List.map_cons] at hdep; omega) (fun z => by cases z) fun y ys i v h' tk bs ey ei rd kk => ?_
          cases ey
          rw [max_pd ds d od] at rd
          exact fin _ (maxD_mem ds d) i v h' tk bs ei rd kk q
        | false =>
          refine W.min_list_default (I.ok.hd hc) pl.isList (xs := pdD d :: ds.map pdD) (by simpa using ra) al (by rw [List.map_cons] at hdep; omega) (fun z => by cases z) fun y ys i v h' tk bs ey ei rd kk => ?_
          cases ey
          rw [min_pd ds d od] at rd
          exact fin _ (minD_mem ds d) i v h' tk bs ei rd kk q
    · exact q.elim
  · exact q.elim
theorem mx_boot (mx : Bool) : bootBuiltins (mxName mx) = some (.builtin (if mx = true then "max" else "min")) := by cases mx <;> rfl
/-- min(xs), max(xs) -/
theorem je_best {mx : Bool} {x : Str} {p pos : Pos} (hu : X.A.units + 128 < cLine) (hc : X.calm = true) (ex : x = mxName mx) (hg : Gl X x) (hm : X.mg x = none) (n : noStar a = true) (ha : PE X a (TEr X.K ω oa)) :
    PE X (.Call (.Name x p) [a] [] pos) (TEr X.K ω fun st h => Py.bnd (oa st h) fun x h => bestO mx [] (lsOf h x) h) := by
  have call : CallR X (.builtin (if mx = true then "max" else "min")) fun vs H Q => rBst X.K mx vs [] H Q := by
    intro pins s σ H vs us Q I ru ⟨φ, h, x, v, Ha, dd, ev, _, R, r, rd, ε, q⟩
    subst ev
    have := call_best mx hu hc (ws := []) (.inl rfl) I R r ru rd .nil q
    exact this
  refine pe_imp (pe_callB call hg hm (by rw [ex]; exact mx_boot mx) (pa_cons ha pa_nil (star_cons n)) (by rw [ex]; cases mx <;> decide) (by rw [ex]; cases mx <;> decide) (star_cons n) rfl) fun σ H Q ⟨φ, h, st, R, S, q⟩ => ?_
  refine ⟨φ, h, st, R, S, ?_⟩
  refine Post.seq q fun x h1 e1 q φ1 H1 v1 w1 R1 r1 => ?_
  exact ⟨φ1, h1, x, v1, _, [], rfl, by decide, R1, r1, .nil, _, q.shR R w1 R1⟩
/-- min(xs, default=d), max(xs, default=d) -/
theorem je_bestd {mx : Bool} {x y : Str} {p pos kpos : Pos} {d : Expr} {od : St → Hh → Out D} (hu : X.A.units + 128 < cLine) (hc : X.calm = true) (ex : x = mxName mx) (ey : y = "default") (hg : Gl X x) (hm : X.mg x = none) (n : noStar a = true) (ha : PE X a (TEr X.K ω oa)) (hd : PE X d (TDr X.K ω od)) :
    PE X (.Call (.Name x p) [a] [⟨some y, d, kpos⟩] pos) (TEr X.K ω fun st h => Py.bnd (oa st h) fun x h => Py.bnd (od st h) fun v h => bestO mx [v] (lsOf h x) h) := by
  subst ey
  have call : CallRK X (.builtin (if mx = true then "max" else "min")) [Str.ofString "default"] (rBst X.K mx) := by
    intro pins s σ H xs zs us ws Q I ru rz ⟨φ, h, x, v, Ha, dd, ev, hl, R, r, rd, ε, q⟩
    subst ev
    refine call_best mx hu hc ?_ I R r ru rd rz q
    have e := rz.length
    match ws, e with
    | [], _ => exact .inl rfl
    | [w], _ => exact .inr ⟨w, rfl⟩
    | _ :: _ :: _, e => simp only [List.length_cons] at e; omega
  refine pe_imp (pe_callBK call hg hm (by rw [ex]; exact mx_boot mx) (pa_cons ha pa_nil (star_cons n)) (pk_cons hd pk_nil) (by rw [ex]; cases mx <;> decide) (by rw [ex]; cases mx <;> decide) (by rw [star_cons n]; rfl) (by rw [star_cons n]; rfl)) fun σ H Q ⟨φ, h, st, R, S, q⟩ => ?_
  refine ⟨φ, h, st, R, S, ?_⟩
  refine Post.seq q fun x h1 e1 q φ1 H1 v1 w1 R1 r1 => ?_
  refine ⟨φ1, h1, st, R1, S.mono R w1, ?_⟩
  refine Post.seq (q.shR R w1 R1) fun dv h2 e2 q φ2 H2 v2 w2 R2 r2 => ?_
  exact ⟨φ2, h2, x, v1, _, [dv], rfl, Nat.le_refl _, R2, r1.mono R1 w2, .cons r2 .nil, _, q.shR R1 w2 R2⟩
/-! len(set(xs)) of tuples of ints; list(range(n)) -/
theorem tups_of {K : PySem.W.Frag} {φ : List Addr} {H : Hp} : ∀ {ds : List D} {vs : List V} {kss : List (List Int)}, VRs K φ H ds vs → asTups ds = some kss → ∃ ks : List (Addr × List Int), vs = ks.map (fun p => V.ref p.1) ∧ ks.map (·.2) = kss ∧ ∀ p ∈ ks, SqT K H p.1 (p.2.map V.int)
  | _, _, _, .nil, e => by
    cases e
    exact ⟨[], rfl, rfl, fun p hp => by simp at hp⟩
  | d :: ds, v :: vs, kss, .cons r t, e => by
    unfold asTups allSome at e
    cases r with
    | @tup es b ys sq rr =>
      cases e1 : asInts es with
      | none => simp only [e1] at e; cases e
      | some ns =>
        cases e2 : asTups ds with
        | none =>
          unfold asTups at e2
          simp only [e1, e2] at e; cases e
        | some kss2 =>
          obtain ⟨ks, h1, h2, h3⟩ := tups_of t e2
          unfold asTups at e2
          simp only [e1, e2] at e
          cases e
          have ev := asInts_ok rr e1
          refine ⟨(b, ns) :: ks, by rw [h1]; rfl, by rw [List.map_cons, h2], fun p hp => ?_⟩
          rcases List.mem_cons.mp hp with rfl | z
          · rw [ev] at sq
            exact sq
          · exact h3 p z
    | _ => cases e
theorem ddT_mem : ∀ {ks : List (List Int)} {k : List Int}, k ∈ ddT ks ↔ k ∈ ks
  | [], k => by simp [ddT]
  | x :: xs, k => by
    rw [ddT]
    split
    · rw [ddT_mem, List.mem_cons]
      exact ⟨.inr, fun z => z.elim (fun y => by rw [y]; assumption) id⟩
    · rw [List.mem_cons, List.mem_cons, ddT_mem]
theorem ddT_nd : ∀ ks : List (List Int), (ddT ks).Nodup
  | [] => List.nodup_nil
  | x :: xs => by
    rw [ddT]
    split
    · exact ddT_nd xs
    · exact List.nodup_cons.mpr ⟨fun z => by rw [ddT_mem] at z; contradiction, ddT_nd xs⟩
def tLSetT (K : PySem.W.Frag) (te : TE) : TE := fun σ H Q => te σ H fun x H1 => (∃ (l : Addr) (ns : List Int), x = V.ref l ∧ SqL K H1 l (ns.map V.int) ∧ ns.length < 4000 ∧ Q (.int (setI ns).length) H1) ∨
  ∃ (l : Addr) (ks : List (Addr × List Int)), x = V.ref l ∧ SqL K H1 l (ks.map fun p => V.ref p.1) ∧ (∀ p ∈ ks, SqT K H1 p.1 (p.2.map V.int)) ∧ ks.length < 64 ∧ Q (.int (ddT (ks.map (·.2))).length) H1
theorem pe_lset {e : Expr} {te : TE} {p p2 pos pos2 : Pos} (hu : X.A.units + 128 < cLine) (hc : X.calm = true) (hg : Gl X "len") (hm : X.mg "len" = none) (hg2 : Gl X "set") (hm2 : X.mg "set" = none) (he : PE X e te)
    (hs : starEach [e] X.env = (false, eval e X.env) :: starEach [] X.env := by rfl) : PE X (.Call (.Name "len" p) [.Call (.Name "set" p2) [e] [] pos2] [] pos) (tLSetT X.K te) := by
  refine ⟨fun pins s σ H Q I h => ?_⟩
  refine Call_ (ld_blt I hg hm PySem.boot_len (PyProof.Rows.callWith_builtin1 (PyProof.Rows.args_cons (Call_ (ld_blt I hg2 hm2 PyProof.Rows.boot_set (PyProof.Rows.callWith_type1 (PyProof.Rows.args_cons (thn (he.run pins s σ H _ I h) fun u s1 ⟨v, H1, I1, r1, q1⟩ => PyProof.Rows.args_nil ?_) hs) hs rfl))) rfl) rfl rfl))
  rcases q1 with ⟨l, ns, rfl, sq, h40, q⟩ | ⟨l, ks, rfl, sq, hk, h64, q⟩
  · cases r1
    obtain ⟨its, rv, pl, zz⟩ := I1.list sq
    refine call_setL ns (I1.ok.hd hc) pl.isList (ints_of_vals rv) (by unfold scanBound; omega) fun g tk c R hcn k => PyProof.Rows.args_nil ?_
    have I2 : Inv X pins σ H1 { s1 with heap := g, toks := tk } := I1.kept k
    have ec := setR_count R
    obtain ⟨o, es, ep, t, ho, hx, hd, _, _, _, hb, hf, hn, _⟩ := R
    have el : es.size = (setI ns).length := by rw [hn, ec]
    refine call_len_set ho hx hd hf (by unfold scanBound at hb; omega) ⟨.int es.size, H1, I2.tok _, ⟨_, rfl⟩, by rw [el]; exact q⟩
  · cases r1
    obtain ⟨its, rv, pl, zz⟩ := I1.list sq
    refine call_set_tups (P := X.prog) (w := X.w) ks (I1.ok.hd hc) pl.isList (by simpa using refs_of_vals rv) (fun p hp => I1.isT (hk p hp)) h64 (by omega) fun h' tk L es ep t R g k => PyProof.Rows.args_nil ?_
    have I2 : Inv X pins σ H1 { s1 with heap := h', toks := tk } := I1.kept k
    obtain ⟨o, ho, hex, hd⟩ := R.ob
    have hl : es.size = L.length := by
      have := congrArg List.length R.rows
      rw [Array.length_toList] at this
      rw [this]
      unfold rowsOf
      rw [List.length_map]
    have pm : (L.map (·.2)).Perm (ddT (ks.map (·.2))) := (List.perm_ext_iff_of_nodup R.nd (ddT_nd _)).mpr fun z => by
      rw [ddT_mem]
      constructor
      · intro hz
        obtain ⟨p, hp, rfl⟩ := List.mem_map.mp hz
        exact List.mem_map_of_mem (List.mem_of_mem_take (g.sub p hp))
      · intro hz
        obtain ⟨p, hp, rfl⟩ := List.mem_map.mp hz
        exact g.all p (by rw [List.take_length]; exact hp)
    have el : es.size = (ddT (ks.map (·.2))).length := by rw [hl, ← pm.length_eq, List.length_map]
    have few := R.few
    refine call_len_set ho hex hd (SetTR.fits (s := { s1 with heap := h', toks := tk }) R) (by omega) ⟨.int es.size, H1, I2.tok _, ⟨_, rfl⟩, by rw [el]; exact q⟩
theorem je_lset {x y : Str} {p p2 pos pos2 : Pos} (hu : X.A.units + 128 < cLine) (ex : x = "len") (ey : y = "set") (hc : X.calm = true) (hg : Gl X x) (hm : X.mg x = none) (hg2 : Gl X y) (hm2 : X.mg y = none) (n : noStar a = true) (ha : PE X a (TEr X.K ω oa)) :
    PE X (.Call (.Name x p) [.Call (.Name y p2) [a] [] pos2] [] pos) (TEr X.K ω fun st h => Py.bnd (oa st h) fun x h => match (lsOf h x).bind asInts with
    | some ns => if ns.length < 4000 then .ok (.val (.int (setI ns).length)) h else .fail
    | none => match (lsOf h x).bind asTups with
      | some ks => if ks.length < 64 then .ok (.val (.int (ddT ks).length)) h else .fail
      | none => .fail) := by
  subst ex ey
  refine pe_imp (pe_lset hu hc hg hm hg2 hm2 ha (star_cons n)) fun σ H Q ⟨φ, h, st, R, S, q⟩ => ?_
  refine ⟨φ, h, st, R, S, ?_⟩
  refine Post.seq q fun x h1 e1 q φ1 H1 v1 w1 R1 r1 => ?_
  have q := q.shR R w1 R1
  split at q
  · rename_i ns e2
    split at q
    · rename_i h40
      obtain ⟨ds, e3, e4⟩ := Option.bind_eq_some_iff.mp e2
      obtain ⟨l, ys, rfl, sq, rr⟩ := lsOf_ok R1 r1 e3
      rw [asInts_ok rr e4] at sq
      exact .inl ⟨l, ns, rfl, sq, h40, q.here R1 (VR.int _)⟩
    · exact q.elim
  split at q
  · rename_i kss e2
    split at q
    · rename_i l64
      obtain ⟨ds, e3, e4⟩ := Option.bind_eq_some_iff.mp e2
      obtain ⟨l, ys, rfl, sq, rr⟩ := lsOf_ok R1 r1 e3
      obtain ⟨ks, rfl, rfl, hk⟩ := tups_of rr e4
      exact .inr ⟨l, ks, rfl, sq, hk, by rw [List.length_map] at l64; exact l64, q.here R1 (VR.int _)⟩
    · exact q.elim
  · exact q.elim
theorem je_lrg {x y : Str} {p p2 pos pos2 : Pos} (ex : x = "list") (ey : y = "range") (hc : X.calm = true) (hg : Gl X x) (hm : X.mg x = none) (hg2 : Gl X y) (hm2 : X.mg y = none) (n : noStar a = true) (ha : PE X a (TEr X.K ω oa)) :
    PE X (.Call (.Name x p) [.Call (.Name y p2) [a] [] pos2] [] pos) (TEr X.K ω fun st h => Py.bnd (oa st h) fun x h => match x with
    | .val (.int j) => if 0 ≤ j ∧ j ≤ 16777216 then .ok (.raw (rng 0 j.toNat)) h else .fail
    | _ => .fail) := by
  subst ex ey
  refine pe_imp (pe_listRg hc hg hm (prg_1 hg2 hm2 ha (star_cons n)) rfl) fun σ H Q ⟨φ, h, st, R, S, q⟩ => ?_
  refine ⟨φ, h, st, R, S, ?_⟩
  refine Post.seq q fun x h1 e1 q φ1 H1 v1 w1 R1 r1 => ?_
  have q := q.shR R w1 R1
  split at q
  · rename_i _ j _
    split at q
    · rename_i hj
      obtain rfl := r1.int
      refine ⟨j, rfl, RgOk.of_le (by decide) hj.2 (by decide) hj.1, fun z hz => raw_new R1 hz ?_ q⟩
      have key : ∀ l : List Nat, VRs X.K φ1 H1 (l.map fun i => D.int (0 + (i : Nat))) (l.map fun i => V.int (0 + (i : Nat))) := fun l => by
        induction l with
        | nil => exact .nil
        | cons i l ih => exact .cons (.int _) ih
      show VRs X.K φ1 H1 (rng 0 j.toNat) (rgV 0 j)
      unfold rng rgV
      rw [Int.sub_zero]
      exact key _
    · exact q.elim
  · exact q.elim
end
end Py
/-! Core, part 1: dicts with tuple keys walked. -/
namespace Py
open PySem PySem.Spec PyProof.Rows
open L2 hiding St start wipe
/-- the keys of the dict at d, n of them, as long as none comes -/
def ItKN (d : Addr) (n : Nat) (c : Int) : It :=
  ⟨fun i H => DnC H d c ∧ (∃ ys e, H d = some (DnO d ys e) ∧ ys.length = n) ∧ i < n,
   fun i H x H' => H' = H ∧ ∀ ys e, H d = some (DnO d ys e) → ∃ y, ys[i]? = some y ∧ x = .ref y.2.1,
   fun i H => DnC H d c ∧ (∃ ys e, H d = some (DnO d ys e) ∧ ys.length = n) ∧ n ≤ i⟩
/-- .. the pairs, each a new tuple -/
def ItIN (d : Addr) (n : Nat) (c : Int) : It :=
  ⟨fun i H => DnC H d c ∧ (∃ ys e, H d = some (DnO d ys e) ∧ ys.length = n) ∧ i < n,
   fun i H x H' => ∃ T, x = .ref T ∧ H T = none ∧ ∀ ys e, H d = some (DnO d ys e) → ∃ y, ys[i]? = some y ∧ H' = upd H T (.tup [.ref y.2.1, y.2.2]),
   fun i H => DnC H d c ∧ (∃ ys e, H d = some (DnO d ys e) ∧ ys.length = n) ∧ n ≤ i⟩
def backV : Value → V
  | .none => .non
  | .bool b => .bl b
  | .int i _ => .int i
  | .str x _ => .str x
  | .bytes b _ => .byt b
  | .float b _ => .flt b
  | .ref a => .ref a
  | .type n => .ty n
  | _ => .non
theorem back_ok {a : V} {u : Value} (h : L2.RelV a u) : backV u = a := by
  cases a <;> first
    | (obtain rfl : u = _ := h; rfl)
    | (obtain ⟨t, rfl⟩ := h; rfl)
theorem relV_inj {a b : V} {u : Value} (h : L2.RelV a u) (g : L2.RelV b u) : a = b := (back_ok h).symm.trans (back_ok g)
section
variable [Tau] {ω : Wsh} {ε : XK} {X : Cx} {pins : List (Addr × Obj)} {σ : L2.St} {H : Hp} {s : Shared} {a : Addr} {xs : List (D × Addr × V)} {c : Int}
/-- a dict's entries, as they stand -/
theorem dn_raw (I : Inv X pins σ H s) (e : H a = some (DnO a xs c)) : (a == sysModules) = false ∧ ∃ es ep, s.heap.DictRaw a es ep ∧ es.size = xs.length ∧ ((ep : Nat) : Int) = (xs.length : Nat) + c ∧ es.size ≤ sizeLine ∧
    ∀ ys e', H a = some (DnO a ys e') → ∀ i (hi : i < es.size), ∃ y, ys[i]? = some y ∧ es[i].key = .ref y.2.1 ∧ RelV y.2.2 es[i].val := by
  obtain ⟨⟨hs, hz, us, rv, o, es, ep, ho, hx, hd, he, hc⟩, _⟩ := (show ObjOk X.prog X.w H s.heap a (DnO a xs c) from I.hok a _ e)
  have l1 : es.toList.length = xs.length := by rw [he, List.length_map, List.length_zip, ← rv.length, List.length_map, Nat.min_self]
  have l1 : es.size = xs.length := by rw [← l1, Array.length_toList]
  refine ⟨hs, es, ep, ⟨o, ho, hx, hd⟩, l1, hc, by rw [l1]; exact hz, fun ys e' e2 i hi => ?_⟩
  obtain ⟨⟨_, _, us2, rv2, o2, es2, ep2, ho2, _, hd2, he2, hc2⟩, _⟩ := (show ObjOk X.prog X.w H s.heap a (DnO a ys e') from I.hok a _ e2)
  rw [ho] at ho2
  cases ho2
  rw [hd] at hd2
  cases hd2
  have l2 : es.size = ys.length := by rw [l1]; exact (dn_count I e e2).2
  have lu : ys.length = us2.length := by rw [← rv2.length, List.length_map]
  have hy : i < ys.length := by omega
  have hu : i < us2.length := by omega
  have g1 : es.toList[i]? = some es[i] := by rw [Array.getElem?_toList, Array.getElem?_eq_getElem hi]
  rw [he2, List.getElem?_map, List.getElem?_eq_getElem (by rw [List.length_zip]; omega), Option.map_some, List.getElem_zip] at g1
  have g1 := Option.some.inj g1
  refine ⟨ys[i], List.getElem?_eq_getElem hy, by rw [← g1], ?_⟩
  obtain ⟨u, h1, h2⟩ := rv2.get (show (ys.map (·.2.2))[i]? = some ys[i].2.2 by rw [List.getElem?_map, List.getElem?_eq_getElem hy]; rfl)
  rw [List.getElem?_eq_getElem hu] at h1
  cases h1
  rw [← g1]
  exact h2
end
section
variable {P : Program} {w : World} {K : PySem.W.Frag} {tg : Expr} {d : Addr} {ep n : Nat} {c : Int}
theorem turn_keysN (it : Addr) (hep : ((ep : Nat) : Int) = (n : Nat) + c) : Turn P w K tg (ItKN d n c) [it] it (fun i h => h.IsKeyIter it d i n ep) where
  mem := by simp
  obj := fun i h st b hb => by
    have e : b = it := by simpa using hb
    subst e
    obtain ⟨oi, e, c, dd⟩ := st
    exact ⟨oi, e, fun v z => by rw [dd] at z; cases z⟩
  keep := fun i h h' st k => st.at fun oi e => k it (by simp) oi e
  item := by
    intro X hP hw hK hc i pins s σ H E I hf st ⟨⟨zs, ez⟩, ⟨ys, e', ey, hl⟩, hi⟩
    subst hP hw hK
    obtain ⟨f0, f1, f2, f3, f4, f5⟩ := hf it (by simp)
    obtain ⟨hs, es, ep1, hm, l1, c1, _, ent⟩ := dn_raw I ez
    have lz : zs.length = n := (dn_count I ez ey).2.trans hl
    have le : es.size = n := l1.trans lz
    obtain rfl : ep1 = ep := by omega
    rw [← le] at st
    have hi' : i < es.size := by omega
    refine wpAny_pyNext_keys_item_raw st hm hi' fun h' st' sb => ?_
    have I1 : Inv X pins σ H { s with heap := h' } := I.turned (t' := s.toks) (fun b ob hb e => (sb.2 b hb).trans e) f0 f1 f3 f4 f5
    obtain ⟨oi, e, c, dd⟩ := id st'
    rw [le] at st'
    obtain ⟨y, _, ek, _⟩ := ent ys e' ey i hi'
    refine ⟨es[i].key, rfl, go_of (s := { s with heap := h' }) e c dd (by decide) ⟨.ref y.2.1, H, I1, ek, ⟨rfl, fun ys2 e2 ey2 => ?_⟩, st', fun b hb => (hf b hb).1⟩⟩
    obtain ⟨y2, h1, h2, _⟩ := ent ys2 e2 ey2 i hi'
    rw [ek] at h2
    injection h2 with h2
    exact ⟨y2, h1, by rw [h2]⟩
  done := by
    intro X hP hw hK hc i pins s σ H E I hf st ⟨⟨zs, ez⟩, ⟨ys, e', ey, hl⟩, hi⟩
    subst hP hw hK
    obtain ⟨f0, f1, f2, f3, f4, f5⟩ := hf it (by simp)
    obtain ⟨hs, es, ep1, hm, l1, c1, _, ent⟩ := dn_raw I ez
    have lz : zs.length = n := (dn_count I ez ey).2.trans hl
    have le : es.size = n := l1.trans lz
    obtain rfl : ep1 = ep := by omega
    rw [← le] at st
    exact wpAny_pyNext_keys_end_raw (I.ok.hd hc) st hm (by omega) fun h' eb => ⟨rfl, I.turned (t' := s.toks) (fun b ob hb e => eb b ob hb e) f0 f1 f3 f4 f5⟩
  self := fun A i s Q E st h => by
    refine wpAny_pyIter_slot st.typeIs F.slot_dict_keyiterator_iter (wpAny_call_entry F.slot_dict_keyiterator_iter st.typeIs F.entry_dict_keyiterator_iter ?_ (F.args_dict_keyiterator_iter_1 _))
    show wpAny _ _ (ret (.ref it)) _ _ s
    exact wpAny_pure ⟨_, rfl, "dict_keyiterator", _, st.typeIs, F.slot_dict_keyiterator_next.lookup, h⟩
theorem turn_itemsN {elts : List Expr} {kk : Nat} {tpos : Pos} (it : Addr) (hep : ((ep : Nat) : Int) = (n : Nat) + c) :
    Turn P w K (.Tuple elts kk tpos) (ItIN d n c) [it] it (fun i h => ∃ ok ov, IsItemIter h it d i n ep ok ov) where
  mem := by simp
  obj := fun i h st b hb => by
    have e : b = it := by simpa using hb
    subst e
    obtain ⟨ok, ov, e⟩ := st
    exact ⟨_, e, fun v z => nomatch z⟩
  keep := fun i h h' st k => let ⟨ok, ov, e⟩ := st; ⟨ok, ov, k it (by simp) _ e⟩
  item := by
    intro X hP hw hK hc i pins s σ H E I hf st ⟨⟨zs, ez⟩, ⟨ys, e', ey, hl⟩, hi⟩
    subst hP hw hK
    obtain ⟨hs, es, ep1, hm, l1, c1, _, ent⟩ := dn_raw I ez
    have lz : zs.length = n := (dn_count I ez ey).2.trans hl
    have le : es.size = n := l1.trans lz
    obtain rfl : ep1 = ep := by omega
    obtain ⟨ok, ov, he⟩ := st
    rw [← le] at he
    have hi' : i < es.size := by omega
    have hlt : it < s.heap.objs.size := Heap.lt_size he
    obtain ⟨y, hy, ek, ev⟩ := ent ys e' ey i hi'
    refine wpAny_pyNext_items_item_raw he hm hi' fun h' ho hT hz hk => ?_
    refine ⟨_, rfl, wpAny_letOwnedTupleGo_items (s := { s with heap := h' }) ho fun h'' he' sb => ?_⟩
    have hT2 : h''.get? s.heap.objs.size = some { cls := .type "tuple", data := .seq #[es[i].key, es[i].val] } := (sb.2 _ (Nat.ne_of_gt hlt)).trans hT
    have new : ObjOk X.prog X.w (upd H s.heap.objs.size (.tup [.ref y.2.1, y.2.2])) h'' s.heap.objs.size (.tup [.ref y.2.1, y.2.2]) :=
      ⟨by show 2 ≤ sizeLine; decide, [es[i].key, es[i].val], .cons ek (.cons ev .nil), ⟨_, hT2, rfl, _, rfl⟩⟩
    have I1 : Inv X pins σ (upd H s.heap.objs.size (.tup [.ref y.2.1, y.2.2])) { s with heap := h'' } :=
      I.turnedNew (t' := s.toks) (ch := [it]) (fun b ob hb e => (sb.2 b (by simpa using hb)).trans (hk b ob (by simpa using hb) e)) hf (Nat.le_refl _) new
    refine ⟨.ref s.heap.objs.size, _, I1, rfl, ⟨_, rfl, I.hok.fresh (Nat.le_refl _), fun ys2 e2 ey2 => ?_⟩, ⟨es[i].key, es[i].val, ?_⟩, fun b hb => ?_⟩
    · obtain ⟨y2, h1, h2, h3⟩ := ent ys2 e2 ey2 i hi'
      rw [ek] at h2
      injection h2 with h2
      exact ⟨y2, h1, by rw [h2, relV_inj ev h3]⟩
    · rw [le] at he'
      exact he'
    · have e : b = it := by simpa using hb
      rw [e, upd_ne (Nat.ne_of_lt hlt)]
      exact (hf it (by simp)).1
  done := by
    intro X hP hw hK hc i pins s σ H E I hf st ⟨⟨zs, ez⟩, ⟨ys, e', ey, hl⟩, hi⟩
    subst hP hw hK
    obtain ⟨f0, f1, f2, f3, f4, f5⟩ := hf it (by simp)
    obtain ⟨hs, es, ep1, hm, l1, c1, _, ent⟩ := dn_raw I ez
    have lz : zs.length = n := (dn_count I ez ey).2.trans hl
    have le : es.size = n := l1.trans lz
    obtain rfl : ep1 = ep := by omega
    obtain ⟨ok, ov, he⟩ := st
    rw [← le] at he
    exact wpAny_pyNext_items_end_raw (I.ok.hd hc) he hm (by omega) fun h' eb => ⟨rfl, I.turned (t' := s.toks) (fun b ob hb e => eb b ob hb e) f0 f1 f3 f4 f5⟩
  self := fun A i s Q E st h => let ⟨_, _, e⟩ := st; PySem.W.kcp_self e h
end
def iKeysN (td : TE) : TI := fun σ H R => td σ H fun x H1 => ∃ d xs c, x = .ref d ∧ H1 d = some (DnO d xs c) ∧ R (ItKN d xs.length c) H1
def iItemsN (td : TE) : TI := fun σ H R => td σ H fun x H1 => ∃ d xs c, x = .ref d ∧ H1 d = some (DnO d xs c) ∧ R (ItIN d xs.length c) H1
section
variable [Tau] {ω : Wsh} {ε : XK} {X : Cx} {tg e : Expr} {td : TE} {apos cpos : Pos}
theorem pi_keysN (he : PE X e td) : PI X tg e (iKeysN td) := by
  refine ⟨fun pins s σ H R I h => ?_⟩
  refine thn (he.run pins s σ H _ I h) fun u s1 ⟨x, H1, I1, rx, d, xs, c, ex, hd, q⟩ => ?_
  subst ex
  obtain rfl : u = Value.ref d := rx
  obtain ⟨hs, es, ep, hm, l1, c1, hz, _⟩ := dn_raw I1 hd
  refine wpAny_pyIter_dict_raw hs hm (pi_one (tk := s1.toks) I1 _ (turn_keysN _ c1) ⟨_, Heap.get?_push_size _ rfl, rfl, ?_⟩ q)
  rw [l1] <;> rfl
theorem pi_itemsN {elts : List Expr} {kk : Nat} {tpos : Pos} (he : PE X e td) (hbase : attributeBase e "items" X.env (eval e X.env) = eval e X.env) (hline : (apos.endLine == cpos.line) = true) :
    PI X (.Tuple elts kk tpos) (.Call (.Attribute e "items" apos) [] [] cpos) (iItemsN td) := by
  refine ⟨fun pins s σ H R I h => ?_⟩
  refine wpAny_Call_method (T := "dict") (id := "dict.items") hbase rfl hline F.plainAttrs_dict F.slot_dict_items F.type_dict_items (thn (he.run pins s σ H _ I h) fun u s1 ⟨x, H1, I1, rx, d, xs, c, ex, hd, q⟩ => ?_)
  subst ex
  obtain rfl : u = Value.ref d := rx
  obtain ⟨hs, es, ep, hm, l1, c1, hz, _⟩ := dn_raw I1 hd
  refine ⟨hm.typeIs, ?_, ?_⟩
  · obtain ⟨o, ho, hx, _⟩ := hm
    exact fun b q => by cases q; exact ⟨o, ho, hx.2.1⟩
  have I2 : Inv X pins σ H1 { s1 with heap := s1.heap.push { cls := .type "dict_items", data := .fields #[.ref d] } } := I1.kept (t' := s1.toks) fun b ob q => Heap.get?_push_of_some _ q
  have fin : wpAny (model X.prog X.w) X.A (pyIter (.ref s1.heap.objs.size)) (PIE X pins σ (.Tuple elts kk tpos) R) X.xe { s1 with heap := s1.heap.push { cls := .type "dict_items", data := .fields #[.ref d] } } := by
    refine wpAny_pyIter_items_raw (d := d) ⟨_, Heap.get?_push_size _ rfl, rfl, rfl⟩ (hm.push _) (pi_one (tk := s1.toks) I2 _ (turn_itemsN _ c1) ⟨.none, .none, ?_⟩ q)
    rw [← l1]
    exact Heap.get?_push_size _ rfl
  show wpAny _ _ (callWith cpos (.builtin "dict.items") [.ref d] [] []) _ X.xe s1
  exact method_meetsIn F.slot_dict_items F.entry_dict_items rfl (PySem.evalArgs_none ⟨rfl, hm.typeIs, F.args_dict_items_1 _, _, meets_dict_items_raw d hs, ⟨es, ep, hm⟩, fin⟩)
end
/-! by the evaluator -/
section
variable [Tau] {ω : Wsh} {ε : XK} {X : Cx} {K : PySem.W.Frag} {φ φ0 φ1 : List Addr} {h h1 : Hh} {H H0 H1 : Hp} {st : St} {σ : L2.St} {a : Addr} {k : Nat} {kvs : List (D × D)} {xs : List (D × Addr × V)} {c : Int} {e tg : Expr} {oa : St → Hh → Out RV} {pos apos p : Pos}
theorem DNs.at (r : DNs K φ H kvs xs) {i : Nat} {p : D × D} (e : kvs[i]? = some p) {y : D × Addr × V} (ey : xs[i]? = some y) : VR K φ H p.1 (.ref y.2.1) ∧ VR K φ H p.2 y.2.2 := by
  obtain ⟨y', e2, h⟩ := paired_get r e
  rw [ey] at e2
  cases e2
  exact h.2
theorem dn_there (R1 : Rel K φ1 h1 H1) (ea : φ1[k]? = some a) (e : H1 a = some (DnO a xs c)) (lx : xs.length = kvs.length) {φ' : List Addr} {h' : Hh} {H' : Hp} (w : WX φ1 H1 φ' H') (R : Rel K φ' h' H') (s : still [(k, O.dcn kvs)] h') :
    DnC H' a c ∧ ∃ ys e', H' a = some (DnO a ys e') ∧ ys.length = xs.length ∧ DNs K φ' H' kvs ys := by
  obtain ⟨ys, e', q, n, r⟩ := R.obj k _ a (s _ List.mem_cons_self) (w.get ea)
  refine ⟨?_, ys, e', q, ?_, r⟩
  · obtain ⟨_, _, _, _, kp⟩ := w
    rcases kp.1 a c ⟨xs, e⟩ with z | ⟨zs, z⟩
    · exact z
    · rw [q] at z
      exact absurd z (by intro y; cases y)
  · rw [lx]
    exact (DNs.length r).symm
theorem wk_keysN (R1 : Rel K φ1 h1 H1) (ea : φ1[k]? = some a) (e : H1 a = some (DnO a xs c)) (lx : xs.length = kvs.length) : Wk K φ1 H1 (ItKN a xs.length c) (kvs.map (·.1)) [(k, O.dcn kvs)] where
  go := fun φ' h' H' i d w R s ed => by
    obtain ⟨dc, ys, e', q, ly, r⟩ := dn_there R1 ea e lx w R s
    obtain ⟨p, ep, rfl⟩ : ∃ p, kvs[i]? = some p ∧ p.1 = d := by
      rw [List.getElem?_map] at ed
      cases z : kvs[i]? with
      | none => rw [z] at ed; cases ed
      | some p => rw [z] at ed; cases ed; exact ⟨p, rfl, rfl⟩
    have hi := (List.getElem?_eq_some_iff.mp ep).1
    refine ⟨⟨dc, ⟨ys, e', q, ly⟩, by omega⟩, fun x H2 ⟨eh, f⟩ => ?_⟩
    subst eh
    obtain ⟨y, ey, rfl⟩ := f ys e' q
    exact ⟨WX.refl, R, (r.at ep ey).1⟩
  stop := fun φ' h' H' w R s => by
    obtain ⟨dc, ys, e', q, ly, r⟩ := dn_there R1 ea e lx w R s
    exact ⟨dc, ⟨ys, e', q, ly⟩, by rw [List.length_map]; omega⟩
theorem wk_itemsN (R1 : Rel K φ1 h1 H1) (ea : φ1[k]? = some a) (e : H1 a = some (DnO a xs c)) (lx : xs.length = kvs.length) : Wk K φ1 H1 (ItIN a xs.length c) (kvs.map fun p => .tup [p.1, p.2]) [(k, O.dcn kvs)] where
  go := fun φ' h' H' i d w R s ed => by
    obtain ⟨dc, ys, e', q, ly, r⟩ := dn_there R1 ea e lx w R s
    obtain ⟨p, ep, rfl⟩ : ∃ p, kvs[i]? = some p ∧ .tup [p.1, p.2] = d := by
      rw [List.getElem?_map] at ed
      cases z : kvs[i]? with
      | none => rw [z] at ed; cases ed
      | some p => rw [z] at ed; cases ed; exact ⟨p, rfl, rfl⟩
    have hi := (List.getElem?_eq_some_iff.mp ep).1
    refine ⟨⟨dc, ⟨ys, e', q, ly⟩, by omega⟩, fun x H2 ⟨T, ex, hT, f⟩ => ?_⟩
    subst ex
    obtain ⟨y, ey, eh⟩ := f ys e' q
    exact pair_new R hT (r.at ep ey).1 (r.at ep ey).2 eh
  stop := fun φ' h' H' w R s => by
    obtain ⟨dc, ys, e', q, ly, r⟩ := dn_there R1 ea e lx w R s
    exact ⟨dc, ⟨ys, e', q, ly⟩, by rw [List.length_map]; omega⟩
theorem ji_keys (he : PE X e (TEr X.K ω oa)) : PI X tg e (TIr X.K ω fun st h => Py.bnd (oa st h) fun x h => match keysOf x h with
    | some p => .ok p h
    | none => .fail) := pi_imp (pi_keysN he) fun σ H Rr ⟨φ, h, st, R, S, q⟩ => by
  refine ⟨φ, h, st, R, S, ?_⟩
  refine Post.seq q fun x h1 e1 eo φ1 H1 v1 w1 R1 r1 => ?_
  unfold keysOf at eo
  split at eo
  · rename_i p' eo'
    split at eo'
    · rename_i k
      split at eo'
      · rename_i kvs e2
        cases eo'
        cases (r1 : VR X.K φ1 H1 _ v1) with
        | @ref _ a ea =>
          obtain ⟨xs, c, z, n, r⟩ := R1.obj k _ a e2 ea
          exact ⟨a, xs, c, rfl, z, eo φ1 H1 _ w1 R1 (wk_keysN R1 ea z (DNs.length r).symm)⟩
      · cases eo'
    · cases eo'
  · exact eo.elim
theorem ji_items {elts : List Expr} {tpos : Pos} {kk : Nat} (he : PE X e (TEr X.K ω oa)) (hbase : attributeBase e "items" X.env (eval e X.env) = eval e X.env) (hline : (apos.endLine == pos.line) = true) :
    PI X (.Tuple elts kk tpos) (.Call (.Attribute e "items" apos) [] [] pos) (TIr X.K ω fun st h => Py.bnd (oa st h) fun x h => match itemsOf x h with
    | some p => .ok p h
    | none => .fail) := pi_imp (pi_itemsN he hbase hline) fun σ H Rr ⟨φ, h, st, R, S, q⟩ => by
  refine ⟨φ, h, st, R, S, ?_⟩
  refine Post.seq q fun x h1 e1 eo φ1 H1 v1 w1 R1 r1 => ?_
  unfold itemsOf at eo
  split at eo
  · rename_i p' eo'
    split at eo'
    · rename_i k
      split at eo'
      · rename_i kvs e2
        cases eo'
        cases (r1 : VR X.K φ1 H1 _ v1) with
        | @ref _ a ea =>
          obtain ⟨xs, c, z, n, r⟩ := R1.obj k _ a e2 ea
          exact ⟨a, xs, c, rfl, z, eo φ1 H1 _ w1 R1 (wk_itemsN R1 ea z (DNs.length r).symm)⟩
      · cases eo'
    · cases eo'
  · exact eo.elim
end

/-! ### dict(pairs) -/
def putsX (xs ps : List (D × Addr × V)) : List (D × Addr × V) := ps.foldl (fun acc p => putX acc p.1 p.2.1 p.2.2) xs
section
variable [Tau] {ω : Wsh} {ε : XK} {X : Cx} {K : PySem.W.Frag} {φ φ1 : List Addr} {h h1 : Hh} {H H1 : Hp} {xs ps : List (D × Addr × V)} {us vs : List Value} {kvs : List (D × D)}
theorem putX_keys {d : D} {b : Addr} {v : V} (hd : isKey d = true) (k : ∀ x ∈ xs, isKey x.1 = true) : ∀ x ∈ putX xs d b v, isKey x.1 = true := by
  unfold putX
  split
  · intro x hx
    obtain ⟨y, hy, rfl⟩ := List.mem_map.mp hx
    split <;> exact k y hy
  · intro x hx
    rcases List.mem_append.mp hx with z | z
    · exact k x z
    · rw [List.mem_singleton.mp z]; exact hd
theorem tri_puts : ∀ (ps xs : List (D × Addr × V)) (us vs : List Value), Vals (xs.map (·.2.2)) us → Vals (ps.map (·.2.2)) vs → (∀ x ∈ xs, isKey x.1 = true) → (∀ x ∈ ps, isKey x.1 = true) →
    ∃ ws, Vals ((putsX xs ps).map (·.2.2)) ws ∧ storedAllH (tri xs us) (tri ps vs) = tri (putsX xs ps) ws ∧ ∀ x ∈ putsX xs ps, isKey x.1 = true
  | [], xs, us, vs, ru, rv, kx, _ => ⟨us, ru, by cases rv; rfl, kx⟩
  | p :: ps, xs, us, vs, ru, rv, kx, kp => by
    rw [List.map_cons] at rv
    cases rv with
    | @cons _ u _ vs r t =>
      have hd := kp p List.mem_cons_self
      obtain ⟨ws, rw1, e1⟩ := tri_put (b := p.2.1) hd r xs us ru kx
      obtain ⟨ws2, r2, e2, k2⟩ := tri_puts ps (putX xs p.1 p.2.1 p.2.2) ws vs rw1 t (putX_keys hd kx) fun x hx => kp x (List.mem_cons_of_mem _ hx)
      refine ⟨ws2, r2, ?_, k2⟩
      rw [tri_cons]
      show storedAllH (storedH (tri xs us) (nkD p.1) p.2.1 u) (tri ps vs) = _
      rw [e1, e2]
      rfl
theorem puts_len : ∀ (ps xs : List (D × Addr × V)), (putsX xs ps).length ≤ xs.length + ps.length
  | [], _ => Nat.le_refl _
  | p :: ps, xs => by
    have h1 := puts_len ps (putX xs p.1 p.2.1 p.2.2)
    have h2 : (putX xs p.1 p.2.1 p.2.2).length ≤ xs.length + 1 := by
      unfold putX
      split
      · rw [List.length_map]; omega
      · rw [List.length_append]; simp
    show (putsX (putX xs p.1 p.2.1 p.2.2) ps).length ≤ _
    rw [List.length_cons]
    omega
theorem DNs.puts : ∀ {kps : List (D × D)} {ps : List (D × Addr × V)} {kvs : List (D × D)} {xs : List (D × Addr × V)}, DNs K φ H kvs xs → DNs K φ H kps ps → DNs K φ H (mergeD kvs kps) (putsX xs ps)
  | _, _, _, _, r, .nil => r
  | _, _, _, _, r, .cons (a := p) (b := q) z t => by
    obtain ⟨⟨z1, z2⟩, z3, z4⟩ := z
    have := DNs.puts (r.put z1 z3 z4) t
    rw [z2] at this
    show DNs K φ H (mergeD (dput _ p.1 p.2) _) (putsX (putX _ q.1 q.2.1 q.2.2) _)
    rw [z2]
    exact this
theorem merge_keys : ∀ (kps kvs : List (D × D)), (kvs.map (·.1)).Nodup → ((mergeD kvs kps).map (·.1)).Nodup
  | [], _, n => n
  | p :: kps, kvs, n => merge_keys kps (dput kvs p.1 p.2) (dput_keys n)
theorem key_ref1 {kd : D} {x : V} (ok : isKey kd = true) (r : VR K φ H kd x) : ∃ b, x = V.ref b := by
  cases r with
  | @tup ds b ys sq rr => exact ⟨b, rfl⟩
  | _ => cases ok
/-- the pairs' tuples -/
theorem prs_of : ∀ {ds : List D} {vs : List V} {kps : List (D × D)}, VRs K φ H ds vs → asPrs ds = some kps → ∃ (Ts : List Addr) (ps : List (D × Addr × V)), vs = Ts.map V.ref ∧ Paired (fun T (p : D × Addr × V) => SqT K H T [.ref p.2.1, p.2.2]) Ts ps ∧ DNs K φ H kps ps
  | _, _, _, .nil, e => by
    cases e
    exact ⟨[], [], rfl, .nil, .nil⟩
  | d :: ds, v :: vs, kps, .cons r t, e => by
    unfold asPrs allSome at e
    split at e
    · rename_i x xs e1 e2
      cases e
      split at e1
      · rename_i k w
        split at e1
        · rename_i ok
          cases e1
          obtain ⟨Ts, ps, rfl, h1, h2⟩ := prs_of t e2
          cases r with
          | @tup _ T ys sq rr =>
            cases rr with
            | @cons _ y1 _ _ r1 rr =>
              cases rr with
              | @cons _ y2 _ _ r2 rr =>
                cases rr
                obtain ⟨b, rfl⟩ := key_ref1 ok r1
                exact ⟨T :: Ts, (k, b, y2) :: ps, rfl, .cons sq h1, .cons ⟨⟨ok, rfl⟩, r1, r2⟩ h2⟩
        · cases e1
      · cases e1
    · cases e
theorem prs_at {pins : List (Addr × Obj)} {σ : L2.St} {s : Shared} (I : Inv X pins σ H s) : ∀ {Ts : List Addr} {ps : List (D × Addr × V)}, Paired (fun T (p : D × Addr × V) => SqT X.K H T [.ref p.2.1, p.2.2]) Ts ps →
    ∃ us, Vals (ps.map (·.2.2)) us ∧ ∀ (j : Nat) (p : D × Addr × V) (u : Value), ps[j]? = some p → us[j]? = some u → ∃ T, Ts[j]? = some T ∧ IsTup s.heap T #[.ref p.2.1, u]
  | _, _, .nil => ⟨[], .nil, fun j p u e => by simp at e⟩
  | _, _, .cons (a := T) (b := p) h t => by
    obtain ⟨us, r, hp⟩ := prs_at I t
    obtain ⟨its, rv, ht, _⟩ := I.tuple h
    obtain ⟨u, y, ei, ru, ry⟩ := vals2 rv
    subst ei
    cases (show u = Value.ref p.2.1 from ru)
    refine ⟨y :: us, .cons ry r, fun j q w e1 e2 => ?_⟩
    cases j with
    | zero =>
      cases (Option.some.inj e1 : p = q)
      cases (Option.some.inj e2 : y = w)
      exact ⟨T, rfl, ht⟩
    | succ j =>
      obtain ⟨T', h1, h2⟩ := hp j q w (by simpa using e1) (by simpa using e2)
      exact ⟨T', by simpa using h1, h2⟩
def rDictN (K : PySem.W.Frag) : List V → Hp → VK → Prop := fun xs H Q => ∃ (a : Addr) (Ts : List Addr) (ps : List (D × Addr × V)), xs = [.ref a] ∧ SqL K H a (Ts.map V.ref) ∧ Paired (fun T (p : D × Addr × V) => SqT K H T [.ref p.2.1, p.2.2]) Ts ps ∧
  (∃ φ, ∀ x ∈ ps, isKey x.1 = true ∧ VR K φ H x.1 (.ref x.2.1)) ∧ ∀ p c, H p = none → Q (.ref p) (upd H p (DnO p (putsX [] ps) c))
theorem call_dictN (hu : X.A.units + 128 < cLine) (hc : X.calm = true) : CallR X (.type "dict") (rDictN X.K) := by
  intro pins s σ H xs us Q I r q
  obtain ⟨a, Ts, ps, rfl, hq, hp, ⟨φ, hk⟩, q⟩ := q
  obtain ⟨u, rfl, rx⟩ := vals1 r
  cases (show u = Value.ref a from rx)
  obtain ⟨its, rv, pl, hz⟩ := I.list hq
  have ei := refs_at rv
  subst ei
  rw [List.length_map] at hz
  obtain ⟨ws, rw1, tups⟩ := prs_at I hp
  have lT : Ts.length = ps.length := Paired.length hp
  have lw : ps.length = ws.length := by rw [← rw1.length, List.length_map]
  obtain ⟨o, n, ho, ho1, ho2, ho3⟩ := pl
  have P := PairArg.list (prog := X.prog) (w := X.w) a (Ts.map Value.ref).toArray (fun j => Ts.getD j 0) ((ps.zip ws).map fun p => (Value.ref p.1.2.1, p.2))
  have lz : ((ps.zip ws).map fun p => (Value.ref p.1.2.1, p.2)).length = ps.length := by rw [List.length_map, List.length_zip]; omega
  have zip_at : ∀ (j : Nat) (k v : Value), ((ps.zip ws).map fun p => (Value.ref p.1.2.1, p.2))[j]? = some (k, v) → ∃ p, ps[j]? = some p ∧ ws[j]? = some v ∧ k = .ref p.2.1 := fun j k v e => by
    rw [List.getElem?_map] at e
    cases z : (ps.zip ws)[j]? with
    | none => rw [z] at e; cases e
    | some w =>
      rw [z] at e
      cases e
      obtain ⟨h1, h2⟩ := List.getElem?_zip_eq_some.mp z
      exact ⟨w.1, h1, h2, rfl⟩
  refine call_dict_pairsH (knd := nestedKind X.prog X.w) (ps := tri ps ws) P (I.ok.hd hc) (by show X.A.in1.in1.units + 8 < cLine; have : X.A.in1.in1.units = X.A.units + 2 := rfl; omega) ⟨⟨o, n, ho, ho1, ho2, ho3⟩, ⟨by rw [lz]; simp [lT], fun j k v e => ?_⟩⟩ ⟨by rw [lz]; exact tri_len rw1, fun j k v e => ?_⟩ (fun h' hk' x hx => ?_) (by rw [lz, ← lT]; exact hz) fun h' tk hd' k => ?_
  · obtain ⟨p, e1, e2, rfl⟩ := zip_at j k v e
    obtain ⟨T, e3, t⟩ := tups j p v e1 e2
    refine ⟨by simp [e3, List.getD], ?_⟩
    show PairAt s.heap (Ts.getD j 0) _ _
    rw [show Ts.getD j 0 = T by simp [List.getD, e3]]
    exact .inl t
  · obtain ⟨p, e1, e2, rfl⟩ := zip_at j k v e
    refine ⟨nkD p.1, p.2.1, ?_, rfl⟩
    unfold tri
    rw [List.getElem?_map, List.getElem?_zip_eq_some.mpr (show ps[j]? = some (p, v).1 ∧ ws[j]? = some (p, v).2 from ⟨e1, e2⟩)]
    rfl
  · obtain ⟨p, hpz, rfl⟩ := List.mem_map.mp hx
    obtain ⟨k1, k2⟩ := hk _ (List.of_mem_zip hpz).1
    exact nestedKind_stays.stays (fun b ob vs n e1 e2 => hk' b ob (Nat.ne_of_lt (Heap.lt_size e1)) (by simp) e1) (key_is I k2 k1)
  · obtain ⟨ws2, r2, e2, k2⟩ := tri_puts ps [] [] ws .nil rw1 (fun x hx => by simp at hx) fun x hx => (hk x hx).1
    have hd2 : h'.DictOfH (nestedKind X.prog X.w) s.heap.objs.size (tri (putsX [] ps) ws2) := e2 ▸ hd'
    obtain ⟨ob, es, ep, ho, hx, hd, he, _⟩ := hd2
    have hm : (s.heap.objs.size == sysModules) = false := beq_eq_false_iff_ne.mpr (Nat.ne_of_gt I.big)
    have hlen : (putsX [] ps).length ≤ sizeLine := by
      have := puts_len ps []
      rw [List.length_nil] at this
      omega
    have hn : ObjOk X.prog X.w (upd H s.heap.objs.size (DnO s.heap.objs.size (putsX [] ps) ((ep : Int) - (putsX [] ps).length))) h' s.heap.objs.size (DnO s.heap.objs.size (putsX [] ps) ((ep : Int) - (putsX [] ps).length)) := by
      refine ⟨⟨hm, hlen, ws2, r2, ob, es, ep, ho, hx, hd, ?_, by omega⟩, ⟨ob, ho⟩, fun h1 h2 q k => ?_⟩
      · rw [he]
        unfold tri
        rw [List.map_map]
        refine List.map_congr_left fun p hm => ?_
        show (⟨(nkD p.1.1).hash X.w, _, _⟩ : DictEntry) = ⟨hD p.1.1, _, _⟩
        rw [hash_nk X.w 8 _ (isKey_D (k2 _ (List.of_mem_zip hm).1))]
      · obtain ⟨q1, q2, us, q3, o, es, ep, q4, q5⟩ := q
        exact ⟨q1, q2, us, q3, o, es, ep, k o q4, q5⟩
    exact ⟨.ref s.heap.objs.size, _, I.laid (t' := tk) (fun b ob e => k b ob (by simp) e) (Nat.le_refl _) hn, rfl, q _ _ (I.hok.fresh (Nat.le_refl _))⟩
variable {a : Expr} {oa ob oc : St → Hh → Out RV} {pos p apos : Pos} {k x : Expr}
theorem je_mkd {nm : Str} (hu : X.A.units + 128 < cLine) (ex : nm = "dict") (hc : X.calm = true) (hg : Gl X nm) (hm : X.mg nm = none) (n : noStar a = true) (ha : PE X a (TEr X.K ω oa)) :
    PE X (.Call (.Name nm p) [a] [] pos) (TEr X.K ω fun st h => Py.bnd (oa st h) fun x h => opMkd x h) := by
  subst ex
  refine pe_imp (pe_callTy (call_dictN hu hc) hg hm (by decide +kernel) (pa_cons ha pa_nil (star_cons n)) (by decide) (by decide) (star_cons n) (by rfl)) fun σ H Q ⟨φ, h, st, R, S, q⟩ => ?_
  refine ⟨φ, h, st, R, S, ?_⟩
  refine Post.seq q fun x h1 e1 q φ1 H1 v1 w1 R1 r1 => ?_
  have q := q.shR R w1 R1
  unfold opMkd at q
  split at q
  · rename_i kps e2
    obtain ⟨ds, e3, e4⟩ := Option.bind_eq_some_iff.mp e2
    obtain ⟨l, ys, rfl, sq, rr⟩ := lsOf_ok R1 r1 e3
    obtain ⟨Ts, ps, rfl, hp, dn⟩ := prs_of rr e4
    refine ⟨l, Ts, ps, rfl, sq, hp, ⟨φ1, dn.all⟩, fun p c hp => ?_⟩
    have w0 : WX φ1 H1 φ1 (upd H1 p (DnO p (putsX [] ps) c)) := WX.new hp
    exact new_ref R1 hp (o := .dcn (mergeD [] kps)) ⟨putsX [] ps, c, upd_same, merge_keys kps [] List.nodup_nil, Paired.mapP (DNs.puts (kvs := []) (xs := []) .nil dn) fun _ _ z => ⟨z.1, z.2.1.mono R1 w0, z.2.2.mono R1 w0⟩⟩ q
  · exact q.elim
/-! ### d.get(k, x) -/
theorem dct_get2 {A : Around} {E : Value → Shared → Prop} {pins : List (Addr × Obj)} {s : Shared} {σ : L2.St} {t : Bool} {d dx : D} {a : Addr} {kn : Nat} {y z : V} {u ux : Value} {Q : Value → Shared → Prop} (hu : A.units + 9 < cLine) (R : Rel X.K φ h H) (I : Inv X pins σ H s) (ea : φ[kn]? = some a) (o : dOf h (.val (.ref kn)) = some (t, kvs)) (ok : okKey t d = true) (rd : VR X.K φ H d y) (ru : L2.RelV y u)
    (rx : VR X.K φ H dx z) (rz : L2.RelV z ux) (hQ : ∀ w' s' v, Inv X pins σ H s' → L2.RelV v w' → VR X.K φ H ((dlook kvs d).getD dx) v → Q w' s') : wpAny (model X.prog X.w) A (PySem.call (.builtin "dict.get") [.ref a, u, ux]) Q E s := by
  rcases dOf_ok R ea o with ⟨rfl, _, ks, z1, r⟩ | ⟨rfl, _, n, xs, cc, z1, r⟩
  · obtain ⟨q, hq, rfl⟩ := leaf_of (show isLeaf d = true from ok) rd
    cases l : dlook kvs d with
    | some e =>
      obtain ⟨v, ev, rv⟩ := (r.look hq).1 e l
      refine d_get2 (by omega) I (DGet.k z1) ru rz fun w' s' I' r' => hQ w' s' v I' (by rw [ev] at r'; exact r') (by rw [l]; exact rv)
    | none =>
      have ev := (r.look hq).2 l
      refine d_get2 (by omega) I (DGet.k z1) ru rz fun w' s' I' r' => hQ w' s' z I' (by rw [ev] at r'; exact r') (by rw [l]; exact rx)
  · have ok : isKey d = true := ok
    cases rd with
    | @tup ds0 b0 ys0 sq rr =>
      cases ru
      obtain ⟨hs, _, us, rv, dd⟩ := dn_at I z1 n r
      refine call_meetsIn F.slot_dict_get dd.typeIs F.entry_dict_get (F.args_dict_get_3 _ _ _) (meetsH_dict_get_default (nestedKind X.prog X.w) a b0 hs ux) ⟨by show A.in1.units + 8 < cLine; have : A.in1.units = A.units + 1 := rfl; omega, _, _, key_is I (VR.tup sq rr) ok, dd, ?_⟩
      cases l : dlook kvs _ with
      | some e =>
        obtain ⟨x, ex, re⟩ := (r.look _).1 e l
        obtain ⟨p, ep, rp⟩ := (tri_at ok xs us rv fun x hx => (r.all x hx).1).1 x ex
        rw [ep]
        exact hQ _ _ _ (I.tok _) rp (by rw [l]; exact re)
      | none =>
        rw [(tri_at ok xs us rv fun x hx => (r.all x hx).1).2 ((r.look _).2 l)]
        exact hQ _ _ _ (I.tok _) rz (by rw [l]; exact rx)
    | _ => cases ok
/-- it is a dict that the own heap knows -/
def IsDN [Tau] (K : PySem.W.Frag) (H : Hp) (a : Addr) : Prop := ∃ φ h kn tk, Rel K φ h H ∧ φ[kn]? = some a ∧ dOf h (.val (.ref kn)) = some tk
theorem isDN_at {pins : List (Addr × Obj)} {σ : L2.St} {s : Shared} {a : Addr} (I : Inv X pins σ H s) (d : IsDN X.K H a) : s.TypeIs (.ref a) "dict" ∧ ∀ b, Value.ref a = .ref b → ∃ ob, s.heap.get? b = some ob ∧ ob.dict = none := by
  obtain ⟨φ, h, kn, ⟨t, kvs⟩, R, ea, o⟩ := d
  refine ⟨dct_type R I ea o, fun b q => ?_⟩
  cases q
  rcases dOf_ok R ea o with ⟨_, _, ks, z, r⟩ | ⟨_, _, n, xs, cc, z, r⟩
  · obtain ⟨_, _, vs, _, ob, _, _, h1, h2, _⟩ := dk_of I.hok z
    exact ⟨ob, h1, h2.2.1⟩
  · obtain ⟨_, es, ep, ⟨ob, h1, h2, _⟩, _⟩ := dn_raw I z
    exact ⟨ob, h1, h2.2.1⟩
theorem dct_get1 {A : Around} {E : Value → Shared → Prop} {pins : List (Addr × Obj)} {s : Shared} {σ : L2.St} {t : Bool} {d : D} {a : Addr} {kn : Nat} {y : V} {u : Value} {Q : Value → Shared → Prop} (hu : A.units + 9 < cLine) (R : Rel X.K φ h H) (I : Inv X pins σ H s) (ea : φ[kn]? = some a) (o : dOf h (.val (.ref kn)) = some (t, kvs)) (ok : okKey t d = true) (rd : VR X.K φ H d y) (ru : L2.RelV y u)
    (hQ : ∀ w' s' v, Inv X pins σ H s' → L2.RelV v w' → VR X.K φ H ((dlook kvs d).getD .non) v → Q w' s') : wpAny (model X.prog X.w) A (PySem.call (.builtin "dict.get") [.ref a, u]) Q E s := by
  rcases dOf_ok R ea o with ⟨rfl, _, ks, z1, r⟩ | ⟨rfl, _, n, xs, cc, z1, r⟩
  · obtain ⟨q, hq, rfl⟩ := leaf_of (show isLeaf d = true from ok) rd
    cases l : dlook kvs d with
    | some e =>
      obtain ⟨v, ev, rv⟩ := (r.look hq).1 e l
      refine d_get1 (by omega) I (DGet.k z1) ru fun w' s' I' r' => hQ w' s' v I' (by rw [ev] at r'; exact r') (by rw [l]; exact rv)
    | none =>
      have ev := (r.look hq).2 l
      refine d_get1 (by omega) I (DGet.k z1) ru fun w' s' I' r' => hQ w' s' .non I' (by rw [ev] at r'; exact r') (by rw [l]; exact VR.non)
  · have ok : isKey d = true := ok
    cases rd with
    | @tup ds0 b0 ys0 sq rr =>
      cases ru
      obtain ⟨hs, _, us, rv, dd⟩ := dn_at I z1 n r
      refine call_meetsIn F.slot_dict_get dd.typeIs F.entry_dict_get (F.args_dict_get_2 _ _) (meetsH_dict_get (nestedKind X.prog X.w) a b0 hs) ⟨by show A.in1.units + 8 < cLine; have : A.in1.units = A.units + 1 := rfl; omega, _, _, key_is I (VR.tup sq rr) ok, dd, ?_⟩
      cases l : dlook kvs _ with
      | some e =>
        obtain ⟨x, ex, re⟩ := (r.look _).1 e l
        obtain ⟨p, ep, rp⟩ := (tri_at ok xs us rv fun x hx => (r.all x hx).1).1 x ex
        rw [ep]
        exact hQ _ _ _ (I.tok _) rp (by rw [l]; exact re)
      | none =>
        rw [(tri_at ok xs us rv fun x hx => (r.all x hx).1).2 ((r.look _).2 l)]
        exact hQ _ _ .non (I.tok _) rfl (by rw [l]; exact VR.non)
    | _ => cases ok
def tGetN1 (X : Cx) (td ty : TE) : TE := fun σ H Q => td σ H fun x H1 => ∃ a, x = .ref a ∧ IsDN X.K H1 a ∧ ty σ H1 fun y H2 => ∃ φ h kn t kvs d, Rel X.K φ h H2 ∧ φ[kn]? = some a ∧ dOf h (.val (.ref kn)) = some (t, kvs) ∧ okKey t d = true ∧ VR X.K φ H2 d y ∧
  ∀ v, VR X.K φ H2 ((dlook kvs d).getD .non) v → Q v H2
theorem pe_getN1 (hu : X.A.units + 9 < cLine) {o e : Expr} {td ty : TE} (ho : PE X o td) (he : PE X e ty) (m : L2.M1 X o "get" apos e pos) : PE X (.Call (.Attribute o "get" apos) [e] [] pos) (tGetN1 X td ty) := by
  refine ⟨fun pins s σ H Q I h => ?_⟩
  refine wpAny_Call_method m.base m.few m.line PySem.F.plainAttrs_dict PySem.F.slot_dict_get PySem.F.type_dict_get (thn (ho.run pins s σ H _ I h) fun u s1 ⟨x, H1, I1, rx, a, ex, d, q1⟩ => ?_)
  subst ex
  obtain rfl : u = Value.ref a := rx
  obtain ⟨t1, t2⟩ := isDN_at I1 d
  refine ⟨t1, t2, ?_⟩
  rw [m.trees]
  refine Calls.callWith_builtin rfl (Calls.evalArgs_plain (Calls.spliced_cons (thn (he.run pins s1 σ H1 _ I1 q1) fun iv s2 ⟨y, H2, I2, ry, φ, h, kn, t, kvs, dd, R, ea, eo, ok, rd, q3⟩ => Calls.spliced_nil ?_)))
  exact dct_get1 hu R I2 ea eo ok rd ry fun w' s4 v I4 rw' rv => ⟨v, H2, I4, rw', q3 v rv⟩
def tGetN (X : Cx) (td ty tx : TE) : TE := fun σ H Q => td σ H fun x H1 => ∃ a, x = .ref a ∧ IsDN X.K H1 a ∧ ty σ H1 fun y H2 => tx σ H2 fun z H3 => ∃ φ h kn t kvs d dx, Rel X.K φ h H3 ∧ φ[kn]? = some a ∧ dOf h (.val (.ref kn)) = some (t, kvs) ∧ okKey t d = true ∧ VR X.K φ H3 d y ∧ VR X.K φ H3 dx z ∧
  ∀ v, VR X.K φ H3 ((dlook kvs d).getD dx) v → Q v H3
theorem pe_getN (hu : X.A.units + 9 < cLine) {o e f : Expr} {td ty tx : TE} (ho : PE X o td) (he : PE X e ty) (hf : PE X f tx) (m : M2 X o "get" apos e f pos) : PE X (.Call (.Attribute o "get" apos) [e, f] [] pos) (tGetN X td ty tx) := by
  refine ⟨fun pins s σ H Q I h => ?_⟩
  refine wpAny_Call_method m.base m.few m.line PySem.F.plainAttrs_dict PySem.F.slot_dict_get PySem.F.type_dict_get (thn (ho.run pins s σ H _ I h) fun u s1 ⟨x, H1, I1, rx, a, ex, d, q1⟩ => ?_)
  subst ex
  obtain rfl : u = Value.ref a := rx
  obtain ⟨t1, t2⟩ := isDN_at I1 d
  refine ⟨t1, t2, ?_⟩
  rw [m.trees]
  refine Calls.callWith_builtin rfl (Calls.evalArgs_plain (Calls.spliced_cons (thn (he.run pins s1 σ H1 _ I1 q1) fun iv s2 ⟨y, H2, I2, ry, q2⟩ =>
    Calls.spliced_cons (thn (hf.run pins s2 σ H2 _ I2 q2) fun fv s3 ⟨z, H3, I3, rz, φ, h, kn, t, kvs, dd, dx, R, ea, eo, ok, rd, rx, q3⟩ => Calls.spliced_nil ?_))))
  exact dct_get2 hu R I3 ea eo ok rd ry rx rz fun w' s4 v I4 rw' rv => ⟨v, H3, I4, rw', q3 v rv⟩
end
end Py
/-! Core, part 2: list(d), max(d.values()) of dicts with tuple keys. -/
namespace Py
open PySem PySem.Spec PyProof.Rows
open L2 hiding St start wipe
section
variable [Tau] {ω : Wsh} {ε : XK} {X : Cx} {pos p apos cpos : Pos} {a e : Expr} {oa : St → Hh → Out RV} {td : TE}
theorem DNs.ks {K : PySem.W.Frag} {φ : List Addr} {H : Hp} : ∀ {kvs : List (D × D)} {xs : List (D × Addr × V)}, DNs K φ H kvs xs → VRs K φ H (kvs.map (·.1)) (xs.map fun y => .ref y.2.1)
  | _, _, .nil => .nil
  | _, _, .cons h t => .cons h.2.1 (DNs.ks t)
theorem DNs.vs {K : PySem.W.Frag} {φ : List Addr} {H : Hp} : ∀ {kvs : List (D × D)} {xs : List (D × Addr × V)}, DNs K φ H kvs xs → VRs K φ H (kvs.map (·.2)) (xs.map (·.2.2))
  | _, _, .nil => .nil
  | _, _, .cons h t => .cons h.2.2 (DNs.vs t)
theorem call_listN (hc : X.calm = true) : CallR X (.type "list") (fun xs H Q => ∃ d ys c, xs = [V.ref d] ∧ H d = some (DnO d ys c) ∧ ∀ q, H q = none → Q (.ref q) (upd H q (.lst (ys.map fun y => .ref y.2.1)))) := by
  intro pins s σ H xs us Q I r h
  obtain ⟨d, ys, c, rfl, hd, q⟩ := h
  obtain ⟨u, rfl, rx⟩ := vals1 r
  cases (show u = Value.ref d from rx)
  obtain ⟨hs, es, ep, hm, l1, c1, hz, ent⟩ := dn_raw I hd
  refine PySem.W.kdl_call (KdlSrc.rawDict hs) (I.ok.hd hc) hm hz fun h' tk acc' c' hkeep hS hacc => ?_
  refine ⟨.ref s.heap.objs.size, upd H s.heap.objs.size (.lst (ys.map fun y => .ref y.2.1)), I.laid (t' := tk) hkeep (Nat.le_refl _) (show ObjOk X.prog X.w _ _ _ (.lst (ys.map fun y => V.ref y.2.1)) from ⟨?_, acc'.toList, c', ?_, ?_⟩), rfl, q _ (I.hok.fresh (Nat.le_refl _))⟩
  · rw [List.length_map, ← l1]; exact hz
  · have el : acc'.toList.length = acc'.size := by simp
    refine vals_of_at (by rw [List.length_map, el, hacc.1, l1]) fun j x w h1 h2 => ?_
    obtain ⟨hi, rfl⟩ := hacc.2 j w (by rw [← Array.getElem?_toList]; exact h2)
    obtain ⟨y, hy, ek, _⟩ := ent ys c hd j hi
    rw [List.getElem?_map, hy] at h1
    cases h1
    exact ek
  · rw [Array.toArray_toList]; exact hS
theorem je_lks {nm : Str} (ex : nm = "list") (hc : X.calm = true) (hg : Gl X nm) (hm : X.mg nm = none) (n : noStar a = true) (ha : PE X a (TEr X.K ω oa)) :
    PE X (.Call (.Name nm p) [a] [] pos) (TEr X.K ω fun st h => Py.bnd (oa st h) fun x h => match keysOf x h with
    | some q => .ok (.raw q.1) h
    | none => .fail) := by
  subst ex
  refine pe_imp (pe_callTy (call_listN hc) hg hm (by decide +kernel) (pa_cons ha pa_nil (star_cons n)) (by decide) (by decide) (star_cons n) (by rfl)) fun σ H Q ⟨φ, h, st, R, S, q⟩ => ?_
  refine ⟨φ, h, st, R, S, ?_⟩
  refine Post.seq q fun x h1 e1 q φ1 H1 v1 w1 R1 r1 => ?_
  have q := q.shR R w1 R1
  unfold keysOf at q
  split at q
  · rename_i p' eo'
    split at eo'
    · rename_i k
      split at eo'
      · rename_i kvs e2
        cases eo'
        cases (r1 : VR X.K φ1 H1 _ v1) with
        | @ref _ a ea =>
          obtain ⟨xs, c, z, n, r⟩ := R1.obj k _ a e2 ea
          refine ⟨a, xs, c, rfl, z, fun p hp => raw_new R1 hp ?_ q⟩
          exact DNs.ks r
      · cases eo'
    · cases eo'
  · exact q.elim
def tMxv (td : TE) : TE := fun σ H Q => td σ H fun x H1 => ∃ d ys c, ∃ ns : List Int, x = .ref d ∧ H1 d = some (DnO d ys c) ∧ ys.map (·.2.2) = ns.map V.int ∧ 0 < ns.length ∧ ∀ m, m ∈ ns → (∀ y ∈ ns, y ≤ m) → Q (.int m) H1
theorem pe_mxv (hc : X.calm = true) (hg : Gl X "max") (hm : X.mg "max" = none) (he : PE X e td) (hbase : attributeBase e "values" X.env (eval e X.env) = eval e X.env) (hline : (apos.endLine == cpos.line) = true) :
    PE X (.Call (.Name "max" p) [.Call (.Attribute e "values" apos) [] [] cpos] [] pos) (tMxv td) := by
  refine ⟨fun pins s σ H Q I h => ?_⟩
  refine Call_ (ld_blt I hg hm PyProof.Rows.boot_max (PyProof.Rows.callWith_builtin1 (PyProof.Rows.args_cons (wpAny_Call_method (T := "dict") (id := "dict.values") hbase rfl hline F.plainAttrs_dict F.slot_dict_values F.type_dict_values (thn (he.run pins s σ H _ I h) fun u s1 ⟨x, H1, I1, rx, d, ys, c, ns, ex, hd, hns, h0, q⟩ => ?_)) rfl) rfl rfl))
  subst ex
  obtain rfl : u = Value.ref d := rx
  obtain ⟨hs, es, ep, hr, l1, c1, hz, ent⟩ := dn_raw I1 hd
  refine ⟨hr.typeIs, ?_, ?_⟩
  · obtain ⟨o, ho, hx, _⟩ := hr
    exact fun b q => by cases q; exact ⟨o, ho, hx.2.1⟩
  show wpAny _ _ (callWith cpos (.builtin "dict.values") [.ref d] [] []) _ X.xe s1
  refine method_meetsIn F.slot_dict_values F.entry_dict_values rfl (PySem.evalArgs_none ⟨rfl, hr.typeIs, F.args_dict_values_1 _, _, meets_dict_values_raw d hs, ⟨es, ep, hr⟩, PyProof.Rows.args_nil ?_⟩)
  have hl : ns.length = ys.length := by
    have := congrArg List.length hns
    rw [List.length_map, List.length_map] at this
    exact this.symm
  have hpos : 0 < es.size := by omega
  have hv : (s1.heap.push { cls := .type "dict_values", data := .fields #[.ref d] }).IsValuesView s1.heap.objs.size d := ⟨_, Heap.get?_push_size _ rfl, rfl, rfl⟩
  have hr2 := hr.push { cls := .type "dict_values", data := .fields #[.ref d] }
  have vals : ∀ (i : Nat) (v : Value), (∃ hi : i < es.size, v = es[i].val) → ∃ t, v = .int (ns.getD i 0) t := fun i v ⟨hi, ev⟩ => by
    obtain ⟨y, hy, _, rv⟩ := ent ys c hd i hi
    have z : (ys.map (·.2.2))[i]? = (ns.map V.int)[i]? := by rw [hns]
    have hi3 : i < ns.length := by omega
    rw [List.getElem?_map, List.getElem?_map, hy, List.getElem?_eq_getElem hi3] at z
    have z : y.2.2 = V.int ns[i] := Option.some.inj z
    rw [z] at rv
    have e3 : ns.getD i 0 = ns[i] := by rw [List.getD_eq_getElem?_getD, List.getElem?_eq_getElem hi3] <;> rfl
    rw [e3, ev]
    exact rv
  refine call_max_walk ?_
  refine wpAny_pyIter_values_raw hv hr2 ?_
  have hdlt : d < s1.heap.objs.size := by
    obtain ⟨o, ho, _⟩ := hr
    exact Heap.lt_size ho
  have hsz : (s1.heap.push { cls := .type "dict_values", data := .fields #[.ref d] }).objs.size = s1.heap.objs.size + 1 := by simp [Heap.push]
  refine ⟨(s1.heap.push { cls := .type "dict_values", data := .fields #[.ref d] }).objs.size, [_, d], [_], es.size, _, _, fun i j => decide (ns.getD i 0 > ns.getD j 0), rfl, Walks.rawValues (show X.A.in1.handled = none from I1.ok.hd hc) _ d (by rw [hsz]; exact Nat.ne_of_lt (Nat.lt_succ_of_lt hdlt)) es ep, ⟨⟨_, Heap.get?_push_size _ rfl, rfl, rfl⟩, hr2.push _⟩, fun b hb => ?_, hpos, CmpOf.ints_gt (fun i => ns.getD i 0) vals, fun v h' tk hv' hk => ?_⟩
  · show b < ((s1.heap.push _).push _).objs.size
    have hsz2 : ∀ o, ((s1.heap.push { cls := .type "dict_values", data := .fields #[.ref d] }).push o).objs.size = s1.heap.objs.size + 2 := fun o => by simp [Heap.push]
    rw [hsz2]
    rcases List.mem_cons.mp hb with z | z
    · rw [z, hsz]; exact Nat.lt_succ_self _
    · rw [List.mem_singleton.mp z]
      exact Nat.lt_of_lt_of_le hdlt (Nat.le_add_right _ _)
  · obtain ⟨t, rfl⟩ := vals _ v hv'
    obtain ⟨m1', m2'⟩ := argBest_gt (fun i => ns.getD i 0) (es.size - 1)
    have m1 : argBest (fun i j => decide (ns.getD i 0 > ns.getD j 0)) (es.size - 1) ≤ es.size - 1 := m1'
    have m2 : ∀ j, j ≤ es.size - 1 → ns.getD j 0 ≤ ns.getD (argBest (fun i j => decide (ns.getD i 0 > ns.getD j 0)) (es.size - 1)) 0 := m2'
    have m3 : argBest (fun i j => decide (ns.getD i 0 > ns.getD j 0)) (es.size - 1) < ns.length := by omega
    have hk2 : ∀ b o, s1.heap.get? b = some o → h'.get? b = some o := fun b o e => hk b o (fun z => by
      rw [List.mem_singleton.mp z] at e
      have := Heap.lt_size e
      rw [hsz] at this
      exact absurd (Nat.lt_of_succ_lt this) (Nat.lt_irrefl _)) (Heap.get?_push_of_some _ (Heap.get?_push_of_some _ e))
    refine ⟨.int _, H1, I1.kept (t' := tk) hk2, ⟨t, rfl⟩, q _ (PySem.getD_mem m3) fun y hy => ?_⟩
    obtain ⟨j, hj, e⟩ := List.mem_iff_getElem.mp hy
    have z := m2 j (by omega)
    have e3 : ns.getD j 0 = y := by rw [List.getD_eq_getElem?_getD, List.getElem?_eq_getElem hj, ← e] <;> rfl
    rw [e3] at z
    exact z
theorem je_mxv {nm nv : Str} (ex : nm = "max") (ev : nv = "values") (hc : X.calm = true) (hg : Gl X nm) (hm : X.mg nm = none) (hbase : attributeBase a "values" X.env (eval a X.env) = eval a X.env) (hline : (apos.endLine == cpos.line) = true) (ha : PE X a (TEr X.K ω oa)) :
    PE X (.Call (.Name nm p) [.Call (.Attribute a nv apos) [] [] cpos] [] pos) (TEr X.K ω fun st h => Py.bnd (oa st h) fun x h => opMxv x h) := by
  subst ex ev
  refine pe_imp (pe_mxv hc hg hm ha hbase hline) fun σ H Q ⟨φ, h, st, R, S, q⟩ => ?_
  refine ⟨φ, h, st, R, S, ?_⟩
  refine Post.seq q fun x h1 e1 q φ1 H1 v1 w1 R1 r1 => ?_
  have q := q.shR R w1 R1
  cases x with
  | raw _ => exact q.elim
  | val d =>
  cases d with
  | ref k =>
    unfold opMxv at q
    simp only at q
    split at q
    rotate_left
    · exact q.elim
    rename_i kvs e2
    split at q
    rotate_left
    · exact q.elim
    rename_i n ns e3
    cases (r1 : VR X.K φ1 H1 _ v1) with
    | @ref _ a ea =>
      obtain ⟨xs, c, z, nd, r⟩ := R1.obj k _ a e2 ea
      have r : DNs X.K φ1 H1 kvs xs := r
      have hv : xs.map (·.2.2) = (n :: ns).map V.int := asInts_ok (K := X.K) (φ := φ1) (H := H1) (ds := kvs.map (·.2)) (DNs.vs r) e3
      refine ⟨a, xs, c, n :: ns, rfl, z, hv, by simp, fun m hm hle => ?_⟩
      obtain ⟨h1, h2⟩ := maxI_spec n ns
      have em : m = maxI (n :: ns) := Int.le_antisymm (h2 m hm) (hle _ h1)
      rw [em]
      exact q.here R1 (VR.int _)
  | _ => exact q.elim
/-! ### d.clear() -/
def tDcl (td : TE) : TE := fun σ H Q => td σ H fun x H1 => ∃ d xs c, x = .ref d ∧ H1 d = some (DnO d xs c) ∧ Q .non (upd H1 d (.dK []))
theorem pe_dcl {td : TE} (he : PE X e td) (hbase : attributeBase e "clear" X.env (eval e X.env) = eval e X.env) (hline : (apos.endLine == cpos.line) = true) : PE X (.Call (.Attribute e "clear" apos) [] [] cpos) (tDcl td) := by
  refine ⟨fun pins s σ H Q I h => ?_⟩
  refine wpAny_Call_method (T := "dict") (id := "dict.clear") hbase rfl hline F.plainAttrs_dict F.slot_dict_clear F.type_dict_clear (thn (he.run pins s σ H _ I h) fun u s1 ⟨x, H1, I1, rx, d, xs, c, ex, hd, q⟩ => ?_)
  subst ex
  obtain rfl : u = Value.ref d := rx
  obtain ⟨hs, es, ep, hr, l1, c1, hz, ent⟩ := dn_raw I1 hd
  refine ⟨hr.typeIs, ?_, ?_⟩
  · obtain ⟨o, ho, hx, _⟩ := hr
    exact fun b q => by cases q; exact ⟨o, ho, hx.2.1⟩
  show wpAny _ _ (callWith cpos (.builtin "dict.clear") [.ref d] [] []) _ X.xe s1
  refine method_meetsIn F.slot_dict_clear F.entry_dict_clear rfl (PySem.evalArgs_none ⟨rfl, hr.typeIs, F.args_dict_clear_1 _, _, meets_dict_clear_raw d, ⟨es, ep, hr, by omega, fun h' hr' hs' => ?_⟩⟩)
  obtain ⟨o, ho, hc, hdat⟩ := hr'
  have dd' : h'.DictOf (mixKind X.prog X.w) d [] := ⟨o, #[], ep + 1, ho, hc, hdat, (fun _ hx => nomatch hx), .nil, List.nodup_nil⟩
  exact ⟨.non, _, d_write (t' := s1.toks) I1 (by rw [hd]; exact True.intro) hs' ⟨o, ho⟩ (dk_new (Nat.zero_le _) hs .nil dd'), rfl, q⟩
theorem je_dcl {nv : Str} (ev : nv = "clear") (hbase : attributeBase a "clear" X.env (eval a X.env) = eval a X.env) (hline : (apos.endLine == cpos.line) = true) (ha : PE X a (TEr X.K ω oa)) :
    PE X (.Call (.Attribute a nv apos) [] [] cpos) (TEr X.K ω fun st h => Py.bnd (oa st h) fun x h => opDcl x h) := by
  subst ev
  refine pe_imp (pe_dcl ha hbase hline) fun σ H Q ⟨φ, h, st, R, S, q⟩ => ?_
  refine ⟨φ, h, st, R, S, ?_⟩
  refine Post.seq q fun x h1 e1 q φ1 H1 v1 w1 R1 r1 => ?_
  have q := q.shR R w1 R1
  cases x with
  | raw _ => exact q.elim
  | val d =>
  cases d with
  | ref k =>
    unfold opDcl at q
    simp only at q
    split at q
    rotate_left
    · exact q.elim
    rename_i kvs e2
    cases (r1 : VR X.K φ1 H1 _ v1) with
    | @ref _ a ea =>
      obtain ⟨xs, c, z, nd, r⟩ := R1.obj k _ a e2 ea
      have w := WX.writeO (u := .dK []) R1 ea ⟨fun ys c' e' => .inr ⟨[], rfl⟩, fun ys e' => ⟨[], rfl⟩⟩
      exact ⟨a, xs, c, rfl, z, q φ1 _ _ w (R1.writeO ea w ⟨[], upd_same, .nil⟩) VR.non⟩
  | _ => exact q.elim
end
end Py
/-! Core, part K: isinstance, append, methods, own defs called. -/
namespace Py
open PySem PySem.Spec PyProof.Rows
open L2 hiding St start wipe
section
variable [Tau] {ω : Wsh} {ε : XK} {X : Cx} {K : PySem.W.Frag} {φ φ0 φ1 : List Addr} {h h1 : Hh} {H H0 H1 : Hp} {st : St} {σ : L2.St} {e a b c : Expr} {es : List Expr} {oa ob : St → Hh → Out RV} {pos p : Pos} {k : Nat} {α : Type}
/-! ### isinstance -/
def tyName : Ty → String
  | .int => "int" | .bool => "bool" | .tuple => "tuple" | .list => "list" | .str => "str" | .dict => "dict"
theorem ty_boot (t : Ty) : bootBuiltins (Str.ofString (tyName t)) = some (.type (tyName t)) := by cases t <;> decide +kernel
theorem sqt_ty {ad : Addr} {xs : List V} (q : SqT K H ad xs) : TyX K H (.ref ad) (.type "tuple") := by
  rcases q with (q | ⟨o, q⟩) | ⟨o, its, n, q, c, _⟩
  · exact .base (.tup q)
  · exact .fTuple q
  · exact .kTuple q c
def tgName : Tg → String
  | .non => "NoneType" | .bl => "bool" | .int => "int" | .str => "str" | .tup => "tuple" | .lst => "list" | .dct => "dict"
theorem isi_kit (g : Tg) (t : Ty) : kitB (tgName g) (tyName t) = some (isi g t) := by cases g <;> cases t <;> decide +kernel
theorem tag_ok (R : Rel K φ h H) {x : RV} {g : Tg} {v : V} (rv : VRR K φ H H0 x v) (e : tagOf h x = some g) : TyX K H v (.type (tgName g)) ∨ (g = .dct ∧ ∃ a xs c, v = .ref a ∧ H a = some (DnO a xs c)) := by
  cases x with
  | raw ds =>
    cases e
    obtain ⟨ad, xs, rfl, _, _, q, _⟩ := rv
    exact .inl (.base (.lst q))
  | val d =>
    cases rv with
    | int i => cases e; exact .inl (.base (.int i))
    | bl i => cases e; exact .inl (.base (.bl i))
    | str i => cases e; exact .inl (.base (.str i))
    | non => cases e; exact .inl (.base .non)
    | tup q _ => cases e; exact .inl (sqt_ty q)
    | @ref n ad ea =>
      simp only [tagOf] at e
      split at e
      · rename_i ds e2
        cases e
        obtain ⟨xs, q, _⟩ := R.lst e2 ea
        exact .inl (.base (.lst q))
      · rename_i kvs e2
        cases e
        obtain ⟨xs, q, _⟩ := R.obj n _ ad e2 ea
        exact .inl (.base (.dK q))
      · rename_i kvs e2
        cases e
        obtain ⟨xs, c, q, _⟩ := R.obj n _ ad e2 ea
        exact .inr ⟨rfl, ad, xs, c, rfl, q⟩
      · cases e
    | rl _ _ => cases e
theorem ty_ne (t : Ty) : Str.ofString (tyName t) ≠ "__name__" ∧ (Str.ofString (tyName t) == ("__debug__" : Str)) = false := by cases t <;> decide
def rIsiN (K : PySem.W.Frag) : List V → Hp → VK → Prop := fun xs H Q => ∃ (x c : V) (t u : Value) (b : Bool), xs = [x, c] ∧ ClsV c u ∧ (TyX K H x t ∨ (t = .type "dict" ∧ ∃ a xs c, x = .ref a ∧ H a = some (DnO a xs c))) ∧ PySem.W.kitOne K t u = some b ∧ Q (.bl b) H
theorem call_isiN : CallR X (.builtin "isinstance") (rIsiN X.K) := by
  intro pins s σ H xs us Q I r h
  obtain ⟨x, c, t, u, b, rfl, k, ty, e, q⟩ := h
  obtain ⟨u1, u2, rfl, r1, r2⟩ := vals2 r
  have e2 := k.eq r2
  subst e2
  rcases ty with ty | ⟨rfl, a, zs, c0, rfl, ez⟩
  · obtain ⟨P, Z, p, hx⟩ := kit_of I r1 ty
    exact PySem.W.kia_one Z I.kIn p e hx fun tk => ⟨.bl b, H, I.tok tk, rfl, q⟩
  · cases (show u1 = Value.ref a from r1)
    obtain ⟨⟨_, _, _, _, o, _, _, h1, h2, _⟩, _⟩ := (show ObjOk X.prog X.w H s.heap a (DnO a zs c0) from I.hok a _ ez)
    exact PySem.W.kia_one PySem.W.kitx_dict I.kIn ⟨o, h1, h2.1⟩ e (fun z => nomatch z) fun tk => ⟨.bl b, H, I.tok tk, rfl, q⟩
theorem je_isi {t : Ty} {x y : Str} {p2 : Pos} (ex : x = "isinstance") (hg : Gl X x) (hm : X.mg x = none) (ey : y = Str.ofString (tyName t)) (hg2 : Gl X y) (hm2 : X.mg y = none) (n : noStar a = true) (ha : PE X a (TEr X.K ω oa)) :
    PE X (.Call (.Name x p) [a, .Name y p2] [] pos) (TEr X.K ω fun st h => Py.bnd (oa st h) fun x h => match tagOf h x with
    | some g => .ok (.val (.bl (isi g t))) h
    | none => .fail) := by
  subst ex
  have pt : PE X (.Name y p2) (tC (.ty (tyName t))) := by
    subst ey
    exact pe_bltn hg2 hm2 (ty_boot t) rfl (ty_ne t).1 (ty_ne t).2
  refine pe_imp (pe_callB (r := rIsiN X.K) call_isiN hg hm (by decide +kernel) (pa_cons ha (pa_cons pt pa_nil (star_cons rfl)) (star_cons n)) (by decide) (by decide) (star_cons n) (by rw [star_cons rfl]; rfl)) fun σ H Q ⟨φ, h, st, R, S, q⟩ => ?_
  refine ⟨φ, h, st, R, S, ?_⟩
  refine Post.seq q fun x h1 e1 q φ1 H1 v1 w1 R1 r1 => ?_
  split at q
  · rename_i g eg
    exact ⟨v1, .ty (tyName t), .type (tgName g), .type (tyName t), isi g t, rfl, .ty _, (tag_ok R1 r1 eg).imp id (fun z => ⟨by rw [z.1]; rfl, z.2⟩), kit_ty (isi_kit g t), (q.shR R w1 R1).here R1 (VR.bl _)⟩
  · exact q.elim

/-! ### append -/
def notCall : Expr → Bool
  | .Call _ [] [] _ => false
  | _ => true
theorem base_plain {at_ : Str} {env : Env} {w : Sem Value} (n : notCall e = true) : attributeBase e at_ env w = w := by
  cases e with
  | Call f as ks _ =>
    cases as with
    | nil =>
      cases ks with
      | nil => cases n
      | cons _ _ => cases f <;> rfl
    | cons _ _ => cases f <;> rfl
  | _ => rfl
theorem few1 {pos : Pos} {env : Env} (n : noStar e = true) : ((backTo pos (starEach [e] env)).all (fun x => !x.1) && (backToKw pos (keywordEach [] env)).all (fun x => x.1.isSome)
      && decide (([e] : List Expr).length + ([] : List Keyword).length + (if ([] : List Keyword).isEmpty then 0 else 1) < 30)) = true := by
  rw [star_cons n]
  rfl
theorem je_app {apos : Pos} {x : Str} (ex : x = "append") (n0 : notCall a = true) (n : noStar e = true) (hl : (apos.endLine == pos.line) = true) (ho : PE X a (TEr X.K ω oa)) (he : PE X e (TEr X.K ω ob)) :
    PE X (.Call (.Attribute a x apos) [e] [] pos) (TEr X.K ω fun st h => Py.bnd (oa st h) fun x h => match lstOf h x with
    | some _ => Py.bnd (Py.bnd (ob st h) mat) fun d h => opApp x d h
    | none => .fail) := by
  subst ex
  refine pe_imp (pe_bm PySem.F.plainAttrs_list PySem.F.slot_list_append PySem.F.type_list_append mt_append ho (pa_cons (jd he) pa_nil (star_cons n)) (base_plain n0) (few1 n) hl (star_cons n) rfl) fun σ H Q ⟨φ, h, st, R, S, q⟩ => ?_
  refine ⟨φ, h, st, R, S, ?_⟩
  refine Post.seq q fun x h1 e1 q φ1 H1 v1 w1 R1 r1 => ?_
  split at q
  rotate_left
  · exact q.elim
  rename_i ds0 e0
  obtain ⟨a0, xs0, rfl, q0, _⟩ := lstOf_ok R1 r1 e0
  refine ⟨.inl ⟨rfl, xs0, SqL.of q0⟩, φ1, h1, st, R1, S.mono R w1, ?_⟩
  refine Post.seqW q R w1 R1 fun d h2 e2 q φ2 H2 v2 w2 R2 r2 => ?_
  unfold opApp at q
  split at q
  · rename_i k
    split at q
    · rename_i ds e3
      split at q
      · cases (r1 : VR X.K φ1 H1 _ (.ref a0)) with
        | ref ea =>
          have ea2 := w2.get ea
          obtain ⟨xs, ex, rx⟩ := R2.lst e3 ea2
          refine ⟨_, xs, v2, rfl, rfl, ex, by rw [rx.length, ← SZ_eq]; assumption, ?_⟩
          have w3 := WX.write (ys := xs ++ [v2]) R2 ea2 ex
          exact q φ2 _ _ ((w1.trans R R1 w2).trans R R2 w3) (R2.write ea2 ex (rx.append (.cons r2 .nil))) VR.non
      · exact q.elim
    · exact q.elim
  · exact q.elim
end
end Py
/-! Core, part L: methods without arguments; own defs called. -/
namespace Py
open PySem PySem.Spec PyProof.Rows
open L2 hiding St start wipe
/-- an own def's promise: what the evaluator gives (np: how many parameters) -/
def spF [Tau] (K : PySem.W.Frag) (cf : Str → List D → Hh → Out D) (f : Str) (np : Nat) : Sp := fun vs H Q E => ∃ φ h ds, Rel K φ h H ∧ VRs K φ H ds vs ∧ ds.length = np ∧ Post K E φ H (BD K) (cf f ds h) Q
/-- a call with m arguments: the defaults behind them -/
def BindM (K : PySem.W.Frag) (cf : Str → List D → Hh → Out D) (f : Str) (fd : FuncData) (ps : List Str) (m : Nat) : Prop := ∃ (dD : List D) (dV : List V) (dU : List Value), Vals dV dU ∧ Binds K fd ps dU ∧ (∀ φ H, VRs K φ H dD dV) ∧
  ∀ ds h, ds.length = m → (ds.length + dD.length = ps.length ∧ cf f ds h = cf f (ds ++ dD) h) ∨ cf f ds h = .fail
/-- the arguments by place, then by name -/
def gk {α : Type} (p q : Nat) (us ws : List α) : List α := if us.length = p ∧ ws.length = q then us ++ ws else []
theorem gk_eq {α : Type} {p q : Nat} {us ws : List α} (h1 : us.length = p) (h2 : ws.length = q) : gk p q us ws = us ++ ws := if_pos ⟨h1, h2⟩
theorem kbind_mk {K : PySem.W.Frag} {fd : FuncData} {ps ks : List Str} (hp : 0 < ps.length) (h : ∀ us ws : List Value, us.length = ps.length - ks.length → ws.length = ks.length → bindArgs fd ⟨us, ks.zip ws⟩ = pure (ps.zip (us ++ ws))) :
    KBinds K fd ps ks (gk (ps.length - ks.length) ks.length) (gk (ps.length - ks.length) ks.length) := by
  refine ⟨fun s us ws _ hl => ?_, fun {vs us zs ws} r1 r2 => ?_⟩
  · unfold gk at hl ⊢
    split at hl
    · rename_i c
      rw [if_pos c]
      exact .of_eq (h us ws c.1 c.2)
    · rw [List.length_nil] at hl
      omega
  · unfold gk
    rw [r1.length, r2.length]
    split
    · exact r1.append r2
    · exact .nil
/-- a def that may be called here -/
theorem spF_off {τ : Tau} {K : PySem.W.Frag} {cf : Str → List D → Hh → Out D} {f : Str} {np : Nat} {vs : List V} {H : Hp} {Q : VK} {E : XK} (q : @spF τ K cf f np vs H Q E) : @spF τ.off K cf f np vs H Q E := by
  obtain ⟨φ, h, ds, R, r, l, p⟩ := q
  exact ⟨φ, h, ds, R.off, r, l, p.off⟩
def FOk [τ : Tau] (X : Cx) (cf : Str → List D → Hh → Out D) (kw : Str → List Str → Nat → Bool) (f : Str) : Prop := ∃ k fa fd ps, X.mg f = some (.ref fa) ∧ PySem.W.keepIn X.K (.ref fa) = true ∧
  FnOk X.prog X.w X.K X.mg X.base (L2.CX X.prog X.w) k fa fd ps (@spF τ.off X.K cf f ps.length) ∧ Room k X.A ∧ (∀ m, BindM X.K cf f fd ps m) ∧ ∀ ks n, kw f ks n = true → n + ks.length = ps.length ∧ KBinds X.K fd ps ks (gk (ps.length - ks.length) ks.length) (gk (ps.length - ks.length) ks.length)
section
variable [Tau] {ω : Wsh} {ε : XK} {X : Cx} {K : PySem.W.Frag} {φ φ0 φ1 : List Addr} {h h1 : Hh} {H H0 H1 : Hp} {st : St} {σ : L2.St} {e a b c : Expr} {es : List Expr} {oa ob : St → Hh → Out RV} {pos p : Pos} {k : Nat} {α : Type}
/-! ### methods of lists without arguments -/
def m0Name : M0 → Str
  | .pop => "pop" | .rev => "reverse" | .clr => "clear"
theorem m0_run (m : M0) : ∃ id, Slot "list" (m0Name m) id ∧ typeOf (.builtin id) = pure (.type "method_descriptor") ∧ MtR X id fun x vs H Q => vs = [] ∧ TR1 X.K (opM0 m) x H Q := by
  have key : ∀ {x : V} {H : Hp} {Q : VK}, TR1 X.K (opM0 m) x H Q → ∃ a xs, x = .ref a ∧ H a = some (.lst xs) ∧ (match m with
      | .pop => ∃ y, xs[xs.length - 1]? = some y ∧ Q y (upd H a (.lst xs.dropLast))
      | .rev => Q .non (upd H a (.lst xs.reverse))
      | .clr => Q .non (upd H a (.lst []))) := by
    rintro x H Q ⟨φ, h, r, Ha, R, rx, ε, q⟩
    unfold opM0 at q
    split at q
    · split at q
      · rename_i ds e1
        cases (rx : VR X.K φ H _ x) with
        | @ref _ ad ea =>
          obtain ⟨xs, ex, rr⟩ := R.lst e1 ea
          refine ⟨ad, xs, rfl, ex, ?_⟩
          cases m with
          | pop =>
            simp only at q ⊢
            split at q
            · rename_i d e2
              obtain ⟨y, ey, ry⟩ := rr.get e2
              have w := WX.write (ys := xs.dropLast) R ea ex
              exact ⟨y, by rw [rr.length]; exact ey, q φ _ _ w (R.write ea ex rr.dropLast) (ry.mono R w)⟩
            · exact q.elim
          | rev => exact q φ _ _ (WX.write R ea ex) (R.write ea ex rr.reverse) VR.non
          | clr => exact q φ _ _ (WX.write R ea ex) (R.write ea ex .nil) VR.non
      · exact q.elim
    · exact q.elim
  cases m with
  | pop =>
    refine ⟨_, PySem.F.slot_list_pop, PySem.F.type_list_pop, fun pins s σ H x xs v us Q I rx rxs ⟨hv, z⟩ => ?_⟩
    obtain ⟨a, ys, rfl, e, y, ey, q⟩ := key z
    exact mt_pop pins s σ H _ xs v us Q I rx rxs ⟨a, ys, y, rfl, hv, e, ey, q⟩
  | rev =>
    refine ⟨_, PySem.F.slot_list_reverse, PySem.F.type_list_reverse, fun pins s σ H x xs v us Q I rx rxs ⟨hv, z⟩ => ?_⟩
    obtain ⟨a, ys, rfl, e, q⟩ := key z
    exact mt_reverse pins s σ H _ xs v us Q I rx rxs ⟨a, ys, rfl, hv, e, q⟩
  | clr =>
    refine ⟨_, PySem.F.slot_list_clear, PySem.F.type_list_clear, fun pins s σ H x xs v us Q I rx rxs ⟨hv, z⟩ => ?_⟩
    obtain ⟨a, ys, rfl, e, q⟩ := key z
    exact mt_clear pins s σ H _ xs v us Q I rx rxs ⟨a, ys, rfl, hv, e, q⟩
theorem m0_list {m : M0} {x : RV} {h : Hh} {Q : VK} (q : Post K ε φ H (BR K H) (opM0 m x h) Q) : ∃ ds, lstOf h x = some ds := by
  unfold opM0 at q
  split at q
  · split at q
    · rename_i ds e1
      exact ⟨ds, by simp only [lstOf, e1]⟩
    · exact q.elim
  · exact q.elim
theorem je_m0 {m : M0} {apos : Pos} {x : Str} (ex : x = m0Name m) (n0 : notCall a = true) (hl : (apos.endLine == pos.line) = true) (ho : PE X a (TEr X.K ω oa)) :
    PE X (.Call (.Attribute a x apos) [] [] pos) (TEr X.K ω fun st h => Py.bnd (oa st h) fun x h => opM0 m x h) := by
  subst ex
  obtain ⟨id, slot, hty, run⟩ := m0_run (X := X) m
  refine pe_imp (pe_bm0 PySem.F.plainAttrs_list slot hty run ho (base_plain n0) hl) fun σ H Q ⟨φ, h, st, R, S, q⟩ => ?_
  refine ⟨φ, h, st, R, S, ?_⟩
  refine Post.seq q fun x h1 e1 q φ1 H1 v1 w1 R1 r1 => ?_
  have q := q.shR R w1 R1
  obtain ⟨ds, e2⟩ := m0_list q
  obtain ⟨ad, xs, rfl, sq, _⟩ := lstOf_ok R1 r1 e2
  exact ⟨.inl ⟨rfl, xs, SqL.of sq⟩, rfl, φ1, h1, x, H, R1, r1, _, q⟩

/-! ### methods of lists with one argument -/
def m1Name : M1 → Str
  | .extend => "extend" | .index => "index" | .popat => "pop"
theorem m1_run (hu : X.A.units + 128 < cLine) (m : M1) : ∃ id, Slot "list" (m1Name m) id ∧ typeOf (.builtin id) = pure (.type "method_descriptor") ∧ MtR X id fun x vs H Q => ∃ y, vs = [y] ∧ TR2 X.K (opM1 m) x y H Q := by
  cases m with
  | index =>
    refine ⟨_, PySem.F.slot_list_index, PySem.F.type_list_index, fun pins s σ H x xs v us Q I rx rxs ⟨y, hv, φ, h, a, b, Ha, Hb, R, ra, rb, ε, q⟩ => ?_⟩
    simp only [opM1] at q
    split at q
    · rename_i ds d e1 e2
      obtain ⟨d1, s1⟩ := toPR_ok R ra e1
      obtain ⟨d2, s2⟩ := toPR_ok R rb e2
      split at q
      · rename_i j ej
        obtain ⟨hj, h1, h2⟩ := List.findIdx?_eq_some_iff_getElem.mp ej
        cases d1 with
        | @lst ad ys _ sq da =>
        refine mt_indexD (by omega) pins s σ H _ xs v us Q I rx rxs ⟨ad, y, d, ds, j, ds[j], rfl, hv, .lst sq da, d2, s1, s2, List.getElem?_eq_getElem hj, h1, fun m z hm ez => ?_, q.here R (VR.int _)⟩
        obtain ⟨hm2, rfl⟩ := List.getElem?_eq_some_iff.mp ez
        simpa using h2 m hm
      · exact q.elim
    · exact q.elim
  | extend =>
    refine ⟨_, PySem.F.slot_list_extend, PySem.F.type_list_extend, fun pins s σ H x xs v us Q I rx rxs ⟨y, hv, φ, h, a, b, Ha, Hb, R, ra, rb, ε, q⟩ => ?_⟩
    simp only [opM1] at q
    split at q
    · rename_i k es e1
      split at q
      · rename_i ds e2
        split at q
        · rename_i hz
          cases (ra : VR X.K φ H _ x) with
          | @ref _ ad ea =>
          obtain ⟨ws, ex, rr⟩ := R.lst e2 ea
          obtain ⟨b2, zs, rfl, eb, r2⟩ := lstOf_ok R rb e1
          refine mt_extend pins s σ H _ xs v us Q I rx rxs ⟨ad, b2, ws, zs, rfl, hv, ex, eb, by rw [rr.length, r2.length, ← SZ_eq]; exact hz, ?_⟩
          exact q φ _ _ (WX.write R ea ex) (R.write ea ex (rr.append r2)) VR.non
        · exact q.elim
      · exact q.elim
    · exact q.elim
  | popat =>
    refine ⟨_, PySem.F.slot_list_pop, PySem.F.type_list_pop, fun pins s σ H x xs v us Q I rx rxs ⟨y, hv, φ, h, a, b, Ha, Hb, R, ra, rb, ε, q⟩ => ?_⟩
    simp only [opM1] at q
    split at q
    · rename_i k i
      split at q
      · rename_i ds e2
        split at q
        · rename_i hz
          split at q
          · rename_i d ed
            cases (ra : VR X.K φ H _ x) with
            | @ref _ ad ea =>
            obtain ⟨ws, ex, rr⟩ := R.lst e2 ea
            obtain ⟨w, ew, rw'⟩ := rr.get ed
            have hl := (List.getElem?_eq_some_iff.mp ew).1
            have rb := rb.int
            subst rb
            refine mt_popAt pins s σ H _ xs v us Q I rx rxs ⟨ad, ws, i, i.toNat, w, rfl, hv, ex, by omega, by omega, ?_, ew, ?_⟩
            · have c1 : decide (0 ≤ i) = true := decide_eq_true hz.1
              have c2 : decide (i < (ws.length : Int)) = true := decide_eq_true (by have := hz.1; omega)
              have c3 : ¬ i < 0 := by have := hz.1; omega
              simp only [seqIndex?, if_neg c3, c1, c2, Bool.and_self, if_true]
            · exact q φ _ _ (WX.write R ea ex) (R.write ea ex (rr.eraseIdx _)) (rw'.mono R (WX.write R ea ex))
          · exact q.elim
        · exact q.elim
      · exact q.elim
    · exact q.elim
theorem je_m1 {m : M1} {apos : Pos} {x : Str} (hu : X.A.units + 128 < cLine) (ex : x = m1Name m) (n0 : notCall a = true) (n : noStar e = true) (hl : (apos.endLine == pos.line) = true) (ho : PE X a (TEr X.K ω oa)) (he : PE X e (TEr X.K ω ob)) :
    PE X (.Call (.Attribute a x apos) [e] [] pos) (TEr X.K ω fun st h => Py.bnd (oa st h) fun x h => match lsOf h x with
    | some _ => Py.bnd (ob st h) fun y h => opM1 m x y h
    | none => .fail) := by
  subst ex
  obtain ⟨id, slot, hty, run⟩ := m1_run (X := X) hu m
  refine pe_imp (pe_bm PySem.F.plainAttrs_list slot hty run ho (pa_cons he pa_nil (star_cons n)) (base_plain n0) (few1 n) hl (star_cons n) rfl) fun σ H Q ⟨φ, h, st, R, S, q⟩ => ?_
  refine ⟨φ, h, st, R, S, ?_⟩
  refine Post.seq q fun x h1 e1 q φ1 H1 v1 w1 R1 r1 => ?_
  split at q
  rotate_left
  · exact q.elim
  rename_i ds0 e0
  obtain ⟨a0, xs0, rfl, q0, _⟩ := lsOf_ok R1 r1 e0
  refine ⟨.inl ⟨rfl, xs0, q0⟩, φ1, h1, st, R1, S.mono R w1, ?_⟩
  exact Post.seq (q.shR R w1 R1) fun y h2 e2 q φ2 H2 v2 w2 R2 r2 => ⟨v2, rfl, φ2, h2, x, y, H, H1, R2, r1.mono R1 w2, r2, _, q.shR R1 w2 R2⟩

/-! ### d.get(k, x) -/
theorem je_dget {k x : Expr} {oc : St → Hh → Out RV} {apos : Pos} {nm : Str} (hu : X.A.units + 128 < cLine) (ex : nm = "get") (n0 : notCall a = true) (n1 : noStar k = true) (n2 : noStar x = true) (hl : (apos.endLine == pos.line) = true) (ho : PE X a (TEr X.K ω oa)) (hk : PE X k (TEr X.K ω ob)) (hx : PE X x (TEr X.K ω oc)) :
    PE X (.Call (.Attribute a nm apos) [k, x] [] pos) (TEr X.K ω fun st h => Py.bnd (oa st h) fun a h => match dOf h a with
    | some _ => Py.bnd (ob st h) fun k h => Py.bnd (Py.bnd (oc st h) mat) fun x h => opDget a k x h
    | none => .fail) := by
  subst ex
  refine pe_imp (pe_getN (by omega) ho hk (jd hx) ⟨base_plain n0, by rw [star_cons n1, star_cons n2]; rfl, hl, by rw [star_cons n1, star_cons n2]; rfl⟩) fun σ H Q ⟨φ, h, st, R, S, q⟩ => ?_
  refine ⟨φ, h, st, R, S, ?_⟩
  refine Post.seq q fun x h1 e1 q φ1 H1 v1 w1 R1 r1 => ?_
  have q := q.shR R w1 R1
  split at q
  rotate_left
  · exact q.elim
  rename_i tk eo
  obtain ⟨kn, rfl⟩ : ∃ kn, x = .val (.ref kn) := by
    cases x with
    | raw _ => cases eo
    | val d => cases d with
      | ref kn => exact ⟨kn, rfl⟩
      | _ => cases eo
  cases (r1 : VR X.K φ1 H1 _ v1) with
  | @ref _ ad ea =>
  refine ⟨ad, rfl, ⟨φ1, h1, kn, tk, R1, ea, eo⟩, ?_⟩
  refine ⟨φ1, h1, st, R1, S.mono R w1, ?_⟩
  refine Post.seq q fun y h2 e2 q φ2 H2 v2 w2 R2 r2 => ?_
  have w12 := w1.trans R R1 w2
  refine ⟨φ2, h2, st, R2, S.mono R w12, ?_⟩
  refine Post.seqW q R1 w2 R2 fun dz h3 e3 q φ3 H3 v3 w3 R3 r3 => ?_
  unfold opDget at q
  split at q
  rotate_left
  · exact q.elim
  rename_i t kvs eo3
  cases y with
  | raw _ => exact q.elim
  | val d =>
  simp only at q
  split at q
  rotate_left
  · exact q.elim
  rename_i ok
  refine ⟨φ3, h3, kn, t, kvs, d, dz, R3, w3.get (w2.get ea), eo3, ok, (show VR X.K φ2 H2 d v2 from r2).mono R2 w3, r3, fun v rv => ?_⟩
  exact q φ3 H3 v (w2.trans R1 R2 w3) R3 rv

/-- .. d.get(k) -/
theorem je_dget1 {k : Expr} {apos : Pos} {nm : Str} (hu : X.A.units + 128 < cLine) (ex : nm = "get") (n0 : notCall a = true) (n1 : noStar k = true) (hl : (apos.endLine == pos.line) = true) (ho : PE X a (TEr X.K ω oa)) (hk : PE X k (TEr X.K ω ob)) :
    PE X (.Call (.Attribute a nm apos) [k] [] pos) (TEr X.K ω fun st h => Py.bnd (oa st h) fun a h => match dOf h a with
    | some _ => Py.bnd (ob st h) fun k h => Py.bnd (Py.bnd (.ok (.val .non) h) mat) fun x h => opDget a k x h
    | none => .fail) := by
  subst ex
  refine pe_imp (pe_getN1 (by omega) ho hk ⟨base_plain n0, few1 n1, hl, by rw [star_cons n1]; rfl⟩) fun σ H Q ⟨φ, h, st, R, S, q⟩ => ?_
  refine ⟨φ, h, st, R, S, ?_⟩
  refine Post.seq q fun x h1 e1 q φ1 H1 v1 w1 R1 r1 => ?_
  have q := q.shR R w1 R1
  split at q
  rotate_left
  · exact q.elim
  rename_i tk eo
  obtain ⟨kn, rfl⟩ : ∃ kn, x = .val (.ref kn) := by
    cases x with
    | raw _ => cases eo
    | val d => cases d with
      | ref kn => exact ⟨kn, rfl⟩
      | _ => cases eo
  cases (r1 : VR X.K φ1 H1 _ v1) with
  | @ref _ ad ea =>
  refine ⟨ad, rfl, ⟨φ1, h1, kn, tk, R1, ea, eo⟩, ?_⟩
  refine ⟨φ1, h1, st, R1, S.mono R w1, ?_⟩
  refine Post.seq q fun y h2 e2 q φ2 H2 v2 w2 R2 r2 => ?_
  have q : Post _ _ _ _ _ (opDget (.val (.ref kn)) y .non h2) _ := q
  unfold opDget at q
  split at q
  rotate_left
  · exact q.elim
  rename_i t kvs eo3
  cases y with
  | raw _ => exact q.elim
  | val d =>
  simp only at q
  split at q
  rotate_left
  · exact q.elim
  rename_i ok
  exact ⟨φ2, h2, kn, t, kvs, d, R2, w2.get ea, eo3, ok, r2, fun v rv => q φ2 H2 v w2 R2 rv⟩

/-! ### texts -/
theorem vrs_strs {K : PySem.W.Frag} {φ : List Addr} {H : Hp} : ∀ zs : List Str, VRs K φ H (zs.map D.str) (zs.map V.str)
  | [] => .nil
  | z :: zs => .cons (VR.str z) (vrs_strs zs)
theorem asStrs_ok {K : PySem.W.Frag} {φ : List Addr} {H : Hp} : ∀ {ds : List D} {vs : List V} {zs : List Str}, VRs K φ H ds vs → asStrs ds = some zs → vs = zs.map V.str
  | [], _, zs, .nil, e => by cases e; rfl
  | d :: ds, _, zs, .cons r t, e => by
    obtain ⟨z, cs, e1, e2, rfl⟩ := allSome_cons e
    cases d with
    | str x =>
      cases e1
      cases r
      rw [List.map_cons, ← asStrs_ok t e2]
    | _ => cases e1
def smName : SM → Str
  | .join => "join" | .split => "split" | .part => "partition"
theorem sm_run (m : SM) : ∃ id, Slot "str" (smName m) id ∧ typeOf (.builtin id) = pure (.type "method_descriptor") ∧ MtR X id fun x vs H Q => ∃ y, vs = [y] ∧ TR2 X.K (opSM m) x y H Q := by
  cases m with
  | join =>
    refine ⟨_, PySem.F.slot_str_join, PySem.F.type_str_join, fun pins s σ H x xs v us Q I rx rxs ⟨y, hv, φ, h, a, b, Ha, Hb, R, ra, rb, ε, q⟩ => ?_⟩
    simp only [opSM] at q
    split at q
    · rename_i z zs e1
      split at q
      · rename_i hz
        obtain ⟨ds, e2, e3⟩ := Option.bind_eq_some_iff.mp e1
        obtain rfl := ra.str
        obtain ⟨p, ys, rfl, sq, rr⟩ := seqOf_ok R rb e2
        have ev := asStrs_ok rr e3
        subst ev
        exact mt_join pins s σ H _ xs v us Q I rx rxs ⟨z, p, zs, rfl, hv, sq, hz, q.here R (VR.str _)⟩
      · exact q.elim
    · exact q.elim
  | split =>
    refine ⟨_, PySem.F.slot_str_split, PySem.F.type_str_split, fun pins s σ H x xs v us Q I rx rxs ⟨y, hv, φ, h, a, b, Ha, Hb, R, ra, rb, ε, q⟩ => ?_⟩
    simp only [opSM] at q
    split at q
    · rename_i z w
      split at q
      · rename_i hz
        obtain rfl := ra.str
        obtain rfl := rb.str
        exact mt_split pins s σ H _ xs v us Q I rx rxs ⟨z, w, rfl, hv, hz.1, by rw [← SZ_eq]; exact hz.2, fun p hp => raw_new R hp (vrs_strs _) q⟩
      · exact q.elim
    · exact q.elim
  | part =>
    refine ⟨_, PySem.F.slot_str_partition, PySem.F.type_str_partition, fun pins s σ H x xs v us Q I rx rxs ⟨y, hv, φ, h, a, b, Ha, Hb, R, ra, rb, ε, q⟩ => ?_⟩
    simp only [opSM] at q
    split at q
    · rename_i z w
      split at q
      · rename_i hz
        obtain rfl := ra.str
        obtain rfl := rb.str
        exact mt_partition pins s σ H _ xs v us Q I rx rxs ⟨z, w, rfl, hv, hz.1, by rw [← SZ_eq]; exact hz.2, fun p hp => tup_new R hp (vrs_strs [_, _, _]) q⟩
      · exact q.elim
    · exact q.elim
theorem je_sm {m : SM} {apos : Pos} {x : Str} (ex : x = smName m) (n0 : notCall a = true) (n : noStar e = true) (hl : (apos.endLine == pos.line) = true) (ho : PE X a (TEr X.K ω oa)) (he : PE X e (TEr X.K ω ob)) :
    PE X (.Call (.Attribute a x apos) [e] [] pos) (TEr X.K ω fun st h => Py.bnd (oa st h) fun x h => match x with
    | .val (.str _) => Py.bnd (ob st h) fun y h => opSM m x y h
    | _ => .fail) := by
  subst ex
  obtain ⟨id, slot, hty, run⟩ := sm_run (X := X) m
  refine pe_imp (pe_m1 slot hty run ho he (star_cons n) (base_plain n0) hl) fun σ H Q ⟨φ, h, st, R, S, q⟩ => ?_
  refine ⟨φ, h, st, R, S, ?_⟩
  refine Post.seq q fun x h1 e1 q φ1 H1 v1 w1 R1 r1 => ?_
  split at q
  rotate_left
  · exact q.elim
  rename_i z
  have e := VRR.str r1
  refine ⟨⟨z, e⟩, φ1, h1, st, R1, S.mono R w1, ?_⟩
  exact Post.seq (q.shR R w1 R1) fun y h2 e2 q φ2 H2 v2 w2 R2 r2 => ⟨v2, rfl, φ2, h2, _, y, H, H1, R2, r1.mono R1 w2, r2, _, q.shR R1 w2 R2⟩
theorem sin_ok (n : Bool) : OpR X (compareOp (if n = true then .NotIn else .In)) (TR2 X.K (opSin n)) := by
  intro pins s σ H x y v u Q I rx ry ⟨φ, h, a, b, Ha, Hb, R, ra, rb, ε, q⟩
  unfold opSin at q
  split at q
  · rename_i z w
    obtain rfl := ra.str
    obtain rfl := rb.str
    split at q
    · rename_i c ec
      have ez : z = ⟨#[c]⟩ := by
        cases z with
        | mk cps => exact congrArg Str.mk (Array.toList_inj.mp ec)
      subst ez
      cases n with
      | true => exact op_notIn_sign pins s σ H _ _ v u Q I rx ry ⟨c, w, rfl, rfl, q.here R (VR.bl _)⟩
      | false => exact op_in_sign pins s σ H _ _ v u Q I rx ry ⟨c, w, rfl, rfl, q.here R (VR.bl _)⟩
    · exact q.elim
  · exact q.elim
theorem je_sin {n : Bool} {op : CmpOp} (eo : op = if n = true then CmpOp.NotIn else CmpOp.In) (hm : behindInMarks op b = false) (ha : PE X a (TEr X.K ω oa)) (hb : PE X b (TEr X.K ω ob)) :
    PE X (.Compare a [op] [b] pos) (TEr X.K ω fun st h => Py.bnd (oa st h) fun x h => Py.bnd (ob st h) fun y h => opSin n x y h) := by
  subst eo
  exact je_cmp (sin_ok n) ha hb hm
theorem opSin_bl {n : Bool} {x y r : RV} {h h' : Hh} (e : opSin n x y h = .ok r h') : ∃ b : Bool, r = .val (.bl b) := by
  unfold opSin at e
  split at e
  · split at e
    · cases e
      exact ⟨_, rfl⟩
    · cases e
  · cases e
theorem jt_sin {n : Bool} {op : CmpOp} (eo : op = if n = true then CmpOp.NotIn else CmpOp.In) (hm : behindInMarks op b = false) (ha : PE X a (TEr X.K ω oa)) (hb : PE X b (TEr X.K ω ob)) :
    PT X (.Compare a [op] [b] pos) (TBr X.K ω (truO fun st h => Py.bnd (oa st h) fun x h => Py.bnd (ob st h) fun y h => opSin n x y h)) := by
  subst eo
  exact pt_imp (pt_cmpR (sin_ok n) ha hb hm) fun _ _ _ q => two (tru_bl (fun st h r h' e => by
    obtain ⟨x, h1, _, e⟩ := bnd_ok_of e
    obtain ⟨y, h2, _, e⟩ := bnd_ok_of e
    exact opSin_bl e) q)
/-- a name at the top that holds a text -/
def GlbS (x : Str) (o : Option Value) : Prop := match glbV x with
  | none => o = none
  | some v => ∃ tk, o = some (.str v tk)
theorem je_glob {x : Str} (hg : Gl X x) (hm : GlbS x (X.mg x)) (hd : (x == ("__debug__" : Str)) = false) : PE X (.Name x pos) (TEr X.K ω fun _ h => match glbV x with
    | some v => .ok (.val (.str v)) h
    | none => .fail) := by
  unfold GlbS at hm
  cases e : glbV x with
  | none =>
    refine ⟨fun pins s σ H Q I ⟨φ, h, st, R, S, q⟩ => ?_⟩
    simp only [e] at q
    exact q.elim
  | some v =>
    rw [e] at hm
    obtain ⟨tk, hm⟩ := hm
    exact je_c (pe_glob (v := .str v) hg hm ⟨tk, rfl⟩ hd) fun _ _ => VR.str v
theorem ji_txt {tg : Expr} (he : PE X e (TEr X.K ω oa)) : PI X tg e (TIr X.K ω fun st h => Py.bnd (oa st h) fun x h => match x with
    | .val (.str z) => .ok (signs z, []) h
    | _ => .fail) := pi_imp (pi_str he) fun σ H Rr ⟨φ, h, st, R, S, q⟩ => by
  refine ⟨φ, h, st, R, S, ?_⟩
  refine Post.seq q fun x h1 e1 eo φ1 H1 v1 w1 R1 r1 => ?_
  split at eo
  rotate_left
  · exact eo.elim
  rename_i z
  have e := VRR.str r1
  refine ⟨z, e, eo φ1 H1 _ w1 R1 ⟨fun φ' h' H' i d w R s ed => ?_, fun φ' h' H' w R s => ?_⟩⟩
  · unfold signs at ed
    rw [List.getElem?_map] at ed
    obtain ⟨c, ec, rfl⟩ := Option.map_eq_some_iff.mp ed
    have ec2 : z.cps[i]? = some c := by rw [← Array.getElem?_toList]; exact ec
    refine ⟨(Array.getElem?_eq_some_iff.mp ec2).1, fun x H2 ⟨e1, c2, e2, e3⟩ => ?_⟩
    subst e1
    rw [ec2] at e2
    cases e2
    subst e3
    exact ⟨WX.refl, R, VR.str _⟩
  · show z.cps.size ≤ (signs z).length
    unfold signs
    rw [List.length_map, Array.length_toList]
    exact Nat.le_refl _

/-! ### own defs -/
theorem passes_at (tk : L2.Takes X ω) (σ : L2.St) : PassesAt (L2.CX X.prog X.w) X σ (wAt ω σ) := fun _ _ _ e s' I c => tk e s' (L2.XE.of_call I (fun _ _ _ h => h) c)
theorem je_call {cf : Str → List D → Hh → Out D} {kw : Str → List Str → Nat → Bool} {f : Str} {m : Nat} {os : St → Hh → Out (List D)} (tk : L2.Takes X ω) (F : FOk X cf kw f) (hm : ∀ st h ds h', os st h = .ok ds h' → ds.length = m) (hg : Gl X f) (hd : (f == ("__debug__" : Str)) = false) (n : (e :: es).all noStar = true) (ha : PA X (e :: es) (TAr X.K ω os)) :
    PE X (.Call (.Name f p) (e :: es) [] pos) (TEr X.K ω fun st h => Py.bnd (os st h) fun ds h => Py.bnd (cf f ds h) fun d h => .ok (.val d) h) := by
  obtain ⟨k, fa, fd, ps, mg, kp, F, hr, hb, _⟩ := F
  obtain ⟨dD, dV, dU, rv, hb, rd, he⟩ := hb m
  rw [List.all_cons, Bool.and_eq_true] at n
  refine pe_imp (pe_callSD F hr hg mg kp hb rv (passes_at tk) ha hd (star_cons n.1) (starsN es _ n.2)) fun σ H Q ⟨φ, h, st, R, S, q⟩ => ?_
  refine ⟨φ, h, st, R, S, ?_⟩
  refine Post.seq q fun ds h1 e1 q φ1 H1 vs w1 R1 r1 => ?_
  rcases he ds h1 (hm _ _ _ _ e1) with ⟨z1, z2⟩ | z
  · refine spF_off ⟨φ1, h1, ds ++ dD, R1, r1.append (rd φ1 H1), by rw [List.length_append]; exact z1, ?_⟩
    rw [← z2]
    exact Post.seqW q R w1 R1 fun d h2 e2 q φ2 H2 v2 w2 R2 r2 => q φ2 H2 v2 (w1.trans R R1 w2) R2 r2
  · rw [z] at q
    exact q.elim
theorem je_call0 {cf : Str → List D → Hh → Out D} {kw : Str → List Str → Nat → Bool} {f : Str} (tk : L2.Takes X ω) (F : FOk X cf kw f) (hg : Gl X f) (hd : (f == ("__debug__" : Str)) = false) :
    PE X (.Call (.Name f p) [] [] pos) (TEr X.K ω fun _ h => Py.bnd (cf f [] h) fun d h => .ok (.val d) h) := by
  obtain ⟨k, fa, fd, ps, m, kp, F, hr, hb, _⟩ := F
  obtain ⟨dD, dV, dU, rv, hb, rd, he⟩ := hb 0
  refine ⟨fun pins s σ H Q I ⟨φ, h, st, R, S, q⟩ => ?_⟩
  refine wpAny_Call_Name_kw (ld_glob I hg m ?_ hd)
  refine PySem.W.callWith_K0 I.kIn kp (run_fnSD (us := []) (vs := []) (E := fun σ => wAt ω σ) F hr hb rv (passes_at tk σ) I .nil ?_)
  rcases he [] h rfl with ⟨z1, z2⟩ | z
  · refine spF_off ⟨φ, h, dD, R, rd φ H, by rw [List.length_nil, Nat.zero_add] at z1; exact z1, ?_⟩
    rw [← List.nil_append dD, ← z2]
    exact Post.seq q fun d h2 e2 q φ2 H2 v2 w2 R2 r2 => q φ2 H2 v2 w2 R2 r2
  · dsimp only at q
    rw [z] at q
    exact q.elim
theorem run_fnkS {X : Cx} {CX : CXT} {k : Nat} {f : Addr} {fd : FuncData} {ps ks : List Str} {sp : Sp} {g : List Value → List Value → List Value} {gV : List V → List V → List V} {pins : List (Addr × Obj)} {σ : L2.St} {H : Hp} {s : Shared} {Q : VK} {E : XK} {us ws : List Value} {vs zs : List V}
    (F : FnOk X.prog X.w X.K X.mg X.base CX k f fd ps sp) (hr : Room k X.A) (hb : KBinds X.K fd ps ks g gV) (hx : PassesAt CX X σ E)
    (I : L2.Inv X pins σ H s) (r : Vals vs us) (rz : Vals zs ws) (h : sp (gV vs zs) H Q E) : wpAny (model X.prog X.w) X.A (call (.ref f) us (ks.zip ws)) (EP X pins σ Q) X.xe s := by
  have r2 := hb.rel r rz
  have hl : (g us ws).length = ps.length := by rw [← r2.length]; exact F.len _ _ _ _ h
  refine wpAny_call (codeAny_mono (F.run X.A X.stack s H ⟨us, ks.zip ws⟩ (g us ws) (gV vs zs) Q E hr I.env0 (hb.to s us ws I.kIn hl) r2 h) fun r s' hq => ?_)
  cases r with
  | error e => exact hx pins H s e s' I hq
  | ok fl =>
    cases fl with
    | ret u => exact I.after hq
    | next => exact False.elim hq
    | brk => exact False.elim hq
    | cont => exact False.elim hq
/-- the keywords' values -/
theorem jk_nil : PK X [] (TAr X.K ω fun _ h => .ok [] h) := ⟨fun pos pins s σ H Q I ⟨φ, h, st, R, S, q⟩ => pk_nil.run pos pins s σ H Q I (q.here R VRs.nil)⟩
theorem jk_cons {kws : List Keyword} {nm : Option Str} {kpos : Pos} {od : St → Hh → Out D} {os : St → Hh → Out (List D)} (ha : PE X e (TDr X.K ω od)) (hr : PK X kws (TAr X.K ω os)) :
    PK X (⟨nm, e, kpos⟩ :: kws) (TAr X.K ω fun st h => Py.bnd (od st h) fun d h => Py.bnd (os st h) fun ds h => .ok (d :: ds) h) := ⟨fun pos pins s σ H Q I ⟨φ, h, st, R, S, q⟩ => (pk_cons ha hr).run pos pins s σ H Q I (by
  refine ⟨φ, h, st, R, S, ?_⟩
  refine Post.seq q fun d h1 e1 q φ1 H1 v1 w1 R1 r1 => ?_
  refine ⟨φ1, h1, st, R1, S.mono R w1, ?_⟩
  refine Post.seq (q.sh R w1 R1) fun ds h2 e2 q φ2 H2 vs w2 R2 r2 => ?_
  exact (q.sh R1 w2 R2).here R2 (VRs.cons (r1.mono R1 w2) r2))⟩
theorem kw_names : ∀ (kws : List Keyword) (ks : List Str) (env : Env), kws.map (·.arg) = ks.map some → (backToKw pos (keywordEach kws env)).all (·.1.isSome) = true ∧ (backToKw pos (keywordEach kws env)).filterMap (·.1) = ks ∧ (backToKw pos (keywordEach kws env)).any (·.1.isNone) = false
  | [], [], _, _ => ⟨rfl, rfl, rfl⟩
  | [], _ :: _, _, e => by cases e
  | _ :: _, [], _, e => by cases e
  | ⟨a, v, q⟩ :: kws, k :: ks, env, e => by
    rw [List.map_cons, List.map_cons] at e
    obtain ⟨e1, e2⟩ := List.cons.inj e
    have e1 : a = some k := e1
    subst e1
    obtain ⟨h1, h2, h3⟩ := kw_names kws ks env e2
    refine ⟨?_, ?_, ?_⟩
    · show (true && (backToKw pos (keywordEach kws env)).all (·.1.isSome)) = true
      rw [h1]; rfl
    · show k :: (backToKw pos (keywordEach kws env)).filterMap (·.1) = k :: ks
      rw [h2]
    · show (false || (backToKw pos (keywordEach kws env)).any (·.1.isNone)) = false
      rw [h3]; rfl
theorem callk_reads {cf : Str → List D → Hh → Out D} {f : Str} {os ok : St → Hh → Out (List D)} {Q : VK} {np nk nd : Nat} (hn : nd + nk = np) (hds : ∀ st h ds h', os st h = .ok ds h' → ds.length = nd) (hl : ∀ st h ds h', ok st h = .ok ds h' → ds.length = nk) (q : TEr K ω (fun st h => Py.bnd (os st h) fun ds h => Py.bnd (ok st h) fun es h => Py.bnd (cf f (ds ++ es) h) fun d h => .ok (.val d) h) σ H Q) :
    TAr K ω os σ H fun vs H1 => TAr K ω ok σ H1 fun zs H2 => @spF (Tau.off ‹Tau›) K cf f np (gk (np - nk) nk vs zs) H2 Q (wAt ω σ) := by
  obtain ⟨φ, h, st, R, S, q⟩ := q
  refine ⟨φ, h, st, R, S, ?_⟩
  refine Post.seq q fun ds h1 e1 q φ1 H1 vs w1 R1 r1 => ?_
  refine ⟨φ1, h1, st, R1, S.mono R w1, ?_⟩
  refine Post.seq (q.shR R w1 R1) fun es h2 e2 q φ2 H2 zs w2 R2 r2 => ?_
  have q := q.shR R1 w2 R2
  have l0 : (ds ++ es).length = np := by
    rw [List.length_append, hds _ _ _ _ e1, hl _ _ _ _ e2]
    exact hn
  have key : spF K cf f np (vs ++ zs) H2 Q (wAt ω σ) :=
    ⟨φ2, h2, ds ++ es, R2, (r1.mono R1 w2).append r2, l0, Post.seq q fun d h3 e3 q φ3 H3 v3 w3 R3 r3 => q φ3 H3 v3 w3 R3 r3⟩
  have l1 : (vs ++ zs).length = np := ((r1.mono R1 w2).append r2).length.trans l0
  have l2 : zs.length = nk := r2.length.trans (hl _ _ _ _ e2)
  rw [List.length_append] at l1
  rw [gk_eq (by omega) l2]
  exact spF_off key
theorem je_callk {cf : Str → List D → Hh → Out D} {kw : Str → List Str → Nat → Bool} {nd : Nat} {f : Str} {ks : List Str} {kws : List Keyword} {os ok : St → Hh → Out (List D)} (tk : L2.Takes X ω) (F : FOk X cf kw f) (hk : kw f ks nd = true) (hks : kws.map (·.arg) = ks.map some) (hg : Gl X f) (hd : (f == ("__debug__" : Str)) = false) (n : (e :: es).all noStar = true)
    (hds : ∀ st h ds h', os st h = .ok ds h' → ds.length = nd) (hl : ∀ st h ds h', ok st h = .ok ds h' → ds.length = ks.length) (ha : PA X (e :: es) (TAr X.K ω os)) (hkw : PK X kws (TAr X.K ω ok)) :
    PE X (.Call (.Name f p) (e :: es) kws pos) (TEr X.K ω fun st h => Py.bnd (os st h) fun ds h => Py.bnd (ok st h) fun es h => Py.bnd (cf f (ds ++ es) h) fun d h => .ok (.val d) h) := by
  obtain ⟨k, fa, fd, ps, m, kp, F, hr, hb, hkb⟩ := F
  obtain ⟨k1, k2, k3⟩ := kw_names (pos := pos) kws ks X.env hks
  have n2 := n
  rw [List.all_cons, Bool.and_eq_true] at n2
  refine ⟨fun pins s σ H Q I q => ?_⟩
  refine wpAny_Call_Name_kw (ld_glob I hg m ?_ hd)
  refine PySem.W.callWith_KW (h₀ := X.base) I.ok.mod.kin kp k1 (thn (ha.run pos pins s σ H _ I (callk_reads (hkb ks nd hk).1 hds hl q)) fun us s1 ⟨vs, H1, I1, r, q⟩ => ?_) (by rw [starsN _ _ n, k3]; rfl) (star_cons n2.1)
  refine thn (hkw.run pos pins s1 σ H1 _ I1 q) fun ws s2 ⟨zs, H2, I2, rz, q2⟩ => ⟨I2.kIn, ?_⟩
  rw [k2]
  exact run_fnkS F hr (hkb ks nd hk).2 (passes_at tk σ) I2 r rz q2
theorem je_callk0 {cf : Str → List D → Hh → Out D} {kw : Str → List Str → Nat → Bool} {nd : Nat} {f : Str} {ks : List Str} {kws : List Keyword} {ok : St → Hh → Out (List D)} (tk : L2.Takes X ω) (F : FOk X cf kw f) (hk : kw f ks nd = true) (hks : kws.map (·.arg) = ks.map some) (hg : Gl X f) (hd : (f == ("__debug__" : Str)) = false)
    (hds : nd = 0) (hl : ∀ st h ds h', ok st h = .ok ds h' → ds.length = ks.length) (hkw : PK X kws (TAr X.K ω ok)) :
    PE X (.Call (.Name f p) [] kws pos) (TEr X.K ω fun st h => Py.bnd (.ok [] h) fun ds h => Py.bnd (ok st h) fun es h => Py.bnd (cf f (ds ++ es) h) fun d h => .ok (.val d) h) := by
  obtain ⟨k, fa, fd, ps, m, kp, F, hr, hb, hkb⟩ := F
  obtain ⟨k1, k2, k3⟩ := kw_names (pos := pos) kws ks X.env hks
  refine ⟨fun pins s σ H Q I q => ?_⟩
  refine wpAny_Call_Name_kw (ld_glob I hg m ?_ hd)
  refine PySem.W.callWith_KW0 (h₀ := X.base) I.ok.mod.kin kp k1 (thn (hkw.run pos pins s σ H (fun zs H2 => @spF (Tau.off ‹Tau›) X.K cf f ps.length (gk (ps.length - ks.length) ks.length [] zs) H2 Q (wAt ω σ)) I ?_) fun ws s2 ⟨zs, H2, I2, rz, q2⟩ => ⟨I2.kIn, ?_⟩) (by rw [k3]; rfl)
  · obtain ⟨φ, h, st, R, S, q⟩ := callk_reads (hkb ks nd hk).1 (fun _ _ _ _ e => by cases e; exact hds.symm) hl q
    exact q.here R .nil
  · rw [k2]
    exact run_fnkS F hr (hkb ks nd hk).2 (passes_at tk σ) I2 .nil rz q2
end
end Py
/-! Core, part 5: exceptions: raised, caught (they stand in the own heap then), asked. -/
namespace Py
open PySem PySem.Spec PyProof.Rows
open L2 hiding St start wipe
section
variable {X : Cx} {pins : List (Addr × Obj)} {σ : L2.St} {H : Hp} {s sI : Shared} {a : Addr}
/-- a thing that is there, not tracked so far, is tracked -/
theorem track {o : HO} (I : L2.Inv X pins σ H s) (hn : H a = none) (h0 : X.s_0.heap.get? a = none) (hl : a ≠ X.env.locals) (hc : ∀ x c, X.env.cells.lookup x = some c → c ≠ a) (hp : ∀ p ∈ X.pn ++ pins, p.1 ≠ a)
    (ok : ObjOk X.prog X.w (upd H a o) s.heap a o) : L2.Inv X pins σ (upd H a o) s := by
  refine ⟨I.ok, I.os, I.bare, ⟨fun b ob q n hb hx => I.base.keep b ob q n hb hx, fun b ob q n hb hx => I.base.slot b ob q n hb hx, fun b ob q n hx => ?_, fun b ob q hx => I.base.there b ob q hx, fun b xs q => ?_, fun b ob u q => ?_, fun b ps q => ?_⟩, I.loc, I.cell, ?_, fun x c e => ?_, fun p hp' => ?_, fun b ob q => ?_, I.len⟩
  · rw [upd_ne (fun z => by rw [z, h0] at q; cases q)]
    exact I.base.free b ob q n hx
  · have z := I.base.tups b xs q
    rw [upd_ne (ne_of_none z hn)]
    exact z
  · have z := I.base.frzs b ob u q
    rw [upd_ne (ne_of_none z hn)]
    exact z
  · obtain ⟨more, z⟩ := I.base.tbls b ps q
    exact ⟨more, by rw [upd_ne (ne_of_none z hn)]; exact z⟩
  · rw [upd_ne (Ne.symm hl)]
    exact I.free
  · rw [upd_ne (hc x c e)]
    exact I.freeC x c e
  · obtain ⟨e, n, r⟩ := I.pin p hp'
    exact ⟨e, by rw [upd_ne (hp p hp')]; exact n, r⟩
  · by_cases hb : b = a
    · subst hb
      rw [upd_same] at q
      cases q
      exact ok
    · rw [upd_ne hb] at q
      exact (I.hok b ob q).stay (fun c v _ z => z) (fun c z => by rw [upd_ne (ne_of_none z hn)]; exact z) fun c xs z => by rw [upd_ne (ne_of_none z hn)]; exact z
/-- the context of an except suite; nothing is pinned for it -/
theorem suiteT (I : L2.Inv X pins σ H s) (a : Addr) : L2.Inv (X.suite a (X.pn ++ pins)) [] σ H s :=
  ⟨I.ok.suite _ _, I.os, I.bare, I.base, I.loc, I.cell, I.free, I.freeC, fun p hp => I.pin p (by rw [List.append_nil] at hp; exact hp), I.hok, I.len⟩
theorem unsuiteT {pn' : List (Addr × Obj)} (I : L2.Inv (X.suite a (X.pn ++ pins)) pn' σ H s) (ok : X.Ok) : L2.Inv X pins σ H s :=
  ⟨ok, I.os, I.bare, I.base, I.loc, I.cell, I.free, I.freeC, fun p hp => I.pin p (List.mem_append_left _ hp), I.hok, I.len⟩
end
/-- an except clause: its class, the name's slot, its suite -/
structure Hd where
  c : Value
  i : Option Nat
  ts : TS
def unE (i : Option Nat) (D : Ends) : Ends := match i with
  | some i => { nx := fun σ' H' => D.nx (σ'.set i none) H', rt := D.rt, bk := fun σ' H' => D.bk (σ'.set i none) H', ct := fun σ' H' => D.ct (σ'.set i none) H' }
  | none => D
def inE (i : Option Nat) (a : Addr) (σ : L2.St) : L2.St := match i with
  | some i => σ.set i (some (.ref a))
  | none => σ
/-- what the clauses wish of an exception of the body -/
def wT (K : PySem.W.Frag) (ω : Wsh) (D : Ends) : List Hd → Wsh
  | [] => ω
  | h :: r => fun cls d σ H => ∃ b, PySem.W.exmOne K cls h.c = some b ∧ (b = true → ∀ a, H a = none → h.ts (unE h.i D) (inE h.i a σ) (upd H a (ExO a cls d))) ∧ (b = false → wT K ω D r cls d σ H)
/-- an except clause's name -/
def HiOk (X : Cx) (i : Option Nat) (n : Option Str) : Prop := match i, n with
  | some i, some y => X.N[i]? = some y ∧ X.env.kindOf y = some .local
  | none, none => True
  | _, _ => False
inductive HdT (X : Cx) : List ExceptHandler → List Hd → Prop
  | nil : HdT X [] []
  | cons {x : Str} {n : Option Str} {h : Hd} {b₀ : Stmt} {suite : List Stmt} {np pos' : Pos} {hds : List ExceptHandler} {l : List Hd} (hc : Names X x h.c)
      (hi : HiOk X h.i n)
      (hsu : ∀ (a : Addr) (pn : List (Addr × Obj)), PSs (X.suite a pn) (b₀ :: suite) h.ts) (r : HdT X hds l) :
      HdT X (.ExceptHandler (some (.Name x np)) n (b₀ :: suite) pos' :: hds) (h :: l)
section
variable {X : Cx} {body : List Stmt} {h₀ : ExceptHandler} {hds : List ExceptHandler} {l : List Hd} {pos : Pos} {tb : Wsh → TS} {ω : Wsh}
theorem ps_tryT (hs : X.stack = X.env :: X.outer) (hf : X.env.frame = some X.env.locals) (hex : X.ex = []) (hN : X.N.Nodup) (tk : L2.Takes X ω)
    (hb : ∀ (W : Wsh) (pn : List (Addr × Obj)) (xe : Value → Shared → Prop), L2.Takes (X.tr pn xe) W → PassesOwn (model X.prog X.w) X.A X.env xe → PSs (X.tr pn xe) body (tb W))
    (hh : HdT X (h₀ :: hds) l) : PS X (.Try body (h₀ :: hds) [] [] pos) (fun D σ H => tb (wT X.K ω D l) D σ H) := by
  refine ⟨fun pins s σ H D I h => ?_⟩
  have ok := I.ok
  have hfr : X.A.frames = some (X.env :: X.outer) := by rw [ok.frames, hs]
  refine wpAny_Try_except ?_
  refine wpAny_mono ((hb (wT X.K ω D l) (X.pn ++ pins) (fun e s₁ => wpAny (model X.prog X.w) X.A (noteFrame e X.env) (fun _ s₂ => wpAny (model X.prog X.w) X.A (setFlight e none) (fun _ s₃ =>
    wpAny (model X.prog X.w) X.A (handleBy e X.env (h₀ :: hds)) (SP X pins D) X.xe s₃) X.xe s₂) X.xe s₁) (fun u s' xx => ?_) PassesOwn.looking).run [] s σ H D (I.toTry _) h) (fun f s1 hsp => ?_) (fun e s1 he => he)
  · -- the catch
    obtain ⟨a, B, sI, pins', σ', H', cls, d, rfl, J', nb, up, sky, na, os, ag, w⟩ := xx
    have J : L2.Inv X pins σ' H' sI := J'.ofTry ok
    have sky' : Sky B (X.env :: X.outer) a (Zc cls d) X.env.locals s'.heap := by rw [← hs]; exact sky
    show wpAny (model X.prog X.w) X.A (noteFrame (.ref a) X.env) _ _ _
    refine Sky.land Zc.steady hfr hf sky' fun h3 fl3 up3 => ?_
    have J3 : L2.Inv X pins σ' H' { s' with heap := h3 } := J.landed nb fl3.1 (up.trans up3) os ag
    obtain ⟨oe3, vs3, he3, hz3, hd3⟩ := fl3.there
    have notFr : ∀ {h : Heap} {o : Obj} {vs : Array Value}, h.FunFrames B (X.env :: X.outer) → h.get? a = some o → o.data = .fields vs → a ∉ frs (X.env :: X.outer) := fun {h o vs} ff e dd hm => by
      obtain ⟨_, o', e', hnf⟩ := ff.mem hm
      rw [e] at e'; cases e'
      exact hnf _ dd
    have nfr := notFr fl3.2.2.1 he3 hd3
    have nL : a ≠ X.env.locals := fun z => nfr (List.mem_filterMap.mpr ⟨X.env, List.mem_cons_self, by rw [hf, z]⟩)
    have nS : a ∉ frs X.stack := by rw [hs]; exact nfr
    have nB : B.get? a = none := fl3.2.1
    have nI : sI.heap.get? a = none := by
      cases q : sI.heap.get? a with
      | none => rfl
      | some o =>
        have z := nb a o q nS
        rw [nB] at z
        cases z
    have n0 : X.s_0.heap.get? a = none := by
      cases q : X.s_0.heap.get? a with
      | none => rfl
      | some o =>
        obtain ⟨o', z⟩ := J.base.there a o q (by rw [hex]; simp)
        rw [nI] at z
        cases z
    have nC : ∀ x c, X.env.cells.lookup x = some c → c ≠ a := fun x c e z => by
      obtain ⟨v, o, e1, e2⟩ := J.cell x c e
      rw [z, nI] at e1
      cases e1
    have nP : ∀ p ∈ X.pn ++ pins, p.1 ≠ a := fun p hp z => by
      obtain ⟨e, _⟩ := J.pin p hp
      rw [z, nI] at e
      cases e
    have go : ∀ {hds' : List ExceptHandler} {l' : List Hd}, HdT X hds' l' → wT X.K ω D l' cls d σ' H' →
        wpAny (model X.prog X.w) X.A (handleBy (.ref a) X.env hds') (SP X pins D) X.xe { s' with heap := h3 } := by
      intro hds' l' hk
      induction hk with
      | nil =>
        intro w
        refine wpAny_handleBy_nil ?_
        obtain ⟨k1, k2, k3, oe, vs, T, oT, ts', he, hz, hd, h1, hr⟩ := id fl3
        unfold PySem.passOn
        refine wpAny_bind (wpAny_field he hd h1 ?_)
        rw [if_neg (show ¬ ((Value.ref T == Value.none) = true) from by simp)]
        have fin : wpAny (model X.prog X.w) X.A (setFlight (.ref a) X.env.frame) (fun _ s4 => wpAny (model X.prog X.w) X.A (throw (.ref a) : Sem Flow) (SP X pins D) X.xe s4) X.xe { s' with heap := h3 } := by
          rw [hf]
          refine HandSPX.setFlight_upZ fl3 fun h4 hh4 up4 => wpAny_throw (tk _ _ ?_)
          exact ⟨a, B, sI, pins, σ', H', cls, d, rfl, J, nb, (up.trans up3).trans up4, .inr (.inr (by rw [hs]; exact hh4)), na, os, ag, w⟩
        first
          | exact wpAny_bind (wpAny_pure (wpAny_bind fin))
          | exact wpAny_bind fin
      | @cons x n hd b₀ suite np pos' hds2 l2 hc hi hsu r ih =>
        intro w
        obtain ⟨b, hb1, hyes, hno⟩ := w
        refine wpAny_handleBy_cons (codeAny_handlers_test ?_) (by intro q; cases q)
        have LT : PySem.W.Looks (model X.prog X.w) h3 (typeOf (.ref a)) cls := fun A Q E s k q => wpAny_typeOf_ref (k _ _ he3) (by rw [hz3.1]; exact q)
        have LM := PySem.W.exm_one (M := model X.prog X.w) (J3.kIn) LT hb1
        have S3 := suiteT J3 a
        have test : ∀ {Q : Value → Shared → Prop} {E : Value → Shared → Prop}, Q hd.c { s' with heap := h3 } → wpAny (model X.prog X.w) (X.A.mark (some (.ref a))) (eval (.Name x np) X.env) Q E { s' with heap := h3 } := fun {Q E} q => by
          obtain ⟨hg, hdbg, hm | ⟨hm, hv, hnn⟩⟩ := hc
          · exact ld_glob (X := X.suite a (X.pn ++ pins)) S3 hg hm q hdbg
          · exact ld_blt (X := X.suite a (X.pn ++ pins)) S3 hg hm hv q hnn hdbg
        refine test (LM.here ?_)
        cases b with
        | true =>
          have J4 : ∀ {h4 : Heap}, HandSPX.FlyingZ B (X.env :: X.outer) a (Zc cls d) h4 → s'.heap.UpToSlots h4 → L2.Inv X pins σ' (upd H' a (ExO a cls d)) { s' with heap := h4 } := fun {h4} fl4 up4 => by
            have K4 : L2.Inv X pins σ' H' { s' with heap := h4 } := J.landed nb fl4.1 (up.trans up4) os ag
            obtain ⟨oe4, vs4, he4, hz4, hd4⟩ := fl4.there
            refine track K4 na n0 nL nC nP ⟨⟨oe4, vs4, he4, hz4.1, hz4.2, hd4⟩, ⟨oe4, he4⟩, fun h1 h2 ⟨oe, vs, z1, z⟩ k => ⟨oe, vs, k _ z1, z⟩⟩
          cases n with
          | none =>
            cases ei : hd.i with
            | some i => rw [ei] at hi; exact hi.elim
            | none =>
            have hy := hyes rfl a na
            rw [ei] at hy
            refine codeAny_handlers_suite ?_
            refine HandSPX.lands_againZ fl3 fun h4 fl4 up4 => ?_
            have S4 := suiteT (J4 fl4 (up3.trans up4)) a
            refine wpAny_mono ((hsu a (X.pn ++ pins)).run [] _ _ _ _ S4 hy) (fun f s6 hsp => ?_) (fun _ _ z => False.elim z)
            cases f with
            | next =>
              obtain ⟨σ6, H6, S6, q6⟩ := hsp
              exact ⟨_, _, unsuiteT S6 ok, q6⟩
            | brk =>
              obtain ⟨σ6, H6, S6, q6⟩ := hsp
              exact ⟨_, _, unsuiteT S6 ok, q6⟩
            | cont =>
              obtain ⟨σ6, H6, S6, q6⟩ := hsp
              exact ⟨_, _, unsuiteT S6 ok, q6⟩
            | ret u =>
              obtain ⟨v6, σ6, H6, S6, r6, q6⟩ := hsp
              exact ⟨_, _, _, unsuiteT S6 ok, r6, q6⟩
          | some y =>
            cases ei : hd.i with
            | none => rw [ei] at hi; exact hi.elim
            | some i =>
            rw [ei] at hi
            obtain ⟨hi, hln⟩ := hi
            have hy := hyes rfl a na
            rw [ei] at hy
            refine codeAny_handlers_suite_as ?_
            refine HandSPX.lands_againZ fl3 fun h4 fl4 up4 => ?_
            have S4 := suiteT (J4 fl4 (up3.trans up4)) a
            refine store_ok (X := X.suite a (X.pn ++ pins)) (v := .ref a) S4 hN hi (.inl hln) rfl (fun s5 S5 => ?_) (.inr hln)
            refine wpAny_mono ((hsu a (X.pn ++ pins)).run [] s5 _ _ _ S5 hy) (fun f s6 hsp => ?_) (fun _ _ z => False.elim z)
            have end_ : ∀ {σ6 : L2.St} {H6 : Hp} {Q : Shared → Prop}, L2.Inv (X.suite a (X.pn ++ pins)) [] σ6 H6 s6 → (∀ s7, L2.Inv X pins (σ6.set i none) H6 s7 → Q s7) →
                wpAny (model X.prog X.w) X.A (do bindName X.env y .none; unbindBehindTheSuite X.env y pos') (fun _ s7 => Q s7) X.xe s6 := fun {σ6 H6 Q} S6 hq => gone_ok (unsuiteT S6 ok) hN hi hln hq
            cases f with
            | next =>
              obtain ⟨σ6, H6, S6, q6⟩ := hsp
              exact end_ S6 fun s7 J7 => ⟨_, _, J7, q6⟩
            | brk =>
              obtain ⟨σ6, H6, S6, q6⟩ := hsp
              exact end_ S6 fun s7 J7 => ⟨_, _, J7, q6⟩
            | cont =>
              obtain ⟨σ6, H6, S6, q6⟩ := hsp
              exact end_ S6 fun s7 J7 => ⟨_, _, J7, q6⟩
            | ret u =>
              obtain ⟨v6, σ6, H6, S6, r6, q6⟩ := hsp
              exact end_ S6 fun s7 J7 => ⟨_, _, _, J7, r6, q6⟩
        | false =>
          show wpAny _ X.A (handleBy (.ref a) X.env hds2) _ _ _
          exact ih (hno rfl)
    exact go hh w
  · cases f with
    | next =>
      obtain ⟨σ', H', J', q⟩ := hsp
      exact wpAny_execs_nil ⟨σ', H', J'.ofTry ok, q⟩
    | brk =>
      obtain ⟨σ', H', J', q⟩ := hsp
      exact ⟨σ', H', J'.ofTry ok, q⟩
    | cont =>
      obtain ⟨σ', H', J', q⟩ := hsp
      exact ⟨σ', H', J'.ofTry ok, q⟩
    | ret u =>
      obtain ⟨v, σ', H', J', r, q⟩ := hsp
      exact ⟨v, σ', H', J'.ofTry ok, r, q⟩
end

/-! ### what the written part says of the classes -/
/-- an exception's field is read, isinstance asks it -/
structure XLk (K : PySem.W.Frag) (C : Addr) : Prop where
  ga : PySem.W.findIn K (.ref C) "__getattribute__" = some (some (.builtin "BaseException.__getattribute__"))
  gg : PySem.W.findIn K (.ref C) "__getattr__" = some none
  exC : PySem.W.subIn K (.ref C) (.type "BaseException") = some true
  hdC : PySem.W.hasDictIn K C = true
  cl : PySem.W.findIn K (.ref C) "__class__" = some (some (.builtin "object.__class__"))
  hm : PySem.W.mroIn K C (.type "object") = some true
structure XGn (K : PySem.W.Frag) : Prop where
  hn : PySem.W.specialIn K (.builtin "object.__class__") "__get__" = some (some (.builtin "getset_descriptor.__get__"))
  ht : PySem.W.takesIn K (.builtin "object.__class__") = some true
/-- a class by its name -/
def XNm (mg : Str → Option Value) (k : Str) (v : V) (cv : Value) : Prop := ClsV v cv ∧ (mg k = some cv ∨ (mg k = none ∧ bootBuiltins k = some cv ∧ k ≠ "__name__"))
/-- what is known of a name in isinstance, in an except clause -/
def XAsk [Tau] (K : PySem.W.Frag) (mg : Str → Option Value) (k : Str) : Prop := ∃ v cv, XNm mg k v cv ∧ PySem.W.kitOne K (.type "NoneType") cv = some false ∧
  ∀ c ∈ Tau.xs, ∀ C, PySem.W.nsIn K mainGlobals c = some (some (.ref C)) → PySem.W.kitOne K (.ref C) cv = some (subX c k) ∧ PySem.W.exmOne K (.ref C) cv = some (subX c k)
section
variable [Tau] {X : Cx} {K : PySem.W.Frag} {φ φ1 : List Addr} {h h1 : Hh} {H H0 H1 : Hp} {st : St} {σ : L2.St} {e a b : Expr} {es : List Expr} {oa ob : St → Hh → Out RV} {pos p : Pos} {ω : Wsh}
theorem exO_at {P : Program} {w : World} {s : Heap} {a : Addr} {cls : Value} {d : Option Addr} (hok : HOk P w H s) (e : H a = some (ExO a cls d)) : ∃ oe vs, s.get? a = some oe ∧ oe.cls = cls ∧ oe.dict = d ∧ oe.data = .fields vs := by
  have x : ObjOk P w H s a (.ext fun h => ∃ oe vs, h.get? a = some oe ∧ oe.cls = cls ∧ oe.dict = d ∧ oe.data = .fields vs) := hok a _ e
  exact x.1
theorem pd_look {F : D → V → Prop} : ∀ {fs : List (Str × D)} {ys : List (Str × V)} {f : Str} {d : D}, Paired (fun (p : Str × D) (q : Str × V) => p.1 = q.1 ∧ F p.2 q.2) fs ys → fs.lookup f = some d → ∃ v, ys.lookup f = some v ∧ F d v
  | _, _, _, _, .nil, e => by cases e
  | (g, d1) :: _, (g2, v1) :: _, f, d, .cons r t, e => by
    obtain ⟨rfl, r⟩ := r
    rw [List.lookup_cons] at e ⊢
    cases q : f == g with
    | true =>
      rw [q] at e
      cases e
      exact ⟨v1, rfl, r⟩
    | false =>
      rw [q] at e
      exact pd_look t e
/-- e.f, e an exception -/
theorem je_fld {f : Str} (hC : ∀ c ∈ Tau.xs, ∀ C, PySem.W.nsIn X.K mainGlobals c = some (some (.ref C)) → XLk X.K C ∧ PySem.W.findIn X.K (.ref C) f = some none) (hb : attributeBase a f X.env (eval a X.env) = eval a X.env) (ha : PE X a (TEr X.K ω oa)) :
    PE X (.Attribute a f pos) (TEr X.K ω fun st h => Py.bnd (oa st h) fun x h => opFld x f h) := by
  refine ⟨fun pins s σ H Q I ⟨φ, h, st, R, S, q⟩ => ?_⟩
  refine attr_of hb (thn (ha.run pins s σ H (fun v H1 => ∃ φ1 h1 x, Rel X.K φ1 h1 H1 ∧ VRR X.K φ1 H1 H x v ∧ Post X.K (wAt ω σ) φ1 H1 (BR X.K H1) (opFld x f h1) Q) I ⟨φ, h, st, R, S, ?_⟩) fun u s1 hh => ?_)
  · exact Post.seq q fun x h1 e1 q φ1 H1 v1 w1 R1 r1 => ⟨φ1, h1, x, R1, r1, q.shR R w1 R1⟩
  · obtain ⟨v, H1, I1, rv, φ1, h1, x, R1, r1, q⟩ := hh
    unfold opFld at q
    split at q
    · rename_i k
      split at q
      · rename_i c fs ek
        split at q
        · rename_i d ed
          cases (r1 : VR X.K φ1 H1 _ v) with
          | @ref _ ad ea =>
          obtain rfl : u = Value.ref ad := rv
          obtain ⟨C, dd, ⟨hx, hn⟩, he, hf⟩ := R1.obj k _ ad ek ea
          obtain ⟨T, hno⟩ := hC c hx C hn
          cases dd with
          | none =>
            have hf : fs = [] := hf
            rw [hf] at ed
            cases ed
          | some dx =>
          obtain ⟨ys, ex, pr⟩ := hf
          obtain ⟨w, lw, rw'⟩ := pd_look pr ed
          obtain ⟨oe, vs, g1, g2, g3, g4⟩ := exO_at I1.hok he
          have hx : ObjOk X.prog X.w H1 s1.heap dx (.xd ys) := I1.hok dx _ ex
          obtain ⟨mA, hns, hr⟩ := hx
          obtain ⟨od, ho, hl⟩ := lookIn_ns hns
          obtain ⟨u, hu, ru⟩ := RelO.some_of (v := w) (o := mA f) (by rw [← lw]; exact hr f)
          have J : PySem.W.InstAt s1.heap ad oe C (some od) := ⟨g1, g2, by unfold PySem.W.notCls; rw [g4] <;> rfl, by rw [g3]; exact ho⟩
          exact HandSPX.exc_get I1.kIn J T.ga T.gg T.exC (PySem.W.findObj_own T.hdC hno rfl (by rw [hl, hu])) (handed_of ru) ⟨w, H1, I1.tok _, ru, q.here R1 rw'⟩
        · exact q.elim
      · exact q.elim
    · exact q.elim
/-- what isinstance is asked of here -/
def XTy (K : PySem.W.Frag) (H : Hp) (x : V) (t : Value) : Prop := (x = .non ∧ t = .type "NoneType") ∨ ∃ a C d, x = .ref a ∧ t = .ref C ∧ H a = some (ExO a (.ref C) d) ∧ (∀ dx, d = some dx → ∃ ys, H dx = some (.xd ys)) ∧ XLk K C ∧ XGn K
def rIsX (K : PySem.W.Frag) : List V → Hp → VK → Prop := fun xs H Q => ∃ (x : V) (t : Value) (b : Bool), XTy K H x t ∧
  ((∃ c cv, xs = [x, c] ∧ ClsV c cv ∧ PySem.W.kitOne K t cv = some b) ∨ ∃ p vs cvs, xs = [x, .ref p] ∧ H p = some (.tup vs) ∧ Paired ClsV vs cvs ∧ PySem.W.kitAny K t cvs = some b) ∧ Q (.bl b) H
theorem kitX_of {pins : List (Addr × Obj)} {s : Shared} {x : V} {u t : Value} (I : L2.Inv X pins σ H s) (rx : RelV x u) (ty : XTy X.K H x t) : ∃ P : Heap → Prop, PySem.W.KitX X.K u t P ∧ P s.heap ∧ u ≠ .builtin "__main__.__loader__#opaque" := by
  rcases ty with ⟨rfl, rfl⟩ | ⟨a, C, d, rfl, rfl, he, hxd, T, G⟩
  · cases (show u = Value.none from rx)
    exact ⟨_, PySem.W.kitx_none, True.intro, fun z => nomatch z⟩
  · obtain rfl : u = Value.ref a := rx
    obtain ⟨oe, vs, g1, g2, g3, g4⟩ := exO_at I.hok he
    have hcl : (PySem.W.clsIn X.K C).isSome = true := by
      obtain ⟨cd, hc, _⟩ := PySem.W.any_some T.hdC
      rw [hc]
      rfl
    obtain ⟨od, hod⟩ : ∃ od, PySem.W.InstAt s.heap a oe C od := by
      cases d with
      | none => exact ⟨none, g1, g2, by unfold PySem.W.notCls; rw [g4] <;> rfl, by rw [g3]; trivial⟩
      | some dx =>
        obtain ⟨ys, ey⟩ := hxd dx rfl
        obtain ⟨mA, hns, _⟩ := (show ObjOk X.prog X.w H s.heap dx (.xd ys) from I.hok dx _ ey)
        obtain ⟨od, ho, _⟩ := lookIn_ns hns
        exact ⟨some od, g1, g2, by unfold PySem.W.notCls; rw [g4] <;> rfl, by rw [g3]; exact ho⟩
    exact ⟨_, PySem.W.kitx_exc hcl T.ga T.gg T.exC T.cl G.hn G.ht T.hm, hod, fun z => nomatch z⟩
theorem call_isX : CallR X (.builtin "isinstance") (rIsX X.K) := by
  intro pins s σ H xs us Q I r ⟨x, t, b, ty, k, q⟩
  rcases k with ⟨c, cv, rfl, k, e⟩ | ⟨p, vs, cvs, rfl, ep, k, e⟩
  · obtain ⟨u1, u2, rfl, r1, r2⟩ := vals2 r
    have e2 := k.eq r2
    subst e2
    obtain ⟨P, Z, p, hx⟩ := kitX_of I r1 ty
    exact PySem.W.kia_one Z I.kIn p e hx fun tk => ⟨.bl b, H, I.tok tk, rfl, q⟩
  · obtain ⟨u1, u2, rfl, r1, r2⟩ := vals2 r
    obtain rfl : u2 = Value.ref p := r2
    obtain ⟨P, Z, pp, hx⟩ := kitX_of I r1 ty
    obtain ⟨_, its, rv, ob, g1, g2, n, g3⟩ := (show ObjOk X.prog X.w H s.heap p (.tup vs) from I.hok p _ ep)
    have e2 := ClsV.all k rv
    subst e2
    obtain ⟨c0, d0, dt, sl⟩ := ob
    dsimp only at g2 g3
    subst g2 g3
    exact PySem.W.kia_tup Z I.kIn pp g1 e hx fun tk => ⟨.bl b, H, I.tok tk, rfl, q⟩
/-- what xTag sees -/
theorem xTag_ok (R : Rel K φ h H) {x : RV} {g : Option Str} {v : V} (rv : VRR K φ H H0 x v) (e : xTag h x = some g) : (g = none ∧ v = .non) ∨ ∃ c a C d, g = some c ∧ v = .ref a ∧ c ∈ Tau.xs ∧ PySem.W.nsIn K mainGlobals c = some (some (.ref C)) ∧ H a = some (ExO a (.ref C) d) ∧ ∀ dx, d = some dx → ∃ ys, H dx = some (.xd ys) := by
  cases x with
  | raw ds => cases e
  | val d =>
    cases rv with
    | non => cases e; exact .inl ⟨rfl, rfl⟩
    | @ref n ad ea =>
      simp only [xTag] at e
      split at e
      · rename_i c fs e2
        cases e
        obtain ⟨C, dd, ⟨h1, h2⟩, he, hf⟩ := R.obj n _ ad e2 ea
        refine .inr ⟨c, ad, C, dd, rfl, rfl, h1, h2, he, fun dx ed => ?_⟩
        subst ed
        obtain ⟨ys, ex, _⟩ := hf
        exact ⟨ys, ex⟩
      · cases e
    | _ => cases e
theorem kitAny_of {t : Value} {f : Str → Bool} : ∀ {ks : List Str} {cvs : List Value}, Paired (fun k cv => PySem.W.kitOne K t cv = some (f k)) ks cvs → PySem.W.kitAny K t cvs = some (ks.any f)
  | _, _, .nil => rfl
  | k :: ks, cv :: cvs, .cons e r => by
    unfold PySem.W.kitAny
    rw [e]
    cases q : f k with
    | true => rw [List.any_cons, q]; rfl
    | false => rw [List.any_cons, q, Bool.false_or]; exact kitAny_of r
/-- names of classes, as arguments -/
theorem pa_cls : ∀ {ks : List Str} {es : List Expr}, Paired (fun k e => ∃ p, e = .Name k p) ks es → (∀ k ∈ ks, XAsk X.K X.mg k ∧ Gl X k ∧ (k == ("__debug__" : Str)) = false) →
    ∃ vs cvs, Paired ClsV vs cvs ∧ Paired (fun k cv => PySem.W.kitOne X.K (.type "NoneType") cv = some false ∧ ∀ c ∈ Tau.xs, ∀ C, PySem.W.nsIn X.K mainGlobals c = some (some (.ref C)) → PySem.W.kitOne X.K (.ref C) cv = some (subX c k)) ks cvs ∧
      vs.length = ks.length ∧ PA X es fun σ H Q => Q vs H
  | _, _, .nil, _ => ⟨[], [], .nil, .nil, rfl, pa_imp pa_nil fun _ _ _ q => q⟩
  | k :: ks, _ :: es, .cons ⟨p, rfl⟩ r, hk => by
    obtain ⟨⟨v, cv, ⟨n1, n2⟩, k1, k2⟩, hg, hd⟩ := hk k List.mem_cons_self
    obtain ⟨vs, cvs, z1, z2, z3, z4⟩ := pa_cls r fun k' h' => hk k' (List.mem_cons_of_mem _ h')
    have rv : RelV v cv := by cases n1 <;> rfl
    have pn : PE X (.Name k p) (tC v) := by
      rcases n2 with m | ⟨m, bb, nn⟩
      · exact pe_glob hg m rv hd
      · exact pe_bltn hg m bb rv nn hd
    refine ⟨v :: vs, cv :: cvs, .cons n1 z1, .cons ⟨k1, fun c h1 C h2 => (k2 c h1 C h2).1⟩ z2, by rw [List.length_cons, List.length_cons, z3], pa_imp (pa_cons pn z4 (star_cons rfl)) fun _ _ _ q => q⟩
theorem pd_map {α β : Type} {F G : α → β → Prop} (f : ∀ a b, F a b → G a b) : ∀ {as : List α} {bs : List β}, Paired F as bs → Paired G as bs
  | _, _, .nil => .nil
  | _, _, .cons r t => .cons (f _ _ r) (pd_map f t)
/-- what isinstance answers -/
theorem isx_reads {x : RV} {v : V} {g : Option Str} {ks : List Str} {cvs : List Value} (hX : ∀ c ∈ Tau.xs, ∀ C, PySem.W.nsIn X.K mainGlobals c = some (some (.ref C)) → XLk X.K C) (G : XGn X.K) (R : Rel X.K φ h H) (rv : VRR X.K φ H H0 x v) (e : xTag h x = some g)
    (hk : Paired (fun k cv => PySem.W.kitOne X.K (.type "NoneType") cv = some false ∧ ∀ c ∈ Tau.xs, ∀ C, PySem.W.nsIn X.K mainGlobals c = some (some (.ref C)) → PySem.W.kitOne X.K (.ref C) cv = some (subX c k)) ks cvs) :
    ∃ t, XTy X.K H v t ∧ PySem.W.kitAny X.K t cvs = some (xIn ks g) ∧ ∀ k cv, ks = [k] → cvs = [cv] → PySem.W.kitOne X.K t cv = some (xIn ks g) := by
  rcases xTag_ok R rv e with ⟨rfl, rfl⟩ | ⟨c, a, C, d, rfl, rfl, h1, h2, he, hd⟩
  · refine ⟨_, .inl ⟨rfl, rfl⟩, ?_, ?_⟩
    · rw [kitAny_of (f := fun _ => false) (pd_map (fun _ _ z => z.1) hk)]
      congr 1
      induction ks with
      | nil => rfl
      | cons k ks ih => simp [xIn]
    · rintro k cv rfl rfl
      cases hk with
      | cons r _ => exact r.1
  · refine ⟨_, .inr ⟨a, C, d, rfl, rfl, he, hd, hX c h1 C h2, G⟩, ?_, ?_⟩
    · exact kitAny_of (f := subX c) (pd_map (fun _ _ z => z.2 c h1 C h2) hk)
    · rintro k cv rfl rfl
      cases hk with
      | cons r _ =>
        rw [r.2 c h1 C h2]
        simp [xIn]
/-- isinstance(e, C), isinstance(e, (C, ..)) -/
theorem je_isx {ks : List Str} {x : Str} {t : Expr} {es : List Expr} (ex : x = "isinstance") (hg : Gl X x) (hm : X.mg x = none) (n : noStar a = true) (hX : ∀ c ∈ Tau.xs, ∀ C, PySem.W.nsIn X.K mainGlobals c = some (some (.ref C)) → XLk X.K C) (G : XGn X.K) (hk : ∀ k ∈ ks, XAsk X.K X.mg k ∧ Gl X k ∧ (k == ("__debug__" : Str)) = false)
    (hl : ks.length ≤ 100) (hes : Paired (fun k e => ∃ p, e = .Name k p) ks es) (ht : (∃ k p, ks = [k] ∧ t = .Name k p) ∨ ∃ kk pp, t = .Tuple es kk pp) (ha : PE X a (TEr X.K ω oa)) :
    PE X (.Call (.Name x p) [a, t] [] pos) (TEr X.K ω fun st h => Py.bnd (oa st h) fun x h => match xTag h x with
    | some g => .ok (.val (.bl (xIn ks g))) h
    | none => .fail) := by
  subst ex
  rcases ht with ⟨k, p2, rfl, rfl⟩ | ⟨kk, pp, rfl⟩
  · obtain ⟨⟨v, cv, ⟨n1, n2⟩, k1, k2⟩, hgk, hdk⟩ := hk k (by simp)
    have rv : RelV v cv := by cases n1 <;> rfl
    have pn : PE X (.Name k p2) (tC v) := by
      rcases n2 with m | ⟨m, bb, nn⟩
      · exact pe_glob hgk m rv hdk
      · exact pe_bltn hgk m bb rv nn hdk
    refine pe_imp (pe_callB (r := rIsX X.K) call_isX hg hm (by decide +kernel) (pa_cons ha (pa_cons pn pa_nil (star_cons rfl)) (star_cons n)) (by decide) (by decide) (star_cons n) (by rw [star_cons rfl]; rfl)) fun σ H Q ⟨φ, h, st, R, S, q⟩ => ?_
    refine ⟨φ, h, st, R, S, ?_⟩
    refine Post.seq q fun x h1 e1 q φ1 H1 v1 w1 R1 r1 => ?_
    split at q
    · rename_i g eg
      obtain ⟨t, ty, _, k3⟩ := isx_reads hX G R1 r1 eg (.cons ⟨k1, fun c h1 C h2 => (k2 c h1 C h2).1⟩ .nil)
      exact ⟨v1, t, _, ty, .inl ⟨v, cv, rfl, n1, k3 k cv rfl rfl⟩, (q.shR R w1 R1).here R1 (VR.bl _)⟩
    · exact q.elim
  · obtain ⟨vs, cvs, z1, z2, z3, z4⟩ := pa_cls hes hk
    refine pe_imp (pe_callB (r := rIsX X.K) call_isX hg hm (by decide +kernel) (pa_cons ha (pa_cons (pe_tup z4) pa_nil (star_cons rfl)) (star_cons n)) (by decide) (by decide) (star_cons n) (by rw [star_cons rfl]; rfl)) fun σ H Q ⟨φ, h, st, R, S, q⟩ => ?_
    refine ⟨φ, h, st, R, S, ?_⟩
    refine Post.seq q fun x h1 e1 q φ1 H1 v1 w1 R1 r1 => ?_
    split at q
    · rename_i g eg
      refine ⟨by rw [z3, sizeLine_eq]; omega, fun p hp => ?_⟩
      have w2 : WX φ1 H1 φ1 (upd H1 p (.tup vs)) := WX.new hp
      have R2 : Rel X.K φ1 h1 (upd H1 p (.tup vs)) := R1.new hp
      obtain ⟨t, ty, k3, _⟩ := isx_reads hX G R2 (r1.mono R1 w2) eg z2
      exact ⟨v1, t, _, ty, .inr ⟨p, vs, cvs, rfl, upd_same, z1, k3⟩, ((q.shR R w1 R1).shR R1 w2 R2).here R2 (VR.bl _)⟩
    · exact q.elim

/-! ### raise -/
/-- C.__init__: self.f = x -/
def spI (K : PySem.W.Frag) (f : Str) : Sp := fun vs H Q _ => ∃ a y C, vs = [V.ref a, y] ∧ OexC K C ∧ PySem.W.findIn K (.ref C) f = some none ∧ H a = some (exo a C none) ∧
  ∀ dx, H dx = none → dx ≠ a → Q .non (upd (upd H dx (exd dx [(f, y)])) a (exo a C (some dx)))
/-- a class whose instances can be made -/
def XMkK (P : Program) (w : World) (K : PySem.W.Frag) (mg : Str → Option Value) (base : Heap) (c : Str) (C : Addr) : Prop := match xfld c with
  | some f => OexC K C ∧ PySem.W.findIn K (.ref C) f = some none ∧ ∃ fI fd ps, PySem.W.findIn K (.ref C) "__init__" = some (some (.ref fI)) ∧ PySem.W.typeIn K (.ref fI) = some (.type "function") ∧
      FnOk P w K mg base (L2.CX P w) 1 fI fd ps (spI K f) ∧ Binds K fd ps []
  | none => PySem.W.excIn K C [.type "ValueError", .type "Exception", .type "BaseException", .type "object"] "ValueError.__new__" = true ∧ PySem.W.keepIn K (.ref C) = true ∧ PySem.W.subIn K (.ref C) (.type "BaseException") = some true ∧ PySem.W.typeIn K (.ref C) = some (.type "type")
theorem passes0 : Passes (L2.CX X.prog X.w) X (fun _ _ _ => False) := fun _ _ _ _ _ _ _ c => by
  obtain ⟨_, _, _, _, _, _, _, _, _, _, _, _, z⟩ := c
  exact z.elim
/-- X(), X an own exception class without own __init__ -/
theorem pmk_own0 {C : Addr} {bmB : List Value} {B newId initId : String} {x : Str} {p : Pos} (F : ExcBaseFacts B newId initId bmB) (q : PySem.W.excIn X.K C bmB newId = true) (gC : X.mg x = some (.ref C))
    (kC : PySem.W.keepIn X.K (.ref C) = true) (r : Raises X (.ref C)) (hg : Gl X x) (hdb : (x == ("__debug__" : Str)) = false) : PMk X (.Call (.Name x p) [] [] pos) (fun σ H Q => Q (.ref C) none H) := by
  intro pins s σ H Q I h
  refine wpAny_Call_Name_kw (ld_glob I hg gC ?_ hdb)
  refine PySem.W.callWith_K0 I.kIn kC ?_
  show wpAny _ _ (call (.ref C) []) _ _ _
  obtain ⟨bm, N, nm, qn, bs, hdct, sn, sub, ab, col, dd, k0, k1, k2, k3, k5, mN, hC, hN, hni, T⟩ := exc_obj I.kIn q
  refine wpAny_call_exc_subT F T hC hN hni (fun h' e hm => ?_) (by show 0 ≤ sizeLine; omega)
  exact mk_of I hm r h (I.hok.gone hm.new)
/-- raise C(..) -/
theorem js_raise {c : Str} {C : Addr} {f : Str} {e : Expr} {es : List Expr} {os : St → Hh → Out (List D)} {p p2 : Pos} (hc : X.calm = true) (tk : L2.Takes X ω) (hx : c ∈ Tau.xs) (hn : PySem.W.nsIn X.K mainGlobals c = some (some (.ref C))) (hm : X.mg c = some (.ref C)) (M : XMkK X.prog X.w X.K X.mg X.base c C) (hr : Room 2 X.A) (hg : Gl X c)
    (hd : (c == ("__debug__" : Str)) = false) (ex : xfld c = some f) (n : (e :: es).all noStar = true) (ha : PA X (e :: es) (TAr X.K ω os)) :
    PS X (.Raise (some (.Call (.Name c p) (e :: es) [] pos)) none p2) (TSr X.K ω fun st h => bndS st (os st h) fun ds h => match xfs c ds with
      | some fs => .exc c fs st h
      | none => .fail) := by
  unfold XMkK at M
  rw [ex] at M
  obtain ⟨T, hno, fI, fd, ps, iC, tI, F1, hb⟩ := M
  rw [List.all_cons, Bool.and_eq_true] at n
  refine ps_imp (ps_raise hc tk (pmk_oex (dvs := []) (ds := []) T iC tI F1 hr hb .nil passes0 hg hm ha hd (star_cons n.1) (starsN es _ n.2))) fun Z σ H ⟨φ, h, st, R, S, q⟩ => ?_
  refine ⟨φ, h, st, R, S, PostS.seq q R S fun ds h1 e1 q φ1 H1 vs w1 R1 r1 => ?_⟩
  unfold xfs at q
  rw [ex] at q
  cases r1 with
  | nil => exact q.elim
  | cons r1 rr =>
    cases rr with
    | cons => exact q.elim
    | nil =>
      rename_i d v
      refine ⟨by show 1 ≤ 1000; omega, fun a hn => ?_⟩
      refine ⟨a, v, C, rfl, T, hno, upd_same, fun dx hdx ne => ?_⟩
      have hdx1 : H1 dx = none := by rw [upd_ne ne] at hdx; exact hdx
      refine ⟨rfl, dx, [(f, v)], upd_same, ?_, hdx1, ?_⟩
      · rw [upd_ne ne, upd_same]
      · have eH : upd (del (upd (upd (upd H1 a (exo a C none)) dx (exd dx [(f, v)])) a (exo a C (some dx))) a) dx (.xd [(f, v)]) = upd H1 dx (.xd [(f, v)]) := by
          funext b
          by_cases h1 : b = dx
          · rw [h1, upd_same, upd_same]
          · rw [upd_ne h1, upd_ne h1]
            by_cases h2 : b = a
            · rw [h2, del_same]
              exact hn.symm
            · rw [del_ne h2, upd_ne h2, upd_ne h1, upd_ne h2]
        rw [eH]
        have w2 : WX φ1 H1 φ1 (upd H1 dx (.xd [(f, v)])) := WX.new hdx1
        have R2 : Rel X.K φ1 h1 (upd H1 dx (.xd [(f, v)])) := R1.new hdx1
        exact q φ1 _ σ _ _ (w1.trans R R1 w2) R2 ((S.mono R w1).mono R1 w2) ⟨C, rfl, ⟨hx, by assumption⟩, [(f, v)], upd_same, .cons ⟨rfl, r1.mono R1 w2⟩ .nil⟩
/-- raise C(), no fields -/
theorem js_raise0 {c : Str} {C : Addr} {p p2 : Pos} (hc : X.calm = true) (tk : L2.Takes X ω) (hx : c ∈ Tau.xs) (hn : PySem.W.nsIn X.K mainGlobals c = some (some (.ref C))) (hm : X.mg c = some (.ref C)) (M : XMkK X.prog X.w X.K X.mg X.base c C) (hr : Room 2 X.A) (hg : Gl X c)
    (hd : (c == ("__debug__" : Str)) = false) (ex : xfld c = none) :
    PS X (.Raise (some (.Call (.Name c p) [] [] pos)) none p2) (TSr X.K ω fun st h => bndS st (.ok [] h) fun ds h => match xfs c ds with
      | some fs => .exc c fs st h
      | none => .fail) := by
  unfold XMkK at M
  rw [ex] at M
  obtain ⟨m1, m2, m3, m4⟩ := M
  refine ps_imp (ps_raise hc tk (pmk_own0 PySem.F.excBase_ValueError m1 hm m2 (raises_own m3 m4) hg hd)) fun Z σ H ⟨φ, h, st, R, S, q⟩ => ?_
  have q : PostS X.K ω φ H (match xfs c [] with
      | some fs => .exc c fs st h
      | none => .fail) Z := q
  unfold xfs at q
  rw [ex] at q
  exact q φ H σ _ _ WX.refl R S ⟨C, rfl, ⟨hx, hn⟩, rfl⟩

/-! ### try -/
/-- except clauses by the evaluator -/
abbrev HE := List (Str × Option Nat × (St → Hh → OutS))
def catchO : HE → Str → List (Str × D) → St → Hh → OutS
  | [], c, fs, st, h => .exc c fs st h
  | (k, i, o) :: r, c, fs, st, h => if subX c k = true then endH i (o (inH i st h) (h ++ [.xc c fs])) else catchO r c fs st h
inductive HdJ (X : Cx) : List ExceptHandler → HE → Prop
  | nil : HdJ X [] []
  | cons {x : Str} {n : Option Str} {i : Option Nat} {o : St → Hh → OutS} {b₀ : Stmt} {suite : List Stmt} {np pos' : Pos} {hds : List ExceptHandler} {l : HE} (ask : XAsk X.K X.mg x) (hg : Gl X x) (hd : (x == ("__debug__" : Str)) = false)
      (hi : HiOk X i n)
      (hsu : ∀ (a : Addr) (pn : List (Addr × Obj)), PSs (X.suite a pn) (b₀ :: suite) (TSr X.K F0 o)) (r : HdJ X hds l) :
      HdJ X (.ExceptHandler (some (.Name x np)) n (b₀ :: suite) pos' :: hds) ((x, i, o) :: l)
theorem SR.setN (S : SR K φ H st σ) (i : Nat) : SR K φ H (st.set i none) (σ.set i none) := by
  refine ⟨by rw [List.length_set, List.length_set]; exact S.len, fun j d ej => ?_⟩
  by_cases hij : i = j
  · subst hij
    by_cases hi : i < st.length
    · rw [List.getElem?_set_self hi] at ej
      cases ej
    · have z := (List.getElem?_eq_some_iff.mp ej).1
      rw [List.length_set] at z
      exact absurd z hi
  · rw [List.getElem?_set_ne hij] at ej ⊢
    exact S.valP j d ej
theorem endH_post {Z : Ends} {i : Option Nat} {o : OutS} (q : PostS K ω φ H (endH i o) Z) : PostS K F0 φ H o (unE i Z) := by
  cases i with
  | none => cases o <;> first | exact q | exact q.elim
  | some i =>
    cases o with
    | nx st h => exact fun φ' H' σ' w R S => q φ' H' _ w R (S.setN i)
    | rt d h => exact q
    | bk st h => exact fun φ' H' σ' w R S => q φ' H' _ w R (S.setN i)
    | ct st h => exact fun φ' H' σ' w R S => q φ' H' _ w R (S.setN i)
    | exc => exact q.elim
    | fail => exact q
/-- the clauses' wishes are met -/
theorem HdJ.hd {hds : List ExceptHandler} {l : HE} (r : HdJ X hds l) : ∃ ls : List Hd, HdT X hds ls ∧ ∀ (ω : Wsh) (Z : Ends) (c : Str) (fs : List (Str × D)) (st : St) (h : Hh) (φ : List Addr) (H : Hp) (σ : L2.St) (cls : Value) (d : Option Addr), Rel X.K φ h H → SR X.K φ H st σ → XcR X.K φ H c fs cls d →
    PostS X.K ω φ H (catchO l c fs st h) Z → wT X.K ω Z ls cls d σ H := by
  induction r with
  | nil => exact ⟨[], .nil, fun ω Z c fs st h φ H σ cls d R S x q => q φ H σ cls d WX.refl R S x⟩
  | @cons x n i o b₀ suite np pos' hds l ask hg hd hi hsu r ih =>
    obtain ⟨ls, h1, h2⟩ := ih
    obtain ⟨v, cv, ⟨n1, n2⟩, k1, k2⟩ := ask
    refine ⟨⟨cv, i, TSr X.K F0 o⟩ :: ls, .cons ⟨hg, hd, n2⟩ hi hsu h1, fun ω Z c fs st h φ H σ cls d R S x q => ?_⟩
    obtain ⟨C, rfl, ⟨hx, hn⟩, xf⟩ := x
    refine ⟨subX c x, (k2 c hx C hn).2, fun y a na => ?_, fun y => ?_⟩
    · unfold catchO at q
      rw [if_pos y] at q
      have w : WX φ H φ (upd H a (ExO a (.ref C) d)) := WX.new na
      have R1 : Rel X.K φ h (upd H a (ExO a (.ref C) d)) := R.new na
      have R2 : Rel X.K (φ ++ [a]) (h ++ [.xc c fs]) (upd H a (ExO a (.ref C) d)) := R1.pushO (R.notin na) ⟨C, d, ⟨hx, hn⟩, upd_same, xf.map (fun _ _ z => w.xd R z) fun _ _ r => r.mono R w⟩
      have w2 : WX φ H (φ ++ [a]) (upd H a (ExO a (.ref C) d)) := ⟨[a], rfl, fun b hb => by rw [List.mem_singleton.mp hb]; exact na, fun b o hb e => .inl (by rw [upd_ne (ne_of_none e na)]; exact e), DnC.upd na .refl⟩
      have S2 := S.mono R w2
      refine ⟨φ ++ [a], h ++ [.xc c fs], inH i st h, R2, ?_, endH_post (PostS.shift q R w2 R2)⟩
      cases i with
      | none => exact S2
      | some i =>
        refine S2.set (VR.ref ?_)
        rw [← R.len, List.getElem?_append_right (Nat.le_refl _), Nat.sub_self]
        rfl
    · unfold catchO at q
      rw [if_neg (by rw [y]; decide)] at q
      exact h2 ω Z c fs st h φ H σ _ d R S ⟨C, rfl, ⟨hx, hn⟩, xf⟩ q
def tryO (l : HE) (o : OutS) : OutS := match o with
  | .exc c fs st h => catchO l c fs st h
  | o => o
/-- try: .. except ..: .. -/
theorem js_try {body : List Stmt} {h₀ : ExceptHandler} {hds : List ExceptHandler} {l : HE} {ob : St → Hh → OutS} {pos : Pos} (hs : X.stack = X.env :: X.outer) (hf : X.env.frame = some X.env.locals) (hex : X.ex = []) (hN : X.N.Nodup) (tk : L2.Takes X ω)
    (hb : ∀ (W : Wsh) (pn : List (Addr × Obj)) (xe : Value → Shared → Prop), L2.Takes (X.tr pn xe) W → PassesOwn (model X.prog X.w) X.A X.env xe → PSs (X.tr pn xe) body (TSr X.K W ob))
    (hh : HdJ X (h₀ :: hds) l) : PS X (.Try body (h₀ :: hds) [] [] pos) (TSr X.K ω fun st h => tryO l (ob st h)) := by
  obtain ⟨ls, h1, h2⟩ := hh.hd
  refine ps_imp (ps_tryT hs hf hex hN tk hb h1) fun Z σ H ⟨φ, h, st, R, S, q⟩ => ⟨φ, h, st, R, S, ?_⟩
  have q : PostS X.K ω φ H (tryO l (ob st h)) Z := q
  cases e : ob st h with
  | exc c fs st1 h1' =>
    rw [e] at q
    exact fun φ' H' σ' cls d w R' S' x => h2 ω Z c fs st1 h1' φ' H' σ' cls d R' S' x (PostS.shift q R w R')
  | nx st1 h1' => rw [e] at q; exact q
  | rt d h1' => rw [e] at q; exact q
  | bk st1 h1' => rw [e] at q; exact q
  | ct st1 h1' => rw [e] at q; exact q
  | fail => rw [e] at q; exact q
end
end Py
/-! Core, part 7: an exception that is made and not raised. -/
namespace Py
open PySem PySem.Spec PyProof.Rows
open L2 hiding St start wipe ExO
section
variable {X : Cx} {pins : List (Addr × Obj)} {σ : L2.St} {H : Hp} {s : Shared} {a : Addr}
/-- what is told of a thing is changed -/
theorem retag {o o' : HO} (I : L2.Inv X pins σ H s) (e : H a = some o) (n1 : ∀ x, o ≠ .own x) (n2 : ∀ xs, o ≠ .tup xs) (n3 : ∀ b u, o ≠ .frz b u) (n4 : ∀ ps, o ≠ .tbl ps)
    (ok : ObjOk X.prog X.w (upd H a o') s.heap a o') : L2.Inv X pins σ (upd H a o') s := by
  have ne : ∀ {b : Addr} {u : HO}, H b = some u → o ≠ u → b ≠ a := fun {b u} z d y => by
    rw [y, e] at z
    exact d (Option.some.inj z)
  refine ⟨I.ok, I.os, I.bare, ⟨fun b ob q n hb hx => I.base.keep b ob q n hb hx, fun b ob q n hb hx => I.base.slot b ob q n hb hx, fun b ob q n hx => ?_, fun b ob q hx => I.base.there b ob q hx, fun b xs q => ?_, fun b ob u q => ?_, fun b ps q => ?_⟩, I.loc, I.cell, ?_, fun x c ec => ?_, fun p hp' => ?_, fun b ob q => ?_, I.len⟩
  · have z := I.base.free b ob q n hx
    rw [upd_ne (fun y => by rw [y, e] at z; cases z)]
    exact z
  · have z := I.base.tups b xs q
    rw [upd_ne (ne z (n2 xs))]
    exact z
  · have z := I.base.frzs b ob u q
    rw [upd_ne (ne z (n3 ob u))]
    exact z
  · obtain ⟨more, z⟩ := I.base.tbls b ps q
    exact ⟨more, by rw [upd_ne (ne z (n4 _))]; exact z⟩
  · have z := I.free
    rw [upd_ne (fun y => by rw [y, e] at z; cases z)]
    exact z
  · have z := I.freeC x c ec
    rw [upd_ne (fun y => by rw [y, e] at z; cases z)]
    exact z
  · obtain ⟨ep, n, r⟩ := I.pin p hp'
    exact ⟨ep, by rw [upd_ne (fun y => by rw [y, e] at n; cases n)]; exact n, r⟩
  · by_cases hb : b = a
    · subst hb
      rw [upd_same] at q
      cases q
      exact ok
    · rw [upd_ne hb] at q
      exact (I.hok b ob q).stay (fun c v _ z => z) (fun c z => by rw [upd_ne (ne z (n1 _))]; exact z) fun c xs z => by rw [upd_ne (ne z (n2 _))]; exact z
end
section
variable {X : Cx} {e : Expr} {es : List Expr} {ta : TA} {pos p : Pos}
/-- C(e, ..) as a value, C's own __init__ keeping sp -/
def tMkV (C : Addr) (sp : Sp) (dvs : List V) (ta : TA) : TE := fun σ H Q => ta σ H fun vs H1 => vs.length ≤ 1000 ∧ ∀ a, H1 a = none → sp (.ref a :: (vs ++ dvs)) (upd H1 a (exo a C none))
  (fun v H2 => v = .non ∧ ∃ (d : Addr) (fs : List (Str × V)), H2 a = some (exo a C (some d)) ∧ H2 d = some (exd d fs) ∧ Q (.ref a) (upd (upd H2 a (ExO a (.ref C) (some d))) d (.xd fs))) (fun _ _ _ => False)
theorem pe_oex {CX : CXT} {x : Str} {C fI : Addr} {k : Nat} {fd : FuncData} {ps : List Str} {sp : Sp} {ds : List Value} {dvs : List V} (T : OexC X.K C) (iC : PySem.W.findIn X.K (.ref C) "__init__" = some (some (.ref fI))) (tI : PySem.W.typeIn X.K (.ref fI) = some (.type "function"))
    (F1 : FnOk X.prog X.w X.K X.mg X.base CX k fI fd ps sp) (hr : Room (k + 1) X.A) (hb : Binds X.K fd ps ds) (hd : Vals dvs ds) (hx : Passes CX X (fun _ _ _ => False)) (hg : Gl X x) (hm : X.mg x = some (.ref C)) (ha : PA X (e :: es) ta)
    (hdb : (x == ("__debug__" : Str)) = false) (he : starEach (e :: es) X.env = (false, eval e X.env) :: starEach es X.env) (hpl : (backTo pos (starEach es X.env)).any (·.1) = false) :
    PE X (.Call (.Name x p) (e :: es) [] pos) (tMkV C sp dvs ta) := by
  refine ⟨fun pins s σ H Q I h => ?_⟩
  obtain ⟨nm, q, N, bs, bm, sn, sub, ab, col, dd, k0, k1, k2, k3, k5, hC, hbm⟩ := T.cls
  refine wpAny_Call_Name_kw (ld_glob I hg hm ?_ hdb)
  refine PySem.W.callWith_K (h₀ := X.base) I.ok.mod.kin T.kC (thn (ha.run pos pins s σ H _ I h) fun us s1 ⟨vs, H1, I1, r1, hz, q1⟩ => ⟨I1.kIn, ?_⟩) he hpl
  show wpAny _ _ (call (.ref C) us) _ _ _
  obtain ⟨hp, g, dr, tk, os⟩ := s1
  have hsz : hp.objs.size ≤ hp.objs.size + 1 := Nat.le_succ _
  have hn : H1 (hp.objs.size + 1) = none := I1.hok.fresh hsz
  have hq := q1 (hp.objs.size + 1) hn
  have kk : ∀ b o, hp.get? b = some o → ((hp.push (PySem.W.kdv_tup us)).push (PySem.HandSPX.excO C hp.objs.size)).get? b = some o := fun b o e => Heap.get?_push_of_some _ (Heap.get?_push_of_some _ e)
  have hget : ((hp.push (PySem.W.kdv_tup us)).push (PySem.HandSPX.excO C hp.objs.size)).get? (hp.objs.size + 1) = some (PySem.HandSPX.excO C hp.objs.size) := by heap_get
  have I2 : L2.Inv X pins σ (upd H1 (hp.objs.size + 1) (exo (hp.objs.size + 1) C none)) ⟨(hp.push (PySem.W.kdv_tup us)).push (PySem.HandSPX.excO C hp.objs.size), g, dr, tk, os⟩ :=
    I1.laid (t' := tk) (a := hp.objs.size + 1) (o := exo (hp.objs.size + 1) C none) (h' := (hp.push (PySem.W.kdv_tup us)).push (PySem.HandSPX.excO C hp.objs.size)) kk hsz (exo_ok hget)
  have r2 : Vals (V.ref (hp.objs.size + 1) :: (vs ++ dvs)) (Value.ref (hp.objs.size + 1) :: (us ++ ds)) := .cons rfl (r1.append hd)
  have hl : (Value.ref (hp.objs.size + 1) :: us ++ ds).length = ps.length := by
    have e := r2.length
    rw [F1.len _ _ _ _ hq] at e
    exact e.symm
  have hus : us.length ≤ sizeLine := by
    rw [← Paired.length r1, sizeLine_eq]
    omega
  refine wpAny_call (PySem.HandSPX.call_own F.excBase_ValueError (fun Y => PySem.HandSPX.refsVE_contains Y bm hbm) (I1.kIn _ _ hC) (PySem.W.looks_findIn I1.kIn iC) (fun self => PySem.W.bind_fn I1.kIn self tI) hus
    (codeAny_mono (F1.run _ X.stack _ _ ⟨Value.ref (hp.objs.size + 1) :: us, []⟩ (Value.ref (hp.objs.size + 1) :: (us ++ ds)) _ _ (fun _ _ _ => False) (hr.make C us []) (I2.env0.make C us []) (hb _ (Value.ref (hp.objs.size + 1) :: us) I2.kIn hl) r2 hq) fun r s' hq' => ?_))
  cases r with
  | error er => exact hx pins σ _ _ er s' I2 hq'
  | ok fl =>
    cases fl with
    | ret u =>
      obtain ⟨v, H2, I3, rv, ev, d, fs, ea, ed, q2⟩ := I2.after hq'
      subst ev
      refine ⟨rv, ?_⟩
      obtain ⟨t1, hoe⟩ := exo_at I3.hok ea
      obtain ⟨mA, hns, rel⟩ := exd_at I3.hok ed
      have J1 : L2.Inv X pins σ (upd H2 (hp.objs.size + 1) (ExO (hp.objs.size + 1) (.ref C) (some d))) s' := retag I3 ea (fun _ => exo_own) (fun _ => exo_tup) (fun _ _ => exo_frz) (fun _ => exo_tbl)
        ⟨⟨_, _, hoe, rfl, rfl, rfl⟩, ⟨_, hoe⟩, fun h1 h2 ⟨oe, vs, z1, z⟩ k => ⟨oe, vs, k _ z1, z⟩⟩
      have hda : d ≠ hp.objs.size + 1 := fun z => by
        obtain ⟨o, es, ep, e1, e2, _⟩ := hns
        rw [z, hoe] at e1
        have z2 := Option.some.inj e1
        subst z2
        cases e2
      have J2 : L2.Inv X pins σ (upd (upd H2 (hp.objs.size + 1) (ExO (hp.objs.size + 1) (.ref C) (some d))) d (.xd fs)) s' := retag J1 (a := d) (o := exd d fs) (by rw [upd_ne hda]; exact ed) (fun _ => exd_own) (fun _ => exd_tup)
        (fun _ _ z => by cases (show HO.ext _ = HO.frz _ _ from z)) (fun _ z => by cases (show HO.ext _ = HO.tbl _ from z)) ⟨mA, hns, rel⟩
      exact ⟨.ref (hp.objs.size + 1), _, J2, rfl, q2⟩
    | next => exact False.elim hq'
    | brk => exact False.elim hq'
    | cont => exact False.elim hq'
/-- X() as a value, no own __init__ -/
theorem pe_exc0 {C : Addr} {bmB : List Value} {B newId initId : String} {x : Str} (F : ExcBaseFacts B newId initId bmB) (q : PySem.W.excIn X.K C bmB newId = true) (gC : X.mg x = some (.ref C)) (kC : PySem.W.keepIn X.K (.ref C) = true) (hg : Gl X x)
    (hdb : (x == ("__debug__" : Str)) = false) :
    PE X (.Call (.Name x p) [] [] pos) (fun σ H Q => ∀ a, H a = none → Q (.ref a) (upd H a (ExO a (.ref C) none))) := by
  refine ⟨fun pins s σ H Q I h => ?_⟩
  refine wpAny_Call_Name_kw (ld_glob I hg gC ?_ hdb)
  refine PySem.W.callWith_K0 I.kIn kC ?_
  show wpAny _ _ (call (.ref C) []) _ _ _
  obtain ⟨bm, N, nm, qn, bs, hdct, sn, sub, ab, col, dd, k0, k1, k2, k3, k5, mN, hC, hN, hni, T⟩ := exc_obj I.kIn q
  refine wpAny_call_exc_subT F T hC hN hni (fun h' a hm => ?_) (by show 0 ≤ sizeLine; omega)
  have hn : H a = none := I.hok.gone hm.new
  obtain ⟨t, ht, _, _⟩ := hm.there
  exact ⟨.ref a, upd H a (ExO a (.ref C) none), I.laidN hm.keeps hm.new hn ⟨⟨_, _, ht, rfl, rfl, rfl⟩, ⟨_, ht⟩, fun h1 h2 ⟨oe, vs, z1, z⟩ k => ⟨oe, vs, k _ z1, z⟩⟩, rfl, h a hn⟩
end
section
variable [Tau] {X : Cx} {K : PySem.W.Frag} {φ : List Addr} {h : Hh} {H : Hp} {e : Expr} {es : List Expr} {ω : Wsh} {pos : Pos}
/-- C(e) as a value -/
theorem je_mkx {c : Str} {C : Addr} {f : Str} {os : St → Hh → Out (List D)} {p : Pos} (hx : c ∈ Tau.xs) (hn : PySem.W.nsIn X.K mainGlobals c = some (some (.ref C))) (hm : X.mg c = some (.ref C)) (M : XMkK X.prog X.w X.K X.mg X.base c C) (hr : Room 2 X.A) (hg : Gl X c)
    (hd : (c == ("__debug__" : Str)) = false) (ex : xfld c = some f) (n : (e :: es).all noStar = true) (ha : PA X (e :: es) (TAr X.K ω os)) :
    PE X (.Call (.Name c p) (e :: es) [] pos) (TEr X.K ω fun st h => Py.bnd (os st h) fun ds h => match xfs c ds with
      | some fs => .ok (.val (.ref h.length)) (h ++ [.xc c fs])
      | none => .fail) := by
  unfold XMkK at M
  rw [ex] at M
  obtain ⟨T, hno, fI, fd, ps, iC, tI, F1, hb⟩ := M
  rw [List.all_cons, Bool.and_eq_true] at n
  refine pe_imp (pe_oex (dvs := []) (ds := []) T iC tI F1 hr hb .nil passes0 hg hm ha hd (star_cons n.1) (starsN es _ n.2)) fun σ H Q ⟨φ, h, st, R, S, q⟩ => ?_
  refine ⟨φ, h, st, R, S, Post.seq q fun ds h1 e1 q φ1 H1 vs w1 R1 r1 => ?_⟩
  have q := q.shR R w1 R1
  unfold xfs at q
  rw [ex] at q
  cases r1 with
  | nil => exact q.elim
  | cons r1 rr =>
    cases rr with
    | cons => exact q.elim
    | nil =>
      rename_i d v _
      refine ⟨by show 1 ≤ 1000; omega, fun a hn' => ?_⟩
      refine ⟨a, v, C, rfl, T, hno, upd_same, fun dx hdx ne => ?_⟩
      have hdx1 : H1 dx = none := by rw [upd_ne ne] at hdx; exact hdx
      refine ⟨rfl, dx, [(f, v)], upd_same, ?_, ?_⟩
      · rw [upd_ne ne, upd_same]
      · have eH : upd (upd (upd (upd (upd H1 a (exo a C none)) dx (exd dx [(f, v)])) a (exo a C (some dx))) a (ExO a (.ref C) (some dx))) dx (.xd [(f, v)]) = upd (upd H1 dx (.xd [(f, v)])) a (ExO a (.ref C) (some dx)) := by
          funext b
          by_cases h2 : b = a
          · rw [h2, upd_ne ne.symm, upd_same, upd_same]
          · by_cases h1 : b = dx
            · rw [h1, upd_same, upd_ne ne, upd_same]
            · rw [upd_ne h1, upd_ne h2, upd_ne h2, upd_ne h1, upd_ne h2, upd_ne h2, upd_ne h1]
        rw [eH]
        have w2 : WX φ1 H1 φ1 (upd H1 dx (.xd [(f, v)])) := WX.new hdx1
        have R2 : Rel X.K φ1 h1 (upd H1 dx (.xd [(f, v)])) := R1.new hdx1
        have ha2 : (upd H1 dx (.xd [(f, v)])) a = none := by rw [upd_ne ne.symm]; exact hn'
        have w3 : WX φ1 (upd H1 dx (.xd [(f, v)])) φ1 (upd (upd H1 dx (.xd [(f, v)])) a (ExO a (.ref C) (some dx))) := WX.new ha2
        have r4 : VR X.K φ1 (upd (upd H1 dx (.xd [(f, v)])) a (ExO a (.ref C) (some dx))) d v := (r1.mono R1 w2).mono R2 w3
        exact new_ref R2 ha2 (o := .xc c [(f, d)]) ⟨C, some dx, ⟨hx, hn⟩, upd_same, [(f, v)], by rw [upd_ne ne, upd_same], .cons ⟨rfl, r4⟩ .nil⟩ (q.shR R1 w2 R2)
/-- C() as a value, no fields -/
theorem je_mkx0 {c : Str} {C : Addr} {p : Pos} (hx : c ∈ Tau.xs) (hn : PySem.W.nsIn X.K mainGlobals c = some (some (.ref C))) (hm : X.mg c = some (.ref C)) (M : XMkK X.prog X.w X.K X.mg X.base c C) (hg : Gl X c)
    (hd : (c == ("__debug__" : Str)) = false) (ex : xfld c = none) :
    PE X (.Call (.Name c p) [] [] pos) (TEr X.K ω fun st h => Py.bnd (.ok [] h) fun ds h => match xfs c ds with
      | some fs => .ok (.val (.ref h.length)) (h ++ [.xc c fs])
      | none => .fail) := by
  unfold XMkK at M
  rw [ex] at M
  obtain ⟨m1, m2, m3, m4⟩ := M
  refine pe_imp (pe_exc0 PySem.F.excBase_ValueError m1 hm m2 hg hd) fun σ H Q ⟨φ, h, st, R, S, q⟩ a ha => ?_
  have q : Post X.K (wAt ω σ) φ H (BR X.K H) (match xfs c [] with
      | some fs => (.ok (.val (.ref h.length)) (h ++ [.xc c fs]) : Out RV)
      | none => .fail) Q := q
  unfold xfs at q
  rw [ex] at q
  exact new_ref R ha (o := .xc c []) ⟨C, none, ⟨hx, hn⟩, upd_same, rfl⟩ q
end
section
variable [Tau] {ω : Wsh} {X : Cx} {K : PySem.W.Frag} {φ φ1 : List Addr} {h h1 : Hh} {H H1 : Hp} {a : Addr} {ds : List D} {gs : Gd} {e tg : Expr} {oa : St → Hh → Out RV} {p pos : Pos}
theorem rev_at {ds : List D} {i : Nat} {d : D} (e : ds.reverse[i]? = some d) : i < ds.length ∧ ds[ds.length - 1 - i]? = some d := by
  have hi := (List.getElem?_eq_some_iff.mp e).1
  rw [List.length_reverse] at hi
  rw [List.getElem?_reverse hi] at e
  exact ⟨hi, e⟩
theorem wk_rev (l : LS K φ H a ds gs) : Wk K φ H (Itv K a ds.length) ds.reverse gs where
  go := fun φ' h' H' i d w R s e => by
    obtain ⟨xs, q, r⟩ := l φ' h' H' w R s
    obtain ⟨hi, e⟩ := rev_at e
    obtain ⟨v, ev, rv⟩ := r.get e
    refine ⟨⟨hi, xs, v, q, ev⟩, fun x H2 ⟨e1, e2⟩ => ?_⟩
    subst e1
    have z := e2 xs q
    rw [ev] at z
    cases z
    exact ⟨WX.refl, R, rv⟩
  stop := fun φ' h' H' w R s => Nat.le_of_eq (List.length_reverse ..).symm
theorem wk_revT (l : TS' K φ H a ds gs) : Wk K φ H (RT.ItvT K a ds.length) ds.reverse gs where
  go := fun φ' h' H' i d w R s e => by
    obtain ⟨xs, q, r⟩ := l φ' h' H' w R s
    obtain ⟨hi, e⟩ := rev_at e
    obtain ⟨v, ev, rv⟩ := r.get e
    refine ⟨⟨hi, xs, v, q, ev⟩, fun x H2 ⟨e1, e2⟩ => ?_⟩
    subst e1
    have z := e2 xs q
    rw [ev] at z
    cases z
    exact ⟨WX.refl, R, rv⟩
  stop := fun φ' h' H' w R s => Nat.le_of_eq (List.length_reverse ..).symm
/-- for .. in reversed(x) -/
theorem ji_rev (hg : Gl X "reversed") (hm : X.mg "reversed" = none) (n : noStar e = true) (he : PE X e (TEr X.K ω oa)) : PI X tg (.Call (.Name "reversed" p) [e] [] pos) (TIr X.K ω fun st h => Py.bnd (oa st h) fun x h => match itSeq x h with
    | some p => .ok (p.1.reverse, p.2) h
    | none => .fail) := pi_imp (RT.pi_revA hg hm he (star_cons n)) fun σ H Rr ⟨φ, h, st, R, S, q⟩ => by
  refine ⟨φ, h, st, R, S, ?_⟩
  refine Post.seq q fun x h1 e1 eo φ1 H1 v1 w1 R1 r1 => ?_
  cases e2 : itSeq x h1 with
  | none => rw [e2] at eo; exact eo.elim
  | some p' =>
    rw [e2] at eo
    obtain ⟨s, a, rfl, ⟨_, l⟩ | ⟨_, l⟩⟩ := itSeq_ok R1 r1 e2
    · obtain ⟨xs, sq, r⟩ := l φ1 h1 H1 WX.refl R1 s
      refine ⟨a, xs, rfl, .inl ⟨sq, ?_⟩⟩
      rw [r.length]
      exact eo φ1 H1 _ w1 R1 (wk_rev l)
    · obtain ⟨xs, sq, r⟩ := l φ1 h1 H1 WX.refl R1 s
      refine ⟨a, xs, rfl, .inr ⟨sq, ?_⟩⟩
      rw [r.length]
      exact eo φ1 H1 _ w1 R1 (wk_revT l)
end
end Py
/-! Core, part 8: lambdas with one parameter, handed to a def. -/
namespace Py
open PySem PySem.Spec PyProof.Rows LamX NdefX
open L2 hiding St start wipe
/-! ### a lambda called -/
abbrev lamF (q : Str) (params : Arguments) (scope : Scope) (cl : List (Str × Addr)) (c' : Addr) : NF := ⟨"<lambda>", q, params, [], scope, cl, c'⟩
theorem lam_run {P : Program} {w : World} {K : PySem.W.Frag} {mg : Str → Option Value} {base : Heap} {k : Nat} {f c' : Addr} {q z : Str} {params : Arguments} {body : Expr} {scope : Scope} {cl : List (Str × Addr)} {pm ctv : Value} {fr : List Str} {ws : List (Option V)} {A : Around} {outer : List Env} {s : Shared} {H : Hp} {v : V} {u : Value} {Q : VK} {E : XK} {tb : TE}
    (S : NScope (z :: fr) [z] fr scope) (hb : bindArgs (PySem.W.kla_fn "<lambda>" q params body scope cl pm (.ref c') ctv) ⟨[u], []⟩ = pure [(z, u)]) (hr : Room (k + 1) A) (e0 : Env0 P w K mg base A outer s H)
    (of1 : s.heap.get? f = some (PySem.W.kla_obj "<lambda>" q params body scope cl pm c' ctv)) (hc : H c' = some (CodeO c' q)) (C : CellsAt cl fr ws s.heap H) (r : L2.RelV v u)
    (hbody : Room k (A.deeper (envF (lamF q params scope cl c') f s.heap.objs.size)) → PE (ncx (L2.CX P w) P w K mg base (z :: fr) (lamF q params scope cl c') f A outer s H E) body tb) (ht : tb (startF (z :: fr) [v] ws) H Q) :
    codeAny (model P w) A (.call (.ref f) ⟨[u], []⟩) (CR (L2.CX P w) outer P w H s Q E) s := by
  have lim : s.heap.NoLimit := e0.mod.nolimit.keeps fun b o e => (e0.bs b o e).1
  refine PySem.W.kla_callFunE hr.depth of1 rfl S.co S.gen rfl (codeO_at e0.hok hc) ?_
  rw [hb]
  refine wpAny_pure (wpAny_newFunctionEnv S.nocell (fun y hy => ?_) (fun h₁ hns hsb => ⟨lim.fresh _ hsb, ?_⟩) S.kind)
  · rw [List.mem_singleton.mp hy]
    exact S.par z (by simp)
  show codeAny _ _ (.expr body (envF (lamF q params scope cl c') f s.heap.objs.size)) _ _
  have kp : ∀ b o, s.heap.get? b = some o → h₁.get? b = some o := fun b o e => hsb.extBut b o (Nat.ne_of_lt (Heap.lt_size e)) (Heap.get?_push_of_some _ e)
  have J : Inv (ncx (L2.CX P w) P w K mg base (z :: fr) (lamF q params scope cl c') f A outer s H E) [] (startF (z :: fr) [v] ws) H { s with heap := h₁, toks := s.toks + 1 } := inv_startN (us := [u]) S hr.hd e0 rfl (.cons r .nil) C hns kp
  refine PySem.W.kla_codeExpr (wpAny_mono ((hbody (hr.deeper _)).run [] _ _ H Q J ht) (fun v s' hq => ?_) fun e s' hq => hq)
  obtain ⟨w', H', J', rv, q⟩ := hq
  exact ⟨w', H', J'.os, J'.bare, J'.base, J'.hok, rv, q⟩
/-! ### a lambda made -/
section
variable {X : Cx} {pins : List (Addr × Obj)} {σ : L2.St} {H : Hp} {s : Shared}
theorem lam_make3 {T : List (Addr × Str)} {c P : Addr} {params : Arguments} {body : Expr} {scope : Scope} {pos : Pos} {E : Value → Shared → Prop} {Q : Value → Shared → Prop} (I : Inv X pins σ H s) (TB : TabB X.base X.mg c P) (hcode : X.env.code = .ref c)
    (hm : (P, X.env.qual ++ "<lambda>") ∈ T) (hu : ∀ p ∈ T, p.1 = P → p.2 = X.env.qual ++ "<lambda>") (hT : Tabs T H) (hdef : defaultsOf params X.env = ([], [])) (hfree : ∀ y ∈ scope.names, y.2 = .free → ∃ c, X.env.cells.lookup y.1 = some c)
    (h : ∀ (f c' : Addr) (pm ctv : Value) (H1 : Hp) (s' : Shared), Inv X pins σ H1 s' → (∀ b o, H b = some o → KeepO o (H1 b)) → Tabs T H1 →
      s'.heap.get? f = some (PySem.W.kla_obj "<lambda>" (X.env.qual ++ "<lambda>") params body scope (cloFrom X.env.cells scope.names []) pm c' ctv) → H1 f = none → f ∉ frs X.stack → H1 c' = some (CodeO c' (X.env.qual ++ "<lambda>")) → Q (.ref f) s') :
    wpAny (model X.prog X.w) X.A (eval (.Lambda params body scope pos) X.env) Q E s := by
  obtain ⟨ps, hP, ht, ha⟩ := hT _ hm
  refine PySem.W.kla_eval hdef ?_
  have bP : s.heap.BuiltinsAt X.mg P := TB.bm.keeps I.bk
  have hP' : s.heap.get? P = some { cls := .none, data := .fields ps } := I.hok P _ hP
  have nofr : ∀ f, s.heap.objs.size ≤ f → f ∉ frs X.stack := fun f hf z => by
    rcases List.mem_cons.mp (I.stkSub _ z) with e | e
    · have h1 := I.lt
      rw [← e] at h1
      exact Nat.lt_irrefl _ (Nat.lt_of_lt_of_le h1 hf)
    · exact I.nofs hf e
  cases hc : codeAmong pos ps.toList with
  | none =>
    refine PySem.W.kla_makeFunction (mg := X.mg) (c := c) (P := P) (ps := ps) (closure_ok hfree) I.ok.glob (I.mod.glob.keeps I.bk) hcode (TB.code.keeps I.bk) hP' ht hc TB.gP bP fun c' ctv h' tk hx hge hlt hrec htb => ?_
    obtain ⟨c2, oc, vs, t, e2, hoc, hd, hv⟩ := hrec
    cases e2
    have hsz : s.heap.objs.size ≤ h'.objs.size := Nat.le_trans hge (Nat.le_of_lt hlt)
    have nC : H c' = none := I.hok.fresh hge
    have I1 := inv_table (t' := tk) (more := #[rawInt pos.line, rawInt pos.col, .ref c']) (h' := h'.push (PySem.W.kla_obj "<lambda>" (X.env.qual ++ "<lambda>") params body scope (cloFrom X.env.cells scope.names []) ((X.mg "__name__").getD .none) c' ctv)) I hP
      (fun b o hb e => Heap.get?_push_of_some _ (hx b o hb e)) (Heap.get?_push_of_some _ htb) hge ⟨oc, vs, t, Heap.get?_push_of_some _ hoc, hd, hv⟩
    have hE : ExtN H (upd (upd H P (.tbl (ps ++ #[rawInt pos.line, rawInt pos.col, .ref c']))) c' (CodeO c' (X.env.qual ++ "<lambda>"))) := fun b o e n => by
      rw [upd_ne (ne_of_none e nC), upd_ne (fun z => n ps (Option.some.inj (e.symm.trans (by rw [z]; exact hP))))]
      exact e
    have hK : ∀ b o, H b = some o → KeepO o (upd (upd H P (.tbl (ps ++ #[rawInt pos.line, rawInt pos.col, .ref c']))) c' (CodeO c' (X.env.qual ++ "<lambda>")) b) := fun b o e => by
      by_cases hb : b = P
      · subst hb
        rw [hP] at e
        cases e
        exact .inr ⟨ps, _, rfl, by rw [upd_ne (ne_of_none hP nC), upd_same]⟩
      · exact .inl (by rw [upd_ne (ne_of_none e nC), upd_ne hb]; exact e)
    have eL : (ps ++ #[rawInt pos.line, rawInt pos.col, .ref c']).toList = ps.toList ++ [rawInt pos.line, rawInt pos.col, .ref c'] := by simp
    refine h h'.objs.size c' ((X.mg "__name__").getD .none) ctv _ _ I1 hK (fun p hp => ?_) (Heap.get?_push_size _ rfl) ?_ (nofr _ hsz) upd_same
    · by_cases hb : p.1 = P
      · rw [hu p hp hb, hb]
        refine ⟨_, by rw [upd_ne (ne_of_none hP nC), upd_same], by rw [eL]; exact PySem.TriplesOk_snoc _ _ _ _ ht, fun p' cv hcv => ?_⟩
        rw [eL] at hcv
        rcases among_app _ ht hcv with z | z
        · obtain ⟨c0, e1, e2⟩ := ha p' cv z
          exact ⟨c0, e1, hE _ _ e2 codeO_ne⟩
        · exact ⟨c', z, upd_same⟩
      · obtain ⟨ps', a1, a2, a3⟩ := hT p hp
        refine ⟨ps', by rw [upd_ne (ne_of_none a1 nC), upd_ne hb]; exact a1, a2, fun p' cv hcv => ?_⟩
        obtain ⟨c0, e1, e2⟩ := a3 p' cv hcv
        exact ⟨c0, e1, hE _ _ e2 codeO_ne⟩
    · have n1 : h'.objs.size ≠ c' := Nat.ne_of_gt hlt
      have n2 : h'.objs.size ≠ P := Nat.ne_of_gt (Nat.lt_of_lt_of_le (Heap.lt_size hP') hsz)
      rw [upd_ne n1, upd_ne n2]
      exact I.hok.fresh hsz
  | some cv =>
    obtain ⟨c', e, hco⟩ := ha pos cv hc
    subst e
    refine PySem.W.kla_makeFunctionHit (mg := X.mg) (c := c) (P := P) (ps := ps) (closure_ok hfree) I.ok.glob (I.mod.glob.keeps I.bk) hcode (TB.code.keeps I.bk) hP' ht hc bP fun ctv h' tk hx hsz => ?_
    have I1 : Inv X pins σ H { s with heap := h'.push (PySem.W.kla_obj "<lambda>" (X.env.qual ++ "<lambda>") params body scope (cloFrom X.env.cells scope.names []) ((X.mg "__name__").getD .none) c' ctv), toks := tk } := I.kept fun b o e => Heap.get?_push_of_some _ (hx b o e)
    exact h h'.objs.size c' ((X.mg "__name__").getD .none) ctv H _ I1 (fun b o e => .inl e) hT (Heap.get?_push_size _ rfl) (I.hok.fresh hsz) (nofr _ hsz) hco
end
section
variable [Tau] {X : Cx} {K : PySem.W.Frag} {φ φ1 : List Addr} {h h1 : Hh} {H H1 : Hp} {ω : Wsh} {st : St} {σ : L2.St} {e a b : Expr} {oa ob : St → Hh → Out RV} {p pos : Pos}
/-- a table has grown -/
theorem WX.lam (k : ∀ b o, H b = some o → KeepO o (H1 b)) : WX φ H φ H1 :=
  ⟨[], by simp, fun _ z => by simp at z, fun a o _ e => k a o e, fun a c ⟨xs, q⟩ => .inl ⟨xs, (k _ _ q).non fun ps z => by unfold DnO at z; cases z⟩, fun a ⟨xs, q⟩ => ⟨xs, (k _ _ q).non fun ps z => by cases z⟩⟩
theorem Rel.lam (R : Rel K φ h H) (k : ∀ b o, H b = some o → KeepO o (H1 b)) (T : LamX.Tabs Tau.tabs H1) : Rel K φ h H1 :=
  ⟨R.len, fun n o a h1 h2 => (R.obj n o a h1 h2).mono R (WX.lam k) (by
    obtain ⟨u, q, t⟩ := R.some_of (List.mem_of_getElem? h2)
    rw [q]
    exact (k _ _ q).non fun ps z => t.noTbl z), R.inj, T, Tau.keep R.inv fun a o q _ n => (k a o q).non n⟩
/-- what a call of the lambda at f gives, here -/
def WRun (Z : Cx) (cf : Str → List D → Hh → Out D) (f : Addr) : Prop := ∀ (pins : List (Addr × Obj)) (s : Shared) (σ : L2.St) (H : Hp), Inv Z pins σ H s → PySem.W.FnAt f s.heap ∧
  ∀ (v : V) (u : Value) (Q : VK) (E : XK), L2.RelV v u → (∃ φ h d, Rel Z.K φ h H ∧ VR Z.K φ H d v ∧ Post Z.K E φ H (BD Z.K) (cf "wanted!" [d] h) Q) → codeAny (model Z.prog Z.w) Z.A (.call (.ref f) ⟨[u], []⟩) (CR (L2.CX Z.prog Z.w) Z.stack Z.prog Z.w H s Q E) s
/-- y(e), y the lambda -/
theorem je_wnt {cf : Str → List D → Hh → Out D} {i : Nat} {y : Str} {os : St → Hh → Out (List D)} (tk : L2.Takes X ω) (hW : ∀ f, Tau.pin = some (i, f) → WRun X cf f) (hN : X.N[i]? = some y) (hv : Vis X.env.scope y) (hd : (y == ("__debug__" : Str)) = false) (hcd : (y == ("__classdict__" : Str)) = false)
    (n : noStar e = true) (hm : ∀ st h ds h', os st h = .ok ds h' → ds.length = 1) (ha : PA X [e] (TAr X.K ω os)) :
    PE X (.Call (.Name y p) [e] [] pos) (TEr X.K ω fun st h => match st[i]? with
      | some (some .fnv) => Py.bnd (os st h) fun ds h => Py.bnd (cf "wanted!" ds h) fun d h => .ok (.val d) h
      | _ => .fail) := by
  refine ⟨fun pins s σ H Q I h => ?_⟩
  obtain ⟨φ, h, st, R, S, q⟩ := h
  dsimp only at q
  split at q
  case h_2 => exact q.elim
  rename_i e1
  obtain ⟨f, ep, es⟩ := S.fnv e1
  have W := hW f ep
  refine wpAny_Call_Name_kw (thn ((pe_var (pos := p) (i := i) hN hv hd hcd).run pins s σ H (fun v H1 => v = .ref f ∧ H1 = H) I ⟨.ref f, es, rfl, rfl⟩) fun u s1 ⟨v, H1, I1, r1, q1⟩ => ?_)
  obtain ⟨ev, eH⟩ := q1
  subst ev
  rw [eH] at I1
  obtain rfl : u = Value.ref f := r1
  have st1 := star_cons (es := []) (env := X.env) n
  refine PySem.W.callWith_F (first := []) (W _ _ _ _ I1).1 (thn (ha.run pos pins s1 σ H (fun vs H2 => ∃ φ2 h2 d v, vs = [v] ∧ Rel X.K φ2 h2 H2 ∧ VR X.K φ2 H2 d v ∧ Post X.K (wAt ω σ) φ2 H2 (BD X.K) (cf "wanted!" [d] h2) Q) I1 ⟨φ, h, st, R, S, ?_⟩) fun us s2 ⟨vs, H2, I2, r, φ2, h2, d, v, ev, R2, rv, q2⟩ => ⟨(W _ _ _ _ I2).1, ?_⟩) st1 (by rfl)
  · refine Post.seq q fun ds h1 e2 q φ1 H1 vs w1 R1 r1 => ?_
    obtain ⟨d, rfl⟩ : ∃ d, ds = [d] := by
      have := hm _ _ _ _ e2
      match ds, this with
      | [d], _ => exact ⟨d, rfl⟩
    cases r1 with
    | cons r1 r2 =>
      cases r2
      exact ⟨φ1, h1, d, _, rfl, R1, r1, Post.seqW q R w1 R1 fun d h2 e2 q φ2 H2 v2 w2 R2 r2 => q φ2 H2 v2 (w1.trans R R1 w2) R2 r2⟩
  · subst ev
    cases r with
    | cons r rn =>
      cases rn
      show wpAny _ _ (call (.ref f) [_]) _ _ _
      refine wpAny_call (codeAny_mono ((W _ _ _ _ I2).2 v _ Q (wAt ω σ) r ⟨φ2, h2, d, R2, rv, q2⟩) fun r s' hq => ?_)
      cases r with
      | error e => exact passes_at tk σ pins H2 s2 e s' I2 hq
      | ok fl =>
        cases fl with
        | ret u => exact I2.after hq
        | next => exact False.elim hq
        | brk => exact False.elim hq
        | cont => exact False.elim hq
theorem capD_ok (S : SR K φ H st σ) (hp : ∀ j f, Tau.pin = some (j, f) → False) : ∀ {js : List Nat} {cs : List D}, capD st js = some cs → ∃ vs, js.map (slotAt σ) = vs.map some ∧ VRs K φ H cs vs
  | [], cs, e => by
    cases e
    exact ⟨[], rfl, .nil⟩
  | j :: js, cs, e => by
    unfold capD at e
    split at e
    · rename_i d ds e1 e2
      cases e
      obtain ⟨v, ev, rv⟩ := S.val (fun f z => hp _ f z) d e1
      obtain ⟨vs, e3, r3⟩ := capD_ok S hp e2
      exact ⟨v :: vs, by rw [List.map_cons, List.map_cons, e3, slotAt_of ev], .cons rv r3⟩
    · cases e
/-- what a call of g with two arguments and the lambda gives -/
def LRun (X : Cx) (cf : Str → List D → Hh → Out D) (f : Str) (fa : Addr) (params : Arguments) (body : Expr) (scope : Scope) (fr : List Str) (js : List Nat) : Prop :=
  ∀ (pins : List (Addr × Obj)) (s : Shared) (σ : L2.St) (H : Hp) (lf c' : Addr) (pm ctv : Value), Inv X pins σ H s → s.heap.get? lf = some (PySem.W.kla_obj "<lambda>" (X.env.qual ++ "<lambda>") params body scope (cloFrom X.env.cells scope.names []) pm c' ctv) → H lf = none → lf ∉ frs X.stack → H c' = some (CodeO c' (X.env.qual ++ "<lambda>")) →
    CellsAt (cloFrom X.env.cells scope.names []) fr (js.map (slotAt σ)) s.heap H → ∀ (φ : List Addr) (h : Hh) (x y : D) (cs : List D) (v1 v2 : V) (vs : List V) (u1 u2 : Value) (Q : VK) (E : XK), Rel X.K φ h H → VR X.K φ H x v1 → VR X.K φ H y v2 → L2.RelV v1 u1 → L2.RelV v2 u2 → js.map (slotAt σ) = vs.map some → VRs X.K φ H cs vs →
    Post X.K E φ H (BD X.K) (cf f (x :: y :: cs) h) Q → codeAny (model X.prog X.w) X.A (.call (.ref fa) ⟨[u1, u2, .ref lf], []⟩) (CR (L2.CX X.prog X.w) X.stack X.prog X.w H s Q E) s
/-- g(a, b, lambda z: body) -/
theorem je_calll {cf : Str → List D → Hh → Out D} {f g : Str} {fa c P : Addr} {fr : List Str} {js : List Nat} {params : Arguments} {body : Expr} {scope : Scope} {lpos : Pos} (tk : L2.Takes X ω) (hg : Gl X g) (hm : X.mg g = some (.ref fa)) (hk : PySem.W.keepIn X.K (.ref fa) = true) (hdb : (g == ("__debug__" : Str)) = false)
    (na : noStar a = true) (nb : noStar b = true) (ha : PE X a (TEr X.K ω oa)) (hb : PE X b (TEr X.K ω ob)) (hp : Tau.pin = none)
    (TB : TabB X.base X.mg c P) (hcode : X.env.code = .ref c) (hmT : (P, X.env.qual ++ "<lambda>") ∈ Tau.tabs) (hu : ∀ p ∈ Tau.tabs, p.1 = P → p.2 = X.env.qual ++ "<lambda>") (hdef : defaultsOf params X.env = ([], []))
    (hfree : ∀ y ∈ scope.names, y.2 = .free → X.env.scope.names.lookup y.1 = some .cell ∨ X.env.scope.names.lookup y.1 = some .free) (hfr : ∀ y ∈ fr, (y, NameKind.free) ∈ scope.names) (hjs : js.map (fun j => X.N[j]?) = fr.map some)
    (G : LRun X cf f fa params body scope fr js) :
    PE X (.Call (.Name g p) [a, b, .Lambda params body scope lpos] [] pos) (TEr X.K ω fun st h => Py.bnd (Py.bnd (oa st h) mat) fun x h => Py.bnd (Py.bnd (ob st h) mat) fun y h => match capD st js with
      | some cs => Py.bnd (cf f (x :: y :: cs) h) fun d h => .ok (.val d) h
      | none => .fail) := by
  refine ⟨fun pins s σ H Q I hq => ?_⟩
  obtain ⟨φ, h, st, R, S, q⟩ := hq
  dsimp only at q
  refine wpAny_Call_Name_kw (ld_glob I hg hm ?_ hdb)
  refine PySem.W.callWith_K (h₀ := X.base) I.ok.mod.kin hk ?_ (star_cons na) (starsN [b, .Lambda params body scope lpos] _ (by rw [List.all_cons, nb]; rfl))
  rw [star_cons na, star_cons nb]
  show wpAny _ _ (spliced ((false, eval a X.env) :: (false, eval b X.env) :: (false, eval (.Lambda params body scope lpos) X.env) :: backTo pos (starEach [] X.env))) _ _ s
  refine Calls.spliced_cons (thn ((jd ha).run pins s σ H (fun v1 H1 => ∃ φ1 h1 x, Rel X.K φ1 h1 H1 ∧ SR X.K φ1 H1 st σ ∧ VR X.K φ1 H1 x v1 ∧ Post X.K (wAt ω σ) φ1 H1 (BR X.K H1) (Py.bnd (Py.bnd (ob st h1) mat) fun y h => match capD st js with
      | some cs => Py.bnd (cf f (x :: y :: cs) h) fun d h => .ok (.val d) h
      | none => .fail) Q) I ⟨φ, h, st, R, S, ?_⟩) fun u1 s1 ⟨v1, H1, I1, r1, φ1, h1, x, R1, S1, rx, q⟩ => ?_)
  · exact Post.seq q fun x h1 e1 q φ1 H1 v1 w1 R1 r1 => ⟨φ1, h1, x, R1, S.mono R w1, r1, q.shR R w1 R1⟩
  refine Calls.spliced_cons (thn ((jd hb).run pins s1 σ H1 (fun v2 H2 => ∃ φ2 h2 y, Rel X.K φ2 h2 H2 ∧ SR X.K φ2 H2 st σ ∧ VR X.K φ2 H2 x v1 ∧ VR X.K φ2 H2 y v2 ∧ Post X.K (wAt ω σ) φ2 H2 (BR X.K H2) (match capD st js with
      | some cs => Py.bnd (cf f (x :: y :: cs) h2) fun d h => .ok (.val d) h
      | none => .fail) Q) I1 ⟨φ1, h1, st, R1, S1, ?_⟩) fun u2 s2 ⟨v2, H2, I2, r2, φ2, h2, y, R2, S2, rx, ry, q⟩ => ?_)
  · exact Post.seq q fun y h2 e2 q φ2 H2 v2 w2 R2 r2 => ⟨φ2, h2, y, R2, S1.mono R1 w2, rx.mono R1 w2, r2, q.shR R1 w2 R2⟩
  split at q
  case h_2 => exact q.elim
  rename_i cs ec
  have L : X.Ok → ∀ y ∈ scope.names, y.2 = .free → ∃ c, X.env.cells.lookup y.1 = some c := fun ok y hy e => by
    rcases hfree y hy e with k | k
    · exact ok.has _ (.inl k)
    · exact ok.has _ (.inr k)
  refine Calls.spliced_cons (lam_make3 I2 TB hcode hmT hu R2.tab hdef (L I2.ok) fun lf c' pm ctv H3 s3 I3 kp T3 ho hn hfs hco => ?_)
  refine Calls.spliced_nil ⟨I3.kIn, ?_⟩
  have w3 : WX φ2 H2 φ2 H3 := WX.lam kp
  have R3 := R2.lam kp T3
  obtain ⟨vs, ev, rc⟩ := capD_ok (S2.mono R2 w3) (fun j f z => by rw [hp] at z; cases z) ec
  have C3 := cells_of I3 (Caps.made I3.ok hfree hfr hjs)
  have q3 : Post X.K (wAt ω σ) φ2 H3 (BD X.K) (cf f (x :: y :: cs) h2) Q := Post.seqW q R2 w3 R3 fun d h4 e4 q φ4 H4 v4 w4 R4 r4 => q φ4 H4 v4 (w3.trans R2 R3 w4) R4 r4
  show wpAny _ _ (call (.ref fa) [u1, u2, .ref lf]) _ _ _
  refine wpAny_call (codeAny_mono (G pins s3 σ H3 lf c' pm ctv I3 ho hn hfs hco C3 φ2 h2 x y cs v1 v2 vs u1 u2 Q (wAt ω σ) R3 (rx.mono R2 w3) (ry.mono R2 w3) r1 r2 ev rc q3) fun r s' hq => ?_)
  cases r with
  | error e => exact passes_at tk σ pins H3 s3 e s' I3 hq
  | ok fl =>
    cases fl with
    | ret u => exact I3.after hq
    | next => exact False.elim hq
    | brk => exact False.elim hq
    | cont => exact False.elim hq
end
end Py
/-! Core, part M: an IR looked at against the text. -/
namespace Py
open PySem PySem.Spec PyProof.Rows
open L2 hiding St start wipe
/-- a lambda handed to the def g: the captured names' slots, a look at its text -/
structure LamI where
  g : Str
  js : List Nat
  chk : Scope → Arguments → Expr → Scope → Bool
/-- what a look needs: the slots' names, the defs that may be called, the builtins that no one shadows, the keywords that bind -/
structure CC where
  N : List Str
  F : List Str
  B : List Str
  kw : Str → List Str → Nat → Bool
  /-- classes that isinstance and except clauses name; exceptions' fields; classes that are raised -/
  xs : List Str
  fl : List Str
  rs : List Str
  /-- the slot that holds a lambda; whether it may be called; the lambdas that are handed on -/
  pin : Option Nat
  wn : Bool
  lm : List (Str × LamI)
/-- .. within an except suite -/
def CC.hot (c : CC) : CC := ⟨c.N, [], [], c.kw, c.xs, c.fl, [], c.pin, false, []⟩
def namesB : List Str → List Expr → Bool
  | [], [] => true
  | k :: ks, e :: es => (match e with
    | .Name x _ => decide (k = x)
    | _ => false) && namesB ks es
  | _, _ => false
def clsB (ks : List Str) (t : Expr) : Bool := match t with
  | .Name k _ => decide (ks = [k])
  | .Tuple es _ _ => namesB ks es
  | _ => false
def visB (sc : Scope) (x : Str) : Bool := match sc.names.lookup x with
  | some .local => true
  | some .cell => true
  | some .free => true
  | _ => false
/-- what a raised class is made with -/
def raB (cl : Str) (es : Es) (es' : List Expr) : Bool := match xfld cl, es, es' with
  | some _, _, _ :: _ => true
  | none, .nil, [] => true
  | _, _, _ => false
def locB (fs : Option Scope) (sc : Scope) (x : Str) : Bool := match sc.names.lookup x with
  | some .local => true
  | some .cell => (match fs with
    | none => true
    | some s => s.names.lookup x == some .cell)
  | _ => false
def glB (sc : Scope) (x : Str) : Bool := match sc.names.lookup x with
  | some .globalImplicit => true
  | _ => false
/-- nothing is handled (an except suite is looked at without built-ins) -/
def calmB (c : CC) : Bool := !c.B.isEmpty
def bltB (c : CC) (sc : Scope) (x : Str) : Bool := glB sc x && decide (x ∈ c.B) && (glbV x).isNone
/-- a name at the top that holds a text -/
def gloB (c : CC) (sc : Scope) (x : Str) : Bool := glB sc x && decide (x ∈ c.B) && !(x == ("__debug__" : Str))
def noSet : Expr → Bool
  | .Set _ _ _ => false
  | _ => true
def funB (sc : Scope) : Bool := match sc.kind with
  | .function => true
  | _ => false
def dbgB (x : Str) : Bool := !(x == ("__debug__" : Str))
def ownP (c : CC) (own : List Nat) : List (Str × Nat) := own.map fun i => ((c.N[i]?).getD (Str.ofString ""), i)
def ownB (g : G) (own : List Nat) : Bool := match gOwn g with
  | some l => l.all fun i => decide (i ∈ own)
  | none => false
section
variable (c : CC)
mutual
def chkE (fs : Option Scope) (sc : Scope) : E → Expr → Bool
  | .var i, e => (match e with
    | .Name x _ => decide (c.pin ≠ some i) && decide (c.N[i]? = some x) && visB sc x && dbgB x && !(x == ("__classdict__" : Str))
    | _ => false)
  | .non, e => (match e with
    | .Constant .none _ _ => true
    | _ => false)
  | .bl b, e => (match e with
    | .Constant (.bool b') _ _ => b == b'
    | _ => false)
  | .int i, e => (match e with
    | .Constant (.int i') _ _ => decide (i = i')
    | _ => false)
  | .str x, e => (match e with
    | .Constant (.str x') _ _ => decide (x = x')
    | _ => false)
  | .bin o a b, e => (match e with
    | .BinOp a' o' b' _ => decide (o = o') && chkE fs sc a a' && chkE fs sc b b'
    | _ => false)
  | .neg a, e => (match e with
    | .UnaryOp .USub a' _ => chkE fs sc a a'
    | _ => false)
  | .cmp o a b, e => (match e with
    | .Compare a' [o'] [b'] _ => decide (o = o') && !behindInMarks o' b' && chkE fs sc a a' && chkE fs sc b b'
    | _ => false)
  | .cmp2 o p a b c2, e => (match e with
    | .Compare a' [o', p'] [b', c'] _ => decide (o = o') && decide (p = p') && !lastMarks [o', p'] [b', c'] && chkE fs sc a a' && chkE fs sc b b' && chkE fs sc c2 c'
    | _ => false)
  | .and a b, e => (match e with
    | .BoolOp .And [a', b'] _ => chkE fs sc a a' && chkE fs sc b b'
    | .BoolOp .And (a' :: b' :: c' :: r) pos => chkE fs sc a a' && chkE fs sc b (.BoolOp .And (b' :: c' :: r) pos)
    | _ => false)
  | .or a b, e => (match e with
    | .BoolOp .Or [a', b'] _ => chkE fs sc a a' && chkE fs sc b b'
    | .BoolOp .Or (a' :: b' :: c' :: r) pos => chkE fs sc a a' && chkE fs sc b (.BoolOp .Or (b' :: c' :: r) pos)
    | _ => false)
  | .not a, e => (match e with
    | .UnaryOp .Not a' _ => chkE fs sc a a'
    | _ => false)
  | .ifx t a b, e => (match e with
    | .IfExp t' a' b' _ => chkE fs sc t t' && chkE fs sc a a' && chkE fs sc b b'
    | _ => false)
  | .tup es, e => (match e with
    | .Tuple es' _ _ => chkEs fs sc es es'
    | _ => false)
  | .lst es, e => (match e with
    | .List es' _ => chkEs fs sc es es'
    | _ => false)
  | .dct ks vs, e => (match e with
    | .Dict keys values _ => decide (ks ≠ [] ∧ ks.length ≤ 15) && keysE ks keys && decide (keys.length = values.length) && chkEs fs sc vs values
    | _ => false)
  | .dnew _, e => (match e with
    | .Dict [] [] _ => true
    | _ => false)
  | .d1 k v, e => (match e with
    | .Dict [some k'] [v'] _ => chkE fs sc k k' && chkE fs sc v v'
    | _ => false)
  | .d2 k v k2 v2, e => (match e with
    | .Dict [some k', some k2'] [v', v2'] _ => chkE fs sc k k' && chkE fs sc v v' && chkE fs sc k2 k2' && chkE fs sc v2 v2'
    | _ => false)
  | .best mx a, e => (match e with
    | .Call (.Name x _) [a'] [] _ => decide (x = mxName mx) && bltB c sc x && noStar a' && chkE fs sc a a'
    | _ => false)
  | .bestd mx a d, e => (match e with
    | .Call (.Name x _) [a'] [⟨some y, d', _⟩] _ => decide (x = mxName mx) && decide (y = "default") && bltB c sc x && noStar a' && chkE fs sc a a' && chkE fs sc d d'
    | _ => false)
  | .trv a, e => (match e with
    | .Call (.Name x _) [.Call (.Name y _) [a'] [] _] [] _ => decide (x = "tuple") && bltB c sc x && decide (y = "reversed") && bltB c sc y && noStar a' && chkE fs sc a a'
    | _ => false)
  | .lrv a, e => (match e with
    | .Call (.Name x _) [.Call (.Name y _) [a'] [] _] [] _ => decide (x = "list") && bltB c sc x && decide (y = "reversed") && bltB c sc y && noStar a' && chkE fs sc a a'
    | _ => false)
  | .sset a, e => (match e with
    | .Call (.Name x _) [.Call (.Name y _) [a'] [] _] [] _ => decide (x = "sorted") && bltB c sc x && decide (y = "set") && bltB c sc y && noStar a' && chkE fs sc a a'
    | _ => false)
  | .lset a, e => (match e with
    | .Call (.Name x _) [.Call (.Name y _) [a'] [] _] [] _ => decide (x = "len") && bltB c sc x && decide (y = "set") && bltB c sc y && noStar a' && chkE fs sc a a'
    | _ => false)
  | .lrg a, e => (match e with
    | .Call (.Name x _) [.Call (.Name y _) [a'] [] _] [] _ => decide (x = "list") && bltB c sc x && decide (y = "range") && bltB c sc y && noStar a' && chkE fs sc a a'
    | _ => false)
  | .lks a, e => (match e with
    | .Call (.Name x _) [a'] [] _ => decide (x = "list") && bltB c sc x && noStar a' && chkE fs sc a a'
    | _ => false)
  | .sm m o v, e => (match e with
    | .Call (.Attribute a x apos) [e'] [] pos => decide (x = smName m) && notCall a && noStar e' && (apos.endLine == pos.line) && chkE fs sc o a && chkE fs sc v e'
    | _ => false)
  | .sin n a b, e => (match e with
    | .Compare a' [op] [b'] _ => decide (op = if n = true then CmpOp.NotIn else CmpOp.In) && !(behindInMarks op b') && chkE fs sc a a' && chkE fs sc b b'
    | _ => false)
  | .glob x, e => (match e with
    | .Name y _ => decide (x = y) && gloB c sc y
    | _ => false)
  | .dcl a, e => (match e with
    | .Call (.Attribute x nm apos) [] [] pos => decide (nm = "clear") && notCall x && (apos.endLine == pos.line) && chkE fs sc a x
    | _ => false)
  | .mxv a, e => (match e with
    | .Call (.Name x _) [.Call (.Attribute a' y apos) [] [] cpos] [] _ => decide (x = "max") && bltB c sc x && decide (y = "values") && notCall a' && (apos.endLine == cpos.line) && chkE fs sc a a'
    | _ => false)
  | .mkd a, e => (match e with
    | .Call (.Name x _) [a'] [] _ => decide (x = "dict") && bltB c sc x && noStar a' && chkE fs sc a a'
    | _ => false)
  | .dget a k x, e => (match e with
    | .Call (.Attribute a' nm apos) [k'] [] pos => decide (nm = "get") && notCall a' && noStar k' && (apos.endLine == pos.line) && decide (x = .non) && chkE fs sc a a' && chkE fs sc k k'
    | .Call (.Attribute a' nm apos) [k', x'] [] pos => decide (nm = "get") && notCall a' && noStar k' && noStar x' && (apos.endLine == pos.line) && chkE fs sc a a' && chkE fs sc k k' && chkE fs sc x x'
    | _ => false)
  | .ix a i, e => (match e with
    | .Subscript a' i' _ => noSlice i' && chkE fs sc a a' && chkE fs sc i i'
    | _ => false)
  | .slc a lo hi, e => (match e with
    | .Subscript a' (.Slice lo' hi' none _) _ => chkE fs sc a a' && chkO fs sc lo lo' && chkO fs sc hi hi'
    | _ => false)
  | .revs a, e => (match e with
    | .Subscript a' (.Slice none none (some (.UnaryOp .USub (.Constant (.int i) _ _) _)) _) _ => decide (i = 1) && chkE fs sc a a'
    | _ => false)
  | .call f es, e => (match e with
    | .Call (.Name x _) es' [] _ => decide (x = f) && decide (f ∈ c.F) && glB sc f && dbgB f && chkEs fs sc es es'
    | _ => false)
  | .callk f es ks vs, e => (match e with
    | .Call (.Name x _) es' kws _ => decide (x = f) && decide (f ∈ c.F) && glB sc f && dbgB f && chkEs fs sc es es' && decide (kws.map (·.arg) = ks.map some) && c.kw f ks es'.length && chkKs fs sc vs kws
    | _ => false)
  | .blt f es, e => (match e with
    | .Call (.Name x _) (e' :: es') [] _ => decide (x = bfName f) && bltB c sc x && chkEs fs sc es (e' :: es')
    | _ => false)
  | .m0 m o, e => (match e with
    | .Call (.Attribute a x apos) [] [] pos => decide (x = m0Name m) && notCall a && (apos.endLine == pos.line) && chkE fs sc o a
    | _ => false)
  | .m1 m o v, e => (match e with
    | .Call (.Attribute a x apos) [e'] [] pos => decide (x = m1Name m) && notCall a && noStar e' && (apos.endLine == pos.line) && chkE fs sc o a && chkE fs sc v e'
    | _ => false)
  | .isi a t, e => (match e with
    | .Call (.Name x _) [a', .Name y _] [] _ => decide (x = "isinstance") && bltB c sc x && decide (y = Str.ofString (tyName t)) && bltB c sc y && noStar a' && chkE fs sc a a'
    | _ => false)
  | .app o v, e => (match e with
    | .Call (.Attribute a x apos) [e'] [] pos => decide (x = "append") && notCall a && noStar e' && (apos.endLine == pos.line) && chkE fs sc o a && chkE fs sc v e'
    | _ => false)
  | .calll f a b js, e => (match e with
    | .Call (.Name x _) [a', b', .Lambda params body scope _] [] _ => (match c.lm.lookup f with
      | some L => decide (x = L.g) && fs.isNone && glB sc x && dbgB x && noStar a' && noStar b' && decide (js = L.js) && L.chk sc params body scope && chkE fs sc a a' && chkE fs sc b b'
      | none => false)
    | _ => false)
  | .wnt i es, e => (match e with
    | .Call (.Name y _) [e'] [] _ => c.wn && fs.isNone && decide (c.pin = some i) && decide (c.N[i]? = some y) && visB sc y && dbgB y && !(y == ("__classdict__" : Str)) && noStar e' && chkEs fs sc es [e']
    | _ => false)
  | .mkx cl es, e => (match e with
    | .Call (.Name x _) es' [] _ => decide (x = cl) && decide (cl ∈ c.rs) && glB sc cl && dbgB cl && chkEs fs sc es es' && raB cl es es'
    | _ => false)
  | .isx a ks, e => (match e with
    | .Call (.Name x _) [a', t] [] _ => decide (x = "isinstance") && glB sc x && decide (ks ≠ []) && decide (ks.length ≤ 100) && noStar a' && (ks.all fun k => decide (k ∈ c.xs) && glB sc k && dbgB k) && clsB ks t && chkE fs sc a a'
    | _ => false)
  | .fld a f, e => (match e with
    | .Attribute a' f' _ => decide (f' = f) && decide (f ∈ c.fl) && notCall a' && chkE fs sc a a'
    | _ => false)
  | .lc own it g cnd v, e => (match e with
    | .ListComp elt [⟨tg, iter, ifs, 0⟩] scope _ => calmB c && chkI fs sc it tg iter && blkC c.N sc scope (ownP c own) && ownB g own && noSet iter && chkG (some scope) (relS scope sc) g tg && chkC (some scope) (relS scope sc) cnd ifs && chkE (some scope) (relS scope sc) v elt
    | _ => false)
def chkEs (fs : Option Scope) (sc : Scope) : Es → List Expr → Bool
  | .nil, es => es.isEmpty
  | .cons a as, es => (match es with
    | e :: es => noStar e && chkE fs sc a e && chkEs fs sc as es
    | [] => false)
def chkKs (fs : Option Scope) (sc : Scope) : Es → List Keyword → Bool
  | .nil, es => es.isEmpty
  | .cons a as, es => (match es with
    | ⟨_, e, _⟩ :: es => chkE fs sc a e && chkKs fs sc as es
    | [] => false)
def chkO (fs : Option Scope) (sc : Scope) : Eo → Option Expr → Bool
  | .no, e => e.isNone
  | .yes a, e => (match e with
    | some e => chkE fs sc a e
    | none => false)
def chkC (fs : Option Scope) (sc : Scope) : Eo → List Expr → Bool
  | .no, es => es.isEmpty
  | .yes a, es => (match es with
    | [e] => chkE fs sc a e
    | _ => false)
def chkI (fs : Option Scope) (sc : Scope) : I → Expr → Expr → Bool
  | .seq a, _, e => chkE fs sc a e
  | .rng1 a, _, e => (match e with
    | .Call (.Name x _) [e] [] _ => decide (x = "range") && bltB c sc x && noStar e && chkE fs sc a e
    | _ => false)
  | .rng2 a b, _, e => (match e with
    | .Call (.Name x _) [e, e2] [] _ => decide (x = "range") && bltB c sc x && noStar e && noStar e2 && chkE fs sc a e && chkE fs sc b e2
    | _ => false)
  | .enum a, tg, e => (match e with
    | .Call (.Name x _) [e] [] _ => isTuple tg && decide (x = "enumerate") && bltB c sc x && noStar e && chkE fs sc a e
    | _ => false)
  | .zip a b, tg, e => (match e with
    | .Call (.Name x _) [e, e2] [] _ => isTuple tg && decide (x = "zip") && bltB c sc x && noStar e && noStar e2 && chkE fs sc a e && chkE fs sc b e2
    | _ => false)
  | .rev a, _, e => (match e with
    | .Call (.Name x _) [e] [] _ => decide (x = "reversed") && bltB c sc x && noStar e && chkE fs sc a e
    | _ => false)
  | .txt a, _, e => chkE fs sc a e
  | .keys a, _, e => chkE fs sc a e
  | .items a, tg, e => (match e with
    | .Call (.Attribute a' nm apos) [] [] pos => isTuple tg && decide (nm = "items") && notCall a' && (apos.endLine == pos.line) && chkE fs sc a a'
    | _ => false)
def chkG (fs : Option Scope) (sc : Scope) : G → Expr → Bool
  | .name i, e => (match e with
    | .Name x _ => decide (c.N[i]? = some x) && locB fs sc x
    | _ => false)
  | .tup gs, e => (match e with
    | .Tuple ts _ _ => calmB c && chkGs fs sc gs ts
    | _ => false)
  | .sub o i, e => (match e with
    | .Subscript a b _ => noSlice b && chkE fs sc o a && chkE fs sc i b
    | _ => false)
def chkGs (fs : Option Scope) (sc : Scope) : Gs → List Expr → Bool
  | .nil, es => es.isEmpty
  | .cons g gs, es => (match es with
    | e :: es => noStar e && chkG fs sc g e && chkGs fs sc gs es
    | [] => false)
end
end
/-- what is known of a lambda handed on -/
def LGive [Tau] (X : Cx) (cf : Str → List D → Hh → Out D) (f : Str) (L : LamI) (params : Arguments) (body : Expr) (scope : Scope) : Prop := ∃ (fa c P : Addr) (fr : List Str), X.mg L.g = some (.ref fa) ∧ PySem.W.keepIn X.K (.ref fa) = true ∧ LamX.TabB X.base X.mg c P ∧ X.env.code = .ref c ∧
  (P, X.env.qual ++ "<lambda>") ∈ Tau.tabs ∧ (∀ p ∈ Tau.tabs, p.1 = P → p.2 = X.env.qual ++ "<lambda>") ∧ defaultsOf params X.env = ([], []) ∧ (∀ y ∈ scope.names, y.2 = .free → X.env.scope.names.lookup y.1 = some .cell ∨ X.env.scope.names.lookup y.1 = some .free) ∧
  (∀ y ∈ fr, (y, NameKind.free) ∈ scope.names) ∧ L.js.map (fun j => X.N[j]?) = fr.map some ∧ LRun X cf f fa params body scope fr L.js
/-- a context that a look fits -/
structure Cok [Tau] (c : CC) (cf : Str → List D → Hh → Out D) (ω : Wsh) (fs : Option Scope) (sc : Scope) (X : Cx) : Prop where
  N : X.N = c.N
  nd : c.N.Nodup
  calm : calmB c = true → X.calm = true
  sc : X.env.scope = sc
  fn : ∀ x, X.fn x = match fs with
    | none => true
    | some s => s.names.lookup x == some .cell
  F : ∀ f ∈ c.F, FOk X cf c.kw f
  B : ∀ x ∈ c.B, GlbS x (X.mg x)
  hu : X.A.units + 128 < cLine
  tk : L2.Takes X ω
  xk : ∀ k ∈ c.xs, XAsk X.K X.mg k
  xi : c.xs ≠ [] → X.mg "isinstance" = none ∧ XGn X.K
  xl : ∀ k ∈ Tau.xs, ∀ C, PySem.W.nsIn X.K mainGlobals k = some (some (.ref C)) → XLk X.K C ∧ ∀ f ∈ c.fl, PySem.W.findIn X.K (.ref C) f = some none
  xr : ∀ k ∈ c.rs, k ∈ Tau.xs ∧ ∃ C, PySem.W.nsIn X.K mainGlobals k = some (some (.ref C)) ∧ X.mg k = some (.ref C) ∧ XMkK X.prog X.w X.K X.mg X.base k C ∧ Room 2 X.A
  st : fs = none → X.stack = X.env :: X.outer ∧ X.env.frame = some X.env.locals ∧ X.ex = []
  pin : ∀ i f, Tau.pin = some (i, f) → c.pin = some i
  wn : c.wn = true → fs = none → ∀ pn xe i f, Tau.pin = some (i, f) → WRun (X.tr pn xe) cf f
  lm : fs = none → ∀ f L, c.lm.lookup f = some L → Tau.pin = none ∧ ∀ pn xe params body scope, L.chk X.env.scope params body scope = true → LGive (X.tr pn xe) cf f L params body scope
section
variable [Tau] {ω : Wsh} {c : CC} {cf : Str → List D → Hh → Out D} {fs : Option Scope} {sc : Scope} {X : Cx} {e tg iter : Expr} {es : List Expr} {σ : L2.St} {H : Hp}
theorem Cok.vis (C : Cok c cf ω fs sc X) {x : Str} (h : visB sc x = true) : Vis X.env.scope x := by
  rw [C.sc]
  unfold visB at h
  split at h
  · exact .inl (by assumption)
  · exact .inr (.inl (by assumption))
  · exact .inr (.inr (by assumption))
  · cases h
theorem Cok.loc (C : Cok c cf ω fs sc X) {x : Str} (h : locB fs sc x = true) : Loc X.env.scope x ∧ (X.fn x = true ∨ X.env.scope.names.lookup x = some .local) := by
  rw [C.sc]
  unfold locB at h
  split at h
  · exact ⟨.inl (by assumption), .inr (by assumption)⟩
  · refine ⟨.inr (by assumption), .inl ?_⟩
    rw [C.fn]
    exact h
  · cases h
theorem Cok.gl (C : Cok c cf ω fs sc X) {x : Str} (h : glB sc x = true) : Gl X x := by
  show X.env.scope.names.lookup x = some .globalImplicit
  rw [C.sc]
  unfold glB at h
  split at h
  · assumption
  · cases h
theorem Cok.calmB (C : Cok c cf ω fs sc X) {x : Str} (h : bltB c sc x = true) : X.calm = true := C.calm (by
  unfold bltB at h
  rw [Bool.and_eq_true, Bool.and_eq_true, decide_eq_true_eq] at h
  unfold Py.calmB
  cases e : c.B with
  | nil => rw [e] at h; exact absurd h.1.2 (by simp)
  | cons _ _ => rfl)
theorem Cok.blt (C : Cok c cf ω fs sc X) {x : Str} (h : bltB c sc x = true) : Gl X x ∧ X.mg x = none := by
  unfold bltB at h
  rw [Bool.and_eq_true, Bool.and_eq_true, decide_eq_true_eq, Option.isNone_iff_eq_none] at h
  have z := C.B x h.1.2
  unfold GlbS at z
  rw [h.2] at z
  exact ⟨C.gl h.1.1, z⟩
theorem Cok.glo (C : Cok c cf ω fs sc X) {x : Str} (h : gloB c sc x = true) : Gl X x ∧ GlbS x (X.mg x) ∧ (x == ("__debug__" : Str)) = false := by
  unfold gloB at h
  rw [Bool.and_eq_true, Bool.and_eq_true, decide_eq_true_eq, Bool.not_eq_true'] at h
  exact ⟨C.gl h.1.1, C.B x h.1.2, h.2⟩
theorem Cok.blk (C : Cok c cf ω fs sc X) (s : Shared) (H : Hp) (scope : Scope) (Cl : Addr) (cl : List (Str × Addr)) (fp : List Addr) : Cok c cf F0 (some scope) (relS scope sc) (X.blk s H scope (compEnvC scope cl Cl X.env) fp) := by
  refine ⟨C.N, C.nd, C.calm, ?_, fun x => rfl, C.F, C.B, C.hu, LamX.takes0, C.xk, C.xi, C.xl, C.xr, (fun z => by cases z), C.pin, (fun _ z => by cases z), fun z => by cases z⟩
  rw [← C.sc]
  rfl
theorem names_of : ∀ {ks : List Str} {es : List Expr}, namesB ks es = true → Paired (fun k e => ∃ p, e = .Name k p) ks es
  | [], [], _ => .nil
  | [], _ :: _, h => by cases h
  | _ :: _, [], h => by cases h
  | k :: ks, e :: es, h => by
    unfold namesB at h
    rw [Bool.and_eq_true] at h
    obtain ⟨h1, h2⟩ := h
    split at h1
    · rw [decide_eq_true_eq] at h1
      subst h1
      exact .cons ⟨_, rfl⟩ (names_of h2)
    · cases h1
theorem cls_of {ks : List Str} {t : Expr} (h : clsB ks t = true) : ∃ es, Paired (fun k e => ∃ p, e = .Name k p) ks es ∧ ((∃ k p, ks = [k] ∧ t = .Name k p) ∨ ∃ kk pp, t = .Tuple es kk pp) := by
  unfold clsB at h
  split at h
  · rename_i k p
    rw [decide_eq_true_eq] at h
    subst h
    exact ⟨[.Name k p], .cons ⟨_, rfl⟩ .nil, .inl ⟨_, _, rfl, rfl⟩⟩
  · exact ⟨_, names_of h, .inr ⟨_, _, rfl⟩⟩
  · cases h
theorem fsi {env : Env} (n : noSet e = true) : ∀ x, foldedSetIterable e env x = pure x := fun x => by
  cases e with
  | Set _ _ _ => cases n
  | _ => rfl
theorem dbg_of {x : Str} (h : dbgB x = true) : (x == ("__debug__" : Str)) = false := by
  unfold dbgB at h
  rw [Bool.not_eq_true'] at h
  exact h
theorem ownP_snd (own : List Nat) : (ownP c own).map (·.2) = own := by
  unfold ownP
  rw [List.map_map]
  exact List.map_id' own
theorem ownB_of {g : G} {own : List Nat} (h : ownB g own = true) : ∃ l, gOwn g = some l ∧ ∀ i ∈ l, i ∈ own := by
  unfold ownB at h
  split at h
  · rename_i l e
    rw [List.all_eq_true] at h
    exact ⟨l, e, fun i hi => of_decide_eq_true (h i hi)⟩
  · cases h
theorem tup_of (h : isTuple tg = true) : ∃ es k p, tg = .Tuple es k p := by
  cases tg with
  | Tuple es k p => exact ⟨es, k, p, rfl⟩
  | _ => cases h
theorem pts_no : PTs X [] (TBr X.K ω fun _ h => .ok true h) := ⟨fun pins s σ H Q I ⟨φ, h, st, R, S, q⟩ => pts_nil.run pins s σ H Q I (q.here R rfl)⟩
def Es.len : Es → Nat
  | .nil => 0
  | .cons _ es => es.len + 1
theorem evDs_len : ∀ (es : Es) (st : St) (h : Hh) (ds : List D) (h' : Hh), evDs cf es st h = .ok ds h' → ds.length = es.len
  | .nil, _, _, _, _, e => by
    simp only [evDs] at e
    cases e
    rfl
  | .cons a es, st, h, ds, h', e => by
    simp only [evDs] at e
    obtain ⟨d, h1, e1, e2⟩ := bnd_ok_of e
    obtain ⟨ds2, h2, e3, e4⟩ := bnd_ok_of e2
    cases e4
    rw [List.length_cons, evDs_len es _ _ _ _ e3]
    rfl
theorem chkKs_len : ∀ (ir : Es) (es : List Keyword), chkKs c fs sc ir es = true → es.length = ir.len
  | .nil, es, k => by
    simp only [chkKs, List.isEmpty_iff] at k
    subst k
    rfl
  | .cons a as, es, k => by
    simp only [chkKs] at k
    split at k
    · simp only [Bool.and_eq_true] at k
      rw [List.length_cons, chkKs_len as _ k.2]
      rfl
    · cases k
theorem chkEs_len : ∀ (ir : Es) (es : List Expr), chkEs c fs sc ir es = true → es.length = ir.len
  | .nil, es, k => by
    simp only [chkEs, List.isEmpty_iff] at k
    subst k
    rfl
  | .cons a as, es, k => by
    simp only [chkEs] at k
    split at k
    · simp only [Bool.and_eq_true] at k
      rw [List.length_cons, chkEs_len as _ k.2]
      rfl
    · cases k
theorem kw_len {kws : List Keyword} {ks : List Str} (h : kws.map (·.arg) = ks.map some) : kws.length = ks.length := by
  have z := congrArg List.length h
  rw [List.length_map, List.length_map] at z
  exact z
theorem evGs_len : ∀ (gs : Gs) (ds : List D) (es : List Expr) (st st' : St) (h h' : Hh), chkGs c fs sc gs es = true → evGs cf gs ds st h = .ok st' h' → ds.length = es.length
  | .nil, [], es, _, _, _, _, k, e => by
    simp only [chkGs, List.isEmpty_iff] at k
    subst k
    rfl
  | .nil, _ :: _, _, _, _, _, _, _, e => by simp only [evGs] at e; cases e
  | .cons _ _, [], _, _, _, _, _, _, e => by simp only [evGs] at e; cases e
  | .cons g gs, d :: ds, [], _, _, _, _, k, _ => by simp only [chkGs] at k; cases k
  | .cons g gs, d :: ds, x :: es, _, _, _, _, k, e => by
    simp only [chkGs, Bool.and_eq_true] at k
    simp only [evGs] at e
    obtain ⟨a, h1, e1, e2⟩ := bndF_ok_of e
    rw [List.length_cons, List.length_cons, evGs_len gs ds es _ _ _ _ k.2 e2]
end
end Py
/-! Core, part N: what was looked at is walked as the evaluator says (expressions). -/
namespace Py
open PySem PySem.Spec PyProof.Rows
open L2 hiding St start wipe
section
variable [Tau] {ω : Wsh} {c : CC} {cf : Str → List D → Hh → Out D} {fs : Option Scope} {sc : Scope} {X : Cx} {e tg iter : Expr} {es : List Expr} {σ : L2.St} {H : Hp}
/-- an expression's walk: as a value, as a test -/
structure EOk (X : Cx) (ω : Wsh) (e : Expr) (o : St → Hh → Out RV) : Prop where
  v : PE X e (TEr X.K ω o)
  t : PT X e (TBr X.K ω (truO o))
  w : ∀ op vs p, e = .BoolOp op vs p → PW X e (TBr X.K ω (truO o))
/-- one whose test is the model's own look at its value -/
theorem EOk.plain {o : St → Hh → Out RV} (p : PE X e (TEr X.K ω o)) (he : ∀ whole, isTrue e X.env whole = (do let v ← whole; standAt e.pos; holding [v] (truthy v))) (hw : ∀ op vs p, e ≠ .BoolOp op vs p) : EOk X ω e o :=
  ⟨p, jt_plain p he, fun op vs p z => absurd z (hw op vs p)⟩
/-- a choice as a test -/
theorem jt_ifx {cd a b : Expr} {oc oa ob : St → Hh → Out RV} {pos : Pos} (hc : PT X cd (TBr X.K ω (truO oc))) (ha : PT X a (TBr X.K ω (truO oa))) (hb : PT X b (TBr X.K ω (truO ob))) :
    PT X (.IfExp cd a b pos) (TBr X.K ω (truO fun st h => Py.bnd (oc st h) fun x h => match tru h x with
      | some true => oa st h
      | some false => ob st h
      | none => .fail)) := by
  refine ⟨fun pins s σ H Q I ⟨φ, h, st, R, S, q⟩ => ?_⟩
  unfold PySem.isTrue
  unfold truO at q
  dsimp only at q
  cases e2 : oc st h with
  | fail => rw [e2] at q; exact q.elim
  | exc c fs h1 =>
    rw [e2] at q
    refine wpAny_bind (thn (hc.run pins s σ H (fun t H1 => False) I ⟨φ, h, st, R, S, ?_⟩) fun t s1 ⟨H1, I1, z⟩ => z.elim)
    unfold truO
    rw [e2]
    exact q
  | ok y h2 =>
  rw [e2] at q
  simp only [bnd_ok] at q
  cases et : tru h2 y with
  | none => rw [et] at q; exact q.elim
  | some t =>
  rw [et] at q
  refine wpAny_bind (thn (hc.run pins s σ H (fun t' H1 => t' = t ∧ ∃ φ1, WX φ H φ1 H1 ∧ Rel X.K φ1 h2 H1) I ⟨φ, h, st, R, S, ?_⟩) fun t' s1 ⟨H1, I1, et', φ1, w1, R1⟩ => ?_)
  · unfold truO
    rw [e2]
    simp only [bnd_ok, et]
    intro φ1 H1 v1 w1 R1 r1
    obtain rfl : t = v1 := r1
    exact ⟨rfl, φ1, w1, R1⟩
  · subst et'
    have q := q.sh R w1 R1
    cases t' with
    | true =>
      rw [if_pos rfl]
      exact ha.run pins s1 σ H1 Q I1 ⟨φ1, h2, st, R1, S.mono R w1, q⟩
    | false =>
      rw [if_neg Bool.false_ne_true]
      exact hb.run pins s1 σ H1 Q I1 ⟨φ1, h2, st, R1, S.mono R w1, q⟩
mutual
theorem chkE_ok : ∀ (ir : E) (ω : Wsh) (fs : Option Scope) (sc : Scope) (X : Cx) (e : Expr), Cok c cf ω fs sc X → chkE c fs sc ir e = true → EOk X ω e (evR cf ir)
  | .var i, ω, fs, sc, X, e, C, k => by
    simp only [chkE] at k
    split at k
    · simp only [Bool.and_eq_true, decide_eq_true_eq, Bool.not_eq_true'] at k
      obtain ⟨⟨⟨⟨k0, k1⟩, k2⟩, k3⟩, k4⟩ := k
      exact .plain (je_var (fun f z => k0 (C.pin _ _ z)) (by rw [C.N]; exact k1) (C.vis k2) (dbg_of k3) k4) (fun _ => rfl) (fun _ _ _ z => by cases z)
    · cases k
  | .non, ω, fs, sc, X, e, C, k => by
    simp only [chkE] at k
    split at k
    · exact .plain (je_c pe_non fun _ _ => .non) (fun _ => rfl) (fun _ _ _ z => by cases z)
    · cases k
  | .bl b, ω, fs, sc, X, e, C, k => by
    simp only [chkE] at k
    split at k
    · rw [beq_iff_eq] at k
      subst k
      exact .plain (je_c pe_bl fun _ _ => .bl b) (fun _ => rfl) (fun _ _ _ z => by cases z)
    · cases k
  | .int b, ω, fs, sc, X, e, C, k => by
    simp only [chkE] at k
    split at k
    · rw [decide_eq_true_eq] at k
      subst k
      exact .plain (je_c pe_int fun _ _ => .int b) (fun _ => rfl) (fun _ _ _ z => by cases z)
    · cases k
  | .str b, ω, fs, sc, X, e, C, k => by
    simp only [chkE] at k
    split at k
    · rw [decide_eq_true_eq] at k
      subst k
      exact .plain (je_c pe_str fun _ _ => .str b) (fun _ => rfl) (fun _ _ _ z => by cases z)
    · cases k
  | .bin o a b, ω, fs, sc, X, e, C, k => by
    simp only [chkE] at k
    split at k
    · simp only [Bool.and_eq_true, decide_eq_true_eq] at k
      obtain ⟨⟨rfl, k1⟩, k2⟩ := k
      exact .plain (je_bin (bin_ok o) (chkE_ok a ω fs sc X _ C k1).v (chkE_ok b ω fs sc X _ C k2).v) (fun _ => rfl) (fun _ _ _ z => by cases z)
    · cases k
  | .neg a, ω, fs, sc, X, e, C, k => by
    simp only [chkE] at k
    split at k
    · exact .plain (je_neg (chkE_ok a ω fs sc X _ C k).v) (fun _ => rfl) (fun _ _ _ z => by cases z)
    · cases k
  | .cmp o a b, ω, fs, sc, X, e, C, k => by
    simp only [chkE] at k
    split at k
    · simp only [Bool.and_eq_true, decide_eq_true_eq, Bool.not_eq_true'] at k
      obtain ⟨⟨⟨rfl, k0⟩, k1⟩, k2⟩ := k
      have ha := (chkE_ok a ω fs sc X _ C k1).v
      have hb := (chkE_ok b ω fs sc X _ C k2).v
      exact ⟨je_cmp (cmp_ok C.hu o) ha hb k0, jt_cmp C.hu ha hb k0, fun _ _ _ z => by cases z⟩
    · cases k
  | .cmp2 o p a b c2, ω, fs, sc, X, e, C, k => by
    simp only [chkE] at k
    split at k
    · simp only [Bool.and_eq_true, decide_eq_true_eq, Bool.not_eq_true'] at k
      obtain ⟨⟨⟨⟨⟨rfl, rfl⟩, k0⟩, k1⟩, k2⟩, k3⟩ := k
      have ha := (chkE_ok a ω fs sc X _ C k1).v
      have hb := (chkE_ok b ω fs sc X _ C k2).v
      have hc := (chkE_ok c2 ω fs sc X _ C k3).v
      exact ⟨je_ch C.hu ha hb hc k0, jt_ch C.hu ha hb hc k0, fun _ _ _ z => by cases z⟩
    · cases k
  | .and a b, ω, fs, sc, X, e, C, k => by
    simp only [chkE] at k
    split at k
    · rw [Bool.and_eq_true] at k
      have ha := chkE_ok a ω fs sc X _ C k.1
      have hb := chkE_ok b ω fs sc X _ C k.2
      have hw := jt_and (pos := by assumption) ha.t (jt_one hb.t)
      exact ⟨je_and ha.v (je_one hb.v), hw.pt, fun _ _ _ _ => hw⟩
    · rw [Bool.and_eq_true] at k
      have ha := chkE_ok a ω fs sc X _ C k.1
      have hb := chkE_ok b ω fs sc X _ C k.2
      have hw := jt_and (pos := by assumption) ha.t (hb.w _ _ _ rfl)
      exact ⟨je_and ha.v hb.v, hw.pt, fun _ _ _ _ => hw⟩
    · cases k
  | .or a b, ω, fs, sc, X, e, C, k => by
    simp only [chkE] at k
    split at k
    · rw [Bool.and_eq_true] at k
      have ha := chkE_ok a ω fs sc X _ C k.1
      have hb := chkE_ok b ω fs sc X _ C k.2
      have hw := jt_or (pos := by assumption) ha.t (jt_one hb.t)
      exact ⟨je_or ha.v (je_one hb.v), hw.pt, fun _ _ _ _ => hw⟩
    · rw [Bool.and_eq_true] at k
      have ha := chkE_ok a ω fs sc X _ C k.1
      have hb := chkE_ok b ω fs sc X _ C k.2
      have hw := jt_or (pos := by assumption) ha.t (hb.w _ _ _ rfl)
      exact ⟨je_or ha.v hb.v, hw.pt, fun _ _ _ _ => hw⟩
    · cases k
  | .not a, ω, fs, sc, X, e, C, k => by
    simp only [chkE] at k
    split at k
    · have ha := chkE_ok a ω fs sc X _ C k
      exact ⟨je_not ha.v, jt_not ha.t, fun _ _ _ z => by cases z⟩
    · cases k
  | .ifx t a b, ω, fs, sc, X, e, C, k => by
    simp only [chkE] at k
    split at k
    · simp only [Bool.and_eq_true] at k
      obtain ⟨⟨k0, k1⟩, k2⟩ := k
      have ht := chkE_ok t ω fs sc X _ C k0
      have ha := chkE_ok a ω fs sc X _ C k1
      have hb := chkE_ok b ω fs sc X _ C k2
      exact ⟨je_ifx ht.t ha.v hb.v, jt_ifx ht.t ha.t hb.t, fun _ _ _ z => by cases z⟩
    · cases k
  | .tup es, ω, fs, sc, X, e, C, k => by
    simp only [chkE] at k
    split at k
    · exact .plain (je_tup (chkEs_ok es ω fs sc X _ C k).1) (fun _ => rfl) (fun _ _ _ z => by cases z)
    · cases k
  | .lst es, ω, fs, sc, X, e, C, k => by
    simp only [chkE] at k
    split at k
    · exact .plain (je_lst (chkEs_ok es ω fs sc X _ C k).1) (fun _ => rfl) (fun _ _ _ z => by cases z)
    · cases k
  | .dct ks vs, ω, fs, sc, X, e, C, k => by
    simp only [chkE] at k
    split at k
    · simp only [Bool.and_eq_true, decide_eq_true_eq] at k
      exact .plain (je_dct k.1.1.1 (chkDs_ok vs ω fs sc X ks _ _ C k.1.1.2 k.1.2 k.2)) (fun _ => rfl) (fun _ _ _ z => by cases z)
    · cases k
  | .dnew t, ω, fs, sc, X, e, C, k => by
    simp only [chkE] at k
    split at k
    · exact .plain (je_dnew t) (fun _ => rfl) (fun _ _ _ z => by cases z)
    · cases k
  | .d1 kk vv, ω, fs, sc, X, e, C, k => by
    simp only [chkE] at k
    split at k
    · simp only [Bool.and_eq_true] at k
      obtain ⟨k0, k1⟩ := k
      exact .plain (je_d1 (by have := C.hu; omega) (jd (chkE_ok kk ω fs sc X _ C k0).v) (jd (chkE_ok vv ω fs sc X _ C k1).v)) (fun _ => rfl) (fun _ _ _ z => by cases z)
    · cases k
  | .d2 ka va kb vb, ω, fs, sc, X, e, C, k => by
    simp only [chkE] at k
    split at k
    · simp only [Bool.and_eq_true] at k
      obtain ⟨⟨⟨k0, k1⟩, k2⟩, k3⟩ := k
      exact .plain (je_d2 (by have := C.hu; omega) (jd (chkE_ok ka ω fs sc X _ C k0).v) (jd (chkE_ok va ω fs sc X _ C k1).v) (jd (chkE_ok kb ω fs sc X _ C k2).v) (jd (chkE_ok vb ω fs sc X _ C k3).v)) (fun _ => rfl) (fun _ _ _ z => by cases z)
    · cases k
  | .best mx a, ω, fs, sc, X, e, C, k => by
    simp only [chkE] at k
    split at k
    · simp only [Bool.and_eq_true, decide_eq_true_eq] at k
      obtain ⟨⟨⟨k0, k1⟩, k2⟩, k3⟩ := k
      exact .plain (je_best C.hu (C.calmB k1) k0 (C.blt k1).1 (C.blt k1).2 k2 (chkE_ok a ω fs sc X _ C k3).v) (fun _ => rfl) (fun _ _ _ z => by cases z)
    · cases k
  | .bestd mx a d, ω, fs, sc, X, e, C, k => by
    simp only [chkE] at k
    split at k
    · simp only [Bool.and_eq_true, decide_eq_true_eq] at k
      obtain ⟨⟨⟨⟨⟨k0, k1⟩, k2⟩, k3⟩, k4⟩, k5⟩ := k
      exact .plain (je_bestd C.hu (C.calmB k2) k0 k1 (C.blt k2).1 (C.blt k2).2 k3 (chkE_ok a ω fs sc X _ C k4).v (jd (chkE_ok d ω fs sc X _ C k5).v)) (fun _ => rfl) (fun _ _ _ z => by cases z)
    · cases k
  | .trv a, ω, fs, sc, X, e, C, k => by
    simp only [chkE] at k
    split at k
    · simp only [Bool.and_eq_true, decide_eq_true_eq] at k
      obtain ⟨⟨⟨⟨⟨k0, k1⟩, k2⟩, k3⟩, k4⟩, k5⟩ := k
      exact .plain (je_trv k0 k2 (C.calmB k1) (C.blt k1).1 (C.blt k1).2 (C.blt k3).1 (C.blt k3).2 k4 (chkE_ok a ω fs sc X _ C k5).v) (fun _ => rfl) (fun _ _ _ z => by cases z)
    · cases k
  | .lrv a, ω, fs, sc, X, e, C, k => by
    simp only [chkE] at k
    split at k
    · simp only [Bool.and_eq_true, decide_eq_true_eq] at k
      obtain ⟨⟨⟨⟨⟨k0, k1⟩, k2⟩, k3⟩, k4⟩, k5⟩ := k
      exact .plain (je_lrv k0 k2 (C.calmB k1) (C.blt k1).1 (C.blt k1).2 (C.blt k3).1 (C.blt k3).2 k4 (chkE_ok a ω fs sc X _ C k5).v) (fun _ => rfl) (fun _ _ _ z => by cases z)
    · cases k
  | .sset a, ω, fs, sc, X, e, C, k => by
    simp only [chkE] at k
    split at k
    · simp only [Bool.and_eq_true, decide_eq_true_eq] at k
      obtain ⟨⟨⟨⟨⟨k0, k1⟩, k2⟩, k3⟩, k4⟩, k5⟩ := k
      exact .plain (je_sset k0 k2 (C.calmB k1) (C.blt k1).1 (C.blt k1).2 (C.blt k3).1 (C.blt k3).2 k4 (chkE_ok a ω fs sc X _ C k5).v) (fun _ => rfl) (fun _ _ _ z => by cases z)
    · cases k
  | .lset a, ω, fs, sc, X, e, C, k => by
    simp only [chkE] at k
    split at k
    · simp only [Bool.and_eq_true, decide_eq_true_eq] at k
      obtain ⟨⟨⟨⟨⟨k0, k1⟩, k2⟩, k3⟩, k4⟩, k5⟩ := k
      exact .plain (je_lset C.hu k0 k2 (C.calmB k1) (C.blt k1).1 (C.blt k1).2 (C.blt k3).1 (C.blt k3).2 k4 (chkE_ok a ω fs sc X _ C k5).v) (fun _ => rfl) (fun _ _ _ z => by cases z)
    · cases k
  | .lrg a, ω, fs, sc, X, e, C, k => by
    simp only [chkE] at k
    split at k
    · simp only [Bool.and_eq_true, decide_eq_true_eq] at k
      obtain ⟨⟨⟨⟨⟨k0, k1⟩, k2⟩, k3⟩, k4⟩, k5⟩ := k
      exact .plain (je_lrg k0 k2 (C.calmB k1) (C.blt k1).1 (C.blt k1).2 (C.blt k3).1 (C.blt k3).2 k4 (chkE_ok a ω fs sc X _ C k5).v) (fun _ => rfl) (fun _ _ _ z => by cases z)
    · cases k
  | .lks a, ω, fs, sc, X, e, C, k => by
    simp only [chkE] at k
    split at k
    · simp only [Bool.and_eq_true, decide_eq_true_eq] at k
      obtain ⟨⟨⟨k0, k1⟩, k4⟩, k5⟩ := k
      exact .plain (je_lks k0 (C.calmB k1) (C.blt k1).1 (C.blt k1).2 k4 (chkE_ok a ω fs sc X _ C k5).v) (fun _ => rfl) (fun _ _ _ z => by cases z)
    · cases k
  | .sm m o v, ω, fs, sc, X, e, C, k => by
    simp only [chkE] at k
    split at k
    · simp only [Bool.and_eq_true, decide_eq_true_eq] at k
      obtain ⟨⟨⟨⟨⟨k0, k1⟩, k2⟩, k3⟩, k4⟩, k5⟩ := k
      exact .plain (je_sm k0 k1 k2 k3 (chkE_ok o ω fs sc X _ C k4).v (chkE_ok v ω fs sc X _ C k5).v) (fun _ => rfl) (fun _ _ _ z => by cases z)
    · cases k
  | .sin n a b, ω, fs, sc, X, e, C, k => by
    simp only [chkE] at k
    split at k
    · simp only [Bool.and_eq_true, decide_eq_true_eq, Bool.not_eq_true'] at k
      obtain ⟨⟨⟨k0, k1⟩, k2⟩, k3⟩ := k
      exact ⟨je_sin k0 k1 (chkE_ok a ω fs sc X _ C k2).v (chkE_ok b ω fs sc X _ C k3).v, jt_sin k0 k1 (chkE_ok a ω fs sc X _ C k2).v (chkE_ok b ω fs sc X _ C k3).v, fun _ _ _ z => by cases z⟩
    · cases k
  | .glob x, ω, fs, sc, X, e, C, k => by
    simp only [chkE] at k
    split at k
    · simp only [Bool.and_eq_true, decide_eq_true_eq] at k
      obtain ⟨rfl, k1⟩ := k
      obtain ⟨g1, g2, g3⟩ := C.glo k1
      exact .plain (je_glob g1 g2 g3) (fun _ => rfl) (fun _ _ _ z => by cases z)
    · cases k
  | .dcl a, ω, fs, sc, X, e, C, k => by
    simp only [chkE] at k
    split at k
    · simp only [Bool.and_eq_true, decide_eq_true_eq] at k
      obtain ⟨⟨⟨k0, k1⟩, k2⟩, k3⟩ := k
      exact .plain (je_dcl k0 (base_plain k1) k2 (chkE_ok a ω fs sc X _ C k3).v) (fun _ => rfl) (fun _ _ _ z => by cases z)
    · cases k
  | .mxv a, ω, fs, sc, X, e, C, k => by
    simp only [chkE] at k
    split at k
    · simp only [Bool.and_eq_true, decide_eq_true_eq] at k
      obtain ⟨⟨⟨⟨⟨k0, k1⟩, k2⟩, k3⟩, k4⟩, k5⟩ := k
      exact .plain (je_mxv k0 k2 (C.calmB k1) (C.blt k1).1 (C.blt k1).2 (base_plain k3) k4 (chkE_ok a ω fs sc X _ C k5).v) (fun _ => rfl) (fun _ _ _ z => by cases z)
    · cases k
  | .mkd a, ω, fs, sc, X, e, C, k => by
    simp only [chkE] at k
    split at k
    · simp only [Bool.and_eq_true, decide_eq_true_eq] at k
      obtain ⟨⟨⟨k0, k1⟩, k4⟩, k5⟩ := k
      exact .plain (je_mkd C.hu k0 (C.calmB k1) (C.blt k1).1 (C.blt k1).2 k4 (chkE_ok a ω fs sc X _ C k5).v) (fun _ => rfl) (fun _ _ _ z => by cases z)
    · cases k
  | .dget a b d, ω, fs, sc, X, e, C, k => by
    simp only [chkE] at k
    split at k
    · simp only [Bool.and_eq_true, decide_eq_true_eq] at k
      obtain ⟨⟨⟨⟨⟨⟨k0, k1⟩, k2⟩, k4⟩, k3⟩, k5⟩, k6⟩ := k
      subst k3
      exact .plain (je_dget1 C.hu k0 k1 k2 k4 (chkE_ok a ω fs sc X _ C k5).v (chkE_ok b ω fs sc X _ C k6).v) (fun _ => rfl) (fun _ _ _ z => by cases z)
    · simp only [Bool.and_eq_true, decide_eq_true_eq] at k
      obtain ⟨⟨⟨⟨⟨⟨⟨k0, k1⟩, k2⟩, k3⟩, k4⟩, k5⟩, k6⟩, k7⟩ := k
      exact .plain (je_dget C.hu k0 k1 k2 k3 k4 (chkE_ok a ω fs sc X _ C k5).v (chkE_ok b ω fs sc X _ C k6).v (chkE_ok d ω fs sc X _ C k7).v) (fun _ => rfl) (fun _ _ _ z => by cases z)
    · cases k
  | .ix a i, ω, fs, sc, X, e, C, k => by
    simp only [chkE] at k
    split at k
    · simp only [Bool.and_eq_true] at k
      obtain ⟨⟨k0, k1⟩, k2⟩ := k
      exact .plain (je_ix C.hu k0 (chkE_ok a ω fs sc X _ C k1).v (chkE_ok i ω fs sc X _ C k2).v) (fun _ => rfl) (fun _ _ _ z => by cases z)
    · cases k
  | .slc a lo hi, ω, fs, sc, X, e, C, k => by
    simp only [chkE] at k
    split at k
    · simp only [Bool.and_eq_true] at k
      obtain ⟨⟨k0, k1⟩, k2⟩ := k
      exact .plain (je_slc (chkE_ok a ω fs sc X _ C k0).v (chkO_ok lo ω fs sc X _ C k1) (chkO_ok hi ω fs sc X _ C k2)) (fun _ => rfl) (fun _ _ _ z => by cases z)
    · cases k
  | .revs a, ω, fs, sc, X, e, C, k => by
    simp only [chkE] at k
    split at k
    · simp only [Bool.and_eq_true, decide_eq_true_eq] at k
      obtain ⟨rfl, k1⟩ := k
      exact .plain (je_revs (chkE_ok a ω fs sc X _ C k1).v) (fun _ => rfl) (fun _ _ _ z => by cases z)
    · cases k
  | .call f es, ω, fs, sc, X, e, C, k => by
    simp only [chkE] at k
    split at k
    · simp only [Bool.and_eq_true, decide_eq_true_eq] at k
      obtain ⟨⟨⟨⟨rfl, k1⟩, k2⟩, k3⟩, k4⟩ := k
      have hF := C.F _ k1
      have ha := chkEs_ok es ω fs sc X _ C k4
      refine .plain ?_ (fun _ => rfl) (fun _ _ _ z => by cases z)
      rename_i x p es' pos
      cases es' with
      | nil =>
        cases es with
        | nil => exact je_call0 C.tk hF (C.gl k2) (dbg_of k3)
        | cons => simp only [chkEs] at k4; cases k4
      | cons e' es' => exact je_call C.tk hF (fun st h ds h' e => evDs_len es st h ds h' e) (C.gl k2) (dbg_of k3) ha.2.2 ha.1
    · cases k
  | .callk f es ks vs, ω, fs, sc, X, e, C, k => by
    simp only [chkE] at k
    split at k
    · simp only [Bool.and_eq_true, decide_eq_true_eq] at k
      obtain ⟨⟨⟨⟨⟨⟨⟨rfl, k1⟩, k2⟩, k3⟩, k4⟩, k5⟩, k6⟩, k7⟩ := k
      have hF := C.F _ k1
      have ha := chkEs_ok es ω fs sc X _ C k4
      have hk := chkKs_ok vs ω fs sc X _ C k7
      have hl : ∀ st h ds h', evDs cf vs st h = .ok ds h' → ds.length = ks.length := fun st h ds h' e => by rw [evDs_len vs _ _ _ _ e, ← kw_len k5, chkKs_len vs _ k7]
      refine .plain ?_ (fun _ => rfl) (fun _ _ _ z => by cases z)
      rename_i x p es' kws pos
      cases es' with
      | nil =>
        cases es with
        | nil => exact je_callk0 C.tk hF k6 k5 (C.gl k2) (dbg_of k3) rfl hl hk
        | cons => simp only [chkEs] at k4; cases k4
      | cons e' es' => exact je_callk C.tk hF k6 k5 (C.gl k2) (dbg_of k3) ha.2.2 (fun st h ds h' e => by rw [evDs_len es _ _ _ _ e, chkEs_len es _ k4]) hl ha.1 hk
    · cases k
  | .blt f es, ω, fs, sc, X, e, C, k => by
    simp only [chkE] at k
    split at k
    · simp only [Bool.and_eq_true, decide_eq_true_eq] at k
      obtain ⟨⟨k0, k1⟩, k2⟩ := k
      have ha := chkEs_ok es ω fs sc X _ C k2
      exact .plain (je_blt C.hu (C.calmB k1) k0 (C.blt k1).1 (C.blt k1).2 ha.2.2 ha.2.1) (fun _ => rfl) (fun _ _ _ z => by cases z)
    · cases k
  | .m0 m o, ω, fs, sc, X, e, C, k => by
    simp only [chkE] at k
    split at k
    · simp only [Bool.and_eq_true, decide_eq_true_eq] at k
      obtain ⟨⟨⟨k0, k1⟩, k2⟩, k3⟩ := k
      exact .plain (je_m0 k0 k1 k2 (chkE_ok o ω fs sc X _ C k3).v) (fun _ => rfl) (fun _ _ _ z => by cases z)
    · cases k
  | .m1 m o v, ω, fs, sc, X, e, C, k => by
    simp only [chkE] at k
    split at k
    · simp only [Bool.and_eq_true, decide_eq_true_eq] at k
      obtain ⟨⟨⟨⟨⟨k0, k1⟩, k2⟩, k3⟩, k4⟩, k5⟩ := k
      exact .plain (je_m1 C.hu k0 k1 k2 k3 (chkE_ok o ω fs sc X _ C k4).v (chkE_ok v ω fs sc X _ C k5).v) (fun _ => rfl) (fun _ _ _ z => by cases z)
    · cases k
  | .isi a t, ω, fs, sc, X, e, C, k => by
    simp only [chkE] at k
    split at k
    · simp only [Bool.and_eq_true, decide_eq_true_eq] at k
      obtain ⟨⟨⟨⟨⟨k0, k1⟩, k2⟩, k3⟩, k4⟩, k5⟩ := k
      exact .plain (je_isi k0 (C.blt k1).1 (C.blt k1).2 k2 (C.blt k3).1 (C.blt k3).2 k4 (chkE_ok a ω fs sc X _ C k5).v) (fun _ => rfl) (fun _ _ _ z => by cases z)
    · cases k
  | .app o v, ω, fs, sc, X, e, C, k => by
    simp only [chkE] at k
    split at k
    · simp only [Bool.and_eq_true, decide_eq_true_eq] at k
      obtain ⟨⟨⟨⟨⟨k0, k1⟩, k2⟩, k3⟩, k4⟩, k5⟩ := k
      exact .plain (je_app k0 k1 k2 k3 (chkE_ok o ω fs sc X _ C k4).v (chkE_ok v ω fs sc X _ C k5).v) (fun _ => rfl) (fun _ _ _ z => by cases z)
    · cases k
  | .calll f a b js, ω, fs, sc, X, e, C, k => by
    simp only [chkE] at k
    split at k
    · split at k
      · rename_i x p a' b' params body scope lpos pos _ L hl
        simp only [Bool.and_eq_true, decide_eq_true_eq, Option.isNone_iff_eq_none] at k
        obtain ⟨⟨⟨⟨⟨⟨⟨⟨⟨rfl, k1⟩, k2⟩, k3⟩, k4⟩, k5⟩, rfl⟩, k6⟩, k7⟩, k8⟩ := k
        obtain ⟨hp, hL⟩ := C.lm k1 f L hl
        obtain ⟨fa, c', P, fr, hm, hk, TB, hcode, hmT, hu, hdef, hfree, hfr, hjs, G⟩ := hL X.pn X.xe params body scope (by rw [C.sc]; exact k6)
        exact .plain (je_calll C.tk (C.gl k2) hm hk (dbg_of k3) k4 k5 (chkE_ok a ω fs sc X _ C k7).v (chkE_ok b ω fs sc X _ C k8).v hp TB hcode hmT hu hdef hfree hfr hjs G) (fun _ => rfl) (fun _ _ _ z => by cases z)
      · cases k
    · cases k
  | .wnt i es, ω, fs, sc, X, e, C, k => by
    simp only [chkE] at k
    split at k
    · simp only [Bool.and_eq_true, decide_eq_true_eq, Option.isNone_iff_eq_none, Bool.not_eq_true'] at k
      obtain ⟨⟨⟨⟨⟨⟨⟨⟨k1, k2⟩, k3⟩, k4⟩, k5⟩, k6⟩, k7⟩, k8⟩, k9⟩ := k
      have ha := chkEs_ok es ω fs sc X _ C k9
      refine .plain (je_wnt C.tk (fun f z => C.wn k1 k2 X.pn X.xe i f z) (by rw [C.N]; exact k4) (C.vis k5) (dbg_of k6) k7 k8 (fun st h ds h' e => by rw [evDs_len es _ _ _ _ e, ← chkEs_len es _ k9]; rfl) ha.1) (fun _ => rfl) (fun _ _ _ z => by cases z)
    · cases k
  | .mkx cl es, ω, fs, sc, X, e, C, k => by
    simp only [chkE] at k
    split at k
    · simp only [Bool.and_eq_true, decide_eq_true_eq] at k
      obtain ⟨⟨⟨⟨⟨rfl, k1⟩, k3⟩, k4⟩, k5⟩, k6⟩ := k
      obtain ⟨hx, A, hn, hm, M, hr⟩ := C.xr _ k1
      have ha := chkEs_ok es ω fs sc X _ C k5
      refine .plain ?_ (fun _ => rfl) (fun _ _ _ z => by cases z)
      unfold raB at k6
      split at k6
      · rename_i f ef
        exact je_mkx hx hn hm M hr (C.gl k3) (dbg_of k4) ef ha.2.2 ha.1
      · rename_i ef
        exact je_mkx0 hx hn hm M (C.gl k3) (dbg_of k4) ef
      · cases k6
    · cases k
  | .isx a ks, ω, fs, sc, X, e, C, k => by
    simp only [chkE] at k
    split at k
    · simp only [Bool.and_eq_true, decide_eq_true_eq, List.all_eq_true] at k
      obtain ⟨⟨⟨⟨⟨⟨⟨rfl, k0⟩, k1⟩, k2⟩, k3⟩, k4⟩, k5⟩, k6⟩ := k
      obtain ⟨es, e1, e2⟩ := cls_of k5
      have nx : c.xs ≠ [] := by
        intro z
        cases ks with
        | nil => exact k1 rfl
        | cons k0 _ =>
          have := (k4 k0 List.mem_cons_self).1.1
          rw [z] at this
          simp at this
      exact .plain (je_isx rfl (C.gl k0) (C.xi nx).1 k3 (fun c0 h0 C0 n0 => (C.xl c0 h0 C0 n0).1) (C.xi nx).2 (fun k hk => ⟨C.xk k (k4 k hk).1.1, C.gl (k4 k hk).1.2, dbg_of (k4 k hk).2⟩) k2 e1 e2 (chkE_ok a ω fs sc X _ C k6).v) (fun _ => rfl) (fun _ _ _ z => by cases z)
    · cases k
  | .fld a f, ω, fs, sc, X, e, C, k => by
    simp only [chkE] at k
    split at k
    · simp only [Bool.and_eq_true, decide_eq_true_eq] at k
      obtain ⟨⟨⟨rfl, k1⟩, k2⟩, k3⟩ := k
      exact .plain (je_fld (fun c0 h0 C0 n0 => ⟨(C.xl c0 h0 C0 n0).1, (C.xl c0 h0 C0 n0).2 _ k1⟩) (base_plain k2) (chkE_ok a ω fs sc X _ C k3).v) (fun _ => rfl) (fun _ _ _ z => by cases z)
    · cases k
  | .lc own it g cnd v, ω, fs, sc, X, e, C, k => by
    simp only [chkE] at k
    split at k
    · simp only [Bool.and_eq_true, decide_eq_true_eq] at k
      obtain ⟨⟨⟨⟨⟨⟨⟨kc, k0⟩, k1⟩, k2⟩, k3⟩, k4⟩, k5⟩, k6⟩ := k
      refine .plain ?_ (fun _ => rfl) (fun _ _ _ z => by cases z)
      have z := je_lc (own := ownP c own) (oi := evI cf it) (og := evG cf g) (oc := evC cf cnd) (oe := evR cf v) (gown := gOwn g) (pos := by assumption) (C.calm kc) (by rw [C.N]; exact C.nd) (by rw [ownP_snd]; exact ownB_of k2) (chkI_ok it ω fs sc X _ _ C k0) (blkOk_by (by rw [C.N, C.sc]; exact k1))
        (fun s H Cl cl fp => chkG_ok g _ _ _ _ _ (C.blk s H _ Cl cl fp) k4) (fun s H Cl cl fp => chkC_ok cnd _ _ _ _ _ (C.blk s H _ Cl cl fp) k5) (fun s H Cl cl fp => (chkE_ok v _ _ _ _ _ (C.blk s H _ Cl cl fp) k6).v) (fsi k3)
      rw [ownP_snd] at z
      exact z
    · cases k
theorem chkDs_ok {pos : Pos} : ∀ (ir : Es) (ω : Wsh) (fs : Option Scope) (sc : Scope) (X : Cx) (ks : List D) (keys : List (Option Expr)) (es : List Expr), Cok c cf ω fs sc X → keysE ks keys = true → keys.length = es.length → chkEs c fs sc ir es = true → DPs X ω pos ks keys es (evDs cf ir)
  | .nil, ω, fs, sc, X, ks, keys, es, C, k0, hl, k => by
    simp only [chkEs, List.isEmpty_iff] at k
    subst k
    obtain rfl := List.length_eq_zero_iff.mp hl
    have z : evDs cf .nil = fun _ h => .ok [] h := by funext st h; simp only [evDs]
    rw [z]
    cases ks with
    | nil => exact .nil
    | cons => cases k0
  | .cons a as, ω, fs, sc, X, ks, keys, [], C, k0, hl, k => by simp only [chkEs] at k; cases k
  | .cons a as, ω, fs, sc, X, ks, [], e :: es, C, k0, hl, k => by cases hl
  | .cons a as, ω, fs, sc, X, [], key :: keys, e :: es, C, k0, hl, k => by cases k0
  | .cons a as, ω, fs, sc, X, k1 :: ks, none :: keys, e :: es, C, k0, hl, k => by cases k0
  | .cons a as, ω, fs, sc, X, k1 :: ks, some key :: keys, e :: es, C, k0, hl, k => by
    simp only [chkEs, Bool.and_eq_true] at k
    simp only [keysE, Bool.and_eq_true] at k0
    have z : evDs cf (.cons a as) = fun st h => Py.bnd (Py.bnd (evR cf a st h) mat) fun d h => Py.bnd (evDs cf as st h) fun ds h => .ok (d :: ds) h := by funext st h; simp only [evDs]
    rw [z]
    exact .cons k0.1 (jd (chkE_ok a ω fs sc X e C k.1.2).v) (chkDs_ok as ω fs sc X ks keys es C k0.2 (Nat.succ.inj hl) k.2)
theorem chkEs_ok : ∀ (ir : Es) (ω : Wsh) (fs : Option Scope) (sc : Scope) (X : Cx) (es : List Expr), Cok c cf ω fs sc X → chkEs c fs sc ir es = true → PA X es (TAr X.K ω (evDs cf ir)) ∧ PA X es (TARr X.K ω (evRs cf ir)) ∧ es.all noStar = true
  | .nil, ω, fs, sc, X, es, C, k => by
    simp only [chkEs, List.isEmpty_iff] at k
    subst k
    exact ⟨ja_nil, jr_nil, rfl⟩
  | .cons a as, ω, fs, sc, X, es, C, k => by
    simp only [chkEs] at k
    split at k
    · simp only [Bool.and_eq_true] at k
      obtain ⟨⟨k0, k1⟩, k2⟩ := k
      have ha := (chkE_ok a ω fs sc X _ C k1).v
      have hr := chkEs_ok as ω fs sc X _ C k2
      exact ⟨ja_cons k0 (jd ha) hr.1, jr_cons k0 ha hr.2.1, by rw [List.all_cons, k0, hr.2.2]; rfl⟩
    · cases k
theorem chkKs_ok : ∀ (ir : Es) (ω : Wsh) (fs : Option Scope) (sc : Scope) (X : Cx) (es : List Keyword), Cok c cf ω fs sc X → chkKs c fs sc ir es = true → PK X es (TAr X.K ω (evDs cf ir))
  | .nil, ω, fs, sc, X, es, C, k => by
    simp only [chkKs, List.isEmpty_iff] at k
    subst k
    exact jk_nil
  | .cons a as, ω, fs, sc, X, es, C, k => by
    simp only [chkKs] at k
    split at k
    · simp only [Bool.and_eq_true] at k
      exact jk_cons (jd (chkE_ok a ω fs sc X _ C k.1).v) (chkKs_ok as ω fs sc X _ C k.2)
    · cases k
theorem chkO_ok : ∀ (ir : Eo) (ω : Wsh) (fs : Option Scope) (sc : Scope) (X : Cx) (e : Option Expr), Cok c cf ω fs sc X → chkO c fs sc ir e = true → PO X e (TOr X.K ω (evO cf ir))
  | .no, ω, fs, sc, X, e, C, k => by
    simp only [chkO, Option.isNone_iff_eq_none] at k
    subst k
    exact jo_no
  | .yes a, ω, fs, sc, X, e, C, k => by
    simp only [chkO] at k
    split at k
    · exact jo_yes (chkE_ok a ω fs sc X _ C k).v
    · cases k
theorem chkC_ok : ∀ (ir : Eo) (ω : Wsh) (fs : Option Scope) (sc : Scope) (X : Cx) (es : List Expr), Cok c cf ω fs sc X → chkC c fs sc ir es = true → PTs X es (TBr X.K ω (evC cf ir))
  | .no, ω, fs, sc, X, es, C, k => by
    simp only [chkC, List.isEmpty_iff] at k
    subst k
    exact pts_no
  | .yes a, ω, fs, sc, X, es, C, k => by
    simp only [chkC] at k
    split at k
    · exact pts_one (chkE_ok a ω fs sc X _ C k).t
    · cases k
theorem chkI_ok : ∀ (ir : I) (ω : Wsh) (fs : Option Scope) (sc : Scope) (X : Cx) (tg e : Expr), Cok c cf ω fs sc X → chkI c fs sc ir tg e = true → PI X tg e (TIr X.K ω (evI cf ir))
  | .seq a, ω, fs, sc, X, tg, e, C, k => by
    simp only [chkI] at k
    exact ji_seq (chkE_ok a ω fs sc X _ C k).v
  | .rng1 a, ω, fs, sc, X, tg, e, C, k => by
    simp only [chkI] at k
    split at k
    · simp only [Bool.and_eq_true, decide_eq_true_eq] at k
      obtain ⟨⟨⟨rfl, k1⟩, k2⟩, k3⟩ := k
      exact ji_rng1 (C.blt k1).1 (C.blt k1).2 k2 (chkE_ok a ω fs sc X _ C k3).v
    · cases k
  | .rng2 a b, ω, fs, sc, X, tg, e, C, k => by
    simp only [chkI] at k
    split at k
    · simp only [Bool.and_eq_true, decide_eq_true_eq] at k
      obtain ⟨⟨⟨⟨⟨rfl, k1⟩, k2⟩, k3⟩, k4⟩, k5⟩ := k
      exact ji_rng2 (C.blt k1).1 (C.blt k1).2 k2 k3 (chkE_ok a ω fs sc X _ C k4).v (chkE_ok b ω fs sc X _ C k5).v
    · cases k
  | .enum a, ω, fs, sc, X, tg, e, C, k => by
    simp only [chkI] at k
    split at k
    · simp only [Bool.and_eq_true, decide_eq_true_eq] at k
      obtain ⟨⟨⟨⟨k0, rfl⟩, k1⟩, k2⟩, k3⟩ := k
      obtain ⟨_, _, _, rfl⟩ := tup_of k0
      exact ji_enum (C.blt k1).1 (C.blt k1).2 k2 (chkE_ok a ω fs sc X _ C k3).v
    · cases k
  | .zip a b, ω, fs, sc, X, tg, e, C, k => by
    simp only [chkI] at k
    split at k
    · simp only [Bool.and_eq_true, decide_eq_true_eq] at k
      obtain ⟨⟨⟨⟨⟨⟨k0, rfl⟩, k1⟩, k2⟩, k3⟩, k4⟩, k5⟩ := k
      obtain ⟨_, _, _, rfl⟩ := tup_of k0
      exact ji_zip (C.blt k1).1 (C.blt k1).2 k2 k3 (chkE_ok a ω fs sc X _ C k4).v (chkE_ok b ω fs sc X _ C k5).v
    · cases k
  | .rev a, ω, fs, sc, X, tg, e, C, k => by
    simp only [chkI] at k
    split at k
    · simp only [Bool.and_eq_true, decide_eq_true_eq] at k
      obtain ⟨⟨⟨rfl, k1⟩, k2⟩, k3⟩ := k
      exact ji_rev (C.blt k1).1 (C.blt k1).2 k2 (chkE_ok a ω fs sc X _ C k3).v
    · cases k
  | .txt a, ω, fs, sc, X, tg, e, C, k => by
    simp only [chkI] at k
    exact ji_txt (chkE_ok a ω fs sc X _ C k).v
  | .keys a, ω, fs, sc, X, tg, e, C, k => by
    simp only [chkI] at k
    exact ji_keys (chkE_ok a ω fs sc X _ C k).v
  | .items a, ω, fs, sc, X, tg, e, C, k => by
    simp only [chkI] at k
    split at k
    · simp only [Bool.and_eq_true, decide_eq_true_eq] at k
      obtain ⟨⟨⟨⟨k0, rfl⟩, k1⟩, k2⟩, k3⟩ := k
      obtain ⟨_, _, _, rfl⟩ := tup_of k0
      exact ji_items (chkE_ok a ω fs sc X _ C k3).v (base_plain k1) k2
    · cases k
theorem chkG_ok : ∀ (ir : G) (ω : Wsh) (fs : Option Scope) (sc : Scope) (X : Cx) (e : Expr), Cok c cf ω fs sc X → chkG c fs sc ir e = true → PG X e (TGr X.K (gOwn ir) (evG cf ir))
  | .name i, ω, fs, sc, X, e, C, k => by
    simp only [chkG] at k
    split at k
    · simp only [Bool.and_eq_true, decide_eq_true_eq] at k
      exact jg_name (by rw [C.N]; exact C.nd) (by rw [C.N]; exact k.1) (C.loc k.2).1 (C.loc k.2).2
    · cases k
  | .tup gs, ω, fs, sc, X, e, C, k => by
    simp only [chkG] at k
    split at k
    · rw [Bool.and_eq_true] at k
      obtain ⟨kc, k⟩ := k
      have hg := chkGs_ok gs ω fs sc X _ C k
      have z := jg_tup (os := evGs cf gs) (own := gOwns gs) (k := by assumption) (pos := by assumption) (C.calm kc) hg.2 (fun ds st h st' h' e => evGs_len gs ds _ _ _ _ _ k e) hg.1
      refine pg_imp z fun v σ H Q ⟨φ, h, st, d, R, S, r, q⟩ => ⟨φ, h, st, d, R, S, r, ?_⟩
      cases d with
      | tup ds => exact q
      | _ => exact q
    · cases k
  | .sub o i, ω, fs, sc, X, e, C, k => by
    simp only [chkG] at k
    split at k
    · simp only [Bool.and_eq_true] at k
      obtain ⟨⟨k0, k1⟩, k2⟩ := k
      exact jg_sub C.hu k0 (chkE_ok o ω fs sc X _ C k1).v (chkE_ok i ω fs sc X _ C k2).v
    · cases k
theorem chkGs_ok : ∀ (ir : Gs) (ω : Wsh) (fs : Option Scope) (sc : Scope) (X : Cx) (es : List Expr), Cok c cf ω fs sc X → chkGs c fs sc ir es = true → PGs X es (TGsr X.K (gOwns ir) (evGs cf ir)) ∧ es.all noStar = true
  | .nil, ω, fs, sc, X, es, C, k => by
    simp only [chkGs, List.isEmpty_iff] at k
    subst k
    refine ⟨pgs_imp jgs_nil fun v σ H Q ⟨φ, h, st, d, R, S, r, q⟩ => ⟨φ, h, st, d, R, S, r, ?_⟩, rfl⟩
    cases d with
    | nil => exact q
    | cons => exact q
  | .cons g gs, ω, fs, sc, X, es, C, k => by
    simp only [chkGs] at k
    split at k
    · simp only [Bool.and_eq_true] at k
      obtain ⟨⟨k0, k1⟩, k2⟩ := k
      have hg := chkG_ok g ω fs sc X _ C k1
      have hr := chkGs_ok gs ω fs sc X _ C k2
      refine ⟨pgs_imp (jgs_cons k0 hg hr.1) fun v σ H Q ⟨φ, h, st, d, R, S, r, q⟩ => ⟨φ, h, st, d, R, S, r, ?_⟩, by rw [List.all_cons, k0, hr.2]; rfl⟩
      cases d with
      | nil => exact q
      | cons => exact q
    · cases k
end
end
end Py
/-! Core, part O: what was looked at is walked as the evaluator says (statements). -/
namespace Py
open PySem PySem.Spec PyProof.Rows
open L2 hiding St start wipe
def swB (sc scope : Scope) (y : Str) (py pos : Pos) : Bool := funB sc && (match sc.names.lookup y with
  | some .local => true
  | _ => false) && (py.line == pos.line) && !(scope.names.any fun (n, k) => n == y && (k == .local || k == .cell))
/-- .. not stored within the comprehension's frame -/
def swF (sc scope : Scope) (y : Str) (py pos : Pos) : Bool := (match sc.names.lookup y with
  | some .local => false
  | _ => true) || !(py.line == pos.line) || (scope.names.any fun (n, k) => n == y && (k == .local || k == .cell))
def opB2 (sub : Bool) (op : Operator) : Bool := decide (op = if sub = true then .Sub else .Add)
def parB (sc : Scope) (x y : Str) (px py : Pos) (a b : Expr) : Bool := funB sc && decide (x ≠ y) && (match sc.names.lookup x with
  | some .local => true
  | _ => false) && (match sc.names.lookup y with
  | some .local => true
  | _ => false) && (px.line == py.line) && noStar a && noStar b && !(foldedForSure 8 a && foldedForSure 8 b) && !(constantsAlone 8 a && constantsAlone 8 b)
/-- two names, one of them captured: no stores exchanged -/
def cellB (sc : Scope) (tg v : Expr) : Bool := match tg, v with
  | .Tuple [.Name x _, .Name y _] _ _, .Tuple [_, _] _ _ => !(sc.names.lookup x == some .local && sc.names.lookup y == some .local)
  | .Tuple [.Name _ _, .Name _ _, .Name _ _] _ _, .Tuple [a, b, c] _ _ => foldedForSure 8 a && foldedForSure 8 b && foldedForSure 8 c
  | _, _ => false
/-- an except clause's name -/
def nameB (c : CC) (sc : Scope) (i : Option Nat) (n : Option Str) : Bool := match i, n with
  | some i, some y => decide (c.N[i]? = some y) && (match sc.names.lookup y with
    | some .local => true
    | _ => false)
  | none, none => true
  | _, _ => false
mutual
def chkS (c : CC) (fs : Option Scope) (sc : Scope) : S → Stmt → Bool
  | .asg g e, s => (match s with
    | .Assign [tg] v _ => (match g with
      | .name i => (match tg with
        | .Name y py => decide (c.N[i]? = some y) && locB fs sc y && chkE c fs sc e v && (!isComp v || (match v with
          | .ListComp _ _ scope pos => swB sc scope y py pos || swF sc scope y py pos
          | _ => false))
        | _ => false)
      | .tup gs => isTuple tg && (!isTuple v || cellB sc tg v) && chkG c fs sc (.tup gs) tg && chkE c fs sc e v
      | .sub o j => chkG c fs sc (.sub o j) tg && chkE c fs sc e v)
    | _ => false)
  | .par i j a b, s => (match s with
    | .Assign [.Tuple [.Name x px, .Name y py] _ _] (.Tuple [a', b'] _ _) _ => calmB c && decide (c.N[i]? = some x) && decide (c.N[j]? = some y) && parB sc x y px py a' b' && chkE c fs sc a a' && chkE c fs sc b b'
    | _ => false)
  | .aug i sub e, s => (match s with
    | .AugAssign (.Name x _) op v _ => decide (c.pin ≠ some i) && opB2 sub op && decide (c.N[i]? = some x) && locB fs sc x && chkE c fs sc e v
    | _ => false)
  | .expr e, s => (match s with
    | .Expr v _ => !isComp v && chkE c fs sc e v
    | _ => false)
  | .ret e, s => (match s with
    | .Return (some v) _ => chkE c fs sc e v
    | _ => false)
  | .retN, s => (match s with
    | .Return none _ => true
    | _ => false)
  | .ifs t a b, s => (match s with
    | .If t' a' b' _ => chkE c fs sc t t' && chkSs c fs sc a a' && chkSs c fs sc b b'
    | _ => false)
  | .whl t a, s => (match s with
    | .While t' a' [] _ => chkE c fs sc t t' && chkSs c fs sc a a'
    | _ => false)
  | .for_ it g b, s => (match s with
    | .For tg iter b' [] _ => calmB c && noSet iter && chkI c fs sc it tg iter && chkG c fs sc g tg && chkSs c fs sc b b'
    | _ => false)
  | .brk, s => (match s with
    | .Break _ => true
    | _ => false)
  | .cnt, s => (match s with
    | .Continue _ => true
    | _ => false)
  | .pas, s => (match s with
    | .Pass _ => true
    | _ => false)
  | .nev, _ => true
  | .raise cl es, s => (match s with
    | .Raise (some (.Call (.Name x _) es' [] _)) none _ => decide (x = cl) && decide (cl ∈ c.rs) && calmB c && glB sc cl && dbgB cl && chkEs c fs sc es es' && raB cl es es'
    | _ => false)
  | .try_ b hs, s => (match s with
    | .Try body (h₀ :: hds) [] [] _ => fs.isNone && chkSs c fs sc b body && chkHs c fs sc hs (h₀ :: hds)
    | _ => false)
def chkSs (c : CC) (fs : Option Scope) (sc : Scope) : Ss → List Stmt → Bool
  | .nil, ss => ss.isEmpty
  | .cons a as, ss => (match ss with
    | s :: ss => chkS c fs sc a s && chkSs c fs sc as ss
    | [] => false)
def chkHs (c : CC) (fs : Option Scope) (sc : Scope) : Hs → List ExceptHandler → Bool
  | .nil, hds => hds.isEmpty
  | .cons k i b hs, hds => (match hds with
    | .ExceptHandler (some (.Name x _)) n (b₀ :: suite) _ :: hds => decide (x = k) && decide (k ∈ c.xs) && glB sc k && dbgB k && nameB c sc i n && chkSs c.hot fs sc b (b₀ :: suite) && chkHs c fs sc hs hds
    | _ => false)
end
section
variable [Tau] {ω : Wsh} {c : CC} {cf : Str → List D → Hh → Out D} {fs : Option Scope} {sc : Scope} {X : Cx} {e tg iter : Expr} {es : List Expr} {σ : L2.St} {H : Hp}
theorem sw_false {elt : Expr} {gs : List Comprehension} {scope : Scope} {pos py : Pos} {y : Str} {l : Nat} {env : Env} (h : swF env.scope scope y py pos = true) : swapsWith (.ListComp elt gs scope pos) (some (.Name y py)) l env = pure false := by
  have z : (env.blockKind == .function && env.kindOf y == some .local && py.line == pos.line && !(scope.names.any fun (n, k) => n == y && (k == .local || k == .cell))) = false := by
    unfold swF at h
    simp only [Bool.or_eq_true, Bool.not_eq_true'] at h
    rcases h with (h | h) | h
    · have q : (env.kindOf y == some .local) = false := by
        show (env.scope.names.lookup y == some .local) = false
        split at h
        · cases h
        · rename_i n
          rw [beq_eq_false_iff_ne]
          exact n
      rw [q, Bool.and_false, Bool.false_and, Bool.false_and]
    · rw [h, Bool.and_false, Bool.false_and]
    · rw [h, Bool.not_true, Bool.and_false]
  show (pure (env.blockKind == .function && env.kindOf y == some .local && py.line == pos.line && !(scope.names.any fun (n, k) => n == y && (k == .local || k == .cell))) : Sem Bool) = pure false
  rw [z]
theorem lc_of {v : E} {elt : Expr} {gs : List Comprehension} {scope : Scope} {pos : Pos} (k : chkE c fs sc v (.ListComp elt gs scope pos) = true) : ∃ own it g cnd w, v = .lc own it g cnd w := by
  cases v with
  | lc own it g cnd w => exact ⟨_, _, _, _, _, rfl⟩
  | _ => exact absurd k (by simp only [chkE, Bool.false_eq_true, not_false_eq_true])
/-- name = a comprehension, on one line -/
theorem setLc_ok {i : Nat} {own : List Nat} {it : I} {g : G} {cnd : Eo} {v : E} {y : Str} {py pos spos : Pos} {elt : Expr} {gens : List Comprehension} {scope : Scope} (C : Cok c cf ω fs sc X) (hi : c.N[i]? = some y)
    (sw : swB sc scope y py pos = true) (k : chkE c fs sc (.lc own it g cnd v) (.ListComp elt gens scope pos) = true) : PS X (.Assign [.Name y py] (.ListComp elt gens scope pos) spos) (TSr X.K ω (exS cf (.asg (.name i) (.lc own it g cnd v)))) := by
  simp only [chkE] at k
  split at k
  · rename_i z
    cases z
    simp only [Bool.and_eq_true, decide_eq_true_eq] at k
    obtain ⟨⟨⟨⟨⟨⟨⟨kc, k0⟩, k1⟩, k2⟩, k3⟩, k4⟩, k5⟩, k6⟩ := k
    unfold swB at sw
    simp only [Bool.and_eq_true, Bool.not_eq_true'] at sw
    obtain ⟨⟨⟨s1, s2⟩, s3⟩, s4⟩ := sw
    have hk : X.env.scope.kind = .function := by
      rw [C.sc]
      unfold funB at s1
      split at s1
      · assumption
      · cases s1
    have hy : X.env.scope.names.lookup y = some .local := by
      rw [C.sc]
      split at s2
      · assumption
      · cases s2
    have z := js_setLc (spos := spos) (py := py) (own := ownP c own) (oi := evI cf it) (og := evG cf g) (oc := evC cf cnd) (oe := evR cf v) (gown := gOwn g) (i := i) (y := y) (C.calm kc) (by rw [C.N]; exact C.nd) (by rw [C.N]; exact hi) hy (sw_true hk hy s3 s4)
      (by rw [ownP_snd]; exact ownB_of k2) (chkI_ok it ω fs sc X _ _ C k0) (blkOk_by (by rw [C.N, C.sc]; exact k1))
      (fun s H Cl cl fp => chkG_ok g _ _ _ _ _ (C.blk s H _ Cl cl fp) k4) (fun s H Cl cl fp => chkC_ok cnd _ _ _ _ _ (C.blk s H _ Cl cl fp) k5) (fun s H Cl cl fp => (chkE_ok v _ _ _ _ _ (C.blk s H _ Cl cl fp) k6).v) (fsi k3)
    rw [ownP_snd] at z
    exact z
  · cases k
/-- a tuple of names = a tuple, no stores exchanged -/
theorem js_asgC {X : Cx} {oa : St → Hh → Out RV} {ts : List Expr} {kt : Nat} {pt pos : Pos} {e : Expr} {og : D → St → Hh → Out St} {own : Option (List Nat)} (hw : swappedStores [.Tuple ts kt pt] e X.env = pure none) (he : PE X e (TEr X.K ω oa)) (hg : PG X (.Tuple ts kt pt) (TGr X.K own og)) :
    PS X (.Assign [.Tuple ts kt pt] e pos) (TSr X.K ω fun st h => bndS st (Py.bnd (oa st h) mat) fun d h => bndSF (og d st h) fun st h => .nx st h) :=
  ps_imp (ps_asg (jd he) hg (sw_tg rfl) hw (by rw [assign_cons rfl]; rfl)) fun Z σ H q => asg_reads (fun _ _ _ z => z) q
theorem fm_short {α β : Type} (F : α → Option β) (a b : α) (h : F a = none ∨ F b = none) : (List.filterMap F [a, b]).length ≠ 2 := by
  rcases h with h | h
  · rw [List.filterMap_cons_none h]
    have := List.length_filterMap_le F [b]
    simp only [List.length_singleton] at this
    omega
  · cases e : F a with
    | none =>
      rw [List.filterMap_cons_none e, List.filterMap_cons_none h]
      simp
    | some c =>
      rw [List.filterMap_cons_some e, List.filterMap_cons_none h]
      simp
theorem sw_cell {env : Env} {x y : Str} {px py pt pt2 : Pos} {a b : Expr} {kt k2} (h : (env.kindOf x == some .local && env.kindOf y == some .local) = false) : swappedStores [.Tuple [.Name x px, .Name y py] kt pt] (.Tuple [a, b] k2 pt2) env = pure none := by
  unfold swappedStores
  rw [Bool.and_eq_false_iff] at h
  have h2 : ¬ env.kindOf x = some .local ∨ ¬ env.kindOf y = some .local := h.imp (fun z => beq_eq_false_iff_ne.mp z) (fun z => beq_eq_false_iff_ne.mp z)
  simp [Expr.pos]
  intro _ _ _ hl
  refine absurd hl (fm_short _ _ _ (h2.imp (fun z => ?_) (fun z => ?_)))
  · simp [z]
  · simp [z]
theorem sw_fold {env : Env} {t1 t2 t3 : Expr} {pt pt2 : Pos} {a b c : Expr} {kt k2} (ha : foldedForSure 8 a = true) (hb : foldedForSure 8 b = true) (hc : foldedForSure 8 c = true) : swappedStores [.Tuple [t1, t2, t3] kt pt] (.Tuple [a, b, c] k2 pt2) env = pure none := by
  have e : ([a, b, c].all (foldedForSure 8)) = true := by
    rw [List.all_cons, List.all_cons, List.all_cons, ha, hb, hc]
    rfl
  unfold swappedStores
  simp only [e, if_true]
  repeat' split
  all_goals rfl
theorem chk_asg (g : G) (v : E) {s : Stmt} (C : Cok c cf ω fs sc X) (k : chkS c fs sc (.asg g v) s = true) : PS X s (TSr X.K ω (exS cf (.asg g v))) := by
  simp only [chkS] at k
  split at k
  · split at k
    · split at k
      · rename_i y py
        simp only [Bool.and_eq_true, decide_eq_true_eq, Bool.or_eq_true, Bool.not_eq_true'] at k
        obtain ⟨⟨⟨k0, k1⟩, k2⟩, k3⟩ := k
        rcases k3 with k3 | k3
        · exact js_set (by rw [C.N]; exact C.nd) (by rw [C.N]; exact k0) (C.loc k1).1 (C.loc k1).2 (chkE_ok v ω fs sc X _ C k2).v (sw_none k3)
        · split at k3
          · rw [Bool.or_eq_true] at k3
            rcases k3 with k3 | k3
            · obtain ⟨own, it, g, cnd, w, rfl⟩ := lc_of k2
              exact setLc_ok C k0 k3 k2
            · exact js_set (by rw [C.N]; exact C.nd) (by rw [C.N]; exact k0) (C.loc k1).1 (C.loc k1).2 (chkE_ok v ω fs sc X _ C k2).v (sw_false (by rw [C.sc]; exact k3))
          · cases k3
      · cases k
    · simp only [Bool.and_eq_true, Bool.not_eq_true'] at k
      obtain ⟨⟨⟨k0, k1⟩, k2⟩, k3⟩ := k
      rw [Bool.or_eq_true] at k1
      rcases k1 with k1 | k1
      · obtain ⟨_, _, _, rfl⟩ := tup_of k0
        rw [Bool.not_eq_true'] at k1
        exact js_asg rfl k1 rfl (chkE_ok v ω fs sc X _ C k3).v (chkG_ok _ ω fs sc X _ C k2)
      · unfold cellB at k1
        split at k1
        · rw [Bool.not_eq_true'] at k1
          exact js_asgC (sw_cell (by rw [← C.sc] at k1; exact k1)) (chkE_ok v ω fs sc X _ C k3).v (chkG_ok _ ω fs sc X _ C k2)
        · simp only [Bool.and_eq_true] at k1
          exact js_asgC (sw_fold k1.1.1 k1.1.2 k1.2) (chkE_ok v ω fs sc X _ C k3).v (chkG_ok _ ω fs sc X _ C k2)
        · cases k1
    · simp only [Bool.and_eq_true] at k
      rename_i o j
      have hg := chkG_ok _ ω fs sc X _ C k.1
      have he := (chkE_ok v ω fs sc X _ C k.2).v
      have k1 := k.1
      simp only [chkG] at k1
      split at k1
      · exact js_asgS he hg
      · cases k1
  · cases k
def starB : Expr → Bool
  | .Starred .. => true
  | _ => false
theorem star_no : ∀ a : Expr, noStar a = true → starB a = false := fun a n => by cases a <;> first | rfl | cases n
theorem sw_par {env : Env} {x y : Str} {px py pt pt2 : Pos} {a b : Expr} {kt k2} (hk : env.scope.kind = .function) (hx : env.scope.names.lookup x = some .local) (hy : env.scope.names.lookup y = some .local) (ne : x ≠ y) (l : (px.line == py.line) = true) (na : noStar a = true) (nb : noStar b = true)
    (f : (foldedForSure 8 a && foldedForSure 8 b) = false) (g : (constantsAlone 8 a && constantsAlone 8 b) = false) : swappedStores [.Tuple [.Name x px, .Name y py] kt pt] (.Tuple [a, b] k2 pt2) env = pure (some [x, y]) := by
  have hb : env.blockKind = .function := by unfold Env.blockKind; rw [hk]; rfl
  have e1 : env.kindOf x = some .local := hx
  have e2 : env.kindOf y = some .local := hy
  have l2 : py.line = px.line := (beq_iff_eq.mp l).symm
  have s1 := star_no a na
  have s2 := star_no b nb
  have hyx : (y == x) = false := beq_eq_false_iff_ne.mpr (Ne.symm ne)
  have el : [x, y].eraseDups.length = 2 := by
    simp only [List.eraseDups, List.eraseDupsBy, List.eraseDupsBy.loop, List.any_cons, List.any_nil, hyx, Bool.or_false]
    rfl
  have any : ∀ f : Expr → Bool, (∀ e, f e = starB e) → [a, b].any f = false := fun f hf => by
    show (f a || (f b || false)) = false
    rw [hf, hf, s1, s2]
    rfl
  unfold swappedStores
  simp only [hb, List.length_cons, List.length_nil]
  rw [any _ fun e => by cases e <;> rfl]
  simp [e1, e2, l2, f, g, el, Expr.pos]
theorem chk_par (i j : Nat) (a b : E) {s : Stmt} (C : Cok c cf ω fs sc X) (k : chkS c fs sc (.par i j a b) s = true) : PS X s (TSr X.K ω (exS cf (.par i j a b))) := by
  simp only [chkS] at k
  split at k
  · simp only [Bool.and_eq_true, decide_eq_true_eq] at k
    obtain ⟨⟨⟨⟨⟨kc, k0⟩, k1⟩, k2⟩, k3⟩, k4⟩ := k
    rename_i x px y py _ _ a' b' _ _ _
    unfold parB at k2
    simp only [Bool.and_eq_true, decide_eq_true_eq, Bool.not_eq_true'] at k2
    obtain ⟨⟨⟨⟨⟨⟨⟨⟨z0, z1⟩, z2⟩, z3⟩, z4⟩, z5⟩, z6⟩, z7⟩, z8⟩ := k2
    have hk : X.env.scope.kind = .function := by
      rw [C.sc]
      unfold funB at z0
      split at z0
      · assumption
      · cases z0
    have hx : X.env.scope.names.lookup x = some .local := by
      rw [C.sc]
      split at z2
      · assumption
      · cases z2
    have hy : X.env.scope.names.lookup y = some .local := by
      rw [C.sc]
      split at z3
      · assumption
      · cases z3
    have hij : i ≠ j := fun z => z1 (by rw [z, k1] at k0; exact (Option.some.inj k0).symm)
    have hN : X.N.Nodup := by rw [C.N]; exact C.nd
    have hi : X.N[i]? = some x := by rw [C.N]; exact k0
    have hj : X.N[j]? = some y := by rw [C.N]; exact k1
    have ha : PA X [a', b'] (TAr X.K ω fun st h => Py.bnd (Py.bnd (evR cf a st h) mat) fun d h => Py.bnd (Py.bnd (Py.bnd (evR cf b st h) mat) fun d h => Py.bnd (.ok [] h) fun ds h => .ok (d :: ds) h) fun ds h => .ok (d :: ds) h) :=
      ja_cons z5 (jd (chkE_ok a ω fs sc X _ C k3).v) (ja_cons z6 (jd (chkE_ok b ω fs sc X _ C k4).v) ja_nil)
    refine ps_imp (ps_par (C.calm kc) hN hi hj hij hx hy ha (sw_par hk hx hy z1 z4 z5 z6 z7 z8)) fun Z σ H ⟨φ, h, st, R, S, q⟩ => ?_
    refine ⟨φ, h, st, R, S, ?_⟩
    have q : PostS X.K ω φ H (bndS st (Py.bnd (Py.bnd (evR cf a st h) mat) fun x h => Py.bnd (Py.bnd (evR cf b st h) mat) fun y h => .ok (x, y) h) fun p h => .nx ((st.set i (some p.1)).set j (some p.2)) h) Z := q
    show Post X.K _ φ H (BDs X.K) (Py.bnd (Py.bnd (evR cf a st h) mat) fun d h => Py.bnd (Py.bnd (Py.bnd (evR cf b st h) mat) fun d h => Py.bnd (.ok [] h) fun ds h => .ok (d :: ds) h) fun ds h => .ok (d :: ds) h) _
    cases eA : Py.bnd (evR cf a st h) mat with
    | fail => rw [eA] at q; exact q.elim
    | exc c fs h1 => rw [eA] at q; exact fun φ2 H2 cls d w2 R2 x => q φ2 H2 σ cls d w2 R2 (S.mono R w2) x
    | ok d1 h1 =>
      rw [eA] at q
      have q : PostS X.K ω φ H (bndS st (Py.bnd (Py.bnd (evR cf b st h1) mat) fun y h => .ok (d1, y) h) fun p h => .nx ((st.set i (some p.1)).set j (some p.2)) h) Z := q
      show Post X.K _ φ H (BDs X.K) (Py.bnd (Py.bnd (Py.bnd (evR cf b st h1) mat) fun d h => Py.bnd (.ok [] h) fun ds h => .ok (d :: ds) h) fun ds h => .ok (d1 :: ds) h) _
      cases eB : Py.bnd (evR cf b st h1) mat with
      | fail => rw [eB] at q; exact q.elim
      | exc c fs h2 => rw [eB] at q; exact fun φ2 H2 cls d w2 R2 x => q φ2 H2 σ cls d w2 R2 (S.mono R w2) x
      | ok d2 h2 =>
        rw [eB] at q
        have q : PostS X.K ω φ H (.nx ((st.set i (some d1)).set j (some d2)) h2) Z := q
        intro φ1 H1 vs w1 R1 r1
        cases r1 with
        | cons ra rt =>
        cases rt with
        | cons rb rt =>
        cases rt
        exact ⟨_, _, rfl, q φ1 H1 _ w1 R1 (((S.mono R w1).set ra).set rb)⟩
  · cases k
theorem chk_aug (i : Nat) (sub : Bool) (v : E) {s : Stmt} (C : Cok c cf ω fs sc X) (k : chkS c fs sc (.aug i sub v) s = true) : PS X s (TSr X.K ω (exS cf (.aug i sub v))) := by
  simp only [chkS] at k
  split at k
  · simp only [Bool.and_eq_true, decide_eq_true_eq, opB2] at k
    obtain ⟨⟨⟨⟨k0, rfl⟩, k1⟩, k2⟩, k3⟩ := k
    exact js_aug (fun f z => k0 (C.pin _ _ z)) (by rw [C.N]; exact C.nd) (by rw [C.N]; exact k1) (C.loc k2).1 (C.loc k2).2 (chkE_ok v ω fs sc X _ C k3).v
  · cases k
theorem chk_expr (v : E) {s : Stmt} (C : Cok c cf ω fs sc X) (k : chkS c fs sc (.expr v) s = true) : PS X s (TSr X.K ω (exS cf (.expr v))) := by
  simp only [chkS] at k
  split at k
  · simp only [Bool.and_eq_true, Bool.not_eq_true'] at k
    exact js_expr k.1 (chkE_ok v ω fs sc X _ C k.2).v
  · cases k
theorem chk_ret (v : E) {s : Stmt} (C : Cok c cf ω fs sc X) (k : chkS c fs sc (.ret v) s = true) : PS X s (TSr X.K ω (exS cf (.ret v))) := by
  simp only [chkS] at k
  split at k
  · exact js_ret (chkE_ok v ω fs sc X _ C k).v
  · cases k
theorem chk_retN  {s : Stmt} (C : Cok c cf ω fs sc X) (k : chkS c fs sc (.retN) s = true) : PS X s (TSr X.K ω (exS cf (.retN))) := by
  simp only [chkS] at k
  split at k
  · exact js_retN
  · cases k
/-- except clauses as the rule has them -/
noncomputable def hsL (cf : Str → List D → Hh → Out D) : Hs → HE
  | .nil => []
  | .cons k i b hs => (k, i, exSs cf b) :: hsL cf hs
theorem exHs_eq : ∀ (hs : Hs) (c : Str) (fs : List (Str × D)) (st : St) (h : Hh), exHs cf hs c fs st h = catchO (hsL cf hs) c fs st h
  | .nil, _, _, _, _ => by simp only [exHs, hsL, catchO]
  | .cons k i b hs, c, fs, st, h => by simp only [exHs, hsL, catchO, exHs_eq hs]
theorem tryO_eq (hs : Hs) (o : OutS) : tryO (hsL cf hs) o = match o with
    | .exc c fs st h => exHs cf hs c fs st h
    | o => o := by
  cases o with
  | exc c fs st h => exact (exHs_eq hs c fs st h).symm
  | _ => rfl
theorem Cok.tr {W : Wsh} {pn : List (Addr × Obj)} {xe : Value → Shared → Prop} (C : Cok c cf ω fs sc X) (tk : L2.Takes (X.tr pn xe) W) : Cok c cf W fs sc (X.tr pn xe) :=
  ⟨C.N, C.nd, C.calm, C.sc, C.fn, C.F, C.B, C.hu, tk, C.xk, C.xi, C.xl, C.xr, C.st, C.pin, C.wn, C.lm⟩
theorem Cok.hot (C : Cok c cf ω fs sc X) (a : Addr) (pn : List (Addr × Obj)) : Cok c.hot cf F0 fs sc (X.suite a pn) :=
  ⟨C.N, C.nd, fun z => (by cases z), C.sc, C.fn, fun f hf => absurd (show f ∈ ([] : List Str) from hf) (by simp), fun f hf => absurd (show f ∈ ([] : List Str) from hf) (by simp), C.hu, LamX.takes0, C.xk, C.xi, C.xl, fun f hf => absurd (show f ∈ ([] : List Str) from hf) (by simp), C.st, C.pin, (fun z => by cases z), fun _ f L z => by cases z⟩
theorem Cok.nameH (C : Cok c cf ω fs sc X) {i : Option Nat} {n : Option Str} (h : nameB c sc i n = true) : HiOk X i n := by
  unfold nameB at h
  unfold HiOk
  split at h
  · rw [Bool.and_eq_true, decide_eq_true_eq] at h
    obtain ⟨h1, h2⟩ := h
    refine ⟨by rw [C.N]; exact h1, ?_⟩
    show X.env.scope.names.lookup _ = some .local
    rw [C.sc]
    split at h2
    · assumption
    · cases h2
  · trivial
  · cases h
mutual
theorem chkS_ok : ∀ (ir : S) (c : CC) (ω : Wsh) (fs : Option Scope) (sc : Scope) (X : Cx) (s : Stmt), Cok c cf ω fs sc X → PassesOwn (model X.prog X.w) X.A X.env X.xe → chkS c fs sc ir s = true → PS X s (TSr X.K ω (exS cf ir))
  | .asg g v, c, ω, fs, sc, X, s, C, hp, k => chk_asg g v C k
  | .par i j a b, c, ω, fs, sc, X, s, C, hp, k => chk_par i j a b C k
  | .aug i sub v, c, ω, fs, sc, X, s, C, hp, k => chk_aug i sub v C k
  | .expr v, c, ω, fs, sc, X, s, C, hp, k => chk_expr v C k
  | .ret v, c, ω, fs, sc, X, s, C, hp, k => chk_ret v C k
  | .retN, c, ω, fs, sc, X, s, C, hp, k => chk_retN  C k
  | .ifs t a b, c, ω, fs, sc, X, s, C, hp, k => by
    simp only [chkS] at k
    split at k
    · simp only [Bool.and_eq_true] at k
      obtain ⟨⟨k0, k1⟩, k2⟩ := k
      exact js_if (chkE_ok t ω fs sc X _ C k0).t (chkSs_ok a c ω fs sc X _ C hp k1) (chkSs_ok b c ω fs sc X _ C hp k2)
    · cases k
  | .whl t a, c, ω, fs, sc, X, s, C, hp, k => by
    simp only [chkS] at k
    split at k
    · simp only [Bool.and_eq_true] at k
      exact js_while hp (chkE_ok t ω fs sc X _ C k.1).t (chkSs_ok a c ω fs sc X _ C hp k.2)
    · cases k
  | .for_ it g b, c, ω, fs, sc, X, s, C, hp, k => by
    simp only [chkS] at k
    split at k
    · simp only [Bool.and_eq_true] at k
      obtain ⟨⟨⟨⟨kc, k0⟩, k1⟩, k2⟩, k3⟩ := k
      exact js_for hp (C.calm kc) (chkI_ok it ω fs sc X _ _ C k1) (chkG_ok g ω fs sc X _ C k2) (chkSs_ok b c ω fs sc X _ C hp k3) (fsi k0)
    · cases k
  | .brk, c, ω, fs, sc, X, s, C, hp, k => by
    simp only [chkS] at k
    split at k
    · exact js_brk
    · cases k
  | .cnt, c, ω, fs, sc, X, s, C, hp, k => by
    simp only [chkS] at k
    split at k
    · exact js_cnt
    · cases k
  | .pas, c, ω, fs, sc, X, s, C, hp, k => by
    simp only [chkS] at k
    split at k
    · exact js_pass
    · cases k
  | .nev, c, ω, fs, sc, X, s, C, hp, k => ps_imp ps_never fun Z σ H ⟨φ, h, st, R, S, q⟩ => q
  | .raise cl es, c, ω, fs, sc, X, s, C, hp, k => by
    simp only [chkS] at k
    split at k
    · simp only [Bool.and_eq_true, decide_eq_true_eq] at k
      obtain ⟨⟨⟨⟨⟨⟨rfl, k1⟩, k2⟩, k3⟩, k4⟩, k5⟩, k6⟩ := k
      obtain ⟨hx, A, hn, hm, M, hr⟩ := C.xr _ k1
      have ha := chkEs_ok es ω fs sc X _ C k5
      unfold raB at k6
      split at k6
      · rename_i f ef
        exact js_raise (C.calm k2) C.tk hx hn hm M hr (C.gl k3) (dbg_of k4) ef ha.2.2 ha.1
      · rename_i ef
        exact js_raise0 (C.calm k2) C.tk hx hn hm M hr (C.gl k3) (dbg_of k4) ef
      · cases k6
    · cases k
  | .try_ b hs, c, ω, fs, sc, X, s, C, hp, k => by
    simp only [chkS] at k
    split at k
    · simp only [Bool.and_eq_true, Option.isNone_iff_eq_none] at k
      obtain ⟨⟨rfl, k1⟩, k2⟩ := k
      obtain ⟨s1, s2, s3⟩ := C.st rfl
      have hh := chkHs_ok hs c ω none sc X _ C rfl k2
      have z := js_try (pos := by assumption) s1 s2 s3 (by rw [C.N]; exact C.nd) C.tk (fun W pn xe tk hp' => chkSs_ok b c W none sc (X.tr pn xe) _ (C.tr tk) hp' k1) hh
      have e : exS cf (.try_ b hs) = fun st h => tryO (hsL cf hs) (exSs cf b st h) := by
        funext st h
        rw [tryO_eq]
        simp only [exS]
        all_goals (cases exSs cf b st h <;> rfl)
      rw [e]
      exact z
    · cases k
theorem chkSs_ok : ∀ (ir : Ss) (c : CC) (ω : Wsh) (fs : Option Scope) (sc : Scope) (X : Cx) (ss : List Stmt), Cok c cf ω fs sc X → PassesOwn (model X.prog X.w) X.A X.env X.xe → chkSs c fs sc ir ss = true → PSs X ss (TSr X.K ω (exSs cf ir))
  | .nil, c, ω, fs, sc, X, ss, C, hp, k => by
    simp only [chkSs, List.isEmpty_iff] at k
    subst k
    exact jss_nil
  | .cons a as, c, ω, fs, sc, X, ss, C, hp, k => by
    simp only [chkSs] at k
    split at k
    · rw [Bool.and_eq_true] at k
      exact jss_cons (chkS_ok a c ω fs sc X _ C hp k.1) (chkSs_ok as c ω fs sc X _ C hp k.2)
    · cases k
theorem chkHs_ok : ∀ (ir : Hs) (c : CC) (ω : Wsh) (fs : Option Scope) (sc : Scope) (X : Cx) (hds : List ExceptHandler), Cok c cf ω fs sc X → fs = none → chkHs c fs sc ir hds = true → HdJ X hds (hsL cf ir)
  | .nil, c, ω, fs, sc, X, hds, C, hf, k => by
    simp only [chkHs, List.isEmpty_iff] at k
    subst k
    exact .nil
  | .cons x i b hs, c, ω, fs, sc, X, hds, C, hf, k => by
    simp only [chkHs] at k
    split at k
    · simp only [Bool.and_eq_true, decide_eq_true_eq] at k
      obtain ⟨⟨⟨⟨⟨⟨rfl, k1⟩, k2⟩, k3⟩, k4⟩, k5⟩, k6⟩ := k
      refine .cons (C.xk _ k1) (C.gl k2) (dbg_of k3) (C.nameH k4) (fun a pn => ?_) (chkHs_ok hs c ω fs sc X _ C hf k6)
      exact chkSs_ok b c.hot F0 fs sc (X.suite a pn) _ (C.hot a pn) PassesOwn.never k5
    · cases k
end
end
end Py
/-! Core, part P: calls: what nothing can come to is forgotten; all defs of a text at once. -/
namespace Py
open PySem PySem.Spec PyProof.Rows
open L2 hiding St start wipe
section
variable [Tau] {ε : XK} {K : PySem.W.Frag} {φ ψ : List Addr} {H : Hp} {h h' : Hh}
mutual
theorem VR.low_of : ∀ {d : D} {v : V}, VR K φ H d v → low φ.length d = true
  | _, _, .non => rfl
  | _, _, .bl b => rfl
  | _, _, .int b => rfl
  | _, _, .str b => rfl
  | _, _, .tup q r => VRs.lows_of r
  | _, _, .ref e => decide_eq_true (List.getElem?_eq_some_iff.mp e).1
  | _, _, .rl q r => VRs.lows_of r
theorem VRs.lows_of : ∀ {ds : List D} {vs : List V}, VRs K φ H ds vs → lows φ.length ds = true
  | _, _, .nil => rfl
  | _, _, .cons r t => by
    unfold lows
    rw [VR.low_of r, VRs.lows_of t]
    rfl
end
mutual
theorem VR.down : ∀ {d : D} {v : V}, low φ.length d = true → VR K (φ ++ ψ) H d v → VR K φ H d v
  | _, _, _, .non => .non
  | _, _, _, .bl b => .bl b
  | _, _, _, .int b => .int b
  | _, _, _, .str b => .str b
  | _, _, l, .tup q r => .tup q (VRs.down l r)
  | _, _, l, .ref e => .ref (by rw [List.getElem?_append_left (of_decide_eq_true l)] at e; exact e)
  | _, _, l, .rl q r => .rl q (VRs.down l r)
theorem VRs.down : ∀ {ds : List D} {vs : List V}, lows φ.length ds = true → VRs K (φ ++ ψ) H ds vs → VRs K φ H ds vs
  | _, _, _, .nil => .nil
  | _, _, l, .cons r t => by
    unfold lows at l
    rw [Bool.and_eq_true] at l
    exact .cons (VR.down l.1 r) (VRs.down l.2 t)
end
theorem pd_down {α : Type} {n : Nat} {F G : D × D → α → Prop} (f : ∀ p x, low n p.1 = true → low n p.2 = true → F p x → G p x) : ∀ {kvs : List (D × D)} {xs : List α}, (kvs.all fun p => low n p.1 && low n p.2) = true → Paired F kvs xs → Paired G kvs xs
  | _, _, _, .nil => .nil
  | _, _, l, .cons r t => by
    rw [List.all_cons, Bool.and_eq_true, Bool.and_eq_true] at l
    exact .cons (f _ _ l.1.1 l.1.2 r) (pd_down f l.2 t)
theorem pd_low {α : Type} {n : Nat} {F : D × D → α → Prop} (f : ∀ p x, F p x → low n p.1 = true ∧ low n p.2 = true) : ∀ {kvs : List (D × D)} {xs : List α}, Paired F kvs xs → (kvs.all fun p => low n p.1 && low n p.2) = true
  | _, _, .nil => rfl
  | _, _, .cons r t => by
    rw [List.all_cons, (f _ _ r).1, (f _ _ r).2, pd_low f t]
    rfl
theorem KD.low {n : Nat} {d : D} {k : L2.Key} (h : KD d k) : low n d = true := by
  cases d <;> cases k <;> first | rfl | exact h.elim
theorem pf_down : ∀ {fs : List (Str × D)} {xs : List (Str × V)}, (fs.all fun p => low φ.length p.2) = true → Paired (fun (p : Str × D) (q : Str × V) => p.1 = q.1 ∧ VR K (φ ++ ψ) H p.2 q.2) fs xs → Paired (fun (p : Str × D) (q : Str × V) => p.1 = q.1 ∧ VR K φ H p.2 q.2) fs xs
  | _, _, _, .nil => .nil
  | _, _, l, .cons r t => by
    rw [List.all_cons, Bool.and_eq_true] at l
    exact .cons ⟨r.1, r.2.down l.1⟩ (pf_down l.2 t)
theorem pf_low : ∀ {fs : List (Str × D)} {xs : List (Str × V)}, Paired (fun (p : Str × D) (q : Str × V) => p.1 = q.1 ∧ VR K φ H p.2 q.2) fs xs → (fs.all fun p => low φ.length p.2) = true
  | _, _, .nil => rfl
  | _, _, .cons r t => by
    rw [List.all_cons, r.2.low_of, pf_low t]
    rfl
theorem XfR.down {fs : List (Str × D)} : ∀ {d : Option Addr}, (fs.all fun p => low φ.length p.2) = true → XfR K (φ ++ ψ) H fs d → XfR K φ H fs d
  | none, _, q => q
  | some _, l, ⟨ys, e, r⟩ => ⟨ys, e, pf_down l r⟩
theorem XfR.low_of {fs : List (Str × D)} : ∀ {d : Option Addr}, XfR K φ H fs d → (fs.all fun p => low φ.length p.2) = true
  | none, q => by rw [show fs = [] from q]; rfl
  | some _, ⟨ys, e, r⟩ => pf_low r
theorem OR.down {a : Addr} : ∀ {o : O}, lowO φ.length o = true → OR K (φ ++ ψ) H o a → OR K φ H o a
  | .lst _, l, ⟨xs, e, r⟩ => ⟨xs, e, r.down l⟩
  | .dct _, l, ⟨xs, e, r⟩ => ⟨xs, e, pd_down (fun _ _ _ l2 z => ⟨z.1, z.2.down l2⟩) l r⟩
  | .dcn _, l, ⟨xs, c, e, n, r⟩ => ⟨xs, c, e, n, pd_down (fun _ _ l1 l2 z => ⟨z.1, z.2.1.down l1, z.2.2.down l2⟩) l r⟩
  | .xc _ _, l, ⟨C, d, q, e, r⟩ => ⟨C, d, q, e, r.down l⟩
theorem OR.low_of {a : Addr} : ∀ {o : O}, OR K φ H o a → lowO φ.length o = true
  | .lst _, ⟨xs, e, r⟩ => r.lows_of
  | .dct _, ⟨xs, e, r⟩ => pd_low (fun _ _ z => ⟨z.1.low, z.2.low_of⟩) r
  | .dcn _, ⟨xs, c, e, n, r⟩ => pd_low (fun _ _ z => ⟨z.2.1.low_of, z.2.2.low_of⟩) r
  | .xc _ _, ⟨C, d, q, e, r⟩ => r.low_of
/-- the heap without what came -/
theorem Rel.down (R : Rel K (φ ++ ψ) h' H) (hl : φ.length ≤ h'.length) (low : ∀ (i : Nat) (o : O), i < φ.length → h'[i]? = some o → lowO φ.length o = true) : Rel K φ (h'.take φ.length) H := by
  refine ⟨by rw [List.length_take]; omega, fun i o a e1 e2 => ?_, (List.nodup_append.mp R.inj).1, R.tab, R.inv⟩
  have hi := (List.getElem?_eq_some_iff.mp e2).1
  rw [List.getElem?_take_of_lt hi] at e1
  exact OR.down (low i o hi e1) (R.obj i o a e1 (by rw [List.getElem?_append_left hi]; exact e2))
theorem okTo_at : ∀ {n : Nat} {h0 h : Hh} (i : Nat) (o : O), okTo n h0 h = true → i < h0.length → h[i]? = some o → h0[i]? = some o ∨ lowO n o = true
  | n, [], _, i, o, _, hi, _ => by simp at hi
  | n, a :: as, [], i, o, e, _, _ => by simp [okTo] at e
  | n, a :: as, b :: bs, 0, o, e, _, eo => by
    unfold okTo at e
    simp only [Bool.and_eq_true, Bool.or_eq_true, decide_eq_true_eq] at e
    cases eo
    rcases e.1 with e | e
    · exact .inl (by rw [e]; rfl)
    · exact .inr e
  | n, a :: as, b :: bs, i + 1, o, e, hi, eo => by
    unfold okTo at e
    rw [Bool.and_eq_true] at e
    exact okTo_at (h0 := as) (h := bs) i o e.2 (by rw [List.length_cons] at hi; omega) eo
theorem gc_ok {h0 : Hh} {H0 : Hp} {d : D} {Q : VK} (R0 : Rel K φ h0 H0) (q : Post K ε φ H0 (BD K) (gc h0.length h0 d h') Q) : Post K ε φ H0 (BD K) (.ok d h') Q := by
  intro φ' H' v w R' r
  obtain ⟨ψ, e, f, kp, kd⟩ := w
  subst e
  have hlen : φ.length = h0.length := R0.len
  have hle : φ.length ≤ h'.length := by rw [← R'.len, List.length_append]; omega
  unfold gc at q
  split at q
  · rename_i hc
    have lo : ∀ (i : Nat) (o : O), i < φ.length → h'[i]? = some o → lowO φ.length o = true := fun i o hi e => by
      rcases okTo_at i o hc (by omega) e with z | z
      · obtain ⟨a, ea⟩ : ∃ a, φ[i]? = some a := ⟨_, List.getElem?_eq_getElem hi⟩
        exact (R0.obj i o a z ea).low_of
      · rw [hlen]
        exact z
    have RD := R'.down hle lo
    rw [hlen] at RD
    have w0 : WX φ H0 φ H' := ⟨[], (List.append_nil _).symm, fun a ha => absurd ha (by simp), kp, kd⟩
    split at q
    · rename_i hd
      exact q φ H' v w0 RD (r.down (by rw [hlen]; exact hd))
    · split at q
      · rename_i k hnd
        split at q
        · rename_i o eo
          split at q
          · rename_i ho
            cases r with
            | @ref _ a ea =>
              have hk : φ.length ≤ k := by
                by_cases z : k < φ.length
                · exact absurd (show low h0.length (.ref k) = true from decide_eq_true (by omega)) hnd
                · omega
              have ea2 : ψ[k - φ.length]? = some a := by rw [List.getElem?_append_right hk] at ea; exact ea
              have hmem := List.mem_of_getElem? ea2
              have ho2 : OR K φ H' o a := OR.down (by rw [hlen]; exact ho) (R'.obj k o a eo ea)
              have hn : a ∉ φ := fun z => absurd rfl ((List.nodup_append.mp R'.inj).2.2 a z a hmem)
              refine q (φ ++ [a]) H' (.ref a) ⟨[a], rfl, fun b hb => by rw [List.mem_singleton.mp hb]; exact f a hmem, kp, kd⟩ ?_ (.ref (by rw [List.getElem?_append_right (by omega), hlen, Nat.sub_self]; rfl))
              exact RD.pushO hn ho2
          · exact q (φ ++ ψ) H' v ⟨ψ, rfl, f, kp, kd⟩ R' r
        · exact q.elim
      · exact q (φ ++ ψ) H' v ⟨ψ, rfl, f, kp, kd⟩ R' r
  · exact q (φ ++ ψ) H' v ⟨ψ, rfl, f, kp, kd⟩ R' r
theorem gcx_ok {h0 : Hh} {H0 : Hp} {c : Str} {fs : List (Str × D)} {Q : VK} (R0 : Rel K φ h0 H0) (q : Post K ε φ H0 (BD K) (gcx h0.length h0 c fs h') Q) : Post K ε φ H0 (BD K) (.exc c fs h' : Out D) Q := by
  intro φ' H' cls d w R' x
  unfold gcx at q
  split at q
  · rename_i hc
    rw [Bool.and_eq_true] at hc
    obtain ⟨ψ, e, f, kp, kd⟩ := w
    subst e
    have hlen : φ.length = h0.length := R0.len
    have hle : φ.length ≤ h'.length := by rw [← R'.len, List.length_append]; omega
    have lo : ∀ (i : Nat) (o : O), i < φ.length → h'[i]? = some o → lowO φ.length o = true := fun i o hi e => by
      rcases okTo_at i o hc.1 (by omega) e with z | z
      · obtain ⟨a, ea⟩ : ∃ a, φ[i]? = some a := ⟨_, List.getElem?_eq_getElem hi⟩
        exact (R0.obj i o a z ea).low_of
      · rw [hlen]
        exact z
    have RD := R'.down hle lo
    rw [hlen] at RD
    have w0 : WX φ H0 φ H' := ⟨[], (List.append_nil _).symm, fun a ha => absurd ha (by simp), kp, kd⟩
    obtain ⟨C, ec, hn, xf⟩ := x
    exact q φ H' cls d w0 RD ⟨C, ec, hn, xf.down (by rw [hlen]; exact hc.2)⟩
  · exact q φ' H' cls d w R' x
theorem SR.start {N : List Str} {fn : Fn} {ds : List D} {vs : List V} (hn : fn.ns = N.length) (hl : ds.length ≤ N.length) (r : VRs K φ H ds vs) : SR K φ H (Py.start fn.ns ds) (L2.start N vs) := by
  have el := r.length
  unfold Py.start L2.start
  refine ⟨by simp only [List.length_append, List.length_map, List.length_replicate]; omega, fun i d e => ?_⟩
  by_cases hi : i < ds.length
  · rw [List.getElem?_append_left (by rw [List.length_map]; exact hi), List.getElem?_map] at e
    rw [List.getElem?_append_left (by rw [List.length_map, el]; exact hi), List.getElem?_map]
    cases e1 : ds[i]? with
    | none => rw [e1] at e; cases e
    | some d' =>
      rw [e1] at e
      cases e
      obtain ⟨v, ev, rv⟩ := r.get e1
      exact .inl ⟨v, by rw [ev]; rfl, rv⟩
  · rw [List.getElem?_append_right (by rw [List.length_map]; omega)] at e
    rw [List.getElem?_replicate] at e
    split at e <;> cases e
end
/-- a def's parameters -/
def prmsOf (st : Stmt) : List Str := (defArgs st).args.map (·.arg)
def scB (N P : List Str) (sc : Scope) : Bool :=
  funB sc && !sc.isCoroutine && !sc.isGenerator && decide N.Nodup && decide (N.take P.length = P) && P.all (fun x => locB none sc x) && sc.names.all (fun y => match y.2 with
    | .free => false
    | _ => true)
theorem scB_ok {N P : List Str} {sc : Scope} (h : scB N P sc = true) : FnScope N P sc := by
  unfold scB at h
  simp only [Bool.and_eq_true, Bool.not_eq_true', decide_eq_true_eq, List.all_eq_true] at h
  obtain ⟨⟨⟨⟨⟨⟨h1, h2⟩, h3⟩, h4⟩, h5⟩, h6⟩, h7⟩ := h
  refine ⟨?_, h2, h3, h4, h5, fun x hx => ?_, fun y hy e => ?_⟩
  · unfold funB at h1
    split at h1
    · assumption
    · cases h1
  · have z := h6 x hx
    unfold locB at z
    split at z
    · exact .inl (by assumption)
    · exact .inr (by assumption)
    · cases z
  · have z := h7 y hy
    rw [e] at z
    cases z
/-- a def's text looked at -/
def chkDL (lm : List (Str × LamI)) (F B : List Str) (kw : Str → List Str → Nat → Bool) (xs fl rs : List Str) (N : List Str) (fn : Fn) (st : Stmt) : Bool :=
  scB N (prmsOf st) (defScope st) && decide (fn.ps = (prmsOf st).length) && decide (fn.ns = N.length) && decide ((prmsOf st).length ≤ N.length) && fn.lam.isNone && chkSs ⟨N, F, B, kw, xs, fl, rs, none, false, lm⟩ none (defScope st) fn.body (defBody st)
def chkD (F B : List Str) (kw : Str → List Str → Nat → Bool) (xs fl rs : List Str) (N : List Str) (fn : Fn) (st : Stmt) : Bool := chkDL [] F B kw xs fl rs N fn st
/-- a def of the text as it stands behind the top; dV: its defaults -/
structure FunV (K : PySem.W.Frag) (x : Str) (st : Stmt) (dV : Value) (f : Addr) (fd : FuncData) : Prop where
  ex : ∃ (oc : Value) (od : Option Addr) (kV doc pm : Value) (an : Option Addr) (cdv ct : Value) (osl : Array (Option Value)),
    fd = PySem.W.fnOf x x (defArgs st) (defBody st) (defScope st) dV kV doc pm an cdv ct ∧ K.lookup f = some ⟨oc, od, .func fd, osl⟩ ∧ PySem.W.codeIn K cdv x = true
  kp : PySem.W.keepIn K (.ref f) = true
theorem funv_mk {K : PySem.W.Frag} {x : Str} {st : Stmt} {f : Addr} {oc dV : Value} {od an : Option Addr} {osl : Array (Option Value)} {kV doc pm cdv ct : Value} (l : K.lookup f = some ⟨oc, od, .func (PySem.W.fnOf x x (defArgs st) (defBody st) (defScope st) dV kV doc pm an cdv ct), osl⟩)
    (c : PySem.W.codeIn K cdv x = true) (k : PySem.W.keepIn K (.ref f) = true) : FunV K x st dV f (PySem.W.fnOf x x (defArgs st) (defBody st) (defScope st) dV kV doc pm an cdv ct) := ⟨⟨oc, od, kV, doc, pm, an, cdv, ct, osl, rfl, l, c⟩, k⟩
theorem FunV.ok {P : Program} {w : World} {K : PySem.W.Frag} {mg : Str → Option Value} {base : Heap} {x : Str} {st : Stmt} {dV : Value} {f : Addr} {fd : FuncData} {N ps : List Str} {k : Nat} {sp : Sp} (F : FunV K x st dV f fd) (S : FnScope N ps (defScope st)) (len : ∀ vs H Q E, sp vs H Q E → vs.length = ps.length)
    (hbody : ∀ (cdv : Value) (A : Around) (outer : List Env) (s : Shared) (H : Hp) (vs : List V) (Q : VK) (E : XK), fd.code = cdv → Room k (A.deeper (envOfC x (defScope st) s.heap.objs.size f cdv)) → sp vs H Q E →
      ∃ t, PSs (cxOf (L2.CX P w) P w K mg base N x (defScope st) f cdv A outer s H E) (defBody st) t ∧ t { nx := fun _ H' => Q .non H', rt := Q } (L2.start N vs) H) : FnOk P w K mg base (L2.CX P w) (k + 1) f fd ps sp := by
  obtain ⟨oc, od, kV, doc, pm, an, cdv, ct, osl, rfl, lk, hcd⟩ := F.ex
  exact fn_of lk hcd S len fun A outer s H vs Q E hr hsp => hbody cdv A outer s H vs Q E rfl hr hsp
/-- its arguments, all written -/
theorem binds0 {K : PySem.W.Frag} {x : Str} {st : Stmt} {f : Addr} {fd : FuncData} (F : FunV K x st .none f fd) {ps : List Str}
    (h : ∀ (kV doc pm : Value) (an : Option Addr) (cdv ct : Value) (us : List Value), us.length = ps.length → bindArgs (PySem.W.fnOf x x (defArgs st) (defBody st) (defScope st) .none kV doc pm an cdv ct) ⟨us, []⟩ = pure (ps.zip us)) : Binds K fd ps [] := by
  obtain ⟨oc, od, kV, doc, pm, an, cdv, ct, osl, rfl, lk, hcd⟩ := F.ex
  exact .all (h kV doc pm an cdv ct)
/-- its arguments where it has defaults: m written, ds behind them -/
theorem bindsT {K : PySem.W.Frag} {x : Str} {st : Stmt} {T f : Addr} {o : Obj} {its : Array Value} {q : Nat} {fd : FuncData} (F : FunV K x st (.ref T) f fd) (lT : K.lookup T = some o) (oT : o.data = .seq its q) {ps : List Str} {ds : List Value}
    (h : ∀ (kV doc pm : Value) (an : Option Addr) (cdv ct : Value) (us : List Value), us.length + ds.length = ps.length → ∃ k, bindArgs (PySem.W.fnOf x x (defArgs st) (defBody st) (defScope st) (.ref T) kV doc pm an cdv ct) ⟨us, []⟩ = seqItems? (.ref T) >>= k ∧ k (some its) = pure (ps.zip (us ++ ds))) : Binds K fd ps ds := by
  obtain ⟨oc, od, kV, doc, pm, an, cdv, ct, osl, rfl, lk, hcd⟩ := F.ex
  intro s us X hl
  rw [List.length_append] at hl
  obtain ⟨k, e1, e2⟩ := h kV doc pm an cdv ct us hl
  refine BindsTo.of_looks fun M => ?_
  rw [e1]
  exact looks_items X lT oT (.of_pure e2)
/-- how its arguments bind, some by name -/
theorem kbinds {K : PySem.W.Frag} {x : Str} {st : Stmt} {f : Addr} {fd : FuncData} (F : FunV K x st .none f fd) {ps ks : List Str} (hp : 0 < ps.length)
    (h : ∀ (kV doc pm : Value) (an : Option Addr) (cdv ct : Value) (us ws : List Value), us.length = ps.length - ks.length → ws.length = ks.length → bindArgs (PySem.W.fnOf x x (defArgs st) (defBody st) (defScope st) .none kV doc pm an cdv ct) ⟨us, ks.zip ws⟩ = pure (ps.zip (us ++ ws))) :
    KBinds K fd ps ks (gk (ps.length - ks.length) ks.length) (gk (ps.length - ks.length) ks.length) := by
  obtain ⟨oc, od, kV, doc, pm, an, cdv, ct, osl, rfl, lk, hcd⟩ := F.ex
  exact kbind_mk hp (h kV doc pm an cdv ct)
/-- .. where it has defaults, all arguments given -/
theorem kbindsT {K : PySem.W.Frag} {x : Str} {st : Stmt} {T f : Addr} {o : Obj} {its : Array Value} {q : Nat} {fd : FuncData} (F : FunV K x st (.ref T) f fd) (lT : K.lookup T = some o) (oT : o.data = .seq its q) {ps ks : List Str} (hp : 0 < ps.length)
    (h : ∀ (kV doc pm : Value) (an : Option Addr) (cdv ct : Value) (us ws : List Value), us.length = ps.length - ks.length → ws.length = ks.length → ∃ k, bindArgs (PySem.W.fnOf x x (defArgs st) (defBody st) (defScope st) (.ref T) kV doc pm an cdv ct) ⟨us, ks.zip ws⟩ = seqItems? (.ref T) >>= k ∧ k (some its) = pure (ps.zip (us ++ ws))) :
    KBinds K fd ps ks (gk (ps.length - ks.length) ks.length) (gk (ps.length - ks.length) ks.length) := by
  obtain ⟨oc, od, kV, doc, pm, an, cdv, ct, osl, rfl, lk, hcd⟩ := F.ex
  refine ⟨fun s us ws X hl => ?_, fun {vs us zs ws} r1 r2 => ?_⟩
  · unfold gk at hl ⊢
    split at hl
    · rename_i c
      rw [if_pos c]
      obtain ⟨k, e1, e2⟩ := h kV doc pm an cdv ct us ws c.1 c.2
      refine BindsTo.of_looks fun M => ?_
      rw [e1]
      exact looks_items X lT oT (.of_pure e2)
    · rw [List.length_nil] at hl
      omega
  · unfold gk
    rw [r1.length, r2.length]
    split
    · exact r1.append r2
    · exact .nil
/-- the keyword lists that a def is called with -/
def kwB (KK : List (Str × List Str × Nat)) (f : Str) (ks : List Str) (n : Nat) : Bool := decide ((f, ks, n) ∈ KK)
theorem kw_sel {KK : List (Str × List Str × Nat)} {x : Str} {C : List Str → Nat → Prop} (h : ∀ p ∈ KK, p.1 = x → C p.2.1 p.2.2) : ∀ ks n, kwB KK x ks n = true → C ks n := fun ks n e => h (x, ks, n) (of_decide_eq_true e) rfl
def AllP {α : Type} (C : α → Prop) : List α → Prop
  | [] => True
  | a :: as => C a ∧ AllP C as
theorem AllP.mem {α : Type} {C : α → Prop} : ∀ {l : List α}, AllP C l → ∀ a ∈ l, C a
  | _ :: _, h, a, ha => by
    rcases List.mem_cons.mp ha with rfl | z
    · exact h.1
    · exact AllP.mem h.2 a z
theorem kw_all {KK : List (Str × List Str × Nat)} {x : Str} {C : List Str → Nat → Prop} {l : List (List Str × Nat)} (e : (KK.filter fun p => decide (p.1 = x)).map (·.2) = l) (h : AllP (fun p => C p.1 p.2) l) : ∀ ks n, kwB KK x ks n = true → C ks n := kw_sel fun p hp ex =>
  h.mem p.2 (by rw [← e]; exact List.mem_map_of_mem (List.mem_filter.mpr ⟨hp, decide_eq_true ex⟩))
/-- the lambda's name as its code object bears it -/
def lamQ (x : Str) : Str := x ++ ".<locals>." ++ "<lambda>"
def paramsB (z : Str) : Arguments → Bool
  | ⟨[], [⟨a, none, _⟩], none, [], [], none, []⟩ => decide (a = z)
  | _ => false
/-- a look at a lambda's text -/
def lamB (F B : List Str) (kw : Str → List Str → Nat → Bool) (xs fl rs : List Str) (z : Str) (fr : List Str) (ir : E) (sc : Scope) (params : Arguments) (body : Expr) (scope : Scope) : Bool :=
  NdefX.nscB (z :: fr) [z] fr scope && NdefX.ndefB sc scope fr && paramsB z params && chkE ⟨z :: fr, F, B, kw, xs, fl, rs, none, false, []⟩ (some scope) scope ir body
/-- the def g that gets a lambda as its third argument, and the lambda -/
def LOk (K : PySem.W.Frag) (mg : Str → Option Value) (base : Heap) (tabs : List (Addr × Str)) (T : Tb) (F B : List Str) (kw : Str → List Str → Nat → Bool) (xs fl rs : List Str) (x : Str) (N : List Str) (fd : FuncData) (f : Str) (L : LamI) : Prop :=
  ∃ (l : Str) (fnL : Fn) (stG : Stmt) (NG : List Str) (fa : Addr) (fdG : FuncData) (c Pt : Addr) (z : Str) (fr : List Str) (ir : E), T.lookup f = some fnL ∧ fnL.lam = some l ∧ T.lookup l = some ⟨1 + fr.length, 1 + fr.length, [], .cons (.ret ir) .nil, none⟩ ∧
    (∃ dV, FunV K L.g stG dV fa fdG) ∧ mg L.g = some (.ref fa) ∧ Binds K fdG (prmsOf stG) [] ∧ scB NG (prmsOf stG) (defScope stG) = true ∧ fnL.ps = 2 ∧ (prmsOf stG).length = 3 ∧ fnL.ns = NG.length ∧ 3 ≤ NG.length ∧
    chkSs ⟨NG, F, B, kw, xs, fl, rs, some 2, true, []⟩ none (defScope stG) fnL.body (defBody stG) = true ∧ fd.code = .ref c ∧ LamX.TabB base mg c Pt ∧ (Pt, lamQ x) ∈ tabs ∧ (∀ p ∈ tabs, p.1 = Pt → p.2 = lamQ x) ∧ L.js.map (fun j => N[j]?) = fr.map some ∧
    L.chk = lamB F B kw xs fl rs z fr ir
/-- a def of the module and its IR -/
structure DOk (K : PySem.W.Frag) (mg : Str → Option Value) (base : Heap) (tabs : List (Addr × Str)) (T : Tb) (F B : List Str) (kw : Str → List Str → Nat → Bool) (xs fl rs : List Str) (x : Str) (fn : Fn) (st : Stmt) (N : List Str) (fa : Addr) (fd : FuncData) : Prop where
  tb : T.lookup x = some fn
  fu : ∃ y dV, FunV K y st dV fa fd ∧ (y = x ∨ chkD F B kw xs fl rs N fn st = true)
  mgf : mg x = some (.ref fa)
  bind : ∀ m, ∃ (dD : List D) (dV : List V) (dU : List Value), Vals dV dU ∧ Binds K fd (prmsOf st) dU ∧ (∀ φ H, VRs K φ H dD dV) ∧ (m ≤ fn.ps → fn.ps ≤ m + fn.dfl.length → dD = fn.dfl.drop (fn.dfl.length + m - fn.ps))
  kbind : ∀ ks n, kw x ks n = true → n + ks.length = (prmsOf st).length ∧ KBinds K fd (prmsOf st) ks (gk ((prmsOf st).length - ks.length) ks.length) (gk ((prmsOf st).length - ks.length) ks.length)
  look : ∃ lm, chkDL lm F B kw xs fl rs N fn st = true ∧ ∀ f L, lm.lookup f = some L → LOk K mg base tabs T F B kw xs fl rs x N fd f L
/-- one without lambdas -/
theorem look0 {K : PySem.W.Frag} {mg : Str → Option Value} {base : Heap} {tabs : List (Addr × Str)} {T : Tb} {F B : List Str} {kw : Str → List Str → Nat → Bool} {xs fl rs : List Str} {x : Str} {fn : Fn} {st : Stmt} {N : List Str} {fd : FuncData} (h : chkD F B kw xs fl rs N fn st = true) :
    ∃ lm, chkDL lm F B kw xs fl rs N fn st = true ∧ ∀ f L, lm.lookup f = some L → LOk K mg base tabs T F B kw xs fl rs x N fd f L := ⟨[], h, fun _ _ z => by cases z⟩
/-- what is known of the exception classes -/
structure XRec [Tau] (P : Program) (w : World) (K : PySem.W.Frag) (mg : Str → Option Value) (base : Heap) (xs fl rs : List Str) : Prop where
  xk : ∀ k ∈ xs, XAsk K mg k
  xi : xs ≠ [] → mg "isinstance" = none ∧ XGn K
  xl : ∀ k ∈ Tau.xs, ∀ C, PySem.W.nsIn K mainGlobals k = some (some (.ref C)) → XLk K C ∧ ∀ f ∈ fl, PySem.W.findIn K (.ref C) f = some none
  xr : ∀ k ∈ rs, k ∈ Tau.xs ∧ ∃ C, PySem.W.nsIn K mainGlobals k = some (some (.ref C)) ∧ mg k = some (.ref C) ∧ XMkK P w K mg base k C
/-- none are made -/
theorem XRec.none {P : Program} {w : World} {K : PySem.W.Frag} {mg : Str → Option Value} {base : Heap} [Tau] (h : Tau.xs = []) : XRec P w K mg base [] [] [] :=
  ⟨fun _ z => by simp at z, fun z => absurd rfl z, fun _ z => by rw [h] at z; simp at z, fun _ z => by simp at z⟩
section
variable [Tau] {P : Program} {w : World} {K : PySem.W.Frag} {mg : Str → Option Value} {base : Heap} {T : Tb} {F B : List Str} {kw : Str → List Str → Nat → Bool} {xs fl rs : List Str} {tabs : List (Addr × Str)}
theorem bind_none {fn : Fn} {fd : FuncData} {ps : List Str} (e : fn.dfl = []) (b : Binds K fd ps []) : ∀ m : Nat, ∃ (dD : List D) (dV : List V) (dU : List Value), Vals dV dU ∧ Binds K fd ps dU ∧ (∀ φ H, VRs K φ H dD dV) ∧ (m ≤ fn.ps → fn.ps ≤ m + fn.dfl.length → dD = fn.dfl.drop (fn.dfl.length + m - fn.ps)) :=
  fun m => ⟨[], [], [], .nil, b, fun _ _ => .nil, fun _ _ => by rw [e, List.drop_nil]⟩
theorem bind_one {fn : Fn} {fd : FuncData} {ps : List Str} {d : D} {v : V} {u : Value} (e : fn.dfl = [d]) (r : RelV v u) (rd : ∀ φ H, VR K φ H d v) (b0 : Binds K fd ps []) (b1 : Binds K fd ps [u]) : ∀ m : Nat, ∃ (dD : List D) (dV : List V) (dU : List Value), Vals dV dU ∧ Binds K fd ps dU ∧ (∀ φ H, VRs K φ H dD dV) ∧ (m ≤ fn.ps → fn.ps ≤ m + fn.dfl.length → dD = fn.dfl.drop (fn.dfl.length + m - fn.ps)) := fun m => by
  by_cases c : m + 1 = fn.ps
  · refine ⟨[d], [v], [u], .cons r .nil, b1, fun φ H => .cons (rd φ H) .nil, fun _ _ => ?_⟩
    rw [e, show [d].length + m - fn.ps = 0 by rw [List.length_singleton]; omega]
    rfl
  · refine ⟨[], [], [], .nil, b0, fun _ _ => .nil, fun h1 h2 => ?_⟩
    rw [e, List.length_singleton] at *
    rw [show 1 + m - fn.ps = 1 by omega]
    rfl
theorem full_nil {fn : Fn} (h : fn.dfl = []) (ds : List D) : full fn ds = ds := by
  unfold full
  rw [h, List.drop_nil, List.append_nil]
theorem full_all {fn : Fn} {ds : List D} (h : ds.length = fn.ps) : full fn ds = ds := by
  unfold full
  rw [List.drop_eq_nil_of_le (by omega), List.append_nil]
theorem DOk.ps {x : Str} {fn : Fn} {st : Stmt} {N : List Str} {fa : Addr} {fd : FuncData} (d : DOk K mg base tabs T F B kw xs fl rs x fn st N fa fd) : fn.ps = (prmsOf st).length := by
  obtain ⟨_, lk, _⟩ := d.look
  unfold chkDL at lk
  simp only [Bool.and_eq_true, decide_eq_true_eq] at lk
  exact lk.1.1.1.1.2
theorem callF_at {n : Nat} {x : Str} {fn : Fn} {ds : List D} {h : Hh} (tb : T.lookup x = some fn) (nl : fn.lam = none) : callF T (n + 1) x ds h = if (full fn ds).length = fn.ps then gcO h.length h (endS (exSs (callF T n) fn.body (Py.start fn.ns (full fn ds)) h)) else .fail := by
  conv => lhs; unfold callF
  rw [tb]
  simp only [nl]
/-- fewer arguments: the defaults fill up -/
theorem callF_dfl {n m : Nat} {x : Str} {fn : Fn} {ds dD : List D} {h : Hh} (tb : T.lookup x = some fn) (nl : fn.lam = none) (hm : ds.length = m) (e : m ≤ fn.ps → fn.ps ≤ m + fn.dfl.length → dD = fn.dfl.drop (fn.dfl.length + m - fn.ps)) : (ds.length + dD.length = fn.ps ∧ callF T n x ds h = callF T n x (ds ++ dD) h) ∨ callF T n x ds h = .fail := by
  cases n with
  | zero => exact .inr rfl
  | succ n =>
    by_cases c : m ≤ fn.ps ∧ fn.ps ≤ m + fn.dfl.length
    · refine .inl ?_
      have e := e c.1 c.2
      have l : ds.length + dD.length = fn.ps := by rw [e, List.length_drop]; omega
      refine ⟨l, ?_⟩
      rw [callF_at tb nl, callF_at tb nl]
      have f1 : full fn (ds ++ dD) = full fn ds := by
        rw [full_all (by rw [List.length_append]; exact l)]
        unfold full
        rw [e, hm]
      rw [f1]
    · refine .inr ?_
      rw [callF_at tb nl, if_neg]
      unfold full
      rw [List.length_append, List.length_drop]
      omega
theorem callF_no {n : Nat} {x : Str} {fn : Fn} {ds : List D} {h : Hh} (tb : T.lookup x = some fn) (nl : fn.lam = none) (e : fn.dfl = []) (ne : ds.length ≠ fn.ps) : callF T n x ds h = .fail := by
  cases n with
  | zero => rfl
  | succ n => rw [callF_at tb nl, full_nil e, if_neg ne]
theorem DOk.nl {x : Str} {fn : Fn} {st : Stmt} {N : List Str} {fa : Addr} {fd : FuncData} (d : DOk K mg base tabs T F B kw xs fl rs x fn st N fa fd) : fn.lam = none := by
  obtain ⟨_, lk, _⟩ := d.look
  unfold chkDL at lk
  simp only [Bool.and_eq_true, decide_eq_true_eq, Option.isNone_iff_eq_none] at lk
  exact lk.1.2
/-- no lambda in hand, something known -/
abbrev tauI (tabs : List (Addr × Str)) (xs : List Str) (inv : Hp → Prop) (kp : ∀ {H H' : Hp}, inv H → Stay H H' → inv H') : Tau := ⟨tabs, xs, none, inv, kp⟩
theorem params_bind {z q : Str} {params : Arguments} {body : Expr} {scope : Scope} {cl : List (Str × Addr)} {pm cv ctv u : Value} (h : paramsB z params = true) : bindArgs (PySem.W.kla_fn "<lambda>" q params body scope cl pm cv ctv) ⟨[u], []⟩ = pure [(z, u)] := by
  unfold paramsB at h
  split at h
  · rw [decide_eq_true_eq] at h
    subst h
    simp [bindArgs, seqItems?, List.lookup, notAStandIn]
  · cases h
theorem params_def {z : Str} {params : Arguments} {env : Env} (h : paramsB z params = true) : defaultsOf params env = ([], []) := by
  unfold paramsB at h
  split at h
  · rfl
  · cases h
theorem hofF_ne {cf : Str → List D → Hh → Out D} {l g : Str} {cs : List D} (h : g ≠ "wanted!") : hofF cf l cs g = cf g := by
  funext ds h'
  unfold hofF
  rw [if_neg h]
theorem hofF_eq {cf : Str → List D → Hh → Out D} {l : Str} {cs ds : List D} {h : Hh} : hofF cf l cs "wanted!" ds h = cf l (ds ++ cs) h := by
  unfold hofF
  rw [if_pos rfl]
/-- all defs at a level -/
def FAll [τ : Tau] (P : Program) (w : World) (K : PySem.W.Frag) (mg : Str → Option Value) (base : Heap) (T : Tb) (F B : List Str) (kw : Str → List Str → Nat → Bool) (xs fl rs : List Str) (n : Nat) : Prop :=
  ∀ (inv : Hp → Prop) (kp : ∀ {H H' : Hp}, inv H → Stay H H' → inv H') (x : Str) (fn : Fn) (st : Stmt) (N : List Str) (fa : Addr) (fd : FuncData), DOk K mg base τ.tabs T F B kw xs fl rs x fn st N fa fd →
    FnOk P w K mg base (L2.CX P w) (n + 2) fa fd (prmsOf st) (@spF (tauI τ.tabs τ.xs inv kp) K (callF T n) x (prmsOf st).length)
theorem fok_of {n : Nat} (A : FAll P w K mg base T F B kw xs fl rs n) (hD : ∀ x ∈ F, ∃ fn st N fa fd, DOk K mg base Tau.tabs T F B kw xs fl rs x fn st N fa fd) {X : Cx} (e1 : X.prog = P) (e2 : X.w = w) (e3 : X.K = K) (e4 : X.mg = mg) (e5 : X.base = base) (hr : Room (n + 2) X.A) : ∀ f ∈ F, FOk X (callF T n) kw f := by
  intro f hf
  subst e1 e2 e3 e4 e5
  obtain ⟨fn', st', N', fa', fd', d'⟩ := hD f hf
  obtain ⟨_, dV', fu', _⟩ := d'.fu
  have l2' : fn'.ps = (prmsOf st').length := d'.ps
  exact ⟨n + 2, fa', fd', prmsOf st', d'.mgf, fu'.kp, A Tau.inv Tau.keep f fn' st' N' fa' fd' d', hr, fun m => by
    obtain ⟨dD, dW, dU, r1, r2, r3, r4⟩ := d'.bind m
    refine ⟨dD, dW, dU, r1, r2, r3, fun ds h hm => ?_⟩
    rw [← l2']
    exact callF_dfl d'.tb d'.nl hm r4, fun ks n hk => d'.kbind ks n hk⟩
theorem FOk.hof {X : Cx} {cf : Str → List D → Hh → Out D} {l f : Str} {cs : List D} (h : FOk X cf kw f) (ne : f ≠ "wanted!") : FOk X (hofF cf l cs) kw f := by
  have e := hofF_ne (cf := cf) (l := l) (cs := cs) ne
  unfold FOk BindM spF at h ⊢
  simp only [e]
  exact h
end
section
variable {P : Program} {w : World} {K : PySem.W.Frag} {mg : Str → Option Value} {base : Heap} {T : Tb} {F B : List Str} {kw : Str → List Str → Nat → Bool} {xs fl rs : List Str} {φ : List Addr} {h : Hh} {H : Hp}
/-- what is known of a lambda in hand -/
def LInv (τ : Tau) (K : PySem.W.Frag) (c' : Addr) (q : Str) (cs : List D) (vs : List V) (H : Hp) : Prop := τ.inv H ∧ H c' = some (LamX.CodeO c' q) ∧ VRs K [] H cs vs
mutual
theorem vr_stay {H H' : Hp} (s : Stay H H') : ∀ {d : D} {v : V}, VR K [] H d v → VR K [] H' d v
  | _, _, .non => .non
  | _, _, .bl b => .bl b
  | _, _, .int i => .int i
  | _, _, .str x => .str x
  | _, _, .tup q r => .tup (by
      rcases q with (q | ⟨o, q⟩) | q
      · exact .inl (.inl (s _ _ q (fun t => t.noTup rfl) fun ps z => by cases z))
      · exact .inl (.inr ⟨o, s _ _ q (fun t => t.noFrz rfl) fun ps z => by cases z⟩)
      · exact .inr q) (vrs_stay s r)
  | _, _, .ref e => .ref e
  | _, _, .rl q r => .rl (by
      rcases q with ⟨o, q⟩ | q
      · exact .inl ⟨o, s _ _ q (fun t => t.noFrz rfl) fun ps z => by cases z⟩
      · exact .inr q) (vrs_stay s r)
theorem vrs_stay {H H' : Hp} (s : Stay H H') : ∀ {ds : List D} {vs : List V}, VRs K [] H ds vs → VRs K [] H' ds vs
  | _, _, .nil => .nil
  | _, _, .cons r t => .cons (vr_stay s r) (vrs_stay s t)
end
theorem LInv.stay {τ : Tau} {c' : Addr} {q : Str} {cs : List D} {vs : List V} {H H' : Hp} (i : LInv τ K c' q cs vs H) (s : Stay H H') : LInv τ K c' q cs vs H' :=
  ⟨τ.keep i.1 s, s _ _ i.2.1 (fun t => t.noCode rfl) fun ps z => LamX.codeO_ne ps z, vrs_stay s i.2.2⟩
/-- the lambda at f in hand, in slot 2 -/
abbrev tauL (τ : Tau) (K : PySem.W.Frag) (f c' : Addr) (q : Str) (cs : List D) (vs : List V) : Tau := ⟨τ.tabs, τ.xs, some (2, f), LInv τ K c' q cs vs, LInv.stay⟩
theorem Rel.toL {τ : Tau} {f c' : Addr} {q : Str} {cs : List D} {vs : List V} (R : @Rel τ K φ h H) (i : LInv τ K c' q cs vs H) : @Rel (tauL τ K f c' q cs vs) K φ h H :=
  @Rel.mk (tauL τ K f c' q cs vs) K φ h H (@Rel.len τ K φ h H R) (@Rel.obj τ K φ h H R) (@Rel.inj τ K φ h H R) (@Rel.tab τ K φ h H R) i
theorem Rel.ofL {τ : Tau} {f c' : Addr} {q : Str} {cs : List D} {vs : List V} (R : @Rel (tauL τ K f c' q cs vs) K φ h H) : @Rel τ K φ h H :=
  @Rel.mk τ K φ h H (@Rel.len (tauL τ K f c' q cs vs) K φ h H R) (@Rel.obj (tauL τ K f c' q cs vs) K φ h H R) (@Rel.inj (tauL τ K f c' q cs vs) K φ h H R) (@Rel.tab (tauL τ K f c' q cs vs) K φ h H R) (@Rel.inv (tauL τ K f c' q cs vs) K φ h H R).1
theorem SR.startL {τ : Tau} {N : List Str} {ns : Nat} {x y : D} {v1 v2 : V} {f c' : Addr} {q : Str} {cs : List D} {vs : List V} (hn : ns = N.length) (hl : 3 ≤ N.length) (r1 : VR K φ H x v1) (r2 : VR K φ H y v2) : @SR (tauL τ K f c' q cs vs) K φ H (Py.start ns [x, y, .fnv]) (L2.start N [v1, v2, .ref f]) := by
  subst hn
  refine @SR.mk (tauL τ K f c' q cs vs) K φ H _ _ ?_ fun i d e => ?_
  · unfold Py.start L2.start
    simp only [List.length_append, List.length_map, List.length_replicate, List.length_cons, List.length_nil]
  · unfold Py.start L2.start at *
    match i with
    | 0 => cases e; exact .inl ⟨v1, rfl, r1⟩
    | 1 => cases e; exact .inl ⟨v2, rfl, r2⟩
    | 2 => cases e; exact .inr ⟨rfl, f, rfl, rfl⟩
    | i + 3 =>
      rw [List.getElem?_append_right (by simp), List.getElem?_replicate] at e
      split at e <;> cases e
end
section
variable [τ : Tau] {P : Program} {w : World} {K : PySem.W.Frag} {mg : Str → Option Value} {base : Heap} {T : Tb} {F B : List Str} {kw : Str → List Str → Nat → Bool} {xs fl rs : List Str} {φ : List Addr} {h : Hh} {H : Hp}
theorem callF_lam {n : Nat} {f l : Str} {fn : Fn} {ds : List D} (tb : T.lookup f = some fn) (el : fn.lam = some l) : callF T (n + 1) f ds h = if fn.ps ≤ ds.length ∧ lows 0 (ds.drop fn.ps) = true then gcO h.length h (endS (exSs (hofF (callF T n) l (ds.drop fn.ps)) fn.body (Py.start fn.ns (ds.take fn.ps ++ [.fnv])) h)) else .fail := by
  conv => lhs; unfold callF
  rw [tb]
  simp only [el]
/-- behind a def's body -/
theorem post_end {E : XK} {Q : VK} {h0 : Hh} {o : Out D} (R0 : Rel K φ h0 H) (q : Post K E φ H (BD K) (gcO h0.length h0 o) Q) : Post K E φ H (BD K) o Q := by
  cases o with
  | ok d h' => exact gc_ok R0 q
  | exc c fs h' => exact gcx_ok R0 q
  | fail => exact q
theorem startF_eq {z : Str} {fr : List Str} {v : V} {vs : List V} (hl : vs.length = fr.length) : NdefX.startF (z :: fr) [v] (vs.map some) = L2.start (z :: fr) (v :: vs) := by
  unfold NdefX.startF L2.start
  simp [hl]
/-- the lambda called -/
theorem wrun_ok {m : Nat} {Z : Cx} {lf c' : Addr} {q z l : Str} {fr : List Str} {ir : E} {cs : List D} {vs : List V} {params : Arguments} {body : Expr} {scope : Scope} {cl : List (Str × Addr)} {pm ctv : Value} {s0 : Shared} {H0 : Hp} {outer : List Env} {sc : Scope}
    (IH : ∀ j, j < m → FAll P w K mg base T F B kw xs fl rs j) (hD : ∀ x ∈ F, ∃ fn st N fa fd, DOk K mg base Tau.tabs T F B kw xs fl rs x fn st N fa fd) (hB : ∀ x ∈ B, GlbS x (mg x)) (hX : XRec P w K mg base xs fl rs)
    (e1 : Z.prog = P) (e2 : Z.w = w) (e3 : Z.K = K) (e4 : Z.mg = mg) (e5 : Z.base = base) (hr : Room (m + 2) Z.A) (hs : Z.s_0 = s0) (hH : Z.H_0 = H0) (hout : Z.fs = frs outer) (hex : Z.ex = [])
    (tl : T.lookup l = some ⟨1 + fr.length, 1 + fr.length, [], .cons (.ret ir) .nil, none⟩) (hl : vs.length = fr.length) (lo : lows 0 cs = true) (hk : lamB F B kw xs fl rs z fr ir sc params body scope = true)
    (ho : s0.heap.get? lf = some (PySem.W.kla_obj "<lambda>" q params body scope cl pm c' ctv)) (hn : H0 lf = none) (hf : lf ∉ frs outer) (C : NdefX.CellsAt cl fr (vs.map some) s0.heap H0) :
    @WRun (tauL τ K lf c' q cs vs) Z (hofF (callF T m) l cs) lf := by
  subst e1 e2 e3 e4 e5 hs hH
  intro pins s σ H I
  have un := I.base
  rw [hout, hex] at un
  have of1 := un.keep lf _ ho hn hf (by simp)
  refine ⟨⟨_, _, _, _, of1⟩, fun v u Q E r ⟨φ, h, d, R, rv, p⟩ => ?_⟩
  rcases m with _ | j
  · rw [hofF_eq] at p
    exact p.elim
  obtain ⟨i1, ic, irs⟩ := @Rel.inv (tauL τ Z.K lf c' q cs vs) _ _ _ _ R
  have lc : cs.length = fr.length := irs.length.symm.trans hl
  rw [hofF_eq, callF_at tl rfl, full_nil rfl, if_pos (by rw [List.length_append, lc]; rfl)] at p
  have p2 := @post_end (tauL τ Z.K lf c' q cs vs) Z.K φ H E Q h _ R p
  have e : ∀ st, endS (exSs (callF T j) (.cons (.ret ir) .nil) st h) = Py.bnd (evR (callF T j) ir st h) mat := fun st => by
    show endS (thenS (bndS st (Py.bnd (evR (callF T j) ir st h) mat) fun d h => .rt d h) _) = _
    cases Py.bnd (evR (callF T j) ir st h) mat <;> rfl
  rw [e] at p2
  have C1 : NdefX.CellsAt cl fr (vs.map some) s.heap H := by
    refine ⟨C.len, fun y c hc => ?_, C.inj, fun i y hy => ?_⟩
    · obtain ⟨n0, v0, o0, h1, h2⟩ := C.all y c hc
      obtain ⟨sl, q⟩ := un.any h1 n0 (by simp)
      exact ⟨un.free c o0 h1 n0 (by simp), v0, _, q, h2⟩
    · obtain ⟨c, hc, hv⟩ := C.has i y hy
      refine ⟨c, hc, fun v' e' => ?_⟩
      obtain ⟨u', ru, o, h1, h2⟩ := hv v' e'
      obtain ⟨sl, q⟩ := un.any h1 (C.all y c hc).1 (by simp)
      exact ⟨u', ru, _, q, h2⟩
  unfold lamB at hk
  simp only [Bool.and_eq_true] at hk
  obtain ⟨⟨⟨k1, k2⟩, k3⟩, k4⟩ := hk
  have S := NdefX.nscope_by k1
  refine lam_run (k := j + 2) (tb := @TDr (tauL τ Z.K lf c' q cs vs).off Z.K (fun cls d _ H => E cls d H) fun st h => Py.bnd (evR (callF T j) ir st h) mat) S (params_bind k3) hr I.env0 of1 ic C1 r (fun hr' => ?_) ?_
  · have CK : @Cok (tauL τ Z.K lf c' q cs vs).off ⟨z :: fr, F, B, kw, xs, fl, rs, none, false, []⟩ (callF T j) (fun cls d _ H => E cls d H) (some scope) scope (NdefX.ncx (L2.CX Z.prog Z.w) Z.prog Z.w Z.K Z.mg Z.base (z :: fr) (lamF q params scope cl c') lf Z.A Z.stack s H E) := by
      refine @Cok.mk (tauL τ Z.K lf c' q cs vs).off _ _ _ _ _ _ rfl S.nd (fun _ => rfl) rfl (fun x => ?_) (@fok_of (tauL τ Z.K lf c' q cs vs).off Z.prog Z.w Z.K Z.mg Z.base T F B kw xs fl rs j (IH j (Nat.lt_succ_self j)) hD (NdefX.ncx (L2.CX Z.prog Z.w) Z.prog Z.w Z.K Z.mg Z.base (z :: fr) (lamF q params scope cl c') lf Z.A Z.stack s H E) rfl rfl rfl rfl rfl hr') hB ?_ (L2.takes_of rfl rfl rfl rfl) hX.xk hX.xi hX.xl (fun k hk => ?_) (fun z => by cases z) (fun i f z => by cases z) (fun z => by cases z) (fun z => by cases z)
      · show false = (scope.names.lookup x == some .cell)
        cases hx : scope.names.lookup x with
        | none => rfl
        | some k =>
          cases k with
          | cell => exact absurd rfl (S.nocell _ (PySem.mem_of_lookup hx))
          | _ => rfl
      · have z := hr'.un
        show (Z.A.deeper _).units + 128 < cLine
        omega
      · obtain ⟨h1, C, h2, h3, h4⟩ := hX.xr k hk
        exact ⟨h1, C, h2, h3, h4, hr'.mono (by omega)⟩
    exact @jd (tauL τ Z.K lf c' q cs vs).off _ _ _ _ (@EOk.v (tauL τ Z.K lf c' q cs vs).off _ _ _ _ (@chkE_ok (tauL τ Z.K lf c' q cs vs).off _ _ ir _ (some scope) scope _ body CK k4))
  · rw [startF_eq hl]
    have rr : VRs Z.K φ H ([d] ++ cs) (v :: vs) := .cons rv (by have := irs.app φ; rwa [List.nil_append] at this)
    refine ⟨φ, h, Py.start (1 + fr.length) ([d] ++ cs), @Rel.off (tauL τ Z.K lf c' q cs vs) Z.K φ h H R, @SR.start (tauL τ Z.K lf c' q cs vs).off _ _ _ (z :: fr) ⟨1 + fr.length, 1 + fr.length, [], .cons (.ret ir) .nil, none⟩ _ _ (by show 1 + fr.length = fr.length + 1; omega) (by show (d :: cs).length ≤ fr.length + 1; rw [List.length_cons, lc]; exact Nat.le_refl _) rr, @Post.off (tauL τ Z.K lf c' q cs vs) _ _ _ _ _ _ _ _ _ p2⟩
/-- g called with the lambda -/
theorem lrun_ok {n : Nat} {X : Cx} {f l g : Str} {fnL : Fn} {stG : Stmt} {NG : List Str} {fa : Addr} {fdG : FuncData} {z : Str} {fr : List Str} {ir : E} {js : List Nat} {params : Arguments} {body : Expr} {scope sc : Scope} {dV : Value}
    (IH : ∀ j, j < n → FAll P w K mg base T F B kw xs fl rs j) (hD : ∀ x ∈ F, ∃ fn st N fa fd, DOk K mg base Tau.tabs T F B kw xs fl rs x fn st N fa fd) (hB : ∀ x ∈ B, GlbS x (mg x)) (hX : XRec P w K mg base xs fl rs) (hw : ("wanted!" : Str) ∉ F)
    (e1 : X.prog = P) (e2 : X.w = w) (e3 : X.K = K) (e4 : X.mg = mg) (e5 : X.base = base) (hr : Room (n + 2) X.A)
    (tf : T.lookup f = some fnL) (el : fnL.lam = some l) (tl : T.lookup l = some ⟨1 + fr.length, 1 + fr.length, [], .cons (.ret ir) .nil, none⟩) (fu : FunV K g stG dV fa fdG) (hb : Binds K fdG (prmsOf stG) []) (hsc : scB NG (prmsOf stG) (defScope stG) = true) (hps : fnL.ps = 2) (hp3 : (prmsOf stG).length = 3) (hns : fnL.ns = NG.length) (h3 : 3 ≤ NG.length)
    (hlk : chkSs ⟨NG, F, B, kw, xs, fl, rs, some 2, true, []⟩ none (defScope stG) fnL.body (defBody stG) = true) (hjs : fr.length = js.length) (hk : lamB F B kw xs fl rs z fr ir sc params body scope = true) : LRun X (callF T n) f fa params body scope fr js := by
  subst e1 e2 e3 e4 e5
  intro pins s σ H lf c' pm ctv I ho hn hfs hco C φ h x y cs v1 v2 vs u1 u2 Q E R rx ry r1 r2 ev rc p
  rcases n with _ | m
  · exact p.elim
  have hl : vs.length = fr.length := by
    have := congrArg List.length ev
    rw [List.length_map, List.length_map] at this
    omega
  rw [ev] at C
  rw [callF_lam tf el, hps] at p
  split at p
  case isFalse => exact p.elim
  rename_i hc
  have c2 : lows 0 cs = true := hc.2
  have p2 := post_end R p
  obtain ⟨oc, od, kV, doc, pmG, an, cdv, ct, osl, rfl, lk, hcd⟩ := fu.ex
  have SG := scB_ok hsc
  have i0 : LInv τ X.K c' (X.env.qual ++ "<lambda>") cs vs H := ⟨R.inv, hco, VRs.down (φ := []) (ψ := φ) c2 rc⟩
  refine LamX.run_ofS (CX := L2.CX X.prog X.w) (N := NG) (ps := prmsOf stG) (us := [u1, u2, .ref lf]) (vs := [v1, v2, .ref lf]) lk hcd SG hr I.env0 (hb s [u1, u2, .ref lf] I.kIn (by rw [hp3]; rfl)) (.cons r1 (.cons r2 (.cons rfl .nil))) (by rw [hp3]; rfl) fun hr' => ?_
  have CK : @Cok (tauL τ X.K lf c' (X.env.qual ++ "<lambda>") cs vs) ⟨NG, F, B, kw, xs, fl, rs, some 2, true, []⟩ (hofF (callF T m) l cs) (fun cls d _ H => E cls d H) none (defScope stG) (cxOf (L2.CX X.prog X.w) X.prog X.w X.K X.mg X.base NG g (defScope stG) fa cdv X.A X.stack s H E) := by
    refine @Cok.mk (tauL τ X.K lf c' (X.env.qual ++ "<lambda>") cs vs) _ _ _ _ _ _ rfl SG.nd (fun _ => rfl) rfl (fun _ => rfl) (fun f hf => @FOk.hof (tauL τ X.K lf c' (X.env.qual ++ "<lambda>") cs vs) kw _ _ _ _ _ (@fok_of (tauL τ X.K lf c' (X.env.qual ++ "<lambda>") cs vs) X.prog X.w X.K X.mg X.base T F B kw xs fl rs m (IH m (Nat.lt_succ_self m)) hD (cxOf (L2.CX X.prog X.w) X.prog X.w X.K X.mg X.base NG g (defScope stG) fa cdv X.A X.stack s H E) rfl rfl rfl rfl rfl hr' f hf) fun z => hw (by rw [← z]; exact hf)) hB ?_ (L2.takes_of rfl rfl rfl rfl) hX.xk hX.xi hX.xl (fun k hk => ?_) (fun _ => ⟨rfl, rfl, rfl⟩) (fun i f z => by cases z; rfl) (fun _ _ pn xe i f z => ?_) (fun _ f L z => by cases z)
    · have z := hr'.un
      show (X.A.deeper _).units + 128 < cLine
      omega
    · obtain ⟨h1, C, h2, h3, h4⟩ := hX.xr k hk
      exact ⟨h1, C, h2, h3, h4, hr'.mono (by omega)⟩
    · cases z
      exact wrun_ok (Z := (cxOf (L2.CX X.prog X.w) X.prog X.w X.K X.mg X.base NG g (defScope stG) fa cdv X.A X.stack s H E).tr pn xe) (s0 := s) (H0 := H) (outer := X.stack) (fun j hj => IH j (by omega)) hD hB hX rfl rfl rfl rfl rfl hr' rfl rfl rfl rfl tl hl c2 hk ho hn hfs C
  refine ⟨_, @chkSs_ok (tauL τ X.K lf c' (X.env.qual ++ "<lambda>") cs vs) _ fnL.body _ _ none (defScope stG) _ _ CK (L2.passes_of rfl) hlk, φ, h, Py.start fnL.ns [x, y, .fnv], R.toL i0, SR.startL hns h3 rx ry, ?_⟩
  show @PostS (tauL τ X.K lf c' (X.env.qual ++ "<lambda>") cs vs) X.K _ φ H (exSs (hofF (callF T m) l cs) fnL.body (Py.start fnL.ns [x, y, .fnv]) h) _
  have p3 : Post X.K E φ H (BD X.K) (endS (exSs (hofF (callF T m) l cs) fnL.body (Py.start fnL.ns [x, y, .fnv]) h)) Q := p2
  cases e : exSs (hofF (callF T m) l cs) fnL.body (Py.start fnL.ns [x, y, .fnv]) h with
  | nx st' h' =>
    rw [e] at p3
    exact fun φ' H' σ' w' R' S' => p3 φ' H' .non w' R'.ofL .non
  | rt d' h' =>
    rw [e] at p3
    exact fun φ' H' v w' R' r' => p3 φ' H' v w' R'.ofL r'
  | bk => rw [e] at p3; exact p3.elim
  | ct => rw [e] at p3; exact p3.elim
  | exc c fs st' h' =>
    rw [e] at p3
    exact fun φ' H' σ' cls d w' R' S' x => p3 φ' H' cls d w' R'.ofL x
  | fail => rw [e] at p3; exact p3.elim
theorem fn_step {n : Nat} (hp : Tau.pin = none) (IH : ∀ j, j ≤ n → FAll P w K mg base T F B kw xs fl rs j) (hD : ∀ x ∈ F, ∃ fn st N fa fd, DOk K mg base Tau.tabs T F B kw xs fl rs x fn st N fa fd) (hB : ∀ x ∈ B, GlbS x (mg x)) (hX : XRec P w K mg base xs fl rs) (hw : ("wanted!" : Str) ∉ F) {x : Str} {fn : Fn} {st : Stmt} {N : List Str} {fa : Addr} {fd : FuncData}
    (d : DOk K mg base Tau.tabs T F B kw xs fl rs x fn st N fa fd) : FnOk P w K mg base (L2.CX P w) (n + 3) fa fd (prmsOf st) (spF K (callF T (n + 1)) x (prmsOf st).length) := by
  obtain ⟨y, dV, fu, hy⟩ := d.fu
  obtain ⟨lm, lk, hlm⟩ : ∃ lm, chkDL lm F B kw xs fl rs N fn st = true ∧ ∀ f L, lm.lookup f = some L → y = x ∧ LOk K mg base Tau.tabs T F B kw xs fl rs x N fd f L := by
    obtain ⟨lm, lk, hlm⟩ := d.look
    rcases hy with e | e
    · exact ⟨lm, lk, fun f L h => ⟨e, hlm f L h⟩⟩
    · exact ⟨[], e, fun _ _ z => by cases z⟩
  have nl := d.nl
  unfold chkDL at lk
  simp only [Bool.and_eq_true, decide_eq_true_eq] at lk
  obtain ⟨⟨⟨⟨⟨l1, l2⟩, l3⟩, l4⟩, _⟩, l6⟩ := lk
  have S := scB_ok l1
  obtain ⟨oc, od, kV, doc, pm, an, cdv0, ct, osl, efd, _, _⟩ := id fu.ex
  refine fu.ok (k := n + 2) S (fun vs H Q E ⟨φ, h, ds, R, r, hl, q⟩ => r.length.trans hl) fun cdv A outer s H vs Q E hcode hr ⟨φ, h, ds, R, r, ql, q⟩ => ?_
  rw [callF_at d.tb nl, full_all (by omega), if_pos (by omega)] at q
  have C : Cok ⟨N, F, B, kw, xs, fl, rs, none, false, lm⟩ (callF T n) (fun cls d _ H => E cls d H) none (defScope st) (cxOf (L2.CX P w) P w K mg base N y (defScope st) fa cdv A outer s H E) := by
    refine ⟨rfl, S.nd, fun _ => rfl, rfl, fun _ => rfl, fok_of (IH n (Nat.le_refl n)) hD rfl rfl rfl rfl rfl hr, hB, ?_, L2.takes_of rfl rfl rfl rfl, hX.xk, hX.xi, hX.xl, fun k hk => ?_, fun _ => ⟨rfl, rfl, rfl⟩, (fun i f z => by rw [hp] at z; cases z), (fun z => by cases z), fun _ f L hL => ⟨hp, fun pn xe params body scope hk => ?_⟩⟩
    · have z := hr.un
      show (A.deeper _).units + 128 < cLine
      omega
    · obtain ⟨h1, C, h2, h3, h4⟩ := hX.xr k hk
      exact ⟨h1, C, h2, h3, h4, hr.mono (by omega)⟩
    · obtain ⟨eyx, l, fnL, stG, NG, faG, fdG, c, Pt, z, fr, ir, t1, t2, t3, ⟨dVG, t4⟩, t5, t6, t7, t8, t9, t10, t11, t12, t13, t14, t15, t16, t17, t18⟩ := hlm f L hL
      subst eyx
      rw [t18] at hk
      have hk2 := hk
      unfold lamB at hk
      simp only [Bool.and_eq_true] at hk
      obtain ⟨⟨⟨k1, k2⟩, k3⟩, k4⟩ := hk
      have ljs : fr.length = L.js.length := by
        have := congrArg List.length t17
        rw [List.length_map, List.length_map] at this
        omega
      exact ⟨faG, c, Pt, fr, t5, t4.kp, t14, hcode.symm.trans t13, t15, t16, params_def k3, NdefX.ndef_free k2, NdefX.ndef_fr k2, t17, lrun_ok (fun j hj => IH j (by omega)) hD hB hX hw rfl rfl rfl rfl rfl hr t1 t2 t3 t4 t6 t7 t8 t9 t10 t11 t12 ljs hk2⟩
  refine ⟨_, chkSs_ok fn.body _ _ none (defScope st) _ _ C (L2.passes_of rfl) l6, φ, h, Py.start fn.ns ds, R, SR.start l3 (by omega) r, ?_⟩
  show PostS K _ φ H (exSs (callF T n) fn.body (Py.start fn.ns ds) h) _
  cases e : exSs (callF T n) fn.body (Py.start fn.ns ds) h with
  | nx st' h' =>
    rw [e] at q
    exact fun φ' H' σ' w' R' S' => gc_ok R q φ' H' .non w' R' .non
  | rt d' h' =>
    rw [e] at q
    exact fun φ' H' v w' R' r' => gc_ok R q φ' H' v w' R' r'
  | bk => rw [e] at q; exact q.elim
  | ct => rw [e] at q; exact q.elim
  | exc c fs st' h' =>
    rw [e] at q
    exact fun φ' H' σ' cls d w' R' S' x => gcx_ok R q φ' H' cls d w' R' x
  | fail => rw [e] at q; exact q.elim
theorem fn_all (hD : ∀ x ∈ F, ∃ fn st N fa fd, DOk K mg base Tau.tabs T F B kw xs fl rs x fn st N fa fd) (hB : ∀ x ∈ B, GlbS x (mg x)) (hX : XRec P w K mg base xs fl rs) (hw : ("wanted!" : Str) ∉ F) : ∀ n, FAll P w K mg base T F B kw xs fl rs n := by
  intro n
  induction n using Nat.strongRecOn with
  | _ n ih =>
    intro inv kp x fn st N fa fd d
    rcases n with _ | n
    · exact ⟨fun vs H Q E ⟨φ, h, ds, R, r, _, q⟩ => q.elim, fun A outer s H args us vs Q E hr he hb hv ⟨φ, h, ds, R, r, _, q⟩ => q.elim⟩
    · exact @fn_step (tauI τ.tabs τ.xs inv kp) P w K mg base T F B kw xs fl rs n rfl (fun j hj => ih j (by omega)) hD hB (@XRec.mk (tauI τ.tabs τ.xs inv kp) P w K mg base xs fl rs hX.xk hX.xi hX.xl hX.xr) hw x fn st N fa fd d
theorem fn_ok (hp : Tau.pin = none) (hD : ∀ x ∈ F, ∃ fn st N fa fd, DOk K mg base Tau.tabs T F B kw xs fl rs x fn st N fa fd) (hB : ∀ x ∈ B, GlbS x (mg x)) (hX : XRec P w K mg base xs fl rs) (hw : ("wanted!" : Str) ∉ F) (n : Nat) (x : Str) (fn : Fn) (st : Stmt) (N : List Str) (fa : Addr) (fd : FuncData) (d : DOk K mg base Tau.tabs T F B kw xs fl rs x fn st N fa fd) :
    FnOk P w K mg base (L2.CX P w) (n + 2) fa fd (prmsOf st) (spF K (callF T n) x (prmsOf st).length) := by
  rcases n with _ | n
  · exact ⟨fun vs H Q E ⟨φ, h, ds, R, r, _, q⟩ => q.elim, fun A outer s H args us vs Q E hr he hb hv ⟨φ, h, ds, R, r, _, q⟩ => q.elim⟩
  · exact fn_step hp (fun j _ => fn_all hD hB hX hw j) hD hB hX hw d
end
section
variable [Tau] {K : PySem.W.Frag}
/-- the law's promise, from what the evaluator gives -/
theorem law_sp {cf : Str → List D → Hh → Out D} {H : Hp} {a : Addr} {ns : List Int} {x : Str} (hT : LamX.Tabs Tau.tabs H) (hI : Tau.inv H := by trivial) (ho : Only H) (hS : SqL K H a (ns.map V.int)) (e : ∃ h', cf x [.rl (ns.map D.int)] [] = .ok (.bl true) h') : spF K cf x 1 [.ref a] H (fun v _ => v = .bl true) fun _ _ _ => False := by
  obtain ⟨h', e⟩ := e
  have sq : SqS K H a (ns.map V.int) := by
    rcases hS with (z | z) | z
    · rcases ho a with n | ⟨o, xs, n⟩
      · rw [n] at z; cases z
      · rw [n] at z; cases z
    · exact .inl z
    · exact .inr z
  have allI : ∀ ns : List Int, VRs K [] H (ns.map D.int) (ns.map V.int) := fun ns => by
    induction ns with
    | nil => exact .nil
    | cons n ns ih => exact .cons (.int n) ih
  refine ⟨[], [], _, ⟨rfl, fun n o a e => by simp at e, List.nodup_nil, hT, hI⟩, .cons (.rl sq (allI ns)) .nil, rfl, ?_⟩
  rw [e]
  intro φ' H' v w R r
  cases r
  rfl
end
end Py
/-! Core, part Q: reckoning with the evaluator (no program here). -/
namespace Py
open PySem
/-! ### what an outcome fulfils -/
abbrev Xk := Str → List (Str × D) → Hh → Prop
def NoE : Xk := fun _ _ _ => False
abbrev XkS := Str → List (Str × D) → St → Hh → Prop
def NoX : XkS := fun _ _ _ _ => False
def Xat (X : XkS) (st : St) : Xk := fun c fs h => X c fs st h
def WpR {α : Type} (o : Out α) (Q : α → Hh → Prop) (E : Xk) : Prop := match o with
  | .ok a h => Q a h
  | .exc c fs h => E c fs h
  | .fail => False
@[irreducible] def Wp {α : Type} (o : Out α) (Q : α → Hh → Prop) (E : Xk := NoE) : Prop := WpR o Q E
theorem wp_R {α : Type} {o : Out α} {Q : α → Hh → Prop} {E : Xk} : Wp o Q E = WpR o Q E := by unfold Wp; rfl
/-- the four ends of a block -/
structure Ez where
  nx : St → Hh → Prop
  rt : D → Hh → Prop
  bk : St → Hh → Prop := fun _ _ => False
  ct : St → Hh → Prop := fun _ _ => False
def WpSR (o : OutS) (Z : Ez) (X : XkS) : Prop := match o with
  | .nx st h => Z.nx st h
  | .rt d h => Z.rt d h
  | .bk st h => Z.bk st h
  | .ct st h => Z.ct st h
  | .exc c fs st h => X c fs st h
  | .fail => False
@[irreducible] def WpS (o : OutS) (Z : Ez) (X : XkS := NoX) : Prop := WpSR o Z X
theorem wps_R {o : OutS} {Z : Ez} {X : XkS} : WpS o Z X = WpSR o Z X := by unfold WpS; rfl
section
variable {α β : Type} {Q : α → Hh → Prop} {Z : Ez} {h h' h0 : Hh} {E : Xk} {X : XkS}
theorem wp_ok {a : α} : Wp (.ok a h) Q E = Q a h := wp_R
theorem wp_fail : Wp (.fail : Out α) Q E = False := wp_R
theorem wp_exc {c : Str} {d : List (Str × D)} : Wp (.exc c d h : Out α) Q E = E c d h := wp_R
theorem wp_bnd {o : Out β} {f : β → Hh → Out α} : Wp (bnd o f) Q E = Wp o (fun a h => Wp (f a h) Q E) E := by
  cases o with
  | ok a h => rw [wp_ok]; rfl
  | exc c d h => rw [wp_exc]; exact wp_exc
  | fail => rw [wp_fail]; exact wp_fail
theorem wp_bndF {o : Out β} {f : β → Hh → Out α} : Wp (bndF o f) Q E = Wp o (fun a h => Wp (f a h) Q E) NoE := by
  cases o with
  | ok a h => rw [wp_ok]; rfl
  | exc c d h => rw [wp_exc]; exact wp_fail
  | fail => rw [wp_fail]; exact wp_fail
theorem wp_if {c : Prop} [Decidable c] {o : Out α} : Wp (if c then o else .fail) Q E = (c ∧ Wp o Q E) := by
  by_cases hc : c
  · rw [if_pos hc]
    exact propext ⟨fun q => ⟨hc, q⟩, fun q => q.2⟩
  · rw [if_neg hc, wp_fail]
    exact propext ⟨fun q => q.elim, fun q => absurd q.1 hc⟩
theorem Wp.mono {o : Out α} {Q' : α → Hh → Prop} {E' : Xk} (p : Wp o Q' E') (k : ∀ a h, Q' a h → Q a h) (kx : ∀ c fs h, E' c fs h → E c fs h := by first | exact fun _ _ _ z => z | exact fun _ _ _ z => False.elim z) : Wp o Q E := by
  rw [wp_R] at p ⊢
  cases o with
  | ok a h => exact k a h p
  | exc c fs h => exact kx c fs h p
  | fail => exact p
theorem Wp.get {o : Out α} (p : Wp o Q) : ∃ a h, o = .ok a h ∧ Q a h := by
  rw [wp_R] at p
  cases o with
  | ok a h => exact ⟨a, h, rfl, p⟩
  | exc => exact p.elim
  | fail => exact p.elim
theorem Wp.of {o : Out α} {a : α} (e : o = .ok a h) (q : Q a h) : Wp o Q E := by
  rw [e, wp_ok]
  exact q
theorem wps_nx {st : St} : WpS (.nx st h) Z X = Z.nx st h := wps_R
theorem wps_rt {d : D} : WpS (.rt d h) Z X = Z.rt d h := wps_R
theorem wps_bk {st : St} : WpS (.bk st h) Z X = Z.bk st h := wps_R
theorem wps_ct {st : St} : WpS (.ct st h) Z X = Z.ct st h := wps_R
theorem wps_fail : WpS .fail Z X = False := wps_R
theorem wps_exc {c : Str} {d : List (Str × D)} {st : St} : WpS (.exc c d st h) Z X = X c d st h := wps_R
theorem wps_bnd {o : Out α} {f : α → Hh → OutS} {st : St} : WpS (bndS st o f) Z X = Wp o (fun a h => WpS (f a h) Z X) (Xat X st) := by
  cases o with
  | ok a h => rw [wp_ok]; rfl
  | exc c d h => rw [wp_exc]; exact wps_exc
  | fail => rw [wp_fail]; exact wps_fail
theorem wps_bndF {o : Out α} {f : α → Hh → OutS} : WpS (bndSF o f) Z X = Wp o (fun a h => WpS (f a h) Z X) NoE := by
  cases o with
  | ok a h => rw [wp_ok]; rfl
  | exc c d h => rw [wp_exc]; exact wps_fail
  | fail => rw [wp_fail]; exact wps_fail
theorem wps_then {o : OutS} {f : St → Hh → OutS} : WpS (thenS o f) Z X = WpS o ⟨fun st h => WpS (f st h) Z X, Z.rt, Z.bk, Z.ct⟩ X := by
  cases o with
  | nx st h => rw [wps_nx]; rfl
  | rt d h => rw [wps_rt]; exact wps_rt
  | bk d h => rw [wps_bk]; exact wps_bk
  | ct d h => rw [wps_ct]; exact wps_ct
  | exc c d st h => rw [wps_exc]; exact wps_exc
  | fail => rw [wps_fail]; exact wps_fail
theorem WpS.mono {o : OutS} {Z' : Ez} {X' : XkS} (p : WpS o Z' X') (k1 : ∀ a h, Z'.nx a h → Z.nx a h) (k2 : ∀ a h, Z'.rt a h → Z.rt a h) (k3 : ∀ a h, Z'.bk a h → Z.bk a h) (k4 : ∀ a h, Z'.ct a h → Z.ct a h) (kx : ∀ c fs st h, X' c fs st h → X c fs st h := by first | exact fun _ _ _ _ z => z | exact fun _ _ _ _ z => False.elim z) : WpS o Z X := by
  rw [wps_R] at p ⊢
  cases o with
  | nx a h => exact k1 a h p
  | rt a h => exact k2 a h p
  | bk a h => exact k3 a h p
  | ct a h => exact k4 a h p
  | exc c fs st h => exact kx c fs st h p
  | fail => exact p

/-! ### loops -/
theorem lc_inv {turn : D → Hh → Out (Option D)} {gs : Gd} (I : Nat → List D → Hh → Prop) {ds : List D} (step : ∀ (i : Nat) (d : D) (acc : List D) (h : Hh), ds[i]? = some d → I i acc h → still gs h ∧ Wp (turn d h) fun r h' => match r with
      | some v => acc.length < SZ ∧ I (i + 1) (acc ++ [v]) h'
      | none => I (i + 1) acc h') (fin : ∀ acc h, I ds.length acc h → still gs h) : ∀ (m i : Nat) (acc : List D) (h : Hh), i + m = ds.length → I i acc h → Wp (lcLoop turn gs (ds.drop i) acc h) (fun vs h' => I ds.length vs h') E
  | 0, i, acc, h, e, hI => by
    have e : i = ds.length := by omega
    subst e
    rw [List.drop_length]
    unfold lcLoop
    rw [if_pos (fin acc h hI), wp_ok]
    exact hI
  | m + 1, i, acc, h, e, hI => by
    have hi : i < ds.length := by omega
    rw [List.drop_eq_getElem_cons hi]
    unfold lcLoop
    obtain ⟨s, q⟩ := step i ds[i] acc h (List.getElem?_eq_getElem hi) hI
    rw [if_pos s, wp_bndF]
    refine q.mono fun r h' q => ?_
    cases r with
    | none => exact lc_inv I step fin m (i + 1) acc h' (by omega) q
    | some v =>
      show Wp (if acc.length < SZ then _ else .fail) _ _
      rw [wp_if]
      exact ⟨q.1, lc_inv I step fin m (i + 1) (acc ++ [v]) h' (by omega) q.2⟩
/-- from the start -/
theorem lc_run {turn : D → Hh → Out (Option D)} {gs : Gd} {ds : List D} (I : Nat → List D → Hh → Prop) (h0 : I 0 [] h) (step : ∀ (i : Nat) (d : D) (acc : List D) (h : Hh), ds[i]? = some d → I i acc h → still gs h ∧ Wp (turn d h) fun r h' => match r with
      | some v => acc.length < SZ ∧ I (i + 1) (acc ++ [v]) h'
      | none => I (i + 1) acc h') (fin : ∀ acc h, I ds.length acc h → still gs h) {Q : List D → Hh → Prop} (k : ∀ vs h', I ds.length vs h' → Q vs h') : Wp (lcLoop turn gs ds [] h) Q E :=
  (lc_inv (E := E) I step fin ds.length 0 [] h (by omega) h0).mono k
/-- turns that change nothing -/
theorem lc_pure {turn : D → Hh → Out (Option D)} {gs : Gd} {ds : List D} (f : D → D) (s : still gs h) (hl : ds.length ≤ SZ) (ht : ∀ d ∈ ds, turn d h = .ok (some (f d)) h) : lcLoop turn gs ds [] h = .ok (ds.map f) h := by
  obtain ⟨vs, h', e, q⟩ := (lc_run (h := h) (turn := turn) (gs := gs) (ds := ds) (fun i acc h' => acc = (ds.take i).map f ∧ h' = h) ⟨rfl, rfl⟩ (fun i d acc h' e ⟨ea, eh⟩ => by
    subst ea eh
    refine ⟨s, .of (ht d (List.mem_of_getElem? e)) ⟨?_, ?_, rfl⟩⟩
    · rw [List.length_map, List.length_take]
      have := (List.getElem?_eq_some_iff.mp e).1
      omega
    · rw [List.take_add_one, e]
      simp) (fun acc h' ⟨_, eh⟩ => by rw [eh]; exact s) (fun vs h' q => q)).get
  rw [e, q.1, q.2, List.take_length]
/-- .. with a test -/
theorem lc_filt {turn : D → Hh → Out (Option D)} {gs : Gd} {ds : List D} (f : D → Option D) (s : still gs h) (hl : ds.length ≤ SZ) (ht : ∀ d ∈ ds, turn d h = .ok (f d) h) : lcLoop turn gs ds [] h = .ok (ds.filterMap f) h := by
  obtain ⟨vs, h', e, q⟩ := (lc_run (h := h) (turn := turn) (gs := gs) (ds := ds) (fun i acc h' => acc = (ds.take i).filterMap f ∧ h' = h) ⟨rfl, rfl⟩ (fun i d acc h' e ⟨ea, eh⟩ => by
    subst ea eh
    refine ⟨s, .of (ht d (List.mem_of_getElem? e)) ?_⟩
    have hi := (List.getElem?_eq_some_iff.mp e).1
    have el : (ds.take (i + 1)).filterMap f = (ds.take i).filterMap f ++ (f d).toList := by
      rw [List.take_add_one, e, List.filterMap_append]
      cases efd : f d <;> simp [List.filterMap_cons, efd]
    cases efd : f d with
    | none =>
      rw [efd] at el
      exact ⟨by rw [el]; simp, rfl⟩
    | some v =>
      rw [efd] at el
      refine ⟨?_, by rw [el]; simp, rfl⟩
      have := List.length_filterMap_le f (ds.take i)
      rw [List.length_take] at this
      omega) (fun acc h' ⟨_, eh⟩ => by rw [eh]; exact s) (fun vs h' q => q)).get
  rw [e, q.1, q.2, List.take_length]
theorem for_inv {body : D → St → Hh → OutS} {gs : Gd} (I : Nat → St → Hh → Prop) {ds : List D} (step : ∀ (i : Nat) (d : D) (st : St) (h : Hh), ds[i]? = some d → I i st h → still gs h ∧ WpS (body d st h) ⟨I (i + 1), Z.rt, Z.nx, I (i + 1)⟩ X) (fin : ∀ st h, I ds.length st h → still gs h ∧ Z.nx st h) :
    ∀ (m i : Nat) (st : St) (h : Hh), i + m = ds.length → I i st h → WpS (forLoop body gs (ds.drop i) st h) Z X
  | 0, i, st, h, e, hI => by
    have e : i = ds.length := by omega
    subst e
    rw [List.drop_length]
    unfold forLoop
    rw [if_pos (fin st h hI).1, wps_nx]
    exact (fin st h hI).2
  | m + 1, i, st, h, e, hI => by
    have hi : i < ds.length := by omega
    rw [List.drop_eq_getElem_cons hi]
    unfold forLoop
    obtain ⟨s, q⟩ := step i ds[i] st h (List.getElem?_eq_getElem hi) hI
    rw [if_pos s]
    rw [wps_R] at q
    cases e : body ds[i] st h with
    | nx st' h' => rw [e] at q; exact for_inv I step fin m (i + 1) st' h' (by omega) q
    | ct st' h' => rw [e] at q; exact for_inv I step fin m (i + 1) st' h' (by omega) q
    | bk st' h' => rw [e] at q; rw [wps_nx]; exact q
    | rt d h' => rw [e] at q; rw [wps_rt]; exact q
    | exc => rw [e] at q; rw [wps_exc]; exact q
    | fail => rw [e] at q; exact q.elim
theorem for_run {body : D → St → Hh → OutS} {gs : Gd} {ds : List D} {st : St} (I : Nat → St → Hh → Prop) (h0 : I 0 st h) (step : ∀ (i : Nat) (d : D) (st : St) (h : Hh), ds[i]? = some d → I i st h → still gs h ∧ WpS (body d st h) ⟨I (i + 1), Z.rt, Z.nx, I (i + 1)⟩ X) (fin : ∀ st h, I ds.length st h → still gs h ∧ Z.nx st h) :
    WpS (forLoop body gs ds st h) Z X := for_inv I step fin ds.length 0 st h (by omega) h0
/-- a while, by a measure -/
theorem whl_run {test : St → Hh → Out Bool} {body : St → Hh → OutS} (I : Nat → St → Hh → Prop) (step : ∀ (m : Nat) (st : St) (h : Hh), I m st h → Wp (test st h) (fun b h1 => if b = true then WpS (body st h1) ⟨fun st h => ∃ j, j < m ∧ I j st h, Z.rt, Z.nx, fun st h => ∃ j, j < m ∧ I j st h⟩ X else Z.nx st h1) (Xat X st)) :
    ∀ (n m : Nat) (st : St) (h : Hh), m < n → I m st h → WpS (whlLoop test body n st h) Z X
  | 0, m, st, h, hn, hI => absurd hn (Nat.not_lt_zero _)
  | n + 1, m, st, h, hn, hI => by
    unfold whlLoop
    rw [wps_bnd]
    refine (step m st h hI).mono fun b h1 q => ?_
    cases b with
    | false =>
      rw [if_neg (by decide)] at q ⊢
      rw [wps_nx]
      exact q
    | true =>
      rw [if_pos rfl] at q ⊢
      rw [wps_R] at q
      cases e : body st h1 with
      | nx st' h' =>
        rw [e] at q
        obtain ⟨j, hj, q⟩ := q
        exact whl_run I step n j st' h' (by omega) q
      | ct st' h' =>
        rw [e] at q
        obtain ⟨j, hj, q⟩ := q
        exact whl_run I step n j st' h' (by omega) q
      | bk st' h' => rw [e] at q; rw [wps_nx]; exact q
      | rt d h' => rw [e] at q; rw [wps_rt]; exact q
      | exc => rw [e] at q; rw [wps_exc]; exact q
      | fail => rw [e] at q; exact q.elim

/-! ### calls -/
mutual
theorem low_mono {m n : Nat} (hmn : m ≤ n) : ∀ (d : D), low m d = true → low n d = true
  | .non, _ => rfl
  | .bl _, _ => rfl
  | .int _, _ => rfl
  | .str _, _ => rfl
  | .tup ds, h => lows_mono hmn ds h
  | .rl ds, h => lows_mono hmn ds h
  | .fnv, _ => rfl
  | .ref k, h => decide_eq_true (Nat.lt_of_lt_of_le (of_decide_eq_true h) hmn)
theorem lows_mono {m n : Nat} (hmn : m ≤ n) : ∀ (ds : List D), lows m ds = true → lows n ds = true
  | [], _ => rfl
  | d :: ds, h => by
    unfold lows at h ⊢
    rw [Bool.and_eq_true] at h ⊢
    exact ⟨low_mono hmn d h.1, lows_mono hmn ds h.2⟩
end
theorem lows_iff {n : Nat} : ∀ {ds : List D}, lows n ds = true ↔ ∀ d ∈ ds, low n d = true
  | [] => by simp [lows]
  | d :: ds => by
    unfold lows
    rw [Bool.and_eq_true, lows_iff, List.forall_mem_cons]
/-- all but the places ks is as it was -/
def Fr (ks : List Nat) (h h' : Hh) : Prop := h.length ≤ h'.length ∧ ∀ j, j < h.length → j ∉ ks → h'[j]? = h[j]?
theorem Fr.refl {ks : List Nat} : Fr ks h h := ⟨Nat.le_refl _, fun _ _ _ => rfl⟩
theorem Fr.trans {ks : List Nat} {h2 : Hh} (a : Fr ks h h') (b : Fr ks h' h2) : Fr ks h h2 := ⟨Nat.le_trans a.1 b.1, fun j hj hk => (b.2 j (Nat.lt_of_lt_of_le hj a.1) hk).trans (a.2 j hj hk)⟩
theorem Fr.set {ks : List Nat} {k : Nat} {o : O} (a : Fr ks h h') (hk : k ∈ ks ∨ h.length ≤ k) : Fr ks h (h'.set k o) := by
  refine ⟨by rw [List.length_set]; exact a.1, fun j hj hn => ?_⟩
  rw [List.getElem?_set_ne]
  · exact a.2 j hj hn
  · rcases hk with hk | hk
    · exact fun e => hn (by rw [← e]; exact hk)
    · omega
theorem Fr.push {ks : List Nat} {x : Hh} (a : Fr ks h h') : Fr ks h (h' ++ x) := by
  refine ⟨by rw [List.length_append]; have := a.1; omega, fun j hj hn => ?_⟩
  rw [List.getElem?_append_left (Nat.lt_of_lt_of_le hj a.1)]
  exact a.2 j hj hn
theorem Fr.get {ks : List Nat} {j : Nat} {o : O} (a : Fr ks h h') (e : h[j]? = some o) (hn : j ∉ ks) : h'[j]? = some o := by rw [a.2 j (List.getElem?_eq_some_iff.mp e).1 hn, e]
theorem okTo_of : ∀ {n : Nat} {h0 h : Hh}, (∀ (j : Nat) (o : O), h0[j]? = some o → ∃ p : O, h[j]? = some p ∧ (o = p ∨ lowO n p = true)) → okTo n h0 h = true
  | n, [], _, _ => by unfold okTo; rfl
  | n, a :: as, [], k => by
    obtain ⟨p, e, _⟩ := k 0 a rfl
    cases e
  | n, a :: as, b :: bs, k => by
    unfold okTo
    rw [Bool.and_eq_true, Bool.or_eq_true, decide_eq_true_eq]
    refine ⟨?_, okTo_of fun j o e => k (j + 1) o e⟩
    obtain ⟨p, e, q⟩ := k 0 a rfl
    cases e
    exact q
theorem Fr.okTo {n : Nat} {ks : List Nat} (a : Fr ks h h') (hk : ∀ k ∈ ks, ∀ o, h'[k]? = some o → lowO n o = true) : okTo n h h' = true := okTo_of fun j o e => by
  have hj := (List.getElem?_eq_some_iff.mp e).1
  by_cases hn : j ∈ ks
  · obtain ⟨p, ep⟩ : ∃ p, h'[j]? = some p := ⟨_, List.getElem?_eq_getElem (Nat.lt_of_lt_of_le hj a.1)⟩
    exact ⟨p, ep, .inr (hk j hn p ep)⟩
  · exact ⟨o, by rw [a.2 j hj hn]; exact e, .inl rfl⟩
/-- a value of no new things -/
theorem gc_low {d : D} {ks : List Nat} (a : Fr ks h h') (hk : ∀ k ∈ ks, ∀ o, h'[k]? = some o → lowO h.length o = true) (hd : low h.length d = true) : gc h.length h d h' = .ok d (h'.take h.length) := by
  unfold gc
  rw [if_pos (a.okTo hk), if_pos hd]
/-- a new object alone -/
theorem gc_new {j : Nat} {o : O} {ks : List Nat} (a : Fr ks h h') (hk : ∀ k ∈ ks, ∀ o, h'[k]? = some o → lowO h.length o = true) (hj : h.length ≤ j) (ej : h'[j]? = some o) (ho : lowO h.length o = true) : gc h.length h (.ref j) h' = .ok (.ref h.length) (h'.take h.length ++ [o]) := by
  unfold gc
  rw [if_pos (a.okTo hk), if_neg (by unfold low; simp; omega)]
  simp only [ej, if_pos ho]
theorem Fr.take0 (a : Fr [] h h') : h'.take h.length = h := by
  apply List.ext_getElem?
  intro j
  rw [List.getElem?_take]
  split
  · rename_i hj
    exact a.2 j hj (by simp)
  · rename_i hj
    rw [List.getElem?_eq_none (by omega)]
theorem Fr.take1 {k : Nat} {o : O} (a : Fr [k] h h') (hk : k < h.length) (e : h'[k]? = some o) : h'.take h.length = h.set k o := by
  apply List.ext_getElem?
  intro j
  rw [List.getElem?_take]
  split
  · rename_i hj
    by_cases z : k = j
    · subst z
      rw [List.getElem?_set_self hj, e]
    · rw [List.getElem?_set_ne z]
      exact a.2 j hj (by simp only [List.mem_singleton]; exact fun q => z q.symm)
  · rename_i hj
    rw [List.getElem?_eq_none (by rw [List.length_set]; omega)]
/-- the ends of a def's body: what is forgotten, then Q -/
def EndC (h : Hh) (Q : D → Hh → Prop) (E : Xk := NoE) : Ez := ⟨fun _ h' => Wp (gc h.length h .non h') Q E, fun d h' => Wp (gc h.length h d h') Q E, fun _ _ => False, fun _ _ => False⟩
theorem endC_nx {Q : D → Hh → Prop} {st : St} : (EndC h Q E).nx st h' = Wp (gc h.length h .non h') Q E := id rfl
theorem endC_rt {Q : D → Hh → Prop} {d : D} : (EndC h Q E).rt d h' = Wp (gc h.length h d h') Q E := id rfl
/-- .. of a def that raises -/
def EndX (h : Hh) (E : Xk) : XkS := fun c fs _ h' => Wp (gcx h.length h c fs h' : Out D) (fun _ _ => False) E
theorem gcx_low {c : Str} {fs : List (Str × D)} {ks : List Nat} (a : Fr ks h h') (hk : ∀ k ∈ ks, ∀ o, h'[k]? = some o → lowO h.length o = true) (hd : (fs.all fun p => low h.length p.2) = true) : (gcx h.length h c fs h' : Out α) = .exc c fs (h'.take h.length) := by
  unfold gcx
  rw [a.okTo hk, hd]
  rfl
theorem endX_low {c : Str} {fs : List (Str × D)} {ks : List Nat} {st : St} (a : Fr ks h h') (hk : ∀ k ∈ ks, ∀ o, h'[k]? = some o → lowO h.length o = true) (hd : (fs.all fun p => low h.length p.2) = true) (q : E c fs (h'.take h.length)) : EndX h E c fs st h' := by
  show Wp _ _ E
  rw [gcx_low a hk hd, wp_exc]
  exact q
/-- .. of a def that changes nothing and gives v -/
def EndV (h : Hh) (v : D) : Ez := ⟨fun _ h' => Fr [] h h' ∧ D.non = v, fun d h' => Fr [] h h' ∧ d = v, fun _ _ => False, fun _ _ => False⟩
theorem endV_nx {v : D} {st : St} : (EndV h v).nx st h' = (Fr [] h h' ∧ D.non = v) := id rfl
theorem endV_rt {v d : D} : (EndV h v).rt d h' = (Fr [] h h' ∧ d = v) := id rfl
theorem gcO_end {Q : D → Hh → Prop} {o : OutS} (hw : WpS o (EndC h Q E) (EndX h E)) : Wp (gcO h.length h (endS o)) Q E := by
  rw [wps_R] at hw
  cases o with
  | nx st h' => exact hw
  | rt d h' => exact hw
  | bk => exact hw.elim
  | ct => exact hw.elim
  | exc c fs st h' =>
    refine Wp.mono (show Wp (gcx h.length h c fs h') (fun _ _ => False) E from hw) (fun _ _ z => z.elim) (fun _ _ _ z => z)
  | fail => exact hw.elim
/-- a call that may raise: its body, then what is forgotten -/
theorem call_ofX {T : Tb} {n : Nat} {f : Str} {fn : Fn} {ds : List D} {Q : D → Hh → Prop} (lk : T.lookup f = some fn) (hl : (full fn ds).length = fn.ps)
    (hw : WpS (exSs (callF T n) fn.body (start fn.ns (full fn ds)) h) (EndC h Q E) (EndX h E)) (nl : fn.lam = none := by rfl) : Wp (callF T (n + 1) f ds h) Q E := by
  unfold callF
  rw [lk]
  simp only [nl]
  rw [wp_if]
  exact ⟨hl, gcO_end hw⟩
/-- a call: its body, then what is forgotten -/
theorem call_of {T : Tb} {n : Nat} {f : Str} {fn : Fn} {ds : List D} {Q : D → Hh → Prop} (lk : T.lookup f = some fn) (hl : (full fn ds).length = fn.ps)
    (hw : WpS (exSs (callF T n) fn.body (start fn.ns (full fn ds)) h) (EndC h Q)) (nl : fn.lam = none := by rfl) : Wp (callF T (n + 1) f ds h) Q E :=
  call_ofX lk hl (hw.mono (fun _ _ q => Wp.mono q (fun _ _ z => z) (fun _ _ _ z => False.elim z)) (fun _ _ q => Wp.mono q (fun _ _ z => z) (fun _ _ _ z => False.elim z)) (fun _ _ z => z) (fun _ _ z => z)) nl
/-- a call of a def that holds the lambda l -/
theorem call_lam {T : Tb} {n : Nat} {f l : Str} {fn : Fn} {ds : List D} {Q : D → Hh → Prop} (lk : T.lookup f = some fn) (el : fn.lam = some l) (hl : fn.ps ≤ ds.length ∧ lows 0 (ds.drop fn.ps) = true)
    (hw : WpS (exSs (hofF (callF T n) l (ds.drop fn.ps)) fn.body (start fn.ns (ds.take fn.ps ++ [.fnv])) h) (EndC h Q)) : Wp (callF T (n + 1) f ds h) Q E := by
  unfold callF
  rw [lk]
  simp only [el]
  rw [wp_if]
  exact ⟨hl, gcO_end (hw.mono (fun _ _ q => Wp.mono q (fun _ _ z => z) (fun _ _ _ z => False.elim z)) (fun _ _ q => Wp.mono q (fun _ _ z => z) (fun _ _ _ z => False.elim z)) (fun _ _ z => z) (fun _ _ z => z))⟩
/-- a call that changes nothing -/
theorem call_pure {T : Tb} {n : Nat} {f : Str} {fn : Fn} {ds : List D} {v : D} (lk : T.lookup f = some fn) (hl : (full fn ds).length = fn.ps) (hv : low h.length v = true)
    (hw : WpS (exSs (callF T n) fn.body (start fn.ns (full fn ds)) h) (EndV h v)) (nl : fn.lam = none := by rfl) : callF T (n + 1) f ds h = .ok v h := by
  have key : ∀ d h', Fr [] h h' ∧ d = v → Wp (gc h.length h d h') fun d h' => d = v ∧ h' = h := fun d h' ⟨a, e⟩ => by
    subst e
    rw [gc_low a (by simp) hv, wp_ok]
    exact ⟨rfl, a.take0⟩
  obtain ⟨d, h', e, q1, q2⟩ := (call_of (h := h) (Q := fun d h' => d = v ∧ h' = h) (E := NoE) lk hl (hw.mono (fun _ h' q => key _ h' q) (fun d h' q => key d h' q) (fun _ _ q => q.elim) (fun _ _ q => q.elim)) nl).get
  rw [e, q1, q2]

/-! ### places -/
theorem atI_nat {xs : List β} {i : Int} {k : Nat} {x : β} (hi : i = (k : Int)) (e : xs[k]? = some x) : L2.atI xs i = some x := by
  subst hi
  unfold L2.atI L2.ixN
  have := (List.getElem?_eq_some_iff.mp e).1
  rw [if_pos (by omega), if_pos (by omega)]
  simpa using e
theorem ixN_nat {n k : Nat} {i : Int} (hi : i = (k : Int)) (hk : k < n) : L2.ixN n i = some k := by
  subst hi
  unfold L2.ixN
  rw [if_pos (by omega), if_pos (by omega)]
  simp
theorem okMul_l {i j : Int} (h1 : -18446744073709551616 < i) (h2 : i < 18446744073709551616) : okMul i j = true := by
  unfold okMul
  rw [Bool.or_eq_true, Bool.and_eq_true, decide_eq_true_eq, decide_eq_true_eq]
  exact .inl ⟨by simpa using h1, by simpa using h2⟩
theorem okMul_r {i j : Int} (h1 : -18446744073709551616 < j) (h2 : j < 18446744073709551616) : okMul i j = true := by
  unfold okMul
  rw [Bool.or_eq_true, Bool.and_eq_true, Bool.and_eq_true, decide_eq_true_eq, decide_eq_true_eq, decide_eq_true_eq, decide_eq_true_eq]
  exact .inr ⟨by simpa using h1, by simpa using h2⟩
end
end Py
/-! Core, part R: steps of reckoning. -/
namespace Py
open PySem
def lstO : Option O → Option (List D)
  | some (.lst ds) => some ds
  | _ => none
def itO (k : Nat) : Option O → Option (List D × Gd)
  | some (.lst ds) => some (ds, [(k, .lst ds)])
  | _ => none
def truR : Option O → Option Bool
  | some (.lst ds) => some (!ds.isEmpty)
  | _ => none
def tagR : Option O → Option Tg
  | some (.lst _) => some .lst
  | some (.dct _) => some .dct
  | some (.dcn _) => some .dct
  | _ => none
def lenO (o : Option (List D)) (h : Hh) : Out RV := match o with
  | some ds => .ok (.val (.int ds.length)) h
  | none => .fail
def tupO (o : Option (List D)) (h : Hh) : Out RV := match o with
  | some ds => .ok (.val (.tup ds)) h
  | none => .fail
def lisO (o : Option (List D)) (h : Hh) : Out RV := match o with
  | some ds => .ok (.raw ds) h
  | none => .fail
def catO (a b : Option (List D)) (h : Hh) : Out RV := match a, b with
  | some a, some b => if a.length + b.length ≤ 16777216 then .ok (.raw (a ++ b)) h else .fail
  | _, _ => .fail
def ixO (o : Option D) (h : Hh) : Out RV := match o with
  | some d => .ok (.val d) h
  | none => .fail
def sqO (o : Option (List D)) (i : Int) (h : Hh) : Out RV := match o with
  | some ds => ixO (L2.atI ds i) h
  | none => .fail
def appO (o : Option (List D)) (k : Nat) (d : D) (h : Hh) : Out RV := match o with
  | some ds => if ds.length < 16777216 then .ok (.val .non) (h.set k (.lst (ds ++ [d]))) else .fail
  | none => .fail
def maxO (o : Option (List Int)) (h : Hh) : Out RV := match o with
  | some (n :: ns) => .ok (.val (.int (maxI (n :: ns)))) h
  | _ => .fail
def minO (o : Option (List Int)) (h : Hh) : Out RV := match o with
  | some (n :: ns) => .ok (.val (.int (minI (n :: ns)))) h
  | _ => .fail
def sumO (o : Option (List Int)) (h : Hh) : Out RV := match o with
  | some ns => .ok (.val (.int ns.sum)) h
  | none => .fail
def allO (o : Option (List Bool)) (h : Hh) : Out RV := match o with
  | some bs => .ok (.val (.bl (bs.all id))) h
  | none => .fail
def anyO (o : Option (List Bool)) (h : Hh) : Out RV := match o with
  | some bs => .ok (.val (.bl (bs.any id))) h
  | none => .fail
def bI (o : Option (List D)) : Option (List Int) := o.bind asInts
def bB (o : Option (List D)) : Option (List Bool) := o.bind asBls
def slcO (o : Option (List D)) (lo hi : Option Int) (h : Hh) : Out RV := match o with
  | some ds => .ok (.raw (cut ds lo hi)) h
  | none => .fail
def m0O (m : M0) (o : Option (List D)) (k : Nat) (h : Hh) : Out RV := match o, m with
  | some ds, .pop => (match ds[ds.length - 1]? with
    | some d => .ok (.val d) (h.set k (.lst ds.dropLast))
    | none => .fail)
  | some ds, .rev => .ok (.val .non) (h.set k (.lst ds.reverse))
  | some _, .clr => .ok (.val .non) (h.set k (.lst []))
  | none, _ => .fail
section
variable {α β : Type} {h : Hh} {i j : Int} {a b d : D} {l ds es : List D} {k m : Nat} {c : Prop} {x y : RV} {t : Bool}
theorem lstO_ : lstO (some (.lst ds)) = some ds := id rfl
theorem itO_ : itO k (some (.lst ds)) = some (ds, [(k, .lst ds)]) := id rfl
theorem truR_ : truR (some (.lst ds)) = some (!ds.isEmpty) := id rfl
theorem tagR_ : tagR (some (.lst ds)) = some .lst := id rfl
theorem tagR_s {kvs : List (D × D)} : tagR (some (.dct kvs)) = some .dct := id rfl
theorem tagR_n {kvs : List (D × D)} : tagR (some (.dcn kvs)) = some .dct := id rfl
def lenR (o : Option O) (h : Hh) : Out RV := match o with
  | some (.lst ds) => .ok (.val (.int ds.length)) h
  | some (.dct kvs) => .ok (.val (.int kvs.length)) h
  | some (.dcn kvs) => .ok (.val (.int kvs.length)) h
  | _ => .fail
theorem lenR_l : lenR (some (.lst ds)) h = .ok (.val (.int ds.length)) h := id rfl
theorem lenR_s {kvs : List (D × D)} : lenR (some (.dct kvs)) h = .ok (.val (.int kvs.length)) h := id rfl
theorem lenR_n {kvs : List (D × D)} : lenR (some (.dcn kvs)) h = .ok (.val (.int kvs.length)) h := id rfl
/-- a dict's entries, by what stands there -/
def dctO : Option O → Option (List (D × D))
  | some (.dct kvs) => some kvs
  | some (.dcn kvs) => some kvs
  | _ => none
theorem lenO_ : lenO (some ds) h = .ok (.val (.int ds.length)) h := id rfl
theorem tupO_ : tupO (some ds) h = .ok (.val (.tup ds)) h := id rfl
theorem lisO_ : lisO (some ds) h = .ok (.raw ds) h := id rfl
theorem catO_ : catO (some ds) (some es) h = if ds.length + es.length ≤ 16777216 then .ok (.raw (ds ++ es)) h else .fail := id rfl
theorem ixO_ : ixO (some d) h = .ok (.val d) h := id rfl
theorem sqO_ : sqO (some ds) i h = ixO (L2.atI ds i) h := id rfl
theorem appO_ : appO (some ds) k d h = if ds.length < 16777216 then .ok (.val .non) (h.set k (.lst (ds ++ [d]))) else .fail := id rfl
theorem maxO_ {n : Int} {ns : List Int} : maxO (some (n :: ns)) h = .ok (.val (.int (maxI (n :: ns)))) h := id rfl
theorem minO_ {n : Int} {ns : List Int} : minO (some (n :: ns)) h = .ok (.val (.int (minI (n :: ns)))) h := id rfl
theorem sumO_ {ns : List Int} : sumO (some ns) h = .ok (.val (.int ns.sum)) h := id rfl
theorem allO_ {bs : List Bool} : allO (some bs) h = .ok (.val (.bl (bs.all id))) h := id rfl
theorem anyO_ {bs : List Bool} : anyO (some bs) h = .ok (.val (.bl (bs.any id))) h := id rfl
theorem bI_ : bI (some ds) = asInts ds := id rfl
theorem bB_ : bB (some ds) = asBls ds := id rfl
theorem slcO_ {lo hi : Option Int} : slcO (some ds) lo hi h = .ok (.raw (cut ds lo hi)) h := id rfl
theorem push_at {o : O} : (h ++ [o])[h.length]? = some o := by rw [List.getElem?_append_right (Nat.le_refl _), Nat.sub_self]; rfl
/-! operators -/
theorem r_add : opBin .Add (.val (.int i)) (.val (.int j)) h = .ok (.val (.int (i + j))) h := id rfl
theorem r_sub : opBin .Sub (.val (.int i)) (.val (.int j)) h = .ok (.val (.int (i - j))) h := id rfl
theorem r_mul : opBin .Mult (.val (.int i)) (.val (.int j)) h = if okMul i j = true then .ok (.val (.int (i * j))) h else .fail := id rfl
theorem r_mod : opBin .Mod (.val (.int i)) (.val (.int j)) h = if 0 < j then .ok (.val (.int (i % j))) h else .fail := id rfl
theorem r_div : opBin .FloorDiv (.val (.int i)) (.val (.int j)) h = if 0 < j ∧ j < 1073741824 then .ok (.val (.int (i / j))) h else .fail := id rfl
theorem r_pow : opBin .Pow (.val (.int i)) (.val (.int j)) h = if 0 ≤ j ∧ j ≤ 1000000 ∧ i.natAbs < 2 ^ 64 then .ok (.val (.int (i ^ j.toNat))) h else .fail := id rfl
theorem r_tmul : opBin .Mult (.val (.tup ds)) (.val (.int i)) h = if ds ≠ [] ∧ 0 ≤ i ∧ i ≤ 1000 ∧ ds.length ≤ 1000 then .ok (.val (.tup (List.replicate i.toNat ds).flatten)) h else .fail := id rfl
theorem r_cat : opBin .Add (.val (.tup ds)) (.val (.tup es)) h = if ds.length + es.length ≤ 16777216 then .ok (.val (.tup (ds ++ es))) h else .fail := id rfl
theorem r_catrr : opBin .Add (.raw ds) (.raw es) h = catO (some ds) (some es) h := id rfl
theorem r_catkr : opBin .Add (.val (.ref k)) (.raw es) h = catO (lstO h[k]?) (some es) h := by
  simp only [opBin, lstOf]
  cases h[k]? with
  | none => rfl
  | some o => cases o <;> rfl
theorem r_catrk : opBin .Add (.raw ds) (.val (.ref k)) h = catO (some ds) (lstO h[k]?) h := by
  simp only [opBin, lstOf]
  cases h[k]? with
  | none => rfl
  | some o => cases o <;> rfl
theorem r_catkk : opBin .Add (.val (.ref k)) (.val (.ref m)) h = catO (lstO h[k]?) (lstO h[m]?) h := by
  simp only [opBin, lstOf]
  cases h[k]? with
  | none => rfl
  | some o => cases o with
    | dct => rfl
    | dcn => rfl
    | xc => rfl
    | lst => cases h[m]? with
      | none => rfl
      | some o => cases o <;> rfl
def repO : Option (List D) → Int → Hh → Out RV
  | some a, k, h => if -(2 ^ 63) ≤ k ∧ k < 2 ^ 63 ∧ a.length * k.toNat ≤ SZ then .ok (.raw (List.replicate k.toNat a).flatten) h else .fail
  | none, _, _ => .fail
theorem r_rmul : opBin .Mult (.raw ds) (.val (.int i)) h = repO (some ds) i h := id rfl
theorem r_kmul : opBin .Mult (.val (.ref k)) (.val (.int i)) h = repO (lstO h[k]?) i h := by
  simp only [opBin, lstOf]
  cases h[k]? with
  | none => rfl
  | some o => cases o <;> rfl
theorem repO_ : repO (some ds) i h = if -(2 ^ 63) ≤ i ∧ i < 2 ^ 63 ∧ ds.length * i.toNat ≤ SZ then .ok (.raw (List.replicate i.toNat ds).flatten) h else .fail := id rfl
theorem r_lt : opCmp .Lt (.val (.int i)) (.val (.int j)) h = .ok (.val (.bl (decide (i < j)))) h := id rfl
theorem r_le : opCmp .LtE (.val (.int i)) (.val (.int j)) h = .ok (.val (.bl (decide (i ≤ j)))) h := id rfl
theorem r_gt : opCmp .Gt (.val (.int i)) (.val (.int j)) h = .ok (.val (.bl (decide (j < i)))) h := id rfl
theorem r_ge : opCmp .GtE (.val (.int i)) (.val (.int j)) h = .ok (.val (.bl (decide (j ≤ i)))) h := id rfl
theorem eqv_int : PyData.eqv (.int i) (.int j) = decide (i = j) := by
  unfold PyData.eqv
  first | rfl | (by_cases e : i = j <;> simp [e])
theorem r_eq : opCmp .Eq (.val (.int i)) (.val (.int j)) h = .ok (.val (.bl (decide (i = j)))) h := by
  show Out.ok (RV.val (.bl (PyData.eqv (.int i) (.int j)))) h = _
  rw [eqv_int]
theorem r_ne : opCmp .NotEq (.val (.int i)) (.val (.int j)) h = .ok (.val (.bl (!decide (i = j)))) h := by
  show Out.ok (RV.val (.bl (!PyData.eqv (.int i) (.int j)))) h = _
  rw [eqv_int]
theorem r_is : opCmp .Is (.val a) (.val .non) h = .ok (.val (.bl (decide (a = .non)))) h := by cases a <;> rfl
theorem r_isn : opCmp .IsNot (.val a) (.val .non) h = .ok (.val (.bl (!decide (a = .non)))) h := by cases a <;> rfl
/-! places -/
/-- what stands at a place, asked by a value -/
def ixK : Bool → Option D → Hh → Out RV
  | true, some d, h => .ok (.val d) h
  | _, _, _ => .fail
def ixRef : Option O → D → Hh → Out RV
  | some (.lst ds), .int i, h => ixO (L2.atI ds i) h
  | some (.dct kvs), d, h => ixK (isLeaf d) (dlook kvs d) h
  | some (.dcn kvs), d, h => ixK (isKey d) (dlook kvs d) h
  | _, _, _ => .fail
theorem ixK_t {d : D} : ixK true (some d) h = .ok (.val d) h := id rfl
theorem ixRef_l : ixRef (some (.lst ds)) (.int i) h = ixO (L2.atI ds i) h := id rfl
theorem ixRef_s {kvs : List (D × D)} {d : D} : ixRef (some (.dct kvs)) d h = ixK (isLeaf d) (dlook kvs d) h := by cases d <;> rfl
theorem ixRef_n {kvs : List (D × D)} {d : D} : ixRef (some (.dcn kvs)) d h = ixK (isKey d) (dlook kvs d) h := by cases d <;> rfl
theorem leaf_i : isLeaf (.int i) = true := id rfl
theorem leaf_s {x : Str} : isLeaf (.str x) = true := id rfl
theorem r_ixk {d : D} : opIx (.val (.ref k)) (.val d) h = ixRef h[k]? d h := by
  simp only [opIx, dOf]
  cases e : h[k]? with
  | none => cases d <;> simp only [seqOf, e, ixRef]
  | some o => cases o with
    | dct kvs =>
      simp only [okKey, Bool.false_eq_true, if_false]
      rw [ixRef_s]
      cases isLeaf d with
      | true => rw [if_pos rfl]; cases dlook kvs d <;> rfl
      | false => rw [if_neg Bool.false_ne_true]; rfl
    | dcn kvs =>
      simp only [okKey, if_true]
      rw [ixRef_n]
      cases isKey d with
      | true => rw [if_pos rfl]; cases dlook kvs d <;> rfl
      | false => rw [if_neg Bool.false_ne_true]; rfl
    | xc c fs => cases d <;> simp only [seqOf, e, ixRef]
    | lst ds => cases d <;> simp only [seqOf, e, ixRef, ixO] <;> rfl
theorem r_ixt : opIx (.val (.tup ds)) (.val (.int i)) h = ixO (L2.atI ds i) h := id rfl
theorem r_ixl : opIx (.val (.rl ds)) (.val (.int i)) h = ixO (L2.atI ds i) h := id rfl
theorem r_ixr : opIx (.raw ds) (.val (.int i)) h = ixO (L2.atI ds i) h := id rfl
theorem ix20 : L2.ixN 2 0 = some 0 := id rfl
theorem ix21 : L2.ixN 2 1 = some 1 := id rfl
theorem at0 {x : β} {l : List β} : L2.atI (x :: l) 0 = some x := atI_nat (k := 0) rfl rfl
theorem at1 {x y : β} {l : List β} : L2.atI (x :: y :: l) 1 = some y := atI_nat (k := 1) rfl rfl
theorem at2 {x y z : β} {l : List β} : L2.atI (x :: y :: z :: l) 2 = some z := atI_nat (k := 2) rfl rfl
theorem at3 {x y z w : β} {l : List β} : L2.atI (x :: y :: z :: w :: l) 3 = some w := atI_nat (k := 3) rfl rfl
theorem at4 {x y z w v : β} {l : List β} : L2.atI (x :: y :: z :: w :: v :: l) 4 = some v := atI_nat (k := 4) rfl rfl
/-! truth -/
theorem t_non : tru h (.val .non) = some false := id rfl
theorem t_bl : tru h (.val (.bl t)) = some t := id rfl
theorem t_int : tru h (.val (.int i)) = some (i != 0) := id rfl
theorem t_tup : tru h (.val (.tup ds)) = some (!ds.isEmpty) := id rfl
theorem t_raw : tru h (.raw ds) = some (!ds.isEmpty) := id rfl
theorem t_rl : tru h (.val (.rl ds)) = some (!ds.isEmpty) := id rfl
theorem t_ref : tru h (.val (.ref k)) = truR h[k]? := by
  simp only [tru]
  cases h[k]? with
  | none => rfl
  | some o => cases o <;> rfl
/-! sequences -/
theorem s_ref : seqOf h (.val (.ref k)) = lstO h[k]? := by
  simp only [seqOf]
  cases h[k]? with
  | none => rfl
  | some o => cases o <;> rfl
theorem s_tup : seqOf h (.val (.tup ds)) = some ds := id rfl
theorem s_rl : seqOf h (.val (.rl ds)) = some ds := id rfl
theorem s_raw : seqOf h (.raw ds) = some ds := id rfl
theorem l_ref : lstOf h (.val (.ref k)) = lstO h[k]? := by
  simp only [lstOf]
  cases h[k]? with
  | none => rfl
  | some o => cases o <;> rfl
theorem l_raw : lstOf h (.raw ds) = some ds := id rfl
theorem ls_ref : lsOf h (.val (.ref k)) = lstO h[k]? := by
  simp only [lsOf]
  cases h[k]? with
  | none => rfl
  | some o => cases o <;> rfl
theorem ls_raw : lsOf h (.raw ds) = some ds := id rfl
theorem ls_rl : lsOf h (.val (.rl ds)) = some ds := id rfl
theorem i_ref : itSeq (.val (.ref k)) h = itO k h[k]? := by
  simp only [itSeq]
  cases h[k]? with
  | none => rfl
  | some o => cases o <;> rfl
theorem i_tup : itSeq (.val (.tup ds)) h = some (ds, []) := id rfl
theorem i_rl : itSeq (.val (.rl ds)) h = some (ds, []) := id rfl
theorem i_raw : itSeq (.raw ds) h = some (ds, []) := id rfl
theorem still_nil : still [] h := fun _ z => by simp at z
theorem still_one (e : h[k]? = some (.lst ds)) : still [(k, .lst ds)] h := fun p z => by
  rw [List.mem_singleton.mp z]
  exact e
/-! sorts -/
theorem g_non : tagOf h (.val .non) = some .non := id rfl
theorem g_bl : tagOf h (.val (.bl t)) = some .bl := id rfl
theorem g_int : tagOf h (.val (.int i)) = some .int := id rfl
theorem g_str {z : Str} : tagOf h (.val (.str z)) = some .str := id rfl
theorem g_tup : tagOf h (.val (.tup ds)) = some .tup := id rfl
theorem g_raw : tagOf h (.raw ds) = some .lst := id rfl
theorem g_ref : tagOf h (.val (.ref k)) = tagR h[k]? := by
  simp only [tagOf]
  cases h[k]? with
  | none => rfl
  | some o => cases o <;> rfl
theorem is_non_int : isi .non .int = false := id rfl
theorem is_non_bool : isi .non .bool = false := id rfl
theorem is_non_tuple : isi .non .tuple = false := id rfl
theorem is_non_list : isi .non .list = false := id rfl
theorem is_non_str : isi .non .str = false := id rfl
theorem is_non_dict : isi .non .dict = false := id rfl
theorem is_bl_int : isi .bl .int = true := id rfl
theorem is_bl_bool : isi .bl .bool = true := id rfl
theorem is_bl_tuple : isi .bl .tuple = false := id rfl
theorem is_bl_list : isi .bl .list = false := id rfl
theorem is_bl_str : isi .bl .str = false := id rfl
theorem is_bl_dict : isi .bl .dict = false := id rfl
theorem is_int_int : isi .int .int = true := id rfl
theorem is_int_bool : isi .int .bool = false := id rfl
theorem is_int_tuple : isi .int .tuple = false := id rfl
theorem is_int_list : isi .int .list = false := id rfl
theorem is_int_str : isi .int .str = false := id rfl
theorem is_int_dict : isi .int .dict = false := id rfl
theorem is_str_int : isi .str .int = false := id rfl
theorem is_str_bool : isi .str .bool = false := id rfl
theorem is_str_tuple : isi .str .tuple = false := id rfl
theorem is_str_list : isi .str .list = false := id rfl
theorem is_str_str : isi .str .str = true := id rfl
theorem is_str_dict : isi .str .dict = false := id rfl
theorem is_tup_int : isi .tup .int = false := id rfl
theorem is_tup_bool : isi .tup .bool = false := id rfl
theorem is_tup_tuple : isi .tup .tuple = true := id rfl
theorem is_tup_list : isi .tup .list = false := id rfl
theorem is_tup_str : isi .tup .str = false := id rfl
theorem is_tup_dict : isi .tup .dict = false := id rfl
theorem is_dct_int : isi .dct .int = false := id rfl
theorem is_dct_bool : isi .dct .bool = false := id rfl
theorem is_dct_tuple : isi .dct .tuple = false := id rfl
theorem is_dct_list : isi .dct .list = false := id rfl
theorem is_dct_dict : isi .dct .dict = true := id rfl
theorem is_lst_int : isi .lst .int = false := id rfl
theorem is_lst_bool : isi .lst .bool = false := id rfl
theorem is_lst_tuple : isi .lst .tuple = false := id rfl
theorem is_lst_list : isi .lst .list = true := id rfl
theorem is_lst_str : isi .lst .str = false := id rfl
theorem is_lst_dict : isi .lst .dict = false := id rfl
theorem sk_tt : sameKind (.val (.tup ds)) (.val (.tup es)) = true := id rfl
theorem sk_kt : sameKind (.val (.ref k)) (.val (.tup es)) = true := id rfl
theorem sk_rt : sameKind (.raw ds) (.val (.tup es)) = true := id rfl
theorem sk_rr : sameKind (.raw ds) (.raw es) = true := id rfl
theorem sk_kk : sameKind (.val (.ref k)) (.val (.ref m)) = true := id rfl
theorem sk_kr : sameKind (.val (.ref k)) (.raw es) = true := id rfl
theorem sk_rk : sameKind (.raw ds) (.val (.ref k)) = true := id rfl
theorem sk_lr : sameKind (.val (.rl ds)) (.raw es) = true := id rfl
theorem sk_rl : sameKind (.raw ds) (.val (.rl es)) = true := id rfl
/-! builtins -/
theorem b_len_ref : opB .len [.val (.ref k)] h = lenR h[k]? h := by
  simp only [opB, seqOf, dOf]
  cases h[k]? with
  | none => rfl
  | some o => cases o <;> rfl
theorem b_len_tup : opB .len [.val (.tup ds)] h = .ok (.val (.int ds.length)) h := id rfl
theorem b_len_rl : opB .len [.val (.rl ds)] h = .ok (.val (.int ds.length)) h := id rfl
theorem b_len_raw : opB .len [.raw ds] h = .ok (.val (.int ds.length)) h := id rfl
theorem b_int : opB .int [.val (.int i)] h = .ok (.val (.int i)) h := id rfl
theorem b_intb : opB .int [.val (.bl t)] h = .ok (.val (.int (if t then 1 else 0))) h := id rfl
theorem b_abs : opB .abs [.val (.int i)] h = .ok (.val (.int (if i < 0 then -i else i))) h := id rfl
theorem b_tuple : opB .tuple [x] h = tupO (seqOf h x) h := id rfl
theorem b_list : opB .list [x] h = lisO (seqOf h x) h := id rfl
theorem b_max2 : opB .max [.val (.int i), .val (.int j)] h = .ok (.val (.int (if j > i then j else i))) h := id rfl
theorem b_min2 : opB .min [.val (.int i), .val (.int j)] h = .ok (.val (.int (if j < i then j else i))) h := id rfl
theorem b_maxr : opB .max [.raw ds] h = maxO (bI (some ds)) h := id rfl
theorem b_maxl : opB .max [.val (.rl ds)] h = maxO (bI (some ds)) h := id rfl
theorem b_maxk : opB .max [.val (.ref k)] h = maxO (bI (lstO h[k]?)) h := by
  rw [← ls_ref]
  rfl
theorem b_minr : opB .min [.raw ds] h = minO (bI (some ds)) h := id rfl
theorem b_minl : opB .min [.val (.rl ds)] h = minO (bI (some ds)) h := id rfl
theorem b_mink : opB .min [.val (.ref k)] h = minO (bI (lstO h[k]?)) h := by
  rw [← ls_ref]
  rfl
theorem b_sum : opB .sum [x] h = sumO (bI (seqOf h x)) h := by
  unfold sumO bI
  simp only [opB]
  cases (seqOf h x).bind asInts <;> rfl
theorem b_all : opB .all [x] h = allO (bB (lsOf h x)) h := by
  unfold allO bB
  simp only [opB]
  cases (lsOf h x).bind asBls <;> rfl
theorem b_any : opB .any [x] h = anyO (bB (lsOf h x)) h := by
  unfold anyO bB
  simp only [opB]
  cases (lsOf h x).bind asBls <;> rfl
theorem allSome_map {γ δ : Type} {g : β → Option δ} {f : γ → β} {w : γ → δ} (e : ∀ x, g (f x) = some (w x)) : ∀ (l : List γ), allSome g (l.map f) = some (l.map w)
  | [] => rfl
  | a :: l => by
    rw [List.map_cons, List.map_cons]
    unfold allSome
    rw [e, allSome_map e l]
theorem asInts_map {γ : Type} (f : γ → Int) (l : List γ) : asInts (l.map fun x => .int (f x)) = some (l.map f) := by
  unfold asInts
  exact allSome_map (f := fun x => D.int (f x)) (w := f) (fun _ => rfl) l
theorem asBls_map {γ : Type} (f : γ → Bool) (l : List γ) : asBls (l.map fun x => .bl (f x)) = some (l.map f) := by
  unfold asBls
  exact allSome_map (f := fun x => D.bl (f x)) (w := f) (fun _ => rfl) l
theorem a_app : opApp (.val (.ref k)) a h = appO (lstO h[k]?) k a h := by
  simp only [opApp]
  cases h[k]? with
  | none => rfl
  | some o => cases o <;> rfl
theorem p_tup {lo hi : Option Int} : opSlc (.val (.tup ds)) lo hi h = .ok (.val (.tup (cut ds lo hi))) h := id rfl
theorem p_ref {lo hi : Option Int} : opSlc (.val (.ref k)) lo hi h = slcO (lstO h[k]?) lo hi h := by
  rw [← ls_ref]
  rfl
theorem p_raw {lo hi : Option Int} : opSlc (.raw ds) lo hi h = slcO (some ds) lo hi h := id rfl
theorem p_rl {lo hi : Option Int} : opSlc (.val (.rl ds)) lo hi h = slcO (some ds) lo hi h := id rfl
theorem m_pop {z : List D} : m0O .pop (some (z ++ [d])) k h = .ok (.val d) (h.set k (.lst z)) := by
  unfold m0O
  simp
theorem m_rev : m0O .rev (some ds) k h = .ok (.val .non) (h.set k (.lst ds.reverse)) := id rfl
theorem m_clr : m0O .clr (some ds) k h = .ok (.val .non) (h.set k (.lst [])) := id rfl
theorem m_m0 {o : M0} : opM0 o (.val (.ref k)) h = m0O o (lstO h[k]?) k h := by
  simp only [opM0]
  cases h[k]? with
  | none => cases o <;> rfl
  | some p => cases p <;> cases o <;> rfl
end
end Py
/-! Core, part T: the evaluator by its head alone: what is still to do stands in names that no simp looks into. -/
namespace Py
open PySem
noncomputable section
variable (cf : Str → List D → Hh → Out D) (Ex : Xk) (X : XkS)
def TruB : Option Bool → (Bool → Prop) → Prop
  | some b, k => k b
  | none, _ => False
theorem truB_t {k : Bool → Prop} : TruB (some true) k = k true := id rfl
theorem truB_f {k : Bool → Prop} : TruB (some false) k = k false := id rfl
def VarK : Option (Option D) → Hh → (RV → Hh → Prop) → Prop
  | some (some d), h, Q => Q (.val d) h
  | _, _, _ => False
theorem varK {d : D} {h : Hh} {Q : RV → Hh → Prop} : VarK (some (some d)) h Q = Q (.val d) h := id rfl
def KVal (Q : RV → Hh → Prop) : D → Hh → Prop := fun d h => Q (.val d) h
def KRaw (Q : RV → Hh → Prop) : List D → Hh → Prop := fun d h => Q (.raw d) h
def KMat (Q : D → Hh → Prop) : RV → Hh → Prop := fun r h => Wp (mat r h) Q Ex
def KBin2 (o : Operator) (x : RV) (Q : RV → Hh → Prop) : RV → Hh → Prop := fun y h => Wp (opBin o x y h) Q Ex
def KBin (o : Operator) (b : E) (st : St) (Q : RV → Hh → Prop) : RV → Hh → Prop := fun x h => Wp (evR cf b st h) (KBin2 Ex o x Q) Ex
def KCmp2 (o : CmpOp) (x : RV) (Q : RV → Hh → Prop) : RV → Hh → Prop := fun y h => Wp (opCmp o x y h) Q Ex
def KCmp (o : CmpOp) (b : E) (st : St) (Q : RV → Hh → Prop) : RV → Hh → Prop := fun x h => Wp (evR cf b st h) (KCmp2 Ex o x Q) Ex
def KCh3 (p : CmpOp) (c : E) (st : St) (y : RV) (Q : RV → Hh → Prop) : RV → Hh → Prop := fun t h => match t with
  | .val (.bl true) => Wp (evR cf c st h) (KCmp2 Ex p y Q) Ex
  | .val (.bl false) => Q (.val (.bl false)) h
  | _ => False
def KCh2 (o p : CmpOp) (c : E) (st : St) (x : RV) (Q : RV → Hh → Prop) : RV → Hh → Prop := fun y h => Wp (opCmp o x y h) (KCh3 cf Ex p c st y Q) Ex
def KCh (o p : CmpOp) (b c : E) (st : St) (Q : RV → Hh → Prop) : RV → Hh → Prop := fun x h => Wp (evR cf b st h) (KCh2 cf Ex o p c st x Q) Ex
def KNeg (Q : RV → Hh → Prop) : RV → Hh → Prop := fun x h => match x with
  | .val (.int i) => Q (.val (.int (-i))) h
  | _ => False
def KAndB (b : E) (st : St) (Q : RV → Hh → Prop) (x : RV) (h : Hh) : Bool → Prop
  | true => Wp (evR cf b st h) Q Ex
  | false => Q x h
def KAnd (b : E) (st : St) (Q : RV → Hh → Prop) : RV → Hh → Prop := fun x h => TruB (tru h x) (KAndB cf Ex b st Q x h)
def KOrB (b : E) (st : St) (Q : RV → Hh → Prop) (x : RV) (h : Hh) : Bool → Prop
  | true => Q x h
  | false => Wp (evR cf b st h) Q Ex
def KOr (b : E) (st : St) (Q : RV → Hh → Prop) : RV → Hh → Prop := fun x h => TruB (tru h x) (KOrB cf Ex b st Q x h)
def KNotB (Q : RV → Hh → Prop) (h : Hh) : Bool → Prop := fun t => Q (.val (.bl (!t))) h
def KNot (Q : RV → Hh → Prop) : RV → Hh → Prop := fun x h => TruB (tru h x) (KNotB Q h)
def KIfxB (a b : E) (st : St) (Q : RV → Hh → Prop) (h : Hh) : Bool → Prop
  | true => Wp (evR cf a st h) Q Ex
  | false => Wp (evR cf b st h) Q Ex
def KIfx (a b : E) (st : St) (Q : RV → Hh → Prop) : RV → Hh → Prop := fun x h => TruB (tru h x) (KIfxB cf Ex a b st Q h)
def KTup (Q : RV → Hh → Prop) : List D → Hh → Prop := fun ds h => ds.length ≤ SZ ∧ Q (.val (.tup ds)) h
def KLst (Q : RV → Hh → Prop) : List D → Hh → Prop := fun ds h => ds.length ≤ SZ ∧ Q (.raw ds) h
def KIx2 (x : RV) (Q : RV → Hh → Prop) : RV → Hh → Prop := fun y h => Wp (opIx x y h) Q Ex
def KIx (i : E) (st : St) (Q : RV → Hh → Prop) : RV → Hh → Prop := fun x h => Wp (evR cf i st h) (KIx2 Ex x Q) Ex
def KSl3 (x : RV) (l : Option Int) (Q : RV → Hh → Prop) : Option Int → Hh → Prop := fun u h => Wp (opSlc x l u h) Q Ex
def KSl2 (hi : Eo) (st : St) (x : RV) (Q : RV → Hh → Prop) : Option Int → Hh → Prop := fun l h => Wp (evO cf hi st h) (KSl3 Ex x l Q) Ex
def KSl (lo hi : Eo) (st : St) (Q : RV → Hh → Prop) : RV → Hh → Prop := fun x h => Wp (evO cf lo st h) (KSl2 cf Ex hi st x Q) Ex
def KRev (Q : RV → Hh → Prop) : RV → Hh → Prop := fun x h => match lsOf h x with
  | some ds => Q (.raw ds.reverse) h
  | none => False
def KCall (f : Str) (Q : RV → Hh → Prop) : List D → Hh → Prop := fun ds h => Wp (cf f ds h) (KVal Q) Ex
def KCk2 (f : Str) (ds : List D) (Q : RV → Hh → Prop) : List D → Hh → Prop := fun es h => Wp (cf f (ds ++ es) h) (KVal Q) Ex
def KCk (f : Str) (vs : Es) (st : St) (Q : RV → Hh → Prop) : List D → Hh → Prop := fun ds h => Wp (evDs cf vs st h) (KCk2 cf Ex f ds Q) Ex
def KBlt (f : Bf) (Q : RV → Hh → Prop) : List RV → Hh → Prop := fun rs h => Wp (opB f rs h) Q Ex
def KM0 (m : M0) (Q : RV → Hh → Prop) : RV → Hh → Prop := fun x h => Wp (opM0 m x h) Q Ex
def KIsi (t : Ty) (Q : RV → Hh → Prop) : RV → Hh → Prop := fun x h => match tagOf h x with
  | some g => Q (.val (.bl (isi g t))) h
  | none => False
def KApp3 (x : RV) (Q : RV → Hh → Prop) : D → Hh → Prop := fun d h => Wp (opApp x d h) Q Ex
def KApp2 (x : RV) (Q : RV → Hh → Prop) : RV → Hh → Prop := KMat Ex (KApp3 Ex x Q)
def KApp (e : E) (st : St) (Q : RV → Hh → Prop) : RV → Hh → Prop := fun x h => (lstOf h x).isSome = true ∧ Wp (evR cf e st h) (KApp2 Ex x Q) Ex
def KSome (Q : Option D → Hh → Prop) : D → Hh → Prop := fun d h => Q (some d) h
def LcT (own : List Nat) (g : G) (c : Eo) (e : E) (st : St) : D → Hh → Out (Option D) := fun d h => bnd (evG cf g d (wipe st own) h) fun st2 h => bnd (evC cf c st2 h) fun b h =>
  if b = true then bnd (bnd (evR cf e st2 h) mat) fun v h => .ok (some v) h else .ok none h
def KLc3 (e : E) (st2 : St) (Q : Option D → Hh → Prop) : Bool → Hh → Prop := fun b h => if b = true then Wp (evR cf e st2 h) (KMat Ex (KSome Q)) Ex else Q none h
def KLc2 (c : Eo) (e : E) (Q : Option D → Hh → Prop) : St → Hh → Prop := fun st2 h => Wp (evC cf c st2 h) (KLc3 cf Ex e st2 Q) Ex
def KLc (own : List Nat) (g : G) (c : Eo) (e : E) (st : St) (Q : RV → Hh → Prop) : List D × Gd → Hh → Prop := fun p h => Wp (lcLoop (LcT cf own g c e st) p.2 p.1 [] h) (KRaw Q) Ex
def KD3 (d : D) (Q : List D → Hh → Prop) : List D → Hh → Prop := fun ds h => Q (d :: ds) h
def KD2 (es : Es) (st : St) (Q : List D → Hh → Prop) : D → Hh → Prop := fun d h => Wp (evDs cf es st h) (KD3 d Q) Ex
def KR2 (r : RV) (Q : List RV → Hh → Prop) : List RV → Hh → Prop := fun rs h => Q (r :: rs) h
def KR1 (es : Es) (st : St) (Q : List RV → Hh → Prop) : RV → Hh → Prop := fun r h => Wp (evRs cf es st h) (KR2 r Q) Ex
def KO (Q : Option Int → Hh → Prop) : RV → Hh → Prop := fun x h => match x with
  | .val (.int i) => Q (some i) h
  | _ => False
def KCB (Q : Bool → Hh → Prop) (h : Hh) : Bool → Prop := fun t => Q t h
def KC (Q : Bool → Hh → Prop) : RV → Hh → Prop := fun x h => TruB (tru h x) (KCB Q h)
def ItK (o : Option (List D × Gd)) (Q : List D × Gd → Hh → Prop) (h : Hh) : Prop := match o with
  | some p => Q p h
  | none => False
def KSeq (Q : List D × Gd → Hh → Prop) : RV → Hh → Prop := fun x h => ItK (itSeq x h) Q h
def KRng (Q : List D × Gd → Hh → Prop) : RV → Hh → Prop := fun x h => match x with
  | .val (.int j) => (-(2 ^ 62) ≤ j ∧ j < 2 ^ 62) ∧ Q (rng 0 j.toNat, []) h
  | _ => False
def KRng3 (x : RV) (Q : List D × Gd → Hh → Prop) : RV → Hh → Prop := fun y h => match x, y with
  | .val (.int i), .val (.int j) => (-(2 ^ 62) ≤ i ∧ i < 2 ^ 62 ∧ -(2 ^ 62) ≤ j ∧ j < 2 ^ 62) ∧ Q (rng i (j - i).toNat, []) h
  | _, _ => False
def KRng2 (b : E) (st : St) (Q : List D × Gd → Hh → Prop) : RV → Hh → Prop := fun x h => Wp (evR cf b st h) (KRng3 x Q) Ex
def KsO (k : Nat) (Q : List D × Gd → Hh → Prop) (h : Hh) : Option O → Prop
  | some (.dcn kvs) => Q (kvs.map (·.1), [(k, .dcn kvs)]) h
  | _ => False
def IsO (k : Nat) (Q : List D × Gd → Hh → Prop) (h : Hh) : Option O → Prop
  | some (.dcn kvs) => Q (kvs.map fun p => .tup [p.1, p.2], [(k, .dcn kvs)]) h
  | _ => False
def KKeys (Q : List D × Gd → Hh → Prop) : RV → Hh → Prop := fun x h => match x with
  | .val (.ref k) => KsO k Q h h[k]?
  | _ => False
def KItems (Q : List D × Gd → Hh → Prop) : RV → Hh → Prop := fun x h => match x with
  | .val (.ref k) => IsO k Q h h[k]?
  | _ => False
def KMkd (Q : RV → Hh → Prop) : RV → Hh → Prop := fun x h => match (lsOf h x).bind asPrs with
  | some ps => Q (.val (.ref h.length)) (h ++ [.dcn (mergeD [] ps)])
  | none => False
def LksK (Q : RV → Hh → Prop) (h : Hh) : Option O → Prop
  | some (.dcn kvs) => Q (.raw (kvs.map (·.1))) h
  | _ => False
def KLks (Q : RV → Hh → Prop) : RV → Hh → Prop := fun x h => match x with
  | .val (.ref k) => LksK Q h h[k]?
  | _ => False
def MxvI (Q : RV → Hh → Prop) (h : Hh) : Option (List Int) → Prop
  | some (n :: ns) => Q (.val (.int (maxI (n :: ns)))) h
  | _ => False
def MxvK (Q : RV → Hh → Prop) (h : Hh) : Option O → Prop
  | some (.dcn kvs) => MxvI Q h (asInts (kvs.map (·.2)))
  | _ => False
def KMxv (Q : RV → Hh → Prop) : RV → Hh → Prop := fun x h => match x with
  | .val (.ref k) => MxvK Q h h[k]?
  | _ => False
/-- a look up with a default -/
def GetR (o : Option O) (k d : D) (Q : RV → Hh → Prop) (h : Hh) : Prop := match o with
  | some (.dct kvs) => isLeaf k = true ∧ Q (.val ((dlook kvs k).getD d)) h
  | some (.dcn kvs) => isKey k = true ∧ Q (.val ((dlook kvs k).getD d)) h
  | _ => False
def KDg3 (a k : RV) (Q : RV → Hh → Prop) : D → Hh → Prop := fun d h => match a, k with
  | .val (.ref j), .val k => GetR h[j]? k d Q h
  | _, _ => False
def KDg2 (a : RV) (x : E) (st : St) (Q : RV → Hh → Prop) : RV → Hh → Prop := fun k h => Wp (evR cf x st h) (KMat Ex (KDg3 a k Q)) Ex
def KDg1 (k x : E) (st : St) (Q : RV → Hh → Prop) : RV → Hh → Prop := fun a h => (dOf h a).isSome = true ∧ Wp (evR cf k st h) (KDg2 cf Ex a x st Q) Ex
def KEnum0 (Q : List D × Gd → Hh → Prop) : List D × Gd → Hh → Prop := fun p h => Q (enumFrom 0 p.1, p.2) h
def KEnum (Q : List D × Gd → Hh → Prop) : RV → Hh → Prop := fun x h => ItK (itSeq x h) (KEnum0 Q) h
def KZip2 (x : RV) (Q : List D × Gd → Hh → Prop) : RV → Hh → Prop := fun y h => ∃ p q, itSeq x h = some p ∧ itSeq y h = some q ∧ sameKind x y = true ∧ Q (zipD p.1 q.1, p.2 ++ q.2) h
def KZip (b : E) (st : St) (Q : List D × Gd → Hh → Prop) : RV → Hh → Prop := fun x h => Wp (evR cf b st h) (KZip2 x Q) Ex
def SetK (Q : St → Hh → Prop) (st : St) : Option Hh → Prop
  | some h => Q st h
  | none => False
def KSub2 (x : RV) (d : D) (st : St) (Q : St → Hh → Prop) : RV → Hh → Prop := fun y h => SetK Q st (opSet x y d h)
def KD1b (k : D) (Q : RV → Hh → Prop) : D → Hh → Prop := fun v h => isKey k = true ∧ Q (.val (.ref h.length)) (h ++ [.dcn [(k, v)]])
def KD1a (v : E) (st : St) (Q : RV → Hh → Prop) : D → Hh → Prop := fun k h => Wp (evR cf v st h) (KMat Ex (KD1b k Q)) Ex
def K2d (k v k2 : D) (Q : RV → Hh → Prop) : D → Hh → Prop := fun v2 h => (isKey k = true ∧ isKey k2 = true) ∧ Q (.val (.ref h.length)) (h ++ [.dcn (dput [(k, v)] k2 v2)])
def K2c (v2 : E) (st : St) (k v : D) (Q : RV → Hh → Prop) : D → Hh → Prop := fun k2 h => Wp (evR cf v2 st h) (KMat Ex (K2d k v k2 Q)) Ex
def K2b (k2 v2 : E) (st : St) (k : D) (Q : RV → Hh → Prop) : D → Hh → Prop := fun v h => Wp (evR cf k2 st h) (KMat Ex (K2c cf Ex v2 st k v Q)) Ex
def K2a (v k2 v2 : E) (st : St) (Q : RV → Hh → Prop) : D → Hh → Prop := fun k h => Wp (evR cf v st h) (KMat Ex (K2b cf Ex k2 v2 st k Q)) Ex
def KBst (mx : Bool) (Q : RV → Hh → Prop) : RV → Hh → Prop := fun x h => Wp (bestO mx [] (lsOf h x) h) Q Ex
def KBe2 (mx : Bool) (x : RV) (Q : RV → Hh → Prop) : D → Hh → Prop := fun v h => Wp (bestO mx [v] (lsOf h x) h) Q Ex
def KBe1 (mx : Bool) (d : E) (st : St) (Q : RV → Hh → Prop) : RV → Hh → Prop := fun x h => Wp (evR cf d st h) (KMat Ex (KBe2 Ex mx x Q)) Ex
def KPr2 (i j : Nat) (x : D) (st : St) (Z : Ez) : D → Hh → Prop := fun y h => Z.nx ((st.set i (some x)).set j (some y)) h
def KPr1 (i j : Nat) (b : E) (st : St) (Z : Ez) : D → Hh → Prop := fun x h => Wp (evR cf b st h) (KMat (Xat X st) (KPr2 i j x st Z)) (Xat X st)
def KDct (ks : List D) (Q : RV → Hh → Prop) : List D → Hh → Prop := fun ds h => (ks.all isLeaf = true ∧ ks.length = ds.length ∧ ks.length ≤ 15 ∧ ks ≠ []) ∧ Q (.val (.ref h.length)) (h ++ [.dct (mergeD [] (ks.zip ds))])
def KTrv (Q : RV → Hh → Prop) : RV → Hh → Prop := fun x h => match lsOf h x with
  | some ds => Q (.val (.tup ds.reverse)) h
  | none => False
def KSset (Q : RV → Hh → Prop) : RV → Hh → Prop := fun x h => match (lsOf h x).bind asInts with
  | some ns => (ns.length < 4000 ∧ (setI ns).length < 64) ∧ Q (.raw ((setI ns).map .int)) h
  | none => False
def KLset (Q : RV → Hh → Prop) : RV → Hh → Prop := fun x h => match (lsOf h x).bind asInts with
  | some ns => ns.length < 4000 ∧ Q (.val (.int (setI ns).length)) h
  | none => match (lsOf h x).bind asTups with
    | some ks => ks.length < 64 ∧ Q (.val (.int (ddT ks).length)) h
    | none => False
def KLrg (Q : RV → Hh → Prop) : RV → Hh → Prop := fun x h => match x with
  | .val (.int j) => (0 ≤ j ∧ j ≤ 16777216) ∧ Q (.raw (rng 0 j.toNat)) h
  | _ => False
def KM1b (m : M1) (x : RV) (Q : RV → Hh → Prop) : RV → Hh → Prop := fun y h => Wp (opM1 m x y h) Q Ex
def KM1 (m : M1) (e : E) (st : St) (Q : RV → Hh → Prop) : RV → Hh → Prop := fun x h => (lsOf h x).isSome = true ∧ Wp (evR cf e st h) (KM1b Ex m x Q) Ex
def KSub (i : E) (d : D) (st : St) (Q : St → Hh → Prop) : RV → Hh → Prop := fun x h => Wp (evR cf i st h) (KSub2 x d st Q)
def KGs (gs : Gs) (ds : List D) (Q : St → Hh → Prop) : St → Hh → Prop := fun st h => Wp (evGs cf gs ds st h) Q Ex
def KAsg2 (g : G) (st : St) (Z : Ez) : D → Hh → Prop := fun d h => Wp (evG cf g d st h) Z.nx
def KAug (i : Nat) (sub : Bool) (a : Int) (st : St) (Z : Ez) : RV → Hh → Prop := fun y h => match y with
  | .val (.int b) => Z.nx (st.set i (some (.int (if sub = true then a - b else a + b)))) h
  | _ => False
def AugK (o : Option (Option D)) (k : Int → Prop) : Prop := match o with
  | some (some (.int a)) => k a
  | _ => False
theorem augK {a : Int} {k : Int → Prop} : AugK (some (some (.int a))) k = k a := id rfl
def KAug0 (i : Nat) (sub : Bool) (e : E) (st : St) (h : Hh) (Z : Ez) : Int → Prop := fun a => Wp (evR cf e st h) (KAug i sub a st Z) (Xat X st)
def KExpr (st : St) (Z : Ez) : RV → Hh → Prop := fun _ h => Z.nx st h
def KIfB (a b : Ss) (st : St) (Z : Ez) (h : Hh) : Bool → Prop
  | true => WpS (exSs cf a st h) Z X
  | false => WpS (exSs cf b st h) Z X
def KIf (a b : Ss) (st : St) (Z : Ez) : RV → Hh → Prop := fun x h => TruB (tru h x) (KIfB cf X a b st Z h)
def WT (c : E) : St → Hh → Out Bool := fun st h => bnd (evR cf c st h) fun x h => match tru h x with
  | some t => .ok t h
  | none => .fail
def FB (g : G) (b : Ss) : D → St → Hh → OutS := fun d st h => bndSF (evG cf g d st h) fun st h => exSs cf b st h
def KFB (b : Ss) (Z : Ez) : St → Hh → Prop := fun st h => WpS (exSs cf b st h) Z X
def KFor (g : G) (b : Ss) (st : St) (Z : Ez) : List D × Gd → Hh → Prop := fun p h => WpS (forLoop (FB cf g b) p.2 p.1 st h) Z X
def CapC : Option (Option D) → Option (List D) → Option (List D)
  | some (some d), some ds => some (d :: ds)
  | _, _ => none
def CapK (f : Str) (x y : D) (Q : RV → Hh → Prop) (h : Hh) : Option (List D) → Prop
  | some cs => Wp (cf f (x :: y :: cs) h) (KVal Q) Ex
  | none => False
def KCl2 (f : Str) (x : D) (js : List Nat) (st : St) (Q : RV → Hh → Prop) : D → Hh → Prop := fun y h => CapK cf Ex f x y Q h (capD st js)
def KCl (f : Str) (b : E) (js : List Nat) (st : St) (Q : RV → Hh → Prop) : D → Hh → Prop := fun x h => Wp (evR cf b st h) (KMat Ex (KCl2 cf Ex f x js st Q)) Ex
def WntK (p : Prop) : Option (Option D) → Prop
  | some (some .fnv) => p
  | _ => False
def MkxK (c : Str) (Q : RV → Hh → Prop) (h : Hh) : Option (List (Str × D)) → Prop
  | some fs => Q (.val (.ref h.length)) (h ++ [.xc c fs])
  | none => False
def KMkx (c : Str) (Q : RV → Hh → Prop) : List D → Hh → Prop := fun ds h => MkxK c Q h (xfs c ds)
def IsxK (cs : List Str) (Q : RV → Hh → Prop) (h : Hh) : Option (Option Str) → Prop
  | some g => Q (.val (.bl (xIn cs g))) h
  | none => False
def KIsx (cs : List Str) (Q : RV → Hh → Prop) : RV → Hh → Prop := fun x h => IsxK cs Q h (xTag h x)
def KFld (f : Str) (Q : RV → Hh → Prop) : RV → Hh → Prop := fun x h => Wp (opFld x f h) Q Ex
def RaiK (c : Str) (st : St) (h : Hh) : Option (List (Str × D)) → Prop
  | some fs => X c fs st h
  | none => False
def KRai (c : Str) (st : St) : List D → Hh → Prop := fun ds h => RaiK X c st h (xfs c ds)
def XTry (hs : Hs) (Z : Ez) : XkS := fun c fs st h => WpS (exHs cf hs c fs st h) Z X
def Ez.hd (Z : Ez) (i : Option Nat) : Ez := ⟨fun st h => Z.nx (unN i st) h, Z.rt, fun st h => Z.bk (unN i st) h, fun st h => Z.ct (unN i st) h⟩
def Ez.sq (Z : Ez) (ss : Ss) : Ez := ⟨fun st h => WpS (exSs cf ss st h) Z X, Z.rt, Z.bk, Z.ct⟩
end
section
variable {cf : Str → List D → Hh → Out D} {Ex : Xk} {X : XkS} {st : St} {h : Hh} {Q : RV → Hh → Prop} {QL : List D → Hh → Prop} {QD : D → Hh → Prop} {QR : List RV → Hh → Prop} {QO : Option Int → Hh → Prop} {QB : Bool → Hh → Prop} {QI : List D × Gd → Hh → Prop} {QS : St → Hh → Prop} {QP : Option D → Hh → Prop} {Z : Ez} {a b e : E} {es : Es} {x y r : RV} {d : D} {ds : List D} {rs : List RV} {ss : Ss} {t : Bool} {i j : Int} {n : Nat}
theorem KVal_ : KVal Q d h = Q (.val d) h := id rfl
theorem KRaw_ : KRaw Q ds h = Q (.raw ds) h := id rfl
theorem KMat_v : KMat Ex QD (.val d) h = QD d h := wp_ok
theorem KMat_r : KMat Ex QD (.raw ds) h = QD (.ref h.length) (h ++ [.lst ds]) := wp_ok
theorem KBin2_ {o : Operator} : KBin2 Ex o x Q y h = Wp (opBin o x y h) Q Ex := id rfl
theorem KBin_ {o : Operator} : KBin cf Ex o b st Q x h = Wp (evR cf b st h) (KBin2 Ex o x Q) Ex := id rfl
theorem KCmp2_ {o : CmpOp} : KCmp2 Ex o x Q y h = Wp (opCmp o x y h) Q Ex := id rfl
theorem KCmp_ {o : CmpOp} : KCmp cf Ex o b st Q x h = Wp (evR cf b st h) (KCmp2 Ex o x Q) Ex := id rfl
theorem KCh_ {o p : CmpOp} {c : E} : KCh cf Ex o p b c st Q x h = Wp (evR cf b st h) (KCh2 cf Ex o p c st x Q) Ex := id rfl
theorem KCh2_ {o p : CmpOp} {c : E} : KCh2 cf Ex o p c st x Q y h = Wp (opCmp o x y h) (KCh3 cf Ex p c st y Q) Ex := id rfl
theorem KCh3_t {p : CmpOp} {c : E} : KCh3 cf Ex p c st y Q (.val (.bl true)) h = Wp (evR cf c st h) (KCmp2 Ex p y Q) Ex := id rfl
theorem KCh3_f {p : CmpOp} {c : E} : KCh3 cf Ex p c st y Q (.val (.bl false)) h = Q (.val (.bl false)) h := id rfl
theorem KNeg_ : KNeg Q (.val (.int i)) h = Q (.val (.int (-i))) h := id rfl
theorem KAnd_ : KAnd cf Ex b st Q x h = TruB (tru h x) (KAndB cf Ex b st Q x h) := id rfl
theorem KAnd_t : KAndB cf Ex b st Q x h true = Wp (evR cf b st h) Q Ex := id rfl
theorem KAnd_f : KAndB cf Ex b st Q x h false = Q x h := id rfl
theorem KOr_ : KOr cf Ex b st Q x h = TruB (tru h x) (KOrB cf Ex b st Q x h) := id rfl
theorem KOr_f : KOrB cf Ex b st Q x h false = Wp (evR cf b st h) Q Ex := id rfl
theorem KOr_t : KOrB cf Ex b st Q x h true = Q x h := id rfl
theorem KNot_ : KNot Q x h = TruB (tru h x) (KNotB Q h) := id rfl
theorem KNotB_ : KNotB Q h t = Q (.val (.bl (!t))) h := id rfl
theorem KIfx_ : KIfx cf Ex a b st Q x h = TruB (tru h x) (KIfxB cf Ex a b st Q h) := id rfl
theorem KIfx_t : KIfxB cf Ex a b st Q h true = Wp (evR cf a st h) Q Ex := id rfl
theorem KIfx_f : KIfxB cf Ex a b st Q h false = Wp (evR cf b st h) Q Ex := id rfl
theorem KTup_ : KTup Q ds h = (ds.length ≤ 16777216 ∧ Q (.val (.tup ds)) h) := id rfl
theorem KLst_ : KLst Q ds h = (ds.length ≤ 16777216 ∧ Q (.raw ds) h) := id rfl
theorem KIx2_ : KIx2 Ex x Q y h = Wp (opIx x y h) Q Ex := id rfl
theorem KIx_ : KIx cf Ex b st Q x h = Wp (evR cf b st h) (KIx2 Ex x Q) Ex := id rfl
theorem KSl3_ {l u : Option Int} : KSl3 Ex x l Q u h = Wp (opSlc x l u h) Q Ex := id rfl
theorem KSl2_ {hi : Eo} {l : Option Int} : KSl2 cf Ex hi st x Q l h = Wp (evO cf hi st h) (KSl3 Ex x l Q) Ex := id rfl
theorem KSl_ {lo hi : Eo} : KSl cf Ex lo hi st Q x h = Wp (evO cf lo st h) (KSl2 cf Ex hi st x Q) Ex := id rfl
def RevK (o : Option (List D)) (Q : RV → Hh → Prop) (h : Hh) : Prop := match o with
  | some ds => Q (.raw ds.reverse) h
  | none => False
theorem revK : RevK (some ds) Q h = Q (.raw ds.reverse) h := id rfl
theorem KRev_ : KRev Q x h = RevK (lsOf h x) Q h := id rfl
theorem KCall_ {f : Str} : KCall cf Ex f Q ds h = Wp (cf f ds h) (KVal Q) Ex := id rfl
theorem KCk2_ {f : Str} {l : List D} : KCk2 cf Ex f l Q ds h = Wp (cf f (l ++ ds) h) (KVal Q) Ex := id rfl
theorem KCk_ {f : Str} : KCk cf Ex f es st Q ds h = Wp (evDs cf es st h) (KCk2 cf Ex f ds Q) Ex := id rfl
theorem KBlt_ {f : Bf} : KBlt Ex f Q rs h = Wp (opB f rs h) Q Ex := id rfl
theorem KM0_ {m : M0} : KM0 Ex m Q x h = Wp (opM0 m x h) Q Ex := id rfl
def IsiK (o : Option Tg) (t : Ty) (Q : RV → Hh → Prop) (h : Hh) : Prop := match o with
  | some g => Q (.val (.bl (isi g t))) h
  | none => False
theorem isiK {t : Ty} {g : Tg} : IsiK (some g) t Q h = Q (.val (.bl (isi g t))) h := id rfl
theorem KIsi_ {t : Ty} : KIsi t Q x h = IsiK (tagOf h x) t Q h := id rfl
theorem KApp3_ : KApp3 Ex x Q d h = Wp (opApp x d h) Q Ex := id rfl
theorem KApp2_ : KApp2 Ex x Q = KMat Ex (KApp3 Ex x Q) := id rfl
theorem KApp_ : KApp cf Ex e st Q x h = ((lstOf h x).isSome = true ∧ Wp (evR cf e st h) (KApp2 Ex x Q) Ex) := id rfl
theorem KSome_ : KSome QP d h = QP (some d) h := id rfl
theorem KLc3_t {s2 : St} : KLc3 cf Ex e s2 QP true h = Wp (evR cf e s2 h) (KMat Ex (KSome QP)) Ex := id rfl
theorem KLc3_f {s2 : St} : KLc3 cf Ex e s2 QP false h = QP none h := id rfl
theorem KLc2_ {c : Eo} {s2 : St} : KLc2 cf Ex c e QP s2 h = Wp (evC cf c s2 h) (KLc3 cf Ex e s2 QP) Ex := id rfl
theorem KLc_ {own : List Nat} {g : G} {c : Eo} {p : List D × Gd} : KLc cf Ex own g c e st Q p h = Wp (lcLoop (LcT cf own g c e st) p.2 p.1 [] h) (KRaw Q) Ex := id rfl
theorem LcT_ {own : List Nat} {g : G} {c : Eo} : Wp (LcT cf own g c e st d h) QP Ex = Wp (evG cf g d (wipe st own) h) (KLc2 cf Ex c e QP) Ex := by
  unfold LcT
  rw [wp_bnd]
  unfold KLc2 KLc3
  congr
  funext s2 h2
  rw [wp_bnd]
  congr
  funext b h3
  cases b with
  | false => exact wp_ok
  | true =>
    show Wp (bnd (bnd (evR cf e s2 h3) mat) _) QP Ex = Wp (evR cf e s2 h3) (KMat Ex (KSome QP)) Ex
    rw [wp_bnd, wp_bnd]
    congr
    funext x h4
    show Wp (mat x h4) _ _ = Wp (mat x h4) (KSome QP) _
    congr
    funext y h5
    exact wp_ok
theorem KD3_ : KD3 d QL ds h = QL (d :: ds) h := id rfl
theorem KD2_ : KD2 cf Ex es st QL d h = Wp (evDs cf es st h) (KD3 d QL) Ex := id rfl
theorem KR2_ : KR2 r QR rs h = QR (r :: rs) h := id rfl
theorem KR1_ : KR1 cf Ex es st QR r h = Wp (evRs cf es st h) (KR2 r QR) Ex := id rfl
theorem KO_ : KO QO (.val (.int i)) h = QO (some i) h := id rfl
theorem KCB_ : KCB QB h t = QB t h := id rfl
theorem KC_ : KC QB x h = TruB (tru h x) (KCB QB h) := id rfl
theorem ItK_ {p : List D × Gd} : ItK (some p) QI h = QI p h := id rfl
theorem KSeq_ : KSeq QI x h = ItK (itSeq x h) QI h := id rfl
theorem KRng_ : KRng QI (.val (.int j)) h = ((-(2 ^ 62) ≤ j ∧ j < 2 ^ 62) ∧ QI (rng 0 j.toNat, []) h) := id rfl
theorem KRng3_ : KRng3 (.val (.int i)) QI (.val (.int j)) h = ((-(2 ^ 62) ≤ i ∧ i < 2 ^ 62 ∧ -(2 ^ 62) ≤ j ∧ j < 2 ^ 62) ∧ QI (rng i (j - i).toNat, []) h) := id rfl
theorem KRng2_ : KRng2 cf Ex b st QI x h = Wp (evR cf b st h) (KRng3 x QI) Ex := id rfl
theorem ksO_ {k : Nat} {kvs : List (D × D)} : KsO k QI h (some (.dcn kvs)) = QI (kvs.map (·.1), [(k, .dcn kvs)]) h := id rfl
theorem isO_ {k : Nat} {kvs : List (D × D)} : IsO k QI h (some (.dcn kvs)) = QI (kvs.map fun p => .tup [p.1, p.2], [(k, .dcn kvs)]) h := id rfl
theorem KKeys_ {k : Nat} : KKeys QI (.val (.ref k)) h = KsO k QI h h[k]? := id rfl
theorem KItems_ {k : Nat} : KItems QI (.val (.ref k)) h = IsO k QI h h[k]? := id rfl
def bP (o : Option (List D)) : Option (List (D × D)) := o.bind asPrs
theorem bP_ {ds : List D} : bP (some ds) = asPrs ds := id rfl
def MkdK (Q : RV → Hh → Prop) (h : Hh) : Option (List (D × D)) → Prop
  | some ps => Q (.val (.ref h.length)) (h ++ [.dcn (mergeD [] ps)])
  | none => False
theorem mkdK {ps : List (D × D)} : MkdK Q h (some ps) = Q (.val (.ref h.length)) (h ++ [.dcn (mergeD [] ps)]) := id rfl
theorem KMkd_ : KMkd Q x h = MkdK Q h (bP (lsOf h x)) := id rfl
theorem lksK_ {kvs : List (D × D)} : LksK Q h (some (.dcn kvs)) = Q (.raw (kvs.map (·.1))) h := id rfl
theorem KLks_ {k : Nat} : KLks Q (.val (.ref k)) h = LksK Q h h[k]? := id rfl
theorem mxvK_ {kvs : List (D × D)} : MxvK Q h (some (.dcn kvs)) = MxvI Q h (asInts (kvs.map (·.2))) := id rfl
theorem mxvI_ {n : Int} {ns : List Int} : MxvI Q h (some (n :: ns)) = Q (.val (.int (maxI (n :: ns)))) h := id rfl
def DclK (Q : RV → Hh → Prop) (h : Hh) (k : Nat) : Option O → Prop
  | some (.dcn _) => Q (.val .non) (h.set k (.dct []))
  | _ => False
def KDcl (Q : RV → Hh → Prop) : RV → Hh → Prop := fun x h => match x with
  | .val (.ref k) => DclK Q h k h[k]?
  | _ => False
theorem dclK_ {k : Nat} {kvs : List (D × D)} : DclK Q h k (some (.dcn kvs)) = Q (.val .non) (h.set k (.dct [])) := id rfl
theorem KDcl_ {k : Nat} : KDcl Q (.val (.ref k)) h = DclK Q h k h[k]? := id rfl
theorem KMxv_ {k : Nat} : KMxv Q (.val (.ref k)) h = MxvK Q h h[k]? := id rfl
theorem getR_s {k d : D} {kvs : List (D × D)} : GetR (some (.dct kvs)) k d Q h = (isLeaf k = true ∧ Q (.val ((dlook kvs k).getD d)) h) := id rfl
theorem getR_n {k d : D} {kvs : List (D × D)} : GetR (some (.dcn kvs)) k d Q h = (isKey k = true ∧ Q (.val ((dlook kvs k).getD d)) h) := id rfl
theorem KDg3_ {j : Nat} {k d : D} : KDg3 (.val (.ref j)) (.val k) Q d h = GetR h[j]? k d Q h := id rfl
theorem KDg2_ {y : RV} {e : E} : KDg2 cf Ex y e st Q x h = Wp (evR cf e st h) (KMat Ex (KDg3 y x Q)) Ex := id rfl
theorem KDg1_ {e e2 : E} : KDg1 cf Ex e e2 st Q x h = ((dOf h x).isSome = true ∧ Wp (evR cf e st h) (KDg2 cf Ex x e2 st Q) Ex) := id rfl
theorem dOfR_ {k : Nat} : (dOf h (.val (.ref k))).isSome = (dctO h[k]?).isSome := by
  simp only [dOf]
  cases h[k]? with
  | none => rfl
  | some o => cases o <;> rfl
theorem dctO_s {kvs : List (D × D)} : (dctO (some (.dct kvs))).isSome = true := id rfl
theorem dctO_n {kvs : List (D × D)} : (dctO (some (.dcn kvs))).isSome = true := id rfl
theorem KEnum0_ {p : List D × Gd} : KEnum0 QI p h = QI (enumFrom 0 p.1, p.2) h := id rfl
theorem KEnum_ : KEnum QI x h = ItK (itSeq x h) (KEnum0 QI) h := id rfl
def ZipK (o p : Option (List D × Gd)) (k : Bool) (Q : List D × Gd → Hh → Prop) (h : Hh) : Prop := match o, p, k with
  | some p, some q, true => Q (zipD p.1 q.1, p.2 ++ q.2) h
  | _, _, _ => False
theorem zipK {p q : List D × Gd} : ZipK (some p) (some q) true QI h = QI (zipD p.1 q.1, p.2 ++ q.2) h := id rfl
theorem KZip2_ : KZip2 x QI y h = ZipK (itSeq x h) (itSeq y h) (sameKind x y) QI h := by
  unfold KZip2 ZipK
  apply propext
  constructor
  · rintro ⟨p', q', a1, a2, a3, a4⟩
    rw [a1, a2, a3]
    exact a4
  · intro z
    split at z
    · exact ⟨_, _, by assumption, by assumption, by assumption, z⟩
    · exact z.elim
theorem KZip_ : KZip cf Ex b st QI x h = Wp (evR cf b st h) (KZip2 x QI) Ex := id rfl
def SubK (o : Option Nat) (k : Nat) (ds : List D) (d : D) (st : St) (h : Hh) (Q : St → Hh → Prop) : Prop := match o with
  | some m => Q st (h.set k (.lst (ds.set m d)))
  | none => False
theorem subK {k m : Nat} : SubK (some m) k ds d st h QS = QS st (h.set k (.lst (ds.set m d))) := id rfl
/-- a store by what stands there -/
def SubR (o : Option O) (y : D) (k : Nat) (d : D) (st : St) (h : Hh) (Q : St → Hh → Prop) : Prop := match o with
  | some (.lst ds) => (match y with
    | .int j => SubK (L2.ixN ds.length j) k ds d st h Q
    | _ => False)
  | some (.dct kvs) => (isLeaf y = true ∧ kvs.length < 16777216) ∧ Q st (h.set k (.dct (dput kvs y d)))
  | some (.dcn kvs) => (isKey y = true ∧ kvs.length < 16777216) ∧ Q st (h.set k (.dcn (dput kvs y d)))
  | _ => False
theorem subR_l {k : Nat} : SubR (some (.lst ds)) (.int j) k d st h QS = SubK (L2.ixN ds.length j) k ds d st h QS := id rfl
theorem subR_s {k : Nat} {y : D} {kvs : List (D × D)} : SubR (some (.dct kvs)) y k d st h QS = ((isLeaf y = true ∧ kvs.length < 16777216) ∧ QS st (h.set k (.dct (dput kvs y d)))) := id rfl
theorem subR_n {k : Nat} {y : D} {kvs : List (D × D)} : SubR (some (.dcn kvs)) y k d st h QS = ((isKey y = true ∧ kvs.length < 16777216) ∧ QS st (h.set k (.dcn (dput kvs y d)))) := id rfl
theorem KSub2_ {k : Nat} {y : D} : KSub2 (.val (.ref k)) d st QS (.val y) h = SubR h[k]? y k d st h QS := by
  have hs : SZ = 16777216 := rfl
  unfold KSub2
  simp only [opSet]
  cases h[k]? with
  | none => rfl
  | some o => cases o with
    | lst ds => cases y with
      | int j =>
        simp only [SubR]
        cases L2.ixN ds.length j <;> rfl
      | _ => rfl
    | dct kvs =>
      simp only [SubR, hs]
      by_cases c : isLeaf y = true ∧ kvs.length < 16777216
      · rw [if_pos c]; exact propext ⟨fun z => ⟨c, z⟩, fun z => z.2⟩
      · rw [if_neg c]; exact propext ⟨fun z => z.elim, fun z => c z.1⟩
    | dcn kvs =>
      simp only [SubR, hs]
      by_cases c : isKey y = true ∧ kvs.length < 16777216
      · rw [if_pos c]; exact propext ⟨fun z => ⟨c, z⟩, fun z => z.2⟩
      · rw [if_neg c]; exact propext ⟨fun z => z.elim, fun z => c z.1⟩
    | xc => rfl
theorem KD1a_ : KD1a cf Ex e st Q d h = Wp (evR cf e st h) (KMat Ex (KD1b d Q)) Ex := id rfl
theorem KD1b_ {d2 : D} : KD1b d Q d2 h = (isKey d = true ∧ Q (.val (.ref h.length)) (h ++ [.dcn [(d, d2)]])) := id rfl
theorem K2a_ {a b c : E} : K2a cf Ex a b c st Q d h = Wp (evR cf a st h) (KMat Ex (K2b cf Ex b c st d Q)) Ex := id rfl
theorem K2b_ {b c : E} {k : D} : K2b cf Ex b c st k Q d h = Wp (evR cf b st h) (KMat Ex (K2c cf Ex c st k d Q)) Ex := id rfl
theorem K2c_ {c : E} {k v : D} : K2c cf Ex c st k v Q d h = Wp (evR cf c st h) (KMat Ex (K2d k v d Q)) Ex := id rfl
theorem K2d_ {k v k2 : D} : K2d k v k2 Q d h = ((isKey k = true ∧ isKey k2 = true) ∧ Q (.val (.ref h.length)) (h ++ [.dcn (dput [(k, v)] k2 d)])) := id rfl
theorem KBst_ {mx : Bool} : KBst Ex mx Q x h = Wp (bestO mx [] (lsOf h x) h) Q Ex := id rfl
theorem KBe1_ {mx : Bool} {e : E} : KBe1 cf Ex mx e st Q x h = Wp (evR cf e st h) (KMat Ex (KBe2 Ex mx x Q)) Ex := id rfl
theorem KBe2_ {mx : Bool} : KBe2 Ex mx x Q d h = Wp (bestO mx [d] (lsOf h x) h) Q Ex := id rfl
theorem KPr1_ {i j : Nat} {e : E} {Z : Ez} : KPr1 cf X i j e st Z d h = Wp (evR cf e st h) (KMat (Xat X st) (KPr2 i j d st Z)) (Xat X st) := id rfl
theorem KPr2_ {i j : Nat} {x : D} {Z : Ez} : KPr2 i j x st Z d h = Z.nx ((st.set i (some x)).set j (some d)) h := id rfl
theorem bestO_no {mx : Bool} {v : D} : bestO mx [v] (some []) h = .ok (.val v) h := id rfl
theorem bestO_some {mx : Bool} {dd : List D} {d : D} {ds : List D} (k : bestOk (d :: ds) = true) : bestO mx dd (some (d :: ds)) h = .ok (.val (if mx = true then maxD d ds else minD d ds)) h := by
  exact if_pos k
theorem KDct_ {ks : List D} : KDct ks Q ds h = ((ks.all isLeaf = true ∧ ks.length = ds.length ∧ ks.length ≤ 15 ∧ ks ≠ []) ∧ Q (.val (.ref h.length)) (h ++ [.dct (mergeD [] (ks.zip ds))])) := id rfl
def TrvK (Q : RV → Hh → Prop) (h : Hh) : Option (List D) → Prop
  | some ds => Q (.val (.tup ds.reverse)) h
  | none => False
theorem trvK : TrvK Q h (some ds) = Q (.val (.tup ds.reverse)) h := id rfl
theorem KTrv_ : KTrv Q x h = TrvK Q h (lsOf h x) := id rfl
def SsetK (Q : RV → Hh → Prop) (h : Hh) : Option (List Int) → Prop
  | some ns => (ns.length < 4000 ∧ (setI ns).length < 64) ∧ Q (.raw ((setI ns).map .int)) h
  | none => False
theorem ssetK {ns : List Int} : SsetK Q h (some ns) = ((ns.length < 4000 ∧ (setI ns).length < 64) ∧ Q (.raw ((setI ns).map .int)) h) := id rfl
theorem KSset_ : KSset Q x h = SsetK Q h (bI (lsOf h x)) := id rfl
def bT (o : Option (List D)) : Option (List (List Int)) := o.bind asTups
theorem bT_ {ds : List D} : bT (some ds) = asTups ds := id rfl
def LsetK (Q : RV → Hh → Prop) (h : Hh) : Option (List (List Int)) → Prop
  | some ks => ks.length < 64 ∧ Q (.val (.int (ddT ks).length)) h
  | none => False
theorem lsetK {ks : List (List Int)} : LsetK Q h (some ks) = (ks.length < 64 ∧ Q (.val (.int (ddT ks).length)) h) := id rfl
theorem KLrg_ {j : Int} : KLrg Q (.val (.int j)) h = ((0 ≤ j ∧ j ≤ 16777216) ∧ Q (.raw (rng 0 j.toNat)) h) := id rfl
def LsetJ (Q : RV → Hh → Prop) (h : Hh) : Option (List Int) → Option (List (List Int)) → Prop
  | some ns, _ => ns.length < 4000 ∧ Q (.val (.int (setI ns).length)) h
  | none, t => LsetK Q h t
theorem lsetJ_s {ns : List Int} {t : Option (List (List Int))} : LsetJ Q h (some ns) t = (ns.length < 4000 ∧ Q (.val (.int (setI ns).length)) h) := id rfl
theorem lsetJ_n {t : Option (List (List Int))} : LsetJ Q h none t = LsetK Q h t := id rfl
theorem KLset_ : KLset Q x h = LsetJ Q h (bI (lsOf h x)) (bT (lsOf h x)) := by
  unfold KLset LsetJ bI bT
  split
  · rename_i ns e; rw [e]
  · rename_i e
    rw [e]
    show _ = LsetK Q h _
    unfold LsetK
    rfl
theorem KM1b_ {m : M1} : KM1b Ex m x Q y h = Wp (opM1 m x y h) Q Ex := id rfl
theorem KM1_ {m : M1} : KM1 cf Ex m e st Q x h = ((lsOf h x).isSome = true ∧ Wp (evR cf e st h) (KM1b Ex m x Q) Ex) := id rfl
theorem KSub_ : KSub cf b d st QS x h = Wp (evR cf b st h) (KSub2 x d st QS) := id rfl
theorem KGs_ {gs : Gs} : KGs cf Ex gs ds QS st h = Wp (evGs cf gs ds st h) QS Ex := id rfl
theorem KAsg2_ {g : G} : KAsg2 cf g st Z d h = Wp (evG cf g d st h) Z.nx := id rfl
theorem KAug_s : KAug n true i st Z (.val (.int j)) h = Z.nx (st.set n (some (.int (i - j)))) h := id rfl
theorem KAug_a : KAug n false i st Z (.val (.int j)) h = Z.nx (st.set n (some (.int (i + j)))) h := id rfl
theorem KAug0_ : KAug0 cf X n t e st h Z i = Wp (evR cf e st h) (KAug n t i st Z) (Xat X st) := id rfl
theorem KExpr_ : KExpr st Z x h = Z.nx st h := id rfl
theorem KIf_ {a b : Ss} : KIf cf X a b st Z x h = TruB (tru h x) (KIfB cf X a b st Z h) := id rfl
theorem KIf_t {a b : Ss} : KIfB cf X a b st Z h true = WpS (exSs cf a st h) Z X := id rfl
theorem KIf_f {a b : Ss} : KIfB cf X a b st Z h false = WpS (exSs cf b st h) Z X := id rfl
theorem KFor_ {g : G} {p : List D × Gd} : KFor cf X g ss st Z p h = WpS (forLoop (FB cf g ss) p.2 p.1 st h) Z X := id rfl
theorem FB_ {g : G} : WpS (FB cf g ss d st h) Z X = Wp (evG cf g d st h) (KFB cf X ss Z) := by
  unfold FB
  rw [wps_bndF]
  rfl
theorem KFB_ : KFB cf X ss Z st h = WpS (exSs cf ss st h) Z X := id rfl
theorem sq_nx : (Z.sq cf X ss).nx st h = WpS (exSs cf ss st h) Z X := id rfl
theorem sq_rt : (Z.sq cf X ss).rt = Z.rt := id rfl
theorem sq_bk : (Z.sq cf X ss).bk = Z.bk := id rfl
theorem sq_ct : (Z.sq cf X ss).ct = Z.ct := id rfl
/-! ### the rules -/
theorem w_var : Wp (evR cf (.var n) st h) Q Ex = VarK st[n]? h Q := by
  show Wp (match st[n]? with | some (some d) => .ok (.val d) h | _ => .fail) Q Ex = _
  unfold VarK
  split <;> rename_i z <;> simp only [z] <;> (first | rfl | exact wp_ok | exact wp_fail | exact wps_fail | exact wps_nx | exact wps_rt | (funext _ _; exact wp_ok) | (funext _ _; exact wps_nx) | (funext _ _; exact wps_rt) | (congr; funext _ _; exact wp_ok) | (congr; funext _ _; exact wps_nx) | (congr; funext _ _; exact wps_rt))
theorem w_non : Wp (evR cf .non st h) Q Ex = Q (.val .non) h := wp_ok
theorem w_bl : Wp (evR cf (.bl t) st h) Q Ex = Q (.val (.bl t)) h := wp_ok
theorem w_int : Wp (evR cf (.int i) st h) Q Ex = Q (.val (.int i)) h := wp_ok
theorem w_str {z : Str} : Wp (evR cf (.str z) st h) Q Ex = Q (.val (.str z)) h := wp_ok
theorem w_bin {o : Operator} : Wp (evR cf (.bin o a b) st h) Q Ex = Wp (evR cf a st h) (KBin cf Ex o b st Q) Ex := by
  show Wp (bnd _ _) Q Ex = _
  rw [wp_bnd]
  unfold KBin KBin2
  congr
  funext x h1
  rw [wp_bnd]
theorem w_cmp {o : CmpOp} : Wp (evR cf (.cmp o a b) st h) Q Ex = Wp (evR cf a st h) (KCmp cf Ex o b st Q) Ex := by
  show Wp (bnd _ _) Q Ex = _
  rw [wp_bnd]
  unfold KCmp KCmp2
  congr
  funext x h1
  rw [wp_bnd]
theorem w_cmp2 {o p : CmpOp} {c : E} : Wp (evR cf (.cmp2 o p a b c) st h) Q Ex = Wp (evR cf a st h) (KCh cf Ex o p b c st Q) Ex := by
  show Wp (bnd _ _) Q Ex = _
  rw [wp_bnd]
  unfold KCh KCh2 KCh3
  congr
  funext x h1
  rw [wp_bnd]
  congr
  funext y h2
  rw [wp_bnd]
  congr
  funext t h3
  cases t with
  | raw _ => exact wp_fail
  | val d => cases d with
    | bl t => cases t with
      | true =>
        show Wp (bnd _ _) Q Ex = _
        rw [wp_bnd]
        rfl
      | false => exact wp_ok
    | _ => exact wp_fail
theorem w_neg : Wp (evR cf (.neg a) st h) Q Ex = Wp (evR cf a st h) (KNeg Q) Ex := by
  show Wp (bnd _ _) Q Ex = _
  rw [wp_bnd]
  unfold KNeg
  congr
  funext x h1
  cases x with
  | raw _ => exact wp_fail
  | val d => cases d <;> first | rfl | exact wp_fail | exact wp_ok | exact wp_if | (rw [wp_if, wp_ok])
theorem w_and : Wp (evR cf (.and a b) st h) Q Ex = Wp (evR cf a st h) (KAnd cf Ex b st Q) Ex := by
  show Wp (bnd _ _) Q Ex = _
  rw [wp_bnd]
  unfold KAnd
  congr
  funext x h1
  cases tru h1 x with
  | none => first | rfl | exact wp_ok | exact wp_fail | exact wps_fail | exact wps_nx | exact wps_rt | (funext _ _; exact wp_ok) | (funext _ _; exact wps_nx) | (funext _ _; exact wps_rt) | (congr; funext _ _; exact wp_ok) | (congr; funext _ _; exact wps_nx) | (congr; funext _ _; exact wps_rt)
  | some t => cases t <;> (first | rfl | exact wp_ok | exact wp_fail | exact wps_fail | exact wps_nx | exact wps_rt | (funext _ _; exact wp_ok) | (funext _ _; exact wps_nx) | (funext _ _; exact wps_rt) | (congr; funext _ _; exact wp_ok) | (congr; funext _ _; exact wps_nx) | (congr; funext _ _; exact wps_rt))
theorem w_or : Wp (evR cf (.or a b) st h) Q Ex = Wp (evR cf a st h) (KOr cf Ex b st Q) Ex := by
  show Wp (bnd _ _) Q Ex = _
  rw [wp_bnd]
  unfold KOr
  congr
  funext x h1
  cases tru h1 x with
  | none => first | rfl | exact wp_ok | exact wp_fail | exact wps_fail | exact wps_nx | exact wps_rt | (funext _ _; exact wp_ok) | (funext _ _; exact wps_nx) | (funext _ _; exact wps_rt) | (congr; funext _ _; exact wp_ok) | (congr; funext _ _; exact wps_nx) | (congr; funext _ _; exact wps_rt)
  | some t => cases t <;> (first | rfl | exact wp_ok | exact wp_fail | exact wps_fail | exact wps_nx | exact wps_rt | (funext _ _; exact wp_ok) | (funext _ _; exact wps_nx) | (funext _ _; exact wps_rt) | (congr; funext _ _; exact wp_ok) | (congr; funext _ _; exact wps_nx) | (congr; funext _ _; exact wps_rt))
theorem w_not : Wp (evR cf (.not a) st h) Q Ex = Wp (evR cf a st h) (KNot Q) Ex := by
  show Wp (bnd _ _) Q Ex = _
  rw [wp_bnd]
  unfold KNot
  congr
  funext x h1
  cases tru h1 x with
  | none => first | rfl | exact wp_ok | exact wp_fail | exact wps_fail | exact wps_nx | exact wps_rt | (funext _ _; exact wp_ok) | (funext _ _; exact wps_nx) | (funext _ _; exact wps_rt) | (congr; funext _ _; exact wp_ok) | (congr; funext _ _; exact wps_nx) | (congr; funext _ _; exact wps_rt)
  | some t => cases t <;> (first | rfl | exact wp_ok | exact wp_fail | exact wps_fail | exact wps_nx | exact wps_rt | (funext _ _; exact wp_ok) | (funext _ _; exact wps_nx) | (funext _ _; exact wps_rt) | (congr; funext _ _; exact wp_ok) | (congr; funext _ _; exact wps_nx) | (congr; funext _ _; exact wps_rt))
theorem w_ifx {c : E} : Wp (evR cf (.ifx c a b) st h) Q Ex = Wp (evR cf c st h) (KIfx cf Ex a b st Q) Ex := by
  show Wp (bnd _ _) Q Ex = _
  rw [wp_bnd]
  unfold KIfx
  congr
  funext x h1
  cases tru h1 x with
  | none => first | rfl | exact wp_ok | exact wp_fail | exact wps_fail | exact wps_nx | exact wps_rt | (funext _ _; exact wp_ok) | (funext _ _; exact wps_nx) | (funext _ _; exact wps_rt) | (congr; funext _ _; exact wp_ok) | (congr; funext _ _; exact wps_nx) | (congr; funext _ _; exact wps_rt)
  | some t => cases t <;> (first | rfl | exact wp_ok | exact wp_fail | exact wps_fail | exact wps_nx | exact wps_rt | (funext _ _; exact wp_ok) | (funext _ _; exact wps_nx) | (funext _ _; exact wps_rt) | (congr; funext _ _; exact wp_ok) | (congr; funext _ _; exact wps_nx) | (congr; funext _ _; exact wps_rt))
theorem w_tup : Wp (evR cf (.tup es) st h) Q Ex = Wp (evDs cf es st h) (KTup Q) Ex := by
  show Wp (bnd _ _) Q Ex = _
  rw [wp_bnd]
  unfold KTup
  congr
  funext x h1
  rw [wp_if, wp_ok]
theorem w_lst : Wp (evR cf (.lst es) st h) Q Ex = Wp (evDs cf es st h) (KLst Q) Ex := by
  show Wp (bnd _ _) Q Ex = _
  rw [wp_bnd]
  unfold KLst
  congr
  funext x h1
  rw [wp_if, wp_ok]
theorem w_ix : Wp (evR cf (.ix a b) st h) Q Ex = Wp (evR cf a st h) (KIx cf Ex b st Q) Ex := by
  show Wp (bnd _ _) Q Ex = _
  rw [wp_bnd]
  unfold KIx KIx2
  congr
  funext x h1
  rw [wp_bnd]
theorem w_slc {lo hi : Eo} : Wp (evR cf (.slc a lo hi) st h) Q Ex = Wp (evR cf a st h) (KSl cf Ex lo hi st Q) Ex := by
  show Wp (bnd _ _) Q Ex = _
  rw [wp_bnd]
  unfold KSl KSl2 KSl3
  congr
  funext x h1
  rw [wp_bnd]
  congr
  funext y h2
  rw [wp_bnd]
theorem w_revs : Wp (evR cf (.revs a) st h) Q Ex = Wp (evR cf a st h) (KRev Q) Ex := by
  show Wp (bnd _ _) Q Ex = _
  rw [wp_bnd]
  unfold KRev
  congr
  funext x h1
  cases lsOf h1 x with
  | none => exact wp_fail
  | some ds => exact wp_ok
theorem w_call {f : Str} : Wp (evR cf (.call f es) st h) Q Ex = Wp (evDs cf es st h) (KCall cf Ex f Q) Ex := by
  show Wp (bnd _ _) Q Ex = _
  rw [wp_bnd]
  unfold KCall KVal
  congr
  funext x h1
  rw [wp_bnd]
  first | rfl | exact wp_ok | exact wp_fail | exact wps_fail | exact wps_nx | exact wps_rt | (funext _ _; exact wp_ok) | (funext _ _; exact wps_nx) | (funext _ _; exact wps_rt) | (congr; funext _ _; exact wp_ok) | (congr; funext _ _; exact wps_nx) | (congr; funext _ _; exact wps_rt)
theorem w_callk {f : Str} {ks : List Str} {vs : Es} : Wp (evR cf (.callk f es ks vs) st h) Q Ex = Wp (evDs cf es st h) (KCk cf Ex f vs st Q) Ex := by
  show Wp (bnd _ _) Q Ex = _
  rw [wp_bnd]
  unfold KCk KCk2 KVal
  congr
  funext x h1
  rw [wp_bnd]
  congr
  funext y h2
  rw [wp_bnd]
  first | rfl | exact wp_ok | exact wp_fail | exact wps_fail | exact wps_nx | exact wps_rt | (funext _ _; exact wp_ok) | (funext _ _; exact wps_nx) | (funext _ _; exact wps_rt) | (congr; funext _ _; exact wp_ok) | (congr; funext _ _; exact wps_nx) | (congr; funext _ _; exact wps_rt)
theorem w_blt {f : Bf} : Wp (evR cf (.blt f es) st h) Q Ex = Wp (evRs cf es st h) (KBlt Ex f Q) Ex := by
  show Wp (bnd _ _) Q Ex = _
  rw [wp_bnd]
  first | rfl | exact wp_ok | exact wp_fail | exact wps_fail | exact wps_nx | exact wps_rt | (funext _ _; exact wp_ok) | (funext _ _; exact wps_nx) | (funext _ _; exact wps_rt) | (congr; funext _ _; exact wp_ok) | (congr; funext _ _; exact wps_nx) | (congr; funext _ _; exact wps_rt)
theorem w_m0 {m : M0} : Wp (evR cf (.m0 m a) st h) Q Ex = Wp (evR cf a st h) (KM0 Ex m Q) Ex := by
  show Wp (bnd _ _) Q Ex = _
  rw [wp_bnd]
  first | rfl | exact wp_ok | exact wp_fail | exact wps_fail | exact wps_nx | exact wps_rt | (funext _ _; exact wp_ok) | (funext _ _; exact wps_nx) | (funext _ _; exact wps_rt) | (congr; funext _ _; exact wp_ok) | (congr; funext _ _; exact wps_nx) | (congr; funext _ _; exact wps_rt)
theorem w_isi {t : Ty} : Wp (evR cf (.isi a t) st h) Q Ex = Wp (evR cf a st h) (KIsi t Q) Ex := by
  show Wp (bnd _ _) Q Ex = _
  rw [wp_bnd]
  unfold KIsi
  congr
  funext x h1
  cases tagOf h1 x <;> (first | rfl | exact wp_ok | exact wp_fail | exact wps_fail | exact wps_nx | exact wps_rt | (funext _ _; exact wp_ok) | (funext _ _; exact wps_nx) | (funext _ _; exact wps_rt) | (congr; funext _ _; exact wp_ok) | (congr; funext _ _; exact wps_nx) | (congr; funext _ _; exact wps_rt))
theorem w_app : Wp (evR cf (.app a b) st h) Q Ex = Wp (evR cf a st h) (KApp cf Ex b st Q) Ex := by
  show Wp (bnd _ _) Q Ex = _
  rw [wp_bnd]
  unfold KApp KApp2 KMat KApp3
  congr
  funext x h1
  cases lstOf h1 x with
  | none =>
    show Wp .fail Q Ex = _
    rw [wp_fail]
    exact propext ⟨fun z => z.elim, fun z => by cases z.1⟩
  | some l =>
    show Wp (bnd (bnd _ _) _) Q Ex = _
    rw [wp_bnd, wp_bnd]
    exact propext ⟨fun z => ⟨rfl, z⟩, fun z => z.2⟩
theorem w_lc {own : List Nat} {it : I} {g : G} {c : Eo} : Wp (evR cf (.lc own it g c e) st h) Q Ex = Wp (evI cf it st h) (KLc cf Ex own g c e st Q) Ex := by
  show Wp (bnd _ _) Q Ex = _
  rw [wp_bnd]
  unfold KLc KRaw
  congr
  funext x h1
  rw [wp_bnd]
  first | rfl | exact wp_ok | exact wp_fail | exact wps_fail | exact wps_nx | exact wps_rt | (funext _ _; exact wp_ok) | (funext _ _; exact wps_nx) | (funext _ _; exact wps_rt) | (congr; funext _ _; exact wp_ok) | (congr; funext _ _; exact wps_nx) | (congr; funext _ _; exact wps_rt)
theorem w_dnil : Wp (evDs cf .nil st h) QL Ex = QL [] h := wp_ok
theorem w_dcons : Wp (evDs cf (.cons e es) st h) QL Ex = Wp (evR cf e st h) (KMat Ex (KD2 cf Ex es st QL)) Ex := by
  show Wp (bnd (bnd _ _) _) QL Ex = _
  rw [wp_bnd, wp_bnd]
  unfold KMat KD2 KD3
  congr
  funext x h1
  congr
  funext y h2
  rw [wp_bnd]
  first | rfl | exact wp_ok | exact wp_fail | exact wps_fail | exact wps_nx | exact wps_rt | (funext _ _; exact wp_ok) | (funext _ _; exact wps_nx) | (funext _ _; exact wps_rt) | (congr; funext _ _; exact wp_ok) | (congr; funext _ _; exact wps_nx) | (congr; funext _ _; exact wps_rt)
theorem w_rnil : Wp (evRs cf .nil st h) QR Ex = QR [] h := wp_ok
theorem w_rcons : Wp (evRs cf (.cons e es) st h) QR Ex = Wp (evR cf e st h) (KR1 cf Ex es st QR) Ex := by
  show Wp (bnd _ _) QR Ex = _
  rw [wp_bnd]
  unfold KR1 KR2
  congr
  funext x h1
  rw [wp_bnd]
  first | rfl | exact wp_ok | exact wp_fail | exact wps_fail | exact wps_nx | exact wps_rt | (funext _ _; exact wp_ok) | (funext _ _; exact wps_nx) | (funext _ _; exact wps_rt) | (congr; funext _ _; exact wp_ok) | (congr; funext _ _; exact wps_nx) | (congr; funext _ _; exact wps_rt)
theorem w_ono : Wp (evO cf .no st h) QO Ex = QO none h := wp_ok
theorem w_oyes : Wp (evO cf (.yes e) st h) QO Ex = Wp (evR cf e st h) (KO QO) Ex := by
  show Wp (bnd _ _) QO Ex = _
  rw [wp_bnd]
  unfold KO
  congr
  funext x h1
  cases x with
  | raw _ => exact wp_fail
  | val d => cases d <;> first | rfl | exact wp_fail | exact wp_ok | exact wp_if | (rw [wp_if, wp_ok])
theorem w_cno : Wp (evC cf .no st h) QB Ex = QB true h := wp_ok
theorem w_cyes : Wp (evC cf (.yes e) st h) QB Ex = Wp (evR cf e st h) (KC QB) Ex := by
  show Wp (bnd _ _) QB Ex = _
  rw [wp_bnd]
  unfold KC
  congr
  funext x h1
  cases tru h1 x <;> (first | rfl | exact wp_ok | exact wp_fail | exact wps_fail | exact wps_nx | exact wps_rt | (funext _ _; exact wp_ok) | (funext _ _; exact wps_nx) | (funext _ _; exact wps_rt) | (congr; funext _ _; exact wp_ok) | (congr; funext _ _; exact wps_nx) | (congr; funext _ _; exact wps_rt))
theorem w_seq : Wp (evI cf (.seq e) st h) QI Ex = Wp (evR cf e st h) (KSeq QI) Ex := by
  show Wp (bnd _ _) QI Ex = _
  rw [wp_bnd]
  unfold KSeq
  congr
  funext x h1
  cases itSeq x h1 <;> (first | rfl | exact wp_ok | exact wp_fail | exact wps_fail | exact wps_nx | exact wps_rt | (funext _ _; exact wp_ok) | (funext _ _; exact wps_nx) | (funext _ _; exact wps_rt) | (congr; funext _ _; exact wp_ok) | (congr; funext _ _; exact wps_nx) | (congr; funext _ _; exact wps_rt))
theorem w_rng : Wp (evI cf (.rng1 e) st h) QI Ex = Wp (evR cf e st h) (KRng QI) Ex := by
  show Wp (bnd _ _) QI Ex = _
  rw [wp_bnd]
  unfold KRng
  congr
  funext x h1
  cases x with
  | raw _ => exact wp_fail
  | val d => cases d <;> first | rfl | exact wp_fail | exact wp_ok | exact wp_if | (rw [wp_if, wp_ok])
theorem w_rng2 : Wp (evI cf (.rng2 a b) st h) QI Ex = Wp (evR cf a st h) (KRng2 cf Ex b st QI) Ex := by
  show Wp (bnd _ _) QI Ex = _
  rw [wp_bnd]
  unfold KRng2 KRng3
  congr
  funext x h1
  rw [wp_bnd]
  congr
  funext y h2
  cases x with
  | raw _ => exact wp_fail
  | val d => cases d <;> first
    | rfl
    | exact wp_fail
    | exact wp_ok
    | (cases y with
       | raw _ => exact wp_fail
       | val d' => cases d' <;> first | rfl | exact wp_fail | exact wp_ok | exact wp_if | (rw [wp_if, wp_ok]))
theorem w_keys : Wp (evI cf (.keys e) st h) QI Ex = Wp (evR cf e st h) (KKeys QI) Ex := by
  show Wp (bnd _ _) QI Ex = _
  rw [wp_bnd]
  congr
  funext x h1
  unfold KKeys keysOf
  cases x with
  | raw _ => exact wp_fail
  | val d =>
    cases d with
    | ref k =>
      cases eo : h1[k]? with
      | none => simp only [eo]; exact wp_fail
      | some o => cases o <;> simp only [eo] <;> first | exact wp_fail | exact wp_ok
    | _ => exact wp_fail
theorem w_items : Wp (evI cf (.items e) st h) QI Ex = Wp (evR cf e st h) (KItems QI) Ex := by
  show Wp (bnd _ _) QI Ex = _
  rw [wp_bnd]
  congr
  funext x h1
  unfold KItems itemsOf
  cases x with
  | raw _ => exact wp_fail
  | val d =>
    cases d with
    | ref k =>
      cases eo : h1[k]? with
      | none => simp only [eo]; exact wp_fail
      | some o => cases o <;> simp only [eo] <;> first | exact wp_fail | exact wp_ok
    | _ => exact wp_fail
theorem w_enum : Wp (evI cf (.enum e) st h) QI Ex = Wp (evR cf e st h) (KEnum QI) Ex := by
  show Wp (bnd _ _) QI Ex = _
  rw [wp_bnd]
  unfold KEnum KEnum0
  congr
  funext x h1
  cases itSeq x h1 <;> (first | rfl | exact wp_ok | exact wp_fail | exact wps_fail | exact wps_nx | exact wps_rt | (funext _ _; exact wp_ok) | (funext _ _; exact wps_nx) | (funext _ _; exact wps_rt) | (congr; funext _ _; exact wp_ok) | (congr; funext _ _; exact wps_nx) | (congr; funext _ _; exact wps_rt))
theorem zip_key {o p : Option (List D × Gd)} {k : Bool} : Wp (match o, p, k with
    | some p, some q, true => (.ok (zipD p.1 q.1, p.2 ++ q.2) h : Out (List D × Gd))
    | _, _, _ => .fail) QI Ex = ∃ p' q', o = some p' ∧ p = some q' ∧ k = true ∧ QI (zipD p'.1 q'.1, p'.2 ++ q'.2) h := by
  apply propext
  constructor
  · intro z
    split at z
    · rw [wp_ok] at z
      exact ⟨_, _, rfl, rfl, rfl, z⟩
    · rw [wp_fail] at z
      exact z.elim
  · rintro ⟨p', q', rfl, rfl, rfl, z⟩
    show Wp (.ok _ h) QI _
    rw [wp_ok]
    exact z
theorem w_zip : Wp (evI cf (.zip a b) st h) QI Ex = Wp (evR cf a st h) (KZip cf Ex b st QI) Ex := by
  show Wp (bnd _ _) QI Ex = _
  rw [wp_bnd]
  unfold KZip KZip2
  congr
  funext x h1
  rw [wp_bnd]
  congr
  funext y h2
  exact zip_key
theorem w_gname : Wp (evG cf (.name n) d st h) QS Ex = QS (st.set n (some d)) h := wp_ok
theorem w_gtup {gs : Gs} : Wp (evG cf (.tup gs) (.tup ds) st h) QS Ex = Wp (evGs cf gs ds st h) QS Ex := id rfl
theorem sub_key {k : Nat} : Wp (match h[k]? with
    | some (.lst ds) => (match L2.ixN ds.length j with
      | some m => (.ok st (h.set k (.lst (ds.set m d))) : Out St)
      | none => .fail)
    | _ => .fail) QS Ex = ∃ ds m, h[k]? = some (.lst ds) ∧ L2.ixN ds.length j = some m ∧ QS st (h.set k (.lst (ds.set m d))) := by
  apply propext
  constructor
  · intro z
    split at z
    · rename_i ds e1
      split at z
      · rename_i m e2
        rw [wp_ok] at z
        exact ⟨ds, m, e1, e2, z⟩
      · rw [wp_fail] at z
        exact z.elim
    · rw [wp_fail] at z
      exact z.elim
  · rintro ⟨ds, m, e1, e2, z⟩
    rw [e1]
    simp only [e2]
    rw [wp_ok]
    exact z
theorem w_gsub {o i : E} : Wp (evG cf (.sub o i) d st h) QS Ex = Wp (evR cf o st h) (KSub cf i d st QS) := by
  show Wp (bndF _ _) QS Ex = _
  rw [wp_bndF]
  unfold KSub KSub2
  congr
  funext x h1
  rw [wp_bndF]
  congr
  funext y h2
  cases opSet x y d h2 with
  | none => exact wp_fail
  | some _ => exact wp_ok
theorem w_dct {ks : List D} : Wp (evR cf (.dct ks es) st h) Q Ex = Wp (evDs cf es st h) (KDct ks Q) Ex := by
  show Wp (bnd _ _) Q Ex = _
  rw [wp_bnd]
  unfold KDct
  congr
  funext x h1
  rw [wp_if, wp_ok]
theorem w_dnewT : Wp (evR cf (.dnew true) st h) Q Ex = Q (.val (.ref h.length)) (h ++ [.dcn []]) := wp_ok
theorem w_dnewF : Wp (evR cf (.dnew false) st h) Q Ex = Q (.val (.ref h.length)) (h ++ [.dct []]) := wp_ok
theorem w_d1 : Wp (evR cf (.d1 a b) st h) Q Ex = Wp (evR cf a st h) (KMat Ex (KD1a cf Ex b st Q)) Ex := by
  show Wp (bnd (bnd _ _) _) Q Ex = _
  rw [wp_bnd, wp_bnd]
  unfold KMat KD1a KD1b
  congr
  funext x h1
  congr
  funext y h2
  show Wp (bnd (bnd _ _) _) Q Ex = _
  rw [wp_bnd, wp_bnd]
  congr
  funext x h3
  unfold KMat
  congr
  funext v h4
  rw [wp_if, wp_ok]
theorem w_d2 {c d : E} : Wp (evR cf (.d2 a b c d) st h) Q Ex = Wp (evR cf a st h) (KMat Ex (K2a cf Ex b c d st Q)) Ex := by
  show Wp (bnd (bnd _ _) _) Q Ex = _
  rw [wp_bnd, wp_bnd]
  unfold KMat K2a K2b K2c K2d KMat
  congr
  funext x h1
  congr
  funext y h2
  show Wp (bnd (bnd _ _) _) Q Ex = _
  rw [wp_bnd, wp_bnd]
  congr
  funext x h3
  congr
  funext v h4
  show Wp (bnd (bnd _ _) _) Q Ex = _
  rw [wp_bnd, wp_bnd]
  congr
  funext x h5
  congr
  funext v h6
  show Wp (bnd (bnd _ _) _) Q Ex = _
  rw [wp_bnd, wp_bnd]
  congr
  funext x h7
  congr
  funext v h8
  rw [wp_if, wp_ok]
theorem w_best {mx : Bool} : Wp (evR cf (.best mx a) st h) Q Ex = Wp (evR cf a st h) (KBst Ex mx Q) Ex := by
  show Wp (bnd _ _) Q Ex = _
  rw [wp_bnd]
  rfl
theorem w_bestd {mx : Bool} : Wp (evR cf (.bestd mx a b) st h) Q Ex = Wp (evR cf a st h) (KBe1 cf Ex mx b st Q) Ex := by
  show Wp (bnd _ _) Q Ex = _
  rw [wp_bnd]
  unfold KBe1
  congr
  funext x h1
  show Wp (bnd (bnd _ _) _) Q Ex = _
  rw [wp_bnd, wp_bnd]
  rfl
theorem w_trv : Wp (evR cf (.trv a) st h) Q Ex = Wp (evR cf a st h) (KTrv Q) Ex := by
  show Wp (bnd _ _) Q Ex = _
  rw [wp_bnd]
  unfold KTrv
  congr
  funext x h1
  cases lsOf h1 x with
  | none => exact wp_fail
  | some ds => exact wp_ok
theorem w_lrv : Wp (evR cf (.lrv a) st h) Q Ex = Wp (evR cf a st h) (KRev Q) Ex := by
  show Wp (bnd _ _) Q Ex = _
  rw [wp_bnd]
  unfold KRev
  congr
  funext x h1
  cases lsOf h1 x with
  | none => exact wp_fail
  | some ds => exact wp_ok
theorem w_sset : Wp (evR cf (.sset a) st h) Q Ex = Wp (evR cf a st h) (KSset Q) Ex := by
  show Wp (bnd _ _) Q Ex = _
  rw [wp_bnd]
  unfold KSset
  congr
  funext x h1
  cases (lsOf h1 x).bind asInts with
  | none => exact wp_fail
  | some ns => rw [wp_if, wp_ok]
theorem w_lset : Wp (evR cf (.lset a) st h) Q Ex = Wp (evR cf a st h) (KLset Q) Ex := by
  show Wp (bnd _ _) Q Ex = _
  rw [wp_bnd]
  unfold KLset
  congr
  funext x h1
  cases (lsOf h1 x).bind asInts with
  | some ns => show Wp (if _ then _ else _) Q Ex = _; rw [wp_if, wp_ok]
  | none =>
    cases (lsOf h1 x).bind asTups with
    | none => exact wp_fail
    | some ns => show Wp (if _ then _ else _) Q Ex = _; rw [wp_if, wp_ok]
theorem w_lks : Wp (evR cf (.lks a) st h) Q Ex = Wp (evR cf a st h) (KLks Q) Ex := by
  show Wp (bnd _ _) Q Ex = _
  rw [wp_bnd]
  congr
  funext x h1
  unfold KLks keysOf
  cases x with
  | raw _ => exact wp_fail
  | val d =>
    cases d with
    | ref k =>
      cases eo : h1[k]? with
      | none => simp only [eo]; exact wp_fail
      | some o => cases o <;> simp only [eo] <;> first | exact wp_fail | exact wp_ok
    | _ => exact wp_fail
theorem w_dcl : Wp (evR cf (.dcl a) st h) Q Ex = Wp (evR cf a st h) (KDcl Q) Ex := by
  show Wp (bnd _ _) Q Ex = _
  rw [wp_bnd]
  congr
  funext x h1
  show Wp (opDcl x h1) Q Ex = _
  unfold KDcl opDcl
  cases x with
  | raw _ => exact wp_fail
  | val d =>
    cases d with
    | ref k =>
      cases eo : h1[k]? with
      | none => simp only [eo]; exact wp_fail
      | some o =>
        cases o with
        | dcn kvs => simp only [eo]; exact wp_ok
        | _ => simp only [eo]; exact wp_fail
    | _ => exact wp_fail
theorem w_mxv : Wp (evR cf (.mxv a) st h) Q Ex = Wp (evR cf a st h) (KMxv Q) Ex := by
  show Wp (bnd _ _) Q Ex = _
  rw [wp_bnd]
  congr
  funext x h1
  show Wp (opMxv x h1) Q Ex = _
  unfold KMxv opMxv
  cases x with
  | raw _ => exact wp_fail
  | val d =>
    cases d with
    | ref k =>
      cases eo : h1[k]? with
      | none => simp only [eo]; exact wp_fail
      | some o =>
        cases o with
        | dcn kvs =>
          simp only [eo]
          show _ = MxvI Q h1 (asInts (kvs.map (·.2)))
          generalize asInts (kvs.map (·.2)) = o2
          rcases o2 with _ | _ | ⟨n, ns⟩
          · exact wp_fail
          · exact wp_fail
          · exact wp_ok
        | _ => simp only [eo]; exact wp_fail
    | _ => exact wp_fail
theorem w_mkd : Wp (evR cf (.mkd a) st h) Q Ex = Wp (evR cf a st h) (KMkd Q) Ex := by
  show Wp (bnd _ _) Q Ex = _
  rw [wp_bnd]
  congr
  funext x h1
  show Wp (opMkd x h1) Q Ex = _
  unfold KMkd opMkd
  cases (lsOf h1 x).bind asPrs with
  | none => exact wp_fail
  | some ns => exact wp_ok
theorem w_dget {e e2 : E} : Wp (evR cf (.dget a e e2) st h) Q Ex = Wp (evR cf a st h) (KDg1 cf Ex e e2 st Q) Ex := by
  show Wp (bnd _ _) Q Ex = _
  rw [wp_bnd]
  congr
  funext x h1
  unfold KDg1
  cases eo : dOf h1 x with
  | none =>
    rw [wp_fail]
    simp
  | some tk =>
    show Wp (bnd _ _) Q Ex = _
    rw [wp_bnd]
    have : (Option.isSome (some tk) = true ∧ Wp (evR cf e st h1) (KDg2 cf Ex x e2 st Q) Ex) = Wp (evR cf e st h1) (KDg2 cf Ex x e2 st Q) Ex := by simp
    rw [this]
    congr
    funext k h2
    show Wp (bnd (bnd _ _) _) Q Ex = _
    rw [wp_bnd, wp_bnd]
    unfold KDg2 KMat
    congr
    funext y h3
    congr
    funext d h4
    unfold KDg3 opDget
    cases x with
    | raw _ => cases eo
    | val dd =>
      cases dd with
      | ref j =>
        simp only [dOf]
        cases k with
        | raw _ =>
          cases h4[j]? with
          | none => exact wp_fail
          | some o => cases o <;> exact wp_fail
        | val kk =>
          show Wp _ Q _ = GetR h4[j]? kk d Q h4
          cases h4[j]? with
          | none => exact wp_fail
          | some o =>
            cases o with
            | lst _ => exact wp_fail
            | xc _ _ => exact wp_fail
            | dct kvs => show Wp (if okKey false kk = true then _ else _) Q Ex = _; rw [wp_if, wp_ok]; rfl
            | dcn kvs => show Wp (if okKey true kk = true then _ else _) Q Ex = _; rw [wp_if, wp_ok]; rfl
      | _ => cases eo
theorem w_lrg : Wp (evR cf (.lrg a) st h) Q Ex = Wp (evR cf a st h) (KLrg Q) Ex := by
  show Wp (bnd _ _) Q Ex = _
  rw [wp_bnd]
  unfold KLrg
  congr
  funext x h1
  cases x with
  | raw _ => exact wp_fail
  | val d => cases d <;> first | exact wp_fail | (rw [wp_if, wp_ok])
theorem w_m1 {m : M1} : Wp (evR cf (.m1 m a b) st h) Q Ex = Wp (evR cf a st h) (KM1 cf Ex m b st Q) Ex := by
  show Wp (bnd _ _) Q Ex = _
  rw [wp_bnd]
  unfold KM1 KM1b
  congr
  funext x h1
  cases lsOf h1 x with
  | none => exact propext ⟨fun z => (wp_fail (Q := Q) ▸ z : False).elim, fun z => by cases z.1⟩
  | some ds =>
    show Wp (bnd _ _) Q Ex = _
    rw [wp_bnd]
    exact propext ⟨fun z => ⟨rfl, z⟩, fun z => z.2⟩
theorem w_gsnil : Wp (evGs cf .nil [] st h) QS Ex = QS st h := wp_ok
theorem w_gscons {g : G} {gs : Gs} : Wp (evGs cf (.cons g gs) (d :: ds) st h) QS Ex = Wp (evG cf g d st h) (KGs cf Ex gs ds QS) := by
  show Wp (bndF _ _) QS Ex = _
  rw [wp_bndF]
  first | rfl | exact wp_ok | exact wp_fail | exact wps_fail | exact wps_nx | exact wps_rt | (funext _ _; exact wp_ok) | (funext _ _; exact wps_nx) | (funext _ _; exact wps_rt) | (congr; funext _ _; exact wp_ok) | (congr; funext _ _; exact wps_nx) | (congr; funext _ _; exact wps_rt)
theorem w_asg {g : G} : WpS (exS cf (.asg g e) st h) Z X = Wp (evR cf e st h) (KMat (Xat X st) (KAsg2 cf g st Z)) (Xat X st) := by
  show WpS (bndS _ (bnd _ _) _) Z X = _
  rw [wps_bnd, wp_bnd]
  unfold KMat KAsg2
  congr
  funext x h1
  congr
  funext y h2
  rw [wps_bndF]
  first | rfl | exact wp_ok | exact wp_fail | exact wps_fail | exact wps_nx | exact wps_rt | (funext _ _; exact wp_ok) | (funext _ _; exact wps_nx) | (funext _ _; exact wps_rt) | (congr; funext _ _; exact wp_ok) | (congr; funext _ _; exact wps_nx) | (congr; funext _ _; exact wps_rt)
theorem w_par {i j : Nat} : WpS (exS cf (.par i j a b) st h) Z X = Wp (evR cf a st h) (KMat (Xat X st) (KPr1 cf X i j b st Z)) (Xat X st) := by
  show WpS (bndS _ (bnd (bnd _ _) _) _) Z X = _
  rw [wps_bnd, wp_bnd, wp_bnd]
  unfold KMat KPr1 KMat
  congr
  funext x h1
  congr
  funext y h2
  show Wp (bnd (bnd _ _) _) _ _ = _
  rw [wp_bnd, wp_bnd]
  congr
  funext x h3
  congr
  funext v h4
  rw [wp_ok]
  exact wps_nx
theorem aug_key {o : Option (Option D)} {f : Int → OutS} : WpS (match o with
    | some (some (.int a)) => f a
    | _ => .fail) Z X = AugK o fun a => WpS (f a) Z X := by
  cases o with
  | none => exact wps_fail
  | some o => cases o with
    | none => exact wps_fail
    | some d => cases d <;> first | rfl | exact wps_fail
theorem w_aug : WpS (exS cf (.aug n t e) st h) Z X = AugK st[n]? (KAug0 cf X n t e st h Z) := by
  refine Eq.trans aug_key ?_
  congr
  funext a
  rw [wps_bnd]
  unfold KAug0 KAug
  congr
  funext y h1
  cases y with
  | raw _ => exact wps_fail
  | val d => cases d <;> first | exact wps_nx | exact wps_fail
theorem w_expr : WpS (exS cf (.expr e) st h) Z X = Wp (evR cf e st h) (KExpr st Z) (Xat X st) := by
  show WpS (bndS _ _ _) Z X = _
  rw [wps_bnd]
  first | rfl | exact wp_ok | exact wp_fail | exact wps_fail | exact wps_nx | exact wps_rt | (funext _ _; exact wp_ok) | (funext _ _; exact wps_nx) | (funext _ _; exact wps_rt) | (congr; funext _ _; exact wp_ok) | (congr; funext _ _; exact wps_nx) | (congr; funext _ _; exact wps_rt)
theorem w_ret : WpS (exS cf (.ret e) st h) Z X = Wp (evR cf e st h) (KMat (Xat X st) Z.rt) (Xat X st) := by
  show WpS (bndS _ (bnd _ _) _) Z X = _
  rw [wps_bnd, wp_bnd]
  congr
  funext x h1
  show Wp (mat x h1) _ _ = Wp (mat x h1) Z.rt _
  congr
  funext y h2
  exact wps_rt
theorem w_retN : WpS (exS cf .retN st h) Z X = Z.rt .non h := wps_rt
theorem w_ifs {c : E} {a b : Ss} : WpS (exS cf (.ifs c a b) st h) Z X = Wp (evR cf c st h) (KIf cf X a b st Z) (Xat X st) := by
  show WpS (bndS _ _ _) Z X = _
  rw [wps_bnd]
  unfold KIf
  congr
  funext x h1
  cases tru h1 x with
  | none => first | rfl | exact wp_ok | exact wp_fail | exact wps_fail | exact wps_nx | exact wps_rt | (funext _ _; exact wp_ok) | (funext _ _; exact wps_nx) | (funext _ _; exact wps_rt) | (congr; funext _ _; exact wp_ok) | (congr; funext _ _; exact wps_nx) | (congr; funext _ _; exact wps_rt)
  | some t => cases t <;> (first | rfl | exact wp_ok | exact wp_fail | exact wps_fail | exact wps_nx | exact wps_rt | (funext _ _; exact wp_ok) | (funext _ _; exact wps_nx) | (funext _ _; exact wps_rt) | (congr; funext _ _; exact wp_ok) | (congr; funext _ _; exact wps_nx) | (congr; funext _ _; exact wps_rt))
theorem w_whl {c : E} {b : Ss} : WpS (exS cf (.whl c b) st h) Z X = WpS (whlLoop (WT cf c) (exSs cf b) WF st h) Z X := id rfl
theorem w_test {c : E} : Wp (WT cf c st h) QB Ex = Wp (evR cf c st h) (KC QB) Ex := w_cyes
theorem w_for {it : I} {g : G} {b : Ss} : WpS (exS cf (.for_ it g b) st h) Z X = Wp (evI cf it st h) (KFor cf X g b st Z) (Xat X st) := by
  show WpS (bndS _ _ _) Z X = _
  rw [wps_bnd]
  first | rfl | exact wp_ok | exact wp_fail | exact wps_fail | exact wps_nx | exact wps_rt | (funext _ _; exact wp_ok) | (funext _ _; exact wps_nx) | (funext _ _; exact wps_rt) | (congr; funext _ _; exact wp_ok) | (congr; funext _ _; exact wps_nx) | (congr; funext _ _; exact wps_rt)
theorem w_brk : WpS (exS cf .brk st h) Z X = Z.bk st h := wps_bk
theorem w_cnt : WpS (exS cf .cnt st h) Z X = Z.ct st h := wps_ct
theorem w_pas : WpS (exS cf .pas st h) Z X = Z.nx st h := wps_nx
theorem w_snil : WpS (exSs cf .nil st h) Z X = Z.nx st h := wps_nx
theorem w_scons {s : S} : WpS (exSs cf (.cons s ss) st h) Z X = WpS (exS cf s st h) (Z.sq cf X ss) X := by
  show WpS (thenS _ _) Z X = _
  rw [wps_then]
  first | rfl | exact wp_ok | exact wp_fail | exact wps_fail | exact wps_nx | exact wps_rt | (funext _ _; exact wp_ok) | (funext _ _; exact wps_nx) | (funext _ _; exact wps_rt) | (congr; funext _ _; exact wp_ok) | (congr; funext _ _; exact wps_nx) | (congr; funext _ _; exact wps_rt)
/-! a loop over items that stand written -/
def Ez.lp (Z : Ez) (X : XkS) (b : D → St → Hh → OutS) (gs : Gd) (ds : List D) : Ez := ⟨fun st h => WpS (forLoop b gs ds st h) Z X, Z.rt, Z.nx, fun st h => WpS (forLoop b gs ds st h) Z X⟩
theorem lp_nx {b : D → St → Hh → OutS} {gs : Gd} : (Z.lp X b gs ds).nx st h = WpS (forLoop b gs ds st h) Z X := id rfl
theorem lp_ct {b : D → St → Hh → OutS} {gs : Gd} : (Z.lp X b gs ds).ct st h = WpS (forLoop b gs ds st h) Z X := id rfl
theorem lp_bk {b : D → St → Hh → OutS} {gs : Gd} : (Z.lp X b gs ds).bk = Z.nx := id rfl
theorem lp_rt {b : D → St → Hh → OutS} {gs : Gd} : (Z.lp X b gs ds).rt = Z.rt := id rfl
theorem w_fnil {b : D → St → Hh → OutS} : WpS (forLoop b [] [] st h) Z X = Z.nx st h := by
  unfold forLoop
  rw [if_pos still_nil, wps_nx]
theorem w_fcons {b : D → St → Hh → OutS} : WpS (forLoop b [] (d :: ds) st h) Z X = WpS (b d st h) (Z.lp X b [] ds) X := by
  conv => lhs; unfold forLoop
  rw [if_pos still_nil, wps_R, wps_R]
  cases b d st h with
  | nx st h => exact wps_R.symm
  | ct st h => exact wps_R.symm
  | bk st h => rfl
  | rt st h => rfl
  | exc => rfl
  | fail => rfl
/-! exceptions, lambdas -/
theorem capD_n {st : St} : capD st [] = some [] := id rfl
theorem capD_c {st : St} {j : Nat} {js : List Nat} : capD st (j :: js) = CapC st[j]? (capD st js) := by
  conv => lhs; unfold capD
  unfold CapC
  rfl
theorem capC_ {d : D} {ds : List D} : CapC (some (some d)) (some ds) = some (d :: ds) := id rfl
theorem capK_ {f : Str} {x y : D} {cs : List D} : CapK cf Ex f x y Q h (some cs) = Wp (cf f (x :: y :: cs) h) (KVal Q) Ex := id rfl
theorem KCl2_ {f : Str} {x y : D} {js : List Nat} : KCl2 cf Ex f x js st Q y h = CapK cf Ex f x y Q h (capD st js) := id rfl
theorem KCl_ {f : Str} {x : D} {b : E} {js : List Nat} : KCl cf Ex f b js st Q x h = Wp (evR cf b st h) (KMat Ex (KCl2 cf Ex f x js st Q)) Ex := id rfl
theorem w_calll {f : Str} {a b : E} {js : List Nat} : Wp (evR cf (.calll f a b js) st h) Q Ex = Wp (evR cf a st h) (KMat Ex (KCl cf Ex f b js st Q)) Ex := by
  show Wp (bnd (bnd _ mat) _) Q Ex = _
  rw [wp_bnd, wp_bnd]
  unfold KMat KCl
  congr
  funext x h1
  congr
  funext y h2
  rw [wp_bnd, wp_bnd]
  unfold KMat KCl2
  congr
  funext x2 h3
  congr
  funext y2 h4
  cases capD st js with
  | none => exact wp_fail
  | some cs =>
    show Wp (bnd _ _) Q Ex = Wp _ (KVal Q) Ex
    rw [wp_bnd]
    unfold KVal
    congr
    funext z h5
    exact wp_ok
theorem wntK {p : Prop} : WntK p (some (some .fnv)) = p := id rfl
theorem w_wnt {i : Nat} {es : Es} : Wp (evR cf (.wnt i es) st h) Q Ex = WntK (Wp (evDs cf es st h) (KCall cf Ex "wanted!" Q) Ex) st[i]? := by
  show Wp (match st[i]? with
    | some (some .fnv) => bnd (evDs cf es st h) fun ds h => bnd (cf "wanted!" ds h) fun d h => .ok (.val d) h
    | _ => .fail) Q Ex = _
  unfold WntK
  cases st[i]? with
  | none => exact wp_fail
  | some o =>
    cases o with
    | none => exact wp_fail
    | some d =>
      cases d with
      | fnv =>
        show Wp (bnd _ _) Q Ex = _
        rw [wp_bnd]
        unfold KCall KVal
        congr
        funext x h1
        rw [wp_bnd]
        congr
        funext y h2
        exact wp_ok
      | _ => exact wp_fail
/-! calls of a def that holds a lambda -/
theorem hof_w {l : Str} {cs ds : List D} : hofF cf l cs (Str.ofString "wanted!") ds h = cf l (ds ++ cs) h := by
  unfold hofF
  rw [if_pos rfl]
theorem hof_o {l g : Str} {cs ds : List D} (n : decide (g = (Str.ofString "wanted!")) = false) : hofF cf l cs g ds h = cf g ds h := by
  unfold hofF
  rw [if_neg (of_decide_eq_false n)]
theorem mkxK {c : Str} {fs : List (Str × D)} : MkxK c Q h (some fs) = Q (.val (.ref h.length)) (h ++ [.xc c fs]) := id rfl
theorem KMkx_ {c : Str} : KMkx c Q ds h = MkxK c Q h (xfs c ds) := id rfl
theorem w_mkx {c : Str} : Wp (evR cf (.mkx c es) st h) Q Ex = Wp (evDs cf es st h) (KMkx c Q) Ex := by
  show Wp (bnd _ _) Q Ex = _
  rw [wp_bnd]
  unfold KMkx
  congr
  funext x h1
  cases xfs c x with
  | none => exact wp_fail
  | some fs => exact wp_ok
theorem isxK {cs : List Str} {g : Option Str} : IsxK cs Q h (some g) = Q (.val (.bl (xIn cs g))) h := id rfl
theorem KIsx_ {cs : List Str} : KIsx cs Q x h = IsxK cs Q h (xTag h x) := id rfl
theorem w_isx {cs : List Str} : Wp (evR cf (.isx a cs) st h) Q Ex = Wp (evR cf a st h) (KIsx cs Q) Ex := by
  show Wp (bnd _ _) Q Ex = _
  rw [wp_bnd]
  unfold KIsx
  congr
  funext x h1
  cases xTag h1 x with
  | none => exact wp_fail
  | some fs => exact wp_ok
theorem xTag_n : xTag h (.val .non) = some none := id rfl
def xTagR : Option O → Option (Option Str)
  | some (.xc c _) => some (some c)
  | _ => none
theorem xTag_r {k : Nat} : xTag h (.val (.ref k)) = xTagR h[k]? := by
  simp only [xTag]
  cases h[k]? with
  | none => rfl
  | some o => cases o <;> rfl
theorem xTagR_ {c : Str} {fs : List (Str × D)} : xTagR (some (.xc c fs)) = some (some c) := id rfl
def FldO (f : Str) (h : Hh) : Option O → Out RV
  | some (.xc _ fs) => match fs.lookup f with
    | some d => .ok (.val d) h
    | none => .fail
  | _ => .fail
theorem KFld_ {k : Nat} {f : Str} : KFld Ex f Q (.val (.ref k)) h = Wp (FldO f h h[k]?) Q Ex := by
  unfold KFld
  simp only [opFld]
  cases h[k]? with
  | none => rfl
  | some o => cases o <;> rfl
theorem FldO_ {c f : Str} {d : D} : FldO f h (some (.xc c [(f, d)])) = .ok (.val d) h := by
  simp only [FldO, List.lookup_cons, beq_self_eq_true]
theorem w_fld {f : Str} : Wp (evR cf (.fld a f) st h) Q Ex = Wp (evR cf a st h) (KFld Ex f Q) Ex := by
  show Wp (bnd _ _) Q Ex = _
  rw [wp_bnd]
  rfl
theorem KRai_ {c : Str} : KRai X c st ds h = RaiK X c st h (xfs c ds) := id rfl
theorem raiK {c : Str} {fs : List (Str × D)} : RaiK X c st h (some fs) = X c fs st h := id rfl
theorem w_raise {c : Str} : WpS (exS cf (.raise c es) st h) Z X = Wp (evDs cf es st h) (KRai X c st) (Xat X st) := by
  show WpS (bndS _ _ _) Z X = _
  rw [wps_bnd]
  unfold KRai
  congr
  funext x h1
  cases xfs c x with
  | none => exact wps_fail
  | some fs => exact wps_exc
theorem w_nev : WpS (exS cf .nev st h) Z X = False := wps_fail
theorem w_try {b : Ss} {hs : Hs} : WpS (exS cf (.try_ b hs) st h) Z X = WpS (exSs cf b st h) Z (XTry cf X hs Z) := by
  show WpS (match exSs cf b st h with
    | .exc c fs st h => exHs cf hs c fs st h
    | o => o) Z X = _
  cases exSs cf b st h with
  | nx st h => rw [wps_nx]; exact wps_nx.symm
  | rt d h => rw [wps_rt]; exact wps_rt.symm
  | bk d h => rw [wps_bk]; exact wps_bk.symm
  | ct d h => rw [wps_ct]; exact wps_ct.symm
  | exc c d st h => rw [wps_exc]; rfl
  | fail => rw [wps_fail]; exact wps_fail.symm
theorem XTry_ {hs : Hs} {c : Str} {fs : List (Str × D)} : XTry cf X hs Z c fs st h = WpS (exHs cf hs c fs st h) Z X := id rfl
theorem w_hnil {c : Str} {fs : List (Str × D)} : WpS (exHs cf .nil c fs st h) Z X = X c fs st h := wps_exc
theorem endH_wp {i : Option Nat} {o : OutS} : WpS (endH i o) Z X = WpS o (Z.hd i) NoX := by
  cases o with
  | nx st h => show WpS (.nx _ _) Z X = _; rw [wps_nx, wps_nx]; rfl
  | rt d h => show WpS (.rt _ _) Z X = _; rw [wps_rt, wps_rt]; rfl
  | bk d h => show WpS (.bk _ _) Z X = _; rw [wps_bk, wps_bk]; rfl
  | ct d h => show WpS (.ct _ _) Z X = _; rw [wps_ct, wps_ct]; rfl
  | exc c d st h => show WpS .fail Z X = _; rw [wps_fail, wps_exc]; rfl
  | fail => show WpS .fail Z X = _; rw [wps_fail, wps_fail]
theorem w_hcons {k c : Str} {i : Option Nat} {b : Ss} {hs : Hs} {fs : List (Str × D)} : WpS (exHs cf (.cons k i b hs) c fs st h) Z X = if subX c k = true then WpS (exSs cf b (inH i st h) (h ++ [.xc c fs])) (Z.hd i) NoX else WpS (exHs cf hs c fs st h) Z X := by
  show WpS (if _ then _ else _) Z X = _
  by_cases e : subX c k = true
  · rw [if_pos e, if_pos e, endH_wp]
  · rw [if_neg e, if_neg e]
theorem hd_nx {i : Option Nat} : (Z.hd i).nx st h = Z.nx (unN i st) h := id rfl
theorem hd_rt {i : Option Nat} : (Z.hd i).rt = Z.rt := id rfl
theorem hd_bk {i : Option Nat} : (Z.hd i).bk st h = Z.bk (unN i st) h := id rfl
theorem hd_ct {i : Option Nat} : (Z.hd i).ct st h = Z.ct (unN i st) h := id rfl
theorem inH_s {i : Nat} : inH (some i) st h = st.set i (some (.ref h.length)) := id rfl
theorem inH_n : inH none st h = st := id rfl
theorem unN_s {i : Nat} : unN (some i) st = st.set i none := id rfl
theorem unN_n : unN none st = st := id rfl
theorem xat_no : Xat NoX st = NoE := id rfl
theorem Xat_ {c : Str} {fs : List (Str × D)} : Xat X st c fs h = X c fs st h := id rfl
def KRev0 (Q : List D × Gd → Hh → Prop) : List D × Gd → Hh → Prop := fun p h => Q (p.1.reverse, p.2) h
def KRevI (Q : List D × Gd → Hh → Prop) : RV → Hh → Prop := fun x h => ItK (itSeq x h) (KRev0 Q) h
theorem KRev0_ {p : List D × Gd} : KRev0 QI p h = QI (p.1.reverse, p.2) h := id rfl
theorem KRevI_ : KRevI QI x h = ItK (itSeq x h) (KRev0 QI) h := id rfl
theorem w_rev : Wp (evI cf (.rev e) st h) QI Ex = Wp (evR cf e st h) (KRevI QI) Ex := by
  show Wp (bnd _ _) QI Ex = _
  rw [wp_bnd]
  unfold KRevI KRev0
  congr
  funext x h1
  cases itSeq x h1 with
  | none => exact wp_fail
  | some p => exact wp_ok
/-! texts -/
def KSm2 (Ex : Xk) (m : SM) (x : RV) (Q : RV → Hh → Prop) : RV → Hh → Prop := fun y h => Wp (opSM m x y h) Q Ex
def KSm (cf : Str → List D → Hh → Out D) (Ex : Xk) (m : SM) (b : E) (st : St) (Q : RV → Hh → Prop) : RV → Hh → Prop := fun x h => match x with
  | .val (.str z) => Wp (evR cf b st h) (KSm2 Ex m (.val (.str z)) Q) Ex
  | _ => False
theorem KSm_ {m : SM} {z : Str} : KSm cf Ex m b st Q (.val (.str z)) h = Wp (evR cf b st h) (KSm2 Ex m (.val (.str z)) Q) Ex := id rfl
theorem KSm2_ {m : SM} : KSm2 Ex m x Q y h = Wp (opSM m x y h) Q Ex := id rfl
theorem w_sm {m : SM} : Wp (evR cf (.sm m a b) st h) Q Ex = Wp (evR cf a st h) (KSm cf Ex m b st Q) Ex := by
  show Wp (bnd _ _) Q Ex = _
  rw [wp_bnd]
  congr
  funext x h1
  cases x with
  | raw _ => exact wp_fail
  | val d =>
    cases d with
    | str z =>
      show Wp (bnd _ _) Q Ex = _
      rw [wp_bnd]
      rfl
    | _ => exact wp_fail
theorem sm_split {z w : Str} : Wp (opSM .split (.val (.str z)) (.val (.str w)) h) Q Ex = (((w.length == 0) = false ∧ z.length + 2 ≤ 16777216) ∧ Q (.raw ((PySem.Txt.split z w).map .str)) h) := by
  show Wp (if _ then _ else _) Q Ex = _
  rw [wp_if, wp_ok]
  rfl
theorem sm_part {z w : Str} : Wp (opSM .part (.val (.str z)) (.val (.str w)) h) Q Ex = (((w.length == 0) = false ∧ z.length ≤ 16777216) ∧ Q (.val (.tup [.str (PySem.Txt.partition z w).1, .str (PySem.Txt.partition z w).2.1, .str (PySem.Txt.partition z w).2.2])) h) := by
  show Wp (if _ then _ else _) Q Ex = _
  rw [wp_if, wp_ok]
  rfl
theorem asStrs_map : ∀ zs : List Str, asStrs (zs.map D.str) = some zs
  | [] => rfl
  | z :: zs => by
    have ih := asStrs_map zs
    unfold asStrs at ih ⊢
    rw [List.map_cons, allSome, ih]
theorem sm_join {z : Str} {zs : List Str} : Wp (opSM .join (.val (.str z)) (.raw (zs.map D.str)) h) Q Ex = ((zs.map (·.length)).sum + zs.length * z.length ≤ 16777216 ∧ Q (.val (.str (PySem.Txt.join z zs))) h) := by
  have e : (seqOf h (.raw (zs.map D.str))).bind asStrs = some zs := asStrs_map zs
  simp only [opSM, e]
  rw [wp_if, wp_ok]
def KSin2 (Ex : Xk) (n : Bool) (x : RV) (Q : RV → Hh → Prop) : RV → Hh → Prop := fun y h => Wp (opSin n x y h) Q Ex
def KSin (cf : Str → List D → Hh → Out D) (Ex : Xk) (n : Bool) (b : E) (st : St) (Q : RV → Hh → Prop) : RV → Hh → Prop := fun x h => Wp (evR cf b st h) (KSin2 Ex n x Q) Ex
theorem KSin_ {n : Bool} : KSin cf Ex n b st Q x h = Wp (evR cf b st h) (KSin2 Ex n x Q) Ex := id rfl
theorem KSin2_ {n : Bool} : KSin2 Ex n x Q y h = Wp (opSin n x y h) Q Ex := id rfl
theorem w_sin {n : Bool} : Wp (evR cf (.sin n a b) st h) Q Ex = Wp (evR cf a st h) (KSin cf Ex n b st Q) Ex := by
  show Wp (bnd _ _) Q Ex = _
  rw [wp_bnd]
  congr
  funext x h1
  show Wp (bnd _ _) Q Ex = _
  rw [wp_bnd]
  rfl
theorem sin_in {c : Nat} {z : Str} : Wp (opSin false (.val (.str ⟨#[c]⟩)) (.val (.str z)) h) Q Ex = Q (.val (.bl (decide (c ∈ z.cps.toList)))) h := wp_ok
theorem sin_not {c : Nat} {z : Str} : Wp (opSin true (.val (.str ⟨#[c]⟩)) (.val (.str z)) h) Q Ex = Q (.val (.bl (!decide (c ∈ z.cps.toList)))) h := wp_ok
theorem w_figs : Wp (evR cf (.glob "FIGURES") st h) Q Ex = Q (.val (.str "0123456789")) h := by
  have e : glbV "FIGURES" = some "0123456789" := by decide +kernel
  show Wp (match glbV "FIGURES" with | some v => .ok (.val (.str v)) h | none => .fail) Q Ex = _
  rw [e]
  exact wp_ok
def KTxt (QI : List D × Gd → Hh → Prop) : RV → Hh → Prop := fun x h => match x with
  | .val (.str z) => QI (signs z, []) h
  | _ => False
theorem KTxt_ {z : Str} : KTxt QI (.val (.str z)) h = QI (signs z, []) h := id rfl
theorem w_txt : Wp (evI cf (.txt e) st h) QI Ex = Wp (evR cf e st h) (KTxt QI) Ex := by
  show Wp (bnd _ _) QI Ex = _
  rw [wp_bnd]
  congr
  funext x h1
  cases x with
  | raw _ => exact wp_fail
  | val d =>
    cases d with
    | str z => exact wp_ok
    | _ => exact wp_fail
/-- int(a text) -/
theorem int_text {z : Str} {n : Int} (e : PySem.intText? z = some n) (l : z.length ≤ 640) : opB .int [.val (.str z)] h = .ok (.val (.int n)) h := by
  show (match PySem.intText? z with | some n => if z.length ≤ 640 then Out.ok (RV.val (.int n)) h else .fail | none => .fail) = _
  rw [e]
  exact if_pos l
end
end Py
/-! Core, part S: the law's box of two numbers; comprehensions turn by turn. -/
namespace Py
open PySem
/-- two numbers at k: what is left of the cell, the seed -/
def Box (h : Hh) (k : Nat) : Prop := ∃ a b : Int, h[k]? = some (.lst [.int a, .int b]) ∧ 0 ≤ b ∧ b < 2147483648
theorem Box.lt {h : Hh} {k : Nat} (B : Box h k) : k < h.length := by
  obtain ⟨a, b, e, _⟩ := B
  exact (List.getElem?_eq_some_iff.mp e).1
theorem Box.push {h x : Hh} {k : Nat} (B : Box h k) : Box (h ++ x) k := by
  have hk := B.lt
  obtain ⟨a, b, e, r⟩ := B
  exact ⟨a, b, by rw [List.getElem?_append_left hk]; exact e, r⟩
section
variable {Ex : Xk} {h h' : Hh} {k j : Nat} {d : D} {Q : D → Hh → Prop} {o : O}
theorem Box.lows (B : Box h' k) {n : Nat} : ∀ i ∈ [k], ∀ o, h'[i]? = some o → lowO n o = true := fun i hi o e => by
  obtain ⟨a, b, e2, _⟩ := B
  rw [List.mem_singleton.mp hi, e2] at e
  cases e
  rfl
/-- behind a def that draws from the box -/
theorem gc_box (F : Fr [k] h h') (B : Box h' k) (hk : k < h.length) (hd : low h.length d = true) (q : ∀ h2, Fr [k] h h2 → h2.length = h.length → Box h2 k → Q d h2) : Wp (gc h.length h d h') Q Ex := by
  rw [gc_low F B.lows hd]
  obtain ⟨a, b, e, r⟩ := B
  rw [F.take1 hk e, wp_ok]
  exact q _ (Fr.refl.set (.inl (by simp))) (by simp) ⟨a, b, List.getElem?_set_self hk, r⟩
theorem gc_boxN (F : Fr [k] h h') (B : Box h' k) (hk : k < h.length) (hj : h.length ≤ j) (ej : h'[j]? = some o) (ho : lowO h.length o = true) (q : ∀ h2, Fr [k] h h2 → h2.length = h.length + 1 → Box h2 k → h2[h.length]? = some o → Q (.ref h.length) h2) : Wp (gc h.length h (.ref j) h') Q Ex := by
  rw [gc_new F B.lows hj ej ho]
  obtain ⟨a, b, e, r⟩ := B
  rw [F.take1 hk e, wp_ok]
  refine q _ ((Fr.refl.set (.inl (by simp))).push) (by simp) ⟨a, b, ?_, r⟩ ?_
  · rw [List.getElem?_append_left (by rw [List.length_set]; exact hk)]
    exact List.getElem?_set_self hk
  · rw [List.getElem?_append_right (by rw [List.length_set]; exact Nat.le_refl _), List.length_set, Nat.sub_self]
    rfl
/-- each turn keeps I and gives a value -/
theorem lc_each {turn : D → Hh → Out (Option D)} {gs : Gd} {ds : List D} (I : Hh → Prop) (P : Nat → D → Prop) (hI : I h) (hl : ds.length ≤ SZ) (hs : ∀ h, I h → still gs h) (ht : ∀ (i : Nat) (d : D) (h : Hh), ds[i]? = some d → I h → Wp (turn d h) fun r h' => I h' ∧ ∃ v, r = some v ∧ P i v) :
    Wp (lcLoop turn gs ds [] h) (fun vs h' => I h' ∧ vs.length = ds.length ∧ ∀ i v, vs[i]? = some v → P i v) Ex := by
  refine lc_run (fun i acc h => I h ∧ acc.length = i ∧ ∀ j v, acc[j]? = some v → P j v) ⟨hI, rfl, fun j v e => by simp at e⟩ (fun i d acc h e ⟨h1, h2, h3⟩ => ⟨hs h h1, (ht i d h e h1).mono fun r h' ⟨q, v, er, p⟩ => ?_⟩) (fun acc h q => hs h q.1) (fun vs h' q => q)
  subst er
  have hi := (List.getElem?_eq_some_iff.mp e).1
  refine ⟨by omega, q, by simp [h2], fun j w ej => ?_⟩
  by_cases hj : j < acc.length
  · rw [List.getElem?_append_left hj] at ej
    exact h3 j w ej
  · rw [List.getElem?_append_right (by omega)] at ej
    have : j - acc.length = 0 := by
      by_cases z : j - acc.length = 0
      · exact z
      · rw [List.getElem?_eq_none (by simp; omega)] at ej
        cases ej
    rw [this] at ej
    cases ej
    have : j = i := by omega
    rw [this]
    exact p
theorem okMul_01 {x : Int} {c : Prop} [Decidable c] : okMul x (if c then 1 else 0) = true := by
  split
  · exact okMul_r (by decide) (by decide)
  · exact okMul_r (by decide) (by decide)
theorem Fr.forget {h1 h2 : Hh} (a : Fr [] h h1) (b : Fr [k] h1 h2) (hk : h.length ≤ k) : Fr [] h h2 := ⟨Nat.le_trans a.1 b.1, fun j hj _ => (b.2 j (Nat.lt_of_lt_of_le hj a.1) (by simp only [List.mem_singleton]; omega)).trans (a.2 j hj (by simp))⟩
theorem cut_len (ds : List D) (lo hi : Option Int) : (cut ds lo hi).length ≤ ds.length := by
  unfold cut
  rw [List.length_take, List.length_drop]
  omega
theorem cut_mem {ds : List D} {lo hi : Option Int} {d : D} (e : d ∈ cut ds lo hi) : d ∈ ds := List.mem_of_mem_drop (List.mem_of_mem_take e)
/-- a new list, all else as it was -/
theorem gc_list {ds : List D} (F : Fr [] h h') (hl : lows h.length ds = true) : gc h.length h (.ref h'.length) (h' ++ [.lst ds]) = .ok (.ref h.length) (h ++ [.lst ds]) := by
  rw [gc_new (ks := []) (o := .lst ds) F.push (by simp) F.1 push_at hl, Fr.take0 F.push]
/-- a value, all else as it was -/
theorem gc_val {d : D} (F : Fr [] h h') (hd : low h.length d = true) : gc h.length h d h' = .ok d h := by
  rw [gc_low F (by simp) hd, F.take0]
theorem gc_end {Q : D → Hh → Prop} {d : D} (F : Fr [] h h') (hd : low h.length d = true) (q : Q d h := by rfl) : Wp (gc h.length h d h') Q Ex := by
  rw [gc_val F hd, wp_ok]
  exact q
/-- a comprehension whose turns change nothing -/
theorem lc_map {turn : D → Hh → Out (Option D)} {gs : Gd} {ds : List D} {QL : List D → Hh → Prop} (f : D → D) (s : still gs h) (hl : ds.length ≤ 16777216) (ht : ∀ d ∈ ds, Wp (turn d h) fun a h' => a = some (f d) ∧ h' = h) (q : QL (ds.map f) h) : Wp (lcLoop turn gs ds [] h) QL Ex :=
  .of (lc_pure f s hl fun d hd => by
    obtain ⟨a, h', e, rfl, rfl⟩ := (ht d hd).get
    exact e) q
/-- .. with a test -/
theorem lc_fmap {turn : D → Hh → Out (Option D)} {gs : Gd} {ds : List D} {QL : List D → Hh → Prop} (f : D → Option D) (s : still gs h) (hl : ds.length ≤ 16777216) (ht : ∀ d ∈ ds, Wp (turn d h) fun a h' => a = f d ∧ h' = h) (q : QL (ds.filterMap f) h) : Wp (lcLoop turn gs ds [] h) QL Ex :=
  .of (lc_filt f s hl fun d hd => by
    obtain ⟨a, h', e, rfl, rfl⟩ := (ht d hd).get
    exact e) q
theorem rng_get {lo : Int} {n i : Nat} {d : D} (e : (rng lo n)[i]? = some d) : i < n ∧ d = .int (lo + (i : Nat)) := by
  unfold rng at e
  rw [List.getElem?_map] at e
  by_cases hi : i < n
  · rw [List.getElem?_range hi] at e
    cases e
    exact ⟨hi, rfl⟩
  · rw [List.getElem?_eq_none (by simp; omega)] at e
    cases e
theorem rng_len {lo : Int} {n : Nat} : (rng lo n).length = n := by unfold rng; simp
/-! what == says of ints, of lists and tuples of ints -/
theorem toP_int {n : Nat} {i : Int} : toP h n (.int i) = some (.int i) := by cases n <;> rfl
theorem eqvAll_ints : ∀ ns ms : List Int, PyData.eqvAll (ns.map PyData.int) (ms.map PyData.int) = decide (ns = ms)
  | [], [] => by simp [PyData.eqvAll]
  | [], _ :: _ => by simp [PyData.eqvAll]
  | _ :: _, [] => by simp [PyData.eqvAll]
  | a :: as, b :: bs => by
    rw [List.map_cons, List.map_cons, PyData.eqvAll, eqv_int, eqvAll_ints as bs]
    by_cases e : a = b <;> by_cases e2 : as = bs <;> simp [e, e2]
theorem toP_ints {n : Nat} (ns : List Int) : allSome (toP h n) (ns.map D.int) = some (ns.map PyData.int) := allSome_map (fun _ => toP_int) ns
theorem toPR_refI {ns : List Int} (e : h[k]? = some (.lst (ns.map D.int))) : toPR h (.val (.ref k)) = some (.list (ns.map .int)) := by
  show (match h[k]? with | some (.lst ds) => (allSome (toP h 40) ds).map PyData.list | _ => none) = _
  rw [e]
  show (allSome (toP h 40) (ns.map D.int)).map PyData.list = _
  rw [toP_ints]
  rfl
theorem toPR_rawI {ns : List Int} : toPR h (.raw (ns.map D.int)) = some (.list (ns.map .int)) := by
  show (allSome (toP h 40) (ns.map D.int)).map PyData.list = _
  rw [toP_ints]
  rfl
theorem eq_lists {x y : RV} {ns ms : List Int} (e1 : toPR h x = some (.list (ns.map .int))) (e2 : toPR h y = some (.list (ms.map .int))) : opCmp .Eq x y h = .ok (.val (.bl (decide (ns = ms)))) h := by
  simp only [opCmp, e1, e2]
  rw [PyData.eqv, eqvAll_ints]
theorem ne_lists {x y : RV} {ns ms : List Int} (e1 : toPR h x = some (.list (ns.map .int))) (e2 : toPR h y = some (.list (ms.map .int))) : opCmp .NotEq x y h = .ok (.val (.bl (!decide (ns = ms)))) h := by
  simp only [opCmp, e1, e2]
  rw [PyData.eqv, eqvAll_ints]
theorem toPR_tupI {ns : List Int} : toPR h (.val (.tup (ns.map D.int))) = some (.tuple (ns.map .int)) := by
  show (allSome (toP h 40) (ns.map D.int)).map PyData.tuple = _
  rw [toP_ints]
  rfl
theorem eq_tup {ns ms : List Int} : opCmp .Eq (.val (.tup (ns.map D.int))) (.val (.tup (ms.map D.int))) h = .ok (.val (.bl (decide (ns = ms)))) h := by
  simp only [opCmp, toPR_tupI]
  rw [PyData.eqv, eqvAll_ints]
theorem eq_pair {a b c e : Int} : opCmp .Eq (.val (.tup [.int a, .int b])) (.val (.tup [.int c, .int e])) h = .ok (.val (.bl (decide (a = c ∧ b = e)))) h := by
  have z := eq_tup (h := h) (ns := [a, b]) (ms := [c, e])
  simp only [List.map_cons, List.map_nil] at z
  rw [z]
  congr 3
  simp
theorem eqv_bool {a b : Bool} : PyData.eqv (.bool a) (.bool b) = decide (a = b) := by
  rw [PyData.eqv]
  cases a <;> cases b <;> rfl
theorem r_eqb {a b : Bool} : opCmp .Eq (.val (.bl a)) (.val (.bl b)) h = .ok (.val (.bl (decide (a = b)))) h := by
  show Out.ok (RV.val (.bl (PyData.eqv (.bool a) (.bool b)))) h = _
  rw [eqv_bool]
theorem list_of {n : Nat} {vs : List D} {f : Nat → D} (hl : vs.length = n) (hv : ∀ i v, vs[i]? = some v → v = f i) : vs = (List.range n).map f := by
  apply List.ext_getElem?
  intro i
  rw [List.getElem?_map]
  by_cases hi : i < n
  · rw [List.getElem?_range hi, List.getElem?_eq_getElem (by omega)]
    exact congrArg some (hv i _ (List.getElem?_eq_getElem (by omega)))
  · rw [List.getElem?_eq_none (by omega), List.getElem?_eq_none (by simp; omega)]
    rfl
/-- a comprehension whose turns change nothing, by places -/
theorem lc_fun {turn : D → Hh → Out (Option D)} {gs : Gd} {ds : List D} {QL : List D → Hh → Prop} (f : Nat → D) (s : still gs h) (hl : ds.length ≤ 16777216) (ht : ∀ i d, ds[i]? = some d → Wp (turn d h) fun a h' => a = some (f i) ∧ h' = h) (q : QL ((List.range ds.length).map f) h) : Wp (lcLoop turn gs ds [] h) QL Ex :=
  (lc_each (Ex := Ex) (fun h' => h' = h) (fun i v => v = f i) rfl hl (fun h' e => by rw [e]; exact s) fun i d h' e eh => by
    subst eh
    exact (ht i d e).mono fun a h2 ⟨e1, e2⟩ => ⟨e2, f i, e1, rfl⟩).mono fun vs h' ⟨e1, e2, e3⟩ => by
    rw [e1, list_of e2 e3]
    exact q
theorem all_range {n : Nat} {f : Nat → Bool} : ((List.range n).map f).all id = true ↔ ∀ i, i < n → f i = true := by
  rw [List.all_eq_true]
  constructor
  · intro z i hi
    exact z (f i) (List.mem_map.mpr ⟨i, List.mem_range.mpr hi, rfl⟩)
  · rintro z b hb
    obtain ⟨i, hi, rfl⟩ := List.mem_map.mp hb
    exact z i (List.mem_range.mp hi)
end
end Py
/-! Core, part X: == and in of plain data; sorted, dicts as equations. -/
namespace Py
open PySem
mutual
/-- ints, None, texts, tuples of such -/
def isD : Nat → D → Bool
  | _, .int _ => true
  | _, .non => true
  | _, .str x => PyData.canLay0 (.str x)
  | n + 1, .tup ds => isDs n ds
  | _, _ => false
def isDs : Nat → List D → Bool
  | _, [] => true
  | n, d :: ds => isD n d && isDs n ds
end
mutual
def pD : D → PyData
  | .int i => .int i
  | .str x => .str x
  | .tup ds => .tuple (pDs ds)
  | _ => .none
def pDs : List D → List PyData
  | [] => []
  | d :: ds => pD d :: pDs ds
end
theorem isD_cases {n : Nat} {d : D} (e : isD n d = true) : (∃ i, d = .int i) ∨ d = .non ∨ (∃ x, d = .str x ∧ PyData.canLay0 (.str x) = true) ∨ ∃ m ds, n = m + 1 ∧ d = .tup ds ∧ isDs m ds = true := by
  cases d with
  | int i => exact .inl ⟨i, rfl⟩
  | non => exact .inr (.inl rfl)
  | str x => exact .inr (.inr (.inl ⟨x, rfl, by cases n <;> simpa only [isD] using e⟩))
  | tup ds =>
    cases n with
    | zero => simp [isD] at e
    | succ m => exact .inr (.inr (.inr ⟨m, ds, rfl, rfl, by simpa only [isD] using e⟩))
  | _ => cases n <;> simp [isD] at e
theorem toPs_pD {h : Hh} {n m : Nat} (ih : ∀ d, isD n d = true → toP h m d = some (pD d)) : ∀ ds, isDs n ds = true → allSome (toP h m) ds = some (pDs ds)
  | [], _ => by simp only [allSome, pDs]
  | d :: ds, k => by
    simp only [isDs, Bool.and_eq_true] at k
    simp only [allSome, pDs, ih d k.1, toPs_pD ih ds k.2]
theorem toP_pD {h : Hh} : ∀ (n m : Nat) (d : D), n ≤ m → isD n d = true → toP h m d = some (pD d) := by
  intro n
  induction n with
  | zero =>
    intro m d hm k
    rcases isD_cases k with ⟨i, rfl⟩ | rfl | ⟨x, rfl, c⟩ | ⟨_, ds, z, _⟩
    · cases m <;> simp only [toP, pD]
    · cases m <;> simp only [toP, pD]
    · cases m <;> simp only [toP, pD, c, if_true]
    · cases z
  | succ n ih =>
    intro m d hm k
    rcases isD_cases k with ⟨i, rfl⟩ | rfl | ⟨x, rfl, c⟩ | ⟨_, ds, z, rfl, k1⟩
    · cases m <;> simp only [toP, pD]
    · cases m <;> simp only [toP, pD]
    · cases m <;> simp only [toP, pD, c, if_true]
    · cases z
      obtain ⟨m, rfl⟩ : ∃ q, m = q + 1 := ⟨m - 1, by omega⟩
      simp only [toP, pD, toPs_pD (fun d k => ih m d (by omega) k) ds k1, Option.map_some]
mutual
theorem eqv_pD : ∀ (n m : Nat) (a b : D), isD n a = true → isD m b = true → PyData.eqv (pD a) (pD b) = D.eqB a b
  | n, m, a, b, ka, kb => by
    cases a with
    | int i => rcases isD_cases kb with ⟨j, rfl⟩ | rfl | ⟨x, rfl, c⟩ | ⟨_, ds, z, rfl, k1⟩ <;> simp [pD, PyData.eqv, D.eqB]
    | non => rcases isD_cases kb with ⟨j, rfl⟩ | rfl | ⟨x, rfl, c⟩ | ⟨_, ds, z, rfl, k1⟩ <;> simp [pD, PyData.eqv, D.eqB]
    | str y => rcases isD_cases kb with ⟨j, rfl⟩ | rfl | ⟨x, rfl, c⟩ | ⟨_, ds, z, rfl, k1⟩ <;> simp [pD, PyData.eqv, D.eqB]
    | tup es =>
      rcases isD_cases ka with ⟨j, z⟩ | z | ⟨x, z, c⟩ | ⟨n', es', z, z2, ke⟩
      · cases z
      · cases z
      · cases z
      · cases z2
        rcases isD_cases kb with ⟨j, rfl⟩ | rfl | ⟨x, rfl, c⟩ | ⟨m', ds, z, rfl, k1⟩
        · simp [pD, PyData.eqv, D.eqB]
        · simp [pD, PyData.eqv, D.eqB]
        · simp [pD, PyData.eqv, D.eqB]
        · simp only [pD, PyData.eqv, D.eqB]
          exact eqv_pDs n' m' es ds ke k1
    | _ => cases n <;> simp [isD] at ka
theorem eqv_pDs : ∀ (n m : Nat) (as bs : List D), isDs n as = true → isDs m bs = true → PyData.eqvAll (pDs as) (pDs bs) = D.eqBs as bs
  | _, _, [], [], _, _ => by simp [pDs, PyData.eqvAll, D.eqBs]
  | _, _, [], _ :: _, _, _ => by simp [pDs, PyData.eqvAll, D.eqBs]
  | _, _, _ :: _, [], _, _ => by simp [pDs, PyData.eqvAll, D.eqBs]
  | n, m, a :: as, b :: bs, ka, kb => by
    simp only [isDs, Bool.and_eq_true] at ka kb
    simp only [pDs, PyData.eqvAll, D.eqBs, eqv_pD n m a b ka.1 kb.1, eqv_pDs n m as bs ka.2 kb.2]
end
theorem eqB_dec (a b : D) : D.eqB a b = decide (a = b) := by
  by_cases e : a = b
  · rw [decide_eq_true e]; exact (D.eqB_iff a b).mpr e
  · rw [decide_eq_false e]
    cases q : D.eqB a b with
    | true => exact absurd ((D.eqB_iff a b).mp q) e
    | false => rfl
theorem eqBs_dec (a b : List D) : D.eqBs a b = decide (a = b) := by
  by_cases e : a = b
  · rw [decide_eq_true e]; exact (D.eqBs_iff a b).mpr e
  · rw [decide_eq_false e]
    cases q : D.eqBs a b with
    | true => exact absurd ((D.eqBs_iff a b).mp q) e
    | false => rfl
section
variable {h : Hh} {a b d : D} {as bs ds : List D} {i j : Int} {k m : Nat} {x y : RV} {kvs : List (D × D)}
/-- == of data -/
theorem eq_data (ha : isD 30 a = true) (hb : isD 30 b = true) : opCmp .Eq (.val a) (.val b) h = .ok (.val (.bl (decide (a = b)))) h := by
  simp only [opCmp, toPR, toP_pD 30 41 a (by decide) ha, toP_pD 30 41 b (by decide) hb, eqv_pD 30 30 a b ha hb, eqB_dec]
theorem ne_data (ha : isD 30 a = true) (hb : isD 30 b = true) : opCmp .NotEq (.val a) (.val b) h = .ok (.val (.bl (!decide (a = b)))) h := by
  simp only [opCmp, toPR, toP_pD 30 41 a (by decide) ha, toP_pD 30 41 b (by decide) hb, eqv_pD 30 30 a b ha hb, eqB_dec]
theorem toPR_val (ha : isD 30 a = true) : toPR h (.val a) = some (pD a) := toP_pD 30 41 a (by decide) ha
/-- a list of data: at a place, or just made -/
def LsD (h : Hh) (x : RV) (ds : List D) : Prop := x = .raw ds ∨ ∃ k, x = .val (.ref k) ∧ h[k]? = some (.lst ds)
theorem LsD.raw : LsD h (.raw ds) ds := .inl rfl
theorem LsD.ref (e : h[k]? = some (.lst ds)) : LsD h (.val (.ref k)) ds := .inr ⟨k, rfl, e⟩
theorem LsD.toPR (l : LsD h x ds) (k : isDs 30 ds = true) : toPR h x = some (.list (pDs ds)) := by
  have z : allSome (toP h 40) ds = some (pDs ds) := toPs_pD (n := 30) (fun d k => toP_pD 30 40 d (by decide) k) ds k
  rcases l with rfl | ⟨q, rfl, e⟩
  · simp only [Py.toPR, z, Option.map_some]
  · simp only [Py.toPR, toP, e, z, Option.map_some]
theorem LsD.dOf (l : LsD h x ds) : dOf h x = none := by
  rcases l with rfl | ⟨q, rfl, e⟩
  · rfl
  · simp only [Py.dOf, e]
theorem eq_listD (l1 : LsD h x as) (l2 : LsD h y bs) (k1 : isDs 30 as = true) (k2 : isDs 30 bs = true) : opCmp .Eq x y h = .ok (.val (.bl (decide (as = bs)))) h := by
  simp only [opCmp, l1.toPR k1, l2.toPR k2, PyData.eqv, eqv_pDs 30 30 as bs k1 k2, eqBs_dec]
theorem ne_listD (l1 : LsD h x as) (l2 : LsD h y bs) (k1 : isDs 30 as = true) (k2 : isDs 30 bs = true) : opCmp .NotEq x y h = .ok (.val (.bl (!decide (as = bs)))) h := by
  simp only [opCmp, l1.toPR k1, l2.toPR k2, PyData.eqv, eqv_pDs 30 30 as bs k1 k2, eqBs_dec]
theorem any_eqv : ∀ {ds : List D}, isD 30 d = true → isDs 30 ds = true → ((pDs ds).any fun z => PyData.eqv z (pD d)) = decide (d ∈ ds)
  | [], _, _ => by simp [pDs]
  | e :: es, kd, k => by
    simp only [isDs, Bool.and_eq_true] at k
    simp only [pDs, List.any_cons, any_eqv kd k.2, eqv_pD 30 30 e d k.1 kd, eqB_dec, List.mem_cons, Bool.decide_or]
    congr 1
    exact decide_eq_decide.mpr ⟨Eq.symm, Eq.symm⟩
theorem in_list (l : LsD h y ds) (kd : isD 30 d = true) (k : isDs 30 ds = true) : opCmp .In (.val d) y h = .ok (.val (.bl (decide (d ∈ ds)))) h := by
  simp only [opCmp, l.dOf, toPR_val kd, l.toPR k, any_eqv kd k]
theorem notin_list (l : LsD h y ds) (kd : isD 30 d = true) (k : isDs 30 ds = true) : opCmp .NotIn (.val d) y h = .ok (.val (.bl (!decide (d ∈ ds)))) h := by
  simp only [opCmp, l.dOf, toPR_val kd, l.toPR k, any_eqv kd k]
theorem in_tup (kd : isD 30 d = true) (k : isDs 30 ds = true) : opCmp .In (.val d) (.val (.tup ds)) h = .ok (.val (.bl (decide (d ∈ ds)))) h := by
  have e1 : toPR h (.val (.tup ds)) = some (.tuple (pDs ds)) := toP_pD 31 41 (.tup ds) (by decide) k
  have e2 : dOf h (.val (.tup ds)) = none := rfl
  simp only [opCmp, e2, toPR_val kd, e1, any_eqv kd k]
theorem notin_tup (kd : isD 30 d = true) (k : isDs 30 ds = true) : opCmp .NotIn (.val d) (.val (.tup ds)) h = .ok (.val (.bl (!decide (d ∈ ds)))) h := by
  have e1 : toPR h (.val (.tup ds)) = some (.tuple (pDs ds)) := toP_pD 31 41 (.tup ds) (by decide) k
  have e2 : dOf h (.val (.tup ds)) = none := rfl
  simp only [opCmp, e2, toPR_val kd, e1, any_eqv kd k]
theorem find_eqv (kd : isD 30 d = true) : ∀ {ds : List D}, isDs 30 ds = true → (pDs ds).findIdx? (fun z => PyData.eqv z (pD d)) = ds.findIdx? fun z => decide (z = d)
  | [], _ => by simp [pDs]
  | e :: es, k => by
    simp only [isDs, Bool.and_eq_true] at k
    simp only [pDs, List.findIdx?_cons, find_eqv kd k.2, eqv_pD 30 30 e d k.1 kd, eqB_dec]
theorem m1_index (l : LsD h x ds) (kd : isD 30 d = true) (k : isDs 30 ds = true) : opM1 .index x (.val d) h = match ds.findIdx? (fun z => decide (z = d)) with
    | some j => .ok (.val (.int (j : Nat))) h
    | none => .fail := by
  simp only [opM1, l.toPR k, toPR_val kd, find_eqv kd k]
  all_goals cases ds.findIdx? (fun z => decide (z = d)) <;> rfl
/-- in of a dict's keys -/
theorem in_dcn (e : h[k]? = some (.dcn kvs)) (kd : isKey d = true) : opCmp .In (.val d) (.val (.ref k)) h = .ok (.val (.bl (dlook kvs d).isSome)) h := by
  simp only [opCmp, dOf, e, okKey, if_true, kd]
theorem notin_dcn (e : h[k]? = some (.dcn kvs)) (kd : isKey d = true) : opCmp .NotIn (.val d) (.val (.ref k)) h = .ok (.val (.bl (!(dlook kvs d).isSome))) h := by
  simp only [opCmp, dOf, e, okKey, if_true, kd]
theorem in_dct (e : h[k]? = some (.dct kvs)) (kd : isLeaf d = true) : opCmp .In (.val d) (.val (.ref k)) h = .ok (.val (.bl (dlook kvs d).isSome)) h := by
  simp only [opCmp, dOf, e, okKey, Bool.false_eq_true, if_false, if_true, kd]
theorem notin_dct (e : h[k]? = some (.dct kvs)) (kd : isLeaf d = true) : opCmp .NotIn (.val d) (.val (.ref k)) h = .ok (.val (.bl (!(dlook kvs d).isSome))) h := by
  simp only [opCmp, dOf, e, okKey, Bool.false_eq_true, if_false, if_true, kd]
/-! what a dict holds behind a store -/
theorem look_cons (p : D × D) (r : List (D × D)) (k : D) : dlook (p :: r) k = if p.1 = k then some p.2 else dlook r k := by
  unfold dlook
  by_cases e : p.1 = k
  · rw [List.find?_cons_of_pos (by simpa using e), if_pos e]; rfl
  · rw [List.find?_cons_of_neg (by simpa using e), if_neg e]
theorem look_snoc (k v j : D) : ∀ kvs : List (D × D), dlook kvs k = none → dlook (kvs ++ [(k, v)]) j = if j = k then some v else dlook kvs j
  | [], _ => by
    rw [List.nil_append, look_cons]
    by_cases e : k = j
    · rw [if_pos e, if_pos e.symm]
    · rw [if_neg e, if_neg fun z => e z.symm]
  | p :: r, h => by
    rw [look_cons] at h
    by_cases e : p.1 = k
    · rw [if_pos e] at h; cases h
    · rw [if_neg e] at h
      rw [List.cons_append, look_cons, look_cons, look_snoc k v j r h]
      by_cases q : p.1 = j
      · rw [if_pos q, if_pos q, if_neg fun z => e (q.trans z)]
      · rw [if_neg q, if_neg q]
theorem look_map (k v j : D) : ∀ kvs : List (D × D), dlook (kvs.map fun p => if p.1 = k then (p.1, v) else p) j = (dlook kvs j).map fun x => if j = k then v else x
  | [] => rfl
  | p :: r => by
    rw [List.map_cons, look_cons, look_cons, look_map k v j r]
    by_cases e : p.1 = k
    · simp only [e, if_true]
      by_cases q : k = j
      · simp only [q, if_true, Option.map_some]
      · simp only [q, if_false]
    · simp only [e, if_false]
      by_cases q : p.1 = j
      · have : ¬ j = k := fun z => e (q.trans z)
        simp only [q, if_true, Option.map_some, this, if_false]
      · simp only [q, if_false]
theorem look_put (kvs : List (D × D)) (k v j : D) : dlook (dput kvs k v) j = if j = k then some v else dlook kvs j := by
  unfold dput
  cases e : dlook kvs k with
  | some x =>
    rw [if_pos (by rfl), look_map]
    by_cases q : j = k
    · rw [q, e]; simp
    · simp only [q, if_false]; cases dlook kvs j <;> rfl
  | none =>
    rw [if_neg (by simp)]
    exact look_snoc k v j kvs e
theorem put_new {kvs : List (D × D)} {k v : D} (e : dlook kvs k = none) : dput kvs k v = kvs ++ [(k, v)] := by
  unfold dput
  rw [e, if_neg (by simp)]
theorem put_len {kvs : List (D × D)} {k v : D} : (dput kvs k v).length ≤ kvs.length + 1 := dput_len kvs k v
theorem ix10 : L2.ixN 1 0 = some 0 := id rfl
theorem ix30 : L2.ixN 3 0 = some 0 := id rfl
theorem ix31 : L2.ixN 3 1 = some 1 := id rfl
theorem ix32 : L2.ixN 3 2 = some 2 := id rfl
/-! sorted -/
def srtO : Bool → List D → Hh → Out RV
  | true, ds, h => .ok (.raw (isrt ds)) h
  | false, _, _ => .fail
theorem srtO_t : srtO true ds h = .ok (.raw (isrt ds)) h := id rfl
theorem b_srt_raw : opB .sorted [.raw ds] h = srtO (sortable ds) ds h := by
  simp only [opB, lsOf]
  cases sortable ds <;> rfl
theorem b_srt_ref (e : h[k]? = some (.lst ds)) : opB .sorted [.val (.ref k)] h = srtO (sortable ds) ds h := by
  simp only [opB, lsOf, e]
  cases sortable ds <;> rfl
theorem m1_popat {i : Int} {j : Nat} {d : D} (e : h[k]? = some (.lst ds)) (hi : i = (j : Int)) (hj : j < 4611686018427387904) (ed : ds[j]? = some d) : opM1 .popat (.val (.ref k)) (.val (.int i)) h = .ok (.val d) (h.set k (.lst (ds.eraseIdx j))) := by
  subst hi
  simp only [opM1, e]
  rw [if_pos ⟨Int.natCast_nonneg _, by omega⟩, Int.toNat_natCast, ed]
theorem m1_ext {es : List D} (e : h[k]? = some (.lst ds)) (l : LsD h y es) : opM1 .extend (.val (.ref k)) y h = if ds.length + es.length ≤ SZ then .ok (.val .non) (h.set k (.lst (ds ++ es))) else .fail := by
  rcases l with rfl | ⟨q, rfl, e2⟩
  · simp only [opM1, lstOf, e]
  · simp only [opM1, lstOf, e, e2]
end
end Py
/-! Core, part 4: all rules of the evaluator as one. -/
namespace Py
open PySem
def evb := And.intro (And.intro (And.intro (And.intro @w_sm (And.intro @KSm_ @KSm2_)) (And.intro @sm_split (And.intro @sm_part @sm_join))) (And.intro (And.intro @w_sin (And.intro @KSin_ @KSin2_)) (And.intro (And.intro @sin_in @sin_not) (And.intro @w_figs (And.intro @w_txt @KTxt_))))) (And.intro (And.intro (And.intro @lsetJ_s @lsetJ_n) (And.intro (And.intro (And.intro (And.intro (And.intro (And.intro (And.intro (And.intro (And.intro @w_lks (And.intro @w_dcl (And.intro @KDcl_ @dclK_))) (And.intro @w_mxv @KLks_)) (And.intro @lksK_ (And.intro @KMxv_ @mxvK_))) (And.intro (And.intro @mxvI_ (And.intro @w_keys @w_items)) (And.intro @KKeys_ (And.intro @KItems_ @ksO_)))) (And.intro (And.intro (And.intro @isO_ (And.intro @w_mkd @KMkd_)) (And.intro @bP_ (And.intro @mkdK @w_dget))) (And.intro (And.intro @KDg1_ (And.intro @KDg2_ @KDg3_)) (And.intro (And.intro @getR_s @getR_n) (And.intro @dOfR_ @dctO_s))))) (And.intro (And.intro (And.intro (And.intro @dctO_n (And.intro @tagR_s @tagR_n)) (And.intro @lenR_l (And.intro @lenR_s @lenR_n))) (And.intro (And.intro @is_dct_int (And.intro @is_dct_bool @is_dct_tuple)) (And.intro @is_dct_list (And.intro @is_dct_dict @bT_)))) (And.intro (And.intro (And.intro @w_lrg (And.intro @KLrg_ @w_d2)) (And.intro @K2a_ (And.intro @K2b_ @K2c_))) (And.intro (And.intro @K2d_ (And.intro @w_best @KBst_)) (And.intro (And.intro @w_bestd @KBe1_) (And.intro @KBe2_ @bestO_no)))))) (And.intro (And.intro (And.intro (And.intro (And.intro @w_par (And.intro @KPr1_ @KPr2_)) (And.intro @w_d1 (And.intro @KD1a_ @KD1b_))) (And.intro (And.intro @ix10 (And.intro @ix30 @ix31)) (And.intro @ix32 (And.intro @w_dct @w_dnewT)))) (And.intro (And.intro (And.intro @w_dnewF (And.intro @w_trv @w_lrv)) (And.intro @w_sset (And.intro @w_lset @w_m1))) (And.intro (And.intro @KDct_ (And.intro @KTrv_ @trvK)) (And.intro (And.intro @KSset_ @ssetK) (And.intro @KLset_ @lsetK))))) (And.intro (And.intro (And.intro (And.intro @KM1_ (And.intro @KM1b_ @ixRef_l)) (And.intro @ixRef_s (And.intro @ixRef_n @ixK_t))) (And.intro (And.intro @leaf_i (And.intro @leaf_s @repO_)) (And.intro @r_rmul (And.intro @r_kmul @subR_l)))) (And.intro (And.intro (And.intro @subR_s (And.intro @subR_n @srtO_t)) (And.intro @b_srt_raw (And.intro @w_revs @KRev_))) (And.intro (And.intro @revK (And.intro @w_cmp2 @KCh_)) (And.intro (And.intro @KCh2_ @KCh3_t) (And.intro @KCh3_f @lp_nx))))))) (And.intro (And.intro (And.intro (And.intro (And.intro (And.intro @lp_ct (And.intro @lp_bk @lp_rt)) (And.intro @w_fnil (And.intro @w_fcons @r_eqb))) (And.intro (And.intro @eq_pair (And.intro @w_var @w_non)) (And.intro @w_bl (And.intro @w_int @w_str)))) (And.intro (And.intro (And.intro @w_bin (And.intro @w_cmp @w_neg)) (And.intro @w_and (And.intro @w_or @w_not))) (And.intro (And.intro @w_ifx (And.intro @w_tup @w_lst)) (And.intro (And.intro @w_ix @w_slc) (And.intro @w_call @w_callk))))) (And.intro (And.intro (And.intro (And.intro @w_blt (And.intro @w_m0 @w_isi)) (And.intro @w_app (And.intro @w_lc @w_dnil))) (And.intro (And.intro @w_dcons (And.intro @w_rnil @w_rcons)) (And.intro @w_ono (And.intro @w_oyes @w_cno)))) (And.intro (And.intro (And.intro @w_cyes (And.intro @w_seq @w_rng)) (And.intro @w_rng2 (And.intro @w_enum @w_zip))) (And.intro (And.intro @w_gname (And.intro @w_gtup @w_gsub)) (And.intro (And.intro @w_gsnil @w_gscons) (And.intro @w_asg @w_aug)))))) (And.intro (And.intro (And.intro (And.intro (And.intro @w_expr (And.intro @w_ret @w_retN)) (And.intro @w_ifs (And.intro @w_for @w_brk))) (And.intro (And.intro @w_cnt (And.intro @w_pas @w_snil)) (And.intro @w_scons (And.intro @w_test @KVal_)))) (And.intro (And.intro (And.intro @KRaw_ (And.intro @KMat_v @KMat_r)) (And.intro @KBin2_ (And.intro @KBin_ @KCmp2_))) (And.intro (And.intro @KCmp_ (And.intro @KNeg_ @KAnd_)) (And.intro (And.intro @KAnd_t @KAnd_f) (And.intro @KOr_ @KOr_f))))) (And.intro (And.intro (And.intro (And.intro @KOr_t (And.intro @KNot_ @KNotB_)) (And.intro @KIfx_ (And.intro @KIfx_t @KIfx_f))) (And.intro (And.intro @KTup_ (And.intro @KLst_ @KIx2_)) (And.intro @KIx_ (And.intro @KSl3_ @KSl2_)))) (And.intro (And.intro (And.intro @KSl_ (And.intro @KCall_ @KCk2_)) (And.intro @KCk_ (And.intro @KBlt_ @KM0_))) (And.intro (And.intro @KIsi_ (And.intro @isiK @KApp3_)) (And.intro (And.intro @KApp2_ @KApp_) (And.intro @KSome_ @KLc3_t)))))))) (And.intro (And.intro (And.intro (And.intro (And.intro (And.intro (And.intro @KLc3_f (And.intro @KLc2_ @KLc_)) (And.intro @LcT_ (And.intro @KD3_ @KD2_))) (And.intro (And.intro @KR2_ (And.intro @KR1_ @KO_)) (And.intro @KCB_ (And.intro @KC_ @ItK_)))) (And.intro (And.intro (And.intro @KSeq_ (And.intro @KRng_ @KRng3_)) (And.intro @KRng2_ (And.intro @KEnum0_ @KEnum_))) (And.intro (And.intro @KZip2_ (And.intro @zipK @KZip_)) (And.intro (And.intro @subK @KSub2_) (And.intro @KSub_ @KGs_))))) (And.intro (And.intro (And.intro (And.intro @KAsg2_ (And.intro @KAug_s @KAug_a)) (And.intro @KAug0_ (And.intro @augK @KExpr_))) (And.intro (And.intro @KIf_ (And.intro @KIf_t @KIf_f)) (And.intro @KFor_ (And.intro @FB_ @KFB_)))) (And.intro (And.intro (And.intro @sq_nx (And.intro @sq_rt @sq_bk)) (And.intro @sq_ct (And.intro @truB_t @truB_f))) (And.intro (And.intro @varK (And.intro @r_add @r_sub)) (And.intro (And.intro @r_mul @r_mod) (And.intro @r_div @r_pow)))))) (And.intro (And.intro (And.intro (And.intro (And.intro @r_tmul (And.intro @r_cat @r_catrr)) (And.intro @r_catkr (And.intro @r_catrk @r_catkk))) (And.intro (And.intro @r_lt (And.intro @r_le @r_gt)) (And.intro @r_ge (And.intro @r_eq @r_ne)))) (And.intro (And.intro (And.intro @r_is (And.intro @r_isn @r_ixk)) (And.intro @r_ixt (And.intro @r_ixl @r_ixr))) (And.intro (And.intro @t_non (And.intro @t_bl @t_int)) (And.intro (And.intro @t_tup @t_raw) (And.intro @t_rl @t_ref))))) (And.intro (And.intro (And.intro (And.intro @s_ref (And.intro @s_tup @s_rl)) (And.intro @s_raw (And.intro @l_ref @l_raw))) (And.intro (And.intro @ls_ref (And.intro @ls_raw @ls_rl)) (And.intro @i_ref (And.intro @i_tup @i_rl)))) (And.intro (And.intro (And.intro @i_raw (And.intro @g_non @g_bl)) (And.intro @g_int (And.intro @g_str @g_tup))) (And.intro (And.intro @g_raw (And.intro @g_ref @is_non_int)) (And.intro (And.intro @is_non_bool @is_non_tuple) (And.intro @is_non_list @is_non_str))))))) (And.intro (And.intro (And.intro (And.intro (And.intro (And.intro @is_non_dict (And.intro @is_bl_int @is_bl_bool)) (And.intro @is_bl_tuple (And.intro @is_bl_list @is_bl_str))) (And.intro (And.intro @is_bl_dict (And.intro @is_int_int @is_int_bool)) (And.intro @is_int_tuple (And.intro @is_int_list @is_int_str)))) (And.intro (And.intro (And.intro @is_int_dict (And.intro @is_str_int @is_str_bool)) (And.intro @is_str_tuple (And.intro @is_str_list @is_str_str))) (And.intro (And.intro @is_str_dict (And.intro @is_tup_int @is_tup_bool)) (And.intro (And.intro @is_tup_tuple @is_tup_list) (And.intro @is_tup_str @is_tup_dict))))) (And.intro (And.intro (And.intro (And.intro @is_lst_int (And.intro @is_lst_bool @is_lst_tuple)) (And.intro @is_lst_list (And.intro @is_lst_str @is_lst_dict))) (And.intro (And.intro (And.intro @sk_kt (And.intro @sk_rt @sk_tt)) (And.intro @sk_rr @sk_kk)) (And.intro @sk_kr (And.intro @sk_rk @sk_lr)))) (And.intro (And.intro (And.intro @sk_rl (And.intro @b_len_ref @b_len_tup)) (And.intro @b_len_rl (And.intro @b_len_raw @b_int))) (And.intro (And.intro @b_intb (And.intro @b_abs @b_tuple)) (And.intro (And.intro @b_list @b_max2) (And.intro @b_min2 @b_maxr)))))) (And.intro (And.intro (And.intro (And.intro (And.intro @b_maxl (And.intro @b_maxk @b_minr)) (And.intro @b_minl (And.intro @b_mink @b_sum))) (And.intro (And.intro @b_all (And.intro @b_any @a_app)) (And.intro @p_tup (And.intro @p_ref @p_raw)))) (And.intro (And.intro (And.intro @p_rl (And.intro @m_pop @m_rev)) (And.intro @m_clr (And.intro @m_m0 @lstO_))) (And.intro (And.intro @itO_ (And.intro @truR_ @tagR_)) (And.intro (And.intro @lenO_ @tupO_) (And.intro @lisO_ @catO_))))) (And.intro (And.intro (And.intro (And.intro @ixO_ (And.intro @sqO_ @appO_)) (And.intro @maxO_ (And.intro @minO_ @sumO_))) (And.intro (And.intro @allO_ (And.intro @anyO_ @bI_)) (And.intro @bB_ (And.intro @slcO_ @push_at)))) (And.intro (And.intro (And.intro @ix20 (And.intro @ix21 @at0)) (And.intro @at1 (And.intro @at2 @at3))) (And.intro (And.intro @at4 (And.intro @wp_ok @wp_if)) (And.intro (And.intro @endC_nx @endC_rt) (And.intro @endV_nx @endV_rt)))))))))) (And.intro (And.intro (And.intro (And.intro (And.intro (And.intro @KCl2_ @KCl_) (And.intro (And.intro @capD_n @capD_c) (And.intro @capC_ @capK_))) (And.intro (And.intro @w_calll @mkxK) (And.intro @wntK @w_wnt))) (And.intro (And.intro @KMkx_ @w_mkx) (And.intro @isxK @KIsx_))) (And.intro (And.intro (And.intro @w_isx @xTag_n) (And.intro @xTag_r @xTagR_)) (And.intro (And.intro @KFld_ @w_fld) (And.intro @KRai_ (And.intro @raiK @w_raise))))) (And.intro (And.intro (And.intro (And.intro @w_nev @w_try) (And.intro @XTry_ @w_hnil)) (And.intro (And.intro @w_hcons @hd_nx) (And.intro @hd_rt (And.intro @hd_bk @hd_ct)))) (And.intro (And.intro (And.intro @inH_s @inH_n) (And.intro @unN_s @unN_n)) (And.intro (And.intro @Xat_ @xat_no) (And.intro @w_rev (And.intro @KRevI_ @KRev0_)))))))
end Py
/-! Core, part 6: own exception classes: their __init__, what a law's closing part tells of them. -/
namespace Py
open PySem PySem.Spec PyProof.Rows
open L2 hiding St start wipe
/-- def __init__(self, y): self.f = y -/
def iniB (f : Str) (st : Stmt) : Bool := match defBody st with
  | [.Assign [.Attribute (.Name a _) g _] (.Name b _) _] => decide (g = f) && decide (prmsOf st = [a, b]) && scB [a, b] [a, b] (defScope st) && !(a == ("__debug__" : Str)) && !(a == ("__classdict__" : Str)) && !(b == ("__debug__" : Str)) && !(b == ("__classdict__" : Str))
  | _ => false
theorem iniB_ok {f : Str} {st : Stmt} (h : iniB f st = true) : ∃ (a b : Str) (p1 p2 p3 p4 : Pos), defBody st = [.Assign [.Attribute (.Name a p1) f p2] (.Name b p3) p4] ∧ prmsOf st = [a, b] ∧ FnScope [a, b] [a, b] (defScope st) ∧
    (a == ("__debug__" : Str)) = false ∧ (a == ("__classdict__" : Str)) = false ∧ (b == ("__debug__" : Str)) = false ∧ (b == ("__classdict__" : Str)) = false := by
  unfold iniB at h
  split at h
  · rename_i a p1 g p2 b p3 p4 e
    simp only [Bool.and_eq_true, decide_eq_true_eq, Bool.not_eq_true'] at h
    obtain ⟨⟨⟨⟨⟨⟨h1, h2⟩, h3⟩, h4⟩, h5⟩, h6⟩, h7⟩ := h
    subst h1
    exact ⟨a, b, p1, p2, p3, p4, e, h2, scB_ok h3, h4, h5, h6, h7⟩
  · cases h
section
variable {P : Program} {w : World} {K : PySem.W.Frag} {mg : Str → Option Value} {base : Heap}
theorem init_ok {f q : Str} {st : Stmt} {fI : Addr} {od an : Option Addr} {sl : Array (Option Value)} {oc kV dc pm cd ct : Value} (hk : iniB f st = true) (l : K.lookup fI = some ⟨oc, od, .func (PySem.W.fnOf "__init__" q (defArgs st) (defBody st) (defScope st) .none kV dc pm an cd ct), sl⟩)
    (c : PySem.W.codeIn K cd q = true) : FnOk P w K mg base (L2.CX P w) 1 fI (PySem.W.fnOf "__init__" q (defArgs st) (defBody st) (defScope st) .none kV dc pm an cd ct) (prmsOf st) (spI K f) := by
  obtain ⟨a, b, p1, p2, p3, p4, eb, ep, S, d1, d2, d3, d4⟩ := iniB_ok hk
  rw [ep]
  refine fn_of l c S (fun vs H Q E h => ?_) fun A outer s H vs Q E hr h => ?_
  · obtain ⟨x, y, C, rfl, _⟩ := h
    rfl
  · rw [eb]
    obtain ⟨x, y, C, rfl, T, hno, hx, k⟩ := h
    have va : Vis (defScope st) a := (S.par a (by simp)).elim .inl (fun z => .inr (.inl z))
    have vb : Vis (defScope st) b := (S.par b (by simp)).elim .inl (fun z => .inr (.inl z))
    exact ⟨_, pss_one (ps_ost (pe_var (i := 0) rfl va d1 d2) (pe_var (i := 1) rfl vb d3 d4)), y, rfl, .ref x, rfl, x, C, rfl, T, hno, .inl ⟨hx, k⟩⟩
/-- the class statement's first def -/
def inClass (st : Stmt) : Stmt := match st with
  | .ClassDef _ _ _ body _ _ _ _ _ _ _ => body.getD 0 (.Pass ⟨0, 0, 0, 0⟩)
  | st => st
/-- a class that is raised with its field -/
theorem xmk_fld {c f : Str} {C CP fI : Addr} {nm q q2 : Str} {N : Addr} {bs : List Value} {sn : List Str} {sub : List Value} {ab : Bool} {col : Option Bool} {dd : Option Addr} {m0 m1 m2 m3 m5 : Option Value} {st : Stmt} {od an : Option Addr} {sl : Array (Option Value)} {oc kV dc pm cd ct : Value}
    (hf : xfld c = some f) (xL : K.lookup C = some (excClassObj nm q C N bs [.ref CP, .type "ValueError", .type "Exception", .type "BaseException", .type "object"] true sn sub ab col dd m0 m1 m2 m3 m5 "ValueError.__new__"))
    (sa : PySem.W.findIn K (.ref C) "__setattr__" = some (some (.builtin "object.__setattr__"))) (nb : PySem.W.findIn K (.ref C) f = some none)
    (a1 : PySem.W.findIn K (.ref C) "__init__" = some (some (.ref fI))) (t1 : PySem.W.typeIn K (.ref fI) = some (.type "function"))
    (hk : iniB f st = true) (l : K.lookup fI = some ⟨oc, od, .func (PySem.W.fnOf "__init__" q2 (defArgs st) (defBody st) (defScope st) .none kV dc pm an cd ct), sl⟩) (c1 : PySem.W.codeIn K cd q2 = true)
    (kC : PySem.W.keepIn K (.ref C) = true) (eC : PySem.W.subIn K (.ref C) (.type "BaseException") = some true) (tC : PySem.W.typeIn K (.ref C) = some (.type "type"))
    (hb : Binds K (PySem.W.fnOf "__init__" q2 (defArgs st) (defBody st) (defScope st) .none kV dc pm an cd ct) (prmsOf st) []) : XMkK P w K mg base c C := by
  unfold XMkK
  rw [hf]
  exact ⟨⟨⟨nm, q, N, bs, _, sn, sub, ab, col, dd, m0, m1, m2, m3, m5, xL, by rfl⟩, sa, eC, tC, kC⟩, nb, fI, _, _, a1, t1, init_ok hk l c1, hb⟩
/-- an own class by its name -/
theorem xnm_own {k : Str} {C : Addr} (h : mg k = some (.ref C)) : XNm mg k (.ref C) (.ref C) := ⟨.own _, .inl h⟩
theorem xnm_ve (h : mg "ValueError" = none) : XNm mg "ValueError" (.ty "ValueError") (.type "ValueError") := ⟨.ty _, .inr ⟨h, by rfl, by decide⟩⟩
theorem cx_no {H : Hp} {s s1 : Shared} {e : Value} (c : L2.CX P w [] H s (fun _ _ _ => False) e s1) : False := by
  obtain ⟨_, _, _, _, _, _, _, _, _, _, _, _, z⟩ := c
  exact z
theorem tabs0 {H : Hp} : LamX.Tabs [] H := fun p hp => by simp at hp
end
end Py
/-! Core, part 9: the end of a law whose defs make lambdas. -/
namespace Py
open PySem PySem.Spec PyProof.Rows L2 LamX
/-- a law called that makes lambdas: what stands at the start is told to its promise -/
theorem law_callT2 {P : Program} {w : World} {K : PySem.W.Frag} {mg mb : Str → Option Value} {CX : CXT} {k : Nat} {fa a : Addr} {cs : List (Addr × Addr)} {fd : FuncData} {x : Str} {sp : Sp} {s₁ : Shared} {vs : List Value} {ns : List Int}
    (KX : K.In s₁.heap) (hns : s₁.heap.Ns mainGlobals mg) (hb : s₁.heap.Ns builtinsNs mb) (hbb : ∀ x : Str, x ≠ "__name__" → mb x = bootBuiltins x) (hlim : s₁.heap.NoLimit) (hg : s₁.gens = #[])
    (hT : ∀ p ∈ cs, s₁.heap.get? p.2 = some { cls := .none, data := .fields #[] }) (nT : ∀ p ∈ cs, K.lookup p.2 = none) (C : ∀ p ∈ cs, PySem.W.CodeHd s₁.heap p.1 p.2)
    (hbm : ∃ (bm : Addr) (ob : Obj), mg "__builtins__" = some (.ref bm) ∧ bm ≠ builtinsNs ∧ s₁.heap.get? bm = some ob ∧ ob.cls = .type "module" ∧ ob.dict = some builtinsNs ∧ ob.data = .plain)
    (ha : s₁.heap.get? a = some { cls := .type "list", data := .seq vs.toArray }) (hi : IntsAre vs ns) (hl : ns.length ≤ sizeLine) (hr : Room k callerA)
    (F : ∀ base : Heap, K.In base → base.Ns mainGlobals mg → (∀ p ∈ cs, TabB base mg p.1 p.2) → FnOk P w K mg base CX k fa fd [x] sp) (hbind : ∀ (s : Shared) (u : Value), BindsTo s fd ⟨[u], []⟩ [(x, u)])
    (hsp : ∀ H : Hp, (∀ p ∈ cs, H p.2 = some (.tbl #[])) → (∀ b, H b = none ∨ b ∈ cs.map (·.2) ∨ ∃ o xs, H b = some (.frz o (.lst xs))) → SqL K H a (ns.map V.int) → sp [.ref a] H (fun v _ => v = .bl true) fun _ _ _ => False)
    (hCX : ∀ H e s', CX [] H s₁ (fun _ _ _ => False) e s' → False) :
    codeAny (model P w) callerA (.call (.ref fa) ⟨[.ref a], []⟩) (fun r s' => r = .ok (.ret (.bool true)) ∧ OldK s₁.heap s'.heap ∧ s'.os = s₁.os ∧ AllBare s'.gens) s₁ := by
  have rv := vals_ints hi
  have lenV := hi.length
  have isT : ∀ b : Addr, b ∈ cs.map (·.2) → s₁.heap.get? b = some { cls := .none, data := .fields #[] } := fun b hb => by
    obtain ⟨p, hp, e⟩ := List.mem_map.mp hb
    rw [← e]
    exact hT p hp
  have aT : a ∉ cs.map (·.2) := fun z => by
    have q := isT a z
    rw [ha] at q
    have z' : Data.seq vs.toArray _ = Data.fields #[] := congrArg Obj.data (Option.some.inj q)
    cases z'
  have memT : ∀ p ∈ cs, p.2 ∈ cs.map (·.2) := fun p hp => List.mem_map.mpr ⟨p, hp, rfl⟩
  -- from an abstract heap in which nothing but the script and the tables may be tracked
  have core : ∀ H : Hp, (∀ p ∈ cs, H p.2 = some (.tbl #[])) → (∀ b, H b = none ∨ b ∈ cs.map (·.2) ∨ ∃ o xs, H b = some (.frz o (.lst xs))) → SqL K H a (ns.map V.int) → HOk P w H s₁.heap → (∀ b, H b ≠ none → b = a ∨ b ∈ cs.map (·.2)) → (H a ≠ none → K.lookup a = none) →
      codeAny (model P w) callerA (.call (.ref fa) ⟨[.ref a], []⟩) (fun r s' => r = .ok (.ret (.bool true)) ∧ OldK s₁.heap s'.heap ∧ s'.os = s₁.os ∧ AllBare s'.gens) s₁ := by
    intro H hH hO hS hok hA hK
    have base_of : ∀ {b : Addr} {o : Obj}, s₁.heap.get? b = some o → H b = none → (hidT s₁.heap H).get? b = some o := fun e n => hidT_get e n
    have noD : ∀ {b : Addr} {o : Obj}, s₁.heap.get? b = some o → (∀ vs n, o.data ≠ .seq vs n) → o.data ≠ .fields #[] → H b = none := fun {b o} e h1 h2 => by
      cases q : H b with
      | none => rfl
      | some u =>
        rcases hA b (by rw [q]; simp) with e' | e'
        · rw [e', ha] at e
          cases e
          exact (h1 _ _ rfl).elim
        · rw [isT b e'] at e
          cases e
          exact (h2 rfl).elim
    have noA : ∀ {b : Addr} {o : Obj} {es : Array DictEntry} {ep : Nat}, s₁.heap.get? b = some o → o.data = .dict es ep → H b = none := fun {b o es ep} e d => by
      refine noD e (fun vs n z => ?_) fun z => ?_
      · rw [d] at z
        cases z
      · rw [d] at z
        cases z
    have nsK : ∀ {b : Addr} {m : Str → Option Value}, s₁.heap.Ns b m → (hidT s₁.heap H).Ns b m := fun {b m} ⟨o, es, ep, e, d, r⟩ => ⟨o, es, ep, base_of e (noA e d), d, r⟩
    have hKb : K.In (hidT s₁.heap H) := fun b o e => base_of (KX b o e) (by
      cases q : H b with
      | none => rfl
      | some u =>
        rcases hA b (by rw [q]; simp) with e' | e'
        · rw [e'] at e q
          rw [hK (by rw [q]; simp)] at e
          cases e
        · obtain ⟨p, hp, ep⟩ := List.mem_map.mp e'
          rw [← ep, nT p hp] at e
          cases e)
    have hM : L2.Mod K mg (hidT s₁.heap H) := ⟨hKb, nsK hns, ⟨mb, nsK hb, hbb⟩, let ⟨mc, h1, h2⟩ := hlim; ⟨mc, nsK h1, h2⟩⟩
    have TB : ∀ p ∈ cs, TabB (hidT s₁.heap H) mg p.1 p.2 := fun p hp => by
      have hTp := hT p hp
      refine ⟨?_, ?_, fun z => ?_⟩
      · obtain ⟨o, us, file, tf, flags, tg, inF, text, tt, e1, r1, r2, r3, r4, r5, r6, r7, r8, hne⟩ := C p hp
        refine ⟨o, us, file, tf, flags, tg, inF, text, tt, base_of e1 (noD e1 (fun vs n z => ?_) fun z => ?_), r1, r2, r3, r4, r5, r6, r7, r8, hne⟩
        · rw [r2] at z
          cases z
        · rw [r2] at z
          cases z
          simp at r3
      · obtain ⟨bm, ob, b1, b2, b3, b4, b5, b6⟩ := hbm
        have nG : bm ≠ mainGlobals := fun q => by
          obtain ⟨o, es, ep, e, hd, _⟩ := hns
          rw [q, e] at b3
          cases b3
          rw [hd] at b6
          cases b6
        have nP : bm ≠ p.2 := fun q => by
          rw [q, hTp] at b3
          cases b3
          cases b6
        refine ⟨bm, ob, b1, b2, nG, nP, base_of b3 (noD b3 (fun vs n z => ?_) fun z => ?_), b4, b5, b6⟩
        · rw [b6] at z
          cases z
        · rw [b6] at z
          cases z
      · obtain ⟨o, es, ep, e, hd, _⟩ := hns
        rw [z, hTp] at e
        cases e
        cases hd
    have e0 : Env0 P w K mg (hidT s₁.heap H) callerA [] s₁ H := ⟨rfl, hM, fun b o e => of_hidT e, Nat.le_of_eq (hidT_size _ _), trivial, fun b hb => absurd (show b ∈ ([] : List Addr) from hb) (by simp), hok, .of_eq hg⟩
    refine codeAny_mono ((F _ hKb (nsK hns) TB).run callerA [] s₁ H ⟨[.ref a], []⟩ [.ref a] [.ref a] _ _ hr e0 (hbind s₁ (.ref a)) (.cons rfl .nil) (hsp H hH hO hS)) fun r s' h => ?_
    cases r with
    | error e => exact (hCX H e s' h).elim
    | ok fl =>
      cases fl with
      | next => exact False.elim h
      | brk => exact False.elim h
      | cont => exact False.elim h
      | ret u =>
        obtain ⟨v, H', os, bare, un, hok', r', q⟩ := h
        have q' : v = .bl true := q
        subst q'
        obtain rfl : u = Value.bool true := r'
        have key : ∀ b o, b ∉ cs.map (·.2) → s₁.heap.get? b = some o → s'.heap.get? b = some o := fun b o nb e => by
          cases q : H b with
          | none => exact un.keep b o e q (by intro z; exact absurd (show b ∈ ([] : List Addr) from z) (by simp)) (by simp)
          | some u =>
            rcases hO b with z | z | ⟨ob, xs, z⟩
            · rw [q] at z; cases z
            · exact absurd z nb
            · have z2 := un.frzs b ob _ z
              obtain ⟨e1, _⟩ := hok b _ z
              obtain ⟨e2, _⟩ := hok' b _ z2
              rw [e] at e1; cases e1
              exact e2
        have grown : ∀ p ∈ cs, ∃ more : Array Value, s'.heap.get? p.2 = some { cls := .none, data := .fields more } := fun p hp => by
          obtain ⟨more, z⟩ := un.tbls p.2 #[] (hH p hp)
          exact ⟨_, hok' p.2 _ z⟩
        refine ⟨rfl, ⟨fun b o e => ?_, fun b o e => ?_⟩, os, bare⟩
        · by_cases hb : b ∈ cs.map (·.2)
          · obtain ⟨p, hp, ep⟩ := List.mem_map.mp hb
            obtain ⟨more, hm⟩ := grown p hp
            rw [← ep] at e ⊢
            rw [hT p hp] at e
            cases e
            exact .inr (.inl ⟨((C p hp).tab (hT p hp)).isCodeTable, rfl, #[], more, rfl, by rw [Array.empty_append]; exact hm⟩)
          · exact .inl (key b o hb e)
        · by_cases hb : b ∈ cs.map (·.2)
          · obtain ⟨p, hp, ep⟩ := List.mem_map.mp hb
            obtain ⟨more, hm⟩ := grown p hp
            rw [← ep]
            exact ⟨_, hm⟩
          · exact ⟨o, key b o hb e⟩
  cases hk : K.lookup a with
  | some o =>
    have e := KX a o hk
    rw [ha] at e
    cases e
    refine core (fun b => if b ∈ cs.map (·.2) then some (.tbl #[]) else none) (fun p hp => if_pos (memT p hp)) (fun b => ?_) (.inr ⟨_, vs.toArray, _, hk, rfl, rfl, rfl, by rw [List.size_toArray, lenV]; exact hl, by simpa using rv⟩) (fun b u z => ?_) (fun b z => ?_) fun z => absurd (show (if a ∈ cs.map (·.2) then some (HO.tbl #[]) else none) = none from if_neg aT) z
    · by_cases hb : b ∈ cs.map (·.2)
      · exact .inr (.inl hb)
      · exact .inl (if_neg hb)
    · by_cases hb : b ∈ cs.map (·.2)
      · have z' := (if_pos hb).symm.trans z
        cases z'
        exact isT b hb
      · have z' := (if_neg hb).symm.trans z
        cases z'
    · by_cases hb : b ∈ cs.map (·.2)
      · exact .inr hb
      · exact absurd (if_neg hb) z
  | none =>
    refine core (fun b => if b = a then some (.frz { cls := .type "list", data := .seq vs.toArray } (.lst (ns.map V.int))) else if b ∈ cs.map (·.2) then some (.tbl #[]) else none) (fun p hp => (if_neg (show ¬ p.2 = a from fun z => aT (by rw [← z]; exact memT p hp))).trans (if_pos (memT p hp))) (fun b => ?_)
      (.inl (.inr ⟨{ cls := .type "list", data := .seq vs.toArray }, if_pos rfl⟩)) (fun b u z => ?_) (fun b z => ?_) fun _ => hk
    · by_cases hb : b = a
      · exact .inr (.inr ⟨_, _, if_pos hb⟩)
      · by_cases hb2 : b ∈ cs.map (·.2)
        · exact .inr (.inl hb2)
        · exact .inl ((if_neg hb).trans (if_neg hb2))
    · by_cases hb : b = a
      · have z' := (if_pos hb).symm.trans z
        cases z'
        rw [hb]
        exact ⟨ha, by rw [List.length_map]; exact hl, vs, _, rv, ha⟩
      · have z1 := (if_neg hb).symm.trans z
        by_cases hb2 : b ∈ cs.map (·.2)
        · have z' := (if_pos hb2).symm.trans z1
          cases z'
          exact isT b hb2
        · have z' := (if_neg hb2).symm.trans z1
          cases z'
    · by_cases hb : b = a
      · exact .inl hb
      · by_cases hb2 : b ∈ cs.map (·.2)
        · exact .inr hb2
        · exact absurd ((if_neg hb).trans (if_neg hb2)) z
def LawAt2 (l : PySem.W.OpenLaw) (w : World) (K : PySem.W.Frag) (CX : CXT) (k n : Nat) (x : Str) (mg : Str → Option Value) (fa : Addr) (h : Heap) : Prop :=
  ∃ (fd : FuncData) (cs : List (Addr × Addr)) (sp : Sp), (∀ p ∈ cs, h.get? p.2 = some { cls := .none, data := .fields #[] }) ∧ (∀ p ∈ cs, K.lookup p.2 = none) ∧ (∀ p ∈ cs, PySem.W.CodeHd h p.1 p.2) ∧ (∀ (s : Shared) (u : Value), BindsTo s fd ⟨[u], []⟩ [(x, u)]) ∧
    (∀ (H : Hp) (a : Addr) (ns : List Int), ns.length ≤ n → (∀ z ∈ ns, Builtin.Int.intBits z ≤ 1048576) → (∀ p ∈ cs, H p.2 = some (.tbl #[])) → (∀ b, H b = none ∨ b ∈ cs.map (·.2) ∨ ∃ o xs, H b = some (.frz o (.lst xs))) → SqL K H a (ns.map V.int) → sp [.ref a] H (fun v _ => v = .bl true) fun _ _ _ => False) ∧
    ∀ base : Heap, K.In base → base.Ns mainGlobals mg → (∀ p ∈ cs, TabB base mg p.1 p.2) → FnOk l.prog w K mg base CX k fa fd [x] sp
theorem walk_ofT2 {l : PySem.W.OpenLaw} {n k : Nat} {q : Program} {loose : List Str} {XP : (Str → Option Value) → Heap → Prop} {YP : World → Heap → Prop} {d : DefRec} {K : Params → PySem.W.Frag} {CX : World → CXT} {x : Str}
    (hn : l.most = some n) (hn2 : n ≤ sizeLine) (hdf : d.params.defaults = []) (hr : Room k callerA) (hY : ∀ (w : World) (h : Heap), YP w h → (K w.params).In h)
    (F : ∀ (w : World) (mg : Str → Option Value) (fa : Addr) (h : Heap), YP w h → (K w.params).In h → h.Ns mainGlobals mg → mg d.name = some (.ref fa) → LawAt2 l w (K w.params) (CX w) k n x mg fa h)
    (hCX : ∀ (w : World) (H : Hp) (s : Shared) (e : Value) (s' : Shared), CX w [] H s (fun _ _ _ => False) e s' → False) :
    PySem.W.WalkO q loose XP YP l.row.toRowW d [] (fun f vs => PySem.call f vs) := by
  refine Att.attach_callB hn hdf fun w s₀ s₁ mg mb fa o pm cd doc a vs ns G Y ho hd hcd hmg hobj hints hlen hbits hg => ?_
  have KX := hY w _ Y
  obtain ⟨fd, cs, sp, hT, nT, C, hb, hsp, hF⟩ := F w mg fa _ Y KX G.T.g hmg
  exact law_callT2 KX G.T.g G.T.b G.T.builtins G.T.nolimit hg hT nT C G.T.bmain hobj hints (Nat.le_trans hlen hn2) hr hF hb (fun H hH hO hS => hsp H a ns hlen hbits hH hO hS) fun H e s' => hCX w H s₁ e s'

/-- the law's promise, from what the evaluator gives -/
theorem law_spT [Tau] {K : PySem.W.Frag} {cf : Str → List D → Hh → Out D} {H : Hp} {a : Addr} {ns : List Int} {x : Str} {cs : List (Addr × Addr)} (hT : LamX.Tabs Tau.tabs H) (hI : Tau.inv H) (ht : ∀ p ∈ cs, H p.2 = some (.tbl #[])) (ho : ∀ b, H b = none ∨ b ∈ cs.map (·.2) ∨ ∃ o xs, H b = some (.frz o (.lst xs))) (hS : SqL K H a (ns.map V.int)) (e : ∃ h', cf x [.rl (ns.map D.int)] [] = .ok (.bl true) h') : spF K cf x 1 [.ref a] H (fun v _ => v = .bl true) fun _ _ _ => False := by
  obtain ⟨h', e⟩ := e
  have sq : SqS K H a (ns.map V.int) := by
    rcases hS with (z | z) | z
    · rcases ho a with n | n | ⟨o, xs, n⟩
      · rw [n] at z; cases z
      · obtain ⟨p, hp, rfl⟩ := List.mem_map.mp n
        rw [ht p hp] at z
        cases z
      · rw [n] at z; cases z
    · exact .inl z
    · exact .inr z
  have allI : ∀ ns : List Int, VRs K [] H (ns.map D.int) (ns.map V.int) := fun ns => by
    induction ns with
    | nil => exact .nil
    | cons n ns ih => exact .cons (.int n) ih
  refine ⟨[], [], _, ⟨rfl, fun n o a e => by simp at e, List.nodup_nil, hT, hI⟩, .cons (.rl sq (allI ns)) .nil, rfl, ?_⟩
  rw [e]
  intro φ' H' v w R r
  cases r
  rfl
/-- a list of one entry -/
theorem lk1 {k f : Str} {v L : LamI} (h : List.lookup f [(k, v)] = some L) : f = k ∧ L = v := by
  unfold List.lookup at h
  split at h
  · rename_i e
    exact ⟨by simpa using e, (Option.some.inj h).symm⟩
  · cases h
theorem gb_none {x : Str} {o : Option Value} (e : glbV x = none) (h : o = none) : GlbS x o := by
  unfold GlbS
  rw [e]
  exact h
theorem gb_some {x v : Str} {o : Option Value} {tk : Tok} (e : glbV x = some v) (h : o = some (.str v tk)) : GlbS x o := by
  unfold GlbS
  rw [e]
  exact ⟨tk, h⟩
end Py
namespace LawP
open PySem
/-! the IR of the text -/
open Py in
section
def N_next_state : List Str := ["table", "state", "deed"]
def I_next_state : Fn := ⟨3, 3, [], (.cons (.ret (.ix (.ix (.ix (.var 0) (.var 1)) (.var 2)) (.int 0))) .nil), none⟩
def N_answer : List Str := ["table", "state", "deed"]
def I_answer : Fn := ⟨3, 3, [], (.cons (.ret (.ix (.ix (.ix (.var 0) (.var 1)) (.var 2)) (.int 1))) .nil), none⟩
def N_is_look : List Str := ["table", "deed", "state", "row"]
def I_is_look : Fn := ⟨2, 4, [], (.cons (.ret (.blt .all (.cons (.lc [2, 3] (.enum (.var 0)) (.tup (.cons (.name 2) (.cons (.name 3) .nil))) .no (.cmp .Eq (.ix (.ix (.var 3) (.var 1)) (.int 0)) (.var 2))) .nil))) .nil), none⟩
def N_is_laying : List Str := ["table", "deed", "row"]
def I_is_laying : Fn := ⟨2, 3, [], (.cons (.ret (.blt .all (.cons (.lc [2] (.seq (.var 0)) (.name 2) .no (.cmp .Eq (.ix (.var 2) (.var 1)) (.tup (.cons (.ix (.ix (.ix (.var 0) (.int 0)) (.var 1)) (.int 0)) (.cons (.int 0) .nil))))) .nil))) .nil), none⟩
def N_is_plain : List Str := ["table", "deed"]
def I_is_plain : Fn := ⟨1, 2, [], (.cons (.ret (.blt .all (.cons (.lc [1] (.rng1 (.blt .len (.cons (.ix (.var 0) (.int 0)) .nil))) (.name 1) .no (.or (.call "is_look" (.cons (.var 0) (.cons (.var 1) .nil))) (.call "is_laying" (.cons (.var 0) (.cons (.var 1) .nil))))) .nil))) .nil), none⟩
def N_meek_at : List Str := ["table", "one", "other", "state", "first", "second", "onward", "turned"]
def I_meek_at : Fn := ⟨4, 8, [], (.cons (.asg (.name 4) (.call "next_state" (.cons (.var 0) (.cons (.var 3) (.cons (.var 1) .nil))))) (.cons (.asg (.name 5) (.call "next_state" (.cons (.var 0) (.cons (.var 3) (.cons (.var 2) .nil))))) (.cons (.asg (.name 6) (.call "next_state" (.cons (.var 0) (.cons (.var 4) (.cons (.var 2) .nil))))) (.cons (.asg (.name 7) (.call "next_state" (.cons (.var 0) (.cons (.var 5) (.cons (.var 1) .nil))))) (.cons (.ret (.or (.cmp .Eq (.var 6) (.var 7)) (.or (.cmp .Eq (.var 6) (.var 5)) (.cmp .Eq (.var 7) (.var 4))))) .nil))))), none⟩
def N_is_meek : List Str := ["table", "state", "one", "other"]
def I_is_meek : Fn := ⟨1, 4, [], (.cons (.for_ (.rng1 (.blt .len (.cons (.var 0) .nil))) (.name 1) (.cons (.for_ (.rng1 (.blt .len (.cons (.ix (.var 0) (.int 0)) .nil))) (.name 2) (.cons (.ifs (.not (.blt .all (.cons (.lc [3] (.rng1 (.blt .len (.cons (.ix (.var 0) (.int 0)) .nil))) (.name 3) .no (.call "meek_at" (.cons (.var 0) (.cons (.var 2) (.cons (.var 3) (.cons (.var 1) .nil)))))) .nil))) (.cons (.ret (.bl false)) .nil) .nil) .nil)) .nil)) (.cons (.ret (.bl true)) .nil)), none⟩
def N_first : List Str := ["n", "rows", "v", "state"]
def I_first : Fn := ⟨1, 4, [], (.cons (.asg (.name 1) (.lst (.cons (.blt .tuple (.cons (.lc [2] (.rng2 (.int 1) (.bin .Add (.var 0) (.int 1))) (.name 2) .no (.tup (.cons (.var 2) (.cons (.var 2) .nil)))) .nil)) .nil))) (.cons (.for_ (.rng2 (.int 1) (.bin .Add (.var 0) (.int 1))) (.name 3) (.cons (.expr (.app (.var 1) (.blt .tuple (.cons (.lc [2] (.rng1 (.var 0)) (.name 2) .no (.tup (.cons (.var 3) (.cons (.var 3) .nil)))) .nil)))) .nil)) (.cons (.ret (.blt .tuple (.cons (.var 1) .nil))) .nil))), none⟩
def N_plain : List Str := ["n", "rows", "state", "v"]
def I_plain : Fn := ⟨1, 4, [], (.cons (.asg (.name 1) (.lst .nil)) (.cons (.for_ (.rng1 (.var 0)) (.name 2) (.cons (.expr (.app (.var 1) (.bin .Add (.tup (.cons (.tup (.cons (.var 2) (.cons (.var 2) .nil))) .nil)) (.blt .tuple (.cons (.lc [3] (.rng1 (.var 0)) (.name 3) .no (.tup (.cons (.var 3) (.cons (.int 0) .nil)))) .nil))))) .nil)) (.cons (.ret (.blt .tuple (.cons (.var 1) .nil))) .nil))), none⟩
def N_swap : List Str := ["n", "v", "state"]
def I_swap : Fn := ⟨1, 3, [], (.cons (.ret (.blt .tuple (.cons (.lc [2] (.rng1 (.var 0)) (.name 2) .no (.blt .tuple (.cons (.lc [1] (.rng1 (.var 0)) (.name 1) .no (.tup (.cons (.var 1) (.cons (.var 2) .nil)))) .nil))) .nil))) .nil), none⟩
def N_add : List Str := ["n", "state"]
def I_add : Fn := ⟨1, 2, [], (.cons (.ret (.blt .tuple (.cons (.lc [1] (.rng1 (.var 0)) (.name 1) .no (.tup (.cons (.tup (.cons (.bin .Mod (.bin .Add (.var 1) (.int 1)) (.var 0)) (.cons (.var 1) .nil))) .nil))) .nil))) .nil), none⟩
def N_mark : List Str := ["table", "state", "deed"]
def I_mark : Fn := ⟨1, 3, [], (.cons (.for_ (.rng1 (.blt .len (.cons (.var 0) .nil))) (.name 1) (.cons (.for_ (.rng1 (.blt .len (.cons (.ix (.var 0) (.var 1)) .nil))) (.name 2) (.cons (.ifs (.cmp .NotEq (.call "answer" (.cons (.var 0) (.cons (.call "next_state" (.cons (.var 0) (.cons (.var 1) (.cons (.var 2) .nil)))) (.cons (.var 2) .nil)))) (.call "answer" (.cons (.var 0) (.cons (.var 1) (.cons (.var 2) .nil))))) (.cons (.ret (.tup (.cons (.var 1) (.cons (.var 2) .nil)))) .nil) .nil) .nil)) .nil)) (.cons (.ret .non) .nil)), none⟩
def N_is_number : List Str := ["word", "sign"]
def I_is_number : Fn := ⟨1, 2, [], (.cons (.ifs (.or (.cmp .Lt (.blt .len (.cons (.var 0) .nil)) (.int 1)) (.or (.cmp .Gt (.blt .len (.cons (.var 0) .nil)) (.int 3)) (.and (.cmp .Gt (.blt .len (.cons (.var 0) .nil)) (.int 1)) (.cmp .Eq (.ix (.var 0) (.int 0)) (.str "0"))))) (.cons (.ret (.bl false)) .nil) .nil) (.cons (.ret (.blt .all (.cons (.lc [1] (.txt (.var 0)) (.name 1) .no (.sin false (.var 1) (.glob "FIGURES"))) .nil))) .nil)), none⟩
def N_row_text : List Str := ["row", "after", "answer"]
def I_row_text : Fn := ⟨1, 3, [], (.cons (.ret (.sm .join (.str " ") (.lc [1, 2] (.seq (.var 0)) (.tup (.cons (.name 1) (.cons (.name 2) .nil))) .no (.bin .Add (.bin .Add (.blt .str (.cons (.var 1) .nil)) (.str ".")) (.blt .str (.cons (.var 2) .nil)))))) .nil), none⟩
def N_table_text : List Str := ["table", "row"]
def I_table_text : Fn := ⟨1, 2, [], (.cons (.ret (.sm .join (.str " / ") (.lc [1] (.seq (.var 0)) (.name 1) .no (.call "row_text" (.cons (.var 1) .nil))))) .nil), none⟩
def N_read_pair : List Str := ["word", "after", "dot", "answer"]
def I_read_pair : Fn := ⟨1, 4, [], (.cons (.asg (.tup (.cons (.name 1) (.cons (.name 2) (.cons (.name 3) .nil)))) (.sm .part (.var 0) (.str "."))) (.cons (.ifs (.or (.not (.call "is_number" (.cons (.var 1) .nil))) (.not (.call "is_number" (.cons (.var 3) .nil)))) (.cons .nev .nil) .nil) (.cons (.ret (.tup (.cons (.blt .int (.cons (.var 1) .nil)) (.cons (.blt .int (.cons (.var 3) .nil)) .nil)))) .nil))), none⟩
def N_read_table : List Str := ["text", "table", "word", "row", "after", "answer"]
def I_read_table : Fn := ⟨1, 6, [], (.cons (.asg (.name 1) (.blt .tuple (.cons (.lc [3] (.seq (.sm .split (.var 0) (.str " / "))) (.name 3) .no (.blt .tuple (.cons (.lc [2] (.seq (.sm .split (.var 3) (.str " "))) (.name 2) .no (.call "read_pair" (.cons (.var 2) .nil))) .nil))) .nil))) (.cons (.for_ (.seq (.var 1)) (.name 3) (.cons (.ifs (.cmp .NotEq (.blt .len (.cons (.var 3) .nil)) (.blt .len (.cons (.ix (.var 1) (.int 0)) .nil))) (.cons .nev .nil) .nil) (.cons (.for_ (.seq (.var 3)) (.tup (.cons (.name 4) (.cons (.name 5) .nil))) (.cons (.ifs (.cmp .GtE (.var 4) (.blt .len (.cons (.var 1) .nil))) (.cons .nev .nil) .nil) .nil)) .nil))) (.cons (.ret (.var 1)) .nil))), none⟩
def N__law_deal : List Str := ["_law_script", "_law_base", "_law_cells", "_law_cell", "_law_number"]
def I__law_deal : Fn := ⟨2, 5, [], (.cons (.asg (.name 2) (.lc [3] (.seq (.slc (.var 0) (.yes (.var 1)) (.yes (.int 63)))) (.name 3) .no (.blt .max (.cons (.var 3) (.cons (.bin .Sub (.int 0) (.var 3)) .nil))))) (.cons (.asg (.name 4) (.bin .Add (.int 6271) (.bin .Mult (.int 11) (.var 1)))) (.cons (.for_ (.seq (.var 2)) (.name 3) (.cons (.asg (.name 4) (.bin .Mod (.bin .Add (.bin .Add (.bin .Mult (.var 4) (.int 69313)) (.bin .Mod (.var 3) (.int 2147483579))) (.int 17)) (.int 2147483647))) .nil)) (.cons (.ret (.dct [.str "seed", .str "number", .str "left"] (.cons (.var 4) (.cons (.int 0) (.cons (.lrv (.lc [3] (.seq (.var 2)) (.name 3) (.yes (.cmp .GtE (.var 3) (.bin .Pow (.int 10) (.int 18)))) (.var 3))) .nil))))) .nil)))), none⟩
def N__law_draw : List Str := ["_law_deal_here", "_law_many", "_law_number", "_law_one", "_law_other"]
def I__law_draw : Fn := ⟨2, 5, [], (.cons (.whl (.and (.cmp .Eq (.ix (.var 0) (.str "number")) (.int 0)) (.cmp .Gt (.blt .len (.cons (.ix (.var 0) (.str "left")) .nil)) (.int 0))) (.cons (.asg (.sub (.var 0) (.str "number")) (.m0 .pop (.ix (.var 0) (.str "left")))) .nil)) (.cons (.asg (.name 2) (.ix (.var 0) (.str "number"))) (.cons (.ifs (.cmp .Gt (.var 2) (.int 0)) (.cons (.asg (.sub (.var 0) (.str "number")) (.bin .FloorDiv (.var 2) (.var 1))) (.cons (.ret (.bin .Mod (.var 2) (.var 1))) .nil)) .nil) (.cons (.asg (.name 3) (.bin .Mod (.bin .Add (.bin .Mult (.ix (.var 0) (.str "seed")) (.int 48271)) (.int 5003)) (.int 2147483647))) (.cons (.asg (.sub (.var 0) (.str "seed")) (.bin .Mod (.bin .Add (.bin .Mult (.var 3) (.int 39373)) (.int 60013)) (.int 2147483587))) (.cons (.asg (.name 4) (.bin .Mod (.bin .Mult (.ix (.var 0) (.str "seed")) (.ix (.var 0) (.str "seed"))) (.int 2147483549))) (.cons (.ret (.bin .Mod (.bin .Add (.bin .Mult (.bin .Mod (.bin .Mult (.var 3) (.var 3)) (.int 2147483563)) (.int 2147483549)) (.var 4)) (.var 1))) .nil))))))), none⟩
def N__law_first : List Str := ["_law_n", "_law_s", "_law_d"]
def I__law_first : Fn := ⟨3, 3, [], (.cons (.ifs (.cmp .Eq (.var 1) (.int 0)) (.cons (.ret (.tup (.cons (.bin .Add (.var 2) (.int 1)) (.cons (.bin .Add (.var 2) (.int 1)) .nil)))) .nil) .nil) (.cons (.ret (.tup (.cons (.var 1) (.cons (.var 1) .nil)))) .nil)), none⟩
def N__law_plain : List Str := ["_law_n", "_law_s", "_law_d"]
def I__law_plain : Fn := ⟨3, 3, [], (.cons (.ifs (.cmp .Eq (.var 2) (.int 0)) (.cons (.ret (.tup (.cons (.var 1) (.cons (.var 1) .nil)))) .nil) .nil) (.cons (.ret (.tup (.cons (.bin .Sub (.var 2) (.int 1)) (.cons (.int 0) .nil)))) .nil)), none⟩
def N__law_swap : List Str := ["_law_n", "_law_s", "_law_d"]
def I__law_swap : Fn := ⟨3, 3, [], (.cons (.ret (.tup (.cons (.var 2) (.cons (.var 1) .nil)))) .nil), none⟩
def N__law_add : List Str := ["_law_n", "_law_s", "_law_d"]
def I__law_add : Fn := ⟨3, 3, [], (.cons (.ifs (.cmp .Eq (.var 1) (.bin .Sub (.var 0) (.int 1))) (.cons (.ret (.tup (.cons (.int 0) (.cons (.var 1) .nil)))) .nil) .nil) (.cons (.ret (.tup (.cons (.bin .Add (.var 1) (.int 1)) (.cons (.var 1) .nil)))) .nil)), none⟩
def N__law_right : List Str := ["_law_n", "_law_d", "_law_s"]
def I__law_right : Fn := ⟨1, 3, [], (.cons (.ifs (.cmp .NotEq (.call "first" (.cons (.var 0) .nil)) (.blt .tuple (.cons (.lc [2] (.rng1 (.bin .Add (.var 0) (.int 1))) (.name 2) .no (.blt .tuple (.cons (.lc [1] (.rng1 (.var 0)) (.name 1) .no (.call "_law_first" (.cons (.var 0) (.cons (.var 2) (.cons (.var 1) .nil))))) .nil))) .nil))) (.cons (.ret (.bl false)) .nil) .nil) (.cons (.ifs (.cmp .NotEq (.call "plain" (.cons (.var 0) .nil)) (.blt .tuple (.cons (.lc [2] (.rng1 (.var 0)) (.name 2) .no (.blt .tuple (.cons (.lc [1] (.rng1 (.bin .Add (.var 0) (.int 1))) (.name 1) .no (.call "_law_plain" (.cons (.var 0) (.cons (.var 2) (.cons (.var 1) .nil))))) .nil))) .nil))) (.cons (.ret (.bl false)) .nil) .nil) (.cons (.ifs (.cmp .NotEq (.call "swap" (.cons (.var 0) .nil)) (.blt .tuple (.cons (.lc [2] (.rng1 (.var 0)) (.name 2) .no (.blt .tuple (.cons (.lc [1] (.rng1 (.var 0)) (.name 1) .no (.call "_law_swap" (.cons (.var 0) (.cons (.var 2) (.cons (.var 1) .nil))))) .nil))) .nil))) (.cons (.ret (.bl false)) .nil) .nil) (.cons (.ret (.cmp .Eq (.call "add" (.cons (.var 0) .nil)) (.blt .tuple (.cons (.lc [2] (.rng1 (.var 0)) (.name 2) .no (.blt .tuple (.cons (.lc [1] (.rng1 (.int 1)) (.name 1) .no (.call "_law_add" (.cons (.var 0) (.cons (.var 2) (.cons (.var 1) .nil))))) .nil))) .nil)))) .nil)))), none⟩
def N__law_handed_on : List Str := ["_law_n", "_law_rows", "_law_marks", "_law_row", "_law_table", "_law_looked", "_law_meek"]
def I__law_handed_on : Fn := ⟨1, 7, [], (.cons (.asg (.name 1) (.lst (.cons (.tup (.cons (.call "first" (.cons (.var 0) .nil)) (.cons (.bl false) (.cons (.cmp .Eq (.var 0) (.int 1)) .nil)))) (.cons (.tup (.cons (.call "plain" (.cons (.var 0) .nil)) (.cons (.bl true) (.cons (.bl true) .nil)))) (.cons (.tup (.cons (.call "swap" (.cons (.var 0) .nil)) (.cons (.cmp .Eq (.var 0) (.int 1)) (.cons (.bl true) .nil)))) (.cons (.tup (.cons (.call "add" (.cons (.var 0) .nil)) (.cons (.cmp .Eq (.var 0) (.int 1)) (.cons (.bl true) .nil)))) .nil)))))) (.cons (.asg (.name 2) (.lc [3] (.seq (.var 1)) (.name 3) .no (.call "mark" (.cons (.ix (.var 3) (.int 0)) .nil)))) (.cons (.ifs (.cmp .NotEq (.var 2) (.lst (.cons .non (.cons .non (.cons (.ix (.lst (.cons .non (.cons (.tup (.cons (.int 0) (.cons (.int 1) .nil))) .nil))) (.blt .int (.cons (.cmp .Gt (.var 0) (.int 1)) .nil))) (.cons (.ix (.lst (.cons .non (.cons (.tup (.cons (.int 0) (.cons (.int 0) .nil))) .nil))) (.blt .int (.cons (.cmp .Gt (.var 0) (.int 1)) .nil))) .nil)))))) (.cons (.ret (.bl false)) .nil) .nil) (.cons (.for_ (.seq (.var 1)) (.tup (.cons (.name 4) (.cons (.name 5) (.cons (.name 6) .nil)))) (.cons (.ifs (.or (.and (.cmp .IsNot (.call "is_plain" (.cons (.var 4) .nil)) (.bl true)) (.var 5)) (.and (.cmp .IsNot (.call "is_meek" (.cons (.var 4) .nil)) (.bl true)) (.var 6))) (.cons (.ret (.bl false)) .nil) .nil) (.cons (.ifs (.or (.and (.cmp .IsNot (.call "is_plain" (.cons (.var 4) .nil)) (.bl false)) (.not (.var 5))) (.and (.cmp .IsNot (.call "is_meek" (.cons (.var 4) .nil)) (.bl false)) (.not (.var 6)))) (.cons (.ret (.bl false)) .nil) .nil) (.cons (.ifs (.cmp .NotEq (.call "read_table" (.cons (.call "table_text" (.cons (.var 4) .nil)) .nil)) (.var 4)) (.cons (.ret (.bl false)) .nil) .nil) .nil)))) (.cons (.ret (.bl true)) .nil))))), none⟩
def N_law : List Str := ["_law_script", "_law_deal_here", "_law_n", "_law_other"]
def I_law : Fn := ⟨1, 4, [], (.cons (.asg (.name 1) (.call "_law_deal" (.cons (.var 0) (.cons (.int 0) .nil)))) (.cons (.asg (.name 2) (.bin .Add (.int 1) (.call "_law_draw" (.cons (.var 1) (.cons (.int 4) .nil))))) (.cons (.asg (.name 3) (.bin .Add (.int 1) (.call "_law_draw" (.cons (.var 1) (.cons (.int 4) .nil))))) (.cons (.ret (.and (.call "_law_right" (.cons (.var 2) .nil)) (.and (.call "_law_right" (.cons (.var 3) .nil)) (.and (.call "_law_handed_on" (.cons (.var 2) .nil)) (.and (.call "_law_handed_on" (.cons (.var 3) .nil)) (.call "_law_right" (.cons (.var 2) .nil))))))) .nil)))), none⟩
def XcS : List Str := []
def FdS : List Str := []
def RaS : List Str := []
instance TauL : Py.Tau := Py.tauX [] []
def T : Tb := [("next_state", I_next_state), ("answer", I_answer), ("is_look", I_is_look), ("is_laying", I_is_laying), ("is_plain", I_is_plain), ("meek_at", I_meek_at), ("is_meek", I_is_meek), ("first", I_first), ("plain", I_plain), ("swap", I_swap), ("add", I_add), ("mark", I_mark), ("is_number", I_is_number), ("row_text", I_row_text), ("table_text", I_table_text), ("read_pair", I_read_pair), ("read_table", I_read_table), ("_law_deal", I__law_deal), ("_law_draw", I__law_draw), ("_law_first", I__law_first), ("_law_plain", I__law_plain), ("_law_swap", I__law_swap), ("_law_add", I__law_add), ("_law_right", I__law_right), ("_law_handed_on", I__law_handed_on), ("law", I_law)]
def FF : List Str := ["next_state", "answer", "is_look", "is_laying", "is_plain", "meek_at", "is_meek", "first", "plain", "swap", "add", "mark", "is_number", "row_text", "table_text", "read_pair", "read_table", "_law_deal", "_law_draw", "_law_first", "_law_plain", "_law_swap", "_law_add", "_law_right", "_law_handed_on", "law"]
def BB : List Str := ["FIGURES", "all", "enumerate", "int", "len", "list", "max", "range", "reversed", "str", "tuple"]
def KK : List (Str × List Str × Nat) := []
theorem T_next_state : T.lookup ("next_state" : Str) = some I_next_state := by decide +kernel
theorem T_answer : T.lookup ("answer" : Str) = some I_answer := by decide +kernel
theorem T_is_look : T.lookup ("is_look" : Str) = some I_is_look := by decide +kernel
theorem T_is_laying : T.lookup ("is_laying" : Str) = some I_is_laying := by decide +kernel
theorem T_is_plain : T.lookup ("is_plain" : Str) = some I_is_plain := by decide +kernel
theorem T_meek_at : T.lookup ("meek_at" : Str) = some I_meek_at := by decide +kernel
theorem T_is_meek : T.lookup ("is_meek" : Str) = some I_is_meek := by decide +kernel
theorem T_first : T.lookup ("first" : Str) = some I_first := by decide +kernel
theorem T_plain : T.lookup ("plain" : Str) = some I_plain := by decide +kernel
theorem T_swap : T.lookup ("swap" : Str) = some I_swap := by decide +kernel
theorem T_add : T.lookup ("add" : Str) = some I_add := by decide +kernel
theorem T_mark : T.lookup ("mark" : Str) = some I_mark := by decide +kernel
theorem T_is_number : T.lookup ("is_number" : Str) = some I_is_number := by decide +kernel
theorem T_row_text : T.lookup ("row_text" : Str) = some I_row_text := by decide +kernel
theorem T_table_text : T.lookup ("table_text" : Str) = some I_table_text := by decide +kernel
theorem T_read_pair : T.lookup ("read_pair" : Str) = some I_read_pair := by decide +kernel
theorem T_read_table : T.lookup ("read_table" : Str) = some I_read_table := by decide +kernel
theorem T__law_deal : T.lookup ("_law_deal" : Str) = some I__law_deal := by decide +kernel
theorem T__law_draw : T.lookup ("_law_draw" : Str) = some I__law_draw := by decide +kernel
theorem T__law_first : T.lookup ("_law_first" : Str) = some I__law_first := by decide +kernel
theorem T__law_plain : T.lookup ("_law_plain" : Str) = some I__law_plain := by decide +kernel
theorem T__law_swap : T.lookup ("_law_swap" : Str) = some I__law_swap := by decide +kernel
theorem T__law_add : T.lookup ("_law_add" : Str) = some I__law_add := by decide +kernel
theorem T__law_right : T.lookup ("_law_right" : Str) = some I__law_right := by decide +kernel
theorem T__law_handed_on : T.lookup ("_law_handed_on" : Str) = some I__law_handed_on := by decide +kernel
theorem T_law : T.lookup ("law" : Str) = some I_law := by decide +kernel
end
open Py
/-! tables as values -/
abbrev Tab := List (List (Nat × Nat))
abbrev nD (n : Nat) : D := .int (n : Int)
abbrev prD (p : Nat × Nat) : D := .tup [nD p.1, nD p.2]
abbrev rowD (r : List (Nat × Nat)) : D := .tup (r.map prD)
abbrev tabD (t : Tab) : D := .tup (t.map rowD)
theorem at_map {α : Type} (f : α → D) {xs : List α} {k : Nat} {x : α} (e : xs[k]? = some x) : L2.atI (xs.map f) (k : Int) = some (f x) := atI_nat rfl (by rw [List.getElem?_map, e]; rfl)
theorem prs_low (n : Nat) (ps : List (Nat × Nat)) : lows n (ps.map prD) = true := lows_iff.mpr fun d hd => by
  obtain ⟨p, _, rfl⟩ := List.mem_map.mp hd
  rfl
theorem tabD_low (n : Nat) (t : Tab) : low n (tabD t) = true := by
  show lows n (t.map rowD) = true
  refine lows_iff.mpr fun d hd => ?_
  obtain ⟨r, _, rfl⟩ := List.mem_map.mp hd
  exact prs_low n r
def dropSs : Nat → Ss → Ss
  | 0, b => b
  | n + 1, .cons _ b => dropSs n b
  | _, .nil => .nil
theorem ga {h x : Hh} {k : Nat} {o : Py.O} (e : h[k]? = some o) : (h ++ x)[k]? = some o := (List.getElem?_append_left (List.getElem?_eq_some_iff.mp e).1).trans e
/-! the law's tables -/
theorem ex_list {α : Type} {f : α → D} {P : α → Prop} : ∀ {vs : List D}, (∀ v ∈ vs, ∃ x, v = f x ∧ P x) → ∃ xs : List α, vs = xs.map f ∧ ∀ x ∈ xs, P x
  | [], _ => ⟨[], rfl, by simp⟩
  | v :: vs, h => by
    obtain ⟨x, rfl, px⟩ := h v List.mem_cons_self
    obtain ⟨xs, rfl, pxs⟩ := ex_list (vs := vs) fun w hw => h w (List.mem_cons_of_mem _ hw)
    exact ⟨x :: xs, rfl, fun y hy => by
      rcases List.mem_cons.mp hy with rfl | hy
      · exact px
      · exact pxs y hy⟩
theorem all_at {P : D → Prop} {vs : List D} (h : ∀ (i : Nat) v, vs[i]? = some v → P v) : ∀ v ∈ vs, P v := fun p hp => by
  obtain ⟨i, hi, e⟩ := List.getElem_of_mem hp
  exact h i p (by rw [List.getElem?_eq_getElem hi, e])
theorem lc_of {α : Type} {g : α → D} {xs : List α} {turn : D → Hh → Out (Option D)} {gs : Gd} {h : Hh} {QL : List D → Hh → Prop} (f : α → D) (s : still gs h) (hl : xs.length ≤ 1000) (ht : ∀ x ∈ xs, Wp (turn (g x) h) fun a h' => a = some (f x) ∧ h' = h) (q : QL (xs.map f) h) :
    Wp (lcLoop turn gs (xs.map g) [] h) QL := by
  refine lc_fun (fun i => (xs[i]?.map f).getD .non) s (by rw [List.length_map]; omega) (fun i d e => ?_) ?_
  · rw [List.getElem?_map] at e
    cases ex : xs[i]? with
    | none => rw [ex] at e; cases e
    | some x =>
      rw [ex] at e
      cases e
      exact ht x (List.mem_of_getElem? ex)
  · have z : (List.range (xs.map g).length).map (fun i => (xs[i]?.map f).getD .non) = xs.map f := by
      apply List.ext_getElem?
      intro i
      rw [List.length_map, List.getElem?_map, List.getElem?_map]
      by_cases hi : i < xs.length
      · rw [List.getElem?_range hi, Option.map_some, List.getElem?_eq_getElem hi]
        rfl
      · rw [List.getElem?_eq_none (by rw [List.length_range]; omega), List.getElem?_eq_none (by omega)]
        rfl
    rw [z]
    exact q
theorem lc_nat {n : Nat} {turn : D → Hh → Out (Option D)} {h : Hh} {QL : List D → Hh → Prop} (f : Nat → D) (hl : n ≤ 1000) (ht : ∀ i, i < n → Wp (turn (nD i) h) fun a h' => a = some (f i) ∧ h' = h) (q : QL ((List.range n).map f) h) : Wp (lcLoop turn [] (rng 0 ((n : Nat) : Int).toNat) [] h) QL :=
  lc_fun f still_nil (by rw [rng_len]; omega) (fun i d e => by
    obtain ⟨hi, rfl⟩ := rng_get e
    rw [Int.zero_add]
    exact ht i (by omega)) (by rw [rng_len, Int.toNat_natCast]; exact q)
theorem lc_nat1 {n : Nat} {turn : D → Hh → Out (Option D)} {h : Hh} {QL : List D → Hh → Prop} (f : Nat → D) (hl : n ≤ 1000) (ht : ∀ i, i + 1 < n → Wp (turn (nD (i + 1)) h) fun a h' => a = some (f i) ∧ h' = h) (q : QL ((List.range (n - 1)).map f) h) : Wp (lcLoop turn [] (rng 1 (((n : Nat) : Int) - 1).toNat) [] h) QL :=
  lc_fun f still_nil (by rw [rng_len]; omega) (fun i d e => by
    obtain ⟨hi, rfl⟩ := rng_get e
    have z : D.int (1 + (i : Int)) = nD (i + 1) := by rw [nD]; congr 1; omega
    rw [z]
    exact ht i (by omega)) (by rw [rng_len, show (((n : Nat) : Int) - 1).toNat = n - 1 by omega]; exact q)
theorem map_get {α : Type} {f : α → D} {xs : List α} {i : Nat} {d : D} (e : (xs.map f)[i]? = some d) : ∃ x, xs[i]? = some x ∧ f x = d := by
  rw [List.getElem?_map] at e
  exact Option.map_eq_some_iff.mp e
/-- .. place by place -/
theorem ex_listI {α : Type} {f : α → D} {P : Nat → α → Prop} {vs : List D} (h : ∀ (i : Nat) v, vs[i]? = some v → ∃ x, v = f x ∧ P i x) : ∃ xs : List α, vs = xs.map f ∧ ∀ i x, xs[i]? = some x → P i x := by
  induction vs generalizing P with
  | nil => exact ⟨[], rfl, fun i x e => by simp at e⟩
  | cons v vs ih =>
    obtain ⟨x, rfl, px⟩ := h 0 v rfl
    obtain ⟨xs, rfl, pxs⟩ := ih (P := fun i x => P (i + 1) x) fun i w hw => h (i + 1) w (by simpa using hw)
    exact ⟨x :: xs, rfl, fun i y e => by
      cases i with
      | zero => cases e; exact px
      | succ i => exact pxs i y (by simpa using e)⟩
theorem still1 {h : Hh} {k : Nat} {o : O} (e : h[k]? = some o) : still [(k, o)] h := fun p hp => by rw [List.mem_singleton.mp hp]; exact e
theorem whl_of {test : St → Hh → Out Bool} {body : St → Hh → OutS} {Z : Ez} {m : Nat} {st : St} {h : Hh} (I : Nat → St → Hh → Prop) (h0 : I m st h) (hm : m < 10000000) (step : ∀ (m : Nat) (st : St) (h : Hh), I m st h → Wp (test st h) fun b h1 => if b = true then WpS (body st h1) ⟨fun st h => ∃ j, j < m ∧ I j st h, Z.rt, Z.nx, fun st h => ∃ j, j < m ∧ I j st h⟩ else Z.nx st h1) :
    WpS (whlLoop test body WF st h) Z := whl_run I step WF m st h (by rw [WF_eq]; exact hm) h0
/-! the law's deal of numbers -/
def kS : D := .str (Str.ofString "seed")
def kN : D := .str (Str.ofString "number")
def kL : D := .str (Str.ofString "left")
def dlD (a b : Int) (m : Nat) : List (D × D) := [(kS, .int a), (kN, .int b), (kL, .ref m)]
section
variable {a b x : Int} {m : Nat}
theorem kSN : kS ≠ kN := by decide +kernel
theorem kSL : kS ≠ kL := by decide +kernel
theorem kNL : kN ≠ kL := by decide +kernel
theorem dl_s : dlook (dlD a b m) (.str (Str.ofString "seed")) = some (.int a) := by
  show dlook (dlD a b m) kS = _
  unfold dlD; rw [look_cons, if_pos rfl]
theorem dl_n : dlook (dlD a b m) (.str (Str.ofString "number")) = some (.int b) := by
  show dlook (dlD a b m) kN = _
  unfold dlD; rw [look_cons, if_neg kSN, look_cons, if_pos rfl]
theorem dl_l : dlook (dlD a b m) (.str (Str.ofString "left")) = some (.ref m) := by
  show dlook (dlD a b m) kL = _
  unfold dlD; rw [look_cons, if_neg kSL, look_cons, if_neg kNL, look_cons, if_pos rfl]
theorem dp_s : dput (dlD a b m) (.str (Str.ofString "seed")) (.int x) = dlD x b m := by
  show dput (dlD a b m) kS _ = _
  have e : dlook (dlD a b m) kS = some (.int a) := dl_s
  unfold dput
  rw [e, if_pos (by rfl : (some _ : Option D).isSome = true)]
  unfold dlD
  simp only [List.map_cons, List.map_nil, if_true, if_neg kSN.symm, if_neg kSL.symm]
theorem dp_n : dput (dlD a b m) (.str (Str.ofString "number")) (.int x) = dlD a x m := by
  show dput (dlD a b m) kN _ = _
  have e : dlook (dlD a b m) kN = some (.int b) := dl_n
  unfold dput
  rw [e, if_pos (by rfl : (some _ : Option D).isSome = true)]
  unfold dlD
  simp only [List.map_cons, List.map_nil, if_true, if_neg kSN, if_neg kNL.symm]
theorem dl_len : (dlD a b m).length = 3 := rfl
end
structure Deal (h : Hh) (k m : Nat) : Prop where
  pot : ∃ a b : Int, h[k]? = some (.dct (dlD a b m)) ∧ (0 ≤ a ∧ a < 2147483648) ∧ 0 ≤ b
  left : ∃ cs : List Int, h[m]? = some (.lst (cs.map D.int)) ∧ cs.length ≤ 63 ∧ ∀ c ∈ cs, 0 < c
  ne : k ≠ m
section
variable {h h' : Hh} {k m : Nat} {d : D} {Q : D → Hh → Prop} {o : Py.O}
theorem Deal.klt (P : Deal h k m) : k < h.length := let ⟨_, _, e, _⟩ := P.pot; (List.getElem?_eq_some_iff.mp e).1
theorem Deal.mlt (P : Deal h k m) : m < h.length := let ⟨_, e, _⟩ := P.left; (List.getElem?_eq_some_iff.mp e).1
theorem Deal.same (P : Deal h k m) (ek : h'[k]? = h[k]?) (em : h'[m]? = h[m]?) : Deal h' k m :=
  ⟨let ⟨a, b, e, r⟩ := P.pot; ⟨a, b, ek.trans e, r⟩, let ⟨cs, e, r⟩ := P.left; ⟨cs, em.trans e, r⟩, P.ne⟩
theorem Deal.push {x : Hh} (P : Deal h k m) : Deal (h ++ x) k m := P.same (List.getElem?_append_left P.klt) (List.getElem?_append_left P.mlt)
theorem Deal.set (P : Deal h k m) {j : Nat} (jk : j ≠ k) (jm : j ≠ m) : Deal (h.set j o) k m := P.same (List.getElem?_set_ne jk) (List.getElem?_set_ne jm)
theorem Deal.lows (P : Deal h' k m) {n : Nat} (hm : m < n) : ∀ i ∈ [k, m], ∀ o, h'[i]? = some o → lowO n o = true := fun i hi o e => by
  rcases List.mem_cons.mp hi with rfl | hi
  · obtain ⟨a, b, e2, _⟩ := P.pot
    rw [e2] at e
    cases e
    simp [lowO, dlD, low, kS, kN, kL, hm]
  · rw [List.mem_singleton.mp hi] at e
    obtain ⟨cs, e2, _⟩ := P.left
    rw [e2] at e
    cases e
    exact lows_iff.mpr fun d hd => by
      obtain ⟨i, _, rfl⟩ := List.mem_map.mp hd
      rfl
theorem fr_take {ks : List Nat} (F : Fr ks h h') : Fr ks h (h'.take h.length) ∧ (h'.take h.length).length = h.length := by
  have := F.1
  refine ⟨⟨by rw [List.length_take]; omega, fun j hj hk => ?_⟩, by rw [List.length_take]; omega⟩
  rw [List.getElem?_take_of_lt hj]
  exact F.2 j hj hk
theorem gc_deal (F : Fr [k, m] h h') (P : Deal h' k m) (hk : k < h.length) (hm : m < h.length) (hd : low h.length d = true) (q : ∀ h2, Fr [k, m] h h2 → h2.length = h.length → Deal h2 k m → Q d h2) : Wp (gc h.length h d h') Q := by
  rw [gc_low F (P.lows hm) hd, wp_ok]
  obtain ⟨F2, l2⟩ := fr_take F
  exact q _ F2 l2 (P.same (List.getElem?_take_of_lt hk) (List.getElem?_take_of_lt hm))
theorem gc_dealN {j : Nat} (F : Fr [k, m] h h') (P : Deal h' k m) (hk : k < h.length) (hm : m < h.length) (hj : h.length ≤ j) (ej : h'[j]? = some o) (ho : lowO h.length o = true)
    (q : ∀ h2, Fr [k, m] h h2 → h2.length = h.length + 1 → Deal h2 k m → h2[h.length]? = some o → Q (.ref h.length) h2) : Wp (gc h.length h (.ref j) h') Q := by
  rw [gc_new F (P.lows hm) hj ej ho, wp_ok]
  obtain ⟨F2, l2⟩ := fr_take F
  refine q _ F2.push (by rw [List.length_append, l2]; rfl) (P.same ((List.getElem?_append_left (by omega)).trans (List.getElem?_take_of_lt hk)) ((List.getElem?_append_left (by omega)).trans (List.getElem?_take_of_lt hm))) ?_
  rw [List.getElem?_append_right (by omega), l2, Nat.sub_self]
  rfl
def DrQ (h : Hh) (k m many : Nat) : D → Hh → Prop := fun d h' => Fr [k, m] h h' ∧ h'.length = h.length ∧ Deal h' k m ∧ ∃ r : Nat, d = nD r ∧ r < many
theorem nat_of {x : Int} {m : Nat} (h0 : 0 ≤ x) (h1 : x < m) : ∃ r : Nat, D.int x = nD r ∧ r < m := ⟨x.toNat, by rw [nD, Int.toNat_of_nonneg h0], by omega⟩
theorem draw_wp {n many : Nat} (P : Deal h k m) (h0 : 0 < many) (h1 : many < 1073741824) : Wp (callF T (n + 1) "_law_draw" [.ref k, nD many] h) (DrQ h k m many) := by
  refine call_of T__law_draw rfl ?_
  show WpS (exSs _ I__law_draw.body [some (.ref k), some (nD many), none, none, none] h) _
  simp only [I__law_draw]
  have mi : (0 : Int) < (many : Int) := by omega
  have mi2 : (many : Int) < 1073741824 := by omega
  have ks : isLeaf (.str (Str.ofString "seed")) = true := by decide +kernel
  have kn : isLeaf (.str (Str.ofString "number")) = true := by decide +kernel
  have kl : isLeaf (.str (Str.ofString "left")) = true := by decide +kernel
  simp only [evb, Bool.false_eq_true, Py.wipe, List.getElem?_cons_zero, List.getElem?_cons_succ, List.set_cons_zero, List.set_cons_succ, List.length_cons, List.length_nil, Nat.zero_add, Nat.reduceAdd, and_true, true_and, decide_eq_true_eq, ite_true, ite_false, Option.isSome_some, Bool.not_true, Bool.not_false, w_whl]
  obtain ⟨cs0, ec0, lc0, pc0⟩ := P.left
  refine whl_of (m := cs0.length) (fun c st h1 => st = [some (.ref k), some (nD many), none, none, none] ∧ Fr [k, m] h h1 ∧ h1.length = h.length ∧ Deal h1 k m ∧ ∃ cs : List Int, h1[m]? = some (.lst (cs.map D.int)) ∧ cs.length = c) ⟨rfl, Fr.refl, rfl, P, cs0, ec0, rfl⟩ (by omega) ?_
  rintro c st h1 ⟨rfl, F1, l1, P1, cs, ec, lc⟩
  obtain ⟨⟨a, b, ep, a0, b0⟩, ⟨cs', ec', lc', pc'⟩, ne⟩ := P1
  rw [ec] at ec'
  have ecs : cs = cs' := by
    injection ec' with z
    injection z with z
    exact (List.map_inj_right fun x y z => by injection z).mp z
  subst ecs
  have hk1 : k < h1.length := by rw [l1]; exact P.klt
  have hm1 : m < h1.length := by rw [l1]; exact P.mlt
  by_cases hb : b = 0
  · have d1 : decide (b = 0) = true := decide_eq_true hb
    have d2 : decide (0 < b) = false := decide_eq_false (by omega)
    by_cases hc : cs = []
    · have d3 : decide ((0 : Int) < ((cs.map D.int).length : Int)) = false := decide_eq_false (by rw [hc]; decide)
      have es : ∀ x, (h1.set k (.dct (dlD x b m)))[k]? = some (.dct (dlD x b m)) := fun x => List.getElem?_set_self hk1
      simp only [evb, Bool.false_eq_true, Py.wipe, List.getElem?_cons_zero, List.getElem?_cons_succ, List.set_cons_zero, List.set_cons_succ, List.length_cons, List.length_nil, Nat.zero_add, Nat.reduceAdd, and_true, true_and, decide_eq_true_eq, ite_true, ite_false, Option.isSome_some, Bool.not_true, Bool.not_false, w_test, ep, ec, d1, d2, d3, es, mi, ks, kn, kl, dl_s, dl_n, dl_l, dp_s, dp_n, dl_len]
      refine ⟨okMul_r (by decide) (by decide), by decide, okMul_r (by decide) (by decide), by decide, by decide, okMul_l (by omega) (by omega), by decide, okMul_l (by omega) (by omega), by decide, okMul_r (by decide) (by decide), ?_⟩
      refine gc_deal (F1.set (.inl (by simp))) ⟨⟨_, b, List.getElem?_set_self hk1, ⟨by omega, by omega⟩, b0⟩, ⟨cs, by rw [List.getElem?_set_ne ne]; exact ec, lc', pc'⟩, ne⟩ P.klt P.mlt rfl fun h2 F2 l2 P2 => ?_
      exact ⟨F2, l2, P2, nat_of (Int.emod_nonneg _ (by omega)) (Int.emod_lt_of_pos _ mi)⟩
    · obtain ⟨zs, z, rfl⟩ : ∃ zs z, cs = zs ++ [z] := ⟨cs.dropLast, cs.getLast hc, (List.dropLast_concat_getLast hc).symm⟩
      have d3 : decide ((0 : Int) < (((zs ++ [z]).map D.int).length : Int)) = true := decide_eq_true (by rw [List.length_map, List.length_append]; simp)
      have hz := pc' z (by simp)
      rw [List.map_append, List.map_singleton] at ec d3
      have es : (h1.set m (.lst (zs.map D.int)))[k]? = some (.dct (dlD a b m)) := by rw [List.getElem?_set_ne (Ne.symm ne)]; exact ep
      simp only [evb, Bool.false_eq_true, Py.wipe, List.getElem?_cons_zero, List.getElem?_cons_succ, List.set_cons_zero, List.set_cons_succ, List.length_cons, List.length_nil, Nat.zero_add, Nat.reduceAdd, and_true, true_and, decide_eq_true_eq, ite_true, ite_false, Option.isSome_some, Bool.not_true, Bool.not_false, w_test, ep, ec, d1, d3, es, ks, kn, kl, dl_s, dl_n, dl_l, dp_s, dp_n, dl_len]
      refine ⟨by decide, zs.length, by rw [← lc]; simp, (F1.set (.inl (by simp))).set (.inl (by simp)), by simp [l1], ⟨⟨a, z, ?_, a0, by omega⟩, ⟨zs, ?_, by simp at lc'; omega, fun c hc => pc' c (by simp [hc])⟩, ne⟩, zs, ?_, rfl⟩
      · rw [List.getElem?_set_self (by rw [List.length_set]; exact hk1)]
      · rw [List.getElem?_set_ne ne, List.getElem?_set_self hm1]
      · rw [List.getElem?_set_ne ne, List.getElem?_set_self hm1]
  · have d1 : decide (b = 0) = false := decide_eq_false hb
    have d2 : decide (0 < b) = true := decide_eq_true (by omega)
    simp only [evb, Bool.false_eq_true, Py.wipe, List.getElem?_cons_zero, List.getElem?_cons_succ, List.set_cons_zero, List.set_cons_succ, List.length_cons, List.length_nil, Nat.zero_add, Nat.reduceAdd, and_true, true_and, decide_eq_true_eq, ite_true, ite_false, Option.isSome_some, Bool.not_true, Bool.not_false, w_test, ep, d1, d2, mi, mi2, ks, kn, kl, dl_s, dl_n, dl_l, dp_s, dp_n, dl_len]
    refine ⟨by decide, gc_deal (d := .int (b % many)) (F1.set (.inl (by simp))) ⟨⟨a, _, List.getElem?_set_self hk1, a0, Int.ediv_nonneg b0 (by omega)⟩, ⟨cs, by rw [List.getElem?_set_ne ne]; exact ec, lc', pc'⟩, ne⟩ P.klt P.mlt rfl fun h2 F2 l2 P2 => ?_⟩
    exact ⟨F2, l2, P2, nat_of (Int.emod_nonneg _ (by omega)) (Int.emod_lt_of_pos _ mi)⟩
theorem draw_c {n : Nat} (c : Nat) (P : Deal h k m) (h0 : 0 < c) (h1 : c < 1073741824) {i : Int} (hi : i = (c : Int)) : Wp (callF T (n + 1) "_law_draw" [.ref k, .int i] h) (DrQ h k m c) := by
  subst hi
  exact draw_wp P h0 h1
theorem gc_keep {j : Nat} (F : Fr [] h h') (hj : h.length ≤ j) (ej : h'[j]? = some o) (ho : lowO h.length o = false) : gc h.length h (.ref j) h' = .ok (.ref j) h' := by
  unfold gc
  rw [if_pos (F.okTo fun _ z => by simp at z), if_neg (by simp [low]; omega)]
  simp only [ej, ho, Bool.false_eq_true, if_false]
end
section
variable {h : Hh}
theorem deal_wp {n : Nat} {ns : List Int} (hl : ns.length ≤ 63) : Wp (callF T (n + 1) "_law_deal" [.rl (ns.map D.int), .int 0] h) fun d h' => Fr [] h h' ∧ ∃ k m, d = .ref k ∧ h.length ≤ k ∧ h.length ≤ m ∧ Deal h' k m := by
  refine call_of T__law_deal rfl ?_
  show WpS (exSs _ I__law_deal.body [some (.rl (ns.map D.int)), some (.int 0), none, none, none] h) _
  simp only [I__law_deal]
  have hcut := cut_len (ns.map D.int) (some 0) (some 63)
  rw [List.length_map] at hcut
  simp only [evb, Bool.false_eq_true, Py.wipe, List.getElem?_cons_zero, List.getElem?_cons_succ, List.set_cons_zero, List.set_cons_succ, List.length_cons, List.length_nil, Nat.zero_add, Nat.reduceAdd, and_true, true_and, decide_eq_true_eq, ite_true, ite_false, Option.isSome_some, Bool.not_true, Bool.not_false]
  refine (lc_each (fun h' => h' = h) (fun _ v => ∃ c : Int, v = .int c ∧ 0 ≤ c) rfl (by show _ ≤ 16777216; omega) (fun _ _ => still_nil) ?_).mono ?_
  · rintro i d h1 ei rfl
    obtain ⟨c, _, rfl⟩ := List.mem_map.mp (cut_mem (List.mem_of_getElem? ei))
    simp only [evb, Bool.false_eq_true, Py.wipe, List.getElem?_cons_zero, List.getElem?_cons_succ, List.set_cons_zero, List.set_cons_succ, List.length_cons, List.length_nil, Nat.zero_add, Nat.reduceAdd, and_true, true_and, decide_eq_true_eq, ite_true, ite_false, Option.isSome_some, Bool.not_true, Bool.not_false]
    refine ⟨_, rfl, _, rfl, ?_⟩
    split <;> omega
  rintro vs h1 ⟨rfl, lv, pv⟩
  obtain ⟨cs, rfl, hc⟩ := ex_list (all_at pv)
  rw [List.length_map] at lv
  simp only [evb, Bool.false_eq_true, Py.wipe, List.getElem?_cons_zero, List.getElem?_cons_succ, List.set_cons_zero, List.set_cons_succ, List.length_cons, List.length_nil, Nat.zero_add, Nat.reduceAdd, and_true, true_and, decide_eq_true_eq, ite_true, ite_false, Option.isSome_some, Bool.not_true, Bool.not_false, push_at]
  have e2 : (h1 ++ [Py.O.lst (cs.map D.int)])[h1.length]? = some (.lst (cs.map D.int)) := push_at
  have F2 : Fr [] h1 (h1 ++ [Py.O.lst (cs.map D.int)]) := Fr.refl.push
  generalize h1 ++ [Py.O.lst (cs.map D.int)] = h2 at e2 F2
  try refine ⟨okMul_r (by decide) (by decide), ?_⟩
  refine for_run (fun i st h' => h' = h2 ∧ ∃ (sd : Int) (x3 : Option D), st = [some (.rl (ns.map D.int)), some (.int 0), some (.ref h1.length), x3, some (.int sd)] ∧ (0 ≤ sd ∧ sd < 2147483648)) ⟨rfl, _, _, rfl, by decide⟩ ?_ ?_
  · rintro i d st h' ei ⟨rfl, sd, x3, rfl, hsd⟩
    obtain ⟨c, _, rfl⟩ := List.mem_map.mp (List.mem_of_getElem? ei)
    refine ⟨still1 e2, ?_⟩
    simp only [evb, Bool.false_eq_true, Py.wipe, List.getElem?_cons_zero, List.getElem?_cons_succ, List.set_cons_zero, List.set_cons_succ, List.length_cons, List.length_nil, Nat.zero_add, Nat.reduceAdd, and_true, true_and, decide_eq_true_eq, ite_true, ite_false, Option.isSome_some, Bool.not_true, Bool.not_false]
    exact ⟨okMul_r (by decide) (by decide), by decide, by decide, _, _, rfl, ⟨by omega, by omega⟩⟩
  rintro st h' ⟨rfl, sd, x3, rfl, hsd⟩
  refine ⟨still1 e2, ?_⟩
  simp only [evb, Bool.false_eq_true, Py.wipe, List.getElem?_cons_zero, List.getElem?_cons_succ, List.set_cons_zero, List.set_cons_succ, List.length_cons, List.length_nil, Nat.zero_add, Nat.reduceAdd, and_true, true_and, decide_eq_true_eq, ite_true, ite_false, Option.isSome_some, Bool.not_true, Bool.not_false, e2]
  refine lc_fmap (fun d => match d with | .int c => if (10 : Int) ^ Int.toNat 18 ≤ c then some (.int c) else none | _ => none) (still1 e2) (by rw [List.length_map]; omega) (fun x hx => ?_) ?_
  · obtain ⟨c, _, rfl⟩ := List.mem_map.mp hx
    by_cases g : (10 : Int) ^ Int.toNat 18 ≤ c
    · have g2 : decide ((10 : Int) ^ Int.toNat 18 ≤ c) = true := decide_eq_true g
      simp only [evb, Bool.false_eq_true, Py.wipe, List.getElem?_cons_zero, List.getElem?_cons_succ, List.set_cons_zero, List.set_cons_succ, List.length_cons, List.length_nil, Nat.zero_add, Nat.reduceAdd, and_true, true_and, decide_eq_true_eq, ite_true, ite_false, Option.isSome_some, Bool.not_true, Bool.not_false, g2]
      exact ⟨⟨by decide, by decide, by decide⟩, (if_pos g).symm⟩
    · have g2 : decide ((10 : Int) ^ Int.toNat 18 ≤ c) = false := decide_eq_false g
      simp only [evb, Bool.false_eq_true, Py.wipe, List.getElem?_cons_zero, List.getElem?_cons_succ, List.set_cons_zero, List.set_cons_succ, List.length_cons, List.length_nil, Nat.zero_add, Nat.reduceAdd, and_true, true_and, decide_eq_true_eq, ite_true, ite_false, Option.isSome_some, Bool.not_true, Bool.not_false, g2]
      exact ⟨⟨by decide, by decide, by decide⟩, (if_neg g).symm⟩
  have ef : (cs.map D.int).filterMap (fun d => match d with | .int c => if (10 : Int) ^ Int.toNat 18 ≤ c then some (D.int c) else none | _ => none) = (cs.filter fun c => decide ((10 : Int) ^ Int.toNat 18 ≤ c)).map D.int := by
    rw [List.filterMap_map]
    clear e2 F2 lv pv hc
    induction cs with
    | nil => rfl
    | cons c cs ih =>
      rw [List.filterMap_cons, List.filter_cons, ih]
      simp only [Function.comp]
      generalize (10 : Int) ^ Int.toNat 18 = B
      by_cases g : B ≤ c
      · rw [if_pos g, if_pos (decide_eq_true g)]; rfl
      · rw [if_neg g, if_neg (by simpa using g)]
  rw [ef]
  simp only [evb, Bool.false_eq_true, Py.wipe, List.getElem?_cons_zero, List.getElem?_cons_succ, List.set_cons_zero, List.set_cons_succ, List.length_cons, List.length_nil, Nat.zero_add, Nat.reduceAdd, and_true, true_and, decide_eq_true_eq, ite_true, ite_false, Option.isSome_some, Bool.not_true, Bool.not_false]
  refine ⟨⟨by decide +kernel, by decide, by simp⟩, ?_⟩
  have hp : ∀ c ∈ (cs.filter fun c => decide ((10 : Int) ^ Int.toNat 18 ≤ c)).reverse, 0 < c := fun c hc => by
    have z := of_decide_eq_true (List.mem_filter.mp (List.mem_reverse.mp hc)).2
    have q : (0 : Int) < (10 : Int) ^ Int.toNat 18 := by decide
    omega
  have hl2 : (cs.filter fun c => decide ((10 : Int) ^ Int.toNat 18 ≤ c)).reverse.length ≤ 63 := by
    rw [List.length_reverse]
    have := List.length_filter_le (fun c => decide ((10 : Int) ^ Int.toNat 18 ≤ c)) cs
    omega
  rw [← List.map_reverse]
  generalize (cs.filter fun c => decide ((10 : Int) ^ Int.toNat 18 ≤ c)).reverse = qs at hp hl2
  have em : mergeD [] ([D.str (Str.ofString "seed"), D.str (Str.ofString "number"), D.str (Str.ofString "left")].zip [D.int sd, D.int 0, D.ref h'.length]) = dlD sd 0 h'.length := by
    show (([(kS, D.int sd), (kN, .int 0), (kL, .ref h'.length)] : List (D × D)).foldl (fun acc p => dput acc p.1 p.2) []) = _
    simp only [List.foldl_cons, List.foldl_nil]
    have n1 : dlook [] kS = none := rfl
    have n2 : dlook ([] ++ [(kS, D.int sd)]) kN = none := by rw [List.nil_append, look_cons, if_neg kSN]; rfl
    have n3 : dlook ([] ++ [(kS, D.int sd)] ++ [(kN, .int 0)]) kL = none := by rw [List.nil_append, List.singleton_append, look_cons, if_neg kSL, look_cons, if_neg kNL]; rfl
    rw [put_new n1, put_new n2, put_new n3]
    rfl
  rw [em]
  have hL := F2.1
  have ek : (h' ++ [Py.O.lst (qs.map D.int)] ++ [Py.O.dct (dlD sd 0 h'.length)])[(h' ++ [Py.O.lst (qs.map D.int)]).length]? = some (.dct (dlD sd 0 h'.length)) := push_at
  have eq : (h' ++ [Py.O.lst (qs.map D.int)] ++ [Py.O.dct (dlD sd 0 h'.length)])[h'.length]? = some (.lst (qs.map D.int)) := by
    rw [List.getElem?_append_left (by simp), push_at]
  rw [gc_keep (F2.push.push) (by simp; omega) ek (by simp [lowO, dlD, low, kS, kN, kL]; omega), wp_ok]
  exact ⟨F2.push.push, _, _, rfl, by simp; omega, hL, ⟨⟨sd, 0, ek, hsd, by decide⟩, ⟨qs, eq, hl2, hp⟩, by simp⟩⟩
end
/-! tables as lists of codes -/
def pairC (p : Nat × Nat) : List Nat := TL.numL p.1 ++ (46 :: TL.numL p.2)
def rowC (r : List (Nat × Nat)) : List Nat := TL.joinL [32] (r.map pairC)
def tabC (t : List (List (Nat × Nat))) : List Nat := TL.joinL [32, 47, 32] (t.map rowC)
theorem numL_rng {n c : Nat} (h : c ∈ TL.numL n) : 48 ≤ c ∧ c ≤ 57 := TL.numL_digits n c h
theorem pairC_rng {p : Nat × Nat} {c : Nat} (h : c ∈ pairC p) : c = 46 ∨ (48 ≤ c ∧ c ≤ 57) := by
  unfold pairC at h
  rcases List.mem_append.mp h with h | h
  · exact .inr (numL_rng h)
  · rcases List.mem_cons.mp h with h | h
    · exact .inl h
    · exact .inr (numL_rng h)
theorem joinL_mem {S : List Nat} {c : Nat} : ∀ {l : List (List Nat)}, c ∈ TL.joinL S l → c ∈ S ∨ ∃ p ∈ l, c ∈ p
  | [], h => by cases h
  | [p], h => .inr ⟨p, List.mem_singleton.mpr rfl, h⟩
  | p :: q :: r, h => by
    have h : c ∈ p ++ (S ++ TL.joinL S (q :: r)) := h
    rcases List.mem_append.mp h with h | h
    · exact .inr ⟨p, List.mem_cons_self, h⟩
    · rcases List.mem_append.mp h with h | h
      · exact .inl h
      · rcases joinL_mem h with h | ⟨x, hx, h⟩
        · exact .inl h
        · exact .inr ⟨x, List.mem_cons_of_mem _ hx, h⟩
theorem rowC_rng {r : List (Nat × Nat)} {c : Nat} (h : c ∈ rowC r) : c = 32 ∨ c = 46 ∨ (48 ≤ c ∧ c ≤ 57) := by
  rcases joinL_mem h with h | ⟨x, hx, h⟩
  · exact .inl (List.mem_singleton.mp h)
  · obtain ⟨p, _, rfl⟩ := List.mem_map.mp hx
    exact .inr (pairC_rng h)
theorem rowC_no47 (r : List (Nat × Nat)) : 47 ∉ rowC r := fun h => by
  have := rowC_rng h
  omega
theorem free47 : ∀ {p : List Nat}, 47 ∉ p → SX.free [32, 47, 32] p = true
  | [], _ => rfl
  | c :: r, h => by
    show (!(TL.pre [32, 47, 32] (c :: (r ++ [32, 47, 32]))) && SX.free [32, 47, 32] r) = true
    rw [free47 fun z => h (List.mem_cons_of_mem _ z), Bool.and_true, Bool.not_eq_true']
    unfold TL.pre
    refine beq_eq_false_iff_ne.mpr fun e => ?_
    have e2 := congrArg (fun l => l[1]?) e
    cases r with
    | nil => simp at e2
    | cons d r =>
      have e2 : some d = some 47 := by simpa using e2
      exact h (by rw [Option.some.inj e2]; simp)
theorem spl47_last {p : List Nat} (h : 47 ∉ p) : TL.spl [32, 47, 32] 0 [] p = [p] := TL.spl_last (acc := []) fun i hi => by
  unfold TL.pre
  refine beq_eq_false_iff_ne.mpr fun e => h ?_
  have z : 47 ∈ (p.drop i).take [32, 47, 32].length := by rw [e]; simp
  exact List.mem_of_mem_drop (List.mem_of_mem_take z)
theorem spl47 : ∀ {l : List (List Nat)}, l ≠ [] → (∀ p ∈ l, 47 ∉ p) → TL.spl [32, 47, 32] 0 [] (TL.joinL [32, 47, 32] l) = l
  | [], h, _ => absurd rfl h
  | [p], _, hp => spl47_last (hp p (List.mem_singleton.mpr rfl))
  | p :: q :: r, _, hp => by
    show TL.spl [32, 47, 32] 0 [] (p ++ ([32, 47, 32] ++ TL.joinL [32, 47, 32] (q :: r))) = p :: q :: r
    rw [SX.spl_free _ (by decide) (free47 (hp p List.mem_cons_self)), spl47 (by simp) fun z hz => hp z (List.mem_cons_of_mem _ hz)]
theorem split_tab {t : List (List (Nat × Nat))} (ht : t ≠ []) : PySem.Txt.split (SX.S (tabC t)) (SX.S [32, 47, 32]) = (t.map rowC).map SX.S := by
  rw [SX.split_S (by decide) (by decide)]
  unfold tabC
  rw [spl47 (fun e => ht (List.map_eq_nil_iff.mp e)) fun p hp => by
    obtain ⟨r, _, rfl⟩ := List.mem_map.mp hp
    exact rowC_no47 r]
theorem split_row {r : List (Nat × Nat)} (hr : r ≠ []) : PySem.Txt.split (SX.S (rowC r)) (SX.S [32]) = (r.map pairC).map SX.S := by
  rw [SX.split_S (by decide) (by decide)]
  unfold rowC
  rw [SX.spl_join (c := 32) (sep := []) (fun e => hr (List.map_eq_nil_iff.mp e)) fun p hp h => by
    obtain ⟨q, _, rfl⟩ := List.mem_map.mp hp
    have := pairC_rng h
    omega]
theorem part_pair (p : Nat × Nat) : PySem.Txt.partition (SX.S (pairC p)) (SX.S [46]) = (SX.S (TL.numL p.1), SX.S [46], SX.S (TL.numL p.2)) := by
  refine SX.partition_some (by decide) ?_
  exact SX.par_head (c := 46) (sep := []) (TL.numL p.2) fun h => by
    have := numL_rng h
    omega
/-! what the evaluator says of texts -/
theorem s_dot : (Str.ofString "." : Str) = SX.S [46] := by decide +kernel
theorem s_sp : (Str.ofString " " : Str) = SX.S [32] := by decide +kernel
theorem s_sl : (Str.ofString " / " : Str) = SX.S [32, 47, 32] := by decide +kernel
theorem s_nil : (Str.ofString "" : Str) = SX.S [] := by decide +kernel
theorem s_0 : (Str.ofString "0" : Str) = SX.S [48] := by decide +kernel
theorem log2_lt {n : Nat} (h : n < 1000) : n.log2 < 1920 := by
  rcases Nat.eq_zero_or_pos n with z | z
  · subst z; decide
  · have := (Nat.log2_lt (k := 10) (by omega : n ≠ 0)).mpr (by omega)
    omega
theorem str_num {n : Nat} {h : Hh} (hn : n < 1000) : opB .str [.val (.int (n : Int))] h = .ok (.val (.str (SX.S (TL.numL n)))) h := by
  show (if (n : Int).natAbs.log2 < 1920 then Out.ok (RV.val (.str (toString (n : Int)))) h else .fail) = _
  rw [if_pos (by rw [Int.natAbs_natCast]; exact log2_lt hn)]
  exact congrArg (fun z => Out.ok (RV.val (.str z)) h) (SX.num_S n)
theorem str_cat {a b : List Nat} {h : Hh} (hl : a.length + b.length ≤ 16777216) : opBin .Add (.val (.str (SX.S a))) (.val (.str (SX.S b))) h = .ok (.val (.str (SX.S (a ++ b)))) h := by
  show (if (SX.S a).length + (SX.S b).length ≤ SZ then Out.ok (RV.val (.str (SX.S a ++ SX.S b))) h else .fail) = _
  have hl : a.length + b.length ≤ SZ := hl
  rw [SX.S_len, SX.S_len, if_pos hl, SX.S_cat]
theorem str_len {a : List Nat} {h : Hh} (hl : a.length ≤ 16777216) : opB .len [.val (.str (SX.S a))] h = .ok (.val (.int a.length)) h := by
  show (if (SX.S a).length ≤ SZ then Out.ok (RV.val (.int (SX.S a).length)) h else .fail) = _
  have hl : a.length ≤ SZ := hl
  rw [SX.S_len, if_pos hl]
theorem str_ix0 {c : Nat} {a : List Nat} {h : Hh} (hl : (c :: a).length ≤ 16777216) : opIx (.val (.str (SX.S (c :: a)))) (.val (.int 0)) h = .ok (.val (.str (SX.S [c]))) h := by
  show (match L2.atI (c :: a) 0 with | some c => if (SX.S (c :: a)).length ≤ SZ then Out.ok (RV.val (.str ⟨#[c]⟩)) h else .fail | none => .fail) = _
  have e : L2.atI (c :: a) 0 = some c := atI_nat (k := 0) rfl rfl
  rw [e]
  simp only [SX.S_len]
  exact if_pos hl
theorem numL_le {n : Nat} (h : n < 1000) : (TL.numL n).length ≤ 3 := TL.numL_len (by decide) h
theorem int_numL {n : Nat} {h : Hh} (hn : n < 1000) : opB .int [.val (.str (SX.S (TL.numL n)))] h = .ok (.val (.int (n : Int))) h := by
  have l := numL_le hn
  refine int_text ?_ (by rw [SX.S_len]; omega)
  have e := TL.int_num (n := n) (by omega)
  rw [SX.num_S] at e
  exact e
theorem signs_S (w : List Nat) : signs (SX.S w) = w.map fun c => D.str ⟨#[c]⟩ := rfl
theorem figs : (Str.ofString "0123456789" : Str).cps.toList = [48, 49, 50, 51, 52, 53, 54, 55, 56, 57] := by decide +kernel
theorem figs_mem (c : Nat) : decide (c ∈ (Str.ofString "0123456789" : Str).cps.toList) = decide (48 ≤ c ∧ c ≤ 57) := by
  rw [figs]
  refine decide_eq_decide.mpr ?_
  simp only [List.mem_cons, List.mem_nil_iff, or_false]
  omega
def isNumB (w : List Nat) : Bool := decide (1 ≤ w.length) && decide (w.length ≤ 3) && !(decide (1 < w.length) && decide (w.head? = some 48)) && w.all fun c => decide (48 ≤ c ∧ c ≤ 57)
theorem isNum_numL {n : Nat} (hn : n < 1000) : isNumB (TL.numL n) = true := by
  have l := numL_le hn
  have l0 : 1 ≤ (TL.numL n).length := List.length_pos_iff.mpr (TL.numL_ne n)
  have al : ((TL.numL n).all fun c => decide (48 ≤ c ∧ c ≤ 57)) = true := List.all_eq_true.mpr fun c hc => decide_eq_true (numL_rng hc)
  have hd : (decide (1 < (TL.numL n).length) && decide ((TL.numL n).head? = some 48)) = false := by
    by_cases h1 : n < 10
    · rw [TL.numL_lt h1]; rfl
    · by_cases h2 : n < 100
      · rw [TL.numL_step (by omega), TL.numL_lt (show n / 10 < 10 by omega)]
        have : ¬ (48 + n / 10 = 48) := by omega
        simp [this]
        omega
      · rw [TL.numL_step (by omega), TL.numL_step (show 10 ≤ n / 10 by omega), TL.numL_lt (show n / 10 / 10 < 10 by omega)]
        simp
        omega
  unfold isNumB
  rw [decide_eq_true l0, decide_eq_true l, hd, al]
  rfl
end LawP
namespace LawP
open PySem
open Py
/-! tables written and read -/
theorem S_low (n : Nat) (w : List Nat) : low n (.str (SX.S w)) = true := rfl
theorem lay_S {w : List Nat} (h : ∀ c ∈ w, c < 1114112) : PyData.canLay0 (.str (SX.S w)) = true := by
  show ((SX.S w).cps.all fun c => decide (c < 1114112)) = true
  rw [← Array.all_toList]
  exact List.all_eq_true.mpr fun c hc => decide_eq_true (h c hc)
theorem eq_S {a b : List Nat} {h : Hh} (ha : ∀ c ∈ a, c < 1114112) (hb : ∀ c ∈ b, c < 1114112) : opCmp .Eq (.val (.str (SX.S a))) (.val (.str (SX.S b))) h = .ok (.val (.bl (decide (a = b)))) h := by
  rw [eq_data (show isD 30 (.str (SX.S a)) = true from lay_S ha) (show isD 30 (.str (SX.S b)) = true from lay_S hb)]
  congr 3
  exact decide_eq_decide.mpr ⟨fun z => SX.S_inj (by injection z), fun z => by rw [z]⟩
theorem all_mapB {α : Type} (f : α → Bool) (l : List α) : (l.map f).all id = l.all f := by
  rw [List.all_map]
  rfl
section
variable {n : Nat} {h : Hh} {p : Nat × Nat} {r : List (Nat × Nat)} {t : Tab}
theorem isnum_eq {w : List Nat} (hc : ∀ c ∈ w, c < 1114112) (hl : w.length ≤ 16777216) : callF T (n + 1) "is_number" [.str (SX.S w)] h = .ok (.bl (isNumB w)) h := by
  refine call_pure T_is_number rfl rfl ?_
  show WpS (exSs _ I_is_number.body [some (.str (SX.S w)), none] h) _
  simp only [I_is_number]
  obtain ⟨L, eL⟩ : ∃ L, L = w.length := ⟨_, rfl⟩
  have len : ∀ h', opB .len [.val (.str (SX.S w))] h' = .ok (.val (.int (L : Nat))) h' := fun h' => by rw [eL]; exact str_len hl
  cases w with
  | nil =>
    have c0 : decide ((L : Int) < 1) = true := by rw [eL]; rfl
    simp only [evb, Bool.false_eq_true, Py.wipe, List.getElem?_cons_zero, List.getElem?_cons_succ, List.set_cons_zero, List.set_cons_succ, List.length_cons, List.length_nil, Nat.zero_add, Nat.reduceAdd, and_true, true_and, decide_eq_true_eq, ite_true, ite_false, Option.isSome_some, Bool.not_true, Bool.not_false, len, c0]
    exact ⟨Fr.refl, rfl⟩
  | cons c r =>
    have c0 : decide ((L : Int) < 1) = false := decide_eq_false (by rw [eL, List.length_cons]; omega)
    by_cases l3 : (c :: r).length ≤ 3
    rotate_left
    · have c1 : decide ((L : Int) > 3) = true := decide_eq_true (by omega)
      have z : isNumB (c :: r) = false := by unfold isNumB; rw [decide_eq_false l3]; simp
      rw [z]
      simp only [evb, Bool.false_eq_true, Py.wipe, List.getElem?_cons_zero, List.getElem?_cons_succ, List.set_cons_zero, List.set_cons_succ, List.length_cons, List.length_nil, Nat.zero_add, Nat.reduceAdd, and_true, true_and, decide_eq_true_eq, ite_true, ite_false, Option.isSome_some, Bool.not_true, Bool.not_false, len, c0, c1]
      exact Fr.refl
    have c1 : decide ((L : Int) > 3) = false := decide_eq_false (by omega)
    have ix : ∀ h', opIx (.val (.str (SX.S (c :: r)))) (.val (.int 0)) h' = .ok (.val (.str (SX.S [c]))) h' := fun h' => str_ix0 hl
    have eq : ∀ h', opCmp .Eq (.val (.str (SX.S [c]))) (.val (.str (SX.S [48]))) h' = .ok (.val (.bl (decide (c = 48)))) h' := fun h' => by
      rw [eq_S (fun x hx => by rw [List.mem_singleton.mp hx]; exact hc c List.mem_cons_self) (fun x hx => by rw [List.mem_singleton.mp hx]; decide)]
      congr 3
      exact decide_eq_decide.mpr ⟨fun z => by injection z, fun z => by rw [z]⟩
    -- behind the first look
    have tail : isNumB (c :: r) = ((c :: r).all fun c => decide (48 ≤ c ∧ c ≤ 57)) → WpS (exSs (callF T n) (dropSs 1 I_is_number.body) [some (.str (SX.S (c :: r))), none] h) (EndV h (.bl (isNumB (c :: r)))) := fun z => by
      rw [z]
      simp only [I_is_number, dropSs]
      simp only [evb, Bool.false_eq_true, Py.wipe, List.getElem?_cons_zero, List.getElem?_cons_succ, List.set_cons_zero, List.set_cons_succ, List.length_cons, List.length_nil, Nat.zero_add, Nat.reduceAdd, and_true, true_and, decide_eq_true_eq, ite_true, ite_false, Option.isSome_some, Bool.not_true, Bool.not_false, signs_S]
      refine lc_of (g := fun c : Nat => D.str ⟨#[c]⟩) (fun c => .bl (decide (48 ≤ c ∧ c ≤ 57))) still_nil (by omega) (fun x hx => ?_) ?_
      · simp only [evb, Bool.false_eq_true, Py.wipe, List.getElem?_cons_zero, List.getElem?_cons_succ, List.set_cons_zero, List.set_cons_succ, List.length_cons, List.length_nil, Nat.zero_add, Nat.reduceAdd, and_true, true_and, decide_eq_true_eq, ite_true, ite_false, Option.isSome_some, Bool.not_true, Bool.not_false, figs_mem]
      · simp only [evb, Bool.false_eq_true, Py.wipe, List.getElem?_cons_zero, List.getElem?_cons_succ, List.set_cons_zero, List.set_cons_succ, List.length_cons, List.length_nil, Nat.zero_add, Nat.reduceAdd, and_true, true_and, decide_eq_true_eq, ite_true, ite_false, Option.isSome_some, Bool.not_true, Bool.not_false, asBls_map, all_mapB]
        exact Fr.refl
    simp only [I_is_number, dropSs] at tail
    have b1 : decide (1 ≤ (c :: r).length) = true := decide_eq_true (by rw [List.length_cons]; omega)
    by_cases l1 : 1 < (c :: r).length
    · have c2 : decide ((L : Int) > 1) = true := decide_eq_true (by omega)
      by_cases c48 : c = 48
      · have z : isNumB (c :: r) = false := by
          unfold isNumB
          rw [decide_eq_true l1, show decide ((c :: r).head? = some 48) = true from decide_eq_true (by rw [c48]; rfl)]
          simp
        rw [decide_eq_true c48] at eq
        rw [z]
        simp only [evb, Bool.false_eq_true, Py.wipe, List.getElem?_cons_zero, List.getElem?_cons_succ, List.set_cons_zero, List.set_cons_succ, List.length_cons, List.length_nil, Nat.zero_add, Nat.reduceAdd, and_true, true_and, decide_eq_true_eq, ite_true, ite_false, Option.isSome_some, Bool.not_true, Bool.not_false, len, c0, c1, c2, ix, s_0, eq]
        exact Fr.refl
      · have z := tail (by
          unfold isNumB
          rw [b1, decide_eq_true l3, show decide ((c :: r).head? = some 48) = false from decide_eq_false (fun e => c48 (Option.some.inj e)), Bool.and_false]
          rfl)
        rw [decide_eq_false c48] at eq
        simp only [evb, Bool.false_eq_true, Py.wipe, List.getElem?_cons_zero, List.getElem?_cons_succ, List.set_cons_zero, List.set_cons_succ, List.length_cons, List.length_nil, Nat.zero_add, Nat.reduceAdd, and_true, true_and, decide_eq_true_eq, ite_true, ite_false, Option.isSome_some, Bool.not_true, Bool.not_false, len, c0, c1, c2, ix, s_0, eq] at z ⊢
        exact z
    · have c2 : decide ((L : Int) > 1) = false := decide_eq_false (by omega)
      have z := tail (by
        unfold isNumB
        rw [b1, decide_eq_true l3, decide_eq_false l1, Bool.false_and]
        rfl)
      simp only [evb, Bool.false_eq_true, Py.wipe, List.getElem?_cons_zero, List.getElem?_cons_succ, List.set_cons_zero, List.set_cons_succ, List.length_cons, List.length_nil, Nat.zero_add, Nat.reduceAdd, and_true, true_and, decide_eq_true_eq, ite_true, ite_false, Option.isSome_some, Bool.not_true, Bool.not_false, len, c0, c1, c2] at z ⊢
      exact z
theorem pairC_len (hp : p.1 < 1000 ∧ p.2 < 1000) : (pairC p).length ≤ 7 := by
  have a := numL_le hp.1
  have b := numL_le hp.2
  unfold pairC
  rw [List.length_append, List.length_cons]
  omega
theorem joinL_len (S : List Nat) {b : Nat} : ∀ {l : List (List Nat)}, (∀ x ∈ l, x.length ≤ b) → (TL.joinL S l).length ≤ (b + S.length) * l.length
  | [], _ => Nat.zero_le _
  | [x], hb => by
    have := hb x (List.mem_singleton.mpr rfl)
    show x.length ≤ (b + S.length) * 1
    omega
  | x :: y :: l, hb => by
    have i := joinL_len S (l := y :: l) fun z hz => hb z (List.mem_cons_of_mem _ hz)
    have a := hb x List.mem_cons_self
    show (x ++ (S ++ TL.joinL S (y :: l))).length ≤ (b + S.length) * ((y :: l).length + 1)
    rw [List.length_append, List.length_append, Nat.mul_add, Nat.mul_one]
    omega
theorem sum_le {b : Nat} : ∀ {l : List Nat}, (∀ x ∈ l, x ≤ b) → l.sum ≤ b * l.length
  | [], _ => Nat.zero_le _
  | x :: l, hb => by
    have i := sum_le (l := l) fun z hz => hb z (List.mem_cons_of_mem _ hz)
    have a := hb x List.mem_cons_self
    rw [List.sum_cons, List.length_cons, Nat.mul_add, Nat.mul_one]
    omega
/-- a table that may be written -/
structure TTx (t : Tab) (m : Nat) : Prop where
  t0 : 0 < t.length
  t1 : t.length ≤ 100
  m0 : 0 < m
  m1 : m ≤ 100
  row : ∀ r ∈ t, r.length = m
  cell : ∀ r ∈ t, ∀ p ∈ r, p.1 < t.length ∧ p.2 < 1000
theorem TTx.num {m : Nat} (K : TTx t m) (hr : r ∈ t) : ∀ p ∈ r, p.1 < 1000 ∧ p.2 < 1000 := fun p hp => by
  have := K.cell r hr p hp
  have := K.t1
  omega
theorem rowC_len (hl : r.length ≤ 100) (hs : ∀ p ∈ r, p.1 < 1000 ∧ p.2 < 1000) : (rowC r).length ≤ 800 := by
  have z := joinL_len [32] (l := r.map pairC) (b := 7) fun x hx => by
    obtain ⟨p, hp, rfl⟩ := List.mem_map.mp hx
    exact pairC_len (hs p hp)
  rw [List.length_map] at z
  have e : ([32] : List Nat).length = 1 := rfl
  rw [e] at z
  unfold rowC
  omega
theorem tabC_len {m : Nat} (K : TTx t m) : (tabC t).length ≤ 80300 := by
  have z := joinL_len [32, 47, 32] (l := t.map rowC) (b := 800) fun x hx => by
    obtain ⟨r, hr, rfl⟩ := List.mem_map.mp hx
    exact rowC_len (by rw [K.row r hr]; exact K.m1) (K.num hr)
  rw [List.length_map] at z
  have e : ([32, 47, 32] : List Nat).length = 3 := rfl
  rw [e] at z
  have := K.t1
  unfold tabC
  omega
theorem rowtext_eq (hl : r.length ≤ 100) (hs : ∀ p ∈ r, p.1 < 1000 ∧ p.2 < 1000) : callF T (n + 1) "row_text" [rowD r] h = .ok (.str (SX.S (rowC r))) h := by
  refine call_pure T_row_text rfl rfl ?_
  show WpS (exSs _ I_row_text.body [some (rowD r), none, none] h) _
  simp only [I_row_text]
  simp only [evb, Bool.false_eq_true, Py.wipe, List.getElem?_cons_zero, List.getElem?_cons_succ, List.set_cons_zero, List.set_cons_succ, List.length_cons, List.length_nil, Nat.zero_add, Nat.reduceAdd, and_true, true_and, decide_eq_true_eq, ite_true, ite_false, Option.isSome_some, Bool.not_true, Bool.not_false]
  refine lc_of (g := prD) (fun p => .str (SX.S (pairC p))) still_nil (by omega) (fun p hp => ?_) ?_
  · obtain ⟨p1, p2⟩ := hs p hp
    have a := numL_le p1
    have b := numL_le p2
    have l1 : (TL.numL p.1).length + [46].length ≤ 16777216 := by show _ + 1 ≤ _; omega
    have l2 : (TL.numL p.1 ++ [46]).length + (TL.numL p.2).length ≤ 16777216 := by rw [List.length_append]; show _ + 1 + _ ≤ _; omega
    have e : TL.numL p.1 ++ [46] ++ TL.numL p.2 = pairC p := by unfold pairC; rw [List.append_assoc]; rfl
    simp only [evb, Bool.false_eq_true, Py.wipe, List.getElem?_cons_zero, List.getElem?_cons_succ, List.set_cons_zero, List.set_cons_succ, List.length_cons, List.length_nil, Nat.zero_add, Nat.reduceAdd, and_true, true_and, decide_eq_true_eq, ite_true, ite_false, Option.isSome_some, Bool.not_true, Bool.not_false, str_num p1, str_num p2, s_dot, str_cat l1, str_cat l2, e]
  · have e : (r.map fun p => D.str (SX.S (pairC p))) = ((r.map pairC).map SX.S).map D.str := by rw [List.map_map, List.map_map]; rfl
    have sz : (((r.map pairC).map SX.S).map (·.length)).sum + ((r.map pairC).map SX.S).length * (SX.S [32]).length ≤ 16777216 := by
      rw [SX.lens, SX.S_len, List.length_map, List.length_map]
      have z := sum_le (l := (r.map pairC).map (·.length)) (b := 7) fun x hx => by
        obtain ⟨y, hy, rfl⟩ := List.mem_map.mp hx
        obtain ⟨p, hp, rfl⟩ := List.mem_map.mp hy
        exact pairC_len (hs p hp)
      rw [List.length_map, List.length_map] at z
      show _ + r.length * 1 ≤ _
      omega
    rw [e]
    simp only [evb, Bool.false_eq_true, Py.wipe, List.getElem?_cons_zero, List.getElem?_cons_succ, List.set_cons_zero, List.set_cons_succ, List.length_cons, List.length_nil, Nat.zero_add, Nat.reduceAdd, and_true, true_and, decide_eq_true_eq, ite_true, ite_false, Option.isSome_some, Bool.not_true, Bool.not_false, s_sp, SX.join_S] at sz ⊢
    exact ⟨sz, Fr.refl, rfl⟩
theorem tabtext_eq {m : Nat} (K : TTx t m) : callF T (n + 2) "table_text" [tabD t] h = .ok (.str (SX.S (tabC t))) h := by
  refine call_pure T_table_text rfl rfl ?_
  show WpS (exSs _ I_table_text.body [some (tabD t), none] h) _
  simp only [I_table_text]
  have t1 := K.t1
  have m1 := K.m1
  simp only [evb, Bool.false_eq_true, Py.wipe, List.getElem?_cons_zero, List.getElem?_cons_succ, List.set_cons_zero, List.set_cons_succ, List.length_cons, List.length_nil, Nat.zero_add, Nat.reduceAdd, and_true, true_and, decide_eq_true_eq, ite_true, ite_false, Option.isSome_some, Bool.not_true, Bool.not_false]
  refine lc_of (g := rowD) (fun r => .str (SX.S (rowC r))) still_nil (by omega) (fun r hr => ?_) ?_
  · have er : ∀ h', callF T (n + 1) (Str.ofString "row_text") [rowD r] h' = .ok (.str (SX.S (rowC r))) h' := fun h' => rowtext_eq (by rw [K.row r hr]; omega) (K.num hr)
    simp only [evb, Bool.false_eq_true, Py.wipe, List.getElem?_cons_zero, List.getElem?_cons_succ, List.set_cons_zero, List.set_cons_succ, List.length_cons, List.length_nil, Nat.zero_add, Nat.reduceAdd, and_true, true_and, decide_eq_true_eq, ite_true, ite_false, Option.isSome_some, Bool.not_true, Bool.not_false, er]
  · have e : (t.map fun r => D.str (SX.S (rowC r))) = ((t.map rowC).map SX.S).map D.str := by rw [List.map_map, List.map_map]; rfl
    have sz : (((t.map rowC).map SX.S).map (·.length)).sum + ((t.map rowC).map SX.S).length * (SX.S [32, 47, 32]).length ≤ 16777216 := by
      rw [SX.lens, SX.S_len, List.length_map, List.length_map]
      have z := sum_le (l := (t.map rowC).map (·.length)) (b := 800) fun x hx => by
        obtain ⟨y, hy, rfl⟩ := List.mem_map.mp hx
        obtain ⟨r, hr, rfl⟩ := List.mem_map.mp hy
        exact rowC_len (by rw [K.row r hr]; omega) (K.num hr)
      rw [List.length_map, List.length_map] at z
      show _ + t.length * 3 ≤ _
      omega
    rw [e]
    simp only [evb, Bool.false_eq_true, Py.wipe, List.getElem?_cons_zero, List.getElem?_cons_succ, List.set_cons_zero, List.set_cons_succ, List.length_cons, List.length_nil, Nat.zero_add, Nat.reduceAdd, and_true, true_and, decide_eq_true_eq, ite_true, ite_false, Option.isSome_some, Bool.not_true, Bool.not_false, s_sl, SX.join_S] at sz ⊢
    exact ⟨sz, Fr.refl, rfl⟩
theorem numL_uni {k c : Nat} (h : c ∈ TL.numL k) : c < 1114112 := by have := numL_rng h; omega
theorem readpair_eq (hp : p.1 < 1000 ∧ p.2 < 1000) : callF T (n + 2) "read_pair" [.str (SX.S (pairC p))] h = .ok (prD p) h := by
  refine call_pure T_read_pair rfl rfl ?_
  show WpS (exSs _ I_read_pair.body [some (.str (SX.S (pairC p))), none, none, none] h) _
  simp only [I_read_pair]
  have l7 := pairC_len hp
  have n1 : ∀ h', callF T (n + 1) (Str.ofString "is_number") [.str (SX.S (TL.numL p.1))] h' = .ok (.bl true) h' := fun h' => by
    have z := isnum_eq (n := n) (h := h') (w := TL.numL p.1) (fun c hc => numL_uni hc) (by have := numL_le hp.1; omega)
    rw [isNum_numL hp.1] at z
    exact z
  have n2 : ∀ h', callF T (n + 1) (Str.ofString "is_number") [.str (SX.S (TL.numL p.2))] h' = .ok (.bl true) h' := fun h' => by
    have z := isnum_eq (n := n) (h := h') (w := TL.numL p.2) (fun c hc => numL_uni hc) (by have := numL_le hp.2; omega)
    rw [isNum_numL hp.2] at z
    exact z
  have sl : ((SX.S [46]).length == 0) = false := rfl
  have sz : (SX.S (pairC p)).length ≤ 16777216 := by rw [SX.S_len]; omega
  simp only [evb, Bool.false_eq_true, Py.wipe, List.getElem?_cons_zero, List.getElem?_cons_succ, List.set_cons_zero, List.set_cons_succ, List.length_cons, List.length_nil, Nat.zero_add, Nat.reduceAdd, and_true, true_and, decide_eq_true_eq, ite_true, ite_false, Option.isSome_some, Bool.not_true, Bool.not_false, s_dot, part_pair, n1, n2, int_numL hp.1, int_numL hp.2, sl]
  exact ⟨sz, by decide, Fr.refl⟩
theorem readtab_eq {m : Nat} (K : TTx t m) : callF T (n + 3) "read_table" [.str (SX.S (tabC t))] h = .ok (tabD t) h := by
  refine call_pure T_read_table rfl (tabD_low _ _) ?_
  show WpS (exSs _ I_read_table.body [some (.str (SX.S (tabC t))), none, none, none, none, none] h) _
  simp only [I_read_table]
  have t0 := K.t0
  have t1 := K.t1
  have m0 := K.m0
  have m1 := K.m1
  have lt := tabC_len K
  have tn : t ≠ [] := fun z => by rw [z] at t0; exact absurd t0 (Nat.lt_irrefl 0)
  have sl : ((SX.S [32, 47, 32]).length == 0) = false := rfl
  have sp : ((SX.S [32]).length == 0) = false := rfl
  have sz : (SX.S (tabC t)).length + 2 ≤ 16777216 := by rw [SX.S_len]; omega
  have e1 : ((t.map rowC).map SX.S).map D.str = t.map fun r => D.str (SX.S (rowC r)) := by rw [List.map_map, List.map_map]; rfl
  simp only [evb, Bool.false_eq_true, Py.wipe, List.getElem?_cons_zero, List.getElem?_cons_succ, List.set_cons_zero, List.set_cons_succ, List.length_cons, List.length_nil, Nat.zero_add, Nat.reduceAdd, and_true, true_and, decide_eq_true_eq, ite_true, ite_false, Option.isSome_some, Bool.not_true, Bool.not_false, s_sl, split_tab tn, sl, e1]
  refine ⟨sz, lc_of (g := fun r => D.str (SX.S (rowC r))) rowD still_nil (by omega) (fun r hr => ?_) ?_⟩
  · have rn : r ≠ [] := fun z => by have := K.row r hr; rw [z] at this; rw [List.length_nil] at this; omega
    have lr := rowC_len (r := r) (by rw [K.row r hr]; omega) (K.num hr)
    have sz2 : (SX.S (rowC r)).length + 2 ≤ 16777216 := by rw [SX.S_len]; omega
    have e2 : ((r.map pairC).map SX.S).map D.str = r.map fun p => D.str (SX.S (pairC p)) := by rw [List.map_map, List.map_map]; rfl
    simp only [evb, Bool.false_eq_true, Py.wipe, List.getElem?_cons_zero, List.getElem?_cons_succ, List.set_cons_zero, List.set_cons_succ, List.length_cons, List.length_nil, Nat.zero_add, Nat.reduceAdd, and_true, true_and, decide_eq_true_eq, ite_true, ite_false, Option.isSome_some, Bool.not_true, Bool.not_false, s_sp, split_row rn, sp, e2]
    refine ⟨sz2, lc_of (g := fun p => D.str (SX.S (pairC p))) prD still_nil (by rw [K.row r hr]; omega) (fun p hp => ?_) ?_⟩
    · have er : ∀ h', callF T (n + 2) (Str.ofString "read_pair") [.str (SX.S (pairC p))] h' = .ok (prD p) h' := fun h' => readpair_eq (K.num hr p hp)
      simp only [evb, Bool.false_eq_true, Py.wipe, List.getElem?_cons_zero, List.getElem?_cons_succ, List.set_cons_zero, List.set_cons_succ, List.length_cons, List.length_nil, Nat.zero_add, Nat.reduceAdd, and_true, true_and, decide_eq_true_eq, ite_true, ite_false, Option.isSome_some, Bool.not_true, Bool.not_false, er]
    · simp only [evb, Bool.false_eq_true, Py.wipe, List.getElem?_cons_zero, List.getElem?_cons_succ, List.set_cons_zero, List.set_cons_succ, List.length_cons, List.length_nil, Nat.zero_add, Nat.reduceAdd, and_true, true_and, decide_eq_true_eq, ite_true, ite_false, Option.isSome_some, Bool.not_true, Bool.not_false]
  · simp only [evb, Bool.false_eq_true, Py.wipe, List.getElem?_cons_zero, List.getElem?_cons_succ, List.set_cons_zero, List.set_cons_succ, List.length_cons, List.length_nil, Nat.zero_add, Nat.reduceAdd, and_true, true_and, decide_eq_true_eq, ite_true, ite_false, Option.isSome_some, Bool.not_true, Bool.not_false]
    refine for_run (fun i st h' => h' = h ∧ ∃ x2 x3 x4 x5, st = [some (.str (SX.S (tabC t))), some (tabD t), x2, x3, x4, x5]) ⟨rfl, _, _, _, _, rfl⟩ ?_ ?_
    · rintro i d st h1 ei ⟨rfl, x2, x3, x4, x5, rfl⟩
      obtain ⟨r, er, rfl⟩ : ∃ r, t[i]? = some r ∧ rowD r = d := by
        rw [List.getElem?_map] at ei
        obtain ⟨r, e, z⟩ := Option.map_eq_some_iff.mp ei
        exact ⟨r, e, z⟩
      have hr := List.mem_of_getElem? er
      refine ⟨still_nil, ?_⟩
      have e0 : t[0]? = some t[0] := List.getElem?_eq_getElem t0
      have a0 : L2.atI (t.map rowD) 0 = some (rowD t[0]) := at_map (k := 0) rowD e0
      have l0 : (t[0]).length = m := K.row _ (List.getElem_mem t0)
      have ne : ∀ h', opCmp .NotEq (.val (.int ((r.map prD).length : Nat))) (.val (.int ((t[0].map prD).length : Nat))) h' = .ok (.val (.bl false)) h' := fun h' => by
        rw [r_ne, List.length_map, List.length_map, K.row r hr, l0]
        simp
      simp only [evb, Bool.false_eq_true, Py.wipe, List.getElem?_cons_zero, List.getElem?_cons_succ, List.set_cons_zero, List.set_cons_succ, List.length_cons, List.length_nil, Nat.zero_add, Nat.reduceAdd, and_true, true_and, decide_eq_true_eq, ite_true, ite_false, Option.isSome_some, Bool.not_true, Bool.not_false, a0, ne]
      refine for_run (fun i st h' => h' = h1 ∧ ∃ x2 x4 x5, st = [some (.str (SX.S (tabC t))), some (tabD t), x2, some (rowD r), x4, x5]) ⟨rfl, _, _, _, rfl⟩ ?_ ?_
      · rintro j d st h2 ej ⟨rfl, x2, x4, x5, rfl⟩
        obtain ⟨p, ep, rfl⟩ : ∃ p, r[j]? = some p ∧ prD p = d := by
          rw [List.getElem?_map] at ej
          obtain ⟨p, e, z⟩ := Option.map_eq_some_iff.mp ej
          exact ⟨p, e, z⟩
        refine ⟨still_nil, ?_⟩
        have cl := (K.cell r hr p (List.mem_of_getElem? ep)).1
        have ge : decide ((p.1 : Int) ≥ ((t.map rowD).length : Nat)) = false := decide_eq_false (by rw [List.length_map]; omega)
        simp only [evb, Bool.false_eq_true, Py.wipe, List.getElem?_cons_zero, List.getElem?_cons_succ, List.set_cons_zero, List.set_cons_succ, List.length_cons, List.length_nil, Nat.zero_add, Nat.reduceAdd, and_true, true_and, decide_eq_true_eq, ite_true, ite_false, Option.isSome_some, Bool.not_true, Bool.not_false, ge]
        exact ⟨_, _, _, rfl⟩
      · rintro st h2 ⟨rfl, x2, x4, x5, rfl⟩
        refine ⟨still_nil, ?_⟩
        simp only [evb, Bool.false_eq_true, Py.wipe, List.getElem?_cons_zero, List.getElem?_cons_succ, List.set_cons_zero, List.set_cons_succ, List.length_cons, List.length_nil, Nat.zero_add, Nat.reduceAdd, and_true, true_and, decide_eq_true_eq, ite_true, ite_false, Option.isSome_some, Bool.not_true, Bool.not_false]
        exact ⟨_, _, _, _, rfl⟩
    · rintro st h1 ⟨rfl, x2, x3, x4, x5, rfl⟩
      refine ⟨still_nil, ?_⟩
      simp only [evb, Bool.false_eq_true, Py.wipe, List.getElem?_cons_zero, List.getElem?_cons_succ, List.set_cons_zero, List.set_cons_succ, List.length_cons, List.length_nil, Nat.zero_add, Nat.reduceAdd, and_true, true_and, decide_eq_true_eq, ite_true, ite_false, Option.isSome_some, Bool.not_true, Bool.not_false]
      exact Fr.refl
end
end LawP
namespace LawP
open PySem
open Py
/-! the four known tables -/
def IsPair (S : Int) (v : D) : Prop := ∃ x y : Int, v = .tup [.int x, .int y] ∧ 0 ≤ x ∧ x < S ∧ 0 ≤ y ∧ y < 100
def IsRow (S : Int) (m : Nat) (r : D) : Prop := ∃ ps, r = .tup ps ∧ ps.length = m ∧ ∀ p ∈ ps, IsPair S p
def Rw (S m : Nat) (r : List (Nat × Nat)) : Prop := r.length = m ∧ ∀ p ∈ r, p.1 < S
structure TK (t : Tab) (m : Nat) : Prop where
  s0 : 0 < t.length
  s1 : t.length ≤ 5
  m0 : 0 < m
  m1 : m ≤ 5
  row : ∀ r ∈ t, Rw t.length m r
/-! a table's cells -/
def goal (rows : List D) (s d : Nat) : Nat := match rows[s]? with
  | some (.tup ps) => (match ps[d]? with
    | some (.tup [.int g, _]) => g.toNat
    | _ => 0)
  | _ => 0
def toldv (rows : List D) (s d : Nat) : Int := match rows[s]? with
  | some (.tup ps) => (match ps[d]? with
    | some (.tup [_, .int t]) => t
    | _ => 0)
  | _ => 0
theorem cell {rows : List D} {m s d : Nat} (hp : ∀ r ∈ rows, IsRow rows.length m r) (hs : s < rows.length) (hd : d < m) : ∃ ps, rows[s]? = some (.tup ps) ∧ ps.length = m ∧ ps[d]? = some (.tup [.int (goal rows s d), .int (toldv rows s d)]) ∧ goal rows s d < rows.length ∧ 0 ≤ toldv rows s d ∧ toldv rows s d < 100 := by
  obtain ⟨ps, e, hl, pp⟩ := hp rows[s] (List.getElem_mem hs)
  obtain ⟨g, t, e2, g0, g1, t0, t1⟩ := pp ps[d] (List.getElem_mem (by omega))
  have e1 : rows[s]? = some (.tup ps) := by rw [List.getElem?_eq_getElem hs, e]
  have e3 : ps[d]? = some (.tup [.int g, .int t]) := by rw [List.getElem?_eq_getElem (by omega), e2]
  have eg : goal rows s d = g.toNat := by
    unfold goal
    simp only [e1, e3]
  have et : toldv rows s d = t := by
    unfold toldv
    simp only [e1, e3]
  have eg2 : ((goal rows s d : Nat) : Int) = g := by omega
  refine ⟨ps, e1, hl, ?_, by omega, by omega, by omega⟩
  rw [e3, eg2, et]
theorem head_len {rows : List D} {m : Nat} (hp : ∀ r ∈ rows, IsRow rows.length m r) (h0 : 0 < rows.length) : ∃ p0, L2.atI rows 0 = some (.tup p0) ∧ p0.length = m := by
  obtain ⟨ps, e, hl, pp⟩ := hp rows[0] (List.getElem_mem h0)
  exact ⟨ps, atI_nat (k := 0) rfl (by rw [List.getElem?_eq_getElem h0, e]), hl⟩
theorem next13 {n : Nat} {h : Hh} {rows : List D} {m s d : Nat} (hp : ∀ r ∈ rows, IsRow rows.length m r) (hs : s < rows.length) (hd : d < m) : callF T (n + 1) "next_state" [.tup rows, .int s, .int d] h = .ok (.int (goal rows s d)) h := by
  obtain ⟨ps, e1, lp, e2, _⟩ := cell hp hs hd
  refine call_pure T_next_state rfl rfl ?_
  show WpS (exSs _ I_next_state.body [some (.tup rows), some (.int s), some (.int d)] h) _
  simp only [I_next_state]
  simp only [evb, Bool.false_eq_true, Py.wipe, List.getElem?_cons_zero, List.getElem?_cons_succ, List.set_cons_zero, List.set_cons_succ, List.length_cons, List.length_nil, Nat.zero_add, Nat.reduceAdd, and_true, true_and, decide_eq_true_eq, ite_true, ite_false, Option.isSome_some, Bool.not_true, Bool.not_false, atI_nat rfl e1, atI_nat rfl e2]
  exact Fr.refl
theorem goal_lt {rows : List D} {m s d : Nat} (hp : ∀ r ∈ rows, IsRow rows.length m r) (hs : s < rows.length) (hd : d < m) : goal rows s d < rows.length := by
  obtain ⟨ps, e1, lp, e2, e3, _⟩ := cell hp hs hd
  exact e3
theorem look_eq {n : Nat} {h : Hh} {rows : List D} {m d : Nat} (hp : ∀ r ∈ rows, IsRow rows.length m r) (hn : rows.length < 100) (hd : d < m) : ∃ b : Bool, (b = true ↔ ∀ s, s < rows.length → goal rows s d = s) ∧ ∀ h : Hh, callF T (n + 1) "is_look" [.tup rows, .int d] h = .ok (.bl b) h := by
  refine ⟨((List.range rows.length).map fun s => decide (((goal rows s d : Nat) : Int) = s)).all id, ?_, fun h => ?_⟩
  · rw [all_range]
    constructor
    · intro z s hs
      have := of_decide_eq_true (z s hs)
      omega
    · intro z s hs
      rw [z s hs]
      exact decide_eq_true rfl
  · refine call_pure T_is_look rfl rfl ?_
    show WpS (exSs _ I_is_look.body [some (.tup rows), some (.int d), none, none] h) _
    simp only [I_is_look]
    simp only [evb, Bool.false_eq_true, Py.wipe, List.getElem?_cons_zero, List.getElem?_cons_succ, List.set_cons_zero, List.set_cons_succ, List.length_cons, List.length_nil, Nat.zero_add, Nat.reduceAdd, and_true, true_and, decide_eq_true_eq, ite_true, ite_false, Option.isSome_some, Bool.not_true, Bool.not_false]
    refine lc_fun (fun s => .bl (decide (((goal rows s d : Nat) : Int) = s))) still_nil (by rw [enumFrom_len]; omega) (fun i x ei => ?_) ?_
    · obtain ⟨r, er, rfl⟩ := enumFrom_get _ _ _ _ ei
      obtain ⟨ps, e1, lp, e2, _⟩ := cell hp (List.getElem?_eq_some_iff.mp er).1 hd
      rw [er] at e1
      cases e1
      rw [Nat.zero_add]
      simp only [evb, Bool.false_eq_true, Py.wipe, List.getElem?_cons_zero, List.getElem?_cons_succ, List.set_cons_zero, List.set_cons_succ, List.length_cons, List.length_nil, Nat.zero_add, Nat.reduceAdd, and_true, true_and, decide_eq_true_eq, ite_true, ite_false, Option.isSome_some, Bool.not_true, Bool.not_false, atI_nat rfl e2]
    · rw [enumFrom_len]
      simp only [evb, Bool.false_eq_true, Py.wipe, List.getElem?_cons_zero, List.getElem?_cons_succ, List.set_cons_zero, List.set_cons_succ, List.length_cons, List.length_nil, Nat.zero_add, Nat.reduceAdd, and_true, true_and, decide_eq_true_eq, ite_true, ite_false, Option.isSome_some, Bool.not_true, Bool.not_false, asBls_map]
      exact Fr.refl
theorem laying_eq {n : Nat} {rows : List D} {m d : Nat} (hp : ∀ r ∈ rows, IsRow rows.length m r) (h0 : 0 < rows.length) (hn : rows.length < 100) (hd : d < m) : ∃ b : Bool, (b = true ↔ ∀ s, s < rows.length → goal rows s d = goal rows 0 d ∧ toldv rows s d = 0) ∧ ∀ h : Hh, callF T (n + 1) "is_laying" [.tup rows, .int d] h = .ok (.bl b) h := by
  refine ⟨((List.range rows.length).map fun s => decide (((goal rows s d : Nat) : Int) = (goal rows 0 d : Nat) ∧ toldv rows s d = 0)).all id, ?_, fun h => ?_⟩
  · rw [all_range]
    constructor
    · intro z s hs
      have := of_decide_eq_true (z s hs)
      omega
    · intro z s hs
      obtain ⟨z1, z2⟩ := z s hs
      rw [z1, z2]
      exact decide_eq_true ⟨rfl, rfl⟩
  · refine call_pure T_is_laying rfl rfl ?_
    show WpS (exSs _ I_is_laying.body [some (.tup rows), some (.int d), none] h) _
    simp only [I_is_laying]
    simp only [evb, Bool.false_eq_true, Py.wipe, List.getElem?_cons_zero, List.getElem?_cons_succ, List.set_cons_zero, List.set_cons_succ, List.length_cons, List.length_nil, Nat.zero_add, Nat.reduceAdd, and_true, true_and, decide_eq_true_eq, ite_true, ite_false, Option.isSome_some, Bool.not_true, Bool.not_false]
    obtain ⟨p0, f1, lp0, f2, _⟩ := cell hp h0 hd
    refine lc_fun (fun s => .bl (decide (((goal rows s d : Nat) : Int) = (goal rows 0 d : Nat) ∧ toldv rows s d = 0))) still_nil (by omega) (fun i x ei => ?_) ?_
    · obtain ⟨ps, e1, lp, e2, _⟩ := cell hp (List.getElem?_eq_some_iff.mp ei).1 hd
      rw [ei] at e1
      cases e1
      have f0 : L2.atI rows 0 = some (.tup p0) := atI_nat (k := 0) rfl f1
      simp only [evb, Bool.false_eq_true, Py.wipe, List.getElem?_cons_zero, List.getElem?_cons_succ, List.set_cons_zero, List.set_cons_succ, List.length_cons, List.length_nil, Nat.zero_add, Nat.reduceAdd, and_true, true_and, decide_eq_true_eq, ite_true, ite_false, Option.isSome_some, Bool.not_true, Bool.not_false, atI_nat rfl e2, f0, atI_nat rfl f2]
      decide
    · simp only [evb, Bool.false_eq_true, Py.wipe, List.getElem?_cons_zero, List.getElem?_cons_succ, List.set_cons_zero, List.set_cons_succ, List.length_cons, List.length_nil, Nat.zero_add, Nat.reduceAdd, and_true, true_and, decide_eq_true_eq, ite_true, ite_false, Option.isSome_some, Bool.not_true, Bool.not_false, asBls_map]
      exact Fr.refl
theorem plain_eq {n : Nat} {rows : List D} {m : Nat} (hp : ∀ r ∈ rows, IsRow rows.length m r) (h0 : 0 < rows.length) (hn : rows.length < 100) (hm : m < 100) : ∃ b : Bool, (b = true ↔ ∀ d, d < m → (∀ s, s < rows.length → goal rows s d = s) ∨ ∀ s, s < rows.length → goal rows s d = goal rows 0 d ∧ toldv rows s d = 0) ∧ ∀ h : Hh, callF T (n + 2) "is_plain" [.tup rows] h = .ok (.bl b) h := by
  obtain ⟨p0, f0, lp0⟩ := head_len hp h0
  have H : ∀ d : Nat, ∃ b c : Bool, d < m → ((b = true ↔ ∀ s, s < rows.length → goal rows s d = s) ∧ ∀ h : Hh, callF T (n + 1) (Str.ofString "is_look") [.tup rows, .int d] h = .ok (.bl b) h) ∧ ((c = true ↔ ∀ s, s < rows.length → goal rows s d = goal rows 0 d ∧ toldv rows s d = 0) ∧ ∀ h : Hh, callF T (n + 1) (Str.ofString "is_laying") [.tup rows, .int d] h = .ok (.bl c) h) := fun d => by
    by_cases hd : d < m
    · obtain ⟨b, hb⟩ := look_eq (n := n) (h := []) hp hn hd
      obtain ⟨c, hc⟩ := laying_eq (n := n) hp h0 hn hd
      exact ⟨b, c, fun _ => ⟨hb, hc⟩⟩
    · exact ⟨true, true, fun z => absurd z hd⟩
  obtain ⟨bf, H⟩ := Classical.axiomOfChoice H
  obtain ⟨cf, H⟩ := Classical.axiomOfChoice H
  refine ⟨((List.range m).map fun d => bf d || cf d).all id, ?_, fun h => ?_⟩
  · rw [all_range]
    constructor
    · intro z d hd
      rcases Bool.or_eq_true _ _ ▸ z d hd with e | e
      · exact .inl ((H d hd).1.1.mp e)
      · exact .inr ((H d hd).2.1.mp e)
    · intro z d hd
      rw [Bool.or_eq_true]
      exact (z d hd).imp (H d hd).1.1.mpr (H d hd).2.1.mpr
  · refine call_pure T_is_plain rfl rfl ?_
    show WpS (exSs _ I_is_plain.body [some (.tup rows), none] h) _
    simp only [I_is_plain]
    simp only [evb, Bool.false_eq_true, Py.wipe, List.getElem?_cons_zero, List.getElem?_cons_succ, List.set_cons_zero, List.set_cons_succ, List.length_cons, List.length_nil, Nat.zero_add, Nat.reduceAdd, and_true, true_and, decide_eq_true_eq, ite_true, ite_false, Option.isSome_some, Bool.not_true, Bool.not_false, f0]
    refine ⟨⟨by omega, by omega⟩, lc_fun (fun d => .bl (bf d || cf d)) still_nil (by rw [rng_len]; omega) (fun i x ei => ?_) ?_⟩
    · obtain ⟨hi, rfl⟩ := rng_get ei
      rw [Int.zero_add]
      obtain ⟨⟨_, e1⟩, ⟨_, e2⟩⟩ := H i (by omega)
      cases eb : bf i with
      | true =>
        rw [eb] at e1
        simp only [evb, Bool.false_eq_true, Py.wipe, List.getElem?_cons_zero, List.getElem?_cons_succ, List.set_cons_zero, List.set_cons_succ, List.length_cons, List.length_nil, Nat.zero_add, Nat.reduceAdd, and_true, true_and, decide_eq_true_eq, ite_true, ite_false, Option.isSome_some, Bool.not_true, Bool.not_false, e1, Bool.true_or]
      | false =>
        rw [eb] at e1
        simp only [evb, Bool.false_eq_true, Py.wipe, List.getElem?_cons_zero, List.getElem?_cons_succ, List.set_cons_zero, List.set_cons_succ, List.length_cons, List.length_nil, Nat.zero_add, Nat.reduceAdd, and_true, true_and, decide_eq_true_eq, ite_true, ite_false, Option.isSome_some, Bool.not_true, Bool.not_false, e1, e2, Bool.false_or]
    · rw [rng_len]
      have em : (p0.length : Int).toNat = m := by omega
      rw [em]
      simp only [evb, Bool.false_eq_true, Py.wipe, List.getElem?_cons_zero, List.getElem?_cons_succ, List.set_cons_zero, List.set_cons_succ, List.length_cons, List.length_nil, Nat.zero_add, Nat.reduceAdd, and_true, true_and, decide_eq_true_eq, ite_true, ite_false, Option.isSome_some, Bool.not_true, Bool.not_false, asBls_map]
      exact Fr.refl
def meek (rows : List D) (one other s : Nat) : Bool := decide (((goal rows (goal rows s one) other : Nat) : Int) = (goal rows (goal rows s other) one : Nat)) || (decide (((goal rows (goal rows s one) other : Nat) : Int) = (goal rows s other : Nat)) || decide (((goal rows (goal rows s other) one : Nat) : Int) = (goal rows s one : Nat)))
theorem meek_eq {n : Nat} {h : Hh} {rows : List D} {m one other s : Nat} (hp : ∀ r ∈ rows, IsRow rows.length m r) (h1 : one < m) (h2 : other < m) (hs : s < rows.length) : callF T (n + 2) "meek_at" [.tup rows, .int one, .int other, .int s] h = .ok (.bl (meek rows one other s)) h := by
  refine call_pure T_meek_at rfl rfl ?_
  show WpS (exSs _ I_meek_at.body [some (.tup rows), some (.int one), some (.int other), some (.int s), none, none, none, none] h) _
  simp only [I_meek_at]
  have g1 := goal_lt hp hs h1
  have g2 := goal_lt hp hs h2
  have e1 : ∀ h, callF T (n + 1) (Str.ofString "next_state") [.tup rows, .int s, .int one] h = .ok (.int (goal rows s one)) h := fun h => next13 hp hs h1
  have e2 : ∀ h, callF T (n + 1) (Str.ofString "next_state") [.tup rows, .int s, .int other] h = .ok (.int (goal rows s other)) h := fun h => next13 hp hs h2
  have e3 : ∀ h, callF T (n + 1) (Str.ofString "next_state") [.tup rows, .int (goal rows s one), .int other] h = .ok (.int (goal rows (goal rows s one) other)) h := fun h => next13 hp g1 h2
  have e4 : ∀ h, callF T (n + 1) (Str.ofString "next_state") [.tup rows, .int (goal rows s other), .int one] h = .ok (.int (goal rows (goal rows s other) one)) h := fun h => next13 hp g2 h1
  simp only [evb, Bool.false_eq_true, Py.wipe, List.getElem?_cons_zero, List.getElem?_cons_succ, List.set_cons_zero, List.set_cons_succ, List.length_cons, List.length_nil, Nat.zero_add, Nat.reduceAdd, and_true, true_and, decide_eq_true_eq, ite_true, ite_false, Option.isSome_some, Bool.not_true, Bool.not_false, e1, e2, e3, e4]
  unfold meek
  rcases Bool.eq_false_or_eq_true (decide (((goal rows (goal rows s one) other : Nat) : Int) = (goal rows (goal rows s other) one : Nat))) with d1 | d1
  · simp only [evb, Bool.false_eq_true, Py.wipe, List.getElem?_cons_zero, List.getElem?_cons_succ, List.set_cons_zero, List.set_cons_succ, List.length_cons, List.length_nil, Nat.zero_add, Nat.reduceAdd, and_true, true_and, decide_eq_true_eq, ite_true, ite_false, Option.isSome_some, Bool.not_true, Bool.not_false, d1, Bool.true_or]
    exact Fr.refl
  · rcases Bool.eq_false_or_eq_true (decide (((goal rows (goal rows s one) other : Nat) : Int) = (goal rows s other : Nat))) with d2 | d2
    · simp only [evb, Bool.false_eq_true, Py.wipe, List.getElem?_cons_zero, List.getElem?_cons_succ, List.set_cons_zero, List.set_cons_succ, List.length_cons, List.length_nil, Nat.zero_add, Nat.reduceAdd, and_true, true_and, decide_eq_true_eq, ite_true, ite_false, Option.isSome_some, Bool.not_true, Bool.not_false, d1, d2, Bool.true_or, Bool.false_or]
      exact Fr.refl
    · simp only [evb, Bool.false_eq_true, Py.wipe, List.getElem?_cons_zero, List.getElem?_cons_succ, List.set_cons_zero, List.set_cons_succ, List.length_cons, List.length_nil, Nat.zero_add, Nat.reduceAdd, and_true, true_and, decide_eq_true_eq, ite_true, ite_false, Option.isSome_some, Bool.not_true, Bool.not_false, d1, d2, Bool.true_or, Bool.false_or]
      exact Fr.refl
/-- every two deeds at every state -/
def AllMeek (rows : List D) (m : Nat) : Prop := ∀ s, s < rows.length → ∀ one, one < m → ∀ other, other < m → meek rows one other s = true
theorem ismeek_eq {n : Nat} {rows : List D} {m : Nat} (hp : ∀ r ∈ rows, IsRow rows.length m r) (h0 : 0 < rows.length) (hn : rows.length < 100) (hm : m < 100) : ∃ b : Bool, (b = true ↔ AllMeek rows m) ∧ ∀ h : Hh, callF T (n + 3) "is_meek" [.tup rows] h = .ok (.bl b) h := by
  obtain ⟨p0, f0, lp0⟩ := head_len hp h0
  have key : ∀ b : Bool, (b = true ↔ AllMeek rows m) → ∀ h : Hh, callF T (n + 3) "is_meek" [.tup rows] h = .ok (.bl b) h := fun b hb h => by
    refine call_pure T_is_meek rfl rfl ?_
    show WpS (exSs _ I_is_meek.body [some (.tup rows), none, none, none] h) _
    simp only [I_is_meek]
    simp only [evb, Bool.false_eq_true, Py.wipe, List.getElem?_cons_zero, List.getElem?_cons_succ, List.set_cons_zero, List.set_cons_succ, List.length_cons, List.length_nil, Nat.zero_add, Nat.reduceAdd, and_true, true_and, decide_eq_true_eq, ite_true, ite_false, Option.isSome_some, Bool.not_true, Bool.not_false, f0]
    refine ⟨⟨by omega, by omega⟩, ?_⟩
    refine for_run (fun i st h' => h' = h ∧ (∃ x1 x2, st = [some (.tup rows), x1, x2, none]) ∧ ∀ s, s < i → ∀ one, one < m → ∀ other, other < m → meek rows one other s = true) ⟨rfl, ⟨_, _, rfl⟩, fun s hs => by omega⟩ ?_ ?_
    · rintro i d st h1 ei ⟨rfl, ⟨x1, x2, rfl⟩, q1⟩
      obtain ⟨hi, rfl⟩ := rng_get ei
      rw [Int.zero_add]
      refine ⟨still_nil, ?_⟩
      simp only [evb, Bool.false_eq_true, Py.wipe, List.getElem?_cons_zero, List.getElem?_cons_succ, List.set_cons_zero, List.set_cons_succ, List.length_cons, List.length_nil, Nat.zero_add, Nat.reduceAdd, and_true, true_and, decide_eq_true_eq, ite_true, ite_false, Option.isSome_some, Bool.not_true, Bool.not_false, f0]
      refine ⟨⟨by omega, by omega⟩, ?_⟩
      refine for_run (fun j st h' => h' = h1 ∧ (∃ x2, st = [some (.tup rows), some (.int i), x2, none]) ∧ ∀ one, one < j → ∀ other, other < m → meek rows one other i = true) ⟨rfl, ⟨_, rfl⟩, fun s hs => by omega⟩ ?_ ?_
      · rintro j d st h2 ej ⟨rfl, ⟨x2, rfl⟩, q2⟩
        obtain ⟨hj, rfl⟩ := rng_get ej
        rw [Int.zero_add]
        refine ⟨still_nil, ?_⟩
        simp only [evb, Bool.false_eq_true, Py.wipe, List.getElem?_cons_zero, List.getElem?_cons_succ, List.set_cons_zero, List.set_cons_succ, List.length_cons, List.length_nil, Nat.zero_add, Nat.reduceAdd, and_true, true_and, decide_eq_true_eq, ite_true, ite_false, Option.isSome_some, Bool.not_true, Bool.not_false, f0]
        refine ⟨⟨by omega, by omega⟩, lc_fun (fun o => .bl (meek rows j o i)) still_nil (by rw [rng_len]; omega) (fun o x eo => ?_) ?_⟩
        · obtain ⟨ho, rfl⟩ := rng_get eo
          rw [Int.zero_add]
          have e : ∀ h, callF T (n + 2) (Str.ofString "meek_at") [.tup rows, .int j, .int o, .int i] h = .ok (.bl (meek rows j o i)) h := fun h => meek_eq hp (by omega) (by omega) (by omega)
          simp only [evb, Bool.false_eq_true, Py.wipe, List.getElem?_cons_zero, List.getElem?_cons_succ, List.set_cons_zero, List.set_cons_succ, List.length_cons, List.length_nil, Nat.zero_add, Nat.reduceAdd, and_true, true_and, decide_eq_true_eq, ite_true, ite_false, Option.isSome_some, Bool.not_true, Bool.not_false, e]
        · rw [rng_len]
          have em : (p0.length : Int).toNat = m := by omega
          rw [em]
          simp only [evb, Bool.false_eq_true, Py.wipe, List.getElem?_cons_zero, List.getElem?_cons_succ, List.set_cons_zero, List.set_cons_succ, List.length_cons, List.length_nil, Nat.zero_add, Nat.reduceAdd, and_true, true_and, decide_eq_true_eq, ite_true, ite_false, Option.isSome_some, Bool.not_true, Bool.not_false, asBls_map]
          rcases Bool.eq_false_or_eq_true (((List.range m).map fun o => meek rows j o i).all id) with d1 | d1
          · simp only [evb, Bool.false_eq_true, Py.wipe, List.getElem?_cons_zero, List.getElem?_cons_succ, List.set_cons_zero, List.set_cons_succ, List.length_cons, List.length_nil, Nat.zero_add, Nat.reduceAdd, and_true, true_and, decide_eq_true_eq, ite_true, ite_false, Option.isSome_some, Bool.not_true, Bool.not_false, d1]
            refine ⟨⟨_, rfl⟩, fun one h1 other h2 => ?_⟩
            by_cases z : one = j
            · subst z
              exact all_range.mp d1 other h2
            · exact q2 one (by omega) other h2
          · simp only [evb, Bool.false_eq_true, Py.wipe, List.getElem?_cons_zero, List.getElem?_cons_succ, List.set_cons_zero, List.set_cons_succ, List.length_cons, List.length_nil, Nat.zero_add, Nat.reduceAdd, and_true, true_and, decide_eq_true_eq, ite_true, ite_false, Option.isSome_some, Bool.not_true, Bool.not_false, d1]
            refine ⟨Fr.refl, ?_⟩
            cases b with
            | false => rfl
            | true =>
              have := all_range.mpr fun o ho => hb.mp rfl i (by omega) j (by omega) o ho
              rw [d1] at this
              cases this
      · rintro st h2 ⟨rfl, ⟨x2, rfl⟩, q2⟩
        refine ⟨still_nil, ?_⟩
        simp only [evb, Bool.false_eq_true, Py.wipe, List.getElem?_cons_zero, List.getElem?_cons_succ, List.set_cons_zero, List.set_cons_succ, List.length_cons, List.length_nil, Nat.zero_add, Nat.reduceAdd, and_true, true_and, decide_eq_true_eq, ite_true, ite_false, Option.isSome_some, Bool.not_true, Bool.not_false]
        rw [rng_len] at q2
        refine ⟨⟨_, _, rfl⟩, fun s hs one h1 other h2 => ?_⟩
        by_cases z : s = i
        · subst z
          exact q2 one (by omega) other h2
        · exact q1 s (by omega) one h1 other h2
    · rintro st h1 ⟨rfl, ⟨x1, x2, rfl⟩, q1⟩
      refine ⟨still_nil, ?_⟩
      simp only [evb, Bool.false_eq_true, Py.wipe, List.getElem?_cons_zero, List.getElem?_cons_succ, List.set_cons_zero, List.set_cons_succ, List.length_cons, List.length_nil, Nat.zero_add, Nat.reduceAdd, and_true, true_and, decide_eq_true_eq, ite_true, ite_false, Option.isSome_some, Bool.not_true, Bool.not_false]
      rw [rng_len] at q1
      refine ⟨Fr.refl, ?_⟩
      rw [hb.mpr fun s hs => q1 s (by omega)]
  by_cases z : AllMeek rows m
  · exact ⟨true, ⟨fun _ => z, fun _ => rfl⟩, key true ⟨fun _ => z, fun _ => rfl⟩⟩
  · exact ⟨false, ⟨fun e => (by cases e), fun q => absurd q z⟩, key false ⟨fun e => (by cases e), fun q => absurd q z⟩⟩
section
variable {h : Hh} {t : Tab} {q s e n : Nat}
def cellN (t : Tab) (s d : Nat) : Nat × Nat := (t.getD s []).getD d (0, 0)
theorem cell_ex (K : TK t q) (hs : s < t.length) (he : e < q) : ∃ r p, t[s]? = some r ∧ r.length = q ∧ r[e]? = some p ∧ cellN t s e = p ∧ p.1 < t.length := by
  have er : t[s]? = some t[s] := List.getElem?_eq_getElem hs
  have w := K.row _ (List.getElem_mem hs)
  have hq : e < t[s].length := by rw [w.1]; exact he
  have ep : t[s][e]? = some t[s][e] := List.getElem?_eq_getElem hq
  refine ⟨_, _, er, w.1, ep, ?_, w.2 _ (List.getElem_mem hq)⟩
  unfold cellN
  have e1 : t.getD s [] = t[s] := by rw [List.getD_eq_getElem?_getD, er]; rfl
  rw [e1, List.getD_eq_getElem?_getD, ep]
  rfl
theorem at_m {α : Type} (f : α → D) {xs : List α} {k : Nat} {x : α} (e : xs[k]? = some x) : L2.atI (xs.map f) (k : Int) = some (f x) := atI_nat rfl (by rw [List.getElem?_map, e]; rfl)
theorem next_eq (K : TK t q) (hs : s < t.length) (he : e < q) : callF T (n + 1) "next_state" [tabD t, nD s, nD e] h = .ok (nD (cellN t s e).1) h := by
  obtain ⟨r, p, er, lr, ep, ec, _⟩ := cell_ex K hs he
  refine call_pure T_next_state rfl rfl ?_
  show WpS (exSs _ I_next_state.body [some (tabD t), some (nD s), some (nD e)] h) _
  simp only [I_next_state]
  simp only [evb, Bool.false_eq_true, Py.wipe, List.getElem?_cons_zero, List.getElem?_cons_succ, List.set_cons_zero, List.set_cons_succ, List.length_cons, List.length_nil, Nat.zero_add, Nat.reduceAdd, and_true, true_and, decide_eq_true_eq, ite_true, ite_false, Option.isSome_some, Bool.not_true, Bool.not_false, at_m rowD er, at_m prD ep, ec]
  exact Fr.refl
theorem answer_eq (K : TK t q) (hs : s < t.length) (he : e < q) : callF T (n + 1) "answer" [tabD t, nD s, nD e] h = .ok (nD (cellN t s e).2) h := by
  obtain ⟨r, p, er, lr, ep, ec, _⟩ := cell_ex K hs he
  refine call_pure T_answer rfl rfl ?_
  show WpS (exSs _ I_answer.body [some (tabD t), some (nD s), some (nD e)] h) _
  simp only [I_answer]
  simp only [evb, Bool.false_eq_true, Py.wipe, List.getElem?_cons_zero, List.getElem?_cons_succ, List.set_cons_zero, List.set_cons_succ, List.length_cons, List.length_nil, Nat.zero_add, Nat.reduceAdd, and_true, true_and, decide_eq_true_eq, ite_true, ite_false, Option.isSome_some, Bool.not_true, Bool.not_false, at_m rowD er, at_m prD ep, ec]
  exact Fr.refl
def bad (t : Tab) (s e : Nat) : Prop := (cellN t (cellN t s e).1 e).2 ≠ (cellN t s e).2
def MR (t : Tab) (q : Nat) (d : D) : Prop := (∃ s e, s < t.length ∧ e < q ∧ bad t s e ∧ (∀ s', s' < s → ∀ e', e' < q → ¬ bad t s' e') ∧ (∀ e', e' < e → ¬ bad t s e') ∧ d = .tup [nD s, nD e]) ∨ ((∀ s, s < t.length → ∀ e, e < q → ¬ bad t s e) ∧ d = .non)
theorem MR.one {d d' : D} (a : MR t q d) (b : MR t q d') : d = d' := by
  rcases a with ⟨s, e, hs, he, z, y, x, rfl⟩ | ⟨z, rfl⟩ <;> rcases b with ⟨s', e', hs', he', z', y', x', rfl⟩ | ⟨z', rfl⟩
  · have e1 : s = s' := by
      rcases Nat.lt_trichotomy s s' with l | l | l
      · exact absurd z (y' s l e he)
      · exact l
      · exact absurd z' (y s' l e' he')
    subst e1
    have e2 : e = e' := by
      rcases Nat.lt_trichotomy e e' with l | l | l
      · exact absurd z (x' e l)
      · exact l
      · exact absurd z' (x e' l)
    rw [e2]
  · exact absurd z (z' s hs e he)
  · exact absurd z' (z s' hs' e' he')
  · rfl
theorem mark_wp (K : TK t q) : Wp (callF T (n + 2) "mark" [tabD t] h) fun d h' => h' = h ∧ MR t q d := by
  have l1 := K.s1
  have m1 := K.m1
  refine call_of T_mark rfl ?_
  show WpS (exSs _ I_mark.body [some (tabD t), none, none] h) _
  simp only [I_mark]
  simp only [evb, Bool.false_eq_true, Py.wipe, List.getElem?_cons_zero, List.getElem?_cons_succ, List.set_cons_zero, List.set_cons_succ, List.length_cons, List.length_nil, Nat.zero_add, Nat.reduceAdd, and_true, true_and, decide_eq_true_eq, ite_true, ite_false, Option.isSome_some, Bool.not_true, Bool.not_false]
  refine ⟨⟨by omega, by rw [List.length_map]; omega⟩, for_run (fun i st h' => h' = h ∧ (∃ x1 x2, st = [some (tabD t), x1, x2]) ∧ ∀ s', s' < i → ∀ e', e' < q → ¬ bad t s' e') ⟨rfl, ⟨_, _, rfl⟩, fun s' hs => absurd hs (Nat.not_lt_zero _)⟩ ?_ ?_⟩
  · rintro i d st h1 ei ⟨rfl, ⟨x1, x2, rfl⟩, y⟩
    obtain ⟨hi, rfl⟩ := rng_get ei
    rw [Int.toNat_natCast, List.length_map] at hi
    refine ⟨still_nil, ?_⟩
    have er : t[i]? = some t[i] := List.getElem?_eq_getElem hi
    have lr := (K.row _ (List.getElem_mem hi)).1
    generalize t[i] = r at er lr
    simp only [evb, Bool.false_eq_true, Py.wipe, List.getElem?_cons_zero, List.getElem?_cons_succ, List.set_cons_zero, List.set_cons_succ, List.length_cons, List.length_nil, Nat.zero_add, Nat.reduceAdd, and_true, true_and, decide_eq_true_eq, ite_true, ite_false, Option.isSome_some, Bool.not_true, Bool.not_false, Int.zero_add, at_m rowD er]
    refine ⟨⟨by omega, by rw [List.length_map]; omega⟩, for_run (fun j st h' => h' = h1 ∧ (∃ x2, st = [some (tabD t), some (nD i), x2]) ∧ ∀ e', e' < j → ¬ bad t i e') ⟨rfl, ⟨_, rfl⟩, fun e' hs => absurd hs (Nat.not_lt_zero _)⟩ ?_ ?_⟩
    · rintro j d st h2 ej ⟨rfl, ⟨x2, rfl⟩, x⟩
      obtain ⟨hj, rfl⟩ := rng_get ej
      rw [Int.toNat_natCast, List.length_map, lr] at hj
      obtain ⟨r2, p, er2, lr2, ep, ec, pl⟩ := cell_ex K hi hj
      have g : (cellN t i j).1 < t.length := by rw [ec]; exact pl
      have en : ∀ h', callF T (n + 1) (Str.ofString "next_state") [tabD t, nD i, nD j] h' = .ok (nD (cellN t i j).1) h' := fun h' => next_eq K hi hj
      have e1 : ∀ h', callF T (n + 1) (Str.ofString "answer") [tabD t, nD (cellN t i j).1, nD j] h' = .ok (nD (cellN t (cellN t i j).1 j).2) h' := fun h' => answer_eq K g hj
      have e2 : ∀ h', callF T (n + 1) (Str.ofString "answer") [tabD t, nD i, nD j] h' = .ok (nD (cellN t i j).2) h' := fun h' => answer_eq K hi hj
      refine ⟨still_nil, ?_⟩
      by_cases b : bad t i j
      · have dd : decide ((((cellN t (cellN t i j).1 j).2 : Nat) : Int) = ((cellN t i j).2 : Nat)) = false := decide_eq_false fun z => b (by omega)
        simp only [evb, Bool.false_eq_true, Py.wipe, List.getElem?_cons_zero, List.getElem?_cons_succ, List.set_cons_zero, List.set_cons_succ, List.length_cons, List.length_nil, Nat.zero_add, Nat.reduceAdd, and_true, true_and, decide_eq_true_eq, ite_true, ite_false, Option.isSome_some, Bool.not_true, Bool.not_false, Int.zero_add, en, e1, e2, dd, Bool.not_false]
        exact ⟨by decide, gc_end Fr.refl rfl ⟨rfl, .inl ⟨i, j, hi, hj, b, y, x, rfl⟩⟩⟩
      · have dd : decide ((((cellN t (cellN t i j).1 j).2 : Nat) : Int) = ((cellN t i j).2 : Nat)) = true := decide_eq_true (by unfold bad at b; omega)
        simp only [evb, Bool.false_eq_true, Py.wipe, List.getElem?_cons_zero, List.getElem?_cons_succ, List.set_cons_zero, List.set_cons_succ, List.length_cons, List.length_nil, Nat.zero_add, Nat.reduceAdd, and_true, true_and, decide_eq_true_eq, ite_true, ite_false, Option.isSome_some, Bool.not_true, Bool.not_false, Int.zero_add, en, e1, e2, dd, Bool.not_true]
        exact ⟨⟨_, rfl⟩, fun e' he' => by
          by_cases z : e' = j
          · rw [z]; exact b
          · exact x e' (by omega)⟩
    · rintro st h2 ⟨rfl, ⟨x2, rfl⟩, x⟩
      refine ⟨still_nil, ?_⟩
      rw [rng_len, Int.toNat_natCast, List.length_map, lr] at x
      simp only [evb, Bool.false_eq_true, Py.wipe, List.getElem?_cons_zero, List.getElem?_cons_succ, List.set_cons_zero, List.set_cons_succ, List.length_cons, List.length_nil, Nat.zero_add, Nat.reduceAdd, and_true, true_and, decide_eq_true_eq, ite_true, ite_false, Option.isSome_some, Bool.not_true, Bool.not_false]
      exact ⟨⟨_, _, rfl⟩, fun s' hs' e' he' => by
        by_cases z : s' = i
        · rw [z]; exact x e' he'
        · exact y s' (by omega) e' he'⟩
  · rintro st h1 ⟨rfl, ⟨x1, x2, rfl⟩, y⟩
    refine ⟨still_nil, ?_⟩
    rw [rng_len, Int.toNat_natCast, List.length_map] at y
    simp only [evb, Bool.false_eq_true, Py.wipe, List.getElem?_cons_zero, List.getElem?_cons_succ, List.set_cons_zero, List.set_cons_succ, List.length_cons, List.length_nil, Nat.zero_add, Nat.reduceAdd, and_true, true_and, decide_eq_true_eq, ite_true, ite_false, Option.isSome_some, Bool.not_true, Bool.not_false]
    exact gc_end Fr.refl rfl ⟨rfl, .inr ⟨y, rfl⟩⟩
end
end LawP
namespace LawP
open PySem
open Py
/-! the makers of the known tables -/
def fT (N : Nat) : Tab := ((List.range N).map fun v => (v + 1, v + 1)) :: (List.range N).map fun s => (List.range N).map fun _ => (s + 1, s + 1)
def pT (N : Nat) : Tab := (List.range N).map fun s => (s, s) :: (List.range N).map fun v => (v, 0)
def sT (N : Nat) : Tab := (List.range N).map fun s => (List.range N).map fun v => (v, s)
def aT (N : Nat) : Tab := (List.range N).map fun s => [((s + 1) % N, s)]
def lfF (s d : Nat) : Nat × Nat := if s = 0 then (d + 1, d + 1) else (s, s)
def lpF (s d : Nat) : Nat × Nat := if d = 0 then (s, s) else (d - 1, 0)
def laF (N s : Nat) : Nat × Nat := if s = N - 1 then (0, s) else (s + 1, s)
theorem four {N : Nat} (h0 : 0 < N) (h1 : N ≤ 4) : N = 1 ∨ N = 2 ∨ N = 3 ∨ N = 4 := by omega
theorem prs_isD (k : Nat) : ∀ (r : List (Nat × Nat)), isDs (k + 1) (r.map prD) = true
  | [] => rfl
  | _ :: r => prs_isD k r
theorem rows_isD (k : Nat) : ∀ (t : Tab), isDs (k + 2) (t.map rowD) = true
  | [] => rfl
  | r :: t => by
    show (isDs (k + 1) (r.map prD) && isDs (k + 2) (t.map rowD)) = true
    rw [prs_isD, rows_isD]
    rfl
theorem ne_tab (t : Tab) (h : Hh) : opCmp .NotEq (.val (.tup (t.map rowD))) (.val (.tup (t.map rowD))) h = .ok (.val (.bl false)) h := by
  have z : isD 30 (tabD t) = true := rows_isD 27 t
  rw [ne_data z z, decide_eq_true rfl]
  rfl
theorem eq_tab (t : Tab) (h : Hh) : opCmp .Eq (.val (.tup (t.map rowD))) (.val (.tup (t.map rowD))) h = .ok (.val (.bl true)) h := by
  have z : isD 30 (tabD t) = true := rows_isD 27 t
  rw [eq_data z z, decide_eq_true rfl]
section
variable {n N s d : Nat} {h : Hh}
theorem rng1_nat (N : Nat) : rng 0 ((N : Nat) : Int).toNat = (List.range N).map nD := by
  unfold rng
  rw [Int.toNat_natCast]
  exact List.map_congr_left fun i _ => by rw [Int.zero_add]
theorem rng2_nat (N : Nat) : rng 1 (((N : Nat) : Int) + 1 - 1).toNat = (List.range N).map fun v => nD (v + 1) := by
  unfold rng
  rw [show (((N : Nat) : Int) + 1 - 1).toNat = N by omega]
  exact List.map_congr_left fun i _ => by
    show D.int (1 + (i : Int)) = D.int ((i + 1 : Nat) : Int)
    congr 1
    omega
theorem first_eq (h0 : 0 < N) (h1 : N ≤ 4) : callF T (n + 1) "first" [nD N] h = .ok (tabD (fT N)) h := by
  refine call_pure T_first rfl (tabD_low _ _) ?_
  show WpS (exSs _ I_first.body [some (nD N), none, none, none] h) _
  simp only [I_first]
  simp only [evb, Bool.false_eq_true, Py.wipe, List.getElem?_cons_zero, List.getElem?_cons_succ, List.set_cons_zero, List.set_cons_succ, List.length_cons, List.length_nil, Nat.zero_add, Nat.reduceAdd, and_true, true_and, decide_eq_true_eq, ite_true, ite_false, Option.isSome_some, Bool.not_true, Bool.not_false, rng2_nat, rng1_nat]
  refine ⟨⟨by omega, by omega⟩, lc_of (g := fun v => nD (v + 1)) (fun v => prD (v + 1, v + 1)) still_nil (by rw [List.length_range]; omega) (fun v _ => by simp only [evb, Bool.false_eq_true, Py.wipe, List.getElem?_cons_zero, List.getElem?_cons_succ, List.set_cons_zero, List.set_cons_succ, List.length_cons, List.length_nil, Nat.zero_add, Nat.reduceAdd, and_true, true_and, decide_eq_true_eq, ite_true, ite_false, Option.isSome_some, Bool.not_true, Bool.not_false]; decide) ?_⟩
  have e1 : (h ++ [Py.O.lst [D.tup ((List.range N).map fun v => prD (v + 1, v + 1))]])[h.length]? = some (.lst (((fT N).take 1).map rowD)) := by
    rw [push_at]
    unfold fT
    rw [List.take_succ_cons, List.take_zero, List.map_cons, List.map_nil]
    unfold rowD
    rw [List.map_map]
    rfl
  have F1 : Fr [] h (h ++ [Py.O.lst [D.tup ((List.range N).map fun v => prD (v + 1, v + 1))]]) := Fr.refl.push
  simp only [evb, Bool.false_eq_true, Py.wipe, List.getElem?_cons_zero, List.getElem?_cons_succ, List.set_cons_zero, List.set_cons_succ, List.length_cons, List.length_nil, Nat.zero_add, Nat.reduceAdd, and_true, true_and, decide_eq_true_eq, ite_true, ite_false, Option.isSome_some, Bool.not_true, Bool.not_false]
  refine ⟨by decide, ?_⟩
  generalize h ++ [Py.O.lst [D.tup ((List.range N).map fun v => prD (v + 1, v + 1))]] = h1 at e1 F1 ⊢
  rw [rng2_nat]
  refine ⟨⟨by omega, by omega⟩, for_run (fun i st h' => ∃ x2 x3, st = [some (nD N), some (.ref h.length), x2, x3] ∧ Fr [] h h' ∧ h'[h.length]? = some (.lst (((fT N).take (1 + i)).map rowD))) ⟨_, _, rfl, F1, e1⟩ ?_ ?_⟩
  · rintro i d st h2 ei ⟨x2, x3, rfl, F2, e2⟩
    rw [List.getElem?_map] at ei
    obtain ⟨s, es, rfl⟩ := Option.map_eq_some_iff.mp ei
    obtain ⟨hi, rfl⟩ : i < N ∧ i = s := by
      have hi : i < N := by have := (List.getElem?_eq_some_iff.mp es).1; rwa [List.length_range] at this
      rw [List.getElem?_range hi] at es
      exact ⟨hi, Option.some.inj es⟩
    refine ⟨still_nil, ?_⟩
    have fl : (fT N).length = N + 1 := by unfold fT; simp
    have hl : (((fT N).take (1 + i)).map rowD).length < 16777216 := by rw [List.length_map, List.length_take]; omega
    simp only [evb, Bool.false_eq_true, Py.wipe, List.getElem?_cons_zero, List.getElem?_cons_succ, List.set_cons_zero, List.set_cons_succ, List.length_cons, List.length_nil, Nat.zero_add, Nat.reduceAdd, and_true, true_and, decide_eq_true_eq, ite_true, ite_false, Option.isSome_some, Bool.not_true, Bool.not_false, rng1_nat]
    refine ⟨by rw [e2]; rfl, ⟨by omega, by omega⟩, lc_of (g := nD) (fun _ => prD (i + 1, i + 1)) still_nil (by rw [List.length_range]; omega) (fun v _ => by simp only [evb, Bool.false_eq_true, Py.wipe, List.getElem?_cons_zero, List.getElem?_cons_succ, List.set_cons_zero, List.set_cons_succ, List.length_cons, List.length_nil, Nat.zero_add, Nat.reduceAdd, and_true, true_and, decide_eq_true_eq, ite_true, ite_false, Option.isSome_some, Bool.not_true, Bool.not_false]; decide) ?_⟩
    have et : ((fT N).take (1 + (i + 1))).map rowD = ((fT N).take (1 + i)).map rowD ++ [.tup ((List.range N).map fun _ => prD (i + 1, i + 1))] := by
      have ez : (fT N)[1 + i]? = some ((List.range N).map fun _ => (i + 1, i + 1)) := by
        unfold fT
        rw [Nat.add_comm 1 i, List.getElem?_cons_succ, List.getElem?_map, List.getElem?_range hi]
        rfl
      rw [show 1 + (i + 1) = (1 + i) + 1 by omega, List.take_succ, ez, List.map_append]
      show _ ++ [rowD _] = _
      unfold rowD
      rw [List.map_map]
      rfl
    simp only [evb, Bool.false_eq_true, Py.wipe, List.getElem?_cons_zero, List.getElem?_cons_succ, List.set_cons_zero, List.set_cons_succ, List.length_cons, List.length_nil, Nat.zero_add, Nat.reduceAdd, and_true, true_and, decide_eq_true_eq, ite_true, ite_false, Option.isSome_some, Bool.not_true, Bool.not_false, e2, hl]
    refine ⟨_, _, rfl, F2.set (.inr (Nat.le_refl _)), ?_⟩
    rw [et]
    exact List.getElem?_set_self (List.getElem?_eq_some_iff.mp e2).1
  · rintro st h2 ⟨x2, x3, rfl, F2, e2⟩
    refine ⟨still_nil, ?_⟩
    rw [List.length_map, List.length_range, List.take_of_length_le (by unfold fT; simp; omega)] at e2
    simp only [evb, Bool.false_eq_true, Py.wipe, List.getElem?_cons_zero, List.getElem?_cons_succ, List.set_cons_zero, List.set_cons_succ, List.length_cons, List.length_nil, Nat.zero_add, Nat.reduceAdd, and_true, true_and, decide_eq_true_eq, ite_true, ite_false, Option.isSome_some, Bool.not_true, Bool.not_false, e2]
    first | exact F2 | exact ⟨F2, rfl⟩
theorem plainT_eq (h0 : 0 < N) (h1 : N ≤ 4) : callF T (n + 1) "plain" [nD N] h = .ok (tabD (pT N)) h := by
  refine call_pure T_plain rfl (tabD_low _ _) ?_
  show WpS (exSs _ I_plain.body [some (nD N), none, none, none] h) _
  simp only [I_plain]
  have e1 : (h ++ [Py.O.lst []])[h.length]? = some (.lst (((pT N).take 0).map rowD)) := by rw [push_at]; rfl
  have F1 : Fr [] h (h ++ [Py.O.lst []]) := Fr.refl.push
  simp only [evb, Bool.false_eq_true, Py.wipe, List.getElem?_cons_zero, List.getElem?_cons_succ, List.set_cons_zero, List.set_cons_succ, List.length_cons, List.length_nil, Nat.zero_add, Nat.reduceAdd, and_true, true_and, decide_eq_true_eq, ite_true, ite_false, Option.isSome_some, Bool.not_true, Bool.not_false, rng1_nat]
  generalize h ++ [Py.O.lst []] = h1 at e1 F1 ⊢
  refine ⟨by decide, ⟨by omega, by omega⟩, for_run (fun i st h' => ∃ x2 x3, st = [some (nD N), some (.ref h.length), x2, x3] ∧ Fr [] h h' ∧ h'[h.length]? = some (.lst (((pT N).take i).map rowD))) ⟨_, _, rfl, F1, e1⟩ ?_ ?_⟩
  · rintro i d st h2 ei ⟨x2, x3, rfl, F2, e2⟩
    rw [List.getElem?_map] at ei
    obtain ⟨s, es, rfl⟩ := Option.map_eq_some_iff.mp ei
    obtain ⟨hi, rfl⟩ : i < N ∧ i = s := by
      have hi : i < N := by have := (List.getElem?_eq_some_iff.mp es).1; rwa [List.length_range] at this
      rw [List.getElem?_range hi] at es
      exact ⟨hi, Option.some.inj es⟩
    refine ⟨still_nil, ?_⟩
    have fl : (pT N).length = N := by unfold pT; simp
    have hl : (((pT N).take i).map rowD).length < 16777216 := by rw [List.length_map, List.length_take]; omega
    simp only [evb, Bool.false_eq_true, Py.wipe, List.getElem?_cons_zero, List.getElem?_cons_succ, List.set_cons_zero, List.set_cons_succ, List.length_cons, List.length_nil, Nat.zero_add, Nat.reduceAdd, and_true, true_and, decide_eq_true_eq, ite_true, ite_false, Option.isSome_some, Bool.not_true, Bool.not_false, rng1_nat]
    refine ⟨by rw [e2]; rfl, by decide, by decide, ⟨by omega, by omega⟩, lc_of (g := nD) (fun v => prD (v, 0)) still_nil (by rw [List.length_range]; omega) (fun v _ => by simp only [evb, Bool.false_eq_true, Py.wipe, List.getElem?_cons_zero, List.getElem?_cons_succ, List.set_cons_zero, List.set_cons_succ, List.length_cons, List.length_nil, Nat.zero_add, Nat.reduceAdd, and_true, true_and, decide_eq_true_eq, ite_true, ite_false, Option.isSome_some, Bool.not_true, Bool.not_false]; exact ⟨by decide, rfl⟩) ?_⟩
    have et : ((pT N).take (i + 1)).map rowD = ((pT N).take i).map rowD ++ [.tup ([prD (i, i)] ++ (List.range N).map fun v => prD (v, 0))] := by
      have ez : (pT N)[i]? = some ((i, i) :: (List.range N).map fun v => (v, 0)) := by
        unfold pT
        rw [List.getElem?_map, List.getElem?_range hi]
        rfl
      rw [List.take_succ, ez, List.map_append]
      show _ ++ [rowD _] = _
      unfold rowD
      rw [List.map_cons, List.map_map]
      rfl
    have hb : ([prD (i, i)] ++ (List.range N).map fun v => prD (v, 0)).length ≤ 16777216 := by simp; omega
    simp only [evb, Bool.false_eq_true, Py.wipe, List.getElem?_cons_zero, List.getElem?_cons_succ, List.set_cons_zero, List.set_cons_succ, List.length_cons, List.length_nil, Nat.zero_add, Nat.reduceAdd, and_true, true_and, decide_eq_true_eq, ite_true, ite_false, Option.isSome_some, Bool.not_true, Bool.not_false, e2, hl]
    refine ⟨by simp; omega, _, _, rfl, F2.set (.inr (Nat.le_refl _)), ?_⟩
    rw [et]
    exact List.getElem?_set_self (List.getElem?_eq_some_iff.mp e2).1
  · rintro st h2 ⟨x2, x3, rfl, F2, e2⟩
    refine ⟨still_nil, ?_⟩
    rw [List.length_map, List.length_range, List.take_of_length_le (by unfold pT; simp)] at e2
    simp only [evb, Bool.false_eq_true, Py.wipe, List.getElem?_cons_zero, List.getElem?_cons_succ, List.set_cons_zero, List.set_cons_succ, List.length_cons, List.length_nil, Nat.zero_add, Nat.reduceAdd, and_true, true_and, decide_eq_true_eq, ite_true, ite_false, Option.isSome_some, Bool.not_true, Bool.not_false, e2]
    first | exact F2 | exact ⟨F2, rfl⟩
theorem swapT_eq (h0 : 0 < N) (h1 : N ≤ 4) : callF T (n + 1) "swap" [nD N] h = .ok (tabD (sT N)) h := by
  refine call_pure T_swap rfl (tabD_low _ _) ?_
  show WpS (exSs _ I_swap.body [some (nD N), none, none] h) _
  simp only [I_swap]
  simp only [evb, Bool.false_eq_true, Py.wipe, List.getElem?_cons_zero, List.getElem?_cons_succ, List.set_cons_zero, List.set_cons_succ, List.length_cons, List.length_nil, Nat.zero_add, Nat.reduceAdd, and_true, true_and, decide_eq_true_eq, ite_true, ite_false, Option.isSome_some, Bool.not_true, Bool.not_false]
  refine ⟨⟨by omega, by omega⟩, lc_nat (fun s => rowD ((List.range N).map fun v => (v, s))) (by omega) (fun s hs => ?_) ?_⟩
  · simp only [evb, Bool.false_eq_true, Py.wipe, List.getElem?_cons_zero, List.getElem?_cons_succ, List.set_cons_zero, List.set_cons_succ, List.length_cons, List.length_nil, Nat.zero_add, Nat.reduceAdd, and_true, true_and, decide_eq_true_eq, ite_true, ite_false, Option.isSome_some, Bool.not_true, Bool.not_false]
    refine ⟨⟨by omega, by omega⟩, lc_nat (fun v => prD (v, s)) (by omega) (fun v hv => by simp only [evb, Bool.false_eq_true, Py.wipe, List.getElem?_cons_zero, List.getElem?_cons_succ, List.set_cons_zero, List.set_cons_succ, List.length_cons, List.length_nil, Nat.zero_add, Nat.reduceAdd, and_true, true_and, decide_eq_true_eq, ite_true, ite_false, Option.isSome_some, Bool.not_true, Bool.not_false]; decide) ?_⟩
    simp only [evb, Bool.false_eq_true, Py.wipe, List.getElem?_cons_zero, List.getElem?_cons_succ, List.set_cons_zero, List.set_cons_succ, List.length_cons, List.length_nil, Nat.zero_add, Nat.reduceAdd, and_true, true_and, decide_eq_true_eq, ite_true, ite_false, Option.isSome_some, Bool.not_true, Bool.not_false]
    unfold rowD
    rw [List.map_map]
    rfl
  · have e : (List.range N).map (fun s => rowD ((List.range N).map fun v => (v, s))) = (sT N).map rowD := by
      unfold sT
      rw [List.map_map]
      rfl
    rw [e]
    simp only [evb, Bool.false_eq_true, Py.wipe, List.getElem?_cons_zero, List.getElem?_cons_succ, List.set_cons_zero, List.set_cons_succ, List.length_cons, List.length_nil, Nat.zero_add, Nat.reduceAdd, and_true, true_and, decide_eq_true_eq, ite_true, ite_false, Option.isSome_some, Bool.not_true, Bool.not_false]
    exact Fr.refl
theorem addT_eq (h0 : 0 < N) (h1 : N ≤ 4) : callF T (n + 1) "add" [nD N] h = .ok (tabD (aT N)) h := by
  refine call_pure T_add rfl (tabD_low _ _) ?_
  show WpS (exSs _ I_add.body [some (nD N), none] h) _
  simp only [I_add]
  have mi : (0 : Int) < (N : Int) := by omega
  simp only [evb, Bool.false_eq_true, Py.wipe, List.getElem?_cons_zero, List.getElem?_cons_succ, List.set_cons_zero, List.set_cons_succ, List.length_cons, List.length_nil, Nat.zero_add, Nat.reduceAdd, and_true, true_and, decide_eq_true_eq, ite_true, ite_false, Option.isSome_some, Bool.not_true, Bool.not_false]
  refine ⟨⟨by omega, by omega⟩, lc_nat (fun s => rowD [((s + 1) % N, s)]) (by omega) (fun s hs => ?_) ?_⟩
  · have em : ((s : Int) + 1) % (N : Int) = (((s + 1) % N : Nat) : Int) := by first | rfl | exact (Int.natCast_emod ..).symm | exact (Int.ofNat_emod ..).symm
    simp only [evb, Bool.false_eq_true, Py.wipe, List.getElem?_cons_zero, List.getElem?_cons_succ, List.set_cons_zero, List.set_cons_succ, List.length_cons, List.length_nil, Nat.zero_add, Nat.reduceAdd, and_true, true_and, decide_eq_true_eq, ite_true, ite_false, Option.isSome_some, Bool.not_true, Bool.not_false, mi, em]
    exact ⟨by decide, by decide, rfl⟩
  · have e : (List.range N).map (fun s => rowD [((s + 1) % N, s)]) = (aT N).map rowD := by
      unfold aT
      rw [List.map_map]
      rfl
    rw [e]
    simp only [evb, Bool.false_eq_true, Py.wipe, List.getElem?_cons_zero, List.getElem?_cons_succ, List.set_cons_zero, List.set_cons_succ, List.length_cons, List.length_nil, Nat.zero_add, Nat.reduceAdd, and_true, true_and, decide_eq_true_eq, ite_true, ite_false, Option.isSome_some, Bool.not_true, Bool.not_false]
    exact Fr.refl
theorem lfirst_eq : callF T (n + 1) "_law_first" [nD N, nD s, nD d] h = .ok (prD (lfF s d)) h := by
  refine call_pure T__law_first rfl rfl ?_
  show WpS (exSs _ I__law_first.body [some (nD N), some (nD s), some (nD d)] h) _
  simp only [I__law_first]
  unfold lfF
  by_cases z : s = 0
  · have c : decide ((s : Int) = 0) = true := decide_eq_true (by omega)
    simp only [evb, Bool.false_eq_true, Py.wipe, List.getElem?_cons_zero, List.getElem?_cons_succ, List.set_cons_zero, List.set_cons_succ, List.length_cons, List.length_nil, Nat.zero_add, Nat.reduceAdd, and_true, true_and, decide_eq_true_eq, ite_true, ite_false, Option.isSome_some, Bool.not_true, Bool.not_false, c, if_pos z]
    exact ⟨by decide, Fr.refl, rfl⟩
  · have c : decide ((s : Int) = 0) = false := decide_eq_false (by omega)
    simp only [evb, Bool.false_eq_true, Py.wipe, List.getElem?_cons_zero, List.getElem?_cons_succ, List.set_cons_zero, List.set_cons_succ, List.length_cons, List.length_nil, Nat.zero_add, Nat.reduceAdd, and_true, true_and, decide_eq_true_eq, ite_true, ite_false, Option.isSome_some, Bool.not_true, Bool.not_false, c, if_neg z]
    exact ⟨by decide, Fr.refl⟩
theorem lplain_eq : callF T (n + 1) "_law_plain" [nD N, nD s, nD d] h = .ok (prD (lpF s d)) h := by
  refine call_pure T__law_plain rfl rfl ?_
  show WpS (exSs _ I__law_plain.body [some (nD N), some (nD s), some (nD d)] h) _
  simp only [I__law_plain]
  unfold lpF
  by_cases z : d = 0
  · have c : decide ((d : Int) = 0) = true := decide_eq_true (by omega)
    simp only [evb, Bool.false_eq_true, Py.wipe, List.getElem?_cons_zero, List.getElem?_cons_succ, List.set_cons_zero, List.set_cons_succ, List.length_cons, List.length_nil, Nat.zero_add, Nat.reduceAdd, and_true, true_and, decide_eq_true_eq, ite_true, ite_false, Option.isSome_some, Bool.not_true, Bool.not_false, c, if_pos z]
    exact ⟨by decide, Fr.refl⟩
  · have c : decide ((d : Int) = 0) = false := decide_eq_false (by omega)
    have e : (d : Int) - 1 = ((d - 1 : Nat) : Int) := by omega
    simp only [evb, Bool.false_eq_true, Py.wipe, List.getElem?_cons_zero, List.getElem?_cons_succ, List.set_cons_zero, List.set_cons_succ, List.length_cons, List.length_nil, Nat.zero_add, Nat.reduceAdd, and_true, true_and, decide_eq_true_eq, ite_true, ite_false, Option.isSome_some, Bool.not_true, Bool.not_false, c, if_neg z, e]
    exact ⟨by decide, Fr.refl, rfl⟩
theorem lswap_eq : callF T (n + 1) "_law_swap" [nD N, nD s, nD d] h = .ok (prD (d, s)) h := by
  refine call_pure T__law_swap rfl rfl ?_
  show WpS (exSs _ I__law_swap.body [some (nD N), some (nD s), some (nD d)] h) _
  simp only [I__law_swap]
  simp only [evb, Bool.false_eq_true, Py.wipe, List.getElem?_cons_zero, List.getElem?_cons_succ, List.set_cons_zero, List.set_cons_succ, List.length_cons, List.length_nil, Nat.zero_add, Nat.reduceAdd, and_true, true_and, decide_eq_true_eq, ite_true, ite_false, Option.isSome_some, Bool.not_true, Bool.not_false]
  exact ⟨by decide, Fr.refl⟩
theorem ladd_eq (h0 : 0 < N) : callF T (n + 1) "_law_add" [nD N, nD s, nD d] h = .ok (prD (laF N s)) h := by
  refine call_pure T__law_add rfl rfl ?_
  show WpS (exSs _ I__law_add.body [some (nD N), some (nD s), some (nD d)] h) _
  simp only [I__law_add]
  unfold laF
  by_cases z : s = N - 1
  · have c : decide ((s : Int) = (N : Int) - 1) = true := decide_eq_true (by omega)
    simp only [evb, Bool.false_eq_true, Py.wipe, List.getElem?_cons_zero, List.getElem?_cons_succ, List.set_cons_zero, List.set_cons_succ, List.length_cons, List.length_nil, Nat.zero_add, Nat.reduceAdd, and_true, true_and, decide_eq_true_eq, ite_true, ite_false, Option.isSome_some, Bool.not_true, Bool.not_false, c, if_pos z]
    exact ⟨by decide, Fr.refl, rfl⟩
  · have c : decide ((s : Int) = (N : Int) - 1) = false := decide_eq_false (by omega)
    simp only [evb, Bool.false_eq_true, Py.wipe, List.getElem?_cons_zero, List.getElem?_cons_succ, List.set_cons_zero, List.set_cons_succ, List.length_cons, List.length_nil, Nat.zero_add, Nat.reduceAdd, and_true, true_and, decide_eq_true_eq, ite_true, ite_false, Option.isSome_some, Bool.not_true, Bool.not_false, c, if_neg z]
    exact ⟨by decide, Fr.refl, rfl⟩
theorem lright_eq (h0 : 0 < N) (h1 : N ≤ 4) : callF T (n + 2) "_law_right" [nD N] h = .ok (.bl true) h := by
  refine call_pure T__law_right rfl rfl ?_
  show WpS (exSs _ I__law_right.body [some (nD N), none, none] h) _
  simp only [I__law_right]
  have e1 : ∀ h', callF T (n + 1) (Str.ofString "first") [nD N] h' = .ok (tabD (fT N)) h' := fun h' => first_eq h0 h1
  have e2 : ∀ h', callF T (n + 1) (Str.ofString "plain") [nD N] h' = .ok (tabD (pT N)) h' := fun h' => plainT_eq h0 h1
  have e3 : ∀ h', callF T (n + 1) (Str.ofString "swap") [nD N] h' = .ok (tabD (sT N)) h' := fun h' => swapT_eq h0 h1
  have e4 : ∀ h', callF T (n + 1) (Str.ofString "add") [nD N] h' = .ok (tabD (aT N)) h' := fun h' => addT_eq h0 h1
  have f1 : ∀ s d h', callF T (n + 1) (Str.ofString "_law_first") [nD N, nD s, nD d] h' = .ok (prD (lfF s d)) h' := fun s d h' => lfirst_eq
  have f2 : ∀ s d h', callF T (n + 1) (Str.ofString "_law_plain") [nD N, nD s, nD d] h' = .ok (prD (lpF s d)) h' := fun s d h' => lplain_eq
  have f3 : ∀ s d h', callF T (n + 1) (Str.ofString "_law_swap") [nD N, nD s, nD d] h' = .ok (prD (d, s)) h' := fun s d h' => lswap_eq
  have f4 : ∀ s d h', callF T (n + 1) (Str.ofString "_law_add") [nD N, nD s, nD d] h' = .ok (prD (laF N s)) h' := fun s d h' => ladd_eq h0
  have q1 : (List.range (N + 1)).map (fun s => D.tup ((List.range N).map fun d => prD (lfF s d))) = (fT N).map rowD := by
    rcases four h0 h1 with rfl | rfl | rfl | rfl <;> rfl
  have q2 : (List.range N).map (fun s => D.tup ((List.range (N + 1)).map fun d => prD (lpF s d))) = (pT N).map rowD := by
    rcases four h0 h1 with rfl | rfl | rfl | rfl <;> rfl
  have q3 : (List.range N).map (fun s => D.tup ((List.range N).map fun d => prD (d, s))) = (sT N).map rowD := by
    rcases four h0 h1 with rfl | rfl | rfl | rfl <;> rfl
  have q4 : (List.range N).map (fun s => D.tup ((List.range 1).map fun d => prD (laF N s))) = (aT N).map rowD := by
    rcases four h0 h1 with rfl | rfl | rfl | rfl <;> rfl
  have up : ((N : Nat) : Int) + 1 = ((N + 1 : Nat) : Int) := rfl
  have one : (1 : Int).toNat = ((1 : Nat) : Int).toNat := rfl
  simp only [evb, Bool.false_eq_true, Py.wipe, List.getElem?_cons_zero, List.getElem?_cons_succ, List.set_cons_zero, List.set_cons_succ, List.length_cons, List.length_nil, Nat.zero_add, Nat.reduceAdd, and_true, true_and, decide_eq_true_eq, ite_true, ite_false, Option.isSome_some, Bool.not_true, Bool.not_false, e1, up]
  refine ⟨⟨by omega, by omega⟩, lc_nat (n := N + 1) (fun s => D.tup ((List.range N).map fun d => prD (lfF s d))) (by omega) (fun s hs => ?_) ?_⟩
  · simp only [evb, Bool.false_eq_true, Py.wipe, List.getElem?_cons_zero, List.getElem?_cons_succ, List.set_cons_zero, List.set_cons_succ, List.length_cons, List.length_nil, Nat.zero_add, Nat.reduceAdd, and_true, true_and, decide_eq_true_eq, ite_true, ite_false, Option.isSome_some, Bool.not_true, Bool.not_false]
    refine ⟨⟨by omega, by omega⟩, lc_nat (fun d => prD (lfF s d)) (by omega) (fun d hd => by simp only [evb, Bool.false_eq_true, Py.wipe, List.getElem?_cons_zero, List.getElem?_cons_succ, List.set_cons_zero, List.set_cons_succ, List.length_cons, List.length_nil, Nat.zero_add, Nat.reduceAdd, and_true, true_and, decide_eq_true_eq, ite_true, ite_false, Option.isSome_some, Bool.not_true, Bool.not_false, f1]) ?_⟩
    simp only [evb, Bool.false_eq_true, Py.wipe, List.getElem?_cons_zero, List.getElem?_cons_succ, List.set_cons_zero, List.set_cons_succ, List.length_cons, List.length_nil, Nat.zero_add, Nat.reduceAdd, and_true, true_and, decide_eq_true_eq, ite_true, ite_false, Option.isSome_some, Bool.not_true, Bool.not_false]
  rw [q1]
  simp only [evb, Bool.false_eq_true, Py.wipe, List.getElem?_cons_zero, List.getElem?_cons_succ, List.set_cons_zero, List.set_cons_succ, List.length_cons, List.length_nil, Nat.zero_add, Nat.reduceAdd, and_true, true_and, decide_eq_true_eq, ite_true, ite_false, Option.isSome_some, Bool.not_true, Bool.not_false, ne_tab, e2, up]
  refine ⟨⟨by omega, by omega⟩, lc_nat (fun s => D.tup ((List.range (N + 1)).map fun d => prD (lpF s d))) (by omega) (fun s hs => ?_) ?_⟩
  · simp only [evb, Bool.false_eq_true, Py.wipe, List.getElem?_cons_zero, List.getElem?_cons_succ, List.set_cons_zero, List.set_cons_succ, List.length_cons, List.length_nil, Nat.zero_add, Nat.reduceAdd, and_true, true_and, decide_eq_true_eq, ite_true, ite_false, Option.isSome_some, Bool.not_true, Bool.not_false, up]
    refine ⟨⟨by omega, by omega⟩, lc_nat (n := N + 1) (fun d => prD (lpF s d)) (by omega) (fun d hd => by simp only [evb, Bool.false_eq_true, Py.wipe, List.getElem?_cons_zero, List.getElem?_cons_succ, List.set_cons_zero, List.set_cons_succ, List.length_cons, List.length_nil, Nat.zero_add, Nat.reduceAdd, and_true, true_and, decide_eq_true_eq, ite_true, ite_false, Option.isSome_some, Bool.not_true, Bool.not_false, f2]) ?_⟩
    simp only [evb, Bool.false_eq_true, Py.wipe, List.getElem?_cons_zero, List.getElem?_cons_succ, List.set_cons_zero, List.set_cons_succ, List.length_cons, List.length_nil, Nat.zero_add, Nat.reduceAdd, and_true, true_and, decide_eq_true_eq, ite_true, ite_false, Option.isSome_some, Bool.not_true, Bool.not_false]
  rw [q2]
  simp only [evb, Bool.false_eq_true, Py.wipe, List.getElem?_cons_zero, List.getElem?_cons_succ, List.set_cons_zero, List.set_cons_succ, List.length_cons, List.length_nil, Nat.zero_add, Nat.reduceAdd, and_true, true_and, decide_eq_true_eq, ite_true, ite_false, Option.isSome_some, Bool.not_true, Bool.not_false, ne_tab, e3]
  refine ⟨⟨by omega, by omega⟩, lc_nat (fun s => D.tup ((List.range N).map fun d => prD (d, s))) (by omega) (fun s hs => ?_) ?_⟩
  · simp only [evb, Bool.false_eq_true, Py.wipe, List.getElem?_cons_zero, List.getElem?_cons_succ, List.set_cons_zero, List.set_cons_succ, List.length_cons, List.length_nil, Nat.zero_add, Nat.reduceAdd, and_true, true_and, decide_eq_true_eq, ite_true, ite_false, Option.isSome_some, Bool.not_true, Bool.not_false]
    refine ⟨⟨by omega, by omega⟩, lc_nat (fun d => prD (d, s)) (by omega) (fun d hd => by simp only [evb, Bool.false_eq_true, Py.wipe, List.getElem?_cons_zero, List.getElem?_cons_succ, List.set_cons_zero, List.set_cons_succ, List.length_cons, List.length_nil, Nat.zero_add, Nat.reduceAdd, and_true, true_and, decide_eq_true_eq, ite_true, ite_false, Option.isSome_some, Bool.not_true, Bool.not_false, f3]) ?_⟩
    simp only [evb, Bool.false_eq_true, Py.wipe, List.getElem?_cons_zero, List.getElem?_cons_succ, List.set_cons_zero, List.set_cons_succ, List.length_cons, List.length_nil, Nat.zero_add, Nat.reduceAdd, and_true, true_and, decide_eq_true_eq, ite_true, ite_false, Option.isSome_some, Bool.not_true, Bool.not_false]
  rw [q3]
  simp only [evb, Bool.false_eq_true, Py.wipe, List.getElem?_cons_zero, List.getElem?_cons_succ, List.set_cons_zero, List.set_cons_succ, List.length_cons, List.length_nil, Nat.zero_add, Nat.reduceAdd, and_true, true_and, decide_eq_true_eq, ite_true, ite_false, Option.isSome_some, Bool.not_true, Bool.not_false, ne_tab, e4]
  refine ⟨⟨by omega, by omega⟩, lc_nat (fun s => D.tup ((List.range 1).map fun d => prD (laF N s))) (by omega) (fun s hs => ?_) ?_⟩
  · simp only [evb, Bool.false_eq_true, Py.wipe, List.getElem?_cons_zero, List.getElem?_cons_succ, List.set_cons_zero, List.set_cons_succ, List.length_cons, List.length_nil, Nat.zero_add, Nat.reduceAdd, and_true, true_and, decide_eq_true_eq, ite_true, ite_false, Option.isSome_some, Bool.not_true, Bool.not_false]
    refine ⟨by decide, lc_nat (n := 1) (fun d => prD (laF N s)) (by omega) (fun d hd => by simp only [evb, Bool.false_eq_true, Py.wipe, List.getElem?_cons_zero, List.getElem?_cons_succ, List.set_cons_zero, List.set_cons_succ, List.length_cons, List.length_nil, Nat.zero_add, Nat.reduceAdd, and_true, true_and, decide_eq_true_eq, ite_true, ite_false, Option.isSome_some, Bool.not_true, Bool.not_false, f4]) ?_⟩
    simp only [evb, Bool.false_eq_true, Py.wipe, List.getElem?_cons_zero, List.getElem?_cons_succ, List.set_cons_zero, List.set_cons_succ, List.length_cons, List.length_nil, Nat.zero_add, Nat.reduceAdd, and_true, true_and, decide_eq_true_eq, ite_true, ite_false, Option.isSome_some, Bool.not_true, Bool.not_false]
  rw [q4]
  simp only [evb, Bool.false_eq_true, Py.wipe, List.getElem?_cons_zero, List.getElem?_cons_succ, List.set_cons_zero, List.set_cons_succ, List.length_cons, List.length_nil, Nat.zero_add, Nat.reduceAdd, and_true, true_and, decide_eq_true_eq, ite_true, ite_false, Option.isSome_some, Bool.not_true, Bool.not_false, eq_tab]
  exact Fr.refl
end
end LawP
namespace LawP
open PySem
open Py
/-! what is known of the four tables -/
def PlainP (rows : List D) (m : Nat) : Prop := ∀ d, d < m → (∀ s, s < rows.length → goal rows s d = s) ∨ ∀ s, s < rows.length → goal rows s d = goal rows 0 d ∧ toldv rows s d = 0
instance (S m : Nat) (r : List (Nat × Nat)) : Decidable (Rw S m r) := by unfold Rw; infer_instance
instance (rows : List D) (m : Nat) : Decidable (PlainP rows m) := by unfold PlainP; infer_instance
instance (rows : List D) (m : Nat) : Decidable (AllMeek rows m) := by unfold AllMeek; infer_instance
instance (t : Tab) (s e : Nat) : Decidable (bad t s e) := by unfold bad; infer_instance
section
variable {t : Tab} {q n N : Nat} {h : Hh}
theorem rows_of (K : TK t q) (hc : ∀ r ∈ t, ∀ p ∈ r, p.2 < 100) : ∀ r ∈ t.map rowD, IsRow ((t.map rowD).length : Nat) q r := by
  intro v hv
  obtain ⟨r, hr, rfl⟩ := List.mem_map.mp hv
  have w := K.row r hr
  refine ⟨r.map prD, rfl, by rw [List.length_map]; exact w.1, fun v hv => ?_⟩
  obtain ⟨p, hp, rfl⟩ := List.mem_map.mp hv
  have a := w.2 p hp
  have b := hc r hr p hp
  exact ⟨p.1, p.2, rfl, by omega, by rw [List.length_map]; omega, by omega, by omega⟩
theorem ttx_of (K : TK t q) (hc : ∀ r ∈ t, ∀ p ∈ r, p.2 < 100) : TTx t q := ⟨K.s0, by have := K.s1; omega, K.m0, by have := K.m1; omega, fun r hr => (K.row r hr).1, fun r hr p hp => ⟨(K.row r hr).2 p hp, by have := hc r hr p hp; omega⟩⟩
theorem bool_same {a b : Bool} {P : Prop} (ha : a = true ↔ P) (hb : b = true ↔ P) : a = b := by
  cases a <;> cases b <;> simp_all
structure Known (t : Tab) (a b : Bool) (mk : D) : Prop where
  ex : ∃ q, TK t q ∧ (∀ r ∈ t, ∀ p ∈ r, p.2 < 100) ∧ (a = true ↔ PlainP (t.map rowD) q) ∧ (b = true ↔ AllMeek (t.map rowD) q) ∧ MR t q mk
theorem Known.plain {a b : Bool} {mk : D} (K : Known t a b mk) : callF T (n + 2) "is_plain" [tabD t] h = .ok (.bl a) h := by
  obtain ⟨q, k, hc, pa, pb, mr⟩ := K.ex
  have l1 : (t.map rowD).length < 100 := by rw [List.length_map]; have := k.s1; omega
  obtain ⟨c, hc2, e⟩ := plain_eq (n := n) (rows_of k hc) (by rw [List.length_map]; exact k.s0) l1 (by have := k.m1; omega)
  rw [bool_same pa hc2]
  exact e h
theorem Known.meek {a b : Bool} {mk : D} (K : Known t a b mk) : callF T (n + 3) "is_meek" [tabD t] h = .ok (.bl b) h := by
  obtain ⟨q, k, hc, pa, pb, mr⟩ := K.ex
  have l1 : (t.map rowD).length < 100 := by rw [List.length_map]; have := k.s1; omega
  obtain ⟨c, hc2, e⟩ := ismeek_eq (n := n) (rows_of k hc) (by rw [List.length_map]; exact k.s0) l1 (by have := k.m1; omega)
  rw [bool_same pb hc2]
  exact e h
theorem Known.mark {a b : Bool} {mk : D} (K : Known t a b mk) : callF T (n + 2) "mark" [tabD t] h = .ok mk h := by
  obtain ⟨q, k, hc, pa, pb, mr⟩ := K.ex
  obtain ⟨d, h', e, rfl, A⟩ := (mark_wp (n := n) (h := h) k).get
  rw [mr.one A]
  exact e
theorem Known.ttx {a b : Bool} {mk : D} (K : Known t a b mk) : ∃ q, TTx t q := by
  obtain ⟨q, k, hc, _⟩ := K.ex
  exact ⟨q, ttx_of k hc⟩
def mkS (N : Nat) : D := if N = 1 then .non else .tup [nD 0, nD 1]
def mkA (N : Nat) : D := if N = 1 then .non else .tup [nD 0, nD 0]
theorem known_f (h0 : 0 < N) (h1 : N ≤ 4) : Known (fT N) false (decide ((N : Int) = 1)) .non := by
  refine ⟨N, ⟨?_, ?_, h0, by omega, ?_⟩, ?_, ?_, ?_, .inr ⟨?_, rfl⟩⟩ <;> rcases four h0 h1 with rfl | rfl | rfl | rfl <;> decide +kernel
theorem known_p (h0 : 0 < N) (h1 : N ≤ 4) : Known (pT N) true true .non := by
  refine ⟨N + 1, ⟨?_, ?_, by omega, by omega, ?_⟩, ?_, ?_, ?_, .inr ⟨?_, rfl⟩⟩ <;> rcases four h0 h1 with rfl | rfl | rfl | rfl <;> decide +kernel
theorem known_s (h0 : 0 < N) (h1 : N ≤ 4) : Known (sT N) (decide ((N : Int) = 1)) true (mkS N) := by
  by_cases z : N = 1
  · subst z
    exact ⟨1, ⟨by decide +kernel, by decide +kernel, by decide, by decide, by decide +kernel⟩, by decide +kernel, by decide +kernel, by decide +kernel, .inr ⟨by decide +kernel, rfl⟩⟩
  · unfold mkS
    rw [if_neg z]
    refine ⟨N, ⟨?_, ?_, h0, by omega, ?_⟩, ?_, ?_, ?_, .inl ⟨0, 1, ?_, ?_, ?_, ?_, ?_, rfl⟩⟩ <;> rcases four h0 h1 with rfl | rfl | rfl | rfl <;> first | (exact absurd rfl z) | decide +kernel
theorem known_a (h0 : 0 < N) (h1 : N ≤ 4) : Known (aT N) (decide ((N : Int) = 1)) true (mkA N) := by
  by_cases z : N = 1
  · subst z
    exact ⟨1, ⟨by decide +kernel, by decide +kernel, by decide, by decide, by decide +kernel⟩, by decide +kernel, by decide +kernel, by decide +kernel, .inr ⟨by decide +kernel, rfl⟩⟩
  · unfold mkA
    rw [if_neg z]
    refine ⟨1, ⟨?_, ?_, by omega, by omega, ?_⟩, ?_, ?_, ?_, .inl ⟨0, 0, ?_, ?_, ?_, ?_, ?_, rfl⟩⟩ <;> rcases four h0 h1 with rfl | rfl | rfl | rfl <;> first | (exact absurd rfl z) | decide +kernel
abbrev KRow := Tab × Bool × Bool × D
abbrev kD (k : KRow) : D := .tup [tabD k.1, .bl k.2.1, .bl k.2.2.1]
def ks (N : Nat) : List KRow := [(fT N, false, decide ((N : Int) = 1), .non), (pT N, true, true, .non), (sT N, decide ((N : Int) = 1), true, mkS N), (aT N, decide ((N : Int) = 1), true, mkA N)]
theorem ks_known (h0 : 0 < N) (h1 : N ≤ 4) : ∀ k ∈ ks N, Known k.1 k.2.1 k.2.2.1 k.2.2.2 := by
  intro k hk
  simp only [ks, List.mem_cons, List.mem_nil_iff, or_false] at hk
  rcases hk with rfl | rfl | rfl | rfl
  · exact known_f h0 h1
  · exact known_p h0 h1
  · exact known_s h0 h1
  · exact known_a h0 h1
theorem isn_bl (a b : Bool) (h : Hh) : opCmp .IsNot (.val (.bl a)) (.val (.bl b)) h = .ok (.val (.bl (!decide (a = b)))) h := id rfl
theorem handed_tail (h0 : 0 < N) (h1 : N ≤ 4) {hh : Hh} {k1 : Nat} {x2 x3 : Option D} (e : hh[k1]? = some (.lst ((ks N).map kD))) (F : Fr [] h hh) :
    WpS (exSs (callF T (n + 3)) (dropSs 3 I__law_handed_on.body) [some (nD N), some (.ref k1), x2, x3, none, none, none] hh) (EndV h (.bl true)) := by
  simp only [I__law_handed_on, dropSs]
  simp only [evb, Bool.false_eq_true, Py.wipe, List.getElem?_cons_zero, List.getElem?_cons_succ, List.set_cons_zero, List.set_cons_succ, List.length_cons, List.length_nil, Nat.zero_add, Nat.reduceAdd, and_true, true_and, decide_eq_true_eq, ite_true, ite_false, Option.isSome_some, Bool.not_true, Bool.not_false, e]
  refine for_run (fun i st h' => h' = hh ∧ ∃ x4 x5 x6, st = [some (nD N), some (.ref k1), x2, x3, x4, x5, x6]) ⟨rfl, _, _, _, rfl⟩ ?_ ?_
  · rintro i d st h' ei ⟨rfl, x4, x5, x6, rfl⟩
    rw [List.getElem?_map] at ei
    obtain ⟨⟨t, a, b, mk⟩, ek, rfl⟩ := Option.map_eq_some_iff.mp ei
    have K : Known t a b mk := ks_known h0 h1 _ (List.mem_of_getElem? ek)
    obtain ⟨q, X⟩ := K.ttx
    refine ⟨still1 e, ?_⟩
    have e1 : ∀ h', callF T (n + 3) (Str.ofString "is_plain") [tabD t] h' = .ok (.bl a) h' := fun h' => K.plain (n := n + 1)
    have e2 : ∀ h', callF T (n + 3) (Str.ofString "is_meek") [tabD t] h' = .ok (.bl b) h' := fun h' => K.meek
    have e3 : ∀ h', callF T (n + 3) (Str.ofString "table_text") [tabD t] h' = .ok (.str (SX.S (tabC t))) h' := fun h' => tabtext_eq (n := n + 1) X
    have e4 : ∀ h', callF T (n + 3) (Str.ofString "read_table") [.str (SX.S (tabC t))] h' = .ok (tabD t) h' := fun h' => readtab_eq X
    have d1 : decide (true = false) = false := rfl
    cases a <;> cases b <;> simp only [evb, Bool.false_eq_true, Py.wipe, List.getElem?_cons_zero, List.getElem?_cons_succ, List.set_cons_zero, List.set_cons_succ, List.length_cons, List.length_nil, Nat.zero_add, Nat.reduceAdd, and_true, true_and, decide_eq_true_eq, ite_true, ite_false, Option.isSome_some, Bool.not_true, Bool.not_false, e1, e2, e3, e4, isn_bl, decide_true, decide_false, d1, Bool.not_true, Bool.not_false, ne_tab] <;> exact ⟨_, _, _, rfl⟩
  · rintro st h' ⟨rfl, x4, x5, x6, rfl⟩
    refine ⟨still1 e, ?_⟩
    simp only [evb, Bool.false_eq_true, Py.wipe, List.getElem?_cons_zero, List.getElem?_cons_succ, List.set_cons_zero, List.set_cons_succ, List.length_cons, List.length_nil, Nat.zero_add, Nat.reduceAdd, and_true, true_and, decide_eq_true_eq, ite_true, ite_false, Option.isSome_some, Bool.not_true, Bool.not_false]
    exact F
theorem handed_eq (h0 : 0 < N) (h1 : N ≤ 4) : callF T (n + 4) "_law_handed_on" [nD N] h = .ok (.bl true) h := by
  refine call_pure T__law_handed_on rfl rfl ?_
  show WpS (exSs _ I__law_handed_on.body [some (nD N), none, none, none, none, none, none] h) _
  have tail := @handed_tail n N h h0 h1
  simp only [I__law_handed_on, dropSs] at tail ⊢
  have e1 : ∀ h', callF T (n + 3) (Str.ofString "first") [nD N] h' = .ok (tabD (fT N)) h' := fun h' => first_eq h0 h1
  have e2 : ∀ h', callF T (n + 3) (Str.ofString "plain") [nD N] h' = .ok (tabD (pT N)) h' := fun h' => plainT_eq h0 h1
  have e3 : ∀ h', callF T (n + 3) (Str.ofString "swap") [nD N] h' = .ok (tabD (sT N)) h' := fun h' => swapT_eq h0 h1
  have e4 : ∀ h', callF T (n + 3) (Str.ofString "add") [nD N] h' = .ok (tabD (aT N)) h' := fun h' => addT_eq h0 h1
  simp only [evb, Bool.false_eq_true, Py.wipe, List.getElem?_cons_zero, List.getElem?_cons_succ, List.set_cons_zero, List.set_cons_succ, List.length_cons, List.length_nil, Nat.zero_add, Nat.reduceAdd, and_true, true_and, decide_eq_true_eq, ite_true, ite_false, Option.isSome_some, Bool.not_true, Bool.not_false, e1, e2, e3, e4]
  have ea : (h ++ [Py.O.lst [D.tup [tabD (fT N), .bl false, .bl (decide ((N : Int) = 1))], D.tup [tabD (pT N), .bl true, .bl true], D.tup [tabD (sT N), .bl (decide ((N : Int) = 1)), .bl true], D.tup [tabD (aT N), .bl (decide ((N : Int) = 1)), .bl true]]])[h.length]? = some (.lst ((ks N).map kD)) := push_at
  have Fa : Fr [] h (h ++ [Py.O.lst [D.tup [tabD (fT N), .bl false, .bl (decide ((N : Int) = 1))], D.tup [tabD (pT N), .bl true, .bl true], D.tup [tabD (sT N), .bl (decide ((N : Int) = 1)), .bl true], D.tup [tabD (aT N), .bl (decide ((N : Int) = 1)), .bl true]]]) := Fr.refl.push
  generalize h ++ [Py.O.lst [D.tup [tabD (fT N), .bl false, .bl (decide ((N : Int) = 1))], D.tup [tabD (pT N), .bl true, .bl true], D.tup [tabD (sT N), .bl (decide ((N : Int) = 1)), .bl true], D.tup [tabD (aT N), .bl (decide ((N : Int) = 1)), .bl true]]] = hh at ea Fa ⊢
  refine ⟨by decide, by decide, by decide, by decide, by decide, ?_⟩
  refine lc_of (xs := ks N) (g := kD) (fun k => k.2.2.2) (still1 ea) (by show 4 ≤ 1000; decide) (fun k hk => ?_) ?_
  · have em : ∀ h', callF T (n + 3) (Str.ofString "mark") [tabD k.1] h' = .ok k.2.2.2 h' := fun h' => (ks_known h0 h1 k hk).mark (n := n + 1)
    simp only [evb, Bool.false_eq_true, Py.wipe, List.getElem?_cons_zero, List.getElem?_cons_succ, List.set_cons_zero, List.set_cons_succ, List.length_cons, List.length_nil, Nat.zero_add, Nat.reduceAdd, and_true, true_and, decide_eq_true_eq, ite_true, ite_false, Option.isSome_some, Bool.not_true, Bool.not_false, em]
  simp only [evb, Bool.false_eq_true, Py.wipe, List.getElem?_cons_zero, List.getElem?_cons_succ, List.set_cons_zero, List.set_cons_succ, List.length_cons, List.length_nil, Nat.zero_add, Nat.reduceAdd, and_true, true_and, decide_eq_true_eq, ite_true, ite_false, Option.isSome_some, Bool.not_true, Bool.not_false]
  have eb : (hh ++ [Py.O.lst ((ks N).map fun k => k.2.2.2)])[hh.length]? = some (.lst ((ks N).map fun k => k.2.2.2)) := push_at
  have ea2 := ga (x := [Py.O.lst ((ks N).map fun k => k.2.2.2)]) ea
  have Fb : Fr [] h (hh ++ [Py.O.lst ((ks N).map fun k => k.2.2.2)]) := Fa.push
  generalize hh ++ [Py.O.lst ((ks N).map fun k => k.2.2.2)] = h3 at eb ea2 Fb ⊢
  have k1 : isDs 30 ((ks N).map fun k => k.2.2.2) = true := by
    rcases four h0 h1 with rfl | rfl | rfl | rfl <;> rfl
  have nq : ∀ x y : D, D.non :: D.non :: x :: y :: [] = (ks N).map (fun k => k.2.2.2) → opCmp .NotEq (.val (.ref hh.length)) (.raw [.non, .non, x, y]) h3 = .ok (.val (.bl false)) h3 := fun x y exy => by
    rw [ne_listD (LsD.ref eb) LsD.raw k1 (by rw [exy]; exact k1), exy, decide_eq_true rfl]
    rfl
  by_cases z : N = 1
  · have g : (if (1 : Int) < (N : Int) then (1 : Int) else 0) = 0 := if_neg (by omega)
    have w := nq .non .non (by subst z; rfl)
    have a0 : ∀ x : D, L2.atI [D.non, x] 0 = some D.non := fun x => rfl
    rw [g]
    refine ⟨by decide, by decide, ?_⟩
    simp only [evb, Bool.false_eq_true, Py.wipe, List.getElem?_cons_zero, List.getElem?_cons_succ, List.set_cons_zero, List.set_cons_succ, List.length_cons, List.length_nil, Nat.zero_add, Nat.reduceAdd, and_true, true_and, decide_eq_true_eq, ite_true, ite_false, Option.isSome_some, Bool.not_true, Bool.not_false, g, a0, w]
    refine ⟨by decide, by decide, by decide, ?_⟩
    have z2 := tail (x2 := some (.ref hh.length)) (x3 := none) ea2 Fb
    simp only [evb, Bool.false_eq_true, Py.wipe, List.getElem?_cons_zero, List.getElem?_cons_succ, List.set_cons_zero, List.set_cons_succ, List.length_cons, List.length_nil, Nat.zero_add, Nat.reduceAdd, and_true, true_and, decide_eq_true_eq, ite_true, ite_false, Option.isSome_some, Bool.not_true, Bool.not_false] at z2
    exact z2
  · have g : (if (1 : Int) < (N : Int) then (1 : Int) else 0) = 1 := if_pos (by omega)
    have w := nq (.tup [.int 0, .int 1]) (.tup [.int 0, .int 0]) (by
      show _ = [D.non, .non, mkS N, mkA N]
      unfold mkS mkA
      rw [if_neg z, if_neg z]
      rfl)
    have a1 : ∀ x : D, L2.atI [D.non, x] 1 = some x := fun x => rfl
    rw [g]
    refine ⟨by decide, by decide, ?_⟩
    simp only [evb, Bool.false_eq_true, Py.wipe, List.getElem?_cons_zero, List.getElem?_cons_succ, List.set_cons_zero, List.set_cons_succ, List.length_cons, List.length_nil, Nat.zero_add, Nat.reduceAdd, and_true, true_and, decide_eq_true_eq, ite_true, ite_false, Option.isSome_some, Bool.not_true, Bool.not_false, g, a1, w]
    refine ⟨by decide, by decide, by decide, ?_⟩
    have z2 := tail (x2 := some (.ref hh.length)) (x3 := none) ea2 Fb
    simp only [evb, Bool.false_eq_true, Py.wipe, List.getElem?_cons_zero, List.getElem?_cons_succ, List.set_cons_zero, List.set_cons_succ, List.length_cons, List.length_nil, Nat.zero_add, Nat.reduceAdd, and_true, true_and, decide_eq_true_eq, ite_true, ite_false, Option.isSome_some, Bool.not_true, Bool.not_false] at z2
    exact z2
theorem plain0 (ns : List Int) (hl : ns.length ≤ 63) : ∃ h', callF T 5 "law" [.rl (ns.map D.int)] [] = .ok (.bl true) h' := by
  have w : Wp (callF T 5 "law" [.rl (ns.map D.int)] []) fun d h' => d = .bl true := by
    refine call_of T_law rfl ?_
    show WpS (exSs _ I_law.body [some (.rl (ns.map D.int)), none, none, none] []) _
    simp only [I_law]
    simp only [evb, Bool.false_eq_true, Py.wipe, List.getElem?_cons_zero, List.getElem?_cons_succ, List.set_cons_zero, List.set_cons_succ, List.length_cons, List.length_nil, Nat.zero_add, Nat.reduceAdd, and_true, true_and, decide_eq_true_eq, ite_true, ite_false, Option.isSome_some, Bool.not_true, Bool.not_false]
    refine (deal_wp hl).mono ?_
    rintro _ h1 ⟨F1, k, m, rfl, gk, gm, P1⟩
    simp only [evb, Bool.false_eq_true, Py.wipe, List.getElem?_cons_zero, List.getElem?_cons_succ, List.set_cons_zero, List.set_cons_succ, List.length_cons, List.length_nil, Nat.zero_add, Nat.reduceAdd, and_true, true_and, decide_eq_true_eq, ite_true, ite_false, Option.isSome_some, Bool.not_true, Bool.not_false]
    refine (draw_c 4 P1 (by decide) (by decide) rfl).mono ?_
    rintro _ h2 ⟨F2, l2, P2, a, rfl, ha⟩
    have ea : (1 : Int) + (a : Int) = ((a + 1 : Nat) : Int) := by omega
    simp only [evb, Bool.false_eq_true, Py.wipe, List.getElem?_cons_zero, List.getElem?_cons_succ, List.set_cons_zero, List.set_cons_succ, List.length_cons, List.length_nil, Nat.zero_add, Nat.reduceAdd, and_true, true_and, decide_eq_true_eq, ite_true, ite_false, Option.isSome_some, Bool.not_true, Bool.not_false, ea]
    refine (draw_c 4 P2 (by decide) (by decide) rfl).mono ?_
    rintro _ h3 ⟨F3, l3, P3, b, rfl, hb⟩
    have eb : (1 : Int) + (b : Int) = ((b + 1 : Nat) : Int) := by omega
    have r1 : ∀ c h', c < 4 → callF T 4 (Str.ofString "_law_right") [nD (c + 1)] h' = .ok (.bl true) h' := fun c h' hc => lright_eq (n := 2) (by omega) (by omega)
    have r2 : ∀ c h', c < 4 → callF T 4 (Str.ofString "_law_handed_on") [nD (c + 1)] h' = .ok (.bl true) h' := fun c h' hc => handed_eq (n := 0) (by omega) (by omega)
    have ra := fun h' => r1 a h' ha
    have rb := fun h' => r1 b h' hb
    have sa := fun h' => r2 a h' ha
    have sb := fun h' => r2 b h' hb
    simp only [evb, Bool.false_eq_true, Py.wipe, List.getElem?_cons_zero, List.getElem?_cons_succ, List.set_cons_zero, List.set_cons_succ, List.length_cons, List.length_nil, Nat.zero_add, Nat.reduceAdd, and_true, true_and, decide_eq_true_eq, ite_true, ite_false, Option.isSome_some, Bool.not_true, Bool.not_false, eb, ra, rb, sa, sb]
    exact gc_end (h := []) (Q := fun d _ => d = D.bl true) ⟨Nat.zero_le _, fun i hi => absurd hi (Nat.not_lt_zero _)⟩ rfl rfl
  obtain ⟨d, h', e, rfl⟩ := w.get
  exact ⟨h', e⟩
end
end LawP
namespace LawP
open PySem PySem.Spec PyProof.Rows L2
def LV : Nat := 5
theorem plain (ns : List Int) (hl : ns.length ≤ 63) : ∃ h', Py.callF T LV "law" [.rl (ns.map Py.D.int)] [] = .ok (.bl true) h' := plain0 ns hl
/-! the text against its IR -/
def topS (i : Nat) : Stmt := PySem.Challenge.pw_pactboards_k54_known_tables.main.body.getD i (.Pass ⟨0, 0, 0, 0⟩)
abbrev s_next_state : Stmt := topS 4
theorem look_next_state : Py.chkD FF BB (Py.kwB KK) XcS FdS RaS N_next_state I_next_state s_next_state = true := by decide +kernel
abbrev s_answer : Stmt := topS 5
theorem look_answer : Py.chkD FF BB (Py.kwB KK) XcS FdS RaS N_answer I_answer s_answer = true := by decide +kernel
abbrev s_is_look : Stmt := topS 6
theorem look_is_look : Py.chkD FF BB (Py.kwB KK) XcS FdS RaS N_is_look I_is_look s_is_look = true := by decide +kernel
abbrev s_is_laying : Stmt := topS 7
theorem look_is_laying : Py.chkD FF BB (Py.kwB KK) XcS FdS RaS N_is_laying I_is_laying s_is_laying = true := by decide +kernel
abbrev s_is_plain : Stmt := topS 8
theorem look_is_plain : Py.chkD FF BB (Py.kwB KK) XcS FdS RaS N_is_plain I_is_plain s_is_plain = true := by decide +kernel
abbrev s_meek_at : Stmt := topS 9
theorem look_meek_at : Py.chkD FF BB (Py.kwB KK) XcS FdS RaS N_meek_at I_meek_at s_meek_at = true := by decide +kernel
abbrev s_is_meek : Stmt := topS 10
theorem look_is_meek : Py.chkD FF BB (Py.kwB KK) XcS FdS RaS N_is_meek I_is_meek s_is_meek = true := by decide +kernel
abbrev s_first : Stmt := topS 12
theorem look_first : Py.chkD FF BB (Py.kwB KK) XcS FdS RaS N_first I_first s_first = true := by decide +kernel
abbrev s_plain : Stmt := topS 13
theorem look_plain : Py.chkD FF BB (Py.kwB KK) XcS FdS RaS N_plain I_plain s_plain = true := by decide +kernel
abbrev s_swap : Stmt := topS 14
theorem look_swap : Py.chkD FF BB (Py.kwB KK) XcS FdS RaS N_swap I_swap s_swap = true := by decide +kernel
abbrev s_add : Stmt := topS 15
theorem look_add : Py.chkD FF BB (Py.kwB KK) XcS FdS RaS N_add I_add s_add = true := by decide +kernel
abbrev s_mark : Stmt := topS 16
theorem look_mark : Py.chkD FF BB (Py.kwB KK) XcS FdS RaS N_mark I_mark s_mark = true := by decide +kernel
abbrev s_is_number : Stmt := topS 19
theorem look_is_number : Py.chkD FF BB (Py.kwB KK) XcS FdS RaS N_is_number I_is_number s_is_number = true := by decide +kernel
abbrev s_row_text : Stmt := topS 20
theorem look_row_text : Py.chkD FF BB (Py.kwB KK) XcS FdS RaS N_row_text I_row_text s_row_text = true := by decide +kernel
abbrev s_table_text : Stmt := topS 21
theorem look_table_text : Py.chkD FF BB (Py.kwB KK) XcS FdS RaS N_table_text I_table_text s_table_text = true := by decide +kernel
abbrev s_read_pair : Stmt := topS 22
theorem look_read_pair : Py.chkD FF BB (Py.kwB KK) XcS FdS RaS N_read_pair I_read_pair s_read_pair = true := by decide +kernel
abbrev s_read_table : Stmt := topS 23
theorem look_read_table : Py.chkD FF BB (Py.kwB KK) XcS FdS RaS N_read_table I_read_table s_read_table = true := by decide +kernel
abbrev s__law_deal : Stmt := topS 25
theorem look__law_deal : Py.chkD FF BB (Py.kwB KK) XcS FdS RaS N__law_deal I__law_deal s__law_deal = true := by decide +kernel
abbrev s__law_draw : Stmt := topS 26
theorem look__law_draw : Py.chkD FF BB (Py.kwB KK) XcS FdS RaS N__law_draw I__law_draw s__law_draw = true := by decide +kernel
abbrev s__law_first : Stmt := topS 27
theorem look__law_first : Py.chkD FF BB (Py.kwB KK) XcS FdS RaS N__law_first I__law_first s__law_first = true := by decide +kernel
abbrev s__law_plain : Stmt := topS 28
theorem look__law_plain : Py.chkD FF BB (Py.kwB KK) XcS FdS RaS N__law_plain I__law_plain s__law_plain = true := by decide +kernel
abbrev s__law_swap : Stmt := topS 29
theorem look__law_swap : Py.chkD FF BB (Py.kwB KK) XcS FdS RaS N__law_swap I__law_swap s__law_swap = true := by decide +kernel
abbrev s__law_add : Stmt := topS 30
theorem look__law_add : Py.chkD FF BB (Py.kwB KK) XcS FdS RaS N__law_add I__law_add s__law_add = true := by decide +kernel
abbrev s__law_right : Stmt := topS 31
theorem look__law_right : Py.chkD FF BB (Py.kwB KK) XcS FdS RaS N__law_right I__law_right s__law_right = true := by decide +kernel
abbrev s__law_handed_on : Stmt := topS 32
theorem look__law_handed_on : Py.chkD FF BB (Py.kwB KK) XcS FdS RaS N__law_handed_on I__law_handed_on s__law_handed_on = true := by decide +kernel
abbrev s_law : Stmt := topS 33
theorem look_law : Py.chkD FF BB (Py.kwB KK) XcS FdS RaS N_law I_law s_law = true := by decide +kernel
theorem all_mk {w : World} {K : PySem.W.Frag} {h : Heap} {mg : Str → Option Value} {fa : Addr} (X : K.In h) (G : h.Ns mainGlobals mg) (hfa : mg "law" = some (.ref fa))
    {od0 an0 : Option Addr} {sl0 : Array (Option Value)} {oc0 kV0 dc0 pm0 cd0 ct0 : Value} {f0 : Addr}
    (a0 : PySem.W.nsIn K mainGlobals "next_state" = some (some (.ref f0))) (l0 : K.lookup f0 = some ⟨oc0, od0, .func (PySem.W.fnOf "next_state" "next_state" (defArgs s_next_state) (defBody s_next_state) (defScope s_next_state) .none kV0 dc0 pm0 an0 cd0 ct0), sl0⟩) (c0 : PySem.W.codeIn K cd0 "next_state" = true) (k0 : PySem.W.keepIn K (.ref f0) = true)
    {od1 an1 : Option Addr} {sl1 : Array (Option Value)} {oc1 kV1 dc1 pm1 cd1 ct1 : Value} {f1 : Addr}
    (a1 : PySem.W.nsIn K mainGlobals "answer" = some (some (.ref f1))) (l1 : K.lookup f1 = some ⟨oc1, od1, .func (PySem.W.fnOf "answer" "answer" (defArgs s_answer) (defBody s_answer) (defScope s_answer) .none kV1 dc1 pm1 an1 cd1 ct1), sl1⟩) (c1 : PySem.W.codeIn K cd1 "answer" = true) (k1 : PySem.W.keepIn K (.ref f1) = true)
    {od2 an2 : Option Addr} {sl2 : Array (Option Value)} {oc2 kV2 dc2 pm2 cd2 ct2 : Value} {f2 : Addr}
    (a2 : PySem.W.nsIn K mainGlobals "is_look" = some (some (.ref f2))) (l2 : K.lookup f2 = some ⟨oc2, od2, .func (PySem.W.fnOf "is_look" "is_look" (defArgs s_is_look) (defBody s_is_look) (defScope s_is_look) .none kV2 dc2 pm2 an2 cd2 ct2), sl2⟩) (c2 : PySem.W.codeIn K cd2 "is_look" = true) (k2 : PySem.W.keepIn K (.ref f2) = true)
    {od3 an3 : Option Addr} {sl3 : Array (Option Value)} {oc3 kV3 dc3 pm3 cd3 ct3 : Value} {f3 : Addr}
    (a3 : PySem.W.nsIn K mainGlobals "is_laying" = some (some (.ref f3))) (l3 : K.lookup f3 = some ⟨oc3, od3, .func (PySem.W.fnOf "is_laying" "is_laying" (defArgs s_is_laying) (defBody s_is_laying) (defScope s_is_laying) .none kV3 dc3 pm3 an3 cd3 ct3), sl3⟩) (c3 : PySem.W.codeIn K cd3 "is_laying" = true) (k3 : PySem.W.keepIn K (.ref f3) = true)
    {od4 an4 : Option Addr} {sl4 : Array (Option Value)} {oc4 kV4 dc4 pm4 cd4 ct4 : Value} {f4 : Addr}
    (a4 : PySem.W.nsIn K mainGlobals "is_plain" = some (some (.ref f4))) (l4 : K.lookup f4 = some ⟨oc4, od4, .func (PySem.W.fnOf "is_plain" "is_plain" (defArgs s_is_plain) (defBody s_is_plain) (defScope s_is_plain) .none kV4 dc4 pm4 an4 cd4 ct4), sl4⟩) (c4 : PySem.W.codeIn K cd4 "is_plain" = true) (k4 : PySem.W.keepIn K (.ref f4) = true)
    {od5 an5 : Option Addr} {sl5 : Array (Option Value)} {oc5 kV5 dc5 pm5 cd5 ct5 : Value} {f5 : Addr}
    (a5 : PySem.W.nsIn K mainGlobals "meek_at" = some (some (.ref f5))) (l5 : K.lookup f5 = some ⟨oc5, od5, .func (PySem.W.fnOf "meek_at" "meek_at" (defArgs s_meek_at) (defBody s_meek_at) (defScope s_meek_at) .none kV5 dc5 pm5 an5 cd5 ct5), sl5⟩) (c5 : PySem.W.codeIn K cd5 "meek_at" = true) (k5 : PySem.W.keepIn K (.ref f5) = true)
    {od6 an6 : Option Addr} {sl6 : Array (Option Value)} {oc6 kV6 dc6 pm6 cd6 ct6 : Value} {f6 : Addr}
    (a6 : PySem.W.nsIn K mainGlobals "is_meek" = some (some (.ref f6))) (l6 : K.lookup f6 = some ⟨oc6, od6, .func (PySem.W.fnOf "is_meek" "is_meek" (defArgs s_is_meek) (defBody s_is_meek) (defScope s_is_meek) .none kV6 dc6 pm6 an6 cd6 ct6), sl6⟩) (c6 : PySem.W.codeIn K cd6 "is_meek" = true) (k6 : PySem.W.keepIn K (.ref f6) = true)
    {od7 an7 : Option Addr} {sl7 : Array (Option Value)} {oc7 kV7 dc7 pm7 cd7 ct7 : Value} {f7 : Addr}
    (a7 : PySem.W.nsIn K mainGlobals "first" = some (some (.ref f7))) (l7 : K.lookup f7 = some ⟨oc7, od7, .func (PySem.W.fnOf "first" "first" (defArgs s_first) (defBody s_first) (defScope s_first) .none kV7 dc7 pm7 an7 cd7 ct7), sl7⟩) (c7 : PySem.W.codeIn K cd7 "first" = true) (k7 : PySem.W.keepIn K (.ref f7) = true)
    {od8 an8 : Option Addr} {sl8 : Array (Option Value)} {oc8 kV8 dc8 pm8 cd8 ct8 : Value} {f8 : Addr}
    (a8 : PySem.W.nsIn K mainGlobals "plain" = some (some (.ref f8))) (l8 : K.lookup f8 = some ⟨oc8, od8, .func (PySem.W.fnOf "plain" "plain" (defArgs s_plain) (defBody s_plain) (defScope s_plain) .none kV8 dc8 pm8 an8 cd8 ct8), sl8⟩) (c8 : PySem.W.codeIn K cd8 "plain" = true) (k8 : PySem.W.keepIn K (.ref f8) = true)
    {od9 an9 : Option Addr} {sl9 : Array (Option Value)} {oc9 kV9 dc9 pm9 cd9 ct9 : Value} {f9 : Addr}
    (a9 : PySem.W.nsIn K mainGlobals "swap" = some (some (.ref f9))) (l9 : K.lookup f9 = some ⟨oc9, od9, .func (PySem.W.fnOf "swap" "swap" (defArgs s_swap) (defBody s_swap) (defScope s_swap) .none kV9 dc9 pm9 an9 cd9 ct9), sl9⟩) (c9 : PySem.W.codeIn K cd9 "swap" = true) (k9 : PySem.W.keepIn K (.ref f9) = true)
    {od10 an10 : Option Addr} {sl10 : Array (Option Value)} {oc10 kV10 dc10 pm10 cd10 ct10 : Value} {f10 : Addr}
    (a10 : PySem.W.nsIn K mainGlobals "add" = some (some (.ref f10))) (l10 : K.lookup f10 = some ⟨oc10, od10, .func (PySem.W.fnOf "add" "add" (defArgs s_add) (defBody s_add) (defScope s_add) .none kV10 dc10 pm10 an10 cd10 ct10), sl10⟩) (c10 : PySem.W.codeIn K cd10 "add" = true) (k10 : PySem.W.keepIn K (.ref f10) = true)
    {od11 an11 : Option Addr} {sl11 : Array (Option Value)} {oc11 kV11 dc11 pm11 cd11 ct11 : Value} {f11 : Addr}
    (a11 : PySem.W.nsIn K mainGlobals "mark" = some (some (.ref f11))) (l11 : K.lookup f11 = some ⟨oc11, od11, .func (PySem.W.fnOf "mark" "mark" (defArgs s_mark) (defBody s_mark) (defScope s_mark) .none kV11 dc11 pm11 an11 cd11 ct11), sl11⟩) (c11 : PySem.W.codeIn K cd11 "mark" = true) (k11 : PySem.W.keepIn K (.ref f11) = true)
    {od12 an12 : Option Addr} {sl12 : Array (Option Value)} {oc12 kV12 dc12 pm12 cd12 ct12 : Value} {f12 : Addr}
    (a12 : PySem.W.nsIn K mainGlobals "is_number" = some (some (.ref f12))) (l12 : K.lookup f12 = some ⟨oc12, od12, .func (PySem.W.fnOf "is_number" "is_number" (defArgs s_is_number) (defBody s_is_number) (defScope s_is_number) .none kV12 dc12 pm12 an12 cd12 ct12), sl12⟩) (c12 : PySem.W.codeIn K cd12 "is_number" = true) (k12 : PySem.W.keepIn K (.ref f12) = true)
    {od13 an13 : Option Addr} {sl13 : Array (Option Value)} {oc13 kV13 dc13 pm13 cd13 ct13 : Value} {f13 : Addr}
    (a13 : PySem.W.nsIn K mainGlobals "row_text" = some (some (.ref f13))) (l13 : K.lookup f13 = some ⟨oc13, od13, .func (PySem.W.fnOf "row_text" "row_text" (defArgs s_row_text) (defBody s_row_text) (defScope s_row_text) .none kV13 dc13 pm13 an13 cd13 ct13), sl13⟩) (c13 : PySem.W.codeIn K cd13 "row_text" = true) (k13 : PySem.W.keepIn K (.ref f13) = true)
    {od14 an14 : Option Addr} {sl14 : Array (Option Value)} {oc14 kV14 dc14 pm14 cd14 ct14 : Value} {f14 : Addr}
    (a14 : PySem.W.nsIn K mainGlobals "table_text" = some (some (.ref f14))) (l14 : K.lookup f14 = some ⟨oc14, od14, .func (PySem.W.fnOf "table_text" "table_text" (defArgs s_table_text) (defBody s_table_text) (defScope s_table_text) .none kV14 dc14 pm14 an14 cd14 ct14), sl14⟩) (c14 : PySem.W.codeIn K cd14 "table_text" = true) (k14 : PySem.W.keepIn K (.ref f14) = true)
    {od15 an15 : Option Addr} {sl15 : Array (Option Value)} {oc15 kV15 dc15 pm15 cd15 ct15 : Value} {f15 : Addr}
    (a15 : PySem.W.nsIn K mainGlobals "read_pair" = some (some (.ref f15))) (l15 : K.lookup f15 = some ⟨oc15, od15, .func (PySem.W.fnOf "read_pair" "read_pair" (defArgs s_read_pair) (defBody s_read_pair) (defScope s_read_pair) .none kV15 dc15 pm15 an15 cd15 ct15), sl15⟩) (c15 : PySem.W.codeIn K cd15 "read_pair" = true) (k15 : PySem.W.keepIn K (.ref f15) = true)
    {od16 an16 : Option Addr} {sl16 : Array (Option Value)} {oc16 kV16 dc16 pm16 cd16 ct16 : Value} {f16 : Addr}
    (a16 : PySem.W.nsIn K mainGlobals "read_table" = some (some (.ref f16))) (l16 : K.lookup f16 = some ⟨oc16, od16, .func (PySem.W.fnOf "read_table" "read_table" (defArgs s_read_table) (defBody s_read_table) (defScope s_read_table) .none kV16 dc16 pm16 an16 cd16 ct16), sl16⟩) (c16 : PySem.W.codeIn K cd16 "read_table" = true) (k16 : PySem.W.keepIn K (.ref f16) = true)
    {od17 an17 : Option Addr} {sl17 : Array (Option Value)} {oc17 kV17 dc17 pm17 cd17 ct17 : Value} {f17 : Addr}
    (a17 : PySem.W.nsIn K mainGlobals "_law_deal" = some (some (.ref f17))) (l17 : K.lookup f17 = some ⟨oc17, od17, .func (PySem.W.fnOf "_law_deal" "_law_deal" (defArgs s__law_deal) (defBody s__law_deal) (defScope s__law_deal) .none kV17 dc17 pm17 an17 cd17 ct17), sl17⟩) (c17 : PySem.W.codeIn K cd17 "_law_deal" = true) (k17 : PySem.W.keepIn K (.ref f17) = true)
    {od18 an18 : Option Addr} {sl18 : Array (Option Value)} {oc18 kV18 dc18 pm18 cd18 ct18 : Value} {f18 : Addr}
    (a18 : PySem.W.nsIn K mainGlobals "_law_draw" = some (some (.ref f18))) (l18 : K.lookup f18 = some ⟨oc18, od18, .func (PySem.W.fnOf "_law_draw" "_law_draw" (defArgs s__law_draw) (defBody s__law_draw) (defScope s__law_draw) .none kV18 dc18 pm18 an18 cd18 ct18), sl18⟩) (c18 : PySem.W.codeIn K cd18 "_law_draw" = true) (k18 : PySem.W.keepIn K (.ref f18) = true)
    {od19 an19 : Option Addr} {sl19 : Array (Option Value)} {oc19 kV19 dc19 pm19 cd19 ct19 : Value} {f19 : Addr}
    (a19 : PySem.W.nsIn K mainGlobals "_law_first" = some (some (.ref f19))) (l19 : K.lookup f19 = some ⟨oc19, od19, .func (PySem.W.fnOf "_law_first" "_law_first" (defArgs s__law_first) (defBody s__law_first) (defScope s__law_first) .none kV19 dc19 pm19 an19 cd19 ct19), sl19⟩) (c19 : PySem.W.codeIn K cd19 "_law_first" = true) (k19 : PySem.W.keepIn K (.ref f19) = true)
    {od20 an20 : Option Addr} {sl20 : Array (Option Value)} {oc20 kV20 dc20 pm20 cd20 ct20 : Value} {f20 : Addr}
    (a20 : PySem.W.nsIn K mainGlobals "_law_plain" = some (some (.ref f20))) (l20 : K.lookup f20 = some ⟨oc20, od20, .func (PySem.W.fnOf "_law_plain" "_law_plain" (defArgs s__law_plain) (defBody s__law_plain) (defScope s__law_plain) .none kV20 dc20 pm20 an20 cd20 ct20), sl20⟩) (c20 : PySem.W.codeIn K cd20 "_law_plain" = true) (k20 : PySem.W.keepIn K (.ref f20) = true)
    {od21 an21 : Option Addr} {sl21 : Array (Option Value)} {oc21 kV21 dc21 pm21 cd21 ct21 : Value} {f21 : Addr}
    (a21 : PySem.W.nsIn K mainGlobals "_law_swap" = some (some (.ref f21))) (l21 : K.lookup f21 = some ⟨oc21, od21, .func (PySem.W.fnOf "_law_swap" "_law_swap" (defArgs s__law_swap) (defBody s__law_swap) (defScope s__law_swap) .none kV21 dc21 pm21 an21 cd21 ct21), sl21⟩) (c21 : PySem.W.codeIn K cd21 "_law_swap" = true) (k21 : PySem.W.keepIn K (.ref f21) = true)
    {od22 an22 : Option Addr} {sl22 : Array (Option Value)} {oc22 kV22 dc22 pm22 cd22 ct22 : Value} {f22 : Addr}
    (a22 : PySem.W.nsIn K mainGlobals "_law_add" = some (some (.ref f22))) (l22 : K.lookup f22 = some ⟨oc22, od22, .func (PySem.W.fnOf "_law_add" "_law_add" (defArgs s__law_add) (defBody s__law_add) (defScope s__law_add) .none kV22 dc22 pm22 an22 cd22 ct22), sl22⟩) (c22 : PySem.W.codeIn K cd22 "_law_add" = true) (k22 : PySem.W.keepIn K (.ref f22) = true)
    {od23 an23 : Option Addr} {sl23 : Array (Option Value)} {oc23 kV23 dc23 pm23 cd23 ct23 : Value} {f23 : Addr}
    (a23 : PySem.W.nsIn K mainGlobals "_law_right" = some (some (.ref f23))) (l23 : K.lookup f23 = some ⟨oc23, od23, .func (PySem.W.fnOf "_law_right" "_law_right" (defArgs s__law_right) (defBody s__law_right) (defScope s__law_right) .none kV23 dc23 pm23 an23 cd23 ct23), sl23⟩) (c23 : PySem.W.codeIn K cd23 "_law_right" = true) (k23 : PySem.W.keepIn K (.ref f23) = true)
    {od24 an24 : Option Addr} {sl24 : Array (Option Value)} {oc24 kV24 dc24 pm24 cd24 ct24 : Value} {f24 : Addr}
    (a24 : PySem.W.nsIn K mainGlobals "_law_handed_on" = some (some (.ref f24))) (l24 : K.lookup f24 = some ⟨oc24, od24, .func (PySem.W.fnOf "_law_handed_on" "_law_handed_on" (defArgs s__law_handed_on) (defBody s__law_handed_on) (defScope s__law_handed_on) .none kV24 dc24 pm24 an24 cd24 ct24), sl24⟩) (c24 : PySem.W.codeIn K cd24 "_law_handed_on" = true) (k24 : PySem.W.keepIn K (.ref f24) = true)
    {od25 an25 : Option Addr} {sl25 : Array (Option Value)} {oc25 kV25 dc25 pm25 cd25 ct25 : Value} {f25 : Addr}
    (a25 : PySem.W.nsIn K mainGlobals "law" = some (some (.ref f25))) (l25 : K.lookup f25 = some ⟨oc25, od25, .func (PySem.W.fnOf "law" "law" (defArgs s_law) (defBody s_law) (defScope s_law) .none kV25 dc25 pm25 an25 cd25 ct25), sl25⟩) (c25 : PySem.W.codeIn K cd25 "law" = true) (k25 : PySem.W.keepIn K (.ref f25) = true)
    {tkG0 : Tok} (z0 : PySem.W.nsIn K mainGlobals "FIGURES" = some (some (.str "0123456789" tkG0)))
    (z1 : PySem.W.nsIn K mainGlobals "all" = some none)
    (z2 : PySem.W.nsIn K mainGlobals "enumerate" = some none)
    (z3 : PySem.W.nsIn K mainGlobals "int" = some none)
    (z4 : PySem.W.nsIn K mainGlobals "len" = some none)
    (z5 : PySem.W.nsIn K mainGlobals "list" = some none)
    (z6 : PySem.W.nsIn K mainGlobals "max" = some none)
    (z7 : PySem.W.nsIn K mainGlobals "range" = some none)
    (z8 : PySem.W.nsIn K mainGlobals "reversed" = some none)
    (z9 : PySem.W.nsIn K mainGlobals "str" = some none)
    (z10 : PySem.W.nsIn K mainGlobals "tuple" = some none) :
    ∃ fd : FuncData, (∀ (s : Shared) (v : Value), BindsTo s fd ⟨[v], []⟩ [("_law_script", v)]) ∧ ∀ base : Heap, K.In base → base.Ns mainGlobals mg → FnOk PySem.Challenge.pw_pactboards_k54_known_tables w K mg base (L2.CX PySem.Challenge.pw_pactboards_k54_known_tables w) (LV + 2) fa fd ["_law_script"] (Py.spF K (Py.callF T LV) "law" 1) := by
  have e := hfa.symm.trans (PySem.W.mg_of X G a25)
  cases e
  refine ⟨PySem.W.fnOf "law" "law" (defArgs s_law) (defBody s_law) (defScope s_law) .none kV25 dc25 pm25 an25 cd25 ct25, fun s v => .of_eq rfl, fun base KB GB => ?_⟩
  have F0 := Py.funv_mk (st := s_next_state) l0 c0 k0
  have b0 := Py.bind_none (fn := I_next_state) rfl (Py.binds0 F0 (ps := Py.prmsOf s_next_state) fun _ _ _ _ _ _ us hl => match us, hl with | [_, _, _], _ => rfl)
  have D0 : Py.DOk K mg base [] T FF BB (Py.kwB KK) XcS FdS RaS "next_state" I_next_state s_next_state N_next_state _ _ := ⟨by decide +kernel, ⟨_, _, F0, .inl rfl⟩, PySem.W.mg_of X G a0, b0, Py.kw_all (l := []) (by decide +kernel) trivial, Py.look0 look_next_state⟩
  have F1 := Py.funv_mk (st := s_answer) l1 c1 k1
  have b1 := Py.bind_none (fn := I_answer) rfl (Py.binds0 F1 (ps := Py.prmsOf s_answer) fun _ _ _ _ _ _ us hl => match us, hl with | [_, _, _], _ => rfl)
  have D1 : Py.DOk K mg base [] T FF BB (Py.kwB KK) XcS FdS RaS "answer" I_answer s_answer N_answer _ _ := ⟨by decide +kernel, ⟨_, _, F1, .inl rfl⟩, PySem.W.mg_of X G a1, b1, Py.kw_all (l := []) (by decide +kernel) trivial, Py.look0 look_answer⟩
  have F2 := Py.funv_mk (st := s_is_look) l2 c2 k2
  have b2 := Py.bind_none (fn := I_is_look) rfl (Py.binds0 F2 (ps := Py.prmsOf s_is_look) fun _ _ _ _ _ _ us hl => match us, hl with | [_, _], _ => rfl)
  have D2 : Py.DOk K mg base [] T FF BB (Py.kwB KK) XcS FdS RaS "is_look" I_is_look s_is_look N_is_look _ _ := ⟨by decide +kernel, ⟨_, _, F2, .inl rfl⟩, PySem.W.mg_of X G a2, b2, Py.kw_all (l := []) (by decide +kernel) trivial, Py.look0 look_is_look⟩
  have F3 := Py.funv_mk (st := s_is_laying) l3 c3 k3
  have b3 := Py.bind_none (fn := I_is_laying) rfl (Py.binds0 F3 (ps := Py.prmsOf s_is_laying) fun _ _ _ _ _ _ us hl => match us, hl with | [_, _], _ => rfl)
  have D3 : Py.DOk K mg base [] T FF BB (Py.kwB KK) XcS FdS RaS "is_laying" I_is_laying s_is_laying N_is_laying _ _ := ⟨by decide +kernel, ⟨_, _, F3, .inl rfl⟩, PySem.W.mg_of X G a3, b3, Py.kw_all (l := []) (by decide +kernel) trivial, Py.look0 look_is_laying⟩
  have F4 := Py.funv_mk (st := s_is_plain) l4 c4 k4
  have b4 := Py.bind_none (fn := I_is_plain) rfl (Py.binds0 F4 (ps := Py.prmsOf s_is_plain) fun _ _ _ _ _ _ us hl => match us, hl with | [_], _ => rfl)
  have D4 : Py.DOk K mg base [] T FF BB (Py.kwB KK) XcS FdS RaS "is_plain" I_is_plain s_is_plain N_is_plain _ _ := ⟨by decide +kernel, ⟨_, _, F4, .inl rfl⟩, PySem.W.mg_of X G a4, b4, Py.kw_all (l := []) (by decide +kernel) trivial, Py.look0 look_is_plain⟩
  have F5 := Py.funv_mk (st := s_meek_at) l5 c5 k5
  have b5 := Py.bind_none (fn := I_meek_at) rfl (Py.binds0 F5 (ps := Py.prmsOf s_meek_at) fun _ _ _ _ _ _ us hl => match us, hl with | [_, _, _, _], _ => rfl)
  have D5 : Py.DOk K mg base [] T FF BB (Py.kwB KK) XcS FdS RaS "meek_at" I_meek_at s_meek_at N_meek_at _ _ := ⟨by decide +kernel, ⟨_, _, F5, .inl rfl⟩, PySem.W.mg_of X G a5, b5, Py.kw_all (l := []) (by decide +kernel) trivial, Py.look0 look_meek_at⟩
  have F6 := Py.funv_mk (st := s_is_meek) l6 c6 k6
  have b6 := Py.bind_none (fn := I_is_meek) rfl (Py.binds0 F6 (ps := Py.prmsOf s_is_meek) fun _ _ _ _ _ _ us hl => match us, hl with | [_], _ => rfl)
  have D6 : Py.DOk K mg base [] T FF BB (Py.kwB KK) XcS FdS RaS "is_meek" I_is_meek s_is_meek N_is_meek _ _ := ⟨by decide +kernel, ⟨_, _, F6, .inl rfl⟩, PySem.W.mg_of X G a6, b6, Py.kw_all (l := []) (by decide +kernel) trivial, Py.look0 look_is_meek⟩
  have F7 := Py.funv_mk (st := s_first) l7 c7 k7
  have b7 := Py.bind_none (fn := I_first) rfl (Py.binds0 F7 (ps := Py.prmsOf s_first) fun _ _ _ _ _ _ us hl => match us, hl with | [_], _ => rfl)
  have D7 : Py.DOk K mg base [] T FF BB (Py.kwB KK) XcS FdS RaS "first" I_first s_first N_first _ _ := ⟨by decide +kernel, ⟨_, _, F7, .inl rfl⟩, PySem.W.mg_of X G a7, b7, Py.kw_all (l := []) (by decide +kernel) trivial, Py.look0 look_first⟩
  have F8 := Py.funv_mk (st := s_plain) l8 c8 k8
  have b8 := Py.bind_none (fn := I_plain) rfl (Py.binds0 F8 (ps := Py.prmsOf s_plain) fun _ _ _ _ _ _ us hl => match us, hl with | [_], _ => rfl)
  have D8 : Py.DOk K mg base [] T FF BB (Py.kwB KK) XcS FdS RaS "plain" I_plain s_plain N_plain _ _ := ⟨by decide +kernel, ⟨_, _, F8, .inl rfl⟩, PySem.W.mg_of X G a8, b8, Py.kw_all (l := []) (by decide +kernel) trivial, Py.look0 look_plain⟩
  have F9 := Py.funv_mk (st := s_swap) l9 c9 k9
  have b9 := Py.bind_none (fn := I_swap) rfl (Py.binds0 F9 (ps := Py.prmsOf s_swap) fun _ _ _ _ _ _ us hl => match us, hl with | [_], _ => rfl)
  have D9 : Py.DOk K mg base [] T FF BB (Py.kwB KK) XcS FdS RaS "swap" I_swap s_swap N_swap _ _ := ⟨by decide +kernel, ⟨_, _, F9, .inl rfl⟩, PySem.W.mg_of X G a9, b9, Py.kw_all (l := []) (by decide +kernel) trivial, Py.look0 look_swap⟩
  have F10 := Py.funv_mk (st := s_add) l10 c10 k10
  have b10 := Py.bind_none (fn := I_add) rfl (Py.binds0 F10 (ps := Py.prmsOf s_add) fun _ _ _ _ _ _ us hl => match us, hl with | [_], _ => rfl)
  have D10 : Py.DOk K mg base [] T FF BB (Py.kwB KK) XcS FdS RaS "add" I_add s_add N_add _ _ := ⟨by decide +kernel, ⟨_, _, F10, .inl rfl⟩, PySem.W.mg_of X G a10, b10, Py.kw_all (l := []) (by decide +kernel) trivial, Py.look0 look_add⟩
  have F11 := Py.funv_mk (st := s_mark) l11 c11 k11
  have b11 := Py.bind_none (fn := I_mark) rfl (Py.binds0 F11 (ps := Py.prmsOf s_mark) fun _ _ _ _ _ _ us hl => match us, hl with | [_], _ => rfl)
  have D11 : Py.DOk K mg base [] T FF BB (Py.kwB KK) XcS FdS RaS "mark" I_mark s_mark N_mark _ _ := ⟨by decide +kernel, ⟨_, _, F11, .inl rfl⟩, PySem.W.mg_of X G a11, b11, Py.kw_all (l := []) (by decide +kernel) trivial, Py.look0 look_mark⟩
  have F12 := Py.funv_mk (st := s_is_number) l12 c12 k12
  have b12 := Py.bind_none (fn := I_is_number) rfl (Py.binds0 F12 (ps := Py.prmsOf s_is_number) fun _ _ _ _ _ _ us hl => match us, hl with | [_], _ => rfl)
  have D12 : Py.DOk K mg base [] T FF BB (Py.kwB KK) XcS FdS RaS "is_number" I_is_number s_is_number N_is_number _ _ := ⟨by decide +kernel, ⟨_, _, F12, .inl rfl⟩, PySem.W.mg_of X G a12, b12, Py.kw_all (l := []) (by decide +kernel) trivial, Py.look0 look_is_number⟩
  have F13 := Py.funv_mk (st := s_row_text) l13 c13 k13
  have b13 := Py.bind_none (fn := I_row_text) rfl (Py.binds0 F13 (ps := Py.prmsOf s_row_text) fun _ _ _ _ _ _ us hl => match us, hl with | [_], _ => rfl)
  have D13 : Py.DOk K mg base [] T FF BB (Py.kwB KK) XcS FdS RaS "row_text" I_row_text s_row_text N_row_text _ _ := ⟨by decide +kernel, ⟨_, _, F13, .inl rfl⟩, PySem.W.mg_of X G a13, b13, Py.kw_all (l := []) (by decide +kernel) trivial, Py.look0 look_row_text⟩
  have F14 := Py.funv_mk (st := s_table_text) l14 c14 k14
  have b14 := Py.bind_none (fn := I_table_text) rfl (Py.binds0 F14 (ps := Py.prmsOf s_table_text) fun _ _ _ _ _ _ us hl => match us, hl with | [_], _ => rfl)
  have D14 : Py.DOk K mg base [] T FF BB (Py.kwB KK) XcS FdS RaS "table_text" I_table_text s_table_text N_table_text _ _ := ⟨by decide +kernel, ⟨_, _, F14, .inl rfl⟩, PySem.W.mg_of X G a14, b14, Py.kw_all (l := []) (by decide +kernel) trivial, Py.look0 look_table_text⟩
  have F15 := Py.funv_mk (st := s_read_pair) l15 c15 k15
  have b15 := Py.bind_none (fn := I_read_pair) rfl (Py.binds0 F15 (ps := Py.prmsOf s_read_pair) fun _ _ _ _ _ _ us hl => match us, hl with | [_], _ => rfl)
  have D15 : Py.DOk K mg base [] T FF BB (Py.kwB KK) XcS FdS RaS "read_pair" I_read_pair s_read_pair N_read_pair _ _ := ⟨by decide +kernel, ⟨_, _, F15, .inl rfl⟩, PySem.W.mg_of X G a15, b15, Py.kw_all (l := []) (by decide +kernel) trivial, Py.look0 look_read_pair⟩
  have F16 := Py.funv_mk (st := s_read_table) l16 c16 k16
  have b16 := Py.bind_none (fn := I_read_table) rfl (Py.binds0 F16 (ps := Py.prmsOf s_read_table) fun _ _ _ _ _ _ us hl => match us, hl with | [_], _ => rfl)
  have D16 : Py.DOk K mg base [] T FF BB (Py.kwB KK) XcS FdS RaS "read_table" I_read_table s_read_table N_read_table _ _ := ⟨by decide +kernel, ⟨_, _, F16, .inl rfl⟩, PySem.W.mg_of X G a16, b16, Py.kw_all (l := []) (by decide +kernel) trivial, Py.look0 look_read_table⟩
  have F17 := Py.funv_mk (st := s__law_deal) l17 c17 k17
  have b17 := Py.bind_none (fn := I__law_deal) rfl (Py.binds0 F17 (ps := Py.prmsOf s__law_deal) fun _ _ _ _ _ _ us hl => match us, hl with | [_, _], _ => rfl)
  have D17 : Py.DOk K mg base [] T FF BB (Py.kwB KK) XcS FdS RaS "_law_deal" I__law_deal s__law_deal N__law_deal _ _ := ⟨by decide +kernel, ⟨_, _, F17, .inl rfl⟩, PySem.W.mg_of X G a17, b17, Py.kw_all (l := []) (by decide +kernel) trivial, Py.look0 look__law_deal⟩
  have F18 := Py.funv_mk (st := s__law_draw) l18 c18 k18
  have b18 := Py.bind_none (fn := I__law_draw) rfl (Py.binds0 F18 (ps := Py.prmsOf s__law_draw) fun _ _ _ _ _ _ us hl => match us, hl with | [_, _], _ => rfl)
  have D18 : Py.DOk K mg base [] T FF BB (Py.kwB KK) XcS FdS RaS "_law_draw" I__law_draw s__law_draw N__law_draw _ _ := ⟨by decide +kernel, ⟨_, _, F18, .inl rfl⟩, PySem.W.mg_of X G a18, b18, Py.kw_all (l := []) (by decide +kernel) trivial, Py.look0 look__law_draw⟩
  have F19 := Py.funv_mk (st := s__law_first) l19 c19 k19
  have b19 := Py.bind_none (fn := I__law_first) rfl (Py.binds0 F19 (ps := Py.prmsOf s__law_first) fun _ _ _ _ _ _ us hl => match us, hl with | [_, _, _], _ => rfl)
  have D19 : Py.DOk K mg base [] T FF BB (Py.kwB KK) XcS FdS RaS "_law_first" I__law_first s__law_first N__law_first _ _ := ⟨by decide +kernel, ⟨_, _, F19, .inl rfl⟩, PySem.W.mg_of X G a19, b19, Py.kw_all (l := []) (by decide +kernel) trivial, Py.look0 look__law_first⟩
  have F20 := Py.funv_mk (st := s__law_plain) l20 c20 k20
  have b20 := Py.bind_none (fn := I__law_plain) rfl (Py.binds0 F20 (ps := Py.prmsOf s__law_plain) fun _ _ _ _ _ _ us hl => match us, hl with | [_, _, _], _ => rfl)
  have D20 : Py.DOk K mg base [] T FF BB (Py.kwB KK) XcS FdS RaS "_law_plain" I__law_plain s__law_plain N__law_plain _ _ := ⟨by decide +kernel, ⟨_, _, F20, .inl rfl⟩, PySem.W.mg_of X G a20, b20, Py.kw_all (l := []) (by decide +kernel) trivial, Py.look0 look__law_plain⟩
  have F21 := Py.funv_mk (st := s__law_swap) l21 c21 k21
  have b21 := Py.bind_none (fn := I__law_swap) rfl (Py.binds0 F21 (ps := Py.prmsOf s__law_swap) fun _ _ _ _ _ _ us hl => match us, hl with | [_, _, _], _ => rfl)
  have D21 : Py.DOk K mg base [] T FF BB (Py.kwB KK) XcS FdS RaS "_law_swap" I__law_swap s__law_swap N__law_swap _ _ := ⟨by decide +kernel, ⟨_, _, F21, .inl rfl⟩, PySem.W.mg_of X G a21, b21, Py.kw_all (l := []) (by decide +kernel) trivial, Py.look0 look__law_swap⟩
  have F22 := Py.funv_mk (st := s__law_add) l22 c22 k22
  have b22 := Py.bind_none (fn := I__law_add) rfl (Py.binds0 F22 (ps := Py.prmsOf s__law_add) fun _ _ _ _ _ _ us hl => match us, hl with | [_, _, _], _ => rfl)
  have D22 : Py.DOk K mg base [] T FF BB (Py.kwB KK) XcS FdS RaS "_law_add" I__law_add s__law_add N__law_add _ _ := ⟨by decide +kernel, ⟨_, _, F22, .inl rfl⟩, PySem.W.mg_of X G a22, b22, Py.kw_all (l := []) (by decide +kernel) trivial, Py.look0 look__law_add⟩
  have F23 := Py.funv_mk (st := s__law_right) l23 c23 k23
  have b23 := Py.bind_none (fn := I__law_right) rfl (Py.binds0 F23 (ps := Py.prmsOf s__law_right) fun _ _ _ _ _ _ us hl => match us, hl with | [_], _ => rfl)
  have D23 : Py.DOk K mg base [] T FF BB (Py.kwB KK) XcS FdS RaS "_law_right" I__law_right s__law_right N__law_right _ _ := ⟨by decide +kernel, ⟨_, _, F23, .inl rfl⟩, PySem.W.mg_of X G a23, b23, Py.kw_all (l := []) (by decide +kernel) trivial, Py.look0 look__law_right⟩
  have F24 := Py.funv_mk (st := s__law_handed_on) l24 c24 k24
  have b24 := Py.bind_none (fn := I__law_handed_on) rfl (Py.binds0 F24 (ps := Py.prmsOf s__law_handed_on) fun _ _ _ _ _ _ us hl => match us, hl with | [_], _ => rfl)
  have D24 : Py.DOk K mg base [] T FF BB (Py.kwB KK) XcS FdS RaS "_law_handed_on" I__law_handed_on s__law_handed_on N__law_handed_on _ _ := ⟨by decide +kernel, ⟨_, _, F24, .inl rfl⟩, PySem.W.mg_of X G a24, b24, Py.kw_all (l := []) (by decide +kernel) trivial, Py.look0 look__law_handed_on⟩
  have F25 := Py.funv_mk (st := s_law) l25 c25 k25
  have b25 := Py.bind_none (fn := I_law) rfl (Py.binds0 F25 (ps := Py.prmsOf s_law) fun _ _ _ _ _ _ us hl => match us, hl with | [_], _ => rfl)
  have D25 : Py.DOk K mg base [] T FF BB (Py.kwB KK) XcS FdS RaS "law" I_law s_law N_law _ _ := ⟨by decide +kernel, ⟨_, _, F25, .inl rfl⟩, PySem.W.mg_of X G a25, b25, Py.kw_all (l := []) (by decide +kernel) trivial, Py.look0 look_law⟩
  have hD : ∀ x ∈ FF, ∃ fn st N fa fd, Py.DOk K mg base [] T FF BB (Py.kwB KK) XcS FdS RaS x fn st N fa fd := by
    intro x hx
    simp only [FF, List.mem_cons, List.mem_nil_iff, or_false] at hx
    rcases hx with rfl | rfl | rfl | rfl | rfl | rfl | rfl | rfl | rfl | rfl | rfl | rfl | rfl | rfl | rfl | rfl | rfl | rfl | rfl | rfl | rfl | rfl | rfl | rfl | rfl | rfl
    · exact ⟨_, _, _, _, _, D0⟩
    · exact ⟨_, _, _, _, _, D1⟩
    · exact ⟨_, _, _, _, _, D2⟩
    · exact ⟨_, _, _, _, _, D3⟩
    · exact ⟨_, _, _, _, _, D4⟩
    · exact ⟨_, _, _, _, _, D5⟩
    · exact ⟨_, _, _, _, _, D6⟩
    · exact ⟨_, _, _, _, _, D7⟩
    · exact ⟨_, _, _, _, _, D8⟩
    · exact ⟨_, _, _, _, _, D9⟩
    · exact ⟨_, _, _, _, _, D10⟩
    · exact ⟨_, _, _, _, _, D11⟩
    · exact ⟨_, _, _, _, _, D12⟩
    · exact ⟨_, _, _, _, _, D13⟩
    · exact ⟨_, _, _, _, _, D14⟩
    · exact ⟨_, _, _, _, _, D15⟩
    · exact ⟨_, _, _, _, _, D16⟩
    · exact ⟨_, _, _, _, _, D17⟩
    · exact ⟨_, _, _, _, _, D18⟩
    · exact ⟨_, _, _, _, _, D19⟩
    · exact ⟨_, _, _, _, _, D20⟩
    · exact ⟨_, _, _, _, _, D21⟩
    · exact ⟨_, _, _, _, _, D22⟩
    · exact ⟨_, _, _, _, _, D23⟩
    · exact ⟨_, _, _, _, _, D24⟩
    · exact ⟨_, _, _, _, _, D25⟩
  have hB : ∀ x ∈ BB, Py.GlbS x (mg x) := by
    intro x hx
    simp only [BB, List.mem_cons, List.mem_nil_iff, or_false] at hx
    rcases hx with rfl | rfl | rfl | rfl | rfl | rfl | rfl | rfl | rfl | rfl | rfl
    · exact Py.gb_some (by decide +kernel) (PySem.W.mg_of X G z0)
    · exact Py.gb_none (by decide +kernel) (PySem.W.mg_none_of X G z1)
    · exact Py.gb_none (by decide +kernel) (PySem.W.mg_none_of X G z2)
    · exact Py.gb_none (by decide +kernel) (PySem.W.mg_none_of X G z3)
    · exact Py.gb_none (by decide +kernel) (PySem.W.mg_none_of X G z4)
    · exact Py.gb_none (by decide +kernel) (PySem.W.mg_none_of X G z5)
    · exact Py.gb_none (by decide +kernel) (PySem.W.mg_none_of X G z6)
    · exact Py.gb_none (by decide +kernel) (PySem.W.mg_none_of X G z7)
    · exact Py.gb_none (by decide +kernel) (PySem.W.mg_none_of X G z8)
    · exact Py.gb_none (by decide +kernel) (PySem.W.mg_none_of X G z9)
    · exact Py.gb_none (by decide +kernel) (PySem.W.mg_none_of X G z10)
  have hX : @Py.XRec (Py.tauX [] RaS) PySem.Challenge.pw_pactboards_k54_known_tables w K mg base XcS FdS RaS := @Py.XRec.none _ _ _ _ _ (Py.tauX [] RaS) rfl
  exact @Py.fn_ok (Py.tauX [] RaS) _ _ _ _ _ _ _ _ _ _ _ _ rfl hD hB hX (by decide +kernel) LV "law" _ _ _ _ _ D25
end LawP
open PySem PySem.W PyProof.Rows
set_option maxHeartbeats 0 in
theorem PySem.Challenge.cw_pactboards_k54_known_tables_holds : PySem.Challenge.rw_pactboards_k54_known_tables.Holds := by
  w_on; o_law; k_head; (case hw => w_witness2)
  k_fill
  refine L2.walk_of (l := PySem.Challenge.rw_pactboards_k54_known_tables) (n := 63) (k := LawP.LV + 2) (x := "_law_script") (CX := fun w => L2.CX PySem.Challenge.pw_pactboards_k54_known_tables w) (sp := fun w => Py.spF _ (Py.callF LawP.T LawP.LV) "law" 1) rfl (by decide) rfl ⟨rfl, by decide, by decide⟩ (fun w h Y => PySem.W.kIn_of Y) ?F (fun _ H a ns hl ho hS => Py.law_sp (hT := Py.tabs0) (hI := trivial) (ho := ho) (hS := hS) (LawP.plain ns hl)) (fun w H s e s1 c => Py.cx_no c)
  case F =>
    intro w mg fa h KX G hmg
    refine' LawP.all_mk KX G hmg ?a0 ?l0 ?c0 ?k0 ?a1 ?l1 ?c1 ?k1 ?a2 ?l2 ?c2 ?k2 ?a3 ?l3 ?c3 ?k3 ?a4 ?l4 ?c4 ?k4 ?a5 ?l5 ?c5 ?k5 ?a6 ?l6 ?c6 ?k6 ?a7 ?l7 ?c7 ?k7 ?a8 ?l8 ?c8 ?k8 ?a9 ?l9 ?c9 ?k9 ?a10 ?l10 ?c10 ?k10 ?a11 ?l11 ?c11 ?k11 ?a12 ?l12 ?c12 ?k12 ?a13 ?l13 ?c13 ?k13 ?a14 ?l14 ?c14 ?k14 ?a15 ?l15 ?c15 ?k15 ?a16 ?l16 ?c16 ?k16 ?a17 ?l17 ?c17 ?k17 ?a18 ?l18 ?c18 ?k18 ?a19 ?l19 ?c19 ?k19 ?a20 ?l20 ?c20 ?k20 ?a21 ?l21 ?c21 ?k21 ?a22 ?l22 ?c22 ?k22 ?a23 ?l23 ?c23 ?k23 ?a24 ?l24 ?c24 ?k24 ?a25 ?l25 ?c25 ?k25  ?z0 ?z1 ?z2 ?z3 ?z4 ?z5 ?z6 ?z7 ?z8 ?z9 ?z10
    (case a0 => k_is); (case l0 => k_is); (case c0 => k_is); (case k0 => k_is); (case a1 => k_is); (case l1 => k_is); (case c1 => k_is); (case k1 => k_is); (case a2 => k_is); (case l2 => k_is); (case c2 => k_is); (case k2 => k_is); (case a3 => k_is); (case l3 => k_is); (case c3 => k_is); (case k3 => k_is); (case a4 => k_is); (case l4 => k_is); (case c4 => k_is); (case k4 => k_is); (case a5 => k_is); (case l5 => k_is); (case c5 => k_is); (case k5 => k_is); (case a6 => k_is); (case l6 => k_is); (case c6 => k_is); (case k6 => k_is); (case a7 => k_is); (case l7 => k_is); (case c7 => k_is); (case k7 => k_is); (case a8 => k_is); (case l8 => k_is); (case c8 => k_is); (case k8 => k_is); (case a9 => k_is); (case l9 => k_is); (case c9 => k_is); (case k9 => k_is); (case a10 => k_is); (case l10 => k_is); (case c10 => k_is); (case k10 => k_is); (case a11 => k_is); (case l11 => k_is); (case c11 => k_is); (case k11 => k_is); (case a12 => k_is); (case l12 => k_is); (case c12 => k_is); (case k12 => k_is); (case a13 => k_is); (case l13 => k_is); (case c13 => k_is); (case k13 => k_is); (case a14 => k_is); (case l14 => k_is); (case c14 => k_is); (case k14 => k_is); (case a15 => k_is); (case l15 => k_is); (case c15 => k_is); (case k15 => k_is); (case a16 => k_is); (case l16 => k_is); (case c16 => k_is); (case k16 => k_is); (case a17 => k_is); (case l17 => k_is); (case c17 => k_is); (case k17 => k_is); (case a18 => k_is); (case l18 => k_is); (case c18 => k_is); (case k18 => k_is); (case a19 => k_is); (case l19 => k_is); (case c19 => k_is); (case k19 => k_is); (case a20 => k_is); (case l20 => k_is); (case c20 => k_is); (case k20 => k_is); (case a21 => k_is); (case l21 => k_is); (case c21 => k_is); (case k21 => k_is); (case a22 => k_is); (case l22 => k_is); (case c22 => k_is); (case k22 => k_is); (case a23 => k_is); (case l23 => k_is); (case c23 => k_is); (case k23 => k_is); (case a24 => k_is); (case l24 => k_is); (case c24 => k_is); (case k24 => k_is); (case a25 => k_is); (case l25 => k_is); (case c25 => k_is); (case k25 => k_is); (case z0 => k_is); (case z1 => k_is); (case z2 => k_is); (case z3 => k_is); (case z4 => k_is); (case z5 => k_is); (case z6 => k_is); (case z7 => k_is); (case z8 => k_is); (case z9 => k_is); (case z10 => k_is)
