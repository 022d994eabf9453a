import PyProof.Rows.All
import Wide.All
import OpenK.AllK
import Wide.FinOn
import HandS.ForMost
import HandS.ForExc
import HandS.Head0
import HandS.Head1
import HandS.Head2
import HandS.HeadEnd
import HandS.HeadHook1
import HandS.HeadHook2
import HandS.ExcOwn
import HandS.ExcInit
import HandS.Defaults
import HandS.IsInst
import HandS.Deep
import HandS.TupAny
import HandS.SortInts
import HandS.Conv
import HandS.DictTup
import HandS.Codes
import HandS.TryOnly
import HandS.TryMany
import HandS.HotCalls
import HandS.SetKeys
import HandS.Wide
import HandS.CallSlots
import HandS.Flow
import HandS.CallRecv
import HandS.RevRange
import PyProof.SetRoads
import PyProof.Rows.SetFrom
import PyProof.ExcBaseAll.ValueError
import KE.KStateDown
import PySem.Challenge.RW_grope_k60_trees_as_rows
set_option linter.all false
set_option Elab.async false
set_option maxRecDepth 100000
set_option maxHeartbeats 4000000
/-! G1: the ghost language: data, store, code, interpreter. -/
namespace GL
open PySem

/-- frozen data -/
inductive D where
  | non | bl (b : Bool) | int (i : Int) | str (x : List Nat)
  | lst (xs : List D) | tup (xs : List D) | dct (kvs : List (D × D)) | ins (C : Nat) (fs : List (Nat × D))
  /-- the script -/
  | scr (xs : List Int)

/-- a value: frozen data, or a handle of a store's cell -/
inductive A where
  | z (d : D) | h (n : Nat)

/-- an object, one level -/
inductive Nd where
  | at (d : D) | lst (xs : List A) | tup (xs : List A) | dct (kvs : List (D × A)) | ins (C : Nat) (fs : List (Nat × A))

abbrev Store := List (Option Nd)
abbrev Env := List (Option A)

inductive R (α : Type) where
  | ok (a : α) (m : Store) | ex (C : Nat) (fs : List (Nat × D)) (m : Store) | bad

def R.bind {α β : Type} (r : R α) (f : α → Store → R β) : R β := match r with
  | .ok a m => f a m
  | .ex C fs m => .ex C fs m
  | .bad => .bad
@[simp] theorem R.bind_ok {α β : Type} (a : α) (m : Store) (f : α → Store → R β) : (R.ok a m).bind f = f a m := rfl
@[simp] theorem R.bind_ex {α β : Type} (C : Nat) (fs : List (Nat × D)) (m : Store) (f : α → Store → R β) : (R.ex C fs m).bind f = .ex C fs m := rfl
@[simp] theorem R.bind_bad {α β : Type} (f : α → Store → R β) : (R.bad : R α).bind f = .bad := rfl

/-! ### equality and keys -/
mutual
def eqD : D → D → Bool
  | .non, .non => true
  | .bl a, .bl b => a == b
  | .bl a, .int j => (if a then 1 else 0) == j
  | .int i, .bl b => i == (if b then 1 else 0)
  | .int i, .int j => i == j
  | .str x, .str y => x == y
  | .lst xs, .lst ys => eqDs xs ys
  | .tup xs, .tup ys => eqDs xs ys
  | _, _ => false
def eqDs : List D → List D → Bool
  | [], [] => true
  | x :: xs, y :: ys => eqD x y && eqDs xs ys
  | _, _ => false
end
mutual
/-- data that may be compared: no dict, no instance; n the depth that is left -/
def plainD : D → Nat → Bool
  | .non, _ => true
  | .bl _, _ => true
  | .int _, _ => true
  | .str x, _ => x.all fun c => Nat.blt c 1114112
  | .lst xs, n + 1 => plainDs xs n
  | .tup xs, n + 1 => plainDs xs n
  | _, _ => false
def plainDs : List D → Nat → Bool
  | [], _ => true
  | x :: xs, n => plainD x n && plainDs xs n
end
def lookK {α : Type} (k : D) : List (D × α) → Option α
  | [] => none
  | (j, v) :: r => if eqD k j then some v else lookK k r
def putK {α : Type} (k : D) (v : α) : List (D × α) → List (D × α)
  | [] => [(k, v)]
  | (j, w) :: r => if eqD k j then (j, v) :: r else (j, w) :: putK k v r
def lookF {α : Type} (f : Nat) : List (Nat × α) → Option α
  | [] => none
  | (g, v) :: r => if Nat.beq f g then some v else lookF f r
def putFd {α : Type} (f : Nat) (v : α) : List (Nat × α) → List (Nat × α)
  | [] => [(f, v)]
  | (g, w) :: r => if Nat.beq f g then (g, v) :: r else (g, w) :: putFd f v r

/-! ### the store -/
def cell (m : Store) (n : Nat) : Option Nd := match m[n]? with
  | some (some c) => some c
  | _ => none
def view (m : Store) : A → Option Nd
  | .z (.lst xs) => some (.lst (xs.map .z))
  | .z (.tup xs) => some (.tup (xs.map .z))
  | .z (.dct kvs) => some (.dct (kvs.map fun p => (p.1, .z p.2)))
  | .z (.ins C fs) => some (.ins C (fs.map fun p => (p.1, .z p.2)))
  | .z (.scr xs) => some (.lst (xs.map fun i => .z (.int i)))
  | .z d => some (.at d)
  | .h n => cell m n
/-- a new cell -/
def new (c : Nd) (m : Store) : R A := .ok (.h m.length) (m ++ [some c])
def allZ : List A → Option (List D)
  | [] => some []
  | .z d :: r => (allZ r).map (d :: ·)
  | .h _ :: _ => none
/-- a fresh list: frozen, or a cell -/
def mkLst (mu : Bool) (xs : List A) (m : Store) : R A := match mu with
  | true => new (.lst xs) m
  | false => match allZ xs with
    | some ds => .ok (.z (.lst ds)) m
    | none => .bad
/-- a tuple is frozen where its items are -/
def mkTup (xs : List A) (m : Store) : R A := match allZ xs with
  | some ds => .ok (.z (.tup ds)) m
  | none => new (.tup xs) m
def mapR {α β : Type} (f : α → Store → R β) : List α → Store → R (List β)
  | [], m => .ok [] m
  | a :: r, m => (f a m).bind fun b m1 => (mapR f r m1).bind fun bs m2 => .ok (b :: bs) m2
/-- a cell's end -/
def endC (n : Nat) (m : Store) (d : D) : R D := match cell m n with
  | some _ => .ok d (m.set n none)
  | none => .bad
/-- freezing: the cells under a value become frozen, and are gone from the store -/
def frA : Nat → A → Store → R D
  | _, .z d, m => .ok d m
  | 0, .h _, _ => .bad
  | k + 1, .h n, m => match cell m n with
    | some (.lst xs) => (mapR (frA k) xs m).bind fun ds m' => endC n m' (.lst ds)
    | some (.tup xs) => (mapR (frA k) xs m).bind fun ds m' => endC n m' (.tup ds)
    | some (.dct kvs) => (mapR (frA k) (kvs.map (·.2)) m).bind fun ds m' => endC n m' (.dct ((kvs.map (·.1)).zip ds))
    | some (.ins C fs) => (mapR (frA k) (fs.map (·.2)) m).bind fun ds m' => endC n m' (.ins C ((fs.map (·.1)).zip ds))
    | _ => .bad
/-- what a value holds now, cells and all; nothing is changed -/
def mapO {α β : Type} (f : α → Option β) : List α → Option (List β)
  | [] => some []
  | a :: r => match f a with
    | some b => (match mapO f r with
      | some bs => some (b :: bs)
      | none => none)
    | none => none
def snap (m : Store) : Nat → A → Option D
  | _, .z d => some d
  | 0, .h _ => none
  | k + 1, .h n => match cell m n with
    | some (.lst xs) => (mapO (snap m k) xs).map .lst
    | some (.tup xs) => (mapO (snap m k) xs).map .tup
    | _ => none

/-! ### code -/
inductive BOp where
  | add | sub | mul | fdiv | mod | pow | shl | shr | and | or | xor
inductive COp where
  | eq | ne | lt | le | gt | ge | isin | notin | is | isnot
inductive B1 where
  | len | list | tuple | sorted | max | min | any | all | sum | str | int | abs | setlen
deriving DecidableEq
inductive B2 where
  | max | min
inductive M0 where
  | bitlen
inductive M1 where
  | append | join
/-- a kind that isinstance asks for -/
inductive Ty where
  | cls (C : Nat) | int | bool | str | list | tuple
mutual
inductive E where
  | var (i : Nat) | cst (d : D) | glo (g : Nat)
  | bin (op : BOp) (a b : E) | neg (a : E) | not (a : E)
  | cmp (op : COp) (a b : E) | cmp2 (o1 o2 : COp) (a b c : E)
  | and (es : Es) | or (es : Es) | ife (c a b : E)
  | lst (mu : Bool) (es : Es) | tup (es : Es) | dct (tk : Bool)
  | idx (a b : E) | slc (a : E) (lo hi : Oe)
  | att (a : E) (f : Nat)
  | fn1 (mu : Bool) (b : B1) (a : E) | fn2 (b : B2) (a b2 : E)
  | call (f : Nat) (es : Es) | make (C : Nat) (es : Es) | meth (mt : Nat) (o : E) (es : Es)
  | bm0 (b : M0) (a : E) | bm1 (b : M1) (a c : E)
  | isi (a : E) (t : Ty)
  | lc (mu : Bool) (tg : List Nat) (tup : Bool) (it : It) (cond : Oe) (e : E)
  | frz (a : E)
inductive Es where
  | nil | cons (e : E) (r : Es)
inductive Oe where
  | no | some (e : E)
inductive It where
  | rng1 (a : E) | rng2 (a b : E) | rrng1 (a : E) | of (a : E)
end
mutual
inductive S where
  | pass | ex (e : E) | asg (i : Nat) (e : E) | asgt (is : List Nat) (e : E) | sfd (o : E) (f : Nat) (e : E) | sit (o i e : E)
  | ret (e : E) | retn | iff (c : E) (a b : Ss) | whl (c : E) (b : Ss) | for_ (tg : List Nat) (tup : Bool) (it : It) (b : Ss)
  | raise (C : Nat) (es : Es) | try_ (b : Ss) (hs : Hs)
inductive Ss where
  | nil | cons (s : S) (r : Ss)
/-- except clauses: the class, the name's slot, the suite -/
inductive Hs where
  | nil | cons (C : Nat) (as_ : Option Nat) (b : Ss) (r : Hs)
end
structure FDef where
  ps : Nat
  slots : Nat
  dfl : List D
  body : Ss
structure CDef where
  anc : List Nat
  meths : List (Nat × Nat)
  init : Option Nat
  /-- an exception's fields, by its arguments; none: a class of instances -/
  xfs : Option (List Nat)
structure Tab where
  fns : List FDef
  cls : List CDef
  glo : List D

/-! ### operations -/
abbrev okZ (d : D) (m : Store) : R A := .ok (.z d) m
def sz : Nat := 16777216
def inB (lo hi i : Int) : Bool := decide (lo ≤ i) && decide (i ≤ hi)
def b64 (i : Int) : Bool := decide (-18446744073709551616 < i) && decide (i < 18446744073709551616)
def powOk (i j : Int) : Bool := decide (0 ≤ j) && (decide (j ≤ 1000000) && decide (i.natAbs < 18446744073709551616))
def binI : BOp → Int → Int → Option Int
  | .add, i, j => some (i + j)
  | .sub, i, j => some (i - j)
  | .mul, i, j => if b64 i || b64 j then some (i * j) else none
  | .fdiv, i, j => if decide (0 < j) && decide (j < 1073741824) then some (i / j) else none
  | .mod, i, j => if decide (0 < j) then some (i % j) else none
  | .pow, i, j => if powOk i j then some (i ^ j.toNat) else none
  | .shl, i, j => if powOk i j then some (i * 2 ^ j.toNat) else none
  | .shr, i, j => if decide (0 ≤ j) then some (i / 2 ^ j.toNat) else none
  | .and, i, j => some (Builtin.bitAnd i j)
  | .or, i, j => some (Builtin.bitOr i j)
  | .xor, i, j => some (Builtin.bitXor i j)
def notScr : A → Bool
  | .z (.scr _) => false
  | _ => true
def binA (op : BOp) (a b : A) (m : Store) : R A :=
  match view m a, view m b with
  | some (.at (.int i)), some (.at (.int j)) => (match binI op i j with
    | some k => okZ (.int k) m
    | none => .bad)
  | some (.at (.str x)), some (.at (.str y)) => (match op with
    | .add => if Nat.ble (x.length + y.length) sz then okZ (.str (x ++ y)) m else .bad
    | _ => .bad)
  | some (.lst xs), some (.lst ys) => (match op with
    | .add => if notScr a && (notScr b && Nat.ble (xs.length + ys.length) sz) then mkLst false (xs ++ ys) m else .bad
    | _ => .bad)
  | some (.tup _), some (.tup _) => (match op, a, b with
    | .add, .z (.tup ds), .z (.tup es) => if Nat.ble (ds.length + es.length) sz then okZ (.tup (ds ++ es)) m else .bad
    | _, _, _ => .bad)
  | _, _ => .bad
def ltL : List Nat → List Nat → Bool
  | [], [] => false
  | [], _ :: _ => true
  | _ :: _, [] => false
  | x :: xs, y :: ys => Nat.blt x y || (Nat.beq x y && ltL xs ys)
def flatD : D → Bool
  | .non => true
  | .bl _ => true
  | .int _ => true
  | .str _ => true
  | _ => false
/-- pairs that == tells apart plainly: no bool against an int -/
def scalD : D → D → Bool
  | .bl _, .int _ => false
  | .int _, .bl _ => false
  | _, _ => true
def deepEq (a b : A) (m : Store) : Option Bool := match snap m 8 a, snap m 8 b with
  | some d, some e => if plainD d 60 && plainD e 60 then some (eqD d e) else none
  | _, _ => none
def eqA (a b : A) (m : Store) : Option Bool := match a, b with
  | .z d, .z e => if flatD d && flatD e then (if scalD d e then some (eqD d e) else none) else deepEq a b m
  | _, _ => deepEq a b m
def flatsOf : List A → Option (List D)
  | [] => some []
  | .z d :: r => if flatD d then (flatsOf r).map (d :: ·) else none
  | .h _ :: _ => none
def flatIn (a : A) (xs : List A) : Option Bool := match a, flatsOf xs with
  | .z d, some ds => if flatD d then some (ds.any fun z => eqD z d) else none
  | _, _ => none
def inA (a b : A) (m : Store) : Option Bool :=
  match view m b with
  | some (.at (.str y)) => (match a with
    | .z (.str [c]) => some (decide (c ∈ y))
    | _ => none)
  | some (.lst xs) => (match flatIn a xs with
    | some k => some k
    | none => (match snap m 8 a, snap m 8 b with
      | some d, some (.lst ds) => if plainD d 60 && plainDs ds 60 then some (ds.any fun z => eqD z d) else none
      | _, _ => none))
  | some (.tup xs) => flatIn a xs
  | _ => none
def cmpA (op : COp) (a b : A) (m : Store) : Option Bool :=
  match op with
  | .eq => eqA a b m
  | .ne => (eqA a b m).map (!·)
  | .lt => (match a, b with
    | .z (.int i), .z (.int j) => some (decide (i < j))
    | .z (.str x), .z (.str y) => some (ltL x y)
    | _, _ => none)
  | .le => (match a, b with
    | .z (.int i), .z (.int j) => some (decide (i ≤ j))
    | _, _ => none)
  | .gt => (match a, b with
    | .z (.int i), .z (.int j) => some (decide (j < i))
    | _, _ => none)
  | .ge => (match a, b with
    | .z (.int i), .z (.int j) => some (decide (j ≤ i))
    | _, _ => none)
  | .isin => inA a b m
  | .notin => (inA a b m).map (!·)
  | .is => (match a, b with
    | .z .non, .z .non => some true
    | _, .z .non => some false
    | _, _ => none)
  | .isnot => (match a, b with
    | .z .non, .z .non => some false
    | _, .z .non => some true
    | _, _ => none)
def ofO {α : Type} (o : Option α) (f : α → R A) : R A := match o with
  | some a => f a
  | none => .bad
@[simp] theorem ofO_some {α : Type} (a : α) (f : α → R A) : ofO (some a) f = f a := rfl
@[simp] theorem ofO_none {α : Type} (f : α → R A) : ofO none f = .bad := rfl
/-- truth -/
def tru (m : Store) (a : A) : Option Bool := match view m a with
  | some (.at (.bl b)) => some b
  | some (.at .non) => some false
  | some (.at (.int i)) => some (i != 0)
  | some (.at (.str x)) => if Nat.ble x.length sz then some (!x.isEmpty) else none
  | some (.lst xs) => some (!xs.isEmpty)
  | some (.tup xs) => some (!xs.isEmpty)
  | _ => none
def ixL (n : Nat) (i : Int) : Option Nat := if decide (0 ≤ i) then (if decide (i < n) then some i.toNat else none) else if decide (-(n : Int) ≤ i) then some (i + n).toNat else none
def idxA (a b : A) (m : Store) : R A :=
  match view m a, b with
  | some (.lst xs), .z (.int i) => ofO ((ixL xs.length i).bind fun j => xs[j]?) fun x => .ok x m
  | some (.tup xs), .z (.int i) => ofO ((ixL xs.length i).bind fun j => xs[j]?) fun x => .ok x m
  | some (.at (.str xs)), .z (.int i) => if Nat.ble xs.length sz then ofO ((ixL xs.length i).bind fun j => xs[j]?) fun c => okZ (.str [c]) m else .bad
  | _, _ => .bad
def sIx (n d : Nat) : Option Int → Nat
  | none => d
  | some i => if i < 0 then (i + n).toNat else min i.toNat n
def cut {α : Type} (xs : List α) (lo hi : Option Int) : List α := (xs.drop (sIx xs.length 0 lo)).take (sIx xs.length xs.length hi - sIx xs.length 0 lo)
def slcA (a : A) (lo hi : Option Int) (m : Store) : R A :=
  match view m a with
  | some (.lst xs) => mkLst false (cut xs lo hi) m
  | some (.tup _) => (match a with
    | .z (.tup ds) => if Nat.beq (sIx ds.length 0 lo) 0 && Nat.beq (sIx ds.length ds.length hi) ds.length then .ok a m else mkTup (cut (ds.map .z) lo hi) m
    | _ => .bad)
  | some (.at (.str xs)) => if Nat.ble xs.length sz then okZ (.str (cut xs lo hi)) m else .bad
  | _ => .bad
def intsOf : List A → Option (List Int)
  | [] => some []
  | .z (.int i) :: r => (intsOf r).map (i :: ·)
  | _ => none
def strsOf : List A → Option (List (List Nat))
  | [] => some []
  | .z (.str i) :: r => (strsOf r).map (i :: ·)
  | _ => none
def blsOf : List A → Option (List Bool)
  | [] => some []
  | .z (.bl i) :: r => (blsOf r).map (i :: ·)
  | _ => none
/-- insertion -/
def insI (x : Int) : List Int → List Int
  | [] => [x]
  | y :: r => if x ≤ y then x :: y :: r else y :: insI x r
def sortI : List Int → List Int
  | [] => []
  | x :: r => insI x (sortI r)
def insT (x : List Nat) : List (List Nat) → List (List Nat)
  | [] => [x]
  | y :: r => if ltL y x then y :: insT x r else x :: y :: r
def sortT : List (List Nat) → List (List Nat)
  | [] => []
  | x :: r => insT x (sortT r)
def maxI : Int → List Int → Int
  | a, [] => a
  | a, x :: r => maxI (if a < x then x else a) r
def minI : Int → List Int → Int
  | a, [] => a
  | a, x :: r => minI (if x < a then x else a) r
/-- the texts that differ, in the order that they are met -/
def metT : List (List Nat) → List (List Nat) → List (List Nat)
  | acc, [] => acc
  | acc, x :: r => metT (if acc.contains x then acc else acc ++ [x]) r
def seqOf (m : Store) (a : A) : Option (List A) := match view m a with
  | some (.lst xs) => some xs
  | some (.tup xs) => some xs
  | _ => none
/-- the digits of a number -/
def digits (i : Int) : List Nat := (toString i : Str).cps.toList
def fn1A (mu : Bool) (b : B1) (a : A) (m : Store) : R A :=
  match b with
  | .len => (match view m a with
    | some (.lst xs) => okZ (.int xs.length) m
    | some (.tup xs) => okZ (.int xs.length) m
    | some (.at (.str xs)) => if Nat.ble xs.length sz then okZ (.int xs.length) m else .bad
    | _ => .bad)
  | .list => (match view m a with
    | some (.lst xs) => mkLst mu xs m
    | some (.tup xs) => mkLst mu xs m
    | _ => .bad)
  | .tuple => (match view m a with
    | some (.lst xs) => mkTup xs m
    | some (.tup _) => .ok a m
    | _ => .bad)
  | .sorted => (match view m a with
    | some (.lst xs) => (match intsOf xs with
      | some is => mkLst mu ((sortI is).map fun i => .z (.int i)) m
      | none => (match strsOf xs with
        | some is => if Nat.blt is.length 64 then mkLst mu ((sortT is).map fun i => .z (.str i)) m else .bad
        | none => .bad))
    | _ => .bad)
  | .max => (match view m a with
    | some (.lst xs) => (match intsOf xs with
      | some (i :: r) => okZ (.int (maxI i r)) m
      | _ => .bad)
    | _ => .bad)
  | .min => (match view m a with
    | some (.lst xs) => (match intsOf xs with
      | some (i :: r) => okZ (.int (minI i r)) m
      | _ => .bad)
    | _ => .bad)
  | .any => (match view m a with
    | some (.lst xs) => ofO (blsOf xs) fun bs => okZ (.bl (bs.any id)) m
    | _ => .bad)
  | .all => (match view m a with
    | some (.lst xs) => ofO (blsOf xs) fun bs => okZ (.bl (bs.all id)) m
    | _ => .bad)
  | .sum => (match view m a with
    | some (.lst xs) => ofO (intsOf xs) fun bs => okZ (.int bs.sum) m
    | _ => .bad)
  | .str => (match a with
    | .z (.int i) => if decide (i.natAbs.log2 < 1920) then okZ (.str (digits i)) m else .bad
    | _ => .bad)
  | .int => (match a with
    | .z (.int i) => okZ (.int i) m
    | .z (.bl b) => okZ (.int (if b then 1 else 0)) m
    | _ => .bad)
  | .abs => (match a with
    | .z (.int i) => okZ (.int (if i < 0 then -i else i)) m
    | _ => .bad)
  | .setlen => (match view m a with
    | some (.lst xs) => (match strsOf xs with
      | some ss => if Nat.blt ss.length 4000 then okZ (.int (metT [] ss).length) m else .bad
      | none => .bad)
    | _ => .bad)
def fn2A (b : B2) (x y : A) (m : Store) : R A :=
  match b, x, y with
  | .max, .z (.int i), .z (.int j) => okZ (.int (if j > i then j else i)) m
  | .min, .z (.int i), .z (.int j) => okZ (.int (if j < i then j else i)) m
  | _, _, _ => .bad
def joinT (s : List Nat) : List (List Nat) → List Nat
  | [] => []
  | [x] => x
  | x :: y :: r => x ++ (s ++ joinT s (y :: r))
def bm1A (b : M1) (a c : A) (m : Store) : R A :=
  match b with
  | .append => (match a with
    | .h n => (match cell m n with
      | some (.lst xs) => if Nat.blt xs.length sz then .ok (.z .non) (m.set n (some (.lst (xs ++ [c])))) else .bad
      | _ => .bad)
    | _ => .bad)
  | .join => (match a, seqOf m c with
    | .z (.str s), some xs => ofO (strsOf xs) fun ys => if Nat.ble ((ys.map List.length).sum + ys.length * s.length) sz then okZ (.str (joinT s ys)) m else .bad
    | _, _ => .bad)
/-- the receiver's type -/
def bmTy (b : M1) (a : A) (m : Store) : Bool := match b with
  | .append => (match a with
    | .h n => (match cell m n with
      | some (.lst _) => true
      | _ => false)
    | _ => false)
  | .join => (match a with
    | .z (.str _) => true
    | _ => false)
def bitLen (n : Nat) : Nat := if n = 0 then 0 else n.log2 + 1
def bm0A (b : M0) (a : A) (m : Store) : R A :=
  match b, a with
  | .bitlen, .z (.int i) => okZ (.int (bitLen i.natAbs)) m
  | _, _ => .bad
/-- kinds of objects -/
inductive Kd where
  | non | bl | int | str | list | tuple | dict | cls (C : Nat)
def kdOf : Nd → Option Kd
  | .at .non => some .non
  | .at (.bl _) => some .bl
  | .at (.int _) => some .int
  | .at (.str _) => some .str
  | .lst _ => some .list
  | .tup _ => some .tuple
  | .dct _ => some .dict
  | .ins C _ => some (.cls C)
  | _ => none
def isK (T : Tab) : Ty → Kd → Bool
  | .cls C, .cls D => (match T.cls[D]? with
    | some c => c.anc.contains C
    | none => false)
  | .int, .int => true
  | .int, .bl => true
  | .bool, .bl => true
  | .str, .str => true
  | .list, .list => true
  | .tuple, .tuple => true
  | _, _ => false
def insC (T : Tab) (C : Nat) : Bool := match T.cls[C]? with
  | some c => c.xfs.isNone
  | none => false
def attA (T : Tab) (a : A) (f : Nat) (m : Store) : R A :=
  match view m a with
  | some (.ins C fs) => if insC T C then ofO (lookF f fs) fun x => .ok x m else .bad
  | _ => .bad
def kdOk (T : Tab) : Kd → Bool
  | .cls C => insC T C
  | .dict => false
  | _ => true
def isiA (T : Tab) (a : A) (t : Ty) (m : Store) : R A := ofO ((view m a).bind kdOf) fun k => if kdOk T k then okZ (.bl (isK T t k)) m else .bad
def setE : Env → List Nat → List A → Env
  | r, i :: is, a :: as => setE (r.set i (some a)) is as
  | r, _, _ => r
/-- targets -/
def setT (tg : List Nat) (tup : Bool) (a : A) (m : Store) (r : Env) : Option Env := match tup, tg with
  | false, [i] => some (r.set i (some a))
  | true, is => (match view m a with
    | some (.tup xs) => if is.length = xs.length then some (setE r is xs) else none
    | _ => none)
  | _, _ => none
def wipeE (r : Env) : List Nat → Env
  | [] => r
  | v :: vs => (wipeE r vs).set v none
def rngL (lo : Int) (n : Nat) : List A := (List.range n).map fun (k : Nat) => A.z (.int (lo + k))
def inR (i : Int) : Bool := decide (-4611686018427387904 ≤ i) && decide (i < 4611686018427387904)
/-- what a loop walks: values that stand, or a list's cell -/
inductive Src where
  | fix (xs : List A) | live (n : Nat)
/-- no exception -/
def nox {α : Type} (r : R α) : R α := match r with
  | .ok a m => .ok a m
  | _ => .bad
/-- the loop of a comprehension -/
def lcL (tg : List Nat) (tup : Bool) (cond : Env → Store → R A) (e : Env → Store → R A) (r : Env) : List A → Store → R (List A)
  | [], m => .ok [] m
  | a :: rest, m => match setT tg tup a m r with
    | none => .bad
    | some r1 => (nox (cond r1 m)).bind fun c m1 => match tru m1 c with
      | some true => (nox (e r1 m1)).bind fun x m2 => (lcL tg tup cond e r rest m2).bind fun xs m3 => .ok (x :: xs) m3
      | some false => lcL tg tup cond e r rest m1
      | none => .bad
/-- what an __init__ hands back -/
def noneOk (y : A) (x : A) (m : Store) : R A := match y with
  | .z .non => .ok x m
  | _ => .bad
/-- the defaults that lack -/
def fill (T : Tab) (f : Nat) (xs : List A) : List A := match T.fns[f]? with
  | some fd => xs ++ (fd.dfl.drop (xs.length + fd.dfl.length - fd.ps)).map A.z
  | none => xs
mutual
def ev (T : Tab) (call : Nat → List A → Store → R A) : E → Env → Store → R A
  | .var i, r, m => (match r[i]? with
    | some (some a) => .ok a m
    | _ => .bad)
  | .cst d, _, m => okZ d m
  | .glo g, _, m => ofO T.glo[g]? fun d => okZ d m
  | .bin op a b, r, m => (ev T call a r m).bind fun x m1 => (ev T call b r m1).bind fun y m2 => binA op x y m2
  | .neg a, r, m => (ev T call a r m).bind fun x m1 => (match x with
    | .z (.int i) => okZ (.int (-i)) m1
    | _ => .bad)
  | .not a, r, m => (ev T call a r m).bind fun x m1 => ofO (tru m1 x) fun b => okZ (.bl (!b)) m1
  | .cmp op a b, r, m => (ev T call a r m).bind fun x m1 => (ev T call b r m1).bind fun y m2 => ofO (cmpA op x y m2) fun b => okZ (.bl b) m2
  | .cmp2 o1 o2 a b c, r, m => (ev T call a r m).bind fun x m1 => (ev T call b r m1).bind fun y m2 => ofO (cmpA o1 x y m2) fun k => (match k with
    | true => (ev T call c r m2).bind fun z m3 => ofO (cmpA o2 y z m3) fun b => okZ (.bl b) m3
    | false => okZ (.bl false) m2)
  | .and es, r, m => evAnd T call es r m
  | .or es, r, m => evOr T call es r m
  | .ife c a b, r, m => (ev T call c r m).bind fun x m1 => (match tru m1 x with
    | some true => ev T call a r m1
    | some false => ev T call b r m1
    | none => .bad)
  | .lst mu es, r, m => (evs T call es r m).bind fun xs m1 => if Nat.ble xs.length sz then mkLst mu xs m1 else .bad
  | .tup es, r, m => (evs T call es r m).bind fun xs m1 => if Nat.ble xs.length sz then mkTup xs m1 else .bad
  | .dct _, _, m => new (.dct []) m
  | .idx a b, r, m => (ev T call a r m).bind fun x m1 => (ev T call b r m1).bind fun y m2 => idxA x y m2
  | .slc a lo hi, r, m => (ev T call a r m).bind fun x m1 => (evO T call lo r m1).bind fun l m2 => (evO T call hi r m2).bind fun h m3 => slcA x l h m3
  | .att a f, r, m => (ev T call a r m).bind fun x m1 => attA T x f m1
  | .fn1 mu b a, r, m => (ev T call a r m).bind fun x m1 => fn1A mu b x m1
  | .fn2 b a c, r, m => (ev T call a r m).bind fun x m1 => (ev T call c r m1).bind fun y m2 => fn2A b x y m2
  | .call f es, r, m => (evs T call es r m).bind fun xs m1 => call f (fill T f xs) m1
  | .make C es, r, m => (evs T call es r m).bind fun xs m1 => (match T.cls[C]? with
    | some c => (match c.init with
      | some f => if c.xfs.isNone then (call f (fill T f (.h m1.length :: xs)) (m1 ++ [some (.ins C [])])).bind fun y m2 => noneOk y (.h m1.length) m2 else .bad
      | none => if c.xfs.isNone && xs.isEmpty then okZ (.ins C []) m1 else .bad)
    | none => .bad)
  | .meth mt o es, r, m => (ev T call o r m).bind fun x m1 => (match view m1 x with
    | some (.ins C _) => (match T.cls[C]? with
      | some c => (match (if c.xfs.isNone then lookF mt c.meths else none) with
        | some f => (evs T call es r m1).bind fun xs m2 => call f (fill T f (x :: xs)) m2
        | none => .bad)
      | none => .bad)
    | _ => .bad)
  | .bm0 b a, r, m => (ev T call a r m).bind fun x m1 => bm0A b x m1
  | .bm1 b a c, r, m => (ev T call a r m).bind fun x m1 => if bmTy b x m1 then (ev T call c r m1).bind fun y m2 => bm1A b x y m2 else .bad
  | .isi a t, r, m => (ev T call a r m).bind fun x m1 => isiA T x t m1
  | .lc mu tg tup it cond e, r, m => (evIt T call it r m).bind fun s m1 => (match s with
    | .fix xs => if Nat.blt xs.length sz then (lcL tg tup (evC T call cond) (ev T call e) (wipeE r tg) xs m1).bind fun ys m2 => mkLst mu ys m2 else .bad
    | .live _ => .bad)
  | .frz a, r, m => (ev T call a r m).bind fun x m1 => (frA 6 x m1).bind fun d m2 => okZ d m2
def evs (T : Tab) (call : Nat → List A → Store → R A) : Es → Env → Store → R (List A)
  | .nil, _, m => .ok [] m
  | .cons e es, r, m => (ev T call e r m).bind fun x m1 => (evs T call es r m1).bind fun xs m2 => .ok (x :: xs) m2
/-- and, or -/
def evAnd (T : Tab) (call : Nat → List A → Store → R A) : Es → Env → Store → R A
  | .nil, _, _ => .bad
  | .cons e .nil, r, m => ev T call e r m
  | .cons e es, r, m => (ev T call e r m).bind fun x m1 => (match tru m1 x with
    | some true => evAnd T call es r m1
    | some false => .ok x m1
    | none => .bad)
def evOr (T : Tab) (call : Nat → List A → Store → R A) : Es → Env → Store → R A
  | .nil, _, _ => .bad
  | .cons e .nil, r, m => ev T call e r m
  | .cons e es, r, m => (ev T call e r m).bind fun x m1 => (match tru m1 x with
    | some false => evOr T call es r m1
    | some true => .ok x m1
    | none => .bad)
/-- a slice's part: an int or none -/
def evO (T : Tab) (call : Nat → List A → Store → R A) : Oe → Env → Store → R (Option Int)
  | .no, _, m => .ok none m
  | .some e, r, m => (ev T call e r m).bind fun x m1 => (match x with
    | .z (.int i) => .ok (some i) m1
    | _ => .bad)
/-- a comprehension's test -/
def evC (T : Tab) (call : Nat → List A → Store → R A) : Oe → Env → Store → R A
  | .no, _, m => okZ (.bl true) m
  | .some e, r, m => ev T call e r m
def evIt (T : Tab) (call : Nat → List A → Store → R A) : It → Env → Store → R Src
  | .rng1 a, r, m => (ev T call a r m).bind fun x m1 => (match x with
    | .z (.int i) => if inR i then .ok (.fix (rngL 0 i.toNat)) m1 else .bad
    | _ => .bad)
  | .rng2 a b, r, m => (ev T call a r m).bind fun x m1 => (ev T call b r m1).bind fun y m2 => (match x, y with
    | .z (.int i), .z (.int j) => if inR i && inR j then .ok (.fix (rngL i (j - i).toNat)) m2 else .bad
    | _, _ => .bad)
  | .rrng1 a, r, m => (ev T call a r m).bind fun x m1 => (match x with
    | .z (.int i) => if inR i then .ok (.fix (rngL 0 i.toNat).reverse) m1 else .bad
    | _ => .bad)
  | .of a, r, m => (ev T call a r m).bind fun x m1 => (match x with
    | .z (.lst xs) => .ok (.fix (xs.map .z)) m1
    | .z (.tup xs) => .ok (.fix (xs.map .z)) m1
    | .z (.scr xs) => .ok (.fix (xs.map fun i => .z (.int i))) m1
    | .z (.str xs) => .ok (.fix (xs.map fun c => .z (.str [c]))) m1
    | .h n => (match cell m1 n with
      | some (.lst _) => .ok (.live n) m1
      | _ => .bad)
    | _ => .bad)
end
/-! ### statements -/
inductive O where
  | nx (r : Env) (m : Store) | rt (a : A) (m : Store) | ex (C : Nat) (fs : List (Nat × D)) (r : Env) (m : Store) | bad
def O.ofR {α : Type} (x : R α) (r : Env) (f : α → Store → O) : O := match x with
  | .ok a m => f a m
  | .ex C fs m => .ex C fs r m
  | .bad => .bad
@[simp] theorem O.ofR_ok {α : Type} (a : α) (m : Store) (r : Env) (f : α → Store → O) : O.ofR (R.ok a m) r f = f a m := rfl
@[simp] theorem O.ofR_ex {α : Type} (C : Nat) (fs : List (Nat × D)) (m : Store) (r : Env) (f : α → Store → O) : O.ofR (R.ex C fs m) r f = .ex C fs r m := rfl
@[simp] theorem O.ofR_bad {α : Type} (r : Env) (f : α → Store → O) : O.ofR (R.bad : R α) r f = .bad := rfl
def O.seq (x : O) (f : Env → Store → O) : O := match x with
  | .nx r m => f r m
  | o => o
@[simp] theorem O.seq_nx (r : Env) (m : Store) (f : Env → Store → O) : (O.nx r m).seq f = f r m := rfl
@[simp] theorem O.seq_rt (a : A) (m : Store) (f : Env → Store → O) : (O.rt a m).seq f = .rt a m := rfl
@[simp] theorem O.seq_ex (C : Nat) (fs : List (Nat × D)) (r : Env) (m : Store) (f : Env → Store → O) : (O.ex C fs r m).seq f = .ex C fs r m := rfl
@[simp] theorem O.seq_bad (f : Env → Store → O) : O.bad.seq f = .bad := rfl
/-- the bound of a while's turns -/
def W0 : Nat := 1048576
def whl (c : Env → Store → R A) (b : Env → Store → O) : Nat → Env → Store → O
  | 0, _, _ => .bad
  | n + 1, r, m => O.ofR (c r m) r fun x m1 => match tru m1 x with
    | some true => (b r m1).seq fun r2 m2 => whl c b n r2 m2
    | some false => .nx r m1
    | none => .bad
def forL (tg : List Nat) (tup : Bool) (b : Env → Store → O) : List A → Env → Store → O
  | [], r, m => .nx r m
  | a :: rest, r, m => match setT tg tup a m r with
    | none => .bad
    | some r1 => (b r1 m).seq fun r2 m2 => forL tg tup b rest r2 m2
/-- over a list's cell, item by item -/
def forV (tg : List Nat) (tup : Bool) (b : Env → Store → O) (n : Nat) : Nat → Nat → Env → Store → O
  | 0, _, _, _ => .bad
  | k + 1, i, r, m => match cell m n with
    | some (.lst xs) => (match xs[i]? with
      | none => .nx r m
      | some a => (match setT tg tup a m r with
        | none => .bad
        | some r1 => (b r1 m).seq fun r2 m2 => forV tg tup b n k (i + 1) r2 m2))
    | _ => .bad
/-- the exception as data: class and fields -/
def excFs : List Nat → List D → Option (List (Nat × D))
  | [], _ => some []
  | f :: fs, d :: ds => (excFs fs ds).map ((f, d) :: ·)
  | _ :: _, [] => none
def stA (T : Tab) (o : A) (f : Nat) (x : A) (m : Store) : Option Store := match o with
  | .h n => (match cell m n with
    | some (.ins C fs) => if insC T C && Nat.blt fs.length 900 then some (m.set n (some (.ins C (putFd f x fs)))) else none
    | _ => none)
  | _ => none
def sitA (o i x : A) (m : Store) : Option Store := match o with
  | .h n => (match cell m n, i with
    | some (.lst xs), .z (.int k) => (match ixL xs.length k with
      | some j => some (m.set n (some (.lst (xs.set j x))))
      | none => none)
    | _, _ => none)
  | _ => none
def hasAnc (T : Tab) (C B : Nat) : Bool := match T.cls[C]? with
  | some c => c.anc.contains B
  | none => false
mutual
def exS (T : Tab) (call : Nat → List A → Store → R A) : S → Env → Store → O
  | .pass, r, m => .nx r m
  | .ex e, r, m => O.ofR (ev T call e r m) r fun _ m1 => .nx r m1
  | .asg i e, r, m => O.ofR (ev T call e r m) r fun x m1 => .nx (r.set i (some x)) m1
  | .asgt is e, r, m => O.ofR (ev T call e r m) r fun x m1 => (match setT is true x m1 r with
    | some r1 => .nx r1 m1
    | none => .bad)
  | .sfd o f e, r, m => O.ofR (ev T call e r m) r fun x m1 => O.ofR (ev T call o r m1) r fun y m2 => (match stA T y f x m2 with
    | some m3 => .nx r m3
    | none => .bad)
  | .sit o i e, r, m => O.ofR (ev T call e r m) r fun x m1 => O.ofR (ev T call o r m1) r fun y m2 => O.ofR (ev T call i r m2) r fun k m3 => (match sitA y k x m3 with
    | some m4 => .nx r m4
    | none => .bad)
  | .ret e, r, m => O.ofR (ev T call e r m) r fun x m1 => .rt x m1
  | .retn, _, m => .rt (.z .non) m
  | .iff c a b, r, m => O.ofR (ev T call c r m) r fun x m1 => (match tru m1 x with
    | some true => exSs T call a r m1
    | some false => exSs T call b r m1
    | none => .bad)
  | .whl c b, r, m => whl (ev T call c) (exSs T call b) W0 r m
  | .for_ tg tup it b, r, m => O.ofR (evIt T call it r m) r fun s m1 => (match s with
    | .fix xs => forL tg tup (exSs T call b) xs r m1
    | .live n => forV tg tup (exSs T call b) n W0 0 r m1)
  | .raise C es, r, m => O.ofR (evs T call es r m) r fun xs m1 => (match T.cls[C]?, allZ xs with
    | some c, some ds => (match c.xfs.bind fun xf => excFs xf ds with
      | some fs => .ex C fs r m1
      | none => .bad)
    | _, _ => .bad)
  | .try_ b hs, r, m => (match exSs T call b r m with
    | .ex C fs r1 m1 => exH T call C fs hs r1 m1
    | o => o)
def exSs (T : Tab) (call : Nat → List A → Store → R A) : Ss → Env → Store → O
  | .nil, r, m => .nx r m
  | .cons s ss, r, m => (exS T call s r m).seq fun r1 m1 => exSs T call ss r1 m1
def exH (T : Tab) (call : Nat → List A → Store → R A) (C : Nat) (fs : List (Nat × D)) : Hs → Env → Store → O
  | .nil, r, m => .ex C fs r m
  | .cons B as_ b hs, r, m => match hasAnc T C B with
    | true => (match as_ with
      | none => exSs T call b r m
      | some i => (match exSs T call b (r.set i (some (.z (.ins C fs)))) m with
        | .nx r1 m1 => .nx (r1.set i none) m1
        | o => o))
    | false => exH T call C fs hs r m
end
/-- every handle below L -/
def belA (L : Nat) : A → Bool
  | .z _ => true
  | .h n => Nat.blt n L
def belN (L : Nat) : Nd → Bool
  | .at _ => true
  | .lst xs => xs.all (belA L)
  | .tup xs => xs.all (belA L)
  | .dct kvs => kvs.all fun p => belA L p.2
  | .ins _ fs => fs.all fun p => belA L p.2
/-- each older cell is as it was, or holds no newer cell -/
def KeepOk (m0 m : Store) : Prop := m0.length ≤ m.length ∧ ∀ n, n < m0.length → m[n]? = m0[n]? ∨ ∀ c, cell m n = some c → belN m0.length c = true
open Classical in
/-- a def's end: the cells that it made are dropped where no older cell holds one -/
noncomputable def drp (m0 m : Store) : Store := if KeepOk m0 m then m.take m0.length else m
noncomputable def fin (m0 : Store) (o : O) : R A := match o with
  | .nx _ m => .ok (.z .non) (drp m0 m)
  | .rt (.z d) m => .ok (.z d) (drp m0 m)
  | .rt (.h n) m => .ok (.h n) (if n < m0.length then drp m0 m else m)
  | .ex C fs _ m => .ex C fs (drp m0 m)
  | .bad => .bad
noncomputable def callF (T : Tab) : Nat → Nat → List A → Store → R A
  | 0, _, _, _ => .bad
  | n + 1, f, xs, m => match T.fns[f]? with
    | none => .bad
    | some fd => if Nat.beq xs.length fd.ps then fin m (exSs T (callF T n) fd.body (xs.map some ++ List.replicate (fd.slots - fd.ps) none) m) else .bad
end GL

/-! G2: how the abstract heap of HandS bears the ghost state. -/
namespace GL
open PySem L2

def tx (x : List Nat) : Str := ⟨x.toArray⟩
theorem tx_cps (x : List Nat) : (tx x).cps.toList = x := rfl
theorem tx_inj {x y : List Nat} (h : tx x = tx y) : x = y := by
  have := congrArg (fun s : Str => s.cps.toList) h
  exact this
theorem tx_len (x : List Nat) : (tx x).length = x.length := rfl
theorem tx_app (x y : List Nat) : tx x ++ tx y = tx (x ++ y) := by
  show (⟨x.toArray ++ y.toArray⟩ : Str) = ⟨(x ++ y).toArray⟩
  rw [List.append_toArray]
theorem tx_eq (x y : List Nat) : (tx x = tx y) ↔ x = y := ⟨tx_inj, fun h => by rw [h]⟩
theorem ofs (s : Str) : s = tx s.cps.toList := by
  obtain ⟨a⟩ := s
  simp [tx]

/-- names: of functions (a global; a class's method), classes, attributes, methods, constants -/
structure Nms where
  fn : List (Str × Option Str)
  cl : List Str
  fl : List Str
  mt : List Str
  gl : List Str
variable (N : Nms) (K : PySem.W.Frag)
def cad (C : Nat) : Addr := He.ga K (N.cl.getD C Str.empty)
def fad (f : Nat) : Addr := He.fAd K (N.fn.getD f (Str.empty, none))
def fnm (f : Nat) : Str := N.fl.getD f Str.empty

/-! ### frozen data -/
def keyK : D → Option Key
  | .int i => some (.inl i)
  | .str x => some (.inr (tx x))
  | _ => none
mutual
inductive RV (F : Hp) : V → D → Prop
  | non : RV F .non .non
  | bl (b : Bool) : RV F (.bl b) (.bl b)
  | int (i : Int) : RV F (.int i) (.int i)
  | str (x : List Nat) : RV F (.str (tx x)) (.str x)
  | lst {a : Addr} {vs : List V} {ds : List D} : F a = some (.lst vs) → RVs F vs ds → RV F (.ref a) (.lst ds)
  | tup {a : Addr} {vs : List V} {ds : List D} : SqT K F a vs → RVs F vs ds → RV F (.ref a) (.tup ds)
  | dK {a : Addr} {ks : List (Key × V)} {ds : List (D × D)} : F a = some (.dK ks) → RKs F ks ds → RV F (.ref a) (.dct ds)
  | dT {a : Addr} {ks : List (List Key × V)} {ds : List (D × D)} : F a = some (.dT ks) → RTs F ks ds → RV F (.ref a) (.dct ds)
  | ins {a : Addr} {C : Nat} {dx : Addr} {fs : List (Str × V)} {ds : List (Nat × D)} : F a = some (.ins (cad N K C) dx fs) → RFs F fs ds → RV F (.ref a) (.ins C ds)
  | scr {a : Addr} {ns : List Int} : SqL K F a (ns.map V.int) → RV F (.ref a) (.scr ns)
inductive RVs (F : Hp) : List V → List D → Prop
  | nil : RVs F [] []
  | cons {v : V} {vs : List V} {d : D} {ds : List D} : RV F v d → RVs F vs ds → RVs F (v :: vs) (d :: ds)
inductive RKs (F : Hp) : List (Key × V) → List (D × D) → Prop
  | nil : RKs F [] []
  | cons {k : Key} {v : V} {vs : List (Key × V)} {q d : D} {ds : List (D × D)} : keyK q = some k → RV F v d → RKs F vs ds → RKs F ((k, v) :: vs) ((q, d) :: ds)
inductive RTs (F : Hp) : List (List Key × V) → List (D × D) → Prop
  | nil : RTs F [] []
  | cons {ks : List Key} {v : V} {vs : List (List Key × V)} {qs : List D} {d : D} {ds : List (D × D)} : qs.map keyK = ks.map some → RV F v d → RTs F vs ds → RTs F ((ks, v) :: vs) ((.tup qs, d) :: ds)
inductive RFs (F : Hp) : List (Str × V) → List (Nat × D) → Prop
  | nil : RFs F [] []
  | cons {f : Nat} {v : V} {vs : List (Str × V)} {d : D} {ds : List (Nat × D)} : f < N.fl.length → RV F v d → RFs F vs ds → RFs F ((fnm N f, v) :: vs) ((f, d) :: ds)
end
def Sub (F F' : Hp) : Prop := ∀ a o, F a = some o → F' a = some o
theorem Sub.refl {F : Hp} : Sub F F := fun _ _ h => h
theorem Sub.trans {F F' F'' : Hp} (a : Sub F F') (b : Sub F' F'') : Sub F F'' := fun x o h => b x o (a x o h)
def isDi : HO → Bool
  | .dK _ => true
  | .dT _ => true
  | _ => false
/-- the frozen part stands in the heap (a dict perhaps locked) -/
def SubH (F H : Hp) : Prop := ∀ a o, F a = some o → H a = some o ∨ (isDi o = true ∧ ∃ od, H a = some (.frz od o))
theorem Sub.sqT {F F' : Hp} (s : Sub F F') {a : Addr} {vs : List V} (h : SqT K F a vs) : SqT K F' a vs := by
  rcases h with (h | ⟨o, h⟩) | h
  · exact .inl (.inl (s _ _ h))
  · exact .inl (.inr ⟨o, s _ _ h⟩)
  · exact .inr h
theorem Sub.sqL {F F' : Hp} (s : Sub F F') {a : Addr} {vs : List V} (h : SqL K F a vs) : SqL K F' a vs := by
  rcases h with (h | ⟨o, h⟩) | h
  · exact .inl (.inl (s _ _ h))
  · exact .inl (.inr ⟨o, s _ _ h⟩)
  · exact .inr h
theorem SubH.sqT {F H : Hp} (s : SubH F H) {a : Addr} {vs : List V} (h : SqT K F a vs) : SqT K H a vs := by
  rcases h with (h | ⟨o, h⟩) | h
  · rcases s _ _ h with h | ⟨h, _⟩
    · exact .inl (.inl h)
    · cases h
  · rcases s _ _ h with h | ⟨h, _⟩
    · exact .inl (.inr ⟨o, h⟩)
    · cases h
  · exact .inr h
theorem SubH.sqL {F H : Hp} (s : SubH F H) {a : Addr} {vs : List V} (h : SqL K F a vs) : SqL K H a vs := by
  rcases h with (h | ⟨o, h⟩) | h
  · rcases s _ _ h with h | ⟨h, _⟩
    · exact .inl (.inl h)
    · cases h
  · rcases s _ _ h with h | ⟨h, _⟩
    · exact .inl (.inr ⟨o, h⟩)
    · cases h
  · exact .inr h
theorem SubH.lst {F H : Hp} (s : SubH F H) {a : Addr} {vs : List V} (h : F a = some (.lst vs)) : H a = some (.lst vs) := by
  rcases s _ _ h with h | ⟨h, _⟩
  · exact h
  · cases h
theorem SubH.ins {F H : Hp} (s : SubH F H) {a C dx : Addr} {vs : List (Str × V)} (h : F a = some (.ins C dx vs)) : H a = some (.ins C dx vs) := by
  rcases s _ _ h with h | ⟨h, _⟩
  · exact h
  · cases h
theorem SubH.rd {F H : Hp} (s : SubH F H) {a : Addr} {o : HO} (h : F a = some o) : Rd H a o := by
  rcases s _ _ h with h | ⟨_, od, h⟩
  · exact .inl h
  · exact .inr ⟨od, h⟩
mutual
theorem RV.mono {F F' : Hp} (s : Sub F F') : ∀ {v : V} {d : D}, RV N K F v d → RV N K F' v d
  | _, _, .non => .non
  | _, _, .bl b => .bl b
  | _, _, .int i => .int i
  | _, _, .str x => .str x
  | _, _, .lst h r => .lst (s _ _ h) (RVs.mono s r)
  | _, _, .tup h r => .tup (s.sqT K h) (RVs.mono s r)
  | _, _, .dK h r => .dK (s _ _ h) (RKs.mono s r)
  | _, _, .dT h r => .dT (s _ _ h) (RTs.mono s r)
  | _, _, .ins h r => .ins (s _ _ h) (RFs.mono s r)
  | _, _, .scr h => .scr (s.sqL K h)
theorem RVs.mono {F F' : Hp} (s : Sub F F') : ∀ {v : List V} {d : List D}, RVs N K F v d → RVs N K F' v d
  | _, _, .nil => .nil
  | _, _, .cons h r => .cons (RV.mono s h) (RVs.mono s r)
theorem RKs.mono {F F' : Hp} (s : Sub F F') : ∀ {v : List (Key × V)} {d : List (D × D)}, RKs N K F v d → RKs N K F' v d
  | _, _, .nil => .nil
  | _, _, .cons e h r => .cons e (RV.mono s h) (RKs.mono s r)
theorem RTs.mono {F F' : Hp} (s : Sub F F') : ∀ {v : List (List Key × V)} {d : List (D × D)}, RTs N K F v d → RTs N K F' v d
  | _, _, .nil => .nil
  | _, _, .cons e h r => .cons e (RV.mono s h) (RTs.mono s r)
theorem RFs.mono {F F' : Hp} (s : Sub F F') : ∀ {v : List (Str × V)} {d : List (Nat × D)}, RFs N K F v d → RFs N K F' v d
  | _, _, .nil => .nil
  | _, _, .cons e h r => .cons e (RV.mono s h) (RFs.mono s r)
end
/-! ### values with handles, cells -/
structure Gs where
  F : Hp
  t : Nat → Addr
  m : Store
  H : Hp
/-- a value -/
inductive RA (F : Hp) (t : Nat → Addr) (L : Nat) : V → A → Prop
  | z {v : V} {d : D} : RV N K F v d → RA F t L v (.z d)
  | h {n : Nat} : n < L → RA F t L (.ref (t n)) (.h n)
inductive RAs (F : Hp) (t : Nat → Addr) (L : Nat) : List V → List A → Prop
  | nil : RAs F t L [] []
  | cons {v : V} {vs : List V} {d : A} {ds : List A} : RA N K F t L v d → RAs F t L vs ds → RAs F t L (v :: vs) (d :: ds)
inductive RAk (F : Hp) (t : Nat → Addr) (L : Nat) : List (Key × V) → List (D × A) → Prop
  | nil : RAk F t L [] []
  | cons {k : Key} {v : V} {vs : List (Key × V)} {q : D} {d : A} {ds : List (D × A)} : keyK q = some k → RA N K F t L v d → RAk F t L vs ds → RAk F t L ((k, v) :: vs) ((q, d) :: ds)
inductive RAt (F : Hp) (t : Nat → Addr) (L : Nat) : List (List Key × V) → List (D × A) → Prop
  | nil : RAt F t L [] []
  | cons {ks : List Key} {v : V} {vs : List (List Key × V)} {qs : List D} {d : A} {ds : List (D × A)} : qs.map keyK = ks.map some → RA N K F t L v d → RAt F t L vs ds → RAt F t L ((ks, v) :: vs) ((.tup qs, d) :: ds)
inductive RAf (F : Hp) (t : Nat → Addr) (L : Nat) : List (Str × V) → List (Nat × A) → Prop
  | nil : RAf F t L [] []
  | cons {f : Nat} {v : V} {vs : List (Str × V)} {d : A} {ds : List (Nat × A)} : f < N.fl.length → RA N K F t L v d → RAf F t L vs ds → RAf F t L ((fnm N f, v) :: vs) ((f, d) :: ds)
/-- a cell's object -/
inductive RN (F : Hp) (t : Nat → Addr) (L : Nat) : HO → Nd → Prop
  | lst {vs : List V} {as : List A} : RAs N K F t L vs as → RN F t L (.lst vs) (.lst as)
  | tup {vs : List V} {as : List A} : RAs N K F t L vs as → RN F t L (.tup vs) (.tup as)
  | dK {vs : List (Key × V)} {as : List (D × A)} : RAk N K F t L vs as → RN F t L (.dK vs) (.dct as)
  | dT {vs : List (List Key × V)} {as : List (D × A)} : RAt N K F t L vs as → RN F t L (.dT vs) (.dct as)
  | ins {C : Nat} {dx : Addr} {vs : List (Str × V)} {as : List (Nat × A)} : RAf N K F t L vs as → RN F t L (.ins (cad N K C) dx vs) (.ins C as)
/-- a ghost step keeps what values say -/
structure Ext (F : Hp) (t : Nat → Addr) (L : Nat) (F' : Hp) (t' : Nat → Addr) (L' : Nat) : Prop where
  sub : Sub F F'
  len : L ≤ L'
  t : ∀ n, n < L → t' n = t n
section
variable {F F' : Hp} {t t' : Nat → Addr} {L L' : Nat}
theorem Ext.refl : Ext F t L F t L := ⟨Sub.refl, Nat.le_refl _, fun _ _ => rfl⟩
theorem Ext.trans {F'' : Hp} {t'' : Nat → Addr} {L'' : Nat} (a : Ext F t L F' t' L') (b : Ext F' t' L' F'' t'' L'') : Ext F t L F'' t'' L'' :=
  ⟨a.sub.trans b.sub, Nat.le_trans a.len b.len, fun n h => (b.t n (Nat.lt_of_lt_of_le h a.len)).trans (a.t n h)⟩
theorem RA.mono (e : Ext F t L F' t' L') {v : V} {a : A} (r : RA N K F t L v a) : RA N K F' t' L' v a := by
  cases r with
  | z r => exact .z (r.mono N K e.sub)
  | h n => rw [← e.t _ n]; exact .h (Nat.lt_of_lt_of_le n e.len)
theorem RAs.mono (e : Ext F t L F' t' L') : ∀ {v : List V} {a : List A}, RAs N K F t L v a → RAs N K F' t' L' v a
  | _, _, .nil => .nil
  | _, _, .cons h r => .cons (h.mono N K e) (RAs.mono e r)
theorem RAk.mono (e : Ext F t L F' t' L') : ∀ {v : List (Key × V)} {a : List (D × A)}, RAk N K F t L v a → RAk N K F' t' L' v a
  | _, _, .nil => .nil
  | _, _, .cons q h r => .cons q (h.mono N K e) (RAk.mono e r)
theorem RAt.mono (e : Ext F t L F' t' L') : ∀ {v : List (List Key × V)} {a : List (D × A)}, RAt N K F t L v a → RAt N K F' t' L' v a
  | _, _, .nil => .nil
  | _, _, .cons q h r => .cons q (h.mono N K e) (RAt.mono e r)
theorem RAf.mono (e : Ext F t L F' t' L') : ∀ {v : List (Str × V)} {a : List (Nat × A)}, RAf N K F t L v a → RAf N K F' t' L' v a
  | _, _, .nil => .nil
  | _, _, .cons q h r => .cons q (h.mono N K e) (RAf.mono e r)
theorem RN.mono (e : Ext F t L F' t' L') {v : HO} {a : Nd} (r : RN N K F t L v a) : RN N K F' t' L' v a := by
  cases r with
  | lst r => exact .lst (r.mono N K e)
  | tup r => exact .tup (r.mono N K e)
  | dK r => exact .dK (r.mono N K e)
  | dT r => exact .dT (r.mono N K e)
  | ins r => exact .ins (r.mono N K e)
theorem RAs.len : ∀ {v : List V} {a : List A}, RAs N K F t L v a → v.length = a.length
  | _, _, .nil => rfl
  | _, _, .cons _ r => by simp [RAs.len r]
theorem RAs.app : ∀ {v w : List V} {a b : List A}, RAs N K F t L v a → RAs N K F t L w b → RAs N K F t L (v ++ w) (a ++ b)
  | _, _, _, _, .nil, s => s
  | _, _, _, _, .cons h r, s => .cons h (RAs.app r s)
theorem RAs.get : ∀ {v : List V} {a : List A} {i : Nat} {x : A}, RAs N K F t L v a → a[i]? = some x → ∃ y, v[i]? = some y ∧ RA N K F t L y x
  | _, _, 0, _, .cons h r, e => by
    simp only [List.getElem?_cons_zero, Option.some.injEq] at e ⊢
    subst e
    exact ⟨_, rfl, h⟩
  | _, _, i + 1, _, .cons h r, e => by
    simp only [List.getElem?_cons_succ] at e ⊢
    exact RAs.get r e
theorem RAs.of : ∀ {v : List V} {d : List D}, RVs N K F v d → RAs N K F t L v (d.map .z)
  | _, _, .nil => .nil
  | _, _, .cons h r => .cons (.z h) (RAs.of r)
theorem RAs.toZ : ∀ {v : List V} {a : List A} {d : List D}, RAs N K F t L v a → allZ a = some d → RVs N K F v d
  | _, _, _, .nil, e => by
    simp only [allZ, Option.some.injEq] at e
    subst e
    exact .nil
  | _, _, _, .cons (d := .z q) h r, e => by
    simp only [allZ] at e
    cases e2 : allZ _ with
    | none => rw [e2] at e; cases e
    | some ds =>
      rw [e2] at e
      simp only [Option.map_some, Option.some.injEq] at e
      subst e
      cases h with
      | z h => exact .cons h (RAs.toZ r e2)
  | _, _, _, .cons (d := .h q) h r, e => by simp [allZ] at e
end
end GL

/-! G3: ghost states and steps. -/
namespace GL
open PySem L2
variable (N : Nms) (K : PySem.W.Frag)

structure SR (F : Hp) (t : Nat → Addr) (m : Store) (H : Hp) : Prop where
  sub : SubH F H
  cel : ∀ n c, cell m n = some c → ∃ o, H (t n) = some o ∧ RN N K F t m.length o c ∧ F (t n) = none
  inj : ∀ n k c d, cell m n = some c → cell m k = some d → t n = t k → n = k
structure Stp (F : Hp) (t : Nat → Addr) (m : Store) (H : Hp) (F' : Hp) (t' : Nat → Addr) (m' : Store) (H' : Hp) : Prop where
  ext : Ext F t m.length F' t' m'.length
  sr : SR N K F' t' m' H'
  fr : ∀ a o, H a = some o → (∀ n c, cell m n = some c → t n ≠ a) → H' a = some o
  sth : ∀ a o, H a = some o → ∃ o', H' a = some o'
  liv : ∀ n c', cell m' n = some c' → n < m.length → ∃ c, cell m n = some c
  fre : ∀ n c', cell m' n = some c' → m.length ≤ n → H (t' n) = none
  nw : ∀ a o, F' a = some o → F a = some o ∨ H a = none ∨ ∃ n c, cell m n = some c ∧ t n = a
section
variable {N K} {F F' F'' : Hp} {t t' t'' : Nat → Addr} {m m' m'' : Store} {H H' H'' : Hp}
theorem cell_lt {n : Nat} {c : Nd} (h : cell m n = some c) : n < m.length := by
  unfold cell at h
  split at h
  · rename_i e
    exact (List.getElem?_eq_some_iff.mp e).1
  · cases h
theorem Stp.refl (sr : SR N K F t m H) : Stp N K F t m H F t m H :=
  ⟨Ext.refl, sr, fun _ _ h _ => h, fun _ o h => ⟨o, h⟩, fun n c h _ => ⟨c, h⟩, fun n c h z => absurd (cell_lt h) (Nat.not_lt.mpr z), fun _ _ h => .inl h⟩
theorem Stp.trans (a : Stp N K F t m H F' t' m' H') (b : Stp N K F' t' m' H' F'' t'' m'' H'') : Stp N K F t m H F'' t'' m'' H'' := by
  refine ⟨a.ext.trans b.ext, b.sr, fun x o h nc => b.fr x o (a.fr x o h nc) fun n c hc e => ?_, fun x o h => ?_, fun n c h z => ?_, fun n c h z => ?_, fun x o h => ?_⟩
  · by_cases hn : n < m.length
    · obtain ⟨c0, h0⟩ := a.liv n c hc hn
      exact nc n c0 h0 ((a.ext.t n hn).symm.trans e)
    · have q := a.fre n c hc (Nat.not_lt.mp hn)
      rw [e, h] at q
      cases q
  · obtain ⟨o', h'⟩ := a.sth x o h
    exact b.sth x o' h'
  · obtain ⟨c', h'⟩ := b.liv n c h (Nat.lt_of_lt_of_le z a.ext.len)
    exact a.liv n c' h' z
  · cases q : H (t'' n) with
    | none => rfl
    | some o =>
      obtain ⟨o', h'⟩ := a.sth _ o q
      by_cases hn : n < m'.length
      · obtain ⟨c1, h1⟩ := b.liv n c h hn
        have e1 := a.fre n c1 h1 z
        rw [← b.ext.t n hn, q] at e1
        cases e1
      · have e1 := b.fre n c h (Nat.not_lt.mp hn)
        rw [h'] at e1
        cases e1
  · rcases b.nw x o h with h | h | ⟨n, c, h, e⟩
    · exact a.nw x o h
    · cases q : H x with
      | none => exact .inr (.inl rfl)
      | some u =>
        obtain ⟨u', h'⟩ := a.sth x u q
        rw [h] at h'
        cases h'
    · by_cases hn : n < m.length
      · obtain ⟨c0, h0⟩ := a.liv n c h hn
        exact .inr (.inr ⟨n, c0, h0, by rw [← e, a.ext.t n hn]⟩)
      · exact .inr (.inl (by rw [← e]; exact a.fre n c h (Nat.not_lt.mp hn)))
theorem SR.fnone (sr : SR N K F t m H) {p : Addr} (h : H p = none) : F p = none := by
  cases q : F p with
  | none => rfl
  | some o =>
    rcases sr.sub _ _ q with e | ⟨_, od, e⟩ <;> (rw [h] at e; cases e)
theorem SR.tne (sr : SR N K F t m H) {p : Addr} (h : H p = none) {n : Nat} {c : Nd} (hc : cell m n = some c) : t n ≠ p := by
  intro e
  obtain ⟨o, e1, _⟩ := sr.cel n c hc
  rw [e, h] at e1
  cases e1
theorem Ext.upd {L : Nat} {p : Addr} {o : HO} (h : F p = none) : Ext F t L (upd F p o) t L :=
  ⟨fun a u e => by rw [upd_ne (ne_of_none e h)]; exact e, Nat.le_refl _, fun _ _ => rfl⟩
/-- a fresh frozen object -/
theorem Stp.frz {p : Addr} {o : HO} (sr : SR N K F t m H) (h : H p = none) : Stp N K F t m H (upd F p o) t m (upd H p o) := by
  have hf := sr.fnone h
  refine ⟨Ext.upd hf, ⟨fun a u e => ?_, fun n c hc => ?_, sr.inj⟩, fun a u e _ => by rw [upd_ne (ne_of_none e h)]; exact e, fun a u e => ⟨u, by rw [upd_ne (ne_of_none e h)]; exact e⟩, fun n c h _ => ⟨c, h⟩, fun n c h z => absurd (cell_lt h) (Nat.not_lt.mpr z), fun a u e => ?_⟩
  rotate_right
  · by_cases ha : a = p
    · subst ha
      exact .inr (.inl h)
    · rw [upd_ne ha] at e
      exact .inl e
  · by_cases ha : a = p
    · subst ha
      rw [upd_same] at e ⊢
      exact .inl e
    · rw [upd_ne ha] at e ⊢
      exact sr.sub a u e
  · obtain ⟨u, e1, e2, e3⟩ := sr.cel n c hc
    have ne := sr.tne h hc
    exact ⟨u, by rw [upd_ne ne]; exact e1, e2.mono N K (Ext.upd hf), by rw [upd_ne ne]; exact e3⟩
theorem cell_app {n : Nat} {c d : Nd} (h : cell (m ++ [some c]) n = some d) : (n = m.length ∧ d = c) ∨ (n < m.length ∧ cell m n = some d) := by
  unfold cell at h ⊢
  by_cases hn : n < m.length
  · rw [List.getElem?_append_left hn] at h
    exact .inr ⟨hn, h⟩
  · rw [List.getElem?_append_right (Nat.not_lt.mp hn)] at h
    by_cases e : n = m.length
    · subst e
      simp at h
      exact .inl ⟨rfl, h.symm⟩
    · have : [some c][n - m.length]? = none := by
        rw [List.getElem?_eq_none_iff]
        simp
        omega
      rw [this] at h
      cases h
def tput (t : Nat → Addr) (L : Nat) (p : Addr) : Nat → Addr := fun n => if n = L then p else t n
theorem tput_same {L : Nat} {p : Addr} : tput t L p L = p := by unfold tput; rw [if_pos rfl]
theorem tput_ne {L n : Nat} {p : Addr} (h : n ≠ L) : tput t L p n = t n := by unfold tput; rw [if_neg h]
theorem Ext.new {L : Nat} {p : Addr} : Ext F t L F (tput t L p) (L + 1) := ⟨Sub.refl, Nat.le_succ _, fun n h => tput_ne (Nat.ne_of_lt h)⟩
/-- a fresh cell -/
theorem Stp.cell {p : Addr} {o : HO} {c : Nd} (sr : SR N K F t m H) (h : H p = none) (r : RN N K F t m.length o c) : Stp N K F t m H F (tput t m.length p) (m ++ [some c]) (upd H p o) := by
  have hf := sr.fnone h
  have hl : (m ++ [some c]).length = m.length + 1 := by simp
  refine ⟨by rw [hl]; exact Ext.new, ⟨fun a u e => ?_, fun n d hd => ?_, fun n k d d' hd hd' e => ?_⟩, fun a u e _ => by rw [upd_ne (ne_of_none e h)]; exact e, fun a u e => ⟨u, by rw [upd_ne (ne_of_none e h)]; exact e⟩, fun n d hd z => ?_, fun n d hd z => ?_, fun _ _ e => .inl e⟩
  · have ha : a ≠ p := fun q => by subst q; rw [hf] at e; cases e
    rw [upd_ne ha]
    exact sr.sub a u e
  · rcases cell_app hd with ⟨rfl, rfl⟩ | ⟨hn, hd⟩
    · refine ⟨o, by rw [tput_same, upd_same], ?_, by rw [tput_same]; exact hf⟩
      rw [hl]
      exact r.mono N K Ext.new
    · obtain ⟨u, e1, e2, e3⟩ := sr.cel n d hd
      rw [tput_ne (Nat.ne_of_lt hn)]
      refine ⟨u, by rw [upd_ne (sr.tne h hd)]; exact e1, ?_, e3⟩
      rw [hl]
      exact e2.mono N K Ext.new
  · rcases cell_app hd with ⟨rfl, rfl⟩ | ⟨hn, hd2⟩
    · rcases cell_app hd' with ⟨rfl, rfl⟩ | ⟨hn', hd'⟩
      · rfl
      · rw [tput_same, tput_ne (Nat.ne_of_lt hn')] at e
        exact absurd e.symm (sr.tne h hd')
    · rcases cell_app hd' with ⟨rfl, rfl⟩ | ⟨hn', hd'⟩
      · rw [tput_same, tput_ne (Nat.ne_of_lt hn)] at e
        exact absurd e (sr.tne h hd2)
      · rw [tput_ne (Nat.ne_of_lt hn), tput_ne (Nat.ne_of_lt hn')] at e
        exact sr.inj n k d d' hd2 hd' e
  · rcases cell_app hd with ⟨rfl, rfl⟩ | ⟨hn, hd⟩
    · exact absurd z (Nat.lt_irrefl _)
    · exact ⟨d, hd⟩
  · rcases cell_app hd with ⟨rfl, rfl⟩ | ⟨hn, hd⟩
    · rw [tput_same]; exact h
    · omega
theorem cell_set {n k : Nat} {c : Option Nd} {d : Nd} (h : cell (m.set n c) k = some d) : (k = n ∧ c = some d) ∨ (k ≠ n ∧ cell m k = some d) := by
  unfold cell at h ⊢
  by_cases hn : k = n
  · subst hn
    by_cases hl : k < m.length
    · rw [List.getElem?_set_self hl] at h
      cases c with
      | none => simp at h
      | some x =>
        simp at h
        exact .inl ⟨rfl, by rw [h]⟩
    · rw [List.getElem?_eq_none (by simpa using hl)] at h
      cases h
  · rw [List.getElem?_set_ne (Ne.symm hn)] at h
    exact .inr ⟨hn, h⟩
/-- a cell is written -/
theorem Stp.set {n : Nat} {o : HO} {c c0 : Nd} (sr : SR N K F t m H) (h : GL.cell m n = some c0) (r : RN N K F t m.length o c) : Stp N K F t m H F t (m.set n (some c)) (upd H (t n) o) := by
  have hl : (m.set n (some c)).length = m.length := by simp
  obtain ⟨o0, e1, e2, e3⟩ := sr.cel n c0 h
  have liv : ∀ k d, GL.cell (m.set n (some c)) k = some d → ∃ d', GL.cell m k = some d' := fun k d hd => by
    rcases cell_set hd with ⟨rfl, e⟩ | ⟨hn, hd⟩
    · exact ⟨c0, h⟩
    · exact ⟨d, hd⟩
  refine ⟨by rw [hl]; exact Ext.refl, ⟨fun a u e => ?_, fun k d hd => ?_, fun j k d d' hd hd' e => ?_⟩, fun a u e nc => by rw [upd_ne (Ne.symm (nc n c0 h))]; exact e, fun a u e => ?_, fun k d hd _ => liv k d hd, fun k d hd z => ?_, fun _ _ e => .inl e⟩
  · have ha : a ≠ t n := fun q => by subst q; rw [e3] at e; cases e
    rw [upd_ne ha]
    exact sr.sub a u e
  · rw [hl]
    rcases cell_set hd with ⟨rfl, e⟩ | ⟨hn, hd⟩
    · cases e
      exact ⟨o, upd_same, r, e3⟩
    · obtain ⟨u, f1, f2, f3⟩ := sr.cel k d hd
      exact ⟨u, by rw [upd_ne fun q => hn (sr.inj k n d c0 hd h q)]; exact f1, f2, f3⟩
  · obtain ⟨x, hx⟩ := liv j d hd
    obtain ⟨y, hy⟩ := liv k d' hd'
    exact sr.inj j k x y hx hy e
  · by_cases ha : a = t n
    · exact ⟨o, by rw [ha, upd_same]⟩
    · exact ⟨u, by rw [upd_ne ha]; exact e⟩
  · obtain ⟨x, hx⟩ := liv k d hd
    exact absurd (cell_lt hx) (Nat.not_lt.mpr z)
/-- a cell becomes frozen -/
theorem Stp.frzc {n : Nat} {o : HO} {c : Nd} (sr : SR N K F t m H) (h : GL.cell m n = some c) (ho : H (t n) = some o) : Stp N K F t m H (upd F (t n) o) t (m.set n none) H := by
  have hl : (m.set n none).length = m.length := by simp
  obtain ⟨o0, e1, e2, e3⟩ := sr.cel n c h
  have liv : ∀ k d, GL.cell (m.set n none) k = some d → k ≠ n ∧ GL.cell m k = some d := fun k d hd => by
    rcases cell_set hd with ⟨rfl, e⟩ | ⟨hn, hd⟩
    · cases e
    · exact ⟨hn, hd⟩
  refine ⟨by rw [hl]; exact Ext.upd e3, ⟨fun a u e => ?_, fun k d hd => ?_, fun j k d d' hd hd' e => sr.inj j k d d' (liv j d hd).2 (liv k d' hd').2 e⟩, fun a u e _ => e, fun a u e => ⟨u, e⟩, fun k d hd _ => ⟨d, (liv k d hd).2⟩, fun k d hd z => absurd (cell_lt (liv k d hd).2) (Nat.not_lt.mpr z), fun a u e => ?_⟩
  rotate_right
  · by_cases ha : a = t n
    · exact .inr (.inr ⟨n, c, h, ha.symm⟩)
    · rw [upd_ne ha] at e
      exact .inl e
  · by_cases ha : a = t n
    · subst ha
      rw [upd_same] at e
      cases e
      exact .inl ho
    · rw [upd_ne ha] at e
      exact sr.sub a u e
  · obtain ⟨hn, hd⟩ := liv k d hd
    obtain ⟨u, f1, f2, f3⟩ := sr.cel k d hd
    rw [hl]
    exact ⟨u, f1, f2.mono N K (Ext.upd e3), by rw [upd_ne fun q => hn (sr.inj k n d c hd h q)]; exact f3⟩
/-- an object that nothing of the ghost is, is written -/
theorem Stp.own {D : Addr} {o : HO} (st : Stp N K F t m H F' t' m' H') (h : H D = none) (hf : F' D = none) (ht : ∀ n c, GL.cell m' n = some c → t' n ≠ D) : Stp N K F t m H F' t' m' (upd H' D o) := by
  have ne : ∀ a u, H a = some u → a ≠ D := fun a u e z => by subst z; rw [h] at e; cases e
  refine ⟨st.ext, ⟨fun a u e => ?_, fun n c hc => ?_, st.sr.inj⟩, fun a u e nc => by rw [upd_ne (ne a u e)]; exact st.fr a u e nc, fun a u e => by rw [upd_ne (ne a u e)]; exact st.sth a u e, st.liv, st.fre, st.nw⟩
  · rw [upd_ne (fun z => by subst z; rw [hf] at e; cases e)]
    exact st.sr.sub a u e
  · obtain ⟨u, e1, e2, e3⟩ := st.sr.cel n c hc
    exact ⟨u, by rw [upd_ne (ht n c hc)]; exact e1, e2, e3⟩
/-- an object apart stays apart -/
theorem Stp.apart {D : Addr} {o : HO} (st : Stp N K F t m H F' t' m' H') (h : H D = some o) (hf : F D = none) (ht : ∀ n c, GL.cell m n = some c → t n ≠ D) :
    H' D = some o ∧ F' D = none ∧ ∀ n c, GL.cell m' n = some c → t' n ≠ D := by
  refine ⟨st.fr D o h ht, ?_, fun n c hc e => ?_⟩
  · cases q : F' D with
    | none => rfl
    | some u =>
      rcases st.nw D u q with z | z | ⟨n, c, z, e⟩
      · rw [hf] at z; cases z
      · rw [h] at z; cases z
      · exact absurd e (ht n c z)
  · by_cases hn : n < m.length
    · obtain ⟨c0, h0⟩ := st.liv n c hc hn
      exact ht n c0 h0 (by rw [← st.ext.t n hn, e])
    · have z := st.fre n c hc (Nat.not_lt.mp hn)
      rw [e, h] at z
      cases z
/-- an object apart becomes a cell, becomes frozen -/
theorem Stp.join {D : Addr} {o : HO} {c : Nd} (st : Stp N K F t m H F' t' m' H') (h : H D = none) (h2 : H' D = some o) (hf : F' D = none) (ht : ∀ n c, GL.cell m' n = some c → t' n ≠ D) (r : RN N K F' t' m'.length o c) : Stp N K F t m H F' (tput t' m'.length D) (m' ++ [some c]) H' := by
  have hl : (m' ++ [some c]).length = m'.length + 1 := by simp
  refine ⟨by rw [hl]; exact st.ext.trans Ext.new, ⟨st.sr.sub, fun n d hd => ?_, fun n k d d' hd hd' e => ?_⟩, st.fr, st.sth, fun n d hd z => ?_, fun n d hd z => ?_, st.nw⟩
  · rcases cell_app hd with ⟨rfl, rfl⟩ | ⟨hn, hd⟩
    · refine ⟨o, by rw [tput_same]; exact h2, ?_, by rw [tput_same]; exact hf⟩
      rw [hl]
      exact r.mono N K Ext.new
    · obtain ⟨u, e1, e2, e3⟩ := st.sr.cel n d hd
      rw [tput_ne (Nat.ne_of_lt hn), hl]
      exact ⟨u, e1, e2.mono N K Ext.new, e3⟩
  · rcases cell_app hd with ⟨rfl, rfl⟩ | ⟨hn, hd2⟩
    · rcases cell_app hd' with ⟨rfl, rfl⟩ | ⟨hn', hd'⟩
      · rfl
      · rw [tput_same, tput_ne (Nat.ne_of_lt hn')] at e
        exact absurd e.symm (ht _ _ hd')
    · rcases cell_app hd' with ⟨rfl, rfl⟩ | ⟨hn', hd'⟩
      · rw [tput_same, tput_ne (Nat.ne_of_lt hn)] at e
        exact absurd e (ht _ _ hd2)
      · rw [tput_ne (Nat.ne_of_lt hn), tput_ne (Nat.ne_of_lt hn')] at e
        exact st.sr.inj n k d d' hd2 hd' e
  · rcases cell_app hd with ⟨rfl, rfl⟩ | ⟨hn, hd⟩
    · exact absurd z (Nat.not_lt.mpr st.ext.len)
    · exact st.liv n d hd z
  · rcases cell_app hd with ⟨rfl, rfl⟩ | ⟨hn, hd⟩
    · rw [tput_same]; exact h
    · rw [tput_ne (Nat.ne_of_lt hn)]; exact st.fre n d hd z
theorem Stp.ice {D : Addr} {o : HO} (st : Stp N K F t m H F' t' m' H') (h : H D = none) (h2 : H' D = some o) (hf : F' D = none) (ht : ∀ n c, GL.cell m' n = some c → t' n ≠ D) : Stp N K F t m H (upd F' D o) t' m' H' := by
  refine ⟨st.ext.trans (Ext.upd hf), ⟨fun a u e => ?_, fun n d hd => ?_, st.sr.inj⟩, st.fr, st.sth, st.liv, st.fre, fun a u e => ?_⟩
  · by_cases ha : a = D
    · subst ha
      rw [upd_same] at e
      cases e
      exact .inl h2
    · rw [upd_ne ha] at e
      exact st.sr.sub a u e
  · obtain ⟨u, e1, e2, e3⟩ := st.sr.cel n d hd
    exact ⟨u, e1, e2.mono N K (Ext.upd hf), by rw [upd_ne (ht n d hd)]; exact e3⟩
  · by_cases ha : a = D
    · subst ha
      exact .inr (.inl h)
    · rw [upd_ne ha] at e
      exact st.nw a u e
/-- a part of the store is forgotten -/
theorem Stp.drop {L : Nat} (st : Stp N K F t m H F' t' m' H') (hL : m.length ≤ L) (hL2 : L ≤ m'.length) (b : ∀ n c o, n < L → GL.cell m' n = some c → RN N K F' t' m'.length o c → RN N K F' t' L o c) : Stp N K F t m H F' t' (m'.take L) H' := by
  have hl : (m'.take L).length = L := by simp; omega
  have ct : ∀ n c, GL.cell (m'.take L) n = some c → n < L ∧ GL.cell m' n = some c := fun n c h => by
    have hn : n < L := by have := cell_lt h; omega
    unfold GL.cell at h ⊢
    rw [List.getElem?_take_of_lt hn] at h
    exact ⟨hn, h⟩
  refine ⟨by rw [hl]; exact ⟨st.ext.sub, hL, st.ext.t⟩, ⟨st.sr.sub, fun n c h => ?_, fun n k c d hc hd e => st.sr.inj n k c d (ct n c hc).2 (ct k d hd).2 e⟩, st.fr, st.sth, fun n c h z => st.liv n c (ct n c h).2 z, fun n c h z => st.fre n c (ct n c h).2 z, st.nw⟩
  obtain ⟨hn, hc⟩ := ct n c h
  obtain ⟨o, e1, e2, e3⟩ := st.sr.cel n c hc
  rw [hl]
  exact ⟨o, e1, b n c o hn hc e2, e3⟩
end

/-! ### what a value is, by its view -/
section
variable {N K} {F : Hp} {t : Nat → Addr} {m : Store} {H : Hp} {v : V} {a : A}
theorem view_lst (sr : SR N K F t m H) (r : RA N K F t m.length v a) {as : List A} (h : view m a = some (.lst as)) :
    ∃ p vs, v = .ref p ∧ SqL K H p vs ∧ RAs N K F t m.length vs as ∧ (notScr a = true → H p = some (.lst vs)) := by
  cases r with
  | z r =>
    cases r with
    | lst e q =>
      simp only [view, Option.some.injEq, Nd.lst.injEq] at h
      subst h
      exact ⟨_, _, rfl, SqL.of (sr.sub.lst e), RAs.of N K q, fun _ => sr.sub.lst e⟩
    | scr e =>
      rename_i p ns
      simp only [view, Option.some.injEq, Nd.lst.injEq] at h
      subst h
      refine ⟨p, _, rfl, sr.sub.sqL K e, ?_, fun z => by simp [notScr] at z⟩
      clear e
      induction ns with
      | nil => exact .nil
      | cons i r ih => exact .cons (.z (.int i)) ih
    | _ => simp [view] at h
  | h hn =>
    rename_i n
    obtain ⟨o, e1, e2, e3⟩ := sr.cel n _ h
    cases e2 with
    | lst q => exact ⟨_, _, rfl, SqL.of e1, q, fun _ => e1⟩
theorem view_tup (sr : SR N K F t m H) (r : RA N K F t m.length v a) {as : List A} (h : view m a = some (.tup as)) :
    ∃ p vs, v = .ref p ∧ SqT K H p vs ∧ RAs N K F t m.length vs as := by
  cases r with
  | z r =>
    cases r with
    | tup e q =>
      simp only [view, Option.some.injEq, Nd.tup.injEq] at h
      subst h
      exact ⟨_, _, rfl, sr.sub.sqT K e, RAs.of N K q⟩
    | _ => simp [view] at h
  | h hn =>
    rename_i n
    obtain ⟨o, e1, e2, e3⟩ := sr.cel n _ h
    cases e2 with
    | tup q => exact ⟨_, _, rfl, SqT.of e1, q⟩
theorem view_at (sr : SR N K F t m H) (r : RA N K F t m.length v a) {d : D} (h : view m a = some (.at d)) : a = .z d ∧ RV N K F v d := by
  cases r with
  | z r =>
    cases r with
    | non => simp [view] at h; subst h; exact ⟨rfl, .non⟩
    | bl b => simp [view] at h; subst h; exact ⟨rfl, .bl b⟩
    | int b => simp [view] at h; subst h; exact ⟨rfl, .int b⟩
    | str b => simp [view] at h; subst h; exact ⟨rfl, .str b⟩
    | _ => simp [view] at h
  | h hn =>
    rename_i n
    obtain ⟨o, e1, e2, e3⟩ := sr.cel n _ h
    cases e2
theorem view_int (sr : SR N K F t m H) (r : RA N K F t m.length v a) {i : Int} (h : view m a = some (.at (.int i))) : v = .int i := by
  obtain ⟨_, r⟩ := view_at sr r h
  cases r; rfl
theorem view_str (sr : SR N K F t m H) (r : RA N K F t m.length v a) {x : List Nat} (h : view m a = some (.at (.str x))) : v = .str (tx x) := by
  obtain ⟨_, r⟩ := view_at sr r h
  cases r; rfl
theorem RFs.of : ∀ {v : List (Str × V)} {d : List (Nat × D)}, RFs N K F v d → RAf N K F t m.length v (d.map fun p => (p.1, A.z p.2))
  | _, _, .nil => .nil
  | _, _, .cons e h r => .cons e (.z h) (RFs.of r)
theorem RKs.of : ∀ {v : List (Key × V)} {d : List (D × D)}, RKs N K F v d → RAk N K F t m.length v (d.map fun p => (p.1, A.z p.2))
  | _, _, .nil => .nil
  | _, _, .cons e h r => .cons e (.z h) (RKs.of r)
theorem RTs.of : ∀ {v : List (List Key × V)} {d : List (D × D)}, RTs N K F v d → RAt N K F t m.length v (d.map fun p => (p.1, A.z p.2))
  | _, _, .nil => .nil
  | _, _, .cons e h r => .cons e (.z h) (RTs.of r)
theorem view_ins (sr : SR N K F t m H) (r : RA N K F t m.length v a) {C : Nat} {as : List (Nat × A)} (h : view m a = some (.ins C as)) :
    ∃ p dx vs, v = .ref p ∧ H p = some (.ins (cad N K C) dx vs) ∧ RAf N K F t m.length vs as := by
  cases r with
  | z r =>
    cases r with
    | ins e q =>
      simp only [view, Option.some.injEq, Nd.ins.injEq] at h
      obtain ⟨rfl, rfl⟩ := h
      exact ⟨_, _, _, rfl, sr.sub.ins e, RFs.of q⟩
    | _ => simp [view] at h
  | h hn =>
    rename_i n
    obtain ⟨o, e1, e2, e3⟩ := sr.cel n _ h
    cases e2 with
    | ins q => exact ⟨_, _, _, rfl, e1, q⟩
theorem view_dct (sr : SR N K F t m H) (r : RA N K F t m.length v a) {as : List (D × A)} (h : view m a = some (.dct as)) :
    ∃ p, v = .ref p ∧ ((∃ ks, Rd H p (.dK ks) ∧ RAk N K F t m.length ks as) ∨ (∃ ks, Rd H p (.dT ks) ∧ RAt N K F t m.length ks as)) := by
  cases r with
  | z r =>
    cases r with
    | dK e q =>
      simp only [view, Option.some.injEq, Nd.dct.injEq] at h
      subst h
      exact ⟨_, rfl, .inl ⟨_, sr.sub.rd e, RKs.of q⟩⟩
    | dT e q =>
      simp only [view, Option.some.injEq, Nd.dct.injEq] at h
      subst h
      exact ⟨_, rfl, .inr ⟨_, sr.sub.rd e, RTs.of q⟩⟩
    | _ => simp [view] at h
  | h hn =>
    rename_i n
    obtain ⟨o, e1, e2, e3⟩ := sr.cel n _ h
    cases e2 with
    | dK q => exact ⟨_, rfl, .inl ⟨_, .inl e1, q⟩⟩
    | dT q => exact ⟨_, rfl, .inr ⟨_, .inl e1, q⟩⟩
theorem RAf.get (hn : N.fl.Nodup) : ∀ {vs : List (Str × V)} {as : List (Nat × A)} {f : Nat} {x : A} {L : Nat}, f < N.fl.length → RAf N K F t L vs as → lookF f as = some x → ∃ y, vs.lookup (fnm N f) = some y ∧ RA N K F t L y x
  | _, _, _, _, _, _, .nil, e => by simp [lookF] at e
  | _, _, f, x, L, hf, .cons (f := g) hg h r, e => by
    unfold lookF at e
    by_cases q : f = g
    · subst q
      simp only [Nat.beq_refl, if_true, Option.some.injEq] at e
      subst e
      exact ⟨_, by simp [List.lookup_cons], h⟩
    · have q2 : Nat.beq f g = false := by
        cases z : Nat.beq f g with
        | false => rfl
        | true => exact absurd (Nat.eq_of_beq_eq_true z) q
      rw [q2] at e
      have e' : lookF f _ = some x := e
      have ne : fnm N f ≠ fnm N g := by
        intro z
        unfold fnm at z
        rw [List.getD_eq_getElem?_getD, List.getD_eq_getElem?_getD, List.getElem?_eq_getElem hf, List.getElem?_eq_getElem hg] at z
        simp only [Option.getD_some] at z
        exact q ((List.getElem_inj hn).mp z)
      obtain ⟨y, h1, h2⟩ := RAf.get hn hf r e'
      refine ⟨y, ?_, h2⟩
      rw [List.lookup_cons]
      have : (fnm N f == fnm N g) = false := beq_eq_false_iff_ne.mpr ne
      rw [this]
      exact h1
end
end GL

/-! G4: what is wanted behind a ghost result; operators by values. -/
namespace GL
open PySem L2
variable (N : Nms) (K : PySem.W.Frag)

/-- an exception: its class, its own dict -/
def RX (F : Hp) (cls : Value) (d : Option Addr) (C : Nat) (fs : List (Nat × D)) : Prop :=
  cls = .ref (cad N K C) ∧ ((fs = [] ∧ d = none) ∨ ∃ dd vs, d = some dd ∧ F dd = some (.xd vs) ∧ RFs N K F vs fs)
/-- behind a result of data: Q of every value and heap that bears it -/
def Pst {α β : Type} (rl : Hp → (Nat → Addr) → Nat → β → α → Prop) (W : XK) (Q : β → Hp → Prop) (F : Hp) (t : Nat → Addr) (m : Store) (H : Hp) : R α → Prop
  | .ok a m' => ∀ v F' t' H', Stp N K F t m H F' t' m' H' → rl F' t' m'.length v a → Q v H'
  | .ex C fs m' => ∀ cls d F' t' H', Stp N K F t m H F' t' m' H' → RX N K F' cls d C fs → W cls d H'
  | .bad => False
abbrev PstA := Pst N K (RA N K)
section
variable {N K} {α β γ δ : Type} {rl : Hp → (Nat → Addr) → Nat → β → α → Prop} {rg : Hp → (Nat → Addr) → Nat → δ → γ → Prop} {W : XK} {Q : β → Hp → Prop} {F F' : Hp} {t t' : Nat → Addr} {m m' : Store} {H H' : Hp}
theorem Pst.step {r : R α} (p : Pst N K rl W Q F t m H r) (st : Stp N K F t m H F' t' m' H') : Pst N K rl W Q F' t' m' H' r := by
  cases r with
  | ok a m2 => exact fun v F2 t2 H2 s2 r2 => p v F2 t2 H2 (st.trans s2) r2
  | ex C fs m2 => exact fun cls d F2 t2 H2 s2 r2 => p cls d F2 t2 H2 (st.trans s2) r2
  | bad => exact p
/-- the first of two -/
theorem Pst.fst {r : R γ} {f : γ → Store → R α} {Q1 : δ → Hp → Prop} (p : Pst N K rl W Q F t m H (r.bind f))
    (k : ∀ a m1 v F1 t1 H1, Stp N K F t m H F1 t1 m1 H1 → rg F1 t1 m1.length v a → Pst N K rl W Q F1 t1 m1 H1 (f a m1) → Q1 v H1) : Pst N K rg W Q1 F t m H r := by
  cases r with
  | ok a m1 => exact fun v F1 t1 H1 s1 r1 => k a m1 v F1 t1 H1 s1 r1 (Pst.step (r := f a m1) p s1)
  | ex C fs m2 => exact p
  | bad => exact p
theorem Pst.mono {r : R α} {W' : XK} {Q' : β → Hp → Prop} (p : Pst N K rl W Q F t m H r) (hQ : ∀ v H, Q v H → Q' v H) (hW : ∀ c d H, W c d H → W' c d H) : Pst N K rl W' Q' F t m H r := by
  cases r with
  | ok a m2 => exact fun v F2 t2 H2 s2 r2 => hQ _ _ (p v F2 t2 H2 s2 r2)
  | ex C fs m2 => exact fun cls d F2 t2 H2 s2 r2 => hW _ _ _ (p cls d F2 t2 H2 s2 r2)
  | bad => exact p
theorem PstA.ofO {γ : Type} {o : Option γ} {f : γ → R A} {Q : V → Hp → Prop} (p : PstA N K W Q F t m H (ofO o f)) : ∃ a, o = some a ∧ PstA N K W Q F t m H (f a) := by
  cases o with
  | none => exact False.elim p
  | some a => exact ⟨a, rfl, p⟩
/-- nothing happened -/
theorem PstA.here {Q : V → Hp → Prop} {a : A} {v : V} (sr : SR N K F t m H) (p : PstA N K W Q F t m H (.ok a m)) (r : RA N K F t m.length v a) : Q v H := p v F t H (Stp.refl sr) r
theorem PstA.int {Q : V → Hp → Prop} {i : Int} (sr : SR N K F t m H) (p : PstA N K W Q F t m H (okZ (.int i) m)) : Q (.int i) H := p.here sr (.z (.int i))
theorem PstA.bl {Q : V → Hp → Prop} {i : Bool} (sr : SR N K F t m H) (p : PstA N K W Q F t m H (okZ (.bl i) m)) : Q (.bl i) H := p.here sr (.z (.bl i))
theorem PstA.str {Q : V → Hp → Prop} {i : List Nat} (sr : SR N K F t m H) (p : PstA N K W Q F t m H (okZ (.str i) m)) : Q (.str (tx i)) H := p.here sr (.z (.str i))
/-- a fresh list -/
theorem PstA.lst {Q : V → Hp → Prop} {mu : Bool} {as : List A} {vs : List V} (sr : SR N K F t m H) (p : PstA N K W Q F t m H (mkLst mu as m)) (r : RAs N K F t m.length vs as) :
    ∀ q, H q = none → Q (.ref q) (upd H q (.lst vs)) := by
  intro q hq
  cases mu with
  | true =>
    have st := Stp.cell (c := .lst as) sr hq (.lst r)
    refine p (.ref q) _ _ _ st ?_
    have e : V.ref q = .ref (tput t m.length q m.length) := by rw [tput_same]
    rw [e]
    exact .h (by simp)
  | false =>
    unfold mkLst at p
    cases e : allZ as with
    | none => rw [e] at p; exact False.elim p
    | some ds =>
      rw [e] at p
      have st := Stp.frz (o := .lst vs) sr hq
      exact p (.ref q) _ _ _ st (.z (.lst upd_same ((RAs.toZ N K r e).mono N K st.ext.sub)))
theorem PstA.tup {Q : V → Hp → Prop} {as : List A} {vs : List V} (sr : SR N K F t m H) (p : PstA N K W Q F t m H (mkTup as m)) (r : RAs N K F t m.length vs as) :
    ∀ q, H q = none → Q (.ref q) (upd H q (.tup vs)) := by
  intro q hq
  unfold mkTup at p
  cases e : allZ as with
  | none =>
    rw [e] at p
    have st := Stp.cell (c := .tup as) sr hq (.tup r)
    refine p (.ref q) _ _ _ st ?_
    have e : V.ref q = .ref (tput t m.length q m.length) := by rw [tput_same]
    rw [e]
    exact .h (by simp)
  | some ds =>
    rw [e] at p
    have st := Stp.frz (o := .tup vs) sr hq
    exact p (.ref q) _ _ _ st (.z (.tup (SqT.of upd_same) ((RAs.toZ N K r e).mono N K st.ext.sub)))
end
/-- an operation on two values -/
def rB (f : A → A → Store → R A) : R2 := fun x y H Q => ∃ (W : XK), ∃ F t m a b, SR N K F t m H ∧ RA N K F t m.length x a ∧ RA N K F t m.length y b ∧ PstA N K W Q F t m H (f a b m)
section
variable {X : Cx}
theorem b64_mul {i j : Int} (h : (b64 i || b64 j) = true) : CMul i j := by
  unfold b64 at h
  simp only [Bool.or_eq_true, Bool.and_eq_true, decide_eq_true_eq] at h
  unfold CMul
  have e : (2 : Int) ^ 64 = 18446744073709551616 := by decide
  rw [e]
  exact h
theorem pow_ok {i j : Int} (h : powOk i j = true) : CPow i j := by
  unfold powOk at h
  simp only [Bool.and_eq_true, decide_eq_true_eq] at h
  refine ⟨h.1, h.2.1, ?_⟩
  have e : (2 : Nat) ^ 64 = 18446744073709551616 := by decide
  rw [e]
  exact h.2.2
def bop : BOp → Operator
  | .add => .Add | .sub => .Sub | .mul => .Mult | .fdiv => .FloorDiv | .mod => .Mod | .pow => .Pow | .shl => .LShift | .shr => .RShift | .and => .BitAnd | .or => .BitOr | .xor => .BitXor
theorem op_binI (op : BOp) : OpR X (binaryOp (bop op)) (fun x y H Q => ∃ i j k, x = .int i ∧ y = .int j ∧ binI op i j = some k ∧ Q (.int k) H) := by
  intro pins s σ H x y v u Q I rx ry h
  obtain ⟨i, j, k, rfl, rfl, e, q⟩ := h
  cases op with
  | add => simp only [binI, Option.some.injEq] at e; subst e; exact op_add pins s σ H _ _ v u Q I rx ry ⟨i, j, rfl, rfl, q⟩
  | sub => simp only [binI, Option.some.injEq] at e; subst e; exact op_sub pins s σ H _ _ v u Q I rx ry ⟨i, j, rfl, rfl, q⟩
  | and => simp only [binI, Option.some.injEq] at e; subst e; exact op_and pins s σ H _ _ v u Q I rx ry ⟨i, j, rfl, rfl, q⟩
  | or => simp only [binI, Option.some.injEq] at e; subst e; exact op_or pins s σ H _ _ v u Q I rx ry ⟨i, j, rfl, rfl, q⟩
  | xor => simp only [binI, Option.some.injEq] at e; subst e; exact op_xor pins s σ H _ _ v u Q I rx ry ⟨i, j, rfl, rfl, q⟩
  | mul =>
    simp only [binI] at e
    split at e
    · cases e
      exact op_mul pins s σ H _ _ v u Q I rx ry ⟨i, j, rfl, rfl, b64_mul (by assumption), q⟩
    · cases e
  | fdiv =>
    simp only [binI] at e
    split at e
    · rename_i c
      simp only [Bool.and_eq_true, decide_eq_true_eq] at c
      cases e
      exact op_fdiv pins s σ H _ _ v u Q I rx ry ⟨i, j, rfl, rfl, c, q⟩
    · cases e
  | mod =>
    simp only [binI] at e
    split at e
    · rename_i c
      simp only [decide_eq_true_eq] at c
      cases e
      exact op_mod pins s σ H _ _ v u Q I rx ry ⟨i, j, rfl, rfl, c, q⟩
    · cases e
  | pow =>
    simp only [binI] at e
    split at e
    · cases e
      exact op_pow pins s σ H _ _ v u Q I rx ry ⟨i, j, rfl, rfl, pow_ok (by assumption), q⟩
    · cases e
  | shl =>
    simp only [binI] at e
    split at e
    · cases e
      exact op_shl pins s σ H _ _ v u Q I rx ry ⟨i, j, rfl, rfl, pow_ok (by assumption), q⟩
    · cases e
  | shr =>
    simp only [binI] at e
    split at e
    · rename_i c
      simp only [decide_eq_true_eq] at c
      cases e
      exact op_shr pins s σ H _ _ v u Q I rx ry ⟨i, j, rfl, rfl, c, q⟩
    · cases e
theorem ble_sz {n : Nat} (h : Nat.ble n sz = true) : n ≤ sizeLine := by
  have := Nat.le_of_ble_eq_true h
  rw [sizeLine_eq]
  exact this
theorem RVs.app {F : Hp} : ∀ {v w : List V} {a b : List D}, RVs N K F v a → RVs N K F w b → RVs N K F (v ++ w) (a ++ b)
  | _, _, _, _, .nil, s => s
  | _, _, _, _, .cons h r, s => .cons h (RVs.app r s)
theorem allZ_app {xs ys : List A} {ds es : List D} (h1 : allZ xs = some ds) (h2 : allZ ys = some es) : allZ (xs ++ ys) = some (ds ++ es) := by
  induction xs generalizing ds with
  | nil => cases h1; exact h2
  | cons a r ih =>
    cases a with
    | h n => simp [allZ] at h1
    | z d =>
      simp only [allZ, List.cons_append] at h1 ⊢
      cases e : allZ r with
      | none => rw [e] at h1; cases h1
      | some dr =>
        rw [e] at h1
        rw [ih e]
        simp at h1 ⊢
        subst h1
        simp
theorem op_binA (op : BOp) : OpR X (binaryOp (bop op)) (rB N X.K (binA op)) := by
  intro pins s σ H x y v u Q I rx ry h
  obtain ⟨W, F, t, m, a, b, sr, ra, rb, p⟩ := h
  unfold binA at p
  split at p
  · rename_i i j e1 e2
    obtain rfl := view_int sr ra e1
    obtain rfl := view_int sr rb e2
    split at p
    · rename_i k e
      exact op_binI op pins s σ H _ _ v u Q I rx ry ⟨i, j, k, rfl, rfl, e, p.int sr⟩
    · exact False.elim p
  · rename_i i j e1 e2
    obtain rfl := view_str sr ra e1
    obtain rfl := view_str sr rb e2
    cases op with
    | add =>
      simp only at p
      split at p
      · rename_i c
        refine op_add_str pins s σ H _ _ v u Q I rx ry ⟨_, _, rfl, rfl, ?_, ?_⟩
        · exact ble_sz c
        · rw [tx_app]; exact p.str sr
      · exact False.elim p
    | _ => exact False.elim p
  · rename_i xs ys e1 e2
    obtain ⟨p1, vs, rfl, _, r1, h1⟩ := view_lst sr ra e1
    obtain ⟨p2, ws, rfl, _, r2, h2⟩ := view_lst sr rb e2
    cases op with
    | add =>
      simp only at p
      split at p
      · rename_i c
        simp only [Bool.and_eq_true] at c
        refine op_cat pins s σ H _ _ v u Q I rx ry ⟨_, _, _, _, rfl, rfl, h1 c.1, h2 c.2.1, ?_, ?_⟩
        · rw [r1.len N X.K, r2.len N X.K]; exact ble_sz c.2.2
        · exact p.lst sr (r1.app N X.K r2)
      · exact False.elim p
    | _ => exact False.elim p
  · split at p
    · rename_i ds es _ _
      split at p
      · rename_i c
        cases ra with
        | z ra =>
          cases rb with
          | z rb =>
            cases ra with
            | @tup p1 vs _ h1 r1 =>
              cases rb with
              | @tup p2 ws _ h2 r2 =>
                have l1 := (RAs.of N X.K (t := t) (L := 0) r1).len N X.K
                have l2 := (RAs.of N X.K (t := t) (L := 0) r2).len N X.K
                simp only [List.length_map] at l1 l2
                refine op_catA pins s σ H _ _ v u Q I rx ry ⟨_, _, _, _, rfl, rfl, sr.sub.sqT X.K h1, sr.sub.sqT X.K h2, ?_, fun e => ?_, fun _ e => ?_, fun _ _ q hq => ?_⟩
                · rw [l1, l2]; exact ble_sz c
                · subst e
                  cases r1
                  exact p.here sr (.z (.tup h2 r2))
                · subst e
                  cases r2
                  rw [List.append_nil] at p
                  exact p.here sr (.z (.tup h1 r1))
                · have st := Stp.frz (o := .tup (vs ++ ws)) sr hq
                  exact p (.ref q) _ _ _ st (.z (.tup (SqT.of upd_same) ((RVs.app N X.K r1 r2).mono N X.K st.ext.sub)))
      · exact False.elim p
    · exact False.elim p
  · exact False.elim p

/-! ### comparisons -/
mutual
def toP : D → PyData
  | .bl b => .bool b
  | .int i => .int i
  | .str x => .str (tx x)
  | .lst xs => .list (toPs xs)
  | .tup xs => .tuple (toPs xs)
  | _ => .none
def toPs : List D → List PyData
  | [] => []
  | x :: xs => toP x :: toPs xs
end
theorem beq_tx (x y : List Nat) : (tx x == tx y) = (x == y) := by
  rw [Bool.eq_iff_iff]
  simp [tx_eq]
mutual
theorem eqv_toP : ∀ (d e : D) (n k : Nat), plainD d n = true → plainD e k = true → PyData.eqv (toP d) (toP e) = eqD d e
  | .non, e, n, k, h1, h2 => by cases e <;> simp [plainD] at h2 <;> simp [toP, eqD, PyData.eqv]
  | .bl b, e, n, k, h1, h2 => by cases e <;> simp [plainD] at h2 <;> simp [toP, eqD, PyData.eqv]
  | .int b, e, n, k, h1, h2 => by cases e <;> simp [plainD] at h2 <;> simp [toP, eqD, PyData.eqv]
  | .str b, e, n, k, h1, h2 => by cases e <;> simp [plainD] at h2 <;> simp [toP, eqD, PyData.eqv, beq_tx]
  | .dct b, e, n, k, h1, h2 => by simp [plainD] at h1
  | .ins b c, e, n, k, h1, h2 => by simp [plainD] at h1
  | .scr b, e, n, k, h1, h2 => by simp [plainD] at h1
  | .lst b, e, n, k, h1, h2 => by
    cases n with
    | zero => simp [plainD] at h1
    | succ n =>
      simp only [plainD] at h1
      cases e with
      | lst c =>
        cases k with
        | zero => simp [plainD] at h2
        | succ k =>
          simp only [plainD] at h2
          simp only [toP, eqD, PyData.eqv]
          exact eqv_toPs b c n k h1 h2
      | _ => first | (simp [plainD] at h2; done) | simp [toP, eqD, PyData.eqv]
  | .tup b, e, n, k, h1, h2 => by
    cases n with
    | zero => simp [plainD] at h1
    | succ n =>
      simp only [plainD] at h1
      cases e with
      | tup c =>
        cases k with
        | zero => simp [plainD] at h2
        | succ k =>
          simp only [plainD] at h2
          simp only [toP, eqD, PyData.eqv]
          exact eqv_toPs b c n k h1 h2
      | _ => first | (simp [plainD] at h2; done) | simp [toP, eqD, PyData.eqv]
theorem eqv_toPs : ∀ (d e : List D) (n k : Nat), plainDs d n = true → plainDs e k = true → PyData.eqvAll (toPs d) (toPs e) = eqDs d e
  | [], [], _, _, _, _ => by simp [toPs, eqDs, PyData.eqvAll]
  | [], _ :: _, _, _, _, _ => by simp [toPs, eqDs, PyData.eqvAll]
  | _ :: _, [], _, _, _, _ => by simp [toPs, eqDs, PyData.eqvAll]
  | x :: xs, y :: ys, n, k, h1, h2 => by
    simp only [plainDs, Bool.and_eq_true] at h1 h2
    simp only [toPs, eqDs, PyData.eqvAll]
    rw [eqv_toP x y n k h1.1 h2.1, eqv_toPs xs ys n k h1.2 h2.2]
end
mutual
theorem can_toP : ∀ (d : D) (n : Nat), plainD d n = true → (toP d).canLay0 = true ∧ (toP d).depth ≤ n
  | .non, n, h => ⟨rfl, Nat.zero_le _⟩
  | .bl b, n, h => ⟨rfl, Nat.zero_le _⟩
  | .int i, n, h => ⟨rfl, Nat.zero_le _⟩
  | .str x, n, h => by
    simp only [plainD] at h
    refine ⟨?_, Nat.zero_le _⟩
    show PyData.strOk (tx x) = true
    unfold PyData.strOk tx
    simp only [List.all_eq_true, List.all_toArray, decide_eq_true_eq] at h ⊢
    intro c hc
    exact Nat.le_of_ble_eq_true (h c hc)
  | .dct b, n, h => by simp [plainD] at h
  | .ins b c, n, h => by simp [plainD] at h
  | .scr b, n, h => by simp [plainD] at h
  | .lst xs, n, h => by
    cases n with
    | zero => simp [plainD] at h
    | succ n =>
      simp only [plainD] at h
      obtain ⟨h1, h2⟩ := can_toPs xs n h
      exact ⟨h1, Nat.succ_le_succ h2⟩
  | .tup xs, n, h => by
    cases n with
    | zero => simp [plainD] at h
    | succ n =>
      simp only [plainD] at h
      obtain ⟨h1, h2⟩ := can_toPs xs n h
      exact ⟨h1, Nat.succ_le_succ h2⟩
theorem can_toPs : ∀ (d : List D) (n : Nat), plainDs d n = true → PyData.canLayAll0 (toPs d) = true ∧ PyData.depthAll (toPs d) ≤ n
  | [], n, h => ⟨rfl, Nat.zero_le _⟩
  | x :: xs, n, h => by
    simp only [plainDs, Bool.and_eq_true] at h
    obtain ⟨a1, a2⟩ := can_toP x n h.1
    obtain ⟨b1, b2⟩ := can_toPs xs n h.2
    refine ⟨?_, ?_⟩
    · show ((toP x).canLay0 && PyData.canLayAll0 (toPs xs)) = true
      rw [a1, b1]; rfl
    · show max (toP x).depth (PyData.depthAll (toPs xs)) ≤ n
      exact Nat.max_le.mpr ⟨a2, b2⟩
end
theorem shaped_toP {d : D} {n : Nat} (h : plainD d n = true) (hn : n ≤ 64) : SeqAt.shaped (toP d) = true := by
  obtain ⟨h1, h2⟩ := can_toP d n h
  unfold SeqAt.shaped
  rw [h1]
  simp only [Bool.true_and, decide_eq_true_eq]
  omega
mutual
theorem RV.dp {F H : Hp} (s : SubH F H) : ∀ {v : V} {d : D} {n : Nat}, RV N K F v d → plainD d n = true → Dp K H v (toP d)
  | _, _, _, .non, _ => .non
  | _, _, _, .bl b, _ => .bl b
  | _, _, _, .int b, _ => .int b
  | _, _, _, .str b, _ => .str _
  | _, _, 0, .lst e r, h => by simp [plainD] at h
  | _, _, 0, .tup e r, h => by simp [plainD] at h
  | _, _, n + 1, .lst e r, h => .lst (SqL.of (s.lst e)) (RVs.dp s r (by simpa only [plainD] using h))
  | _, _, n + 1, .tup e r, h => .tup (s.sqT K e) (RVs.dp s r (by simpa only [plainD] using h))
  | _, _, _, .dK e r, h => by simp [plainD] at h
  | _, _, _, .dT e r, h => by simp [plainD] at h
  | _, _, _, .ins e r, h => by simp [plainD] at h
  | _, _, _, .scr e, h => by simp [plainD] at h
theorem RVs.dp {F H : Hp} (s : SubH F H) : ∀ {v : List V} {d : List D} {n : Nat}, RVs N K F v d → plainDs d n = true → DpAll K H v (toPs d)
  | _, _, _, .nil, _ => .nil
  | _, _, _, .cons a r, h => by
    simp only [plainDs, Bool.and_eq_true] at h
    exact .cons (RV.dp s a h.1) (RVs.dp s r h.2)
end
theorem mapO_snap {F : Hp} {t : Nat → Addr} {m : Store} {H : Hp} {n k : Nat} (ih : ∀ {v : V} {a : A} {d : D}, RA N K F t m.length v a → snap m k a = some d → plainD d n = true → Dp K H v (toP d)) :
    ∀ {vs : List V} {as : List A} {ds : List D}, RAs N K F t m.length vs as → mapO (snap m k) as = some ds → plainDs ds n = true → DpAll K H vs (toPs ds)
  | _, _, _, .nil, e, h => by cases e; exact .nil
  | _, _, ds, .cons (d := a) (ds := as) r rs, e, h => by
    unfold mapO at e
    cases e1 : snap m k a with
    | none => rw [e1] at e; cases e
    | some b =>
      rw [e1] at e
      cases e2 : mapO (snap m k) as with
      | none => rw [e2] at e; cases e
      | some bs =>
        rw [e2] at e
        cases e
        simp only [plainDs, Bool.and_eq_true] at h
        exact .cons (ih r e1 h.1) (mapO_snap ih rs e2 h.2)
theorem snap_dp {F : Hp} {t : Nat → Addr} {m : Store} {H : Hp} (sr : SR N K F t m H) : ∀ (k : Nat) {v : V} {a : A} {d : D} {n : Nat}, RA N K F t m.length v a → snap m k a = some d → plainD d n = true → Dp K H v (toP d)
  | k, v, .z q, d, n, r, e, h => by
    have e' : some q = some d := by cases k <;> simpa [snap] using e
    cases e'
    cases r with
    | z r => exact RV.dp N K sr.sub r h
  | 0, v, .h j, d, n, r, e, h => by simp [snap] at e
  | k + 1, v, .h j, d, n, r, e, h => by
    simp only [snap] at e
    cases r with
    | h hj =>
      split at e
      · rename_i xs hc
        cases q : mapO (snap m k) xs with
        | none => rw [q] at e; cases e
        | some ds =>
          rw [q] at e
          cases e
          obtain ⟨o, e1, e2, e3⟩ := sr.cel j _ hc
          cases e2 with
          | lst rs =>
            cases n with
            | zero => simp [plainD] at h
            | succ n => exact .lst (SqL.of e1) (mapO_snap N K (fun r e h => snap_dp sr k r e h) rs q (by simpa only [plainD] using h))
      · rename_i xs hc
        cases q : mapO (snap m k) xs with
        | none => rw [q] at e; cases e
        | some ds =>
          rw [q] at e
          cases e
          obtain ⟨o, e1, e2, e3⟩ := sr.cel j _ hc
          cases e2 with
          | tup rs =>
            cases n with
            | zero => simp [plainD] at h
            | succ n => exact .tup (SqT.of e1) (mapO_snap N K (fun r e h => snap_dp sr k r e h) rs q (by simpa only [plainD] using h))
      · cases e
end
end GL

/-! G5: comparisons, subscripts, slices, built-ins by values. -/
namespace GL
open PySem L2
variable (N : Nms) (K : PySem.W.Frag)
/-- a comparison of two values -/
def rC (f : A → A → Store → Option Bool) : R2 := fun x y H Q => ∃ F t m a b k, SR N K F t m H ∧ RA N K F t m.length x a ∧ RA N K F t m.length y b ∧ f a b m = some k ∧ Q (.bl k) H
section
variable {X : Cx}
def cop : COp → CmpOp
  | .eq => .Eq | .ne => .NotEq | .lt => .Lt | .le => .LtE | .gt => .Gt | .ge => .GtE | .isin => .In | .notin => .NotIn | .is => .Is | .isnot => .IsNot
theorem flat_scal {F : Hp} {v w : V} {d e : D} (r : RV N K F v d) (q : RV N K F w e) (h1 : flatD d = true) (h2 : flatD e = true) (h3 : scalD d e = true) : scal v w = true ∧ decide (v = w) = eqD d e := by
  cases r <;> cases q <;> first | (simp [flatD] at h1; done) | (simp [flatD] at h2; done) | (simp [scalD] at h3; done) | (simp [scal, eqD, tx_eq]; done) | (refine ⟨rfl, ?_⟩; rw [Bool.eq_iff_iff]; simp [eqD, tx_eq])
theorem eqA_cases {F : Hp} {t : Nat → Addr} {m : Store} {H : Hp} {x y : V} {a b : A} {k : Bool} (sr : SR N K F t m H) (ra : RA N K F t m.length x a) (rb : RA N K F t m.length y b) (h : eqA a b m = some k) :
    (scal x y = true ∧ decide (x = y) = k) ∨ (∃ d e, Dp K H x d ∧ Dp K H y e ∧ SeqAt.shaped d = true ∧ SeqAt.shaped e = true ∧ PyData.eqv d e = k) := by
  have deep : deepEq a b m = some k → ∃ d e, Dp K H x d ∧ Dp K H y e ∧ SeqAt.shaped d = true ∧ SeqAt.shaped e = true ∧ PyData.eqv d e = k := by
    intro h
    unfold deepEq at h
    split at h
    · rename_i d e h1 h2
      split at h
      · rename_i c
        simp only [Bool.and_eq_true] at c
        cases h
        exact ⟨_, _, snap_dp N K sr 8 ra h1 c.1, snap_dp N K sr 8 rb h2 c.2, shaped_toP c.1 (by omega), shaped_toP c.2 (by omega), eqv_toP d e 60 60 c.1 c.2⟩
      · cases h
    · cases h
  unfold eqA at h
  split at h
  · rename_i d e
    split at h
    · rename_i c
      simp only [Bool.and_eq_true] at c
      split at h
      · rename_i c2
        cases h
        cases ra with
        | z ra =>
          cases rb with
          | z rb =>
            exact .inl (flat_scal N K ra rb c.1 c.2 c2)
      · cases h
    · exact .inr (deep h)
  · exact .inr (deep h)
theorem flats_V {F : Hp} {t : Nat → Addr} {L : Nat} : ∀ {vs : List V} {as : List A} {ds : List D}, RAs N K F t L vs as → flatsOf as = some ds → RVs N K F vs ds ∧ vs.all flatV = true ∧ ds.all flatD = true
  | _, _, _, .nil, e => by cases e; exact ⟨.nil, rfl, rfl⟩
  | _, _, _, .cons (d := .h n) r rs, e => by simp [flatsOf] at e
  | _, _, _, .cons (d := .z d) (ds := as) r rs, e => by
    simp only [flatsOf] at e
    split at e
    · rename_i c
      cases q : flatsOf as with
      | none => rw [q] at e; cases e
      | some es =>
        rw [q] at e
        cases e
        obtain ⟨h1, h2, h3⟩ := flats_V rs q
        cases r with
        | z r =>
          refine ⟨.cons r h1, ?_, by simp [c, h3]⟩
          rw [List.all_cons, h2, Bool.and_true]
          cases r <;> first | rfl | simp [flatD] at c
    · cases e
theorem flat_eqV {F : Hp} {v w : V} {d e : D} (r : RV N K F v d) (q : RV N K F w e) (h1 : flatD d = true) (h2 : flatD e = true) : eqV v w = eqD d e := by
  cases r <;> cases q <;> first | (simp [flatD] at h1; done) | (simp [flatD] at h2; done) | rfl | simp [eqV, eqD, beq_tx]
theorem flat_any {F : Hp} {w : V} {e : D} (q : RV N K F w e) (h2 : flatD e = true) : ∀ {vs : List V} {ds : List D}, RVs N K F vs ds → ds.all flatD = true → inV w vs = ds.any fun z => eqD z e
  | _, _, .nil, _ => rfl
  | _, _, .cons r rs, h => by
    rw [List.all_cons, Bool.and_eq_true] at h
    unfold inV
    rw [List.any_cons, List.any_cons, flat_eqV N K r q h.1 h2]
    have := flat_any q h2 rs h.2
    unfold inV at this
    rw [this]
theorem flatV_of {F : Hp} {w : V} {e : D} (q : RV N K F w e) (h : flatD e = true) : flatV w = true := by
  cases q <;> first | rfl | simp [flatD] at h
theorem any_toP (d : D) {n : Nat} (hd : plainD d n = true) : ∀ {ds : List D} {k : Nat}, plainDs ds k = true → ((toPs ds).any fun z => PyData.eqv z (toP d)) = ds.any fun z => eqD z d
  | [], _, _ => rfl
  | x :: xs, k, h => by
    simp only [plainDs, Bool.and_eq_true] at h
    simp only [toPs, List.any_cons]
    rw [eqv_toP x d k n h.1 hd, any_toP d hd h.2]
theorem op_in_A (hu : X.A.units + 65 < cLine) (neg : Bool) : OpR X (compareOp (if neg then .NotIn else .In)) (rC N X.K fun a b m => (inA a b m).map fun k => if neg then !k else k) := by
  intro pins s σ H x y v u Q I rx ry h
  obtain ⟨F, t, m, a, b, k, sr, ra, rb, e, q⟩ := h
  have e' : ∃ k0, inA a b m = some k0 ∧ k = if neg then !k0 else k0 := by
    cases z : inA a b m with
    | none => simp only [z] at e; cases e
    | some k0 => simp only [z] at e; exact ⟨k0, rfl, (Option.some.inj e).symm⟩
  obtain ⟨k0, e0, rfl⟩ := e'
  have flat : ∀ p (xs : List A) (vs : List V), y = .ref p → (SqL X.K H p vs ∨ SqT X.K H p vs) → RAs N X.K F t m.length vs xs → flatIn a xs = some k0 → wpAny (model X.prog X.w) X.A (compareOp (if neg then .NotIn else .In) v u) (EP X pins σ Q) X.xe s := by
    intro p xs vs ey hs rs hf
    unfold flatIn at hf
    split at hf
    · rename_i d ds hds
      split at hf
      · rename_i c
        cases hf
        obtain ⟨h1, h2, h3⟩ := flats_V N X.K rs hds
        cases ra with
        | z ra =>
          have ea := flat_any N X.K ra c h1 h3
          cases neg with
          | true => exact op_notIn_seq pins s σ H x y v u Q I rx ry ⟨p, vs, ey, hs, flatV_of N X.K ra c, h2, by rw [ea]; exact q⟩
          | false => exact op_in_seq pins s σ H x y v u Q I rx ry ⟨p, vs, ey, hs, flatV_of N X.K ra c, h2, by rw [ea]; exact q⟩
      · cases hf
    · cases hf
  unfold inA at e0
  split at e0
  · rename_i z hv
    obtain rfl := view_str sr rb hv
    split at e0
    · rename_i c
      cases e0
      cases ra with
      | z ra =>
        cases ra with
        | str =>
          cases neg with
          | true => exact op_notIn_sign pins s σ H _ _ v u Q I rx ry ⟨c, tx z, rfl, rfl, q⟩
          | false => exact op_in_sign pins s σ H _ _ v u Q I rx ry ⟨c, tx z, rfl, rfl, q⟩
    · cases e0
  · rename_i xs hv
    obtain ⟨p, vs, rfl, hs, rs, _⟩ := view_lst sr rb hv
    split at e0
    · rename_i k1 hf
      cases e0
      exact flat p xs vs rfl (.inl hs) rs hf
    · split at e0
      · rename_i d ds h1 h2
        split at e0
        · rename_i c
          simp only [Bool.and_eq_true] at c
          cases e0
          have c2 : plainD (.lst ds) 61 = true := by simp only [plainD]; exact c.2
          have dy := snap_dp N X.K sr 8 rb h2 c2
          have dx := snap_dp N X.K sr 8 ra h1 c.1
          simp only [toP] at dy
          have sy : SeqAt.shaped (.list (toPs ds)) = true := shaped_toP (d := .lst ds) c2 (by omega)
          cases neg with
          | true => exact op_notInD hu pins s σ H _ _ v u Q I rx ry ⟨_, _, dx, dy, shaped_toP c.1 (by omega), sy, by rw [any_toP d c.1 c.2]; exact q⟩
          | false => exact op_inD hu pins s σ H _ _ v u Q I rx ry ⟨_, _, dx, dy, shaped_toP c.1 (by omega), sy, by rw [any_toP d c.1 c.2]; exact q⟩
        · cases e0
      · cases e0
  · rename_i xs hv
    obtain ⟨p, vs, rfl, hs, rs⟩ := view_tup sr rb hv
    exact flat p xs vs rfl (.inr hs) rs e0
  · cases e0
theorem ltL_iff : ∀ (x y : List Nat), ltL x y = decide (x < y)
  | [], [] => by simp [ltL]
  | [], y :: ys => by simp [ltL]
  | x :: xs, [] => by simp [ltL]
  | x :: xs, y :: ys => by
    simp only [ltL]
    rw [ltL_iff xs ys, Bool.eq_iff_iff]
    simp only [Bool.or_eq_true, Bool.and_eq_true, decide_eq_true_eq, Nat.blt_eq, Nat.beq_eq_true_eq]
    constructor
    · rintro (h | ⟨e, h⟩)
      · exact List.Lex.rel h
      · rw [Nat.eq_of_beq_eq_true e]; exact List.Lex.cons h
    · intro h
      cases h with
      | rel h => exact .inl h
      | cons h => exact .inr ⟨Nat.beq_refl _, h⟩
theorem op_cmpA (hu : X.A.units + 65 < cLine) (op : COp) : OpR X (compareOp (cop op)) (rC N X.K (cmpA op)) := by
  intro pins s σ H x y v u Q I rx ry h
  obtain ⟨F, t, m, a, b, k, sr, ra, rb, e, q⟩ := h
  cases op with
  | eq =>
    rcases eqA_cases N X.K sr ra rb e with ⟨h1, h2⟩ | ⟨d, e, h1, h2, h3, h4, h5⟩
    · exact op_eq pins s σ H x y v u Q I rx ry ⟨h1, by rw [h2]; exact q⟩
    · exact op_eqD (by omega) pins s σ H x y v u Q I rx ry ⟨d, e, h1, h2, h3, h4, by rw [h5]; exact q⟩
  | ne =>
    have e' : ∃ k0, eqA a b m = some k0 ∧ k = !k0 := by
      cases z : eqA a b m with
      | none => simp [cmpA, z] at e
      | some k0 => simp only [cmpA, z] at e; exact ⟨k0, rfl, (Option.some.inj e).symm⟩
    obtain ⟨k0, e0, rfl⟩ := e'
    rcases eqA_cases N X.K sr ra rb e0 with ⟨h1, h2⟩ | ⟨d, e, h1, h2, h3, h4, h5⟩
    · exact op_ne pins s σ H x y v u Q I rx ry ⟨h1, by rw [h2]; exact q⟩
    · exact op_neD (by omega) pins s σ H x y v u Q I rx ry ⟨d, e, h1, h2, h3, h4, by rw [h5]; exact q⟩
  | lt =>
    simp only [cmpA] at e
    split at e
    · cases e
      cases ra with
      | z ra =>
        cases ra
        cases rb with
        | z rb =>
          cases rb
          exact op_lt pins s σ H _ _ v u Q I rx ry ⟨_, _, rfl, rfl, q⟩
    · rename_i i j
      cases e
      cases ra with
      | z ra =>
        cases ra
        cases rb with
        | z rb =>
          cases rb
          refine op_lt_str pins s σ H _ _ v u Q I rx ry ⟨_, _, rfl, rfl, ?_⟩
          rw [ltL_iff] at q
          exact q
    · cases e
  | le =>
    simp only [cmpA] at e
    split at e
    · cases e
      cases ra with
      | z ra =>
        cases ra
        cases rb with
        | z rb =>
          cases rb
          exact op_le pins s σ H _ _ v u Q I rx ry ⟨_, _, rfl, rfl, q⟩
    · cases e
  | gt =>
    simp only [cmpA] at e
    split at e
    · cases e
      cases ra with
      | z ra =>
        cases ra
        cases rb with
        | z rb =>
          cases rb
          exact op_gt pins s σ H _ _ v u Q I rx ry ⟨_, _, rfl, rfl, q⟩
    · cases e
  | ge =>
    simp only [cmpA] at e
    split at e
    · cases e
      cases ra with
      | z ra =>
        cases ra
        cases rb with
        | z rb =>
          cases rb
          exact op_ge pins s σ H _ _ v u Q I rx ry ⟨_, _, rfl, rfl, q⟩
    · cases e
  | isin => exact op_in_A N hu false pins s σ H x y v u Q I rx ry ⟨F, t, m, a, b, k, sr, ra, rb, by simpa [cmpA] using e, q⟩
  | notin => exact op_in_A N hu true pins s σ H x y v u Q I rx ry ⟨F, t, m, a, b, k, sr, ra, rb, by simpa [cmpA] using e, q⟩
  | is =>
    have key : y = .non ∧ decide (x = .non) = k := by
      simp only [cmpA] at e
      split at e
      · cases e
        cases ra with
        | z ra => cases ra; cases rb with
          | z rb => cases rb; exact ⟨rfl, rfl⟩
      · rename_i hn
        cases e
        cases rb with
        | z rb =>
          cases rb
          refine ⟨rfl, decide_eq_false fun q => ?_⟩
          subst q
          cases ra with
          | z ra => cases ra; exact (hn rfl).elim
      · cases e
    exact op_isN pins s σ H x y v u Q I rx ry ⟨key.1, by rw [key.2]; exact q⟩
  | isnot =>
    have key : y = .non ∧ (!decide (x = .non)) = k := by
      simp only [cmpA] at e
      split at e
      · cases e
        cases ra with
        | z ra => cases ra; cases rb with
          | z rb => cases rb; exact ⟨rfl, rfl⟩
      · rename_i hn
        cases e
        cases rb with
        | z rb =>
          cases rb
          refine ⟨rfl, ?_⟩
          rw [decide_eq_false]
          · rfl
          · intro q
            subst q
            cases ra with
            | z ra => cases ra; exact (hn rfl).elim
      · cases e
    exact op_notN pins s σ H x y v u Q I rx ry ⟨key.1, by rw [key.2]; exact q⟩
end
end GL

/-! G6: subscripts, slices, built-ins, methods, truth by values. -/
namespace GL
open PySem L2
variable (N : Nms) (K : PySem.W.Frag)
theorem ixL_eq (n : Nat) (i : Int) : ixL n i = ixN n i := by
  unfold ixL ixN
  simp only [decide_eq_true_eq]
theorem sIx_eq (n d : Nat) (o : Option Int) : sIx n d o = HT.sIx n d o := by
  cases o <;> rfl
section
variable {X : Cx}
theorem RAs.atI {F : Hp} {t : Nat → Addr} {L : Nat} {vs : List V} {as : List A} {i : Int} {x : A} (r : RAs N K F t L vs as) (h : ((ixL as.length i).bind fun j => as[j]?) = some x) : ∃ y, L2.atI vs i = some y ∧ RA N K F t L y x := by
  cases e : ixL as.length i with
  | none => rw [e] at h; cases h
  | some j =>
    rw [e] at h
    obtain ⟨y, h1, h2⟩ := r.get N K (show as[j]? = some x from h)
    refine ⟨y, ?_, h2⟩
    unfold L2.atI
    rw [r.len N K, ← ixL_eq, e]
    exact h1
theorem ix_A : IxR X (rB N X.K idxA) := by
  intro value slice pins s σ H x y v u Q I rx ry h hs
  obtain ⟨W, F, t, m, a, b, sr, ra, rb, p⟩ := h
  unfold idxA at p
  split at p
  · rename_i xs i hv
    obtain ⟨q, vs, rfl, hl, rs, _⟩ := view_lst sr ra hv
    obtain ⟨z, hz, p⟩ := p.ofO
    obtain ⟨w, h1, h2⟩ := rs.atI N X.K hz
    cases rb with
    | z rb =>
      cases rb
      exact ix_list value slice pins s σ H _ _ v u Q I rx ry ⟨q, vs, i, w, rfl, rfl, hl, h1, p.here sr h2⟩ hs
  · rename_i xs i hv
    obtain ⟨q, vs, rfl, hl, rs⟩ := view_tup sr ra hv
    obtain ⟨z, hz, p⟩ := p.ofO
    obtain ⟨w, h1, h2⟩ := rs.atI N X.K hz
    cases rb with
    | z rb =>
      cases rb
      exact ix_tup value slice pins s σ H _ _ v u Q I rx ry ⟨q, vs, i, w, rfl, rfl, hl, h1, p.here sr h2⟩ hs
  · rename_i xs i hv
    obtain rfl := view_str sr ra hv
    split at p
    · rename_i hsz
      obtain ⟨z, hz, p⟩ := p.ofO
      cases rb with
      | z rb =>
        cases rb
        refine ix_str value slice pins s σ H _ _ v u Q I rx ry ⟨tx xs, i, z, rfl, rfl, ble_sz hsz, ?_, p.str sr⟩ hs
        unfold L2.atI
        rw [← ixL_eq]
        exact hz
    · exact False.elim p
  · exact False.elim p
theorem RAs.cut {F : Hp} {t : Nat → Addr} {L : Nat} {vs : List V} {as : List A} (r : RAs N K F t L vs as) (lo hi : Option Int) : RAs N K F t L (cutV vs lo hi) (GL.cut as lo hi) := by
  have dr : ∀ (n : Nat) {vs : List V} {as : List A}, RAs N K F t L vs as → RAs N K F t L (vs.drop n) (as.drop n) := by
    intro n
    induction n with
    | zero => intro vs as r; exact r
    | succ n ih =>
      intro vs as r
      cases r with
      | nil => exact .nil
      | cons a r => exact ih r
  have tk : ∀ (n : Nat) {vs : List V} {as : List A}, RAs N K F t L vs as → RAs N K F t L (vs.take n) (as.take n) := by
    intro n
    induction n with
    | zero => intro vs as r; exact .nil
    | succ n ih =>
      intro vs as r
      cases r with
      | nil => exact .nil
      | cons a r => exact .cons a (ih r)
  unfold cutV GL.cut
  rw [← r.len N K, sIx_eq, sIx_eq]
  exact tk _ (dr _ r)
/-- a slice -/
def rSlG (f : A → Option Int → Option Int → Store → R A) : V → Option Int → Option Int → Hp → VK → Prop := fun x lo hi H Q => ∃ (W : XK), ∃ F t m a, SR N K F t m H ∧ RA N K F t m.length x a ∧ PstA N K W Q F t m H (f a lo hi m)
theorem sl_A : SlR X (rSlG N X.K slcA) := by
  intro pins s σ H x v vl vu lo hi sl Q I rx hs pl pu h
  obtain ⟨W, F, t, m, a, sr, ra, p⟩ := h
  unfold slcA at p
  split at p
  · rename_i xs hv
    obtain ⟨q, vs, rfl, hl, rs, _⟩ := view_lst sr ra hv
    exact sl_list pins s σ H _ v vl vu lo hi sl Q I rx hs pl pu ⟨q, vs, rfl, hl, p.lst sr (rs.cut N X.K lo hi)⟩
  · split at p
    · rename_i ds hv
      split at p
      · rename_i c
        cases ra with
        | z ra =>
          cases ra with
          | @tup q vs _ h1 r1 =>
            have rs := RAs.of N X.K (t := t) (L := m.length) r1
            refine sl_tupA pins s σ H _ v vl vu lo hi sl Q I rx hs pl pu ⟨q, vs, rfl, sr.sub.sqT X.K h1, fun _ => p.here sr (.z (.tup h1 r1)), fun e => ?_⟩
            exfalso
            apply e
            have l := rs.len N X.K
            simp only [List.length_map] at l
            simp only [Bool.and_eq_true, Nat.beq_eq_true_eq] at c
            rw [l, ← sIx_eq, ← sIx_eq]
            exact ⟨Nat.eq_of_beq_eq_true c.1, Nat.eq_of_beq_eq_true c.2⟩
      · rename_i c
        cases ra with
        | z ra =>
          cases ra with
          | @tup q vs _ h1 r1 =>
            have rs := RAs.of N X.K (t := t) (L := m.length) r1
            have rc := rs.cut N X.K lo hi
            refine sl_tupA pins s σ H _ v vl vu lo hi sl Q I rx hs pl pu ⟨q, vs, rfl, sr.sub.sqT X.K h1, fun e => ?_, fun _ => p.tup sr rc⟩
            exfalso
            apply c
            have l := rs.len N X.K
            simp only [List.length_map] at l
            rw [l, ← sIx_eq, ← sIx_eq] at e
            rw [e.1, e.2]
            simp [Nat.beq_refl]
    · exact False.elim p
  · rename_i xs hv
    obtain rfl := view_str sr ra hv
    split at p
    · rename_i c
      refine sl_str pins s σ H _ v vl vu lo hi sl Q I rx hs pl pu ⟨tx xs, rfl, ble_sz c, ?_⟩
      have e : cutS (tx xs) lo hi = tx (GL.cut xs lo hi) := by
        unfold cutS GL.cut tx
        rw [sIx_eq, sIx_eq]
        rfl
      rw [e]
      exact p.str sr
    · exact False.elim p
  · exact False.elim p
end
end GL

/-! G7: built-ins, methods, kinds, truth by values. -/
namespace GL
open PySem L2
variable (N : Nms) (K : PySem.W.Frag)
/-! ### sorting -/
theorem perm_one {α : Type} {r : α → α → Prop} (anti : ∀ a b, r a b → r b a → a = b) : ∀ {l k : List α}, l.Perm k → l.Pairwise r → k.Pairwise r → l = k
  | [], k, p, _, _ => (List.nil_perm.mp p).symm
  | a :: t, [], p, _, _ => by simpa using p.length_eq
  | a :: t, b :: u, p, h1, h2 => by
    have h1' := List.pairwise_cons.mp h1
    have h2' := List.pairwise_cons.mp h2
    have e : a = b := by
      by_cases e : a = b
      · exact e
      · have m1 : a ∈ b :: u := p.mem_iff.mp List.mem_cons_self
        have m2 : b ∈ a :: t := p.mem_iff.mpr List.mem_cons_self
        rcases List.mem_cons.mp m1 with z | z
        · exact z
        · rcases List.mem_cons.mp m2 with y | y
          · exact y.symm
          · exact anti a b (h1'.1 b y) (h2'.1 a z)
    subst e
    rw [perm_one anti (List.Perm.cons_inv p) h1'.2 h2'.2]
theorem insI_perm (x : Int) : ∀ l : List Int, (insI x l).Perm (x :: l)
  | [] => .refl _
  | y :: r => by
    unfold insI
    split
    · exact .refl _
    · exact ((insI_perm x r).cons y).trans (List.Perm.swap x y r)
theorem sortI_perm : ∀ l : List Int, (sortI l).Perm l
  | [] => .refl _
  | x :: r => (insI_perm x (sortI r)).trans ((sortI_perm r).cons x)
theorem insI_sorted (x : Int) : ∀ {l : List Int}, l.Pairwise (· ≤ ·) → (insI x l).Pairwise (· ≤ ·)
  | [], _ => by simp [insI]
  | y :: r, h => by
    have h' := List.pairwise_cons.mp h
    unfold insI
    split
    · rename_i c
      refine List.pairwise_cons.mpr ⟨fun z hz => ?_, h⟩
      rcases List.mem_cons.mp hz with e | hz
      · rw [e]; exact c
      · exact Int.le_trans c (h'.1 z hz)
    · rename_i c
      refine List.pairwise_cons.mpr ⟨fun z hz => ?_, insI_sorted x h'.2⟩
      rcases List.mem_cons.mp ((insI_perm x r).mem_iff.mp hz) with e | hz
      · rw [e]; omega
      · exact h'.1 z hz
theorem sortI_sorted : ∀ l : List Int, (sortI l).Pairwise (· ≤ ·)
  | [] => .nil
  | x :: r => insI_sorted x (sortI_sorted r)
theorem sortI_one {l k : List Int} (p : k.Perm l) (h : k.Pairwise (· ≤ ·)) : k = sortI l :=
  perm_one (fun _ _ => Int.le_antisymm) (p.trans (sortI_perm l).symm) h (sortI_sorted l)
/-- texts, the order of the code points -/
def leT (x y : List Nat) : Prop := ltL y x = false
theorem ltL_trans {x y z : List Nat} (h1 : ltL x y = true) (h2 : ltL y z = true) : ltL x z = true := by
  rw [ltL_iff] at *
  simp only [decide_eq_true_eq] at *
  exact List.lt_trans h1 h2
theorem ltL_irr (x : List Nat) : ltL x x = false := by
  rw [ltL_iff]
  simp [List.lt_irrefl]
theorem ltL_tri (x y : List Nat) (h1 : ltL x y = false) (h2 : ltL y x = false) : x = y := by
  rw [ltL_iff] at *
  simp only [decide_eq_false_iff_not] at *
  exact List.le_antisymm (List.not_lt.mp h2) (List.not_lt.mp h1)
theorem leT_trans {x y z : List Nat} (h1 : leT x y) (h2 : leT y z) : leT x z := by
  unfold leT at *
  cases e : ltL z x with
  | false => rfl
  | true =>
    cases f : ltL x y with
    | true => rw [ltL_trans e f] at h2; cases h2
    | false =>
      have := ltL_tri x y f h1
      subst this
      rw [e] at h2; cases h2
theorem insT_perm (x : List Nat) : ∀ l : List (List Nat), (insT x l).Perm (x :: l)
  | [] => .refl _
  | y :: r => by
    unfold insT
    split
    · exact ((insT_perm x r).cons y).trans (List.Perm.swap x y r)
    · exact .refl _
theorem sortT_perm : ∀ l : List (List Nat), (sortT l).Perm l
  | [] => .refl _
  | x :: r => (insT_perm x (sortT r)).trans ((sortT_perm r).cons x)
theorem insT_sorted (x : List Nat) : ∀ {l : List (List Nat)}, l.Pairwise leT → (insT x l).Pairwise leT
  | [], _ => by simp [insT]
  | y :: r, h => by
    have h' := List.pairwise_cons.mp h
    unfold insT
    split
    · rename_i c
      have yx : leT y x := by
        unfold leT
        cases e : ltL x y with
        | false => rfl
        | true => have := ltL_trans c e; rw [ltL_irr] at this; cases this
      refine List.pairwise_cons.mpr ⟨fun z hz => ?_, insT_sorted x h'.2⟩
      rcases List.mem_cons.mp ((insT_perm x r).mem_iff.mp hz) with e | hz
      · rw [e]; exact yx
      · exact h'.1 z hz
    · rename_i c
      have xy : leT x y := by
        unfold leT
        cases e : ltL y x with
        | false => rfl
        | true => exact absurd e c
      refine List.pairwise_cons.mpr ⟨fun z hz => ?_, h⟩
      rcases List.mem_cons.mp hz with e | hz
      · rw [e]; exact xy
      · exact leT_trans xy (h'.1 z hz)
theorem sortT_sorted : ∀ l : List (List Nat), (sortT l).Pairwise leT
  | [] => .nil
  | x :: r => insT_sorted x (sortT_sorted r)
theorem ltCps_eq : ∀ x y : List Nat, Spec.ltCps x y = ltL x y
  | [], [] => rfl
  | [], _ :: _ => rfl
  | _ :: _, [] => rfl
  | a :: r, b :: t => by
    show (decide (a < b) || (a == b && Spec.ltCps r t)) = _
    rw [ltCps_eq r t]
    simp only [ltL]
    rw [Bool.eq_iff_iff]
    simp
theorem rising_pw : ∀ {p : Str} {l : List Str}, PyProof.Rows.risingS p l = true → (p.cps.toList :: l.map fun s => s.cps.toList).Pairwise leT
  | p, [], _ => by simp
  | p, x :: r, h => by
    have h' : (!Spec.ltCps x.cps.toList p.cps.toList && PyProof.Rows.risingS x r) = true := h
    rw [Bool.and_eq_true, ltCps_eq] at h'
    have ih := rising_pw h'.2
    have px : leT p.cps.toList x.cps.toList := by
      unfold leT
      simpa using h'.1
    rw [List.map_cons]
    refine List.pairwise_cons.mpr ⟨fun z hz => ?_, ih⟩
    rcases List.mem_cons.mp hz with e | hz
    · rw [e]; exact px
    · exact leT_trans px ((List.pairwise_cons.mp ih).1 z hz)
theorem sortT_one {l : List (List Nat)} {k : List Str} (p : k.Perm (l.map tx)) (h : PyProof.Rows.sortedS k = true) : k = (sortT l).map tx := by
  have pw : (k.map fun s => s.cps.toList).Pairwise leT := by
    cases k with
    | nil => simp
    | cons x r => exact rising_pw h
  have pp : (k.map fun s => s.cps.toList).Perm l := by
    have := p.map fun s : Str => s.cps.toList
    rw [List.map_map] at this
    have e : (fun s : Str => s.cps.toList) ∘ tx = id := rfl
    rw [e, List.map_id] at this
    exact this
  have e := perm_one (fun a b h1 h2 => ltL_tri a b h2 h1) (pp.trans (sortT_perm l).symm) pw (sortT_sorted l)
  rw [← e, List.map_map]
  have : (tx ∘ fun s : Str => s.cps.toList) = id := by
    funext s
    exact (ofs s).symm
  rw [this, List.map_id]
/-! ### lists of one kind -/
section
variable {N K} {F : Hp} {t : Nat → Addr} {L : Nat}
theorem RAs.ints : ∀ {vs : List V} {as : List A} {is : List Int}, RAs N K F t L vs as → intsOf as = some is → vs = is.map V.int
  | _, _, _, .nil, e => by cases e; rfl
  | _, _, _, .cons (d := .h n) r rs, e => by simp [intsOf] at e
  | _, _, _, .cons (d := .z d) (ds := as) r rs, e => by
    cases r with
    | z r =>
      cases r with
      | int i =>
        simp only [intsOf] at e
        cases q : intsOf as with
        | none => rw [q] at e; cases e
        | some js => rw [q] at e; cases e; rw [RAs.ints rs q]; rfl
      | _ => simp [intsOf] at e
theorem RAs.strs : ∀ {vs : List V} {as : List A} {is : List (List Nat)}, RAs N K F t L vs as → strsOf as = some is → vs = (is.map tx).map V.str
  | _, _, _, .nil, e => by cases e; rfl
  | _, _, _, .cons (d := .h n) r rs, e => by simp [strsOf] at e
  | _, _, _, .cons (d := .z d) (ds := as) r rs, e => by
    cases r with
    | z r =>
      cases r with
      | str i =>
        simp only [strsOf] at e
        cases q : strsOf as with
        | none => rw [q] at e; cases e
        | some js => rw [q] at e; cases e; rw [RAs.strs rs q]; rfl
      | _ => simp [strsOf] at e
theorem RAs.bls : ∀ {vs : List V} {as : List A} {is : List Bool}, RAs N K F t L vs as → blsOf as = some is → vs = is.map V.bl
  | _, _, _, .nil, e => by cases e; rfl
  | _, _, _, .cons (d := .h n) r rs, e => by simp [blsOf] at e
  | _, _, _, .cons (d := .z d) (ds := as) r rs, e => by
    cases r with
    | z r =>
      cases r with
      | bl i =>
        simp only [blsOf] at e
        cases q : blsOf as with
        | none => rw [q] at e; cases e
        | some js => rw [q] at e; cases e; rw [RAs.bls rs q]; rfl
      | _ => simp [blsOf] at e
theorem RAs.ofInts : ∀ (is : List Int), RAs N K F t L (is.map V.int) (is.map fun i => A.z (.int i))
  | [] => .nil
  | i :: r => .cons (.z (.int i)) (RAs.ofInts r)
theorem RAs.ofStrs : ∀ (is : List (List Nat)), RAs N K F t L ((is.map tx).map V.str) (is.map fun i => A.z (.str i))
  | [] => .nil
  | i :: r => .cons (.z (.str i)) (RAs.ofStrs r)
end
theorem maxI_mem : ∀ (r : List Int) (a : Int), maxI a r ∈ a :: r ∧ ∀ y ∈ a :: r, y ≤ maxI a r
  | [], a => by simp [maxI]
  | x :: r, a => by
    unfold maxI
    obtain ⟨h1, h2⟩ := maxI_mem r (if a < x then x else a)
    refine ⟨?_, fun y hy => ?_⟩
    · rcases List.mem_cons.mp h1 with e | h
      · rw [e]
        split <;> simp
      · simp [h]
    · have hm := h2 (if a < x then x else a) List.mem_cons_self
      rcases List.mem_cons.mp hy with e | hy
      · subst e
        split at hm <;> split <;> omega
      · rcases List.mem_cons.mp hy with e | hy
        · subst e
          split at hm <;> split <;> omega
        · exact h2 y (List.mem_cons_of_mem _ hy)
theorem minI_mem : ∀ (r : List Int) (a : Int), minI a r ∈ a :: r ∧ ∀ y ∈ a :: r, minI a r ≤ y
  | [], a => by simp [minI]
  | x :: r, a => by
    unfold minI
    obtain ⟨h1, h2⟩ := minI_mem r (if x < a then x else a)
    refine ⟨?_, fun y hy => ?_⟩
    · rcases List.mem_cons.mp h1 with e | h
      · rw [e]
        split <;> simp
      · simp [h]
    · have hm := h2 (if x < a then x else a) List.mem_cons_self
      rcases List.mem_cons.mp hy with e | hy
      · subst e
        split at hm <;> split <;> omega
      · rcases List.mem_cons.mp hy with e | hy
        · subst e
          split at hm <;> split <;> omega
        · exact h2 y (List.mem_cons_of_mem _ hy)
/-- a built-in of one value -/
def rF (f : A → Store → R A) : List V → Hp → VK → Prop := fun vs H Q => ∃ (W : XK), ∃ F t m a x, vs = [x] ∧ SR N K F t m H ∧ RA N K F t m.length x a ∧ PstA N K W Q F t m H (f a m)
section
variable {X : Cx}
theorem cr_len (mu : Bool) : CallR X (.builtin "len") (rF N X.K (fn1A mu .len)) := by
  intro pins s σ H vs us Q I r h
  obtain ⟨W, F, t, m, a, x, rfl, sr, ra, p⟩ := h
  simp only [fn1A] at p
  split at p
  · rename_i xs hv
    obtain ⟨q, vs, rfl, hl, rs, _⟩ := view_lst sr ra hv
    refine call_len pins s σ H _ us Q I r ⟨_, xs.length, rfl, .inl ⟨vs, hl, (rs.len N X.K).symm⟩, p.int sr⟩
  · rename_i xs hv
    obtain ⟨q, vs, rfl, hl, rs⟩ := view_tup sr ra hv
    refine call_len pins s σ H _ us Q I r ⟨_, xs.length, rfl, .inr ⟨vs, hl, (rs.len N X.K).symm⟩, p.int sr⟩
  · rename_i xs hv
    obtain rfl := view_str sr ra hv
    split at p
    · rename_i c
      exact call_len pins s σ H _ us Q I r ⟨_, xs.length, rfl, ⟨ble_sz c, rfl⟩, p.int sr⟩
    · exact False.elim p
  · exact False.elim p
theorem cr_list (mu : Bool) : CallR X (.type "list") (rF N X.K (fn1A mu .list)) := by
  intro pins s σ H vs us Q I r h
  obtain ⟨W, F, t, m, a, x, rfl, sr, ra, p⟩ := h
  simp only [fn1A] at p
  split at p
  · rename_i xs hv
    obtain ⟨q, vs, rfl, hl, rs, _⟩ := view_lst sr ra hv
    exact call_list_of pins s σ H _ us Q I r ⟨_, _, rfl, .inl hl, p.lst sr rs⟩
  · rename_i xs hv
    obtain ⟨q, vs, rfl, hl, rs⟩ := view_tup sr ra hv
    exact call_list_of pins s σ H _ us Q I r ⟨_, _, rfl, .inr hl, p.lst sr rs⟩
  · exact False.elim p
theorem cr_tuple (mu : Bool) : CallR X (.type "tuple") (rF N X.K (fn1A mu .tuple)) := by
  intro pins s σ H vs us Q I r h
  obtain ⟨W, F, t, m, a, x, rfl, sr, ra, p⟩ := h
  simp only [fn1A] at p
  split at p
  · rename_i xs hv
    obtain ⟨q, vs, rfl, hl, rs, _⟩ := view_lst sr ra hv
    exact call_tuple_of pins s σ H _ us Q I r ⟨_, _, rfl, .inl ⟨hl, p.tup sr rs⟩⟩
  · rename_i xs hv
    obtain ⟨q, vs, rfl, hl, rs⟩ := view_tup sr ra hv
    exact call_tuple_of pins s σ H _ us Q I r ⟨_, _, rfl, .inr ⟨hl, p.here sr ra⟩⟩
  · exact False.elim p
theorem cr_sorted' (mu : Bool) : CallR X (.builtin "sorted") (rF N X.K (fn1A mu .sorted)) := by
  intro pins s σ H vs us Q I r h
  obtain ⟨W, F, t, m, a, x, rfl, sr, ra, p⟩ := h
  simp only [fn1A] at p
  split at p
  · rename_i xs hv
    obtain ⟨q, vs, rfl, hl, rs, _⟩ := view_lst sr ra hv
    split at p
    · rename_i is hi
      have e := rs.ints hi
      subst e
      refine cr_sortedI pins s σ H _ us Q I r ⟨_, is, rfl, hl, fun ns' b hp hs hb => ?_⟩
      rw [sortI_one hp hs]
      exact p.lst sr (RAs.ofInts _) b hb
    · split at p
      · rename_i is hi
        split at p
        · rename_i c
          have e := rs.strs hi
          subst e
          refine cr_sortedS pins s σ H _ us Q I r ⟨_, is.map tx, rfl, hl, ?_, fun ns' b hp hs hb => ?_⟩
          · rw [List.length_map]
            exact Nat.le_of_ble_eq_true c
          · rw [sortT_one hp hs]
            exact p.lst sr (RAs.ofStrs _) b hb
        · exact False.elim p
      · exact False.elim p
  · exact False.elim p
theorem cr_max' (mu : Bool) (hc : X.calm = true) : CallR X (.builtin "max") (rF N X.K (fn1A mu .max)) := by
  intro pins s σ H vs us Q I r h
  obtain ⟨W, F, t, m, a, x, rfl, sr, ra, p⟩ := h
  simp only [fn1A] at p
  split at p
  · rename_i xs hv
    obtain ⟨q, vs, rfl, hl, rs, _⟩ := view_lst sr ra hv
    split at p
    · rename_i i is hi
      have e := rs.ints hi
      subst e
      refine cr_max hc pins s σ H _ us Q I r ⟨_, i :: is, rfl, hl, by simp, fun k hk hle => ?_⟩
      obtain ⟨h1, h2⟩ := maxI_mem is i
      rw [Int.le_antisymm (h2 k hk) (hle _ h1)]
      exact p.int sr
    · exact False.elim p
  · exact False.elim p
theorem cr_min' (mu : Bool) (hc : X.calm = true) : CallR X (.builtin "min") (rF N X.K (fn1A mu .min)) := by
  intro pins s σ H vs us Q I r h
  obtain ⟨W, F, t, m, a, x, rfl, sr, ra, p⟩ := h
  simp only [fn1A] at p
  split at p
  · rename_i xs hv
    obtain ⟨q, vs, rfl, hl, rs, _⟩ := view_lst sr ra hv
    split at p
    · rename_i i is hi
      have e := rs.ints hi
      subst e
      refine cr_min hc pins s σ H _ us Q I r ⟨_, i :: is, rfl, hl, by simp, fun k hk hle => ?_⟩
      obtain ⟨h1, h2⟩ := minI_mem is i
      rw [Int.le_antisymm (hle _ h1) (h2 k hk)]
      exact p.int sr
    · exact False.elim p
  · exact False.elim p
theorem cr_any' (mu : Bool) (hc : X.calm = true) : CallR X (.builtin "any") (rF N X.K (fn1A mu .any)) := by
  intro pins s σ H vs us Q I r h
  obtain ⟨W, F, t, m, a, x, rfl, sr, ra, p⟩ := h
  simp only [fn1A] at p
  split at p
  · rename_i xs hv
    obtain ⟨q, vs, rfl, hl, rs, _⟩ := view_lst sr ra hv
    obtain ⟨bs, hb, p⟩ := p.ofO
    have e := rs.bls hb
    subst e
    exact cr_any hc pins s σ H _ us Q I r ⟨_, bs, rfl, hl, p.bl sr⟩
  · exact False.elim p
theorem cr_all' (mu : Bool) (hc : X.calm = true) : CallR X (.builtin "all") (rF N X.K (fn1A mu .all)) := by
  intro pins s σ H vs us Q I r h
  obtain ⟨W, F, t, m, a, x, rfl, sr, ra, p⟩ := h
  simp only [fn1A] at p
  split at p
  · rename_i xs hv
    obtain ⟨q, vs, rfl, hl, rs, _⟩ := view_lst sr ra hv
    obtain ⟨bs, hb, p⟩ := p.ofO
    have e := rs.bls hb
    subst e
    exact cr_all hc pins s σ H _ us Q I r ⟨_, bs, rfl, hl, p.bl sr⟩
  · exact False.elim p
theorem cr_sum' (mu : Bool) (hc : X.calm = true) : CallR X (.builtin "sum") (rF N X.K (fn1A mu .sum)) := by
  intro pins s σ H vs us Q I r h
  obtain ⟨W, F, t, m, a, x, rfl, sr, ra, p⟩ := h
  simp only [fn1A] at p
  split at p
  · rename_i xs hv
    obtain ⟨q, vs, rfl, hl, rs, _⟩ := view_lst sr ra hv
    obtain ⟨bs, hb, p⟩ := p.ofO
    have e := rs.ints hb
    subst e
    exact cr_sum hc pins s σ H _ us Q I r ⟨_, bs, rfl, hl, p.int sr⟩
  · exact False.elim p
theorem cr_str (mu : Bool) : CallR X (.type "str") (rF N X.K (fn1A mu .str)) := by
  intro pins s σ H vs us Q I r h
  obtain ⟨W, F, t, m, a, x, rfl, sr, ra, p⟩ := h
  simp only [fn1A] at p
  split at p
  · rename_i i
    split at p
    · rename_i c
      cases ra with
      | z ra =>
        cases ra
        refine call_str_int pins s σ H _ us Q I r ⟨i, rfl, of_decide_eq_true c, ?_⟩
        have := p.str sr
        unfold digits at this
        rw [← ofs] at this
        exact this
    · exact False.elim p
  · exact False.elim p
theorem cr_int (mu : Bool) : CallR X (.type "int") (rF N X.K (fn1A mu .int)) := by
  intro pins s σ H vs us Q I r h
  obtain ⟨W, F, t, m, a, x, rfl, sr, ra, p⟩ := h
  simp only [fn1A] at p
  split at p
  · rename_i i
    cases ra with
    | z ra =>
      cases ra
      exact call_int1 pins s σ H _ us Q I r (.inl ⟨i, rfl, p.int sr⟩)
  · rename_i i
    cases ra with
    | z ra =>
      cases ra
      exact call_int1 pins s σ H _ us Q I r (.inr ⟨i, rfl, p.int sr⟩)
  · exact False.elim p
theorem cr_abs (mu : Bool) : CallR X (.builtin "abs") (rF N X.K (fn1A mu .abs)) := by
  intro pins s σ H vs us Q I r h
  obtain ⟨W, F, t, m, a, x, rfl, sr, ra, p⟩ := h
  simp only [fn1A] at p
  split at p
  · rename_i i
    cases ra with
    | z ra =>
      cases ra
      exact call_abs pins s σ H _ us Q I r ⟨i, rfl, p.int sr⟩
  · exact False.elim p
/-- a built-in of two values -/
def rF2 (f : A → A → Store → R A) : List V → Hp → VK → Prop := fun vs H Q => ∃ (W : XK), ∃ F t m a b x y, vs = [x, y] ∧ SR N K F t m H ∧ RA N K F t m.length x a ∧ RA N K F t m.length y b ∧ PstA N K W Q F t m H (f a b m)
theorem cr_max2 (hc : X.calm = true) : CallR X (.builtin "max") (rF2 N X.K (fn2A .max)) := by
  intro pins s σ H vs us Q I r h
  obtain ⟨W, F, t, m, a, b, x, y, rfl, sr, ra, rb, p⟩ := h
  unfold fn2A at p
  split at p
  · cases ra with
    | z ra =>
      cases ra
      cases rb with
      | z rb =>
        cases rb
        exact call_max2 hc pins s σ H _ us Q I r ⟨_, _, rfl, p.int sr⟩
  · rename_i h; cases h
  · exact False.elim p
theorem cr_min2 (hc : X.calm = true) : CallR X (.builtin "min") (rF2 N X.K (fn2A .min)) := by
  intro pins s σ H vs us Q I r h
  obtain ⟨W, F, t, m, a, b, x, y, rfl, sr, ra, rb, p⟩ := h
  unfold fn2A at p
  split at p
  · rename_i h; cases h
  · cases ra with
    | z ra =>
      cases ra
      cases rb with
      | z rb =>
        cases rb
        exact call_min2 hc pins s σ H _ us Q I r ⟨_, _, rfl, p.int sr⟩
  · exact False.elim p
/-! ### methods -/
def rM1 (f : A → A → Store → R A) : V → List V → Hp → VK → Prop := fun x vs H Q => ∃ (W : XK), ∃ F t m a b y, vs = [y] ∧ SR N K F t m H ∧ RA N K F t m.length x a ∧ RA N K F t m.length y b ∧ PstA N K W Q F t m H (f a b m)
theorem mt_append' : MtR X "list.append" (rM1 N X.K (bm1A .append)) := by
  intro pins s σ H x xs v us Q I rx rs h
  obtain ⟨W, F, t, m, a, b, y, rfl, sr, ra, rb, p⟩ := h
  simp only [bm1A] at p
  split at p
  · rename_i n
    split at p
    · rename_i ys hc
      split at p
      · rename_i c
        cases ra with
        | h hn =>
          obtain ⟨o, e1, e2, e3⟩ := sr.cel n _ hc
          cases e2 with
          | lst rys =>
            refine mt_append pins s σ H _ _ v us Q I rx rs ⟨t n, _, y, rfl, rfl, e1, ?_, ?_⟩
            · rw [rys.len N X.K, sizeLine_eq]
              exact Nat.le_of_ble_eq_true c
            · have st := Stp.set (o := .lst _) sr hc (.lst (rys.app N X.K (.cons rb .nil)))
              exact p .non _ _ _ st (.z .non)
      · exact False.elim p
    · exact False.elim p
  · exact False.elim p
theorem joinT_eq (s : List Nat) : ∀ ys : List (List Nat), TL.joinL s ys = joinT s ys
  | [] => rfl
  | [x] => rfl
  | x :: y :: r => by
    show x ++ (s ++ TL.joinL s (y :: r)) = x ++ (s ++ joinT s (y :: r))
    rw [joinT_eq s (y :: r)]
theorem join_tx (s : List Nat) (ys : List (List Nat)) : Txt.join (tx s) (ys.map tx) = tx (joinT s ys) := by
  have h := TL.tl_join (tx s) (ys.map tx)
  rw [← TL.join_eq] at h
  rw [ofs (Txt.join (tx s) (ys.map tx))]
  have e : (ys.map tx).map TL.tl = ys := by
    rw [List.map_map]
    have : TL.tl ∘ tx = id := rfl
    rw [this, List.map_id]
  rw [e] at h
  have h2 : (Txt.join (tx s) (ys.map tx)).cps.toList = TL.joinL s ys := h
  rw [h2, joinT_eq]
theorem mt_join' : MtR X "str.join" (rM1 N X.K (bm1A .join)) := by
  intro pins s σ H x xs v us Q I rx rs h
  obtain ⟨W, F, t, m, a, b, y, rfl, sr, ra, rb, p⟩ := h
  simp only [bm1A] at p
  split at p
  · rename_i z ws hw
    obtain ⟨ys, hy, p⟩ := p.ofO
    split at p
    · rename_i c
      cases ra with
      | z ra =>
        cases ra
        have key : ∃ q, y = .ref q ∧ (SqL X.K H q ((ys.map tx).map V.str) ∨ SqT X.K H q ((ys.map tx).map V.str)) := by
          unfold seqOf at hw
          split at hw
          · rename_i xs hv
            cases hw
            obtain ⟨q, vs, rfl, hl, r2, _⟩ := view_lst sr rb hv
            have e := r2.strs hy
            subst e
            exact ⟨q, rfl, .inl hl⟩
          · rename_i xs hv
            cases hw
            obtain ⟨q, vs, rfl, hl, r2⟩ := view_tup sr rb hv
            have e := r2.strs hy
            subst e
            exact ⟨q, rfl, .inr hl⟩
          · cases hw
        obtain ⟨q, rfl, hq⟩ := key
        refine mt_join pins s σ H _ _ v us Q I rx rs ⟨tx z, q, ys.map tx, rfl, rfl, hq, ?_, ?_⟩
        · rw [List.map_map, List.length_map]
          exact Nat.le_of_ble_eq_true c
        · rw [join_tx]
          exact p.str sr
    · exact False.elim p
  · exact False.elim p
/-! ### truth -/
theorem tru_A {F : Hp} {t : Nat → Addr} {m : Store} {H : Hp} {x : V} {a : A} {k : Bool} (sr : SR N K F t m H) (ra : RA N K F t m.length x a) (h : tru m a = some k) : TruV K x H k := by
  unfold tru at h
  split at h
  · rename_i b hv
    obtain ⟨_, r⟩ := view_at sr ra hv
    cases r
    cases h
    rfl
  · rename_i hv
    obtain ⟨_, r⟩ := view_at sr ra hv
    cases r
    cases h
    rfl
  · rename_i hv
    obtain ⟨_, r⟩ := view_at sr ra hv
    cases r
    cases h
    rfl
  · rename_i z hv
    obtain ⟨_, r⟩ := view_at sr ra hv
    cases r
    split at h
    · rename_i c
      cases h
      refine ⟨ble_sz c, ?_⟩
      cases z with
      | nil => rfl
      | cons y r =>
        show true = ((((tx (y :: r)).length : Nat) : Int) != 0)
        rw [tx_len]
        simp only [List.length_cons]
        symm
        simp only [bne_iff_ne, ne_eq]
        omega
    · cases h
  · rename_i xs hv
    obtain ⟨q, vs, rfl, hl, rs, _⟩ := view_lst sr ra hv
    cases h
    refine .inl ⟨vs, hl, ?_⟩
    cases rs <;> rfl
  · rename_i xs hv
    obtain ⟨q, vs, rfl, hl, rs⟩ := view_tup sr ra hv
    cases h
    refine .inr (.inl ⟨vs, hl, ?_⟩)
    cases rs <;> rfl
  · cases h
end
end GL

/-! G8: facts of the text, good contexts, calls. -/
namespace GL
open PySem L2
/-- a class of instances -/
structure ClsF (K : PySem.W.Frag) (C : Addr) : Prop where
  cl : Cls K C
  ha : PySem.W.findIn K (.ref C) "__class__" = some (some (.builtin "object.__class__"))
  hn : PySem.W.specialIn K (.builtin "object.__class__") "__get__" = some (some (.builtin "getset_descriptor.__get__"))
  htk : PySem.W.takesIn K (.builtin "object.__class__") = some true
  hm : PySem.W.mroIn K C (.type "object") = some true
variable (T : Tab) (N : Nms) (K : PySem.W.Frag)
def kdV : Kd → Value
  | .non => .type "NoneType"
  | .bl => .type "bool"
  | .int => .type "int"
  | .str => .type "str"
  | .list => .type "list"
  | .tuple => .type "tuple"
  | .dict => .type "dict"
  | .cls C => .ref (cad N K C)
def tyVal : Ty → V
  | .cls C => .ref (cad N K C)
  | .int => .ty "int"
  | .bool => .ty "bool"
  | .str => .ty "str"
  | .list => .ty "list"
  | .tuple => .ty "tuple"
def tyU : Ty → Value
  | .cls C => .ref (cad N K C)
  | .int => .type "int"
  | .bool => .type "bool"
  | .str => .type "str"
  | .list => .type "list"
  | .tuple => .type "tuple"
def tyOk : Ty → Bool
  | .cls C => decide (C < T.cls.length)
  | _ => true
def names1 : List Str := ["len", "list", "tuple", "sorted", "max", "min", "any", "all", "sum", "str", "int", "abs", "range", "reversed", "isinstance", "set", "bool", "dict"]
def dvV : D → V
  | .bl b => .bl b
  | .int i => .int i
  | .str x => .str (tx x)
  | _ => .non
structure Sta (mg : Str → Option Value) : Prop where
  fl : N.fl.Nodup
  cls : ∀ C, insC T C = true → ClsF K (cad N K C)
  noat : ∀ C f, insC T C = true → f < N.fl.length → NoAttr K (cad N K C) (fnm N f)
  kit : ∀ t k, tyOk T t = true → kdOk T k = true → PySem.W.kitOne K (kdV N K k) (tyU N K t) = some (isK T t k)
  clg : ∀ C, C < T.cls.length → mg (N.cl.getD C Str.empty) = some (.ref (cad N K C)) ∧ PySem.W.keepIn K (.ref (cad N K C)) = true
  mkr : ∀ (C : Nat) (c : CDef) (f : Nat), T.cls[C]? = some c → c.xfs = none → c.init = some f → Mk K (cad N K C) (fad N K f)
  mk0 : ∀ (C : Nat) (c : CDef), T.cls[C]? = some c → c.xfs = none → c.init = none → PySem.W.makesIn K (cad N K C) = true ∧ PySem.W.findIn K (.ref (cad N K C)) "__init__" = some (some (.builtin "object.__init__"))
  mth : ∀ (C : Nat) (c : CDef) (mt f : Nat), T.cls[C]? = some c → c.xfs = none → lookF mt c.meths = some f → Meth K (cad N K C) (N.mt.getD mt Str.empty) (fad N K f) ∧ N.mt.getD mt Str.empty ∉ N.fl
  blt : ∀ x ∈ names1, mg x = none
  rse : ∀ (C : Nat) (c : CDef), T.cls[C]? = some c → c.xfs = some [] → PySem.W.excIn K (cad N K C) [.type "ValueError", .type "Exception", .type "BaseException", .type "object"] "ValueError.__new__" = true ∧
    PySem.W.subIn K (.ref (cad N K C)) (.type "BaseException") = some true ∧ PySem.W.typeIn K (.ref (cad N K C)) = some (.type "type")
  fng : ∀ (f : Nat) (x : Str), N.fn[f]? = some (x, none) → mg x = some (.ref (fad N K f)) ∧ PySem.W.keepIn K (.ref (fad N K f)) = true
/-- a def's promise: as the ghost call says -/
def spD (n : Nat) (f : List A → Store → R A) : Sp := fun vs H Q E => ∃ F t m as, vs.length = n ∧ SR N K F t m H ∧ RAs N K F t m.length vs as ∧ PstA N K E Q F t m H (f as m)
/-- the callees -/
structure Cal (P : Program) (w : World) (mg : Str → Option Value) (base : Heap) (k : Nat) (call : Nat → List A → Store → R A) : Prop where
  ok : ∀ (f : Nat) (fd : FDef), T.fns[f]? = some fd → ∃ (fdat : FuncData) (ps : List Str), FnOk P w K mg base (L2.CX P w) k (fad N K f) fdat ps (spD N K fd.ps (call f)) ∧
    ∀ j, ∃ ds, Vals ((fd.dfl.drop j).map dvV) ds ∧ Binds K fdat ps ds
  dfl : ∀ (f : Nat) (fd : FDef), T.fns[f]? = some fd → fd.dfl.all flatD = true
  none : ∀ (f : Nat) (as : List A) (m : Store), T.fns[f]? = none → call f as m = .bad
  len : ∀ (f : Nat) (fd : FDef) (as : List A) (m : Store), T.fns[f]? = some fd → as.length ≠ fd.ps → call f as m = .bad
structure Gd (X : Cx) (k : Nat) (call : Nat → List A → Store → R A) : Prop where
  calm : X.calm = true
  nd : X.N.Nodup
  room : Room (k + 1) X.A
  sta : Sta T N X.K X.mg
  cal : Cal T N X.K X.prog X.w X.mg X.base k call
section
variable {T N} {X : Cx} {k : Nat} {call : Nat → List A → Store → R A}
theorem Gd.units (g : Gd T N X k call) : X.A.units + 65 < cLine := by
  have := g.room.un
  omega
theorem cr_isi (g : Gd T N X k call) {t : Ty} (ht : tyOk T t = true) : CallR X (.builtin "isinstance") (fun vs H Q => ∃ (W : XK), ∃ F tt m a x, vs = [x, tyVal N X.K t] ∧ SR N X.K F tt m H ∧ RA N X.K F tt m.length x a ∧ PstA N X.K W Q F tt m H (isiA T a t m)) := by
  intro pins s σ H vs us Q I r h
  obtain ⟨W, F, tt, m, a, x, rfl, sr, ra, p⟩ := h
  obtain ⟨kd, hk, p⟩ := p.ofO
  cases hv : view m a with
  | none => rw [hv] at hk; cases hk
  | some nd =>
    rw [hv] at hk
    have hk : kdOf nd = some kd := hk
    have cv : ClsV (tyVal N X.K t) (tyU N X.K t) := by cases t <;> first | exact .ty _ | exact .own _
    split at p
    · rename_i h2
      have q := p.bl sr
      have key : TyX X.K H x (kdV N X.K kd) := by
        cases nd with
        | «at» d =>
          obtain ⟨_, r⟩ := view_at sr ra hv
          cases r <;> simp [kdOf] at hk <;> subst hk
          · exact .base .non
          · exact .base (.bl _)
          · exact .base (.int _)
          · exact .base (.str _)
        | lst xs =>
          simp [kdOf] at hk
          subst hk
          obtain ⟨q, vs, rfl, hl, rs, _⟩ := view_lst sr ra hv
          rcases hl with (hl | ⟨o, hl⟩) | ⟨o, its, n, h1, h2, _⟩
          · exact .base (.lst hl)
          · exact .base (.frz hl)
          · exact .kList h1 h2
        | tup xs =>
          simp [kdOf] at hk
          subst hk
          obtain ⟨q, vs, rfl, hl, rs⟩ := view_tup sr ra hv
          rcases hl with (hl | ⟨o, hl⟩) | ⟨o, its, n, h1, h2, _⟩
          · exact .base (.tup hl)
          · exact .fTuple hl
          · exact .kTuple h1 h2
        | dct xs =>
          simp [kdOf] at hk
          subst hk
          simp [kdOk] at h2
        | ins C fs =>
          simp [kdOf] at hk
          subst hk
          obtain ⟨q, dx, vs, rfl, hi, rs⟩ := view_ins sr ra hv
          have c := g.sta.cls C h2
          exact .base (.ins hi c.cl c.ha c.hn c.htk c.hm)
      exact call_isi pins s σ H _ us Q I r ⟨x, _, _, _, _, rfl, cv, key, g.sta.kit t kd ht h2, q⟩
    · exact False.elim p
/-! ### calls of defs -/
theorem flatD_dv {F : Hp} : ∀ {d : D}, flatD d = true → RV N X.K F (dvV d) d
  | .non, _ => .non
  | .bl b, _ => .bl b
  | .int i, _ => .int i
  | .str x, _ => .str x
  | .lst _, h => by simp [flatD] at h
  | .tup _, h => by simp [flatD] at h
  | .dct _, h => by simp [flatD] at h
  | .ins _ _, h => by simp [flatD] at h
  | .scr _, h => by simp [flatD] at h
theorem flatDs_dv {F : Hp} {t : Nat → Addr} {L : Nat} : ∀ {ds : List D}, ds.all flatD = true → RAs N X.K F t L (ds.map dvV) (ds.map A.z)
  | [], _ => .nil
  | d :: r, h => by
    rw [List.all_cons, Bool.and_eq_true] at h
    exact .cons (.z (flatD_dv h.1)) (flatDs_dv h.2)
/-- what an exception's wish is, at the slots -/
abbrev wAt (W : WX) (σ : St) : XK := fun cls d H => W cls d σ H
theorem run_call (g : Gd T N X k call) {W : WX} (tk : Takes X W) {f : Nat} {pins : List (Addr × Obj)} {σ : St} {H : Hp} {s : Shared} {Q : VK} {us : List Value} {vs : List V} {F : Hp} {t : Nat → Addr} {m : Store} {as : List A} {fd : FDef} (hf : T.fns[f]? = some fd)
    (I : Inv X pins σ H s) (r : Vals vs us) (sr : SR N X.K F t m H) (ra : RAs N X.K F t m.length vs as) (hl : (fill T f as).length = fd.ps) (p : PstA N X.K (wAt W σ) Q F t m H (call f (fill T f as) m)) :
    wpAny (model X.prog X.w) X.A (PySem.call (.ref (fad N X.K f)) us) (EP X pins σ Q) X.xe s := by
  obtain ⟨fdat, ps, ok, bs⟩ := g.cal.ok f fd hf
  obtain ⟨ds, hd, hb⟩ := bs (as.length + fd.dfl.length - fd.ps)
  have hz : (fd.dfl.drop (as.length + fd.dfl.length - fd.ps)).all flatD = true := by
    have := g.cal.dfl f fd hf
    rw [List.all_eq_true] at this ⊢
    exact fun x hx => this x (List.mem_of_mem_drop hx)
  have ef : fill T f as = as ++ (fd.dfl.drop (as.length + fd.dfl.length - fd.ps)).map A.z := by
    unfold fill
    rw [hf]
  have ra2 : RAs N X.K F t m.length (vs ++ (fd.dfl.drop (as.length + fd.dfl.length - fd.ps)).map dvV) (fill T f as) := by
    rw [ef]
    exact ra.app N X.K (flatDs_dv hz)
  refine run_fnSD (E := WE W) ok (g.room.mono (Nat.le_succ _)) hb hd (passAt tk σ) I r ⟨F, t, m, fill T f as, ?_, sr, ra2, p⟩
  rw [ra2.len N X.K, hl]
/-- C(..) with an __init__ -/
theorem run_new (g : Gd T N X k call) {W : WX} (tk : Takes X W) {f C : Nat} {pins : List (Addr × Obj)} {σ : St} {H : Hp} {s : Shared} {Q : VK} {us : List Value} {vs : List V} {F : Hp} {t : Nat → Addr} {m : Store} {as : List A} {fd : FDef} {c : CDef} (hf : T.fns[f]? = some fd)
    (hc : T.cls[C]? = some c) (hx : c.xfs = none) (hi : c.init = some f)
    (I : Inv X pins σ H s) (r : Vals vs us) (sr : SR N X.K F t m H) (ra : RAs N X.K F t m.length vs as) (hl : (fill T f (.h m.length :: as)).length = fd.ps)
    (p : PstA N X.K (wAt W σ) Q F t m H ((call f (fill T f (.h m.length :: as)) (m ++ [some (.ins C [])])).bind fun y m2 => noneOk y (.h m.length) m2)) :
    wpAny (model X.prog X.w) X.A (PySem.call (.ref (cad N X.K C)) us) (EP X pins σ Q) X.xe s := by
  obtain ⟨fdat, ps, ok, bs⟩ := g.cal.ok f fd hf
  obtain ⟨ds, hd, hb⟩ := bs ((A.h m.length :: as).length + fd.dfl.length - fd.ps)
  have hz : (fd.dfl.drop ((A.h m.length :: as).length + fd.dfl.length - fd.ps)).all flatD = true := by
    have := g.cal.dfl f fd hf
    rw [List.all_eq_true] at this ⊢
    exact fun x hx => this x (List.mem_of_mem_drop hx)
  have ef : fill T f (.h m.length :: as) = (.h m.length :: as) ++ (fd.dfl.drop ((A.h m.length :: as).length + fd.dfl.length - fd.ps)).map A.z := by
    unfold fill
    rw [hf]
  have M := g.sta.mkr C c f hc hx hi
  have I2 := Inv.made (C := cad N X.K C) I
  generalize hx0 : s.heap.objs.size + 1 = x at I2
  generalize hdx : s.heap.objs.size = dx at I2
  have nx : H x = none := I.hok.fresh (by omega)
  have ndx : H dx = none := I.hok.fresh (by omega)
  have ne : x ≠ dx := by omega
  have sr1 : Stp N X.K F t m H F t m (upd H dx (.own x)) := by
    refine ⟨Ext.refl, ⟨fun a u e => ?_, fun n c hc => ?_, sr.inj⟩, fun a o e _ => ?_, fun a o e => ⟨o, ?_⟩, fun n c h _ => ⟨c, h⟩, fun n c h z => absurd (cell_lt h) (Nat.not_lt.mpr z), fun _ _ e => .inl e⟩
    · have ha : a ≠ dx := fun q => by subst q; rw [sr.fnone ndx] at e; cases e
      rw [upd_ne ha]
      exact sr.sub a u e
    · obtain ⟨o, e1, e2, e3⟩ := sr.cel n c hc
      exact ⟨o, by rw [upd_ne (sr.tne ndx hc)]; exact e1, e2, e3⟩
    · rw [upd_ne (ne_of_none e ndx)]; exact e
    · rw [upd_ne (ne_of_none e ndx)]; exact e
  have nx1 : upd H dx (.own x) x = none := by rw [upd_ne ne]; exact nx
  have st := sr1.trans (Stp.cell (o := HO.ins (cad N X.K C) dx []) (c := Nd.ins C []) sr1.sr nx1 (RN.ins .nil))
  generalize hH2 : upd (upd H dx (.own x)) x (HO.ins (cad N X.K C) dx []) = H2 at st I2
  have ra2 : RAs N X.K F (tput t m.length x) (m ++ [some (Nd.ins C [])]).length (.ref x :: (vs ++ (fd.dfl.drop ((A.h m.length :: as).length + fd.dfl.length - fd.ps)).map dvV)) (fill T f (.h m.length :: as)) := by
    rw [ef]
    refine RAs.cons (d := .h m.length) ?_ ((ra.mono N X.K st.ext).app N X.K (flatDs_dv hz))
    have e : V.ref x = .ref (tput t m.length x m.length) := by rw [tput_same]
    rw [e]
    exact .h (by simp)
  have hlen : (V.ref x :: (vs ++ (fd.dfl.drop ((A.h m.length :: as).length + fd.dfl.length - fd.ps)).map dvV)).length = fd.ps := by rw [ra2.len N X.K, hl]
  have p2 : PstA N X.K (wAt W σ) (fun v H3 => v = .non ∧ Q (.ref x) H3) F (tput t m.length x) (m ++ [some (.ins C [])]) H2 (call f (fill T f (.h m.length :: as)) (m ++ [some (.ins C [])])) := by
    refine Pst.fst (Pst.step p st) fun a m1 v F1 t1 H1 st1 r1 q1 => ?_
    unfold noneOk at q1
    split at q1
    · refine ⟨?_, ?_⟩
      · cases r1 with
        | z r1 => cases r1; rfl
      · refine PstA.here (N := N) (K := X.K) (W := wAt W σ) st1.sr q1 ?_
        have l1 : m.length < (m ++ [some (Nd.ins C [])]).length := by simp
        have e : V.ref x = .ref (t1 m.length) := by rw [st1.ext.t _ l1, tput_same]
        rw [e]
        exact .h (Nat.lt_of_lt_of_le l1 st1.ext.len)
    · exact False.elim q1
  have r2 : Vals (V.ref x :: (vs ++ (fd.dfl.drop ((A.h m.length :: as).length + fd.dfl.length - fd.ps)).map dvV)) (Value.ref x :: (us ++ ds)) := .cons rfl (r.append hd)
  have sp2 : spD N X.K fd.ps (call f) (V.ref x :: (vs ++ (fd.dfl.drop ((A.h m.length :: as).length + fd.dfl.length - fd.ps)).map dvV)) H2 (fun v H3 => v = .non ∧ Q (.ref x) H3) (wAt W σ) := ⟨F, _, _, _, hlen, st.sr, ra2, p2⟩
  have hl2 : (Value.ref x :: us ++ ds).length = ps.length := by
    have e := r2.length
    rw [ok.len _ _ _ _ sp2] at e
    exact e.symm
  refine wpAny_call (make_map (f := fad N X.K f) I.kIn M.makes M.init (beq_iff_eq.mp M.fn) ?_)
  rw [hx0, hdx]
  rw [hdx] at hx0
  refine codeAny_mono (ok.run _ X.stack _ _ ⟨Value.ref x :: us, []⟩ (Value.ref x :: (us ++ ds)) _ _ (wAt W σ) ((g.room.make _ us [])) (I2.env0.make _ us []) (hb _ (Value.ref x :: us) I2.kIn hl2) r2 sp2) fun r s' hq' => ?_
  cases r with
  | error e => exact passAt tk σ pins _ _ e s' I2 hq'
  | ok fl =>
    cases fl with
    | ret u =>
      obtain ⟨v, H', I3, rv, ev, q3⟩ := I2.after hq'
      subst ev
      exact ⟨rv, ⟨V.ref x, H', I3, rfl, q3⟩⟩
    | next => exact False.elim hq'
    | brk => exact False.elim hq'
    | cont => exact False.elim hq'
end
end GL

/-! G9: does code say what the text says. -/
namespace GL
open PySem L2
/-- a name that the def holds, at a slot -/
def isLoc (sc : Scope) (x : Str) : Bool := match sc.names.lookup x with
  | some .local => true
  | some .cell => true
  | some .free => true
  | _ => false
def isSto (sc : Scope) (x : Str) : Bool := match sc.names.lookup x with
  | some .local => true
  | some .cell => true
  | _ => false
def isGlo (sc : Scope) (x : Str) : Bool := (match sc.names.lookup x with
  | some .globalImplicit => true
  | _ => false) && decide (x ≠ ("__debug__" : Str))
def okNm (x : Str) : Bool := decide (x ≠ ("__debug__" : Str)) && decide (x ≠ ("__classdict__" : Str))
def mC : D → Const → Bool
  | .non, .none => true
  | .bl a, .bool b => a == b
  | .int i, .int j => decide (i = j)
  | .str x, .str s => decide (tx x = s)
  | _, _ => false
def b1s : B1 → Str
  | .len => "len" | .list => "list" | .tuple => "tuple" | .sorted => "sorted" | .max => "max" | .min => "min" | .any => "any" | .all => "all" | .sum => "sum" | .str => "str" | .int => "int" | .abs => "abs" | .setlen => ""
def b2s : B2 → Str
  | .max => "max" | .min => "min"
def m1s : M1 → Str
  | .append => "append" | .join => "join"
def tys (N : Nms) : Ty → Str
  | .cls C => N.cl.getD C Str.empty
  | .int => "int" | .bool => "bool" | .str => "str" | .list => "list" | .tuple => "tuple"
/-- no call of super -/
def noSup : Expr → Bool
  | .Call (.Name x _) [] [] _ => decide (x ≠ ("super" : Str))
  | _ => true
/-- a target: names at slots -/
def mNm (L : List Str) (sc : Scope) (fn : Str → Bool) (i : Nat) : Expr → Bool
  | .Name x _ => decide (L[i]? = some x) && (isSto sc x && (fn x || decide (sc.names.lookup x = some .local)))
  | _ => false
def mNms (L : List Str) (sc : Scope) (fn : Str → Bool) : List Nat → List Expr → Bool
  | [], [] => true
  | i :: is, e :: es => mNm L sc fn i e && mNms L sc fn is es
  | _, _ => false
def mTg (L : List Str) (sc : Scope) (fn : Str → Bool) (tg : List Nat) (tup : Bool) : Expr → Bool
  | .Tuple es _ _ => tup && mNms L sc fn tg es
  | .Name x p => !tup && (match tg with
    | [i] => mNm L sc fn i (.Name x p)
    | _ => false)
  | _ => false
/-- names that a comprehension's block stores -/
def blkFn (scope : Scope) : Str → Bool := fun x => scope.names.lookup x == some .cell
def allFn : Str → Bool := fun _ => true
def ownOf (L : List Str) (tg : List Nat) : List (Str × Nat) := tg.map fun i => (L.getD i Str.empty, i)
/-- what a test does not take apart -/
def plainT : Expr → Bool
  | .UnaryOp .Not _ _ => false
  | .BoolOp _ _ _ => false
  | .IfExp _ _ _ _ => false
  | .Compare _ _ _ _ => false
  | .ListComp _ _ _ _ => false
  | _ => true
def notTup : Expr → Bool
  | .Tuple _ _ _ => false
  | _ => true
def notLc : Expr → Bool
  | .ListComp _ _ _ _ => false
  | .SetComp _ _ _ _ => false
  | .DictComp _ _ _ _ _ => false
  | _ => true
variable (T : Tab) (N : Nms) (L : List Str)
mutual
def mE : Scope → E → Expr → Bool
  | sc, .var i, .Name x _ => decide (L[i]? = some x) && (isLoc sc x && okNm x)
  | _, .cst d, .Constant c _ _ => mC d c
  | sc, .bin op a b, .BinOp l o r _ => decide (bop op = o) && (mE sc a l && mE sc b r)
  | sc, .neg a, .UnaryOp o e _ => decide (o = .USub) && mE sc a e
  | sc, .not a, .UnaryOp o e _ => decide (o = .Not) && mE sc a e
  | sc, .cmp op a b, .Compare l [o] [r] _ => decide (cop op = o) && (mE sc a l && mE sc b r)
  | sc, .cmp2 o1 o2 a b c, .Compare l [p, q] [r, s] _ => decide (cop o1 = p) && (decide (cop o2 = q) && (mE sc a l && (mE sc b r && mE sc c s)))
  | sc, .and es, .BoolOp o xs _ => decide (o = .And) && (mEs sc es xs && decide (1 < xs.length))
  | sc, .or es, .BoolOp o xs _ => decide (o = .Or) && (mEs sc es xs && decide (1 < xs.length))
  | sc, .ife c a b, .IfExp c' a' b' _ => mE sc c c' && (mE sc a a' && mE sc b b')
  | sc, .lst _ es, .List xs _ => mEs sc es xs
  | sc, .tup es, .Tuple xs _ _ => mEs sc es xs
  | sc, .idx a b, .Subscript x y _ => mE sc a x && mE sc b y
  | sc, .slc a lo hi, .Subscript x (.Slice l h none _) _ => mE sc a x && (mO sc lo l && mO sc hi h)
  | sc, .att a f, .Attribute x at_ _ => decide (N.fl[f]? = some at_) && (noSup x && mE sc a x)
  | sc, .fn1 _ b a, .Call (.Name x _) [e] [] _ => if b = .setlen then decide (x = ("len" : Str)) && (isGlo sc x && (match e with
      | .Call (.Name y _) [e2] [] _ => decide (y = ("set" : Str)) && (isGlo sc y && mE sc a e2)
      | _ => false))
    else decide (x = b1s b) && (isGlo sc x && mE sc a e)
  | sc, .fn2 b a c, .Call (.Name x _) [e, f] [] _ => decide (x = b2s b) && (isGlo sc x && (mE sc a e && mE sc c f))
  | sc, .call f es, .Call (.Name x _) xs [] _ => decide (N.fn[f]? = some (x, none)) && (isGlo sc x && (mEs sc es xs && decide (f < T.fns.length)))
  | sc, .make C es, .Call (.Name x _) xs [] _ => decide (N.cl[C]? = some x) && (isGlo sc x && (mEs sc es xs && decide (C < T.cls.length)))
  | sc, .meth mt o es, .Call (.Attribute x at_ apos) xs [] pos => decide (N.mt[mt]? = some at_) && (noSup x && (mE sc o x && (mEs sc es xs && (decide (xs.length < 20) && decide (apos.endLine = pos.line)))))
  | sc, .bm1 b a c, .Call (.Attribute x at_ apos) [e] [] pos => decide (m1s b = at_) && (noSup x && (mE sc a x && (mE sc c e && decide (apos.endLine = pos.line))))
  | sc, .isi a t, .Call (.Name x _) [e, .Name y _] [] _ => decide (x = ("isinstance" : Str)) && (isGlo sc x && (mE sc a e && (decide (y = tys N t) && (isGlo sc y && tyOk T t))))
  | sc, .lc _ tg tup it cond e, .ListComp elt [⟨t, i, ifs, 0⟩] scope _ => mI sc it i && (mTg L (relS scope sc) (blkFn scope) tg tup t && (mCd (relS scope sc) cond ifs && (mE (relS scope sc) e elt && blkC L sc scope (ownOf L tg))))
  | sc, .frz a, e => plainT e && mE sc a e
  | _, _, _ => false
def mEs : Scope → Es → List Expr → Bool
  | _, .nil, [] => true
  | sc, .cons e r, x :: xs => mE sc e x && mEs sc r xs
  | _, _, _ => false
def mO : Scope → Oe → Option Expr → Bool
  | _, .no, none => true
  | sc, .some e, some x => mE sc e x
  | _, _, _ => false
def mCd : Scope → Oe → List Expr → Bool
  | _, .no, [] => true
  | sc, .some e, [x] => mE sc e x
  | _, _, _ => false
def mI : Scope → It → Expr → Bool
  | sc, .rng1 a, .Call (.Name x _) [e] [] _ => decide (x = ("range" : Str)) && (isGlo sc x && mE sc a e)
  | sc, .rng2 a b, .Call (.Name x _) [e, f] [] _ => decide (x = ("range" : Str)) && (isGlo sc x && (mE sc a e && mE sc b f))
  | sc, .rrng1 a, .Call (.Name y _) [.Call (.Name x _) [e] [] _] [] _ => decide (y = ("reversed" : Str)) && (isGlo sc y && (decide (x = ("range" : Str)) && (isGlo sc x && mE sc a e)))
  | sc, .of a, e => mE sc a e
  | _, _, _ => false
end
mutual
def mS : Scope → S → Stmt → Bool
  | _, .pass, .Pass _ => true
  | sc, .ex e, .Expr x _ => notLc x && mE T N L sc e x
  | sc, .asg i e, .Assign [.Name x _] v _ => decide (L[i]? = some x) && (isSto sc x && mE T N L sc e v)
  | sc, .asgt is e, .Assign [.Tuple ts _ _] v _ => mNms L sc allFn is ts && (mE T N L sc e v && notTup v)
  | sc, .sfd o f e, .Assign [.Attribute x at_ _] v _ => decide (N.fl[f]? = some at_) && (mE T N L sc o x && mE T N L sc e v)
  | sc, .sit o i e, .Assign [.Subscript x y _] v _ => mE T N L sc o x && (mE T N L sc i y && mE T N L sc e v)
  | sc, .ret e, .Return (some v) _ => mE T N L sc e v
  | _, .retn, .Return none _ => true
  | sc, .iff c a b, .If x y z _ => mE T N L sc c x && (mSs sc a y && mSs sc b z)
  | sc, .whl c b, .While x y [] _ => mE T N L sc c x && mSs sc b y
  | sc, .for_ tg tup it b, .For t i y [] _ => mI T N L sc it i && (mTg L sc allFn tg tup t && mSs sc b y)
  | sc, .raise C .nil, .Raise (some (.Call (.Name x _) [.Constant (.str _) _ _] [] _)) none _ => decide (N.cl[C]? = some x) && (isGlo sc x && (decide (C < T.cls.length) && (match T.cls[C]? with
    | some c => decide (c.xfs = some [])
    | none => false)))
  | _, _, _ => false
def mSs : Scope → Ss → List Stmt → Bool
  | _, .nil, [] => true
  | sc, .cons s r, x :: xs => mS sc s x && mSs sc r xs
  | _, _, _ => false
end
end GL

/-! G10: expressions, one construct each. -/
namespace GL
open PySem L2
section
variable (N : Nms) (K : PySem.W.Frag)
/-- the slots -/
def Rl (F : Hp) (t : Nat → Addr) (l : Nat) (r : Env) (σ : St) : Prop := r.length = σ.length ∧ ∀ (i : Nat) (a : A), r[i]? = some (some a) → ∃ v, σ[i]? = some (some v) ∧ RA N K F t l v a
theorem Rl.mono {F F' : Hp} {t t' : Nat → Addr} {l l' : Nat} {r : Env} {σ : St} (h : Rl N K F t l r σ) (e : Ext F t l F' t' l') : Rl N K F' t' l' r σ :=
  ⟨h.1, fun i a q => let ⟨v, h1, h2⟩ := h.2 i a q; ⟨v, h1, h2.mono N K e⟩⟩
def tG {α β : Type} (rl : Hp → (Nat → Addr) → Nat → β → α → Prop) (W : WX) (f : Env → Store → R α) : St → Hp → (β → Hp → Prop) → Prop := fun σ H Q =>
  ∃ r F t m, Rl N K F t m.length r σ ∧ SR N K F t m H ∧ Pst N K rl (wAt W σ) Q F t m H (f r m)
abbrev rEq' {α : Type} : Hp → (Nat → Addr) → Nat → α → α → Prop := fun _ _ _ v a => v = a
abbrev tV (W : WX) (f : Env → Store → R A) : TE := tG N K (RA N K) W f
abbrev tVs (W : WX) (f : Env → Store → R (List A)) : TA := tG N K (RAs N K) W f
abbrev tB (W : WX) (f : Env → Store → R Bool) : TT := tG N K (rEq' (α := Bool)) W f
abbrev tOp' (W : WX) (f : Env → Store → R (Option Int)) : TO := tG N K (rEq' (α := Option Int)) W f
end
section
variable {N : Nms} {K : PySem.W.Frag} {W : WX} {α β γ δ : Type} {rl : Hp → (Nat → Addr) → Nat → β → α → Prop} {rg : Hp → (Nat → Addr) → Nat → δ → γ → Prop}
theorem tG.fst {f : Env → Store → R γ} {k : Env → γ → Store → R α} {σ : St} {H : Hp} {Q : β → Hp → Prop} {Q1 : δ → Hp → Prop} (h : tG N K rl W (fun r m => (f r m).bind (k r)) σ H Q)
    (c : ∀ r a v F t m H1, Rl N K F t m.length r σ → SR N K F t m H1 → rg F t m.length v a → Pst N K rl (wAt W σ) Q F t m H1 (k r a m) → Q1 v H1) : tG N K rg W f σ H Q1 := by
  obtain ⟨r, F, t, m, h1, h2, p⟩ := h
  exact ⟨r, F, t, m, h1, h2, p.fst fun a m1 v F1 t1 H1 st ra p1 => c r a v F1 t1 m1 H1 (h1.mono N K st.ext) st.sr ra p1⟩
/-- two values -/
theorem tG.two {γ2 δ2 : Type} {rg2 : Hp → (Nat → Addr) → Nat → δ2 → γ2 → Prop} {f : Env → Store → R γ} {f2 : Env → Store → R γ2} {g : γ → γ2 → Store → R α} {σ : St} {H : Hp} {Q : β → Hp → Prop} {Q1 : δ → δ2 → Hp → Prop}
    (hm : ∀ {F F' : Hp} {t t' : Nat → Addr} {l l' : Nat} {v : δ} {a : γ}, Ext F t l F' t' l' → rg F t l v a → rg F' t' l' v a)
    (h : tG N K rl W (fun r m => (f r m).bind fun x m1 => (f2 r m1).bind fun y m2 => g x y m2) σ H Q)
    (c : ∀ a b v u F t m H2, SR N K F t m H2 → rg F t m.length v a → rg2 F t m.length u b → Pst N K rl (wAt W σ) Q F t m H2 (g a b m) → Q1 v u H2) :
    tG N K rg W f σ H fun v H1 => tG N K rg2 W f2 σ H1 fun u H2 => Q1 v u H2 := by
  obtain ⟨r, F, t, m, h1, h2, p⟩ := h
  refine ⟨r, F, t, m, h1, h2, p.fst fun a m1 v F1 t1 H1 st ra p1 => ?_⟩
  exact ⟨r, F1, t1, m1, h1.mono N K st.ext, st.sr, p1.fst fun b m2 u F2 t2 H2 st2 rb p2 => c a b v u F2 t2 m2 H2 st2.sr (hm st2.ext ra) rb p2⟩
theorem tG.one {f : Env → Store → R γ} {g : γ → Store → R α} {σ : St} {H : Hp} {Q : β → Hp → Prop} {Q1 : δ → Hp → Prop}
    (h : tG N K rl W (fun r m => (f r m).bind fun x m1 => g x m1) σ H Q)
    (c : ∀ a v F t m H2, SR N K F t m H2 → rg F t m.length v a → Pst N K rl (wAt W σ) Q F t m H2 (g a m) → Q1 v H2) :
    tG N K rg W f σ H Q1 := by
  obtain ⟨r, F, t, m, h1, h2, p⟩ := h
  exact ⟨r, F, t, m, h1, h2, p.fst fun a m1 v F1 t1 H1 st ra p1 => c a v F1 t1 m1 H1 st.sr ra p1⟩
end
theorem PE.imp {X : Cx} {e : Expr} {t t' : TE} (h : PE X e t) (k : ∀ σ H Q, t' σ H Q → t σ H Q) : PE X e t' := ⟨fun pins s σ H Q I q => h.run pins s σ H Q I (k σ H Q q)⟩
theorem PT.imp {X : Cx} {e : Expr} {t t' : TT} (h : PT X e t) (k : ∀ σ H Q, t' σ H Q → t σ H Q) : PT X e t' := ⟨fun pins s σ H Q I q => h.run pins s σ H Q I (k σ H Q q)⟩
theorem PW.imp {X : Cx} {e : Expr} {t t' : TT} (h : PW X e t) (k : ∀ σ H Q, t' σ H Q → t σ H Q) : PW X e t' := ⟨fun wh pins s σ H Q I q => h.run wh pins s σ H Q I (k σ H Q q)⟩
theorem PA.imp {X : Cx} {e : List Expr} {t t' : TA} (h : PA X e t) (k : ∀ σ H Q, t' σ H Q → t σ H Q) : PA X e t' := ⟨fun pos pins s σ H Q I q => h.run pos pins s σ H Q I (k σ H Q q)⟩
theorem PO.imp {X : Cx} {e : Option Expr} {t t' : TO} (h : PO X e t) (k : ∀ σ H Q, t' σ H Q → t σ H Q) : PO X e t' := ⟨fun pins s σ H Q I q => h.run pins s σ H Q I (k σ H Q q)⟩
section
variable {T : Tab} {N : Nms} {X : Cx} {k : Nat} {call : Nat → List A → Store → R A} {W : WX} {a b c e : Expr} {es : List Expr} {fa fb fc : Env → Store → R A} {fs : Env → Store → R (List A)} {pos : Pos}
abbrev EV (N : Nms) (X : Cx) (W : WX) (e : Expr) (f : Env → Store → R A) : Prop := PE X e (tV N X.K W f)
abbrev TV (N : Nms) (X : Cx) (W : WX) (e : Expr) (f : Env → Store → R Bool) : Prop := PT X e (tB N X.K W f)
/-- a test by its value -/
def tst (f : Env → Store → R A) : Env → Store → R Bool := fun r m => (f r m).bind fun x m1 => match tru m1 x with
  | some b => .ok b m1
  | none => .bad
theorem ev_var {x : Str} {i : Nat} (hN : X.N[i]? = some x) (hv : isLoc X.env.scope x = true) (hn : okNm x = true) : EV N X W (.Name x pos) fun r m => match r[i]? with
  | some (some a) => .ok a m
  | _ => .bad := by
  unfold okNm at hn
  simp only [Bool.and_eq_true, decide_eq_true_eq] at hn
  have vis : Vis X.env.scope x := by
    unfold isLoc at hv
    split at hv
    · exact .inl (by assumption)
    · exact .inr (.inl (by assumption))
    · exact .inr (.inr (by assumption))
    · cases hv
  refine PE.imp (pe_var hN vis (beq_eq_false_iff_ne.mpr hn.1) (beq_eq_false_iff_ne.mpr hn.2)) fun σ H Q h => ?_
  obtain ⟨r, F, t, m, h1, h2, p⟩ := h
  dsimp only at p
  split at p
  · rename_i a ha
    obtain ⟨v, e1, e2⟩ := h1.2 i a ha
    exact ⟨v, e1, PstA.here h2 p e2⟩
  · exact False.elim p
theorem ev_cst {d : D} {cn : Const} {j : Nat} (h : mC d cn = true) : EV N X W (.Constant cn j pos) fun _ m => okZ d m := by
  cases d <;> cases cn <;> simp only [mC, Bool.false_eq_true] at h
  · exact PE.imp pe_non fun σ H Q ⟨r, F, t, m, h1, h2, p⟩ => PstA.here h2 p (.z .non)
  · rename_i a b
    rw [eq_of_beq h]
    exact PE.imp pe_bl fun σ H Q ⟨r, F, t, m, h1, h2, p⟩ => PstA.here h2 p (.z (.bl _))
  · rename_i a b
    rw [of_decide_eq_true h]
    exact PE.imp pe_int fun σ H Q ⟨r, F, t, m, h1, h2, p⟩ => PstA.here h2 p (.z (.int _))
  · rename_i a b
    rw [← of_decide_eq_true h]
    exact PE.imp pe_str fun σ H Q ⟨r, F, t, m, h1, h2, p⟩ => PstA.here h2 p (.z (.str _))
theorem ev_bin {op : Operator} {f : A → A → Store → R A} (ho : OpR X (binaryOp op) (rB N X.K f)) (ha : EV N X W a fa) (hb : EV N X W b fb) :
    EV N X W (.BinOp a op b pos) fun r m => (fa r m).bind fun x m1 => (fb r m1).bind fun y m2 => f x y m2 :=
  PE.imp (pe_op ho ha hb) fun σ H Q h => tG.two (fun e r => r.mono N X.K e) h fun x y v u F t m H2 sr rx ry q => ⟨_, F, t, m, x, y, sr, rx, ry, q⟩
theorem ev_ix {f : A → A → Store → R A} (ho : IxR X (rB N X.K f)) (ha : EV N X W a fa) (hb : EV N X W b fb) (hs : PlainIx b) :
    EV N X W (.Subscript a b pos) fun r m => (fa r m).bind fun x m1 => (fb r m1).bind fun y m2 => f x y m2 :=
  PE.imp (pe_ix ho ha hb hs) fun σ H Q h => tG.two (fun e r => r.mono N X.K e) h fun x y v u F t m H2 sr rx ry q => ⟨_, F, t, m, x, y, sr, rx, ry, q⟩
theorem cmp_in {f : A → A → Store → Option Bool} {σ : St} {H : Hp} {Q : VK} (h : tV N X.K W (fun r m => (fa r m).bind fun x m1 => (fb r m1).bind fun y m2 => ofO (f x y m2) fun b => okZ (.bl b) m2) σ H Q) :
    tOp (rC N X.K f) (tV N X.K W fa) (tV N X.K W fb) σ H Q :=
  tG.two (fun e r => r.mono N X.K e) h fun x y v u F t m H2 sr rx ry q => by
    obtain ⟨k, e, q⟩ := PstA.ofO q
    exact ⟨F, t, m, x, y, k, sr, rx, ry, e, q.bl sr⟩
theorem ev_cmp {op : CmpOp} {f : A → A → Store → Option Bool} (ho : OpR X (compareOp op) (rC N X.K f)) (ha : EV N X W a fa) (hb : EV N X W b fb) (hm : behindInMarks op b = false) :
    EV N X W (.Compare a [op] [b] pos) fun r m => (fa r m).bind fun x m1 => (fb r m1).bind fun y m2 => ofO (f x y m2) fun b => okZ (.bl b) m2 :=
  PE.imp (pe_cmpR ho ha hb hm) fun σ H Q h => cmp_in h
/-- a test that a value makes: the value's truth -/
theorem tst_in {f : Env → Store → R A} {σ : St} {H : Hp} {Q : Bool → Hp → Prop} (h : tB N X.K W (tst f) σ H Q) : tV N X.K W f σ H fun v H1 => ∃ k, TruV X.K v H1 k ∧ Q k H1 :=
  tG.one h fun x v F t m H1 sr rx p => by
    split at p
    · rename_i b hb
      exact ⟨b, tru_A N X.K sr rx hb, p b F t H1 (Stp.refl sr) rfl⟩
    · exact False.elim p
theorem tv_cmp {op : CmpOp} {f : A → A → Store → Option Bool} (ho : OpR X (compareOp op) (rC N X.K f)) (ha : EV N X W a fa) (hb : EV N X W b fb) (hm : behindInMarks op b = false) :
    TV N X W (.Compare a [op] [b] pos) (tst fun r m => (fa r m).bind fun x m1 => (fb r m1).bind fun y m2 => ofO (f x y m2) fun b => okZ (.bl b) m2) :=
  PT.imp (pt_cmpR ho ha hb hm) fun σ H Q h => tG.two (fun e r => r.mono N X.K e) (tst_in h) fun x y v u F t m H2 sr rx ry q => by
    obtain ⟨k, e, q⟩ := PstA.ofO q
    obtain ⟨k', e1, e2⟩ := q.bl sr
    cases (show k' = k from e1)
    exact ⟨F, t, m, x, y, k, sr, rx, ry, e, k, rfl, e2⟩
theorem ev_neg (ha : EV N X W a fa) : EV N X W (.UnaryOp .USub a pos) fun r m => (fa r m).bind fun x m1 => (match x with
    | .z (.int i) => okZ (.int (-i)) m1
    | _ => .bad) :=
  PE.imp (pe_un un_neg ha) fun σ H Q h => tG.one h fun x v F t m H1 sr rx p => by
    split at p
    · cases rx with
      | z rx =>
        cases rx
        exact ⟨_, rfl, PstA.int sr p⟩
    · exact False.elim p
theorem ev_not (ha : EV N X W a fa) : EV N X W (.UnaryOp .Not a pos) fun r m => (fa r m).bind fun x m1 => ofO (tru m1 x) fun b => okZ (.bl (!b)) m1 :=
  PE.imp (pe_notT ha) fun σ H Q h => tG.one h fun x v F t m H1 sr rx p => by
    obtain ⟨k, e, q⟩ := PstA.ofO p
    exact ⟨k, tru_A N X.K sr rx e, q.bl sr⟩
theorem tv_not (ha : TV N X W a (tst fa)) : TV N X W (.UnaryOp .Not a pos) (tst fun r m => (fa r m).bind fun x m1 => ofO (tru m1 x) fun b => okZ (.bl (!b)) m1) :=
  PT.imp (pt_not ha) fun σ H Q h => by
    obtain ⟨r, F, t, m, h1, h2, p⟩ := h
    refine ⟨r, F, t, m, h1, h2, ?_⟩
    unfold tst at p ⊢
    cases e : fa r m with
    | bad => simp only [e] at p; exact p
    | ex C fs m1 => simp only [e] at p; exact p
    | ok x m1 =>
      simp only [e, R.bind_ok] at p ⊢
      cases hb : tru m1 x with
      | none => simp only [hb, ofO_none, R.bind_bad] at p; exact p
      | some b =>
        simp only [hb, ofO_some, R.bind_ok] at p ⊢
        exact fun v F1 t1 H1 st e => p (!v) F1 t1 H1 st (by rw [e])
/-- an expression as a test, by its truth -/
theorem tv_val (ha : EV N X W a fa) (he : ∀ whole, isTrue a X.env whole = (do let v ← whole; standAt a.pos; holding [v] (truthy v))) : TV N X W a (tst fa) :=
  PT.imp (pt_truth ha he) fun σ H Q h => tst_in h
end
end GL

/-! G11: expressions, further constructs. -/
namespace GL
open PySem L2
section
variable {N : Nms} {K : PySem.W.Frag} {W : WX} {α β γ δ : Type} {rl : Hp → (Nat → Addr) → Nat → β → α → Prop} {rg : Hp → (Nat → Addr) → Nat → δ → γ → Prop}
/-- two values, the slots kept -/
theorem tG.two' {γ2 δ2 : Type} {rg2 : Hp → (Nat → Addr) → Nat → δ2 → γ2 → Prop} {f : Env → Store → R γ} {f2 : Env → Store → R γ2} {g : Env → γ → γ2 → Store → R α} {σ : St} {H : Hp} {Q : β → Hp → Prop} {Q1 : δ → δ2 → Hp → Prop}
    (hm : ∀ {F F' : Hp} {t t' : Nat → Addr} {l l' : Nat} {v : δ} {a : γ}, Ext F t l F' t' l' → rg F t l v a → rg F' t' l' v a)
    (h : tG N K rl W (fun r m => (f r m).bind fun x m1 => (f2 r m1).bind fun y m2 => g r x y m2) σ H Q)
    (c : ∀ r a b v u F t m H2, Rl N K F t m.length r σ → SR N K F t m H2 → rg F t m.length v a → rg2 F t m.length u b → Pst N K rl (wAt W σ) Q F t m H2 (g r a b m) → Q1 v u H2) :
    tG N K rg W f σ H fun v H1 => tG N K rg2 W f2 σ H1 fun u H2 => Q1 v u H2 := by
  obtain ⟨r, F, t, m, h1, h2, p⟩ := h
  refine ⟨r, F, t, m, h1, h2, p.fst fun a m1 v F1 t1 H1 st ra p1 => ?_⟩
  exact ⟨r, F1, t1, m1, h1.mono N K st.ext, st.sr, p1.fst fun b m2 u F2 t2 H2 st2 rb p2 => c r a b v u F2 t2 m2 H2 ((h1.mono N K st.ext).mono N K st2.ext) st2.sr (hm st2.ext ra) rb p2⟩
end
section
variable {T : Tab} {N : Nms} {X : Cx} {k : Nat} {call : Nat → List A → Store → R A} {W : WX} {a b c e : Expr} {es rest : List Expr} {fa fb fc fr : Env → Store → R A} {fs : Env → Store → R (List A)} {pos : Pos}
theorem ite_tt {p q : Prop} (h : p) : if true = true then p else q := by rw [if_pos rfl]; exact h
theorem ite_ff {p q : Prop} (h : q) : if false = true then p else q := by rw [if_neg (by simp)]; exact h
/-! ### a chain of two comparisons -/
theorem chain_in {f g : A → A → Store → Option Bool} {σ : St} {H : Hp} {Q : VK} (h : tV N X.K W (fun r m => (fa r m).bind fun x m1 => (fb r m1).bind fun y m2 => ofO (f x y m2) fun k => (match k with
    | true => (fc r m2).bind fun z m3 => ofO (g y z m3) fun b => okZ (.bl b) m3
    | false => okZ (.bl false) m2)) σ H Q) :
    tChain (rC N X.K f) (rC N X.K g) (tV N X.K W fa) (tV N X.K W fb) (tV N X.K W fc) σ H Q :=
  tG.two' (g := fun r x y m2 => ofO (f x y m2) fun k => (match k with
    | true => (fc r m2).bind fun z m3 => ofO (g y z m3) fun b => okZ (.bl b) m3
    | false => okZ (.bl false) m2)) (fun e r => r.mono N X.K e) h fun r x y v u F t m H2 rl sr rx ry q => by
    obtain ⟨k, e, q⟩ := PstA.ofO q
    refine ⟨F, t, m, x, y, k, sr, rx, ry, e, k, rfl, ?_⟩
    cases k with
    | false => exact ite_ff (q.bl sr)
    | true =>
      refine ite_tt ⟨r, F, t, m, rl, sr, Pst.fst (rg := RA N X.K) q fun z m3 w F3 t3 H3 st rz q3 => ?_⟩
      obtain ⟨k, e, q3⟩ := PstA.ofO q3
      exact ⟨F3, t3, m3, y, z, k, st.sr, ry.mono N X.K st.ext, rz, e, q3.bl st.sr⟩
theorem ev_cmp2 {op op' : CmpOp} {f g : A → A → Store → Option Bool} (ho : OpR X (compareOp op) (rC N X.K f)) (ho' : OpR X (compareOp op') (rC N X.K g)) (ha : EV N X W a fa) (hb : EV N X W b fb) (hc : EV N X W c fc) (hm : lastMarks [op, op'] [b, c] = false) :
    EV N X W (.Compare a [op, op'] [b, c] pos) fun r m => (fa r m).bind fun x m1 => (fb r m1).bind fun y m2 => ofO (f x y m2) fun k => (match k with
    | true => (fc r m2).bind fun z m3 => ofO (g y z m3) fun b => okZ (.bl b) m3
    | false => okZ (.bl false) m2) :=
  PE.imp (pe_chain ho ho' ha hb hc hm) fun σ H Q h => chain_in h
theorem tv_cmp2 {op op' : CmpOp} {f g : A → A → Store → Option Bool} (ho : OpR X (compareOp op) (rC N X.K f)) (ho' : OpR X (compareOp op') (rC N X.K g)) (ha : EV N X W a fa) (hb : EV N X W b fb) (hc : EV N X W c fc) (hm : lastMarks [op, op'] [b, c] = false) :
    TV N X W (.Compare a [op, op'] [b, c] pos) (tst fun r m => (fa r m).bind fun x m1 => (fb r m1).bind fun y m2 => ofO (f x y m2) fun k => (match k with
    | true => (fc r m2).bind fun z m3 => ofO (g y z m3) fun b => okZ (.bl b) m3
    | false => okZ (.bl false) m2)) :=
  PT.imp (pt_chain ho ho' ha hb hc hm) fun σ H Q h => by
    have h1 := tst_in h
    obtain ⟨r, F, t, m, h1, h2, p⟩ := h1
    show tChain _ _ _ _ _ σ H fun x H1 => ∃ k, x = .bl k ∧ Q k H1
    refine chain_in (W := W) ⟨r, F, t, m, h1, h2, ?_⟩
    -- the value is a bool
    cases e : fa r m with
    | bad => simp only [e, R.bind_bad] at p ⊢; exact p
    | ex C gs m1 => simp only [e, R.bind_ex] at p ⊢; exact p
    | ok x m1 =>
      simp only [e, R.bind_ok] at p ⊢
      cases e2 : fb r m1 with
      | bad => simp only [e2, R.bind_bad] at p ⊢; exact p
      | ex C gs m1 => simp only [e2, R.bind_ex] at p ⊢; exact p
      | ok y m2 =>
        simp only [e2, R.bind_ok] at p ⊢
        cases e3 : f x y m2 with
        | none => simp only [e3, ofO_none] at p ⊢; exact p
        | some k =>
          simp only [e3, ofO_some] at p ⊢
          have key : ∀ {b : Bool} {m' : Store} {F' : Hp} {t' : Nat → Addr}, PstA N X.K (wAt W σ) (fun v H1 => ∃ k, TruV X.K v H1 k ∧ Q k H1) F t m H (okZ (.bl b) m') → PstA N X.K (wAt W σ) (fun v H1 => ∃ k, v = .bl k ∧ Q k H1) F t m H (okZ (.bl b) m') := fun {b m' F' t'} q v F1 t1 H1 st rv => by
            obtain ⟨k, z1, z2⟩ := q v F1 t1 H1 st rv
            cases rv with
            | z rv =>
              cases rv
              cases (show k = b from z1)
              exact ⟨_, rfl, z2⟩
          cases k with
          | false => exact key (F' := F) (t' := t) p
          | true =>
            dsimp only at p ⊢
            cases e4 : fc r m2 with
            | bad => simp only [e4, R.bind_bad] at p ⊢; exact p
            | ex C gs m1 => simp only [e4, R.bind_ex] at p ⊢; exact p
            | ok z m3 =>
              simp only [e4, R.bind_ok] at p ⊢
              cases e5 : g y z m3 with
              | none => simp only [e5, ofO_none] at p ⊢; exact p
              | some k =>
                simp only [e5, ofO_some] at p ⊢
                exact key (F' := F) (t' := t) p
/-! ### and, or -/
def andS (fa fr : Env → Store → R A) : Env → Store → R A := fun r m => (fa r m).bind fun x m1 => (match tru m1 x with
    | some true => fr r m1
    | some false => .ok x m1
    | none => .bad)
def orS (fa fr : Env → Store → R A) : Env → Store → R A := fun r m => (fa r m).bind fun x m1 => (match tru m1 x with
    | some false => fr r m1
    | some true => .ok x m1
    | none => .bad)
theorem ev_and (ha : EV N X W a fa) (hb : EV N X W (.BoolOp .And (b :: rest) pos) fr) : EV N X W (.BoolOp .And (a :: b :: rest) pos) (andS fa fr) :=
  PE.imp (pe_andT ha hb) fun σ H Q h => tG.fst (k := fun r x m1 => (match tru m1 x with
    | some true => fr r m1
    | some false => .ok x m1
    | none => .bad)) h fun r x v F t m H1 rl sr rx p => by
    split at p
    · rename_i e
      exact ⟨true, tru_A N X.K sr rx e, ite_tt ⟨r, F, t, m, rl, sr, p⟩⟩
    · rename_i e
      exact ⟨false, tru_A N X.K sr rx e, ite_ff (PstA.here sr p rx)⟩
    · exact False.elim p
theorem ev_or (ha : EV N X W a fa) (hb : EV N X W (.BoolOp .Or (b :: rest) pos) fr) : EV N X W (.BoolOp .Or (a :: b :: rest) pos) (orS fa fr) :=
  PE.imp (pe_orT ha hb) fun σ H Q h => tG.fst (k := fun r x m1 => (match tru m1 x with
    | some false => fr r m1
    | some true => .ok x m1
    | none => .bad)) h fun r x v F t m H1 rl sr rx p => by
    split at p
    · rename_i e
      exact ⟨false, tru_A N X.K sr rx e, ite_ff ⟨r, F, t, m, rl, sr, p⟩⟩
    · rename_i e
      exact ⟨true, tru_A N X.K sr rx e, ite_tt (PstA.here sr p rx)⟩
    · exact False.elim p
theorem tst_and (r : Env) (m : Store) : tst (andS fa fr) r m = (tst fa r m).bind fun b m1 => (match b with
    | true => tst fr r m1
    | false => .ok false m1) := by
  unfold tst andS
  cases fa r m with
  | bad => rfl
  | ex C fs m1 => rfl
  | ok x m1 =>
    simp only [R.bind_ok]
    cases e : tru m1 x with
    | none => rfl
    | some b => cases b <;> simp [e]
theorem tst_or (r : Env) (m : Store) : tst (orS fa fr) r m = (tst fa r m).bind fun b m1 => (match b with
    | false => tst fr r m1
    | true => .ok true m1) := by
  unfold tst orS
  cases fa r m with
  | bad => rfl
  | ex C fs m1 => rfl
  | ok x m1 =>
    simp only [R.bind_ok]
    cases e : tru m1 x with
    | none => rfl
    | some b => cases b <;> simp [e]
abbrev WV (N : Nms) (X : Cx) (W : WX) (e : Expr) (f : Env → Store → R Bool) : Prop := PW X e (GL.tB N X.K W f)
theorem tG.eqv {α β : Type} {rl : Hp → (Nat → Addr) → Nat → β → α → Prop} {K : PySem.W.Frag} {f g : Env → Store → R α} {σ : St} {H : Hp} {Q : β → Hp → Prop} (h : tG N K rl W f σ H Q) (e : ∀ r m, f r m = g r m) : tG N K rl W g σ H Q := by
  obtain ⟨r, F, t, m, h1, h2, p⟩ := h
  exact ⟨r, F, t, m, h1, h2, by rw [← e]; exact p⟩
theorem tw_and (ha : TV N X W a (tst fa)) (hb : WV N X W (.BoolOp .And (b :: rest) pos) (tst fr)) : WV N X W (.BoolOp .And (a :: b :: rest) pos) (tst (andS fa fr)) :=
  PW.imp (pw_and ha hb) fun σ H Q h => tG.fst (rg := rEq' (α := Bool)) (f := tst fa) (k := fun r b m1 => (match b with
    | true => tst fr r m1
    | false => .ok false m1)) (tG.eqv h tst_and) fun r x v F t m H1 rl sr rx p => by
    cases rx
    cases x with
    | true => exact ite_tt ⟨r, F, t, m, rl, sr, p⟩
    | false => exact ite_ff (p false F t H1 (Stp.refl sr) rfl)
theorem tw_or (ha : TV N X W a (tst fa)) (hb : WV N X W (.BoolOp .Or (b :: rest) pos) (tst fr)) : WV N X W (.BoolOp .Or (a :: b :: rest) pos) (tst (orS fa fr)) :=
  PW.imp (pw_or ha hb) fun σ H Q h => tG.fst (rg := rEq' (α := Bool)) (f := tst fa) (k := fun r b m1 => (match b with
    | false => tst fr r m1
    | true => .ok true m1)) (tG.eqv h tst_or) fun r x v F t m H1 rl sr rx p => by
    cases rx
    cases x with
    | false => exact ite_ff ⟨r, F, t, m, rl, sr, p⟩
    | true => exact ite_tt (p true F t H1 (Stp.refl sr) rfl)
/-! ### a if c else b -/
def ifS (fc fa fb : Env → Store → R A) : Env → Store → R A := fun r m => (fc r m).bind fun x m1 => (match tru m1 x with
    | some true => fa r m1
    | some false => fb r m1
    | none => .bad)
theorem if_tst (r : Env) (m : Store) : ifS fc fa fb r m = (tst fc r m).bind fun b m1 => (match b with
    | true => fa r m1
    | false => fb r m1) := by
  dsimp only [ifS, tst]
  cases fc r m with
  | bad => rfl
  | ex C fs m1 => rfl
  | ok x m1 =>
    simp only [R.bind_ok]
    cases e : tru m1 x with
    | none => rfl
    | some b => cases b <;> simp [e]
theorem tst_if (r : Env) (m : Store) : tst (ifS fc fa fb) r m = (tst fc r m).bind fun b m1 => (match b with
    | true => tst fa r m1
    | false => tst fb r m1) := by
  dsimp only [ifS, tst]
  cases fc r m with
  | bad => rfl
  | ex C fs m1 => rfl
  | ok x m1 =>
    simp only [R.bind_ok]
    cases e : tru m1 x with
    | none => rfl
    | some b => cases b <;> simp [e]
theorem ev_ife (hc : TV N X W c (tst fc)) (ha : EV N X W a fa) (hb : EV N X W b fb) : EV N X W (.IfExp c a b pos) (ifS fc fa fb) :=
  PE.imp (pe_ifExp hc ha hb) fun σ H Q h => tG.fst (rg := rEq' (α := Bool)) (f := tst fc) (k := fun r b m1 => (match b with
    | true => fa r m1
    | false => fb r m1)) (tG.eqv h if_tst) fun r x v F t m H1 rl sr rx p => by
    cases rx
    cases x with
    | true => exact ite_tt ⟨r, F, t, m, rl, sr, p⟩
    | false => exact ite_ff ⟨r, F, t, m, rl, sr, p⟩
theorem tv_ife (hc : TV N X W c (tst fc)) (ha : TV N X W a (tst fa)) (hb : TV N X W b (tst fb)) : TV N X W (.IfExp c a b pos) (tst (ifS fc fa fb)) := by
  refine ⟨fun pins s σ H Q I h => ?_⟩
  have e : PySem.isTrue (.IfExp c a b pos) X.env (eval (.IfExp c a b pos) X.env) = (do
    if ← PySem.isTrue c X.env (eval c X.env) then PySem.isTrue a X.env (eval a X.env) else PySem.isTrue b X.env (eval b X.env)) := by
    rw [PySem.isTrue]
  rw [e]
  have q : GL.tB N X.K W (tst fc) σ H fun v H1 => if v = true then GL.tB N X.K W (tst fa) σ H1 Q else GL.tB N X.K W (tst fb) σ H1 Q :=
    tG.fst (rg := rEq' (α := Bool)) (f := tst fc) (k := fun r b m1 => (match b with
    | true => tst fa r m1
    | false => tst fb r m1)) (tG.eqv h tst_if) fun r x v F t m H1 rl sr rx p => by
      cases rx
      cases x with
      | true => exact ite_tt ⟨r, F, t, m, rl, sr, p⟩
      | false => exact ite_ff ⟨r, F, t, m, rl, sr, p⟩
  refine wpAny_bind (thn (hc.run pins s σ H _ I q) fun d s1 ⟨H1, I1, q1⟩ => ?_)
  cases d with
  | true => exact ha.run pins s1 σ H1 Q I1 (by simpa using q1)
  | false => exact hb.run pins s1 σ H1 Q I1 (by simpa using q1)
/-! ### argument lists, displays -/
abbrev AV (N : Nms) (X : Cx) (W : WX) (es : List Expr) (f : Env → Store → R (List A)) : Prop := PA X es (tVs N X.K W f)
theorem av_nil : AV N X W [] fun _ m => .ok [] m :=
  PA.imp pa_nil fun σ H Q ⟨r, F, t, m, h1, h2, p⟩ => p [] F t H (Stp.refl h2) .nil
theorem av_cons (ha : EV N X W a fa) (hr : AV N X W es fs) (hs : starEach (a :: es) X.env = (false, eval a X.env) :: starEach es X.env) :
    AV N X W (a :: es) fun r m => (fa r m).bind fun x m1 => (fs r m1).bind fun xs m2 => .ok (x :: xs) m2 :=
  PA.imp (pa_cons ha hr hs) fun σ H Q h => tG.two (rg := RA N X.K) (rg2 := RAs N X.K) (fun e r => r.mono N X.K e) h fun x y v u F t m H2 sr rx ry q => q (v :: u) F t H2 (Stp.refl sr) (.cons rx ry)
theorem ev_lst {mu : Bool} (ha : AV N X W es fs) : EV N X W (.List es pos) fun r m => (fs r m).bind fun xs m1 => if Nat.ble xs.length sz then mkLst mu xs m1 else .bad :=
  PE.imp (pe_lst ha) fun σ H Q h => tG.one (rg := RAs N X.K) (g := fun xs m1 => if Nat.ble xs.length sz then mkLst mu xs m1 else .bad) h fun x v F t m H1 sr rx p => by
    split at p
    · rename_i e
      exact ⟨by rw [rx.len N X.K]; exact ble_sz e, PstA.lst sr p rx⟩
    · exact False.elim p
theorem ev_tup {x1} (ha : AV N X W es fs) : EV N X W (.Tuple es x1 pos) fun r m => (fs r m).bind fun xs m1 => if Nat.ble xs.length sz then mkTup xs m1 else .bad :=
  PE.imp (pe_tup ha) fun σ H Q h => tG.one (rg := RAs N X.K) (g := fun xs m1 => if Nat.ble xs.length sz then mkTup xs m1 else .bad) h fun x v F t m H1 sr rx p => by
    split at p
    · rename_i e
      exact ⟨by rw [rx.len N X.K]; exact ble_sz e, PstA.tup sr p rx⟩
    · exact False.elim p
/-! ### slices -/
abbrev OV (N : Nms) (X : Cx) (W : WX) (e : Option Expr) (f : Env → Store → R (Option Int)) : Prop := PO X e (tOp' N X.K W f)
theorem ov_none : OV N X W none fun _ m => .ok none m :=
  PO.imp po_none fun σ H Q ⟨r, F, t, m, h1, h2, p⟩ => p none F t H (Stp.refl h2) rfl
theorem ov_some (ha : EV N X W a fa) : OV N X W (some a) fun r m => (fa r m).bind fun x m1 => (match x with
    | .z (.int i) => .ok (some i) m1
    | _ => .bad) :=
  PO.imp (po_some ha) fun σ H Q h => tG.one (rg := RA N X.K) h fun x v F t m H1 sr rx p => by
    split at p
    · cases rx with
      | z rx =>
        cases rx
        exact ⟨_, rfl, p _ F t H1 (Stp.refl sr) rfl⟩
    · exact False.elim p
theorem ev_slc {lo hi : Option Expr} {fl fh : Env → Store → R (Option Int)} {f : A → Option Int → Option Int → Store → R A} {p2 : Pos} (hs : SlR X (rSlG N X.K f)) (ha : EV N X W a fa) (hl : OV N X W lo fl) (hh : OV N X W hi fh) :
    EV N X W (.Subscript a (.Slice lo hi none p2) pos) fun r m => (fa r m).bind fun x m1 => (fl r m1).bind fun l m2 => (fh r m2).bind fun h m3 => f x l h m3 :=
  PE.imp (pe_slice hs ha hl hh) fun σ H Q h => tG.two' (rg := RA N X.K) (rg2 := rEq' (α := Option Int)) (g := fun r x l m2 => (fh r m2).bind fun h m3 => f x l h m3) (fun e r => r.mono N X.K e) h fun r x y v u F t m H2 rl sr rx ry q => by
    cases ry
    refine ⟨r, F, t, m, rl, sr, Pst.fst (rg := rEq' (α := Option Int)) q fun z m3 w F3 t3 H3 st rz q3 => ?_⟩
    cases rz
    exact ⟨_, F3, t3, m3, x, st.sr, rx.mono N X.K st.ext, q3⟩
/-! ### attributes -/
theorem abase_noSup {o : Expr} {f : Str} {env : PySem.Env} {whole : Sem Value} (h : noSup o = true) : attributeBase o f env whole = whole := by
  unfold noSup at h
  split at h
  · refine abase_call ?_
    simp only [decide_eq_true_eq] at h
    exact bne_iff_ne.mpr h
  · rename_i hne
    unfold attributeBase
    split
    · exact absurd rfl (hne _ _ _)
    · rfl
theorem ev_att (g : Gd T N X k call) {f : Nat} (hf : N.fl[f]? = some s) (hs : noSup a = true) (ha : EV N X W a fa) : EV N X W (.Attribute a s pos) fun r m => (fa r m).bind fun x m1 => attA T x f m1 :=
  PE.imp (pe_fld ha (abase_noSup hs)) fun σ H Q h => tG.one (rg := RA N X.K) (g := fun x m1 => attA T x f m1) h fun x v F t m H1 sr rx p => by
    unfold attA at p
    split at p
    · rename_i C fs hv
      split at p
      · rename_i hC
        obtain ⟨y, e, p⟩ := PstA.ofO p
        obtain ⟨q, dx, vs, rfl, hi, rs⟩ := view_ins sr rx hv
        have hl : f < N.fl.length := (List.getElem?_eq_some_iff.mp hf).1
        have es : fnm N f = s := by
          unfold fnm
          rw [List.getD_eq_getElem?_getD, hf]
          rfl
        obtain ⟨w, e1, e2⟩ := RAf.get g.sta.fl hl rs e
        exact ⟨q, _, dx, vs, w, rfl, hi, (g.sta.cls C hC).cl, es ▸ g.sta.noat C f hC hl, by rw [← es]; exact e1, PstA.here sr p e2⟩
      · exact False.elim p
    · exact False.elim p
end
end GL

/-! G12: calls. -/
namespace GL
open PySem L2
/-- an argument that is no star -/
def NS (e : Expr) : Prop := ∀ (env : PySem.Env) (rest : List Expr), starEach (e :: rest) env = (false, eval e env) :: starEach rest env
def NSs (es : List Expr) : Prop := ∀ e ∈ es, NS e
theorem NSs.cons {e : Expr} {es : List Expr} (h : NSs (e :: es)) : NS e ∧ NSs es := ⟨h e (by simp), fun x hx => h x (List.mem_cons_of_mem _ hx)⟩
theorem NSs.any {env : PySem.Env} {pos : Pos} : ∀ {es : List Expr}, NSs es → (backTo pos (starEach es env)).any (·.1) = false
  | [], _ => rfl
  | e :: es, h => by
    have ih := NSs.any (env := env) (pos := pos) h.cons.2
    rw [h.cons.1 env es]
    show (false || (backTo pos (starEach es env)).any (·.1)) = false
    rw [ih]; rfl
theorem NSs.all {env : PySem.Env} {pos : Pos} : ∀ {es : List Expr}, NSs es → (backTo pos (starEach es env)).all (fun x => !x.1) = true
  | [], _ => rfl
  | e :: es, h => by
    have ih := NSs.all (env := env) (pos := pos) h.cons.2
    rw [h.cons.1 env es]
    show (true && (backTo pos (starEach es env)).all (fun x => !x.1)) = true
    rw [ih]; rfl
theorem isGlo_gl {X : Cx} {x : Str} (h : isGlo X.env.scope x = true) : Gl X x ∧ (x == ("__debug__" : Str)) = false := by
  unfold isGlo at h
  simp only [Bool.and_eq_true, decide_eq_true_eq] at h
  refine ⟨?_, beq_eq_false_iff_ne.mpr h.2⟩
  have h := h.1
  split at h
  · assumption
  · cases h
section
variable {T : Tab} {N : Nms} {X : Cx} {k : Nat} {call : Nat → List A → Store → R A} {W : WX} {a b c e o : Expr} {es rest : List Expr} {fa fb fc fr : Env → Store → R A} {fs : Env → Store → R (List A)} {p pos apos : Pos} {x : Str}
/-! ### builtins -/
theorem av_one (ha : EV N X W a fa) (hs : NS a) : AV N X W [a] fun r m => (fa r m).bind fun x m1 => .ok [x] m1 :=
  PA.imp (av_cons ha av_nil (hs _ _)) fun σ H Q h => tG.eqv h fun r m => by
    cases fa r m <;> rfl
theorem av_two (ha : EV N X W a fa) (hb : EV N X W b fb) (hs : NS a) (hs2 : NS b) : AV N X W [a, b] fun r m => (fa r m).bind fun x m1 => (fb r m1).bind fun y m2 => .ok [x, y] m2 :=
  PA.imp (av_cons ha (av_one hb hs2) (hs _ _)) fun σ H Q h => tG.eqv h fun r m => by
    cases fa r m with
    | ok x m1 =>
      simp only [R.bind_ok]
      cases fb r m1 <;> rfl
    | _ => rfl
theorem fn1_in {f : A → Store → R A} {σ : St} {H : Hp} {Q : VK} (h : tV N X.K W (fun r m => (fa r m).bind fun x m1 => f x m1) σ H Q) :
    tCB (rF N X.K f) (tVs N X.K W fun r m => (fa r m).bind fun x m1 => .ok [x] m1) σ H Q := by
  obtain ⟨r, F, t, m, h1, h2, p⟩ := h
  refine ⟨r, F, t, m, h1, h2, ?_⟩
  dsimp only at p ⊢
  cases e : fa r m with
  | bad => rw [e] at p; exact p
  | ex C fs m1 => rw [e] at p; exact p
  | ok x m1 =>
    rw [e, R.bind_ok] at p
    rw [R.bind_ok]
    intro vs F1 t1 H1 st rv
    cases rv with
    | cons rv rn =>
      cases rn
      exact ⟨wAt W σ, F1, t1, m1, x, _, rfl, st.sr, rv, Pst.step (r := f x m1) p st⟩
theorem fn2_in {f : A → A → Store → R A} {σ : St} {H : Hp} {Q : VK} (h : tV N X.K W (fun r m => (fa r m).bind fun x m1 => (fb r m1).bind fun y m2 => f x y m2) σ H Q) :
    tCB (rF2 N X.K f) (tVs N X.K W fun r m => (fa r m).bind fun x m1 => (fb r m1).bind fun y m2 => .ok [x, y] m2) σ H Q := by
  obtain ⟨r, F, t, m, h1, h2, p⟩ := h
  refine ⟨r, F, t, m, h1, h2, ?_⟩
  dsimp only at p ⊢
  cases e : fa r m with
  | bad => rw [e] at p; exact p
  | ex C fs m1 => rw [e] at p; exact p
  | ok x m1 =>
    simp only [e, R.bind_ok] at p ⊢
    cases e2 : fb r m1 with
    | bad => rw [e2] at p; exact p
    | ex C fs m1 => rw [e2] at p; exact p
    | ok y m2 =>
      simp only [e2, R.bind_ok] at p ⊢
      intro vs F1 t1 H1 st rv
      cases rv with
      | cons rv rn =>
        cases rn with
        | cons rw rn =>
          cases rn
          exact ⟨wAt W σ, F1, t1, m2, x, y, _, _, rfl, st.sr, rv, rw, Pst.step (r := f x y m2) p st⟩
theorem ev_fnB {id : String} {f : A → Store → R A} (hc : CallR X (.builtin id) (rF N X.K f)) (hg : isGlo X.env.scope x = true) (hm : X.mg x = none) (hv : bootBuiltins x = some (.builtin id)) (hn : x ≠ "__name__") (ha : EV N X W a fa) (hs : NS a) :
    EV N X W (.Call (.Name x p) [a] [] pos) fun r m => (fa r m).bind fun x m1 => f x m1 :=
  PE.imp (pe_callB hc (isGlo_gl hg).1 hm hv (av_one ha hs) hn (isGlo_gl hg).2 (hs _ _) rfl) fun σ H Q h => fn1_in h
theorem ev_fnT {id : String} {f : A → Store → R A} (hc : CallR X (.type id) (rF N X.K f)) (hg : isGlo X.env.scope x = true) (hm : X.mg x = none) (hv : bootBuiltins x = some (.type id)) (hn : x ≠ "__name__") (ha : EV N X W a fa) (hs : NS a) :
    EV N X W (.Call (.Name x p) [a] [] pos) fun r m => (fa r m).bind fun x m1 => f x m1 :=
  PE.imp (pe_callTy hc (isGlo_gl hg).1 hm hv (av_one ha hs) hn (isGlo_gl hg).2 (hs _ _) rfl) fun σ H Q h => fn1_in h
theorem ev_fnB2 {id : String} {f : A → A → Store → R A} (hc : CallR X (.builtin id) (rF2 N X.K f)) (hg : isGlo X.env.scope x = true) (hm : X.mg x = none) (hv : bootBuiltins x = some (.builtin id)) (hn : x ≠ "__name__") (ha : EV N X W a fa) (hb : EV N X W b fb) (hs : NS a) (hs2 : NS b) :
    EV N X W (.Call (.Name x p) [a, b] [] pos) fun r m => (fa r m).bind fun x m1 => (fb r m1).bind fun y m2 => f x y m2 :=
  PE.imp (pe_callB hc (isGlo_gl hg).1 hm hv (av_two ha hb hs hs2) hn (isGlo_gl hg).2 (hs _ _) (NSs.any fun z hz => by
    cases List.mem_singleton.mp hz
    exact hs2)) fun σ H Q h => fn2_in h
theorem ev_fn1 (g : Gd T N X k call) {mu : Bool} {bb : B1} (hx : x = b1s bb) (hb : bb ≠ .setlen) (hg : isGlo X.env.scope x = true) (ha : EV N X W a fa) (hs : NS a) :
    EV N X W (.Call (.Name x p) [a] [] pos) fun r m => (fa r m).bind fun x m1 => fn1A mu bb x m1 := by
  have hc := g.calm
  subst hx
  have bt : ∀ y, y ∈ names1 → X.mg y = none := g.sta.blt
  cases bb with
  | len => exact ev_fnB (cr_len N mu) hg (bt _ (by decide)) (by decide +kernel) (by decide) ha hs
  | list => exact ev_fnT (cr_list N mu) hg (bt _ (by decide)) (by decide +kernel) (by decide) ha hs
  | tuple => exact ev_fnT (cr_tuple N mu) hg (bt _ (by decide)) (by decide +kernel) (by decide) ha hs
  | sorted => exact ev_fnB (cr_sorted' N mu) hg (bt _ (by decide)) (by decide +kernel) (by decide) ha hs
  | max => exact ev_fnB (cr_max' N mu hc) hg (bt _ (by decide)) (by decide +kernel) (by decide) ha hs
  | min => exact ev_fnB (cr_min' N mu hc) hg (bt _ (by decide)) (by decide +kernel) (by decide) ha hs
  | any => exact ev_fnB (cr_any' N mu hc) hg (bt _ (by decide)) (by decide +kernel) (by decide) ha hs
  | all => exact ev_fnB (cr_all' N mu hc) hg (bt _ (by decide)) (by decide +kernel) (by decide) ha hs
  | sum => exact ev_fnB (cr_sum' N mu hc) hg (bt _ (by decide)) (by decide +kernel) (by decide) ha hs
  | str => exact ev_fnT (cr_str N mu) hg (bt _ (by decide)) (by decide +kernel) (by decide) ha hs
  | int => exact ev_fnT (cr_int N mu) hg (bt _ (by decide)) (by decide +kernel) (by decide) ha hs
  | abs => exact ev_fnB (cr_abs N mu) hg (bt _ (by decide)) (by decide +kernel) (by decide) ha hs
  | setlen => exact absurd rfl hb
theorem ev_fn2 (g : Gd T N X k call) {bb : B2} (hx : x = b2s bb) (hg : isGlo X.env.scope x = true) (ha : EV N X W a fa) (hb : EV N X W b fb) (hs : NS a) (hs2 : NS b) :
    EV N X W (.Call (.Name x p) [a, b] [] pos) fun r m => (fa r m).bind fun x m1 => (fb r m1).bind fun y m2 => fn2A bb x y m2 := by
  have hc := g.calm
  subst hx
  have bt : ∀ y, y ∈ names1 → X.mg y = none := g.sta.blt
  cases bb with
  | max => exact ev_fnB2 (cr_max2 N hc) hg (bt _ (by decide)) (by decide +kernel) (by decide) ha hb hs hs2
  | min => exact ev_fnB2 (cr_min2 N hc) hg (bt _ (by decide)) (by decide +kernel) (by decide) ha hb hs hs2
/-! ### methods of builtin types -/
theorem ev_bm1 {bb : M1} (hx : m1s bb = x) (hsup : noSup a = true) (hl : apos.endLine = pos.line) (ha : EV N X W a fa) (hb : EV N X W b fb) (hs : NS b) :
    EV N X W (.Call (.Attribute a x apos) [b] [] pos) fun r m => (fa r m).bind fun x m1 => if bmTy bb x m1 then (fb r m1).bind fun y m2 => bm1A bb x y m2 else .bad := by
  subst hx
  have hbase : ∀ nm, attributeBase a nm X.env (eval a X.env) = eval a X.env := fun nm => abase_noSup hsup
  have hfew : ((backTo pos (starEach [b] X.env)).all (fun x => !x.1) && (backToKw pos (keywordEach [] X.env)).all (fun x => x.1.isSome)
      && decide (([b] : List Expr).length + ([] : List Keyword).length + (if ([] : List Keyword).isEmpty then 0 else 1) < 30)) = true := by
    rw [hs X.env []]; rfl
  have hline : (apos.endLine == pos.line) = true := by rw [hl]; exact beq_self_eq_true _
  have core : ∀ (T' : String) {σ : St} {H : Hp} {Q : VK}, (∀ {F t m H x v}, SR N X.K F t m H → RA N X.K F t m.length v x → bmTy bb x m = true → tyV X.K T' v H) →
      tV N X.K W (fun r m => (fa r m).bind fun x m1 => if bmTy bb x m1 then (fb r m1).bind fun y m2 => bm1A bb x y m2 else .bad) σ H Q →
      tBM X.K T' (rM1 N X.K (bm1A bb)) (tV N X.K W fa) (tVs N X.K W fun r m => (fb r m).bind fun x m1 => .ok [x] m1) σ H Q := fun T' {σ H Q} ty h =>
    tG.fst (rg := RA N X.K) (k := fun r x m1 => if bmTy bb x m1 then (fb r m1).bind fun y m2 => bm1A bb x y m2 else .bad) h fun r x v F t m H1 rl sr rx p => by
      split at p
      · rename_i hty
        refine ⟨ty sr rx hty, r, F, t, m, rl, sr, ?_⟩
        dsimp only
        cases e2 : fb r m with
        | bad => rw [e2] at p; exact p
        | ex C fs m1 => rw [e2] at p; exact p
        | ok y m2 =>
          simp only [e2, R.bind_ok] at p ⊢
          intro vs F1 t1 H1 st rv
          cases rv with
          | cons rv rn =>
            cases rn
            exact ⟨wAt W σ, F1, t1, m2, x, y, _, rfl, st.sr, rx.mono N X.K st.ext, rv, Pst.step (r := bm1A bb x y m2) p st⟩
      · exact False.elim p
  cases bb with
  | append =>
    refine PE.imp (pe_bm PySem.F.plainAttrs_list slot_list_append type_list_append (mt_append' N) ha (av_one hb hs) (hbase _) hfew hline (hs _ _) rfl) fun σ H Q h => core "list" (fun {F t m H x v} sr rx hty => ?_) h
    unfold bmTy at hty
    dsimp only at hty
    split at hty
    · rename_i n
      split at hty
      · rename_i xs hc
        obtain ⟨q, vs, rfl, h1, h2, h3⟩ := view_lst sr rx (as := xs) hc
        exact .inl ⟨rfl, vs, h1⟩
      · cases hty
    · cases hty
  | join =>
    refine PE.imp (pe_bm PySem.F.plainAttrs_str PySem.F.slot_str_join PySem.F.type_str_join (mt_join' N) ha (av_one hb hs) (hbase _) hfew hline (hs _ _) rfl) fun σ H Q h => core "str" (fun {F t m H x v} sr rx hty => ?_) h
    unfold bmTy at hty
    dsimp only at hty
    split at hty
    · cases rx with
      | z rx => cases rx; exact rfl
    · cases hty
/-! ### isinstance -/
theorem pe_tyName (g : Gd T N X k call) {t : Ty} (ht : tyOk T t = true) (hx : x = tys N t) (hg : isGlo X.env.scope x = true) : PE X (.Name x p) (tC (tyVal N X.K t)) := by
  have bt : ∀ y, y ∈ names1 → X.mg y = none := g.sta.blt
  subst hx
  cases t with
  | cls C => exact pe_glob (isGlo_gl hg).1 (g.sta.clg C (by simpa [tyOk] using ht)).1 rfl (isGlo_gl hg).2
  | int =>
    rw [show tys N .int = ("int" : Str) from rfl] at hg ⊢
    exact pe_bltn (isGlo_gl hg).1 (bt _ (by decide)) (by decide +kernel : bootBuiltins "int" = some (.type "int")) rfl (by decide) (by decide)
  | bool =>
    rw [show tys N .bool = ("bool" : Str) from rfl] at hg ⊢
    exact pe_bltn (isGlo_gl hg).1 (bt _ (by decide)) (by decide +kernel : bootBuiltins "bool" = some (.type "bool")) rfl (by decide) (by decide)
  | str =>
    rw [show tys N .str = ("str" : Str) from rfl] at hg ⊢
    exact pe_bltn (isGlo_gl hg).1 (bt _ (by decide)) (by decide +kernel : bootBuiltins "str" = some (.type "str")) rfl (by decide) (by decide)
  | list =>
    rw [show tys N .list = ("list" : Str) from rfl] at hg ⊢
    exact pe_bltn (isGlo_gl hg).1 (bt _ (by decide)) (by decide +kernel : bootBuiltins "list" = some (.type "list")) rfl (by decide) (by decide)
  | tuple =>
    rw [show tys N .tuple = ("tuple" : Str) from rfl] at hg ⊢
    exact pe_bltn (isGlo_gl hg).1 (bt _ (by decide)) (by decide +kernel : bootBuiltins "tuple" = some (.type "tuple")) rfl (by decide) (by decide)
theorem ev_isi (g : Gd T N X k call) {t : Ty} (ht : tyOk T t = true) {y : Str} {p2 : Pos} (hx : x = ("isinstance" : Str)) (hg : isGlo X.env.scope x = true) (hy : y = tys N t) (hg2 : isGlo X.env.scope y = true) (ha : EV N X W a fa) (hs : NS a) :
    EV N X W (.Call (.Name x p) [a, .Name y p2] [] pos) fun r m => (fa r m).bind fun x m1 => isiA T x t m1 := by
  subst hx
  refine PE.imp (pe_callB (cr_isi g ht) (isGlo_gl hg).1 (g.sta.blt _ (by decide)) (by decide +kernel) (pa_cons ha (pa_cons (pe_tyName g ht hy hg2) pa_nil rfl) (hs _ _)) (by decide) (by decide) (hs _ _) rfl) fun σ H Q h => ?_
  exact tG.one (rg := RA N X.K) (g := fun x m1 => isiA T x t m1) h fun x v F tt m H1 sr rx p => ⟨wAt W σ, F, tt, m, x, v, rfl, sr, rx, p⟩
/-! ### functions, classes, methods -/
theorem nm_get {α : Type} {l : List α} {i : Nat} {x d : α} (h : l[i]? = some x) : l.getD i d = x := by
  rw [List.getD_eq_getElem?_getD, h]; rfl
/-- a callee, by data: the first values given -/
def CalleeR (N : Nms) (X : Cx) (W : WX) (u : Value) (first : List Value) (σ : St) (pre : Hp → (Nat → Addr) → Nat → Prop) (f : List A → Store → R A) : Prop :=
  ∀ (pins : List (Addr × Obj)) (H : Hp) (s : Shared) (Q : VK) (us : List Value) (vs : List V) (F : Hp) (t : Nat → Addr) (m : Store) (as : List A), Inv X pins σ H s → Vals vs us → SR N X.K F t m H → RAs N X.K F t m.length vs as → pre F t m.length →
    PstA N X.K (wAt W σ) Q F t m H (f as m) → wpAny (model X.prog X.w) X.A (PySem.call u (first ++ us)) (EP X pins σ Q) X.xe s
theorem cw_all {u : Value} {first : List Value} {σ : St} {pre : Hp → (Nat → Addr) → Nat → Prop} {f : List A → Store → R A} {pins : List (Addr × Obj)} {H : Hp} {s : Shared} {Q : VK} {r : Env} {F : Hp} {t : Nat → Addr} {m : Store}
    (hp : ∀ {F F' : Hp} {t t' : Nat → Addr} {l l' : Nat}, Ext F t l F' t' l' → pre F t l → pre F' t' l') (hk : PySem.W.keepIn X.K u = true) (ha : AV N X W es fs) (hs : NSs es) (h0 : es = [] → ∀ r m, fs r m = .ok [] m)
    (cr : CalleeR N X W u first σ pre f) (I : Inv X pins σ H s) (rl : Rl N X.K F t m.length r σ) (sr : SR N X.K F t m H) (hpre : pre F t m.length) (p : PstA N X.K (wAt W σ) Q F t m H ((fs r m).bind f)) :
    wpAny (model X.prog X.w) X.A (callWith pos u first (backTo pos (starEach es X.env)) []) (EP X pins σ Q) X.xe s := by
  cases es with
  | nil =>
    rw [h0 rfl, R.bind_ok] at p
    exact PySem.W.callWith_K0 I.kIn hk (cr pins H s Q [] [] F t m [] I .nil sr .nil hpre p)
  | cons e es =>
    refine PySem.W.callWith_K (h₀ := X.base) I.ok.mod.kin hk ?_ (hs.cons.1 _ _) (NSs.any hs.cons.2)
    have q : tVs N X.K W fs σ H fun vs H1 => ∃ F t m as, SR N X.K F t m H1 ∧ RAs N X.K F t m.length vs as ∧ pre F t m.length ∧ PstA N X.K (wAt W σ) Q F t m H1 (f as m) :=
      ⟨r, F, t, m, rl, sr, Pst.fst (rg := RAs N X.K) p fun as m1 vs F1 t1 H1 st rv p1 => ⟨F1, t1, m1, as, st.sr, rv, hp st.ext hpre, p1⟩⟩
    exact thn (ha.run pos pins s σ H _ I q) fun us s1 ⟨vs, H1, I1, r1, F1, t1, m1, as, sr1, ra1, pr1, p1⟩ => ⟨I1.kIn, cr pins H1 s1 Q us vs F1 t1 m1 as I1 r1 sr1 ra1 pr1 p1⟩
theorem fill_len (g : Gd T N X k call) {Wx : XK} {Q : VK} {F : Hp} {t : Nat → Addr} {m : Store} {H : Hp} {f : Nat} {as : List A} (p : PstA N X.K Wx Q F t m H (call f (fill T f as) m)) : ∃ fd, T.fns[f]? = some fd ∧ (fill T f as).length = fd.ps := by
  cases hf : T.fns[f]? with
  | none => rw [g.cal.none f _ m hf] at p; exact False.elim p
  | some fd =>
    refine ⟨fd, rfl, ?_⟩
    by_cases hl : (fill T f as).length = fd.ps
    · exact hl
    · rw [g.cal.len f fd _ m hf hl] at p; exact False.elim p
theorem fn_addr {f : Nat} (h : N.fn[f]? = some (x, none)) (g : Gd T N X k call) : X.mg x = some (.ref (fad N X.K f)) ∧ PySem.W.keepIn X.K (.ref (fad N X.K f)) = true := g.sta.fng f x h
theorem ev_call (g : Gd T N X k call) (tk : Takes X W) {f : Nat} (hf : N.fn[f]? = some (x, none)) (hg : isGlo X.env.scope x = true) (ha : AV N X W es fs) (hs : NSs es) (h0 : es = [] → ∀ r m, fs r m = .ok [] m) :
    EV N X W (.Call (.Name x p) es [] pos) fun r m => (fs r m).bind fun xs m1 => call f (fill T f xs) m1 := by
  obtain ⟨e1, e2⟩ := g.sta.fng f x hf
  refine ⟨fun pins s σ H Q I ⟨r, F, t, m, rl, sr, p⟩ => ?_⟩
  refine wpAny_Call_Name_kw (ld_glob I (isGlo_gl hg).1 e1 ?_ (isGlo_gl hg).2)
  refine cw_all (pre := fun _ _ _ => True) (fun _ _ => trivial) e2 ha hs h0 (fun pins H s Q us vs F t m as I r sr ra _ p => ?_) I rl sr trivial p
  obtain ⟨fd, h1, h2⟩ := fill_len g p
  exact run_call g tk h1 I r sr ra h2 p
theorem RAf.noKey {K : PySem.W.Frag} {F : Hp} {t : Nat → Addr} {L : Nat} (nin : x ∉ N.fl) : ∀ {vs : List (Str × V)} {ds : List (Nat × A)}, RAf N K F t L vs ds → vs.lookup x = none
  | _, _, .nil => rfl
  | _, _, .cons (f := f0) hf0 _ r => by
    rw [List.lookup_cons]
    have ne : (x == fnm N f0) = false := beq_eq_false_iff_ne.mpr fun z => nin (by
      rw [z]
      unfold fnm
      rw [List.getD_eq_getElem?_getD, List.getElem?_eq_getElem hf0]
      exact List.getElem_mem _)
    rw [ne]
    exact RAf.noKey nin r
/-- o.m(..), the tree -/
theorem meth_tree {env : PySem.Env} (hsup : noSup o = true) (hs : NSs es) (hn : es.length < 20) (hl : apos.endLine = pos.line) : eval (.Call (.Attribute o x apos) es [] pos) env = (do
      let ov ← eval o env
      standAt apos.atName
      let (f, first) ← holding [ov] (getMethod ov x (do return (← importBound o env).getD true))
      callWith pos f first (backTo pos (starEach es env)) (backToKw pos (keywordEach [] env))) := by
  refine mcall_of (abase_noSup hsup) fun ov => ?_
  have hform : methodCallForm (es.length + ([] : List Keyword).length) (backTo pos (starEach es env)) (backToKw pos (keywordEach [] env)) = true := by
    unfold methodCallForm
    rw [NSs.all hs]
    show (true && true && decide (es.length + 0 + 0 < 30)) = true
    simp
    omega
  have hpos : methodCallPos true o env apos pos = pure pos := by unfold methodCallPos; simp [hl]
  unfold methodCall
  rw [hform, hpos]
  rfl
theorem ev_meth (g : Gd T N X k call) (tk : Takes X W) {mt : Nat} (hm : N.mt[mt]? = some x) (hsup : noSup o = true) (hn : es.length < 20) (hl : apos.endLine = pos.line) (ho : EV N X W o fa) (ha : AV N X W es fs) (hs : NSs es) (h0 : es = [] → ∀ r m, fs r m = .ok [] m) :
    EV N X W (.Call (.Attribute o x apos) es [] pos) fun r m => (fa r m).bind fun x m1 => (match view m1 x with
    | some (.ins C _) => (match T.cls[C]? with
      | some c => (match (if c.xfs.isNone then lookF mt c.meths else none) with
        | some f => (fs r m1).bind fun xs m2 => call f (fill T f (x :: xs)) m2
        | none => .bad)
      | none => .bad)
    | _ => .bad) := by
  refine ⟨fun pins s σ H Q I h => ?_⟩
  refine PySem.W.methodCall_KW (pl := (do return (← importBound o X.env).getD true)) ?_ (meth_tree hsup hs hn hl)
  have q := tG.fst (rg := RA N X.K) (Q1 := fun v H1 => ∃ r F t m x, Rl N X.K F t m.length r σ ∧ SR N X.K F t m H1 ∧ RA N X.K F t m.length v x ∧ PstA N X.K (wAt W σ) Q F t m H1 (match view m x with
    | some (.ins C _) => (match T.cls[C]? with
      | some c => (match (if c.xfs.isNone then lookF mt c.meths else none) with
        | some f => (fs r m).bind fun xs m2 => call f (fill T f (x :: xs)) m2
        | none => .bad)
      | none => .bad)
    | _ => .bad)) h fun r x v F t m H1 rl sr rx p => ⟨r, F, t, m, x, rl, sr, rx, p⟩
  refine thn (ho.run pins s σ H _ I q) fun u s1 ⟨v, H1, I1, rv, r, F, t, m, y, rl, sr, rx, p⟩ => ?_
  split at p
  · rename_i C fs0 hv
    split at p
    · rename_i c hc
      split at p
      · rename_i f hf
        split at hf
        · rename_i hx
          have hx : c.xfs = none := by simpa using hx
          obtain ⟨q, dx, vs, rfl, hi, rs⟩ := view_ins sr rx hv
          obtain ⟨M, nin⟩ := g.sta.mth C c mt f hc hx hf
          have em : N.mt.getD mt Str.empty = x := nm_get hm
          rw [em] at M nin
          obtain rfl : u = Value.ref q := rv
          have hC : insC T C = true := by unfold insC; rw [hc]; simp [hx]
          have nl : vs.lookup x = none := rs.noKey nin
          refine getmeth_ok I1 hi (g.sta.cls C hC).cl M nl ?_
          refine cw_all (f := fun xs m2 => call f (fill T f (y :: xs)) m2) (pre := fun F t l => RA N X.K F t l (.ref q) y) (fun e r => r.mono N X.K e) M.kp ha hs h0 (fun pins H s Q us vs F t m as I r sr ra hp p => ?_) I1 rl sr rx p
          obtain ⟨fd, h1, h2⟩ := fill_len g p
          exact run_call g tk h1 I (Paired.cons (show RelV (V.ref q) (Value.ref q) from rfl) r) sr (.cons hp ra) h2 p
        · cases hf
      · exact False.elim p
    · exact False.elim p
  · exact False.elim p
/-- C(), no __init__ -/
theorem run_new0 (g : Gd T N X k call) {C : Nat} {c : CDef} {pins : List (Addr × Obj)} {σ : St} {H : Hp} {s : Shared} {Wx : XK} {Q : VK} {F : Hp} {t : Nat → Addr} {m : Store}
    (hc : T.cls[C]? = some c) (hx : c.xfs = none) (hi : c.init = none) (I : Inv X pins σ H s) (sr : SR N X.K F t m H) (p : PstA N X.K Wx Q F t m H (okZ (.ins C []) m)) :
    wpAny (model X.prog X.w) X.A (PySem.call (.ref (cad N X.K C)) []) (EP X pins σ Q) X.xe s := by
  obtain ⟨M1, M2⟩ := g.sta.mk0 C c hc hx hi
  have I2 := Inv.made (C := cad N X.K C) I
  have Y := PySem.W.makes_of (M := model X.prog X.w) I.kIn M1
  refine wpAny_call (make_map0 I.kIn M1 M2 (fun self => PySem.W.Looks.of_pure (PySem.W.oi_bind self)) ?_)
  generalize hx0 : s.heap.objs.size + 1 = x at I2
  generalize hdx : s.heap.objs.size = dx at I2
  have nx : H x = none := I.hok.fresh (by omega)
  have ndx : H dx = none := I.hok.fresh (by omega)
  have ne : x ≠ dx := by omega
  have sr1 : Stp N X.K F t m H F t m (upd H dx (.own x)) := (Stp.refl sr).own ndx (sr.fnone ndx) fun n c hc => sr.tne ndx hc
  have nx1 : upd H dx (.own x) x = none := by rw [upd_ne ne]; exact nx
  have st := sr1.trans (Stp.frz (o := HO.ins (cad N X.K C) dx []) sr1.sr nx1)
  have q : Q (.ref x) _ := p (.ref x) _ _ _ st (.z (.ins upd_same .nil))
  have e2 : ((s.heap.push PySem.W.emptyDict).push (PySem.W.instObj (cad N X.K C) dx)).get? x = some (PySem.W.instObj (cad N X.K C) dx) := by
    have := Heap.get?_push_size (s.heap.push PySem.W.emptyDict) (o := PySem.W.instObj (cad N X.K C) dx) rfl
    rwa [Heap.size_push, hx0] at this
  have t1 : PySem.W.Looks (model X.prog X.w) ((s.heap.push PySem.W.emptyDict).push (PySem.W.instObj (cad N X.K C) dx)) (typeOf (.ref x)) (.ref (cad N X.K C)) := (PySem.W.Looks.ld e2).andThen .now
  have t2 : PySem.W.Looks (model X.prog X.w) ((s.heap.push PySem.W.emptyDict).push (PySem.W.instObj (cad N X.K C) dx)) (isInstance (.ref x) (.type "object")) true := t1.andThen (Y.top.keeps fun b o e => Heap.get?_push_of_some _ (Heap.get?_push_of_some _ e))
  try rw [hx0]
  try rw [hdx]
  refine PySem.codeAny_call_builtin PySem.W.oi_plain PySem.W.entry_oi (@PySem.W.check_slot (model X.prog X.w) _ _ _ "object.__init__" "object" "__init__" (.ref x) [] [] _ PySem.W.oi_kind PySem.W.oi_split t2 (PySem.W.oi_args (.ref x)) ?_)
  rw [PySem.W.oi_run]
  exact wpAny_pure (And.intro rfl ⟨.ref x, _, I2, rfl, q⟩)
theorem ev_make (g : Gd T N X k call) (tk : Takes X W) {C : Nat} (hC : N.cl[C]? = some x) (hl : C < T.cls.length) (hg : isGlo X.env.scope x = true) (ha : AV N X W es fs) (hs : NSs es) (h0 : es = [] → ∀ r m, fs r m = .ok [] m) :
    EV N X W (.Call (.Name x p) es [] pos) fun r m => (fs r m).bind fun xs m1 => (match T.cls[C]? with
    | some c => (match c.init with
      | some f => if c.xfs.isNone then (call f (fill T f (.h m1.length :: xs)) (m1 ++ [some (.ins C [])])).bind fun y m2 => noneOk y (.h m1.length) m2 else .bad
      | none => if c.xfs.isNone && xs.isEmpty then okZ (.ins C []) m1 else .bad)
    | none => .bad) := by
  obtain ⟨e1, e2⟩ := g.sta.clg C hl
  rw [nm_get hC] at e1
  refine ⟨fun pins s σ H Q I ⟨r, F, t, m, rl, sr, p⟩ => ?_⟩
  refine wpAny_Call_Name_kw (ld_glob I (isGlo_gl hg).1 e1 ?_ (isGlo_gl hg).2)
  refine cw_all (pre := fun _ _ _ => True) (fun _ _ => trivial) e2 ha hs h0 (fun pins H s Q us vs F t m as I r sr ra _ p => ?_) I rl sr trivial p
  split at p
  · rename_i c hc
    split at p
    · rename_i f hi
      split at p
      · rename_i hx
        have hx : c.xfs = none := by simpa using hx
        have hf : ∃ fd, T.fns[f]? = some fd ∧ (fill T f (.h m.length :: as)).length = fd.ps := by
          cases hf : T.fns[f]? with
          | none => rw [g.cal.none f _ _ hf] at p; exact False.elim p
          | some fd =>
            refine ⟨fd, rfl, ?_⟩
            by_cases hl : (fill T f (.h m.length :: as)).length = fd.ps
            · exact hl
            · rw [g.cal.len f fd _ _ hf hl] at p; exact False.elim p
        obtain ⟨fd, h1, h2⟩ := hf
        exact run_new g tk h1 hc hx hi I r sr ra h2 p
      · exact False.elim p
    · rename_i hi
      split at p
      · rename_i hx
        simp only [Bool.and_eq_true, Option.isNone_iff_eq_none, List.isEmpty_iff] at hx
        obtain ⟨hx, he⟩ := hx
        subst he
        cases ra
        cases r
        exact run_new0 g hc hx hi I sr p
      · exact False.elim p
  · exact False.elim p
end
end GL

/-! G13: iterables, targets, comprehensions, freezing. -/
namespace GL
open PySem L2
/-! ### targets -/
theorem wipe_comm {i : Nat} {x : Option V} : ∀ {vs : List Nat} {σ : St}, i ∉ vs → wipe (σ.set i x) vs = (wipe σ vs).set i x
  | [], _, _ => rfl
  | v :: vs, σ, h => by
    simp only [List.mem_cons, not_or] at h
    show (wipe (σ.set i x) vs).set v none = ((wipe σ vs).set v none).set i x
    rw [wipe_comm h.2, List.set_comm _ _ h.1]
theorem wipe_set {i : Nat} {x : Option V} : ∀ {vs : List Nat} {σ : St}, i ∈ vs → wipe (σ.set i x) vs = wipe σ vs
  | v :: vs, σ, h => by
    show (wipe (σ.set i x) vs).set v none = (wipe σ vs).set v none
    by_cases hi : i ∈ vs
    · rw [wipe_set hi]
    · have e : i = v := by simpa [hi] using h
      subst e
      rw [wipe_comm hi, List.set_set]
theorem wipe_sub {vs : List Nat} : ∀ {us : List Nat} {σ : St}, (∀ i ∈ us, i ∈ vs) → wipe (wipe σ us) vs = wipe σ vs
  | [], _, _ => rfl
  | u :: us, σ, h => by
    show wipe ((wipe σ us).set u none) vs = _
    rw [wipe_set (h u (by simp)), wipe_sub fun i hi => h i (List.mem_cons_of_mem _ hi)]
def setL : St → List Nat → List V → St
  | σ, i :: is, v :: vs => setL (σ.set i (some v)) is vs
  | σ, _, _ => σ
theorem wipe_setL {us : List Nat} : ∀ {is : List Nat} {vs : List V} {σ : St}, (∀ i ∈ is, i ∈ us) → wipe (setL σ is vs) us = wipe σ us
  | [], _, _, _ => by unfold setL; rfl
  | _ :: _, [], _, _ => by unfold setL; rfl
  | i :: is, v :: vs, σ, h => by
    unfold setL
    rw [wipe_setL fun j hj => h j (List.mem_cons_of_mem _ hj), wipe_set (h i (by simp))]
section
variable {N : Nms} {K : PySem.W.Frag} {F : Hp} {t : Nat → Addr} {l : Nat}
theorem Rl.set {r : Env} {σ : St} (h : Rl N K F t l r σ) (i : Nat) {a : A} {v : V} (ra : RA N K F t l v a) : Rl N K F t l (r.set i (some a)) (σ.set i (some v)) := by
  refine ⟨by simp [h.1], fun j b e => ?_⟩
  by_cases hj : i = j
  · subst hj
    by_cases hl : i < r.length
    · rw [List.getElem?_set_self hl] at e
      cases e
      exact ⟨v, by rw [List.getElem?_set_self (by rw [← h.1]; exact hl)], ra⟩
    · rw [List.getElem?_eq_none (by simpa using hl)] at e
      cases e
  · rw [List.getElem?_set_ne hj] at e
    obtain ⟨w, h1, h2⟩ := h.2 j b e
    exact ⟨w, by rw [List.getElem?_set_ne hj]; exact h1, h2⟩
theorem Rl.unset {r : Env} {σ : St} (h : Rl N K F t l r σ) (i : Nat) {x : Option V} : Rl N K F t l (r.set i none) (σ.set i x) := by
  refine ⟨by simp [h.1], fun j b e => ?_⟩
  by_cases hj : i = j
  · subst hj
    by_cases hl : i < r.length
    · rw [List.getElem?_set_self hl] at e
      cases e
    · rw [List.getElem?_eq_none (by simpa using hl)] at e
      cases e
  · rw [List.getElem?_set_ne hj] at e
    obtain ⟨w, h1, h2⟩ := h.2 j b e
    exact ⟨w, by rw [List.getElem?_set_ne hj]; exact h1, h2⟩
theorem Rl.setL : ∀ {is : List Nat} {r : Env} {σ : St} {vs : List V} {as : List A}, Rl N K F t l r σ → RAs N K F t l vs as → Rl N K F t l (setE r is as) (GL.setL σ is vs)
  | [], _, _, _, _, h, _ => by unfold setE GL.setL; exact h
  | _ :: _, _, _, _, _, h, .nil => by unfold setE GL.setL; exact h
  | i :: is, _, _, _, _, h, .cons ra rs => by unfold setE GL.setL; exact Rl.setL (h.set i ra) rs
theorem Rl.wipe : ∀ {vs : List Nat} {r : Env} {σ : St}, Rl N K F t l r σ → Rl N K F t l (wipeE r vs) (wipe σ vs)
  | [], _, _, h => h
  | v :: vs, _, _, h => (Rl.wipe (vs := vs) h).unset v
end
/-- a target's reading -/
def gTg (N : Nms) (K : PySem.W.Frag) (tg : List Nat) (tup : Bool) : TG := fun v σ H Q => ∃ r F t m a r1, Rl N K F t m.length r σ ∧ SR N K F t m H ∧ RA N K F t m.length v a ∧ setT tg tup a m r = some r1 ∧
  ∀ σ1, Rl N K F t m.length r1 σ1 → wipe σ1 tg = wipe σ tg → Q σ1 H
section
variable {N : Nms} {X : Cx}
theorem isSto_loc {sc : Scope} {x : Str} (h : isSto sc x = true) : Loc sc x := by
  unfold isSto at h
  split at h
  · exact .inl (by assumption)
  · exact .inr (by assumption)
  · cases h
theorem mNm_pg {i : Nat} {e : Expr} (nd : X.N.Nodup) (h : mNm X.N X.env.scope X.fn i e = true) : PG X e (gName i) := by
  cases e <;> simp only [mNm, Bool.and_eq_true, Bool.or_eq_true, decide_eq_true_eq, Bool.false_eq_true] at h
  exact pg_name nd h.1 (isSto_loc h.2.1) h.2.2
theorem mNm_as {i : Nat} {e : Expr} {L : List Str} {sc : Scope} {fn : Str → Bool} (h : mNm L sc fn i e = true) (env : PySem.Env) (es : List Expr) : assignEach (e :: es) env = (false, assign e env) :: assignEach es env := by
  cases e <;> simp only [mNm, Bool.false_eq_true] at h
  rfl
theorem mNms_len {L : List Str} {sc : Scope} {fn : Str → Bool} {env : PySem.Env} : ∀ {is : List Nat} {es : List Expr}, mNms L sc fn is es = true → (assignEach es env).length = is.length ∧ (assignEach es env).findIdx? (·.1) = none
  | [], [], _ => ⟨rfl, rfl⟩
  | i :: is, e :: es, h => by
    simp only [mNms, Bool.and_eq_true] at h
    obtain ⟨h1, h2⟩ := mNms_len (env := env) h.2
    rw [mNm_as h.1]
    refine ⟨by simp [h1], ?_⟩
    rw [List.findIdx?_cons, h2]
    rfl
  | [], _ :: _, h => by simp [mNms] at h
  | _ :: _, [], h => by simp [mNms] at h
theorem mNms_pgs (nd : X.N.Nodup) : ∀ {is : List Nat} {es : List Expr}, mNms X.N X.env.scope X.fn is es = true → PGs X es fun vs σ H Q => vs.length = is.length ∧ Q (setL σ is vs) H
  | [], [], _ => ⟨fun pins s σ H vs us Q I r h => pgs_nil.run pins s σ H vs us Q I r (by
    obtain ⟨h1, h2⟩ := h
    have e : vs = [] := List.length_eq_zero_iff.mp h1
    subst e
    exact ⟨rfl, h2⟩)⟩
  | i :: is, e :: es, h => by
    simp only [mNms, Bool.and_eq_true] at h
    refine ⟨fun pins s σ H vs us Q I r q => (pgs_cons (mNm_pg nd h.1) (mNms_pgs nd h.2) (by rw [mNm_as h.1]; rfl)).run pins s σ H vs us Q I r ?_⟩
    obtain ⟨q1, q2⟩ := q
    cases vs with
    | nil => simp at q1
    | cons v vs => exact ⟨v, vs, rfl, by simpa using q1, q2⟩
  | [], _ :: _, h => by simp [mNms] at h
  | _ :: _, [], h => by simp [mNms] at h
theorem PG.imp {e : Expr} {t t' : TG} (h : PG X e t) (k : ∀ v σ H Q, t' v σ H Q → t v σ H Q) : PG X e t' := ⟨fun pins s σ H v u Q I r q => h.run pins s σ H v u Q I r (k v σ H Q q)⟩
theorem pg_ok (nd : X.N.Nodup) (hc : X.calm = true) {tg : List Nat} {tup : Bool} {e : Expr} (h : mTg X.N X.env.scope X.fn tg tup e = true) : PG X e (gTg N X.K tg tup) := by
  cases e <;> simp only [mTg, Bool.false_eq_true] at h
  · simp only [Bool.and_eq_true, Bool.not_eq_true'] at h
    obtain ⟨rfl, h⟩ := h
    split at h
    · rename_i i
      refine PG.imp (mNm_pg nd h) fun v σ H Q ⟨r, F, t, m, a, r1, rl, sr, ra, e, q⟩ => ?_
      cases e
      exact q _ (rl.set i ra) (wipe_set (by simp))
    · cases h
  · simp only [Bool.and_eq_true] at h
    obtain ⟨rfl, h⟩ := h
    obtain ⟨l1, l2⟩ := mNms_len (env := X.env) h
    refine PG.imp (pg_tup hc (mNms_pgs nd h) l1 l2) fun v σ H Q ⟨r, F, t, m, a, r1, rl, sr, ra, e, q⟩ => ?_
    have e : (match view m a with
      | some (.tup xs) => if tg.length = xs.length then some (setE r tg xs) else none
      | _ => none) = some r1 := by
      cases tg with
      | nil => exact e
      | cons i is => cases is <;> exact e
    split at e
    · rename_i xs hv
      split at e
      · rename_i hl
        cases e
        obtain ⟨p, vs, rfl, hq, rs⟩ := view_tup sr ra hv
        have hl2 : vs.length = tg.length := by rw [rs.len N X.K, hl]
        exact ⟨p, vs, rfl, hq, hl2, hl2, q _ (rl.setL rs) (wipe_setL fun i hi => hi)⟩
      · cases e
    · cases e
end
/-! ### iterables -/
def srcAt : Src → Store → Option (List A)
  | .fix xs, _ => some xs
  | .live n, m => match cell m n with
    | some (.lst xs) => some xs
    | _ => none
/-- an iterator goes through what the ghost walks -/
def GoesI (N : Nms) (K : PySem.W.Frag) (F : Hp) (t : Nat → Addr) (l : Nat) (J : L2.It) (src : Src) : Prop :=
  ∀ (F' : Hp) (t' : Nat → Addr) (m' : Store) (H' : Hp), Ext F t l F' t' m'.length → SR N K F' t' m' H' → ∀ ys, srcAt src m' = some ys → ∀ i,
    (∀ a, ys[i]? = some a → J.go i H' ∧ ∀ x H'', J.yld i H' x H'' → H'' = H' ∧ RA N K F' t' m'.length x a) ∧ (ys[i]? = none → J.stop i H')
abbrev tI (N : Nms) (K : PySem.W.Frag) (W : WX) (f : Env → Store → R Src) : TI := tG N K (GoesI N K) W f
theorem PI.imp {X : Cx} {tg e : Expr} {t t' : TI} (h : PI X tg e t) (k : ∀ σ H R, t' σ H R → t σ H R) : PI X tg e t' := ⟨fun pins s σ H R I q => h.run pins s σ H R I (k σ H R q)⟩
section
variable {T : Tab} {N : Nms} {X : Cx} {k : Nat} {call : Nat → List A → Store → R A} {W : WX} {a b c e tg : Expr} {es rest : List Expr} {fa fb fc fr : Env → Store → R A} {p pos : Pos} {x : Str}
abbrev IV (N : Nms) (X : Cx) (W : WX) (tg e : Expr) (f : Env → Store → R Src) : Prop := PI X tg e (tI N X.K W f)
theorem goes_rng {K : PySem.W.Frag} {F : Hp} {t : Nat → Addr} {l : Nat} (lo : Int) (n : Nat) : GoesI N K F t l (Itr lo n) (.fix (rngL lo n)) := by
  intro F' t' m' H' _ sr ys e i
  cases e
  unfold rngL
  rw [List.getElem?_map]
  refine ⟨fun a h => ?_, fun h => ?_⟩
  · by_cases hi : i < n
    · rw [List.getElem?_range hi] at h
      cases h
      exact ⟨hi, fun x H'' q => ⟨q.1, by rw [q.2]; exact .z (.int _)⟩⟩
    · rw [List.getElem?_eq_none (by simpa using hi)] at h
      cases h
  · by_cases hi : i < n
    · rw [List.getElem?_range hi] at h
      cases h
    · exact Nat.not_lt.mp hi
theorem goes_rrng {K : PySem.W.Frag} {F : Hp} {t : Nat → Addr} {l : Nat} (n : Nat) (lo : Int) (hl : lo = (n : Int) - 1) : GoesI N K F t l (Itc lo (-1) n) (.fix (rngL 0 n).reverse) := by
  intro F' t' m' H' _ sr ys e i
  subst hl
  have e : (rngL 0 n).reverse = ys := by
    unfold srcAt at e
    exact Option.some.inj e
  subst e
  unfold rngL
  by_cases hi : i < n
  · rw [List.getElem?_reverse (by simpa using hi)]
    simp only [List.length_map, List.length_range, List.getElem?_map]
    rw [List.getElem?_range (by omega)]
    refine ⟨fun a h => ?_, fun h => by cases h⟩
    cases h
    refine ⟨hi, fun x H'' q => ⟨q.1, ?_⟩⟩
    rw [q.2]
    have e : ((n : Int) - 1 + (i : Nat) * (-1)) = 0 + ((n - 1 - i : Nat) : Int) := by omega
    rw [e]
    exact .z (.int _)
  · have e : ((List.range n).map fun (k : Nat) => A.z (.int (0 + k))).reverse[i]? = none := List.getElem?_eq_none (by simpa using hi)
    rw [e]
    exact ⟨fun a h => (by cases h), fun _ => Nat.not_lt.mp hi⟩
theorem inR_ok {i : Int} (h : inR i = true) : -(2 ^ 62) ≤ i ∧ i < 2 ^ 62 := by
  unfold inR at h
  simp only [Bool.and_eq_true, decide_eq_true_eq] at h
  omega
theorem iv_rng1 (g : Gd T N X k call) (hx : x = ("range" : Str)) (hg : isGlo X.env.scope x = true) (ha : EV N X W a fa) (hs : NS a) : IV N X W tg (.Call (.Name x p) [a] [] pos) fun r m => (fa r m).bind fun x m1 => (match x with
    | .z (.int i) => if inR i then .ok (.fix (rngL 0 i.toNat)) m1 else .bad
    | _ => .bad) := by
  subst hx
  refine PI.imp (pi_range1 (isGlo_gl hg).1 (g.sta.blt _ (by decide)) (av_one ha hs) (hs _ _)) fun σ H RR h => ?_
  obtain ⟨r, F, t, m, h1, h2, p⟩ := h
  refine ⟨r, F, t, m, h1, h2, ?_⟩
  dsimp only at p ⊢
  cases e : fa r m with
  | bad => rw [e] at p; exact p
  | ex C fs m1 => rw [e] at p; exact p
  | ok y m1 =>
    rw [e, R.bind_ok] at p
    rw [R.bind_ok]
    intro vs F1 t1 H1 st rv
    cases rv with
    | cons rv rn =>
      cases rn
      split at p
      · split at p
        · rename_i hi
          cases rv with
          | z rv =>
            cases rv
            exact ⟨_, rfl, (inR_ok hi).1, (inR_ok hi).2, p _ F1 t1 H1 st (goes_rng 0 _)⟩
        · exact False.elim p
      · exact False.elim p
theorem iv_rng2 (g : Gd T N X k call) (hx : x = ("range" : Str)) (hg : isGlo X.env.scope x = true) (ha : EV N X W a fa) (hb : EV N X W b fb) (hs : NS a) (hs2 : NS b) : IV N X W tg (.Call (.Name x p) [a, b] [] pos) fun r m => (fa r m).bind fun x m1 => (fb r m1).bind fun y m2 => (match x, y with
    | .z (.int i), .z (.int j) => if inR i && inR j then .ok (.fix (rngL i (j - i).toNat)) m2 else .bad
    | _, _ => .bad) := by
  subst hx
  refine PI.imp (pi_range2 (isGlo_gl hg).1 (g.sta.blt _ (by decide)) (av_two ha hb hs hs2) (by rw [hs, hs2]; rfl) (hs2 _ _)) fun σ H RR h => ?_
  obtain ⟨r, F, t, m, h1, h2, p⟩ := h
  refine ⟨r, F, t, m, h1, h2, ?_⟩
  dsimp only at p ⊢
  cases e : fa r m with
  | bad => rw [e] at p; exact p
  | ex C fs m1 => rw [e] at p; exact p
  | ok y m1 =>
    rw [e, R.bind_ok] at p
    rw [R.bind_ok]
    cases e2 : fb r m1 with
    | bad => rw [e2] at p; exact p
    | ex C fs m1 => rw [e2] at p; exact p
    | ok z m2 =>
      rw [e2, R.bind_ok] at p
      rw [R.bind_ok]
      intro vs F1 t1 H1 st rv
      cases rv with
      | cons rv rn =>
        cases rn with
        | cons rw rn =>
          cases rn
          split at p
          · split at p
            · rename_i hi
              simp only [Bool.and_eq_true] at hi
              cases rv with
              | z rv =>
                cases rv
                cases rw with
                | z rw =>
                  cases rw
                  exact ⟨_, _, rfl, ⟨(inR_ok hi.1).1, (inR_ok hi.1).2, (inR_ok hi.2).1, (inR_ok hi.2).2⟩, p _ F1 t1 H1 st (goes_rng _ _)⟩
            · exact False.elim p
          · exact False.elim p
theorem iv_rrng1 (g : Gd T N X k call) {y : Str} {p2 pos2 : Pos} (hy : y = ("reversed" : Str)) (hg2 : isGlo X.env.scope y = true) (hx : x = ("range" : Str)) (hg : isGlo X.env.scope x = true) (ha : EV N X W a fa) (hs : NS a) :
    IV N X W tg (.Call (.Name y p2) [.Call (.Name x p) [a] [] pos] [] pos2) fun r m => (fa r m).bind fun x m1 => (match x with
    | .z (.int i) => if inR i then .ok (.fix (rngL 0 i.toNat).reverse) m1 else .bad
    | _ => .bad) := by
  subst hx hy
  refine PI.imp (pi_revR (isGlo_gl hg2).1 (g.sta.blt _ (by decide)) (prg_1 (isGlo_gl hg).1 (g.sta.blt _ (by decide)) ha (hs _ _)) rfl) fun σ H R h => ?_
  refine tG.one (rg := RA N X.K) h fun y v F t m H1 sr rv p => ?_
  split at p
  · split at p
    · rename_i i hi
      cases rv with
      | z rv =>
        cases rv
        refine ⟨_, rfl, by omega, by omega, (inR_ok hi).1, (inR_ok hi).2, ?_⟩
        refine p _ F t H1 (Stp.refl sr) ?_
        rw [show (i - 0).toNat = i.toNat by rw [Int.sub_zero]]
        exact goes_rrng _ _ (by omega)
    · exact False.elim p
  · exact False.elim p
def srcOf (x : A) (m1 : Store) : R Src := match x with
    | .z (.lst xs) => .ok (.fix (xs.map .z)) m1
    | .z (.tup xs) => .ok (.fix (xs.map .z)) m1
    | .z (.scr xs) => .ok (.fix (xs.map fun i => .z (.int i))) m1
    | .z (.str xs) => .ok (.fix (xs.map fun c => .z (.str [c]))) m1
    | .h n => (match cell m1 n with
      | some (.lst _) => .ok (.live n) m1
      | _ => .bad)
    | _ => .bad
theorem RAs.getR {K : PySem.W.Frag} {F : Hp} {t : Nat → Addr} {l : Nat} : ∀ {vs : List V} {as : List A} {i : Nat} {y : V} {x : A}, RAs N K F t l vs as → as[i]? = some x → vs[i]? = some y → RA N K F t l y x := fun {vs as i y x} r h1 h2 => by
  obtain ⟨z, e1, e2⟩ := r.get N K h1
  rw [h2] at e1
  cases e1
  exact e2
theorem goes_lst {K : PySem.W.Frag} {F : Hp} {t : Nat → Addr} {l : Nat} {p : Addr} {vs : List V} {as : List A} {src : Src} (h : ∀ (F' : Hp) (t' : Nat → Addr) (m' : Store) (H' : Hp), Ext F t l F' t' m'.length → SR N K F' t' m' H' → ∀ ys, srcAt src m' = some ys → ∃ vs, SqL K H' p vs ∧ RAs N K F' t' m'.length vs ys) :
    GoesI N K F t l (Itl K p) src := by
  intro F' t' m' H' ex sr ys e i
  obtain ⟨vs, hl, rs⟩ := h F' t' m' H' ex sr ys e
  refine ⟨fun a ha => ?_, fun hn => ?_⟩
  · obtain ⟨y, e1, e2⟩ := rs.get N K ha
    exact ⟨⟨vs, y, hl, e1⟩, fun x H'' q => ⟨q.1, by
      have := q.2 vs hl
      rw [e1] at this
      cases this
      exact e2⟩⟩
  · exact ⟨vs, hl, by rw [rs.len N K]; exact List.getElem?_eq_none_iff.mp hn⟩
theorem goes_tup {K : PySem.W.Frag} {F : Hp} {t : Nat → Addr} {l : Nat} {p : Addr} {src : Src} (h : ∀ (F' : Hp) (t' : Nat → Addr) (m' : Store) (H' : Hp), Ext F t l F' t' m'.length → SR N K F' t' m' H' → ∀ ys, srcAt src m' = some ys → ∃ vs, SqT K H' p vs ∧ RAs N K F' t' m'.length vs ys) :
    GoesI N K F t l (Itt K p) src := by
  intro F' t' m' H' ex sr ys e i
  obtain ⟨vs, hl, rs⟩ := h F' t' m' H' ex sr ys e
  refine ⟨fun a ha => ?_, fun hn => ?_⟩
  · obtain ⟨y, e1, e2⟩ := rs.get N K ha
    exact ⟨⟨vs, y, hl, e1⟩, fun x H'' q => ⟨q.1, by
      have := q.2 vs hl
      rw [e1] at this
      cases this
      exact e2⟩⟩
  · exact ⟨vs, hl, by rw [rs.len N K]; exact List.getElem?_eq_none_iff.mp hn⟩
theorem iv_of (ha : EV N X W a fa) : IV N X W tg a fun r m => (fa r m).bind fun x m1 => srcOf x m1 := by
  refine ⟨fun pins s σ H RR I h => ?_⟩
  obtain ⟨r, F, t, m, h1, h2, p⟩ := h
  dsimp only at p
  have lists : ∀ {x m1}, fa r m = .ok x m1 → (∀ (v : V) (F1 : Hp) (t1 : Nat → Addr) (H1 : Hp), Stp N X.K F t m H F1 t1 m1 H1 → RA N X.K F1 t1 m1.length v x → ∃ q, v = .ref q ∧ (∃ xs, SqL X.K H1 q xs) ∧ RR (Itl X.K q) H1) →
      wpAny (model X.prog X.w) X.A (eval a X.env) (fun v s1 => wpAny (model X.prog X.w) X.A (pyIter v) (PIE X pins σ tg RR) X.xe s1) X.xe s := fun {x m1} e h =>
    (pi_list ha).run pins s σ H RR I ⟨r, F, t, m, h1, h2, by rw [e]; exact h⟩
  have tups : ∀ {x m1}, fa r m = .ok x m1 → (∀ (v : V) (F1 : Hp) (t1 : Nat → Addr) (H1 : Hp), Stp N X.K F t m H F1 t1 m1 H1 → RA N X.K F1 t1 m1.length v x → ∃ q, v = .ref q ∧ (∃ xs, SqT X.K H1 q xs) ∧ RR (Itt X.K q) H1) →
      wpAny (model X.prog X.w) X.A (eval a X.env) (fun v s1 => wpAny (model X.prog X.w) X.A (pyIter v) (PIE X pins σ tg RR) X.xe s1) X.xe s := fun {x m1} e h =>
    (pi_tup ha).run pins s σ H RR I ⟨r, F, t, m, h1, h2, by rw [e]; exact h⟩
  cases e : fa r m with
  | bad => rw [e] at p; exact False.elim p
  | ex C fs m1 => exact (pi_list ha).run pins s σ H RR I ⟨r, F, t, m, h1, h2, by rw [e] at p ⊢; exact p⟩
  | ok x m1 =>
    rw [e, R.bind_ok] at p
    unfold srcOf at p
    split at p
    · rename_i xs
      refine lists e fun v F1 t1 H1 st rv => ?_
      cases rv with
      | z rv =>
        cases rv with
        | @lst q vs _ h r =>
          refine ⟨q, rfl, ⟨vs, SqL.of (st.sr.sub.lst h)⟩, p _ F1 t1 H1 st (goes_lst (vs := vs) (as := []) fun F' t' m' H' ex sr ys e => ?_)⟩
          cases e
          exact ⟨vs, SqL.of (sr.sub.lst (ex.sub _ _ h)), RAs.of N X.K (r.mono N X.K ex.sub)⟩
    · rename_i xs
      refine tups e fun v F1 t1 H1 st rv => ?_
      cases rv with
      | z rv =>
        cases rv with
        | @tup q vs _ h r =>
          refine ⟨q, rfl, ⟨vs, st.sr.sub.sqT X.K h⟩, p _ F1 t1 H1 st (goes_tup fun F' t' m' H' ex sr ys e => ?_)⟩
          cases e
          exact ⟨vs, sr.sub.sqT X.K (ex.sub.sqT X.K h), RAs.of N X.K (r.mono N X.K ex.sub)⟩
    · rename_i xs
      refine lists e fun v F1 t1 H1 st rv => ?_
      cases rv with
      | z rv =>
        cases rv with
        | @scr q vs h =>
          refine ⟨q, rfl, ⟨_, st.sr.sub.sqL X.K h⟩, p _ F1 t1 H1 st (goes_lst (vs := []) (as := []) fun F' t' m' H' ex sr ys e => ?_)⟩
          cases e
          exact ⟨_, sr.sub.sqL X.K (ex.sub.sqL X.K h), RAs.ofInts xs⟩
    · rename_i xs
      refine (pi_str ha).run pins s σ H RR I ⟨r, F, t, m, h1, h2, by
        rw [e]
        intro v F1 t1 H1 st rv
        cases rv with
        | z rv =>
          cases rv
          refine ⟨_, rfl, p _ F1 t1 H1 st fun F' t' m' H' ex sr ys e i => ?_⟩
          cases e
          refine ⟨fun a ha => ?_, fun hn => ?_⟩
          · rw [List.getElem?_map] at ha
            cases hc : xs[i]? with
            | none => rw [hc] at ha; cases ha
            | some c =>
              rw [hc] at ha
              cases ha
              have e1 : (tx xs).cps[i]? = some c := by
                show xs.toArray[i]? = some c
                simpa using hc
              refine ⟨?_, fun x H'' q => ⟨q.1, ?_⟩⟩
              · have := (List.getElem?_eq_some_iff.mp hc).1
                show i < xs.toArray.size
                simpa using this
              · obtain ⟨c', e2, e3⟩ := q.2
                rw [e1] at e2
                cases e2
                rw [e3]
                exact .z (.str [c])
          · show xs.toArray.size ≤ i
            have : (xs.map fun c => A.z (.str [c])).length ≤ i := List.getElem?_eq_none_iff.mp hn
            simpa using this⟩
    · rename_i n
      split at p
      · rename_i ys hc
        refine lists e fun v F1 t1 H1 st rv => ?_
        cases rv with
        | h hn =>
          obtain ⟨o, e1, e2, e3⟩ := st.sr.cel n _ hc
          cases e2 with
          | lst rs =>
            refine ⟨_, rfl, ⟨_, SqL.of e1⟩, p _ F1 t1 H1 st (goes_lst (vs := []) (as := []) fun F' t' m' H' ex sr zs ez => ?_)⟩
            have ez : (match cell m' n with
              | some (.lst xs) => some xs
              | _ => none) = some zs := ez
            split at ez
            · rename_i zs' hz
              cases ez
              obtain ⟨o', f1, f2, f3⟩ := sr.cel n _ hz
              cases f2 with
              | lst rs' =>
                rw [ex.t n hn] at f1
                exact ⟨_, SqL.of f1, rs'⟩
            · cases ez
      · exact False.elim p
    · exact False.elim p
/-! ### comprehensions -/
/-- no exception is wanted -/
abbrev W00 : WX := fun _ _ _ _ => False
theorem Gd.blk (g : Gd T N X k call) {s : Shared} {H : Hp} {scope : Scope} {cenv : PySem.Env} {fp : List Addr} : Gd T N (X.blk s H scope cenv fp) k call := ⟨g.calm, g.nd, g.room, g.sta, g.cal⟩
theorem takes_blk {s : Shared} {H : Hp} {scope : Scope} {cenv : PySem.Env} {fp : List Addr} : Takes (X.blk s H scope cenv fp) W00 := fun u s' ⟨a, B, sI, pins, σ, H, cls, d, e, I, nb, up, sky, na, os, ag, w⟩ => w
theorem lc_in {f : Env → Store → R Src} {tgs : List Nat} {tup mu : Bool} {σ : St} {H : Hp} {Q : VK}
    (h : tV N X.K W (fun r m => (f r m).bind fun s m1 => (match s with
    | .fix xs => if Nat.blt xs.length sz then (lcL tgs tup fc fa (wipeE r tgs) xs m1).bind fun ys m2 => mkLst mu ys m2 else .bad
    | .live _ => .bad)) σ H Q) :
    tLc (tI N X.K W f) (gTg N X.K tgs tup) (GL.tB N X.K W00 (tst fc)) (tV N X.K W00 fa) tgs σ H Q := by
  refine tG.fst (rg := GoesI N X.K) (k := fun r s m1 => (match s with
    | .fix xs => if Nat.blt xs.length sz then (lcL tgs tup fc fa (wipeE r tgs) xs m1).bind fun ys m2 => mkLst mu ys m2 else .bad
    | .live _ => .bad)) h fun r src J F0 t0 m0 H1 rl0 sr0 gs p => ?_
  intro D hD
  split at p
  · rename_i xs
    split at p
    · rename_i hsz
      have hsz : xs.length < sizeLine := by
        have := Nat.ble_eq.mp hsz
        rw [sizeLine_eq]
        unfold sz at this
        omega
      let Wl : Nat → Nat → Hp → Prop := fun i n H => n = xs.length - i ∧ i ≤ xs.length ∧ ∃ F t m acc vs, Stp N X.K F0 t0 m0 H1 F t m H ∧ H D = some (.lst vs) ∧ F D = none ∧ (∀ n c, cell m n = some c → t n ≠ D) ∧ RAs N X.K F t m.length vs acc ∧ vs.length ≤ i ∧
        PstA N X.K (wAt W σ) Q F0 t0 m0 H1 ((lcL tgs tup fc fa (wipeE r tgs) (xs.drop i) m).bind fun ys m2 => mkLst mu (acc ++ ys) m2)
      refine ⟨Wl, ⟨_, rfl, Nat.zero_le _, F0, t0, m0, [], [], (Stp.refl sr0).own hD (sr0.fnone hD) (fun n c hc => sr0.tne hD hc), upd_same, sr0.fnone hD, fun n c hc => sr0.tne hD hc, .nil, Nat.le_refl _, by simpa using p⟩, ?_⟩
      rintro i n H2 ⟨rfl, hi, F, t, m, acc, vs, st, hHD, hFD, hT, rs, hv, p⟩
      by_cases hlt : i < xs.length
      · refine .inr ?_
        have hx : xs[i]? = some xs[i] := List.getElem?_eq_getElem hlt
        obtain ⟨go, yl⟩ := (gs F t m H2 st.ext st.sr xs rfl i).1 _ hx
        refine ⟨go, Wl (i + 1) (xs.length - (i + 1)), fun H' w => ⟨_, by omega, w⟩, fun x H' y => ?_⟩
        obtain ⟨rfl, rx⟩ := yl x H' y
        rw [List.drop_eq_getElem_cons hlt] at p
        simp only [lcL] at p
        cases es : setT tgs tup xs[i] m (wipeE r tgs) with
        | none => rw [es] at p; exact False.elim p
        | some r1 =>
          rw [es] at p
          dsimp only at p
          have rlw := (rl0.mono N X.K st.ext).wipe (vs := tgs)
          refine ⟨wipeE r tgs, F, t, m, xs[i], r1, rlw, st.sr, rx, es, fun σ1 rl1 hw => ⟨by rw [hw]; exact wipe_sub fun i hi => hi, r1, F, t, m, rl1, st.sr, ?_⟩⟩
          unfold tst
          cases ec : fc r1 m with
          | bad => rw [ec] at p; exact False.elim p
          | ex C fs m1 => rw [ec] at p; exact False.elim p
          | ok cv m1 =>
            rw [ec] at p
            simp only [nox, R.bind_ok] at p ⊢
            cases et : tru m1 cv with
            | none => rw [et] at p; exact False.elim p
            | some bb =>
              rw [et] at p
              dsimp only at p ⊢
              intro b F1 t1 H3 st1 eb
              have eb : b = bb := eb
              subst eb
              have stA := st.trans st1
              obtain ⟨aD, aF, aT⟩ := st1.apart hHD hFD hT
              have rs1 := rs.mono N X.K st1.ext
              cases b with
              | false => exact ite_ff ⟨rfl, hlt, F1, t1, m1, acc, vs, stA, aD, aF, aT, rs1, Nat.le_succ_of_le hv, p⟩
              | true =>
                refine ite_tt ⟨r1, F1, t1, m1, rl1.mono N X.K st1.ext, st1.sr, ?_⟩
                cases ee : fa r1 m1 with
                | bad => rw [ee] at p; exact False.elim p
                | ex C fs m1 => rw [ee] at p; exact False.elim p
                | ok y m2 =>
                  rw [ee] at p
                  simp only [nox, R.bind_ok] at p
                  intro yv F2 t2 H4 st2 ry
                  obtain ⟨bD, bF, bT⟩ := st2.apart aD aF aT
                  refine ⟨vs, bD, by omega, rfl, hlt, F2, t2, m2, acc ++ [y], vs ++ [yv], (stA.trans st2).own hD bF bT, upd_same, bF, bT, (rs1.mono N X.K st2.ext).app N X.K (.cons ry .nil), by simp; omega, ?_⟩
                  have e : ∀ q : R (List A), ((q.bind fun xs m3 => .ok (y :: xs) m3).bind fun ys m2 => mkLst mu (acc ++ ys) m2) = q.bind fun ys m2 => mkLst mu (acc ++ [y] ++ ys) m2 := fun q => by
                    cases q <;> simp [R.bind]
                  rw [e] at p
                  exact p
      · have e : i = xs.length := by omega
        subst e
        refine .inl ⟨(gs F t m H2 st.ext st.sr xs rfl _).2 (List.getElem?_eq_none (Nat.le_refl _)), ?_⟩
        rw [List.drop_length] at p
        simp only [lcL, R.bind_ok, List.append_nil] at p
        cases mu with
        | true =>
          refine p (.ref D) _ _ _ (st.join (c := .lst acc) hD hHD hFD hT (.lst rs)) ?_
          have e : V.ref D = .ref (tput t m.length D m.length) := by rw [tput_same]
          rw [e]
          exact .h (by simp)
        | false =>
          unfold mkLst at p
          dsimp only at p
          cases ez : allZ acc with
          | none => rw [ez] at p; exact False.elim p
          | some ds =>
            rw [ez] at p
            have st3 := st.ice hD hHD hFD hT
            exact p (.ref D) _ _ _ st3 (.z (.lst upd_same ((RAs.toZ N X.K rs ez).mono N X.K (Ext.upd (t := t) (L := m.length) hFD).sub)))
    · exact False.elim p
  · exact False.elim p
theorem pts_noc : PTs X [] (GL.tB N X.K W (tst fun _ m => okZ (.bl true) m)) := ⟨fun pins s σ H Q I ⟨r, F, t, m, h1, h2, p⟩ => pts_nil.run pins s σ H Q I (p true F t H (Stp.refl h2) rfl)⟩
end
/-! ### freezing -/
section
variable {N : Nms} {K : PySem.W.Frag}
theorem mapR_fr {k : Nat} {H : Hp} {t : Nat → Addr} (ih : ∀ {F : Hp} {m m' : Store} {v : V} {a : A} {d : D}, SR N K F t m H → RA N K F t m.length v a → frA k a m = .ok d m' → ∃ F', Stp N K F t m H F' t m' H ∧ RV N K F' v d) :
    ∀ {as : List A} {vs : List V} {F : Hp} {m m' : Store} {ds : List D}, SR N K F t m H → RAs N K F t m.length vs as → mapR (frA k) as m = .ok ds m' → ∃ F', Stp N K F t m H F' t m' H ∧ RVs N K F' vs ds
  | [], _, F, m, m', ds, sr, .nil, e => by
    simp only [mapR, R.ok.injEq] at e
    obtain ⟨rfl, rfl⟩ := e
    exact ⟨F, Stp.refl sr, .nil⟩
  | a :: as, _, F, m, m', ds, sr, .cons ra rs, e => by
    simp only [mapR] at e
    cases e1 : frA k a m with
    | bad => rw [e1] at e; cases e
    | ex C fs m1 => rw [e1] at e; cases e
    | ok d m1 =>
      rw [e1, R.bind_ok] at e
      obtain ⟨F1, st1, rv⟩ := ih sr ra e1
      cases e2 : mapR (frA k) as m1 with
      | bad => rw [e2] at e; cases e
      | ex C fs m1 => rw [e2] at e; cases e
      | ok ds' m2 =>
        rw [e2, R.bind_ok] at e
        simp only [R.ok.injEq] at e
        obtain ⟨rfl, rfl⟩ := e
        obtain ⟨F2, st2, rvs⟩ := mapR_fr ih st1.sr (rs.mono N K st1.ext) e2
        exact ⟨F2, st1.trans st2, .cons (rv.mono N K st2.ext.sub) rvs⟩
theorem RAf.snd {F : Hp} {t : Nat → Addr} {l : Nat} : ∀ {vs : List (Str × V)} {as : List (Nat × A)}, RAf N K F t l vs as → RAs N K F t l (vs.map (·.2)) (as.map (·.2))
  | _, _, .nil => .nil
  | _, _, .cons _ h r => .cons h (RAf.snd r)
theorem RAf.ice {F F' : Hp} {t : Nat → Addr} {l : Nat} : ∀ {vs : List (Str × V)} {as : List (Nat × A)} {ds : List D}, RAf N K F t l vs as → RVs N K F' (vs.map (·.2)) ds → RFs N K F' vs ((as.map (·.1)).zip ds)
  | _, _, _, .nil, .nil => .nil
  | _, _, _, .cons h _ r, .cons q s => .cons h q (RAf.ice r s)
theorem RAk.snd {F : Hp} {t : Nat → Addr} {l : Nat} : ∀ {vs : List (Key × V)} {as : List (D × A)}, RAk N K F t l vs as → RAs N K F t l (vs.map (·.2)) (as.map (·.2))
  | _, _, .nil => .nil
  | _, _, .cons _ h r => .cons h (RAk.snd r)
theorem RAk.ice {F F' : Hp} {t : Nat → Addr} {l : Nat} : ∀ {vs : List (Key × V)} {as : List (D × A)} {ds : List D}, RAk N K F t l vs as → RVs N K F' (vs.map (·.2)) ds → RKs N K F' vs ((as.map (·.1)).zip ds)
  | _, _, _, .nil, .nil => .nil
  | _, _, _, .cons h _ r, .cons q s => .cons h q (RAk.ice r s)
theorem RAt.snd {F : Hp} {t : Nat → Addr} {l : Nat} : ∀ {vs : List (List Key × V)} {as : List (D × A)}, RAt N K F t l vs as → RAs N K F t l (vs.map (·.2)) (as.map (·.2))
  | _, _, .nil => .nil
  | _, _, .cons _ h r => .cons h (RAt.snd r)
theorem RAt.ice {F F' : Hp} {t : Nat → Addr} {l : Nat} : ∀ {vs : List (List Key × V)} {as : List (D × A)} {ds : List D}, RAt N K F t l vs as → RVs N K F' (vs.map (·.2)) ds → RTs N K F' vs ((as.map (·.1)).zip ds)
  | _, _, _, .nil, .nil => .nil
  | _, _, _, .cons h _ r, .cons q s => .cons h q (RAt.ice r s)
theorem endC_ok {n : Nat} {m m' : Store} {d e : D} (h : endC n m d = .ok e m') : e = d ∧ m' = m.set n none ∧ ∃ c, cell m n = some c := by
  unfold endC at h
  split at h
  · rename_i c hc
    simp only [R.ok.injEq] at h
    exact ⟨h.1.symm, h.2.symm, c, hc⟩
  · cases h
theorem fr_ok {H : Hp} {t : Nat → Addr} : ∀ (k : Nat) {F : Hp} {m m' : Store} {v : V} {a : A} {d : D}, SR N K F t m H → RA N K F t m.length v a → frA k a m = .ok d m' → ∃ F', Stp N K F t m H F' t m' H ∧ RV N K F' v d
  | k, F, m, m', v, .z d, d', sr, ra, e => by
    have e : R.ok d m = .ok d' m' := by cases k <;> exact e
    simp only [R.ok.injEq] at e
    obtain ⟨rfl, rfl⟩ := e
    cases ra with
    | z ra => exact ⟨F, Stp.refl sr, ra⟩
  | 0, F, m, m', v, .h n, d', sr, ra, e => by cases e
  | k + 1, F, m, m', v, .h n, d', sr, ra, e => by
    cases ra with
    | h hn =>
      have fin : ∀ {o : HO} {as : List A} {vs : List V} {g : List D → D} (ho : H (t n) = some o) (rs : RAs N K F t m.length vs as), ((mapR (frA k) as m).bind fun ds m' => endC n m' (g ds)) = .ok d' m' →
          ∃ F1 ds, d' = g ds ∧ RVs N K F1 vs ds ∧ Stp N K F t m H F1 t m' H ∧ F1 (t n) = some o := fun {o as vs g} ho rs e => by
        cases e1 : mapR (frA k) as m with
        | bad => rw [e1] at e; cases e
        | ex C fs m1 => rw [e1] at e; cases e
        | ok ds m1 =>
          rw [e1, R.bind_ok] at e
          obtain ⟨F1, st, rv⟩ := mapR_fr (fun sr ra e => fr_ok k sr ra e) sr rs e1
          obtain ⟨rfl, rfl, c, hc⟩ := endC_ok e
          have st2 := st.trans (Stp.frzc st.sr hc ho)
          have hf : F1 (t n) = none := by
            obtain ⟨_, _, _, z⟩ := st.sr.cel n c hc
            exact z
          exact ⟨_, ds, rfl, rv.mono N K (Ext.upd (t := t) (L := m1.length) hf).sub, st2, upd_same⟩
      simp only [frA] at e
      split at e
      · rename_i xs hc
        obtain ⟨o, e1, e2, e3⟩ := sr.cel n _ hc
        cases e2 with
        | lst rs =>
          obtain ⟨F1, ds, rfl, rv, st, hF⟩ := fin e1 rs e
          exact ⟨F1, st, .lst hF rv⟩
      · rename_i xs hc
        obtain ⟨o, e1, e2, e3⟩ := sr.cel n _ hc
        cases e2 with
        | tup rs =>
          obtain ⟨F1, ds, rfl, rv, st, hF⟩ := fin e1 rs e
          exact ⟨F1, st, .tup (SqT.of hF) rv⟩
      · rename_i xs hc
        obtain ⟨o, e1, e2, e3⟩ := sr.cel n _ hc
        cases e2 with
        | dK rs =>
          obtain ⟨F1, ds, rfl, rv, st, hF⟩ := fin e1 rs.snd e
          exact ⟨F1, st, .dK hF (rs.ice rv)⟩
        | dT rs =>
          obtain ⟨F1, ds, rfl, rv, st, hF⟩ := fin e1 rs.snd e
          exact ⟨F1, st, .dT hF (rs.ice rv)⟩
      · rename_i C xs hc
        obtain ⟨o, e1, e2, e3⟩ := sr.cel n _ hc
        cases e2 with
        | ins rs =>
          obtain ⟨F1, ds, rfl, rv, st, hF⟩ := fin e1 rs.snd e
          exact ⟨F1, st, .ins hF (rs.ice rv)⟩
      · cases e
theorem mapR_nex {α β : Type} {f : α → Store → R β} (h : ∀ a m C fs m', f a m ≠ .ex C fs m') : ∀ (as : List α) (m : Store) (C : Nat) (fs : List (Nat × D)) (m' : Store), mapR f as m ≠ .ex C fs m'
  | [], _, _, _, _, e => by cases e
  | a :: as, m, C, fs, m', e => by
    simp only [mapR] at e
    cases e1 : f a m with
    | bad => rw [e1] at e; cases e
    | ex C fs m1 => exact h _ _ _ _ _ e1
    | ok b m1 =>
      rw [e1, R.bind_ok] at e
      cases e2 : mapR f as m1 with
      | bad => rw [e2] at e; cases e
      | ex C fs m1 => exact mapR_nex h _ _ _ _ _ e2
      | ok b m1 => rw [e2] at e; cases e
theorem fr_nex : ∀ (k : Nat) (a : A) (m : Store) (C : Nat) (fs : List (Nat × D)) (m' : Store), frA k a m ≠ .ex C fs m'
  | k, .z d, m, C, fs, m', e => by cases k <;> cases e
  | 0, .h n, m, C, fs, m', e => by cases e
  | k + 1, .h n, m, C, fs, m', e => by
    have key : ∀ (as : List A) (g : List D → D), ((mapR (frA k) as m).bind fun ds m' => endC n m' (g ds)) ≠ .ex C fs m' := fun as g e => by
      cases e1 : mapR (frA k) as m with
      | bad => rw [e1] at e; cases e
      | ex C fs m1 => exact mapR_nex (fun a m C fs m' => fr_nex k a m C fs m') _ _ _ _ _ e1
      | ok b m1 =>
        rw [e1, R.bind_ok] at e
        unfold endC at e
        split at e <;> cases e
    simp only [frA] at e
    split at e <;> first | exact key _ _ e | cases e
end
section
variable {T : Tab} {N : Nms} {X : Cx} {k : Nat} {W : WX} {a : Expr} {fa : Env → Store → R A}
theorem ev_frz (ha : EV N X W a fa) : EV N X W a fun r m => (fa r m).bind fun x m1 => (frA 6 x m1).bind fun d m2 => okZ d m2 :=
  PE.imp ha fun σ H Q h => tG.one (rg := RA N X.K) (g := fun x m1 => (frA 6 x m1).bind fun d m2 => okZ d m2) h fun x v F t m H1 sr rx p => by
    cases e : frA 6 x m with
    | bad => rw [e] at p; exact False.elim p
    | ex C fs m1 => exact absurd e (fr_nex _ _ _ _ _ _)
    | ok d m1 =>
      rw [e, R.bind_ok] at p
      obtain ⟨F', st, rv⟩ := fr_ok 6 sr rx e
      exact p v F' t H1 st (.z rv)
end
end GL

/-! G14: a set of texts, its size. -/
namespace GL
open PySem L2
/-- what differs, as it is met -/
def hasK {κ : Type} [DecidableEq κ] (l : List κ) (k : κ) : Bool := l.any fun y => decide (y = k)
def metK {κ : Type} [DecidableEq κ] : List κ → List κ → List κ
  | acc, [] => acc
  | acc, x :: r => metK (if hasK acc x then acc else acc ++ [x]) r
section
variable {P : Program} {w : World} {κ : Type} [DecidableEq κ] {kd : PySem.KeyKind P w κ} {A : Around} {E : Value → Shared → Prop} {s : Shared}
/-- values that carry keys -/
def KeysAt (kd : PySem.KeyKind P w κ) (its : List Value) (ks : List κ) : Prop := its.length = ks.length ∧ ∀ (i : Nat) (v : Value) (k : κ), its[i]? = some v → ks[i]? = some k → kd.is k v = true ∧ v.scannable = true
theorem SetOf_eq {h : Heap} {a : Addr} {S S' : κ → Bool} {n n' : Nat} (hS : h.SetOf kd a S n) (e : ∀ k, S k = S' k) (en : n = n') : h.SetOf kd a S' n' := by
  cases funext e
  cases en
  exact hS
/-- a set takes what an iterator gives -/
theorem set_takes {I S : Addr} {fp wr : List Addr} {G : Array GenState → Array GenState → Prop} {n : Nat} {st : Nat → Shared → Prop} {its : List Value} {ks : List κ} {R : Result → Shared → Prop}
    (W : WalksS P w A.in1 I fp wr G n (fun i v => its[i]? = some v) st) (hS : S ∉ fp) (hk : KeysAt kd its ks) (hn : n = ks.length) (room : n + 1 < scanBound) :
    ∀ (j i : Nat) (acc : List κ) (s : Shared), n - i = j → i ≤ n → acc.length ≤ i → st i s → s.heap.SetOf kd S (hasK acc) acc.length →
      (∀ s', Moved (S :: wr) G s s' → s'.heap.SetOf kd S (hasK (metK acc (ks.drop i))) (metK acc (ks.drop i)).length → R (.ok (.ret .none)) s') →
      codeAny (model P w) A (.builtin "set.update.loop" ⟨[.ref S, .ref I], []⟩) R s := by
  have hSw : S ∉ wr := fun h => hS (W.sub _ h)
  have hsub : ∀ b ∈ wr, b ∈ S :: wr := fun b hb => List.mem_cons_of_mem _ hb
  intro j
  induction j with
  | zero =>
    intro i acc s hj hi ha hst hA hR
    have e : i = n := by omega
    subst e
    refine codeAny_builtin PyProof.Rows.F.entry_set_update_loop ?_
    rw [Around.under_plainId PyProof.Rows.F.plain_set_update_loop _]
    show wpAny _ A.in1 (pyNext (.ref I) >>= _) _ _ s
    refine wpAny_bind (W.done s _ _ hst fun s' hm => ?_)
    show wpAny _ A.in1 (ret Value.none) _ _ s'
    refine wpAny_pure (hR s' (hm.mono hsub) ?_)
    rw [hn, List.drop_length]
    obtain ⟨o, es, ep, t, ho, rest⟩ := hA
    exact ⟨o, es, ep, t, hm.heap S _ hSw ho, rest⟩
  | succ j ih =>
    intro i acc s hj hi ha hst hA hR
    have hlt : i < n := by omega
    have hx : ks[i]? = some (ks[i]'(by omega)) := List.getElem?_eq_getElem (by omega)
    generalize (ks[i]'(by omega)) = key at hx
    have hd : ks.drop i = key :: ks.drop (i + 1) := by
      rw [List.drop_eq_getElem_cons (by omega)]
      rw [List.getElem?_eq_getElem (by omega)] at hx
      cases hx
      rfl
    refine codeAny_builtin PyProof.Rows.F.entry_set_update_loop ?_
    rw [Around.under_plainId PyProof.Rows.F.plain_set_update_loop _]
    show wpAny _ A.in1 (pyNext (.ref I) >>= _) _ _ s
    refine wpAny_bind (W.item i s _ _ hlt hst fun v s' hv hst' hm => ?_)
    obtain ⟨k1, k2⟩ := hk.2 i v key hv hx
    have hA' : s'.heap.SetOf kd S (hasK acc) acc.length := by
      obtain ⟨o, es, ep, t, ho, rest⟩ := hA
      exact ⟨o, es, ep, t, hm.heap S _ hSw ho, rest⟩
    show wpAny _ A.in1 (holding [v] (setAdd S v) >>= _) _ _ s'
    refine wpAny_bind (wpAny_holding ?_)
    unfold setAdd
    refine wpAny_holding (wpAny_bind (kd.pyHash (k := key) k1 ?_))
    refine wpAny_setAddHashed_of (knd := kd) (s := { s' with toks := s'.toks + 1 }) k1 k2 hA' (by omega) fun h' hsb hA2 => ?_
    have hA3 : h'.SetOf kd S (hasK (if hasK acc key then acc else acc ++ [key])) (if hasK acc key then acc else acc ++ [key]).length := by
      refine SetOf_eq hA2 (fun k => ?_) ?_
      · by_cases hm : hasK acc key = true
        · rw [if_pos hm]
          by_cases e : k = key
          · subst e; rw [hm]; rfl
          · simp [e]
        · rw [if_neg hm]
          unfold hasK
          rw [List.any_append]
          by_cases e : k = key
          · subst e; simp
          · have e' : ¬ key = k := fun z => e z.symm
            simp [e, e']
      · by_cases hm : hasK acc key = true
        · rw [if_pos hm, if_pos hm]
        · rw [if_neg hm, if_neg hm]; simp
    rw [hd] at hR
    refine wpAny_pure ⟨plainId_quiet PyProof.Rows.F.plain_set_update_loop _, ih (i + 1) _ _ (by omega) hlt ?_ (W.frame _ s' _ _ hst' (Nat.le_succ _) fun b hb o e => ?_) hA3 fun s'' hm'' hS'' => ?_⟩
    · by_cases hm : hasK acc key = true
      · rw [if_pos hm]; omega
      · rw [if_neg hm, List.length_append]; simpa using ha
    · rw [hsb.2 b (fun h : b = S => hS (by rw [← h]; exact hb))]; exact e
    · refine hR s'' (Moved.trans W.gtrans ((hm.mono hsub).then_heap (Nat.le_succ _) fun b o hb e => ?_) hm'') hS''
      rw [hsb.2 b (fun h : b = S => hb (by rw [h]; exact List.mem_cons_self))]; exact e
set_option maxHeartbeats 6400000 in
/-- set(l), l a list of values that carry keys -/
theorem set_of_list {l : Addr} {items : Array Value} {ks : List κ} {Q : Value → Shared → Prop} (hh : A.handled = none) (hl : s.heap.IsList l items) (hk : KeysAt kd items.toList ks) (room : items.size + 1 < scanBound)
    (h : ∀ (h' : Heap) (tk : Nat), h'.SetOf kd s.heap.objs.size (hasK (metK [] ks)) (metK [] ks).length → (∀ b o, b < s.heap.objs.size → s.heap.get? b = some o → h'.get? b = some o) → Q (.ref s.heap.objs.size) { s with heap := h', toks := tk }) :
    wpAny (model P w) A (PySem.call (.type "set") [.ref l]) Q E s := by
  obtain ⟨c, tl, hmro⟩ := PySem.F.called_set.mro
  have hmade := PySem.F.called_set.made
  have hsub := PySem.F.called_set.sub
  refine wpAny_call (codeAny_of_tree ?_)
  show wpAny _ _ (callAny (.type "set") _) _ _ _
  refine wpAny_pure ⟨Code.quiet_builtin _ (by decide +kernel), codeAny_builtin PySem.F.entry_type_call ?_⟩
  rw [Around.under_plain (weight_type_call_type "set" [.ref l] []) rfl]
  have h1 := PySem.F.called_set.notType
  have h2 := PySem.F.called_set.canCreate
  have hct := PySem.F.typeCall_set_1 (.ref l)
  repeat (any_goals (first | assumption | wp_step))
  refine codeAny_mono (code_set_new_1 (.ref l) (E := E) (Q₁ := fun obj s₁ => ∃ led : Bool, obj = .ref s.heap.objs.size ∧ s₁ = { s with heap := s.heap.push { cls := .type "set", dict := none, data := .set #[] 0 (.fresh 0 0 led) } }) fun led => ⟨led, rfl, rfl⟩) fun r s₁ hr => ?_
  cases r with
  | error e => exact hr
  | ok fl =>
    cases fl with
    | ret obj =>
      obtain ⟨led, rfl, rfl⟩ := hr
      have hS : (s.heap.push ({ cls := .type "set", dict := none, data := .set #[] 0 (.fresh 0 0 led) } : Obj)).get? s.heap.objs.size = some ({ cls := .type "set", dict := none, data := .set #[] 0 (.fresh 0 0 led) } : Obj) := Heap.get?_push_size _ rfl
      have hT : Shared.TypeIs { s with heap := s.heap.push ({ cls := .type "set", dict := none, data := .set #[] 0 (.fresh 0 0 led) } : Obj) } (.ref s.heap.objs.size) "set" := ⟨_, hS, rfl⟩
      have hli := PySem.F.called_set.init.lookup
      have hbi := PySem.F.called_set.init.bind (.ref s.heap.objs.size)
      repeat (any_goals (first | assumption | wp_step))
      refine codeAny_mono (codeAny_call_builtin (R := wants (fun r s₂ => r = .none ∧ ∃ h' tk, s₂ = { s with heap := h', toks := tk } ∧
          h'.SetOf kd s.heap.objs.size (hasK (metK [] ks)) (metK [] ks).length ∧
          (∀ b o, b < s.heap.objs.size → s.heap.get? b = some o → h'.get? b = some o)) E) PySem.F.called_set.init.plain PySem.F.entry_set_init (check_set_init_1 hT ?_)) fun r₂ s₂ hr₂ => ?_
      · obtain ⟨ol, hol, hcl, nl, hdl⟩ := hl
        obtain ⟨ocls, odict, odata, oslots⟩ := ol
        simp only at hcl hdl
        subst hcl; subst hdl
        have hol' : (s.heap.push ({ cls := .type "set", dict := none, data := .set #[] 0 (.fresh 0 0 led) } : Obj)).get? l = some { cls := .type "list", dict := odict, data := .seq items nl, slots := oslots } := Heap.get?_push_of_some _ hol
        have hsls := PySem.F.sub_list_set
        have hslf := PySem.F.sub_list_frozenset
        have hne : (Value.type "list" == Value.type "dict") = false := by decide
        have hl1 : (s.heap.push ({ cls := .type "set", dict := none, data := .set #[] 0 (.fresh 0 0 led) } : Obj)).IsList l items := ⟨_, hol', rfl, nl, rfl⟩
        unfold Builtin.«set.__init__» noKeywords Builtin.Frozenset.updateFrom
        generalize hPI : pyIter = PI
        wp_walk
        subst hPI
        refine wpAny_pyIter_list hl1 ?_
        refine wpAny_bind (wpAny_runValue ?_)
        have hlS : l < s.heap.objs.size := Heap.lt_size hol
        have hh3 : A.in1.in1.in1.handled = none := by simp [hh]
        have hneI : l ≠ (s.heap.push ({ cls := .type "set", dict := none, data := .set #[] 0 (.fresh 0 0 led) } : Obj)).objs.size := by
          rw [Heap.size_push]; exact Nat.ne_of_lt (Nat.lt_succ_of_lt hlS)
        have hSf : s.heap.objs.size ∉ [(s.heap.push ({ cls := .type "set", dict := none, data := .set #[] 0 (.fresh 0 0 led) } : Obj)).objs.size, l] := by
          rw [Heap.size_push]; simp only [List.mem_cons, List.mem_singleton, List.not_mem_nil, or_false, not_or]
          exact ⟨Nat.ne_of_lt (Nat.lt_succ_self _), Nat.ne_of_gt hlS⟩
        have hsz : items.size = ks.length := by
          have := hk.1
          simpa using this
        have WL := (Walks.list (prog := P) (w := w) hh3 _ l hneI items).toS
        simp only [← Array.getElem?_toList] at WL
        refine set_takes (kd := kd) WL hSf hk hsz room (items.size - 0) 0 [] _ (by omega) (Nat.zero_le _) (Nat.le_refl _) ⟨⟨_, Heap.get?_push_size _ rfl, rfl, rfl⟩, (hl1.push _)⟩ ?_ ?_
        · have hget := Heap.get?_push_of_some { cls := .type "list_iterator", data := .fields #[.ref l, .int 0 0] } hS
          refine SetOf_eq (Obj.SetObjOf.setOf (PyProof.Rows.setObjOf_fresh (knd := kd) led) hget (by unfold scanBound; omega)) (fun k => rfl) rfl
        · intro s' hm hS'
          obtain ⟨h', g', d', tk', os'⟩ := s'
          have eg : g' = s.gens := hm.gens
          have ed : d' = s.drawn := hm.drawn
          have eo : os' = s.os := hm.os
          subst eg; subst ed; subst eo
          show wpAny _ _ _ _ _ _
          refine wpAny_pure ?_
          show wpAny _ _ (ret Value.none) _ _ _
          refine wpAny_pure ⟨rfl, h', tk', rfl, hS', fun b o hb e => ?_⟩
          have hb1 : b ≠ s.heap.objs.size := Nat.ne_of_lt hb
          have hb2 : b ≠ (s.heap.push ({ cls := .type "set", dict := none, data := .set #[] 0 (.fresh 0 0 led) } : Obj)).objs.size := by
            rw [Heap.size_push]; exact Nat.ne_of_lt (Nat.lt_succ_of_lt hb)
          exact hm.heap b o (by simp only [List.mem_cons, List.mem_singleton, List.not_mem_nil, or_false, not_or]; exact ⟨hb1, hb2⟩) (Heap.get?_push_of_some _ (Heap.get?_push_of_some _ e))
      · cases r₂ with
        | error e => exact hr₂
        | ok fl₂ =>
          cases fl₂ with
          | ret r =>
            obtain ⟨rfl, h', tk, rfl, hS', hk'⟩ := hr₂
            repeat (any_goals (first | assumption | wp_step))
            exact h _ _ hS' hk'
          | next => exact False.elim hr₂
          | brk => exact False.elim hr₂
          | cont => exact False.elim hr₂
    | next => exact False.elim hr
    | brk => exact False.elim hr
    | cont => exact False.elim hr
end
/-! ### len(set(l)), l a list of texts -/
section
variable {N : Nms} {X : Cx}
theorem metK_len : ∀ (xs : List (List Nat)) (acc : List (List Nat)), (metK (acc.map fun x => (.inr (tx x) : Key)) (xs.map fun x => (.inr (tx x) : Key))).length = (metT acc xs).length
  | [], acc => by simp [metK, metT]
  | x :: r, acc => by
    have hm : hasK (acc.map fun x => (.inr (tx x) : Key)) (.inr (tx x)) = acc.contains x := by
      unfold hasK
      rw [List.any_map, List.contains_eq_any_beq]
      congr 1
      funext y
      show decide ((.inr (tx y) : Key) = .inr (tx x)) = (x == y)
      by_cases e : y = x
      · subst e; simp
      · have e1 : ¬ (.inr (tx y) : Key) = .inr (tx x) := fun z => e (tx_inj (Sum.inr.inj z))
        have e2 : (x == y) = false := beq_eq_false_iff_ne.mpr fun z => e z.symm
        rw [e2]
        exact decide_eq_false e1
    show (metK (if hasK _ _ = true then _ else _) _).length = (metT (if _ then _ else _) _).length
    rw [hm]
    by_cases h : acc.contains x = true
    · rw [if_pos h, if_pos h]
      exact metK_len r acc
    · rw [if_neg h, if_neg h]
      have := metK_len r (acc ++ [x])
      rw [List.map_append] at this
      exact this
theorem keys_at {P : Program} {w : World} : ∀ {xs : List (List Nat)} {us : List Value}, Vals ((xs.map tx).map V.str) us → KeysAt (mixKind P w) us (xs.map fun x => (.inr (tx x) : Key))
  | [], _, r => by
    cases r
    exact ⟨rfl, fun i v k h => by simp at h⟩
  | x :: xs, _, r => by
    cases r with
    | cons r1 r2 =>
      obtain ⟨e, h⟩ := keys_at (P := P) (w := w) r2
      refine ⟨by simp [e], fun i v k h1 h2 => ?_⟩
      cases i with
      | zero =>
        simp at h1 h2
        subst h1; subst h2
        exact ⟨kV_is (k := .inr (tx x)) r1, key_scan (k := .inr (tx x)) r1⟩
      | succ i =>
        simp only [List.getElem?_cons_succ, List.map_cons] at h1 h2
        exact h i v k h1 h2
/-- set(l) -/
def rSetT (N : Nms) (P : Program) (w : World) (K : PySem.W.Frag) : List V → Hp → VK → Prop := fun vs H Q => ∃ (a : Addr) (xs : List (List Nat)), vs = [.ref a] ∧ SqL K H a ((xs.map tx).map V.str) ∧ xs.length < 4000 ∧
  ∀ p, H p = none → Q (.ref p) (upd H p (SetK P w p (hasK (metK [] (xs.map fun x => (.inr (tx x) : Key)))) (metT [] xs).length))
theorem cr_setT (hc : X.calm = true) : CallR X (.type "set") (rSetT N X.prog X.w X.K) := by
  intro pins s σ H vs us Q I r ⟨a, xs, e, hl, hz, q⟩
  subst e
  cases r with
  | cons r rr =>
    cases rr
    cases r
    obtain ⟨its, rv, p, hz2⟩ := I.list hl
    refine set_of_list (kd := mixKind X.prog X.w) (I.ok.hd hc) p.isList (by simpa using keys_at (P := X.prog) (w := X.w) rv) (by
      have := rv.length
      simp at this ⊢
      unfold scanBound
      omega) fun h' tk hS hk => ?_
    have el : (metK [] (xs.map fun x => (.inr (tx x) : Key))).length = (metT [] xs).length := metK_len xs []
    rw [el] at hS
    exact ⟨.ref _, _, I.laid (t' := tk) (fun b o e => hk b o (Heap.lt_size e) e) (Nat.le_refl _) (setK_new hS), rfl, q _ (I.hok.fresh (Nat.le_refl _))⟩
/-- len of such a set -/
def rLenS (P : Program) (w : World) : List V → Hp → VK → Prop := fun vs H Q => ∃ (a : Addr) (S : Key → Bool) (n : Nat), vs = [.ref a] ∧ H a = some (SetK P w a S n) ∧ n < 4096 ∧ Q (.int n) H
theorem cr_lenS : CallR X (.builtin "len") (rLenS X.prog X.w) := by
  intro pins s σ H vs us Q I r ⟨a, S, n, e, ha, hn, q⟩
  subst e
  cases r with
  | cons r rr =>
    cases rr
    cases r
    obtain ⟨o, es, ep, t, ho, hex, hd, hel, hmem, hb, hf, hz⟩ := setK_get I ha
    refine call_len_set ho hex hd hf (by rw [hz]; omega) ⟨.int n, H, I.tok _, ⟨_, by rw [hz]⟩, q⟩
end
end GL

/-! G15: an expression says what the code that matches it says. -/
namespace GL
open PySem L2
def okX : Expr → Bool
  | .Starred _ _ => false
  | .Set _ _ _ => false
  | .Slice _ _ _ _ => false
  | .SetComp _ _ _ _ => false
  | .DictComp _ _ _ _ _ => false
  | _ => true
section
variable {T : Tab} {N : Nms} {L : List Str}
theorem mE_okX {sc : Scope} {x : Expr} (h : okX x = false) : ∀ e : E, mE T N L sc e x = false
  | .frz a => by
    have := mE_okX (sc := sc) h a
    unfold mE
    cases x <;> first | (simp only [this, Bool.and_false]; done) | cases h
  | .var _ => by cases x <;> first | rfl | cases h
  | .cst _ => by cases x <;> first | rfl | cases h
  | .glo _ => by cases x <;> first | rfl | cases h
  | .bin _ _ _ => by cases x <;> first | rfl | cases h
  | .neg _ => by cases x <;> first | rfl | cases h
  | .not _ => by cases x <;> first | rfl | cases h
  | .cmp _ _ _ => by cases x <;> first | rfl | cases h
  | .cmp2 _ _ _ _ _ => by cases x <;> first | rfl | cases h
  | .and _ => by cases x <;> first | rfl | cases h
  | .or _ => by cases x <;> first | rfl | cases h
  | .ife _ _ _ => by cases x <;> first | rfl | cases h
  | .lst _ _ => by cases x <;> first | rfl | cases h
  | .tup _ => by cases x <;> first | rfl | cases h
  | .dct _ => by cases x <;> first | rfl | cases h
  | .idx _ _ => by cases x <;> first | rfl | cases h
  | .slc _ _ _ => by cases x <;> first | rfl | cases h
  | .att _ _ => by cases x <;> first | rfl | cases h
  | .fn1 _ _ _ => by cases x <;> first | rfl | cases h
  | .fn2 _ _ _ => by cases x <;> first | rfl | cases h
  | .call _ _ => by cases x <;> first | rfl | cases h
  | .make _ _ => by cases x <;> first | rfl | cases h
  | .meth _ _ _ => by cases x <;> first | rfl | cases h
  | .bm0 _ _ => by cases x <;> first | rfl | cases h
  | .bm1 _ _ _ => by cases x <;> first | rfl | cases h
  | .isi _ _ => by cases x <;> first | rfl | cases h
  | .lc _ _ _ _ _ _ => by cases x <;> first | rfl | cases h
theorem inv_var {sc : Scope} {x : Expr} {i} (h : mE T N L sc (.var i) x = true) : ∃ y p, x = .Name y p ∧ L[i]? = some y ∧ isLoc sc y = true ∧ okNm y = true := by
  unfold mE at h
  split at h <;> try (first | contradiction | cases h)
  rename_i heq
  cases heq
  try simp only [Bool.and_eq_true, decide_eq_true_eq] at h
  exact ⟨_, _, rfl, h⟩
theorem inv_cst {sc : Scope} {x : Expr} {d} (h : mE T N L sc (.cst d) x = true) : ∃ c j p, x = .Constant c j p ∧ mC d c = true := by
  unfold mE at h
  split at h <;> try (first | contradiction | cases h)
  rename_i heq
  cases heq
  try simp only [Bool.and_eq_true, decide_eq_true_eq] at h
  exact ⟨_, _, _, rfl, h⟩
theorem inv_bin {sc : Scope} {x : Expr} {op a b} (h : mE T N L sc (.bin op a b) x = true) : ∃ l o r p, x = .BinOp l o r p ∧ bop op = o ∧ mE T N L sc a l = true ∧ mE T N L sc b r = true := by
  unfold mE at h
  split at h <;> try (first | contradiction | cases h)
  rename_i heq
  cases heq
  try simp only [Bool.and_eq_true, decide_eq_true_eq] at h
  exact ⟨_, _, _, _, rfl, h⟩
theorem inv_neg {sc : Scope} {x : Expr} {a} (h : mE T N L sc (.neg a) x = true) : ∃ o e p, x = .UnaryOp o e p ∧ o = .USub ∧ mE T N L sc a e = true := by
  unfold mE at h
  split at h <;> try (first | contradiction | cases h)
  rename_i heq
  cases heq
  try simp only [Bool.and_eq_true, decide_eq_true_eq] at h
  exact ⟨_, _, _, rfl, h⟩
theorem inv_not {sc : Scope} {x : Expr} {a} (h : mE T N L sc (.not a) x = true) : ∃ o e p, x = .UnaryOp o e p ∧ o = .Not ∧ mE T N L sc a e = true := by
  unfold mE at h
  split at h <;> try (first | contradiction | cases h)
  rename_i heq
  cases heq
  try simp only [Bool.and_eq_true, decide_eq_true_eq] at h
  exact ⟨_, _, _, rfl, h⟩
theorem inv_cmp {sc : Scope} {x : Expr} {op a b} (h : mE T N L sc (.cmp op a b) x = true) : ∃ l o r p, x = .Compare l [o] [r] p ∧ cop op = o ∧ mE T N L sc a l = true ∧ mE T N L sc b r = true := by
  unfold mE at h
  split at h <;> try (first | contradiction | cases h)
  rename_i heq
  cases heq
  try simp only [Bool.and_eq_true, decide_eq_true_eq] at h
  exact ⟨_, _, _, _, rfl, h⟩
theorem inv_cmp2 {sc : Scope} {x : Expr} {o1 o2 a b c} (h : mE T N L sc (.cmp2 o1 o2 a b c) x = true) : ∃ l q1 q2 r s p, x = .Compare l [q1, q2] [r, s] p ∧ cop o1 = q1 ∧ cop o2 = q2 ∧ mE T N L sc a l = true ∧ mE T N L sc b r = true ∧ mE T N L sc c s = true := by
  unfold mE at h
  split at h <;> try (first | contradiction | cases h)
  rename_i heq
  cases heq
  try simp only [Bool.and_eq_true, decide_eq_true_eq] at h
  exact ⟨_, _, _, _, _, _, rfl, h⟩
theorem inv_and {sc : Scope} {x : Expr} {es} (h : mE T N L sc (.and es) x = true) : ∃ o xs p, x = .BoolOp o xs p ∧ o = .And ∧ mEs T N L sc es xs = true ∧ 1 < xs.length := by
  unfold mE at h
  split at h <;> try (first | contradiction | cases h)
  rename_i heq
  cases heq
  try simp only [Bool.and_eq_true, decide_eq_true_eq] at h
  exact ⟨_, _, _, rfl, h⟩
theorem inv_or {sc : Scope} {x : Expr} {es} (h : mE T N L sc (.or es) x = true) : ∃ o xs p, x = .BoolOp o xs p ∧ o = .Or ∧ mEs T N L sc es xs = true ∧ 1 < xs.length := by
  unfold mE at h
  split at h <;> try (first | contradiction | cases h)
  rename_i heq
  cases heq
  try simp only [Bool.and_eq_true, decide_eq_true_eq] at h
  exact ⟨_, _, _, rfl, h⟩
theorem inv_ife {sc : Scope} {x : Expr} {c a b} (h : mE T N L sc (.ife c a b) x = true) : ∃ c' a' b' p, x = .IfExp c' a' b' p ∧ mE T N L sc c c' = true ∧ mE T N L sc a a' = true ∧ mE T N L sc b b' = true := by
  unfold mE at h
  split at h <;> try (first | contradiction | cases h)
  rename_i heq
  cases heq
  try simp only [Bool.and_eq_true, decide_eq_true_eq] at h
  exact ⟨_, _, _, _, rfl, h⟩
theorem inv_lst {sc : Scope} {x : Expr} {mu es} (h : mE T N L sc (.lst mu es) x = true) : ∃ xs p, x = .List xs p ∧ mEs T N L sc es xs = true := by
  unfold mE at h
  split at h <;> try (first | contradiction | cases h)
  rename_i heq
  cases heq
  try simp only [Bool.and_eq_true, decide_eq_true_eq] at h
  exact ⟨_, _, rfl, h⟩
theorem inv_tup {sc : Scope} {x : Expr} {es} (h : mE T N L sc (.tup es) x = true) : ∃ xs j p, x = .Tuple xs j p ∧ mEs T N L sc es xs = true := by
  unfold mE at h
  split at h <;> try (first | contradiction | cases h)
  rename_i heq
  cases heq
  try simp only [Bool.and_eq_true, decide_eq_true_eq] at h
  exact ⟨_, _, _, rfl, h⟩
theorem inv_idx {sc : Scope} {x : Expr} {a b} (h : mE T N L sc (.idx a b) x = true) : ∃ y z p, x = .Subscript y z p ∧ mE T N L sc a y = true ∧ mE T N L sc b z = true := by
  unfold mE at h
  split at h <;> try (first | contradiction | cases h)
  rename_i heq
  cases heq
  try simp only [Bool.and_eq_true, decide_eq_true_eq] at h
  exact ⟨_, _, _, rfl, h⟩
theorem inv_slc {sc : Scope} {x : Expr} {a lo hi} (h : mE T N L sc (.slc a lo hi) x = true) : ∃ y l h p2 p, x = .Subscript y (.Slice l h none p2) p ∧ mE T N L sc a y = true ∧ mO T N L sc lo l = true ∧ mO T N L sc hi h = true := by
  unfold mE at h
  split at h <;> try (first | contradiction | cases h)
  rename_i heq
  cases heq
  try simp only [Bool.and_eq_true, decide_eq_true_eq] at h
  exact ⟨_, _, _, _, _, rfl, h⟩
theorem inv_att {sc : Scope} {x : Expr} {a f} (h : mE T N L sc (.att a f) x = true) : ∃ y nm p, x = .Attribute y nm p ∧ N.fl[f]? = some nm ∧ noSup y = true ∧ mE T N L sc a y = true := by
  unfold mE at h
  split at h <;> try (first | contradiction | cases h)
  rename_i heq
  cases heq
  try simp only [Bool.and_eq_true, decide_eq_true_eq] at h
  exact ⟨_, _, _, rfl, h⟩
theorem inv_fn2 {sc : Scope} {x : Expr} {b a c} (h : mE T N L sc (.fn2 b a c) x = true) : ∃ y p e1 e2 p2, x = .Call (.Name y p) [e1, e2] [] p2 ∧ y = b2s b ∧ isGlo sc y = true ∧ mE T N L sc a e1 = true ∧ mE T N L sc c e2 = true := by
  unfold mE at h
  split at h <;> try (first | contradiction | cases h)
  rename_i heq
  cases heq
  try simp only [Bool.and_eq_true, decide_eq_true_eq] at h
  exact ⟨_, _, _, _, _, rfl, h⟩
theorem inv_call {sc : Scope} {x : Expr} {f es} (h : mE T N L sc (.call f es) x = true) : ∃ y p xs p2, x = .Call (.Name y p) xs [] p2 ∧ N.fn[f]? = some (y, none) ∧ isGlo sc y = true ∧ mEs T N L sc es xs = true ∧ f < T.fns.length := by
  unfold mE at h
  split at h <;> try (first | contradiction | cases h)
  rename_i heq
  cases heq
  try simp only [Bool.and_eq_true, decide_eq_true_eq] at h
  exact ⟨_, _, _, _, rfl, h⟩
theorem inv_make {sc : Scope} {x : Expr} {C es} (h : mE T N L sc (.make C es) x = true) : ∃ y p xs p2, x = .Call (.Name y p) xs [] p2 ∧ N.cl[C]? = some y ∧ isGlo sc y = true ∧ mEs T N L sc es xs = true ∧ C < T.cls.length := by
  unfold mE at h
  split at h <;> try (first | contradiction | cases h)
  rename_i heq
  cases heq
  try simp only [Bool.and_eq_true, decide_eq_true_eq] at h
  exact ⟨_, _, _, _, rfl, h⟩
theorem inv_meth {sc : Scope} {x : Expr} {mt o es} (h : mE T N L sc (.meth mt o es) x = true) : ∃ y nm ap xs p, x = .Call (.Attribute y nm ap) xs [] p ∧ N.mt[mt]? = some nm ∧ noSup y = true ∧ mE T N L sc o y = true ∧ mEs T N L sc es xs = true ∧ xs.length < 20 ∧ ap.endLine = p.line := by
  unfold mE at h
  split at h <;> try (first | contradiction | cases h)
  rename_i heq
  cases heq
  try simp only [Bool.and_eq_true, decide_eq_true_eq] at h
  exact ⟨_, _, _, _, _, rfl, h⟩
theorem inv_bm1 {sc : Scope} {x : Expr} {b a c} (h : mE T N L sc (.bm1 b a c) x = true) : ∃ y nm ap e1 p, x = .Call (.Attribute y nm ap) [e1] [] p ∧ m1s b = nm ∧ noSup y = true ∧ mE T N L sc a y = true ∧ mE T N L sc c e1 = true ∧ ap.endLine = p.line := by
  unfold mE at h
  split at h <;> try (first | contradiction | cases h)
  rename_i heq
  cases heq
  try simp only [Bool.and_eq_true, decide_eq_true_eq] at h
  exact ⟨_, _, _, _, _, rfl, h⟩
theorem inv_isi {sc : Scope} {x : Expr} {a t} (h : mE T N L sc (.isi a t) x = true) : ∃ y p e1 z p2 p3, x = .Call (.Name y p) [e1, .Name z p2] [] p3 ∧ y = ("isinstance" : Str) ∧ isGlo sc y = true ∧ mE T N L sc a e1 = true ∧ z = tys N t ∧ isGlo sc z = true ∧ tyOk T t = true := by
  unfold mE at h
  split at h <;> try (first | contradiction | cases h)
  rename_i heq
  cases heq
  try simp only [Bool.and_eq_true, decide_eq_true_eq] at h
  exact ⟨_, _, _, _, _, _, rfl, h⟩
theorem inv_lc {sc : Scope} {x : Expr} {mu tg tup it cond e} (h : mE T N L sc (.lc mu tg tup it cond e) x = true) : ∃ elt t i ifs scope p, x = .ListComp elt [⟨t, i, ifs, 0⟩] scope p ∧ mI T N L sc it i = true ∧ mTg L (relS scope sc) (blkFn scope) tg tup t = true ∧ mCd T N L (relS scope sc) cond ifs = true ∧ mE T N L (relS scope sc) e elt = true ∧ blkC L sc scope (ownOf L tg) = true := by
  unfold mE at h
  split at h <;> try (first | contradiction | cases h)
  rename_i heq
  cases heq
  try simp only [Bool.and_eq_true, decide_eq_true_eq] at h
  exact ⟨_, _, _, _, _, _, rfl, h⟩
theorem inv_fn1 {sc : Scope} {x : Expr} {mu b a} (h : mE T N L sc (.fn1 mu b a) x = true) : ∃ y p e1 p2, x = .Call (.Name y p) [e1] [] p2 ∧ isGlo sc y = true ∧ ((b ≠ .setlen ∧ y = b1s b ∧ mE T N L sc a e1 = true) ∨ (b = .setlen ∧ y = ("len" : Str) ∧ ∃ z p3 e2 p4, e1 = .Call (.Name z p3) [e2] [] p4 ∧ z = ("set" : Str) ∧ isGlo sc z = true ∧ mE T N L sc a e2 = true)) := by
  unfold mE at h
  split at h <;> try (first | contradiction | cases h)
  rename_i heq
  cases heq
  split at h
  · rename_i hb
    simp only [Bool.and_eq_true, decide_eq_true_eq] at h
    obtain ⟨h1, h2, h3⟩ := h
    split at h3
    · simp only [Bool.and_eq_true, decide_eq_true_eq] at h3
      exact ⟨_, _, _, _, rfl, h2, .inr ⟨hb, h1, _, _, _, _, rfl, h3⟩⟩
    · cases h3
  · rename_i hb
    simp only [Bool.and_eq_true, decide_eq_true_eq] at h
    exact ⟨_, _, _, _, rfl, h.2.1, .inl ⟨hb, h.1, h.2.2⟩⟩
theorem inv_rng1 {sc : Scope} {x : Expr} {a} (h : mI T N L sc (.rng1 a) x = true) : ∃ y p e1 p2, x = .Call (.Name y p) [e1] [] p2 ∧ y = ("range" : Str) ∧ isGlo sc y = true ∧ mE T N L sc a e1 = true := by
  unfold mI at h
  split at h <;> try (first | contradiction | cases h)
  rename_i heq
  cases heq
  simp only [Bool.and_eq_true, decide_eq_true_eq] at h
  exact ⟨_, _, _, _, rfl, h⟩
theorem inv_rng2 {sc : Scope} {x : Expr} {a b} (h : mI T N L sc (.rng2 a b) x = true) : ∃ y p e1 e2 p2, x = .Call (.Name y p) [e1, e2] [] p2 ∧ y = ("range" : Str) ∧ isGlo sc y = true ∧ mE T N L sc a e1 = true ∧ mE T N L sc b e2 = true := by
  unfold mI at h
  split at h <;> try (first | contradiction | cases h)
  rename_i heq
  cases heq
  simp only [Bool.and_eq_true, decide_eq_true_eq] at h
  exact ⟨_, _, _, _, _, rfl, h⟩
theorem inv_rrng1 {sc : Scope} {x : Expr} {a} (h : mI T N L sc (.rrng1 a) x = true) : ∃ z p3 y p e1 p2 p4, x = .Call (.Name z p3) [.Call (.Name y p) [e1] [] p2] [] p4 ∧ z = ("reversed" : Str) ∧ isGlo sc z = true ∧ y = ("range" : Str) ∧ isGlo sc y = true ∧ mE T N L sc a e1 = true := by
  unfold mI at h
  split at h <;> try (first | contradiction | cases h)
  rename_i heq
  cases heq
  simp only [Bool.and_eq_true, decide_eq_true_eq] at h
  exact ⟨_, _, _, _, _, _, _, rfl, h⟩
theorem mE_ns {sc : Scope} {x : Expr} {e : E} (h : mE T N L sc e x = true) : NS x := by
  intro env rest
  cases x <;> first | rfl | (rw [mE_okX rfl] at h; cases h)
theorem mE_set {sc : Scope} {x : Expr} {e : E} (h : mE T N L sc e x = true) (op : CmpOp) : behindInMarks op x = false := by
  cases x <;> first | rfl | (rw [mE_okX rfl] at h; cases h)
theorem mE_ix {sc : Scope} {x : Expr} {e : E} (h : mE T N L sc e x = true) : PlainIx x := by
  cases x <;> first | (intro o i; rfl) | (rw [mE_okX rfl] at h; cases h)
theorem fse_ok {x : Expr} (h : okX x = true) (env : PySem.Env) (v : Value) : foldedSetIterable x env v = pure v := by
  cases x <;> first | rfl | cases h
theorem mI_okX {sc : Scope} {x : Expr} {e : It} (h : mI T N L sc e x = true) : okX x = true := by
  cases e with
  | of a =>
    cases hx : okX x with
    | true => rfl
    | false =>
      have : mE T N L sc a x = true := by
        unfold mI at h
        cases x <;> first | exact h | cases hx
      rw [mE_okX hx] at this
      cases this
  | rng1 a => obtain ⟨_, _, _, _, rfl, _⟩ := inv_rng1 h; rfl
  | rng2 a b => obtain ⟨_, _, _, _, _, rfl, _⟩ := inv_rng2 h; rfl
  | rrng1 a => obtain ⟨_, _, _, _, _, _, _, rfl, _⟩ := inv_rrng1 h; rfl
theorem metT_le : ∀ (xs acc : List (List Nat)), (metT acc xs).length ≤ acc.length + xs.length
  | [], acc => by simp [metT]
  | x :: r, acc => by
    unfold metT
    refine Nat.le_trans (metT_le r _) ?_
    split <;> simp <;> omega
end
section
variable {T : Tab} {N : Nms} {X : Cx} {k : Nat} {call : Nat → List A → Store → R A} {W : WX} {a : Expr} {fa : Env → Store → R A} {p p2 p3 pos : Pos} {x y : Str}
theorem ev_setlen (g : Gd T N X k call) {mu : Bool} (hx : x = ("len" : Str)) (hg : isGlo X.env.scope x = true) (hy : y = ("set" : Str)) (hg2 : isGlo X.env.scope y = true) (ha : EV N X W a fa) (hs : NS a) :
    EV N X W (.Call (.Name x p) [.Call (.Name y p2) [a] [] p3] [] pos) fun r m => (fa r m).bind fun x m1 => fn1A mu .setlen x m1 := by
  subst hx hy
  refine PE.imp (pe_callB cr_lenS (isGlo_gl hg).1 (g.sta.blt _ (by decide)) (by decide +kernel) (pa_cons (pe_callTy (cr_setT (N := N) g.calm) (isGlo_gl hg2).1 (g.sta.blt _ (by decide)) (by decide +kernel) (av_one ha hs) (by decide) (by decide) (hs _ _) rfl) pa_nil rfl) (by decide) (by decide) rfl rfl) fun σ H Q h => ?_
  obtain ⟨r, F, t, m, h1, h2, q⟩ := h
  refine ⟨r, F, t, m, h1, h2, ?_⟩
  dsimp only at q ⊢
  cases e : fa r m with
  | bad => rw [e] at q; exact q
  | ex C fs m1 => rw [e] at q; exact q
  | ok z m1 =>
    rw [e, R.bind_ok] at q
    rw [R.bind_ok]
    intro vs F1 t1 H1 st rv
    cases rv with
    | cons rv rn =>
      cases rn
      simp only [fn1A] at q
      split at q
      · rename_i xs hv
        split at q
        · rename_i ss hss
          split at q
          · rename_i hl
            have hl : ss.length < 4000 := by
              have := Nat.ble_eq.mp hl
              omega
            obtain ⟨pp, ws, rfl, hq, rs, _⟩ := view_lst st.sr rv hv
            have e2 := rs.strs hss
            rw [e2] at hq
            refine ⟨pp, ss, rfl, hq, hl, fun d hd => ⟨d, _, _, rfl, upd_same, ?_, ?_⟩⟩
            · have := metT_le ss []
              simp at this
              omega
            · exact q _ F1 t1 _ (st.trans ((Stp.refl st.sr).own hd (st.sr.fnone hd) fun n c hc => st.sr.tne hd hc)) (.z (.int _))
          · exact False.elim q
        · exact False.elim q
      · exact False.elim q
end
/-! ### the whole -/
section
variable (T : Tab) (N : Nms) (k : Nat) (call : Nat → List A → Store → R A)
def SE (e : E) : Prop := ∀ (X : Cx) (W : WX) (x : Expr), Gd T N X k call → Takes X W → mE T N X.N X.env.scope e x = true → EV N X W x (ev T call e) ∧ TV N X W x (tst (ev T call e))
def SEs (es : Es) : Prop := ∀ (X : Cx) (W : WX) (xs : List Expr), Gd T N X k call → Takes X W → mEs T N X.N X.env.scope es xs = true → AV N X W xs (evs T call es) ∧ NSs xs ∧ (xs = [] → ∀ r m, evs T call es r m = .ok [] m) ∧
  (0 < xs.length → ∀ pos, (EV N X W (.BoolOp .And xs pos) (evAnd T call es) ∧ WV N X W (.BoolOp .And xs pos) (tst (evAnd T call es))) ∧ (EV N X W (.BoolOp .Or xs pos) (evOr T call es) ∧ WV N X W (.BoolOp .Or xs pos) (tst (evOr T call es))))
def SO (e : Oe) : Prop := ∀ (X : Cx) (W : WX), Gd T N X k call → Takes X W → (∀ x, mO T N X.N X.env.scope e x = true → OV N X W x (evO T call e)) ∧ ∀ xs, mCd T N X.N X.env.scope e xs = true → PTs X xs (GL.tB N X.K W (tst (evC T call e)))
def SI (e : It) : Prop := ∀ (X : Cx) (W : WX) (x tg : Expr), Gd T N X k call → Takes X W → mI T N X.N X.env.scope e x = true → IV N X W tg x (evIt T call e)
variable {T N k call}
theorem both {X : Cx} {W : WX} {x : Expr} {f : Env → Store → R A} (h : EV N X W x f) (he : ∀ whole, PySem.isTrue x X.env whole = (do let v ← whole; standAt x.pos; holding [v] (truthy v))) : EV N X W x f ∧ TV N X W x (tst f) := ⟨h, tv_val h he⟩
theorem own_snd (L : List Str) (tg : List Nat) : (ownOf L tg).map (·.2) = tg := by
  unfold ownOf
  rw [List.map_map]
  exact List.map_id _
theorem lc_ok {X : Cx} {W : WX} {elt t i : Expr} {ifs : List Expr} {scope : Scope} {p : Pos} {mu : Bool} {tg : List Nat} {tup : Bool} {f : Env → Store → R Src} {fc fe : Env → Store → R A}
    (g : Gd T N X k call) (hi : IV N X W t i f) (hi2 : okX i = true) (ht : mTg X.N (relS scope X.env.scope) (blkFn scope) tg tup t = true) (hb : blkC X.N X.env.scope scope (ownOf X.N tg) = true)
    (hc : ∀ (s : Shared) (H : Hp) (C : Addr) (cl : List (Str × Addr)) (fp : List Addr), PTs (X.blk s H scope (compEnvC scope cl C X.env) fp) ifs (GL.tB N X.K W00 (tst fc)))
    (he : ∀ (s : Shared) (H : Hp) (C : Addr) (cl : List (Str × Addr)) (fp : List Addr), EV N (X.blk s H scope (compEnvC scope cl C X.env) fp) W00 elt fe) :
    EV N X W (.ListComp elt [⟨t, i, ifs, 0⟩] scope p) fun r m => (f r m).bind fun s m1 => (match s with
    | .fix xs => if Nat.blt xs.length sz then (lcL tg tup fc fe (wipeE r tg) xs m1).bind fun ys m2 => mkLst mu ys m2 else .bad
    | .live _ => .bad) := by
  refine PE.imp (pe_lc (wi := tI N X.K W f) (g := gTg N X.K tg tup) (tt := GL.tB N X.K W00 (tst fc)) (te := tV N X.K W00 fe) g.calm g.nd hi (blkOk_by hb) (fun s H C cl fp => ?_) hc he (fse_ok hi2 X.env)) fun σ H Q h => ?_
  · exact pg_ok (X := X.blk s H scope (compEnvC scope cl C X.env) fp) g.nd g.calm ht
  · have := lc_in h
    rw [own_snd]
    exact this
theorem inv_mO_some {L : List Str} {sc : Scope} {e : E} {x : Option Expr} (h : mO T N L sc (.some e) x = true) : ∃ y, x = some y ∧ mE T N L sc e y = true := by
  cases x with
  | none => cases h
  | some y => exact ⟨y, rfl, h⟩
theorem inv_mO_no {L : List Str} {sc : Scope} {x : Option Expr} (h : mO T N L sc .no x = true) : x = none := by
  cases x with
  | none => rfl
  | some y => cases h
theorem inv_mCd_some {L : List Str} {sc : Scope} {e : E} {x : List Expr} (h : mCd T N L sc (.some e) x = true) : ∃ y, x = [y] ∧ mE T N L sc e y = true := by
  cases x with
  | nil => cases h
  | cons y r =>
    cases r with
    | nil => exact ⟨y, rfl, h⟩
    | cons z r => cases h
theorem inv_mCd_no {L : List Str} {sc : Scope} {x : List Expr} (h : mCd T N L sc .no x = true) : x = [] := by
  cases x with
  | nil => rfl
  | cons y r => cases h
theorem inv_mEs_nil {L : List Str} {sc : Scope} {x : List Expr} (h : mEs T N L sc .nil x = true) : x = [] := by
  cases x with
  | nil => rfl
  | cons y r => cases h
theorem inv_mEs_cons {L : List Str} {sc : Scope} {e : E} {es : Es} {x : List Expr} (h : mEs T N L sc (.cons e es) x = true) : ∃ y r, x = y :: r ∧ mE T N L sc e y = true ∧ mEs T N L sc es r = true := by
  cases x with
  | nil => cases h
  | cons y r =>
    have h : (mE T N L sc e y && mEs T N L sc es r) = true := h
    rw [Bool.and_eq_true] at h
    exact ⟨y, r, rfl, h⟩
theorem plainT_is {x : Expr} {env : PySem.Env} (h : plainT x = true) (whole : Sem Value) : PySem.isTrue x env whole = (do let v ← whole; standAt x.pos; holding [v] (truthy v)) := by
  cases x with
  | UnaryOp op a p => cases op <;> first | rfl | cases h
  | _ => first | rfl | cases h
mutual
theorem sE : ∀ e : E, SE T N k call e
  | .var i => fun X W x g tk h => by
    obtain ⟨y, p, rfl, h1, h2, h3⟩ := inv_var h
    exact both (ev_var h1 h2 h3) fun _ => rfl
  | .cst d => fun X W x g tk h => by
    obtain ⟨c, j, p, rfl, h1⟩ := inv_cst h
    exact both (ev_cst h1) fun _ => rfl
  | .glo i => fun X W x g tk h => by
    cases x <;> cases h
  | .bin op a b => fun X W x g tk h => by
    obtain ⟨l, o, r, p, rfl, rfl, h1, h2⟩ := inv_bin h
    exact both (ev_bin (op_binA N op) (sE a X W l g tk h1).1 (sE b X W r g tk h2).1) fun _ => rfl
  | .neg a => fun X W x g tk h => by
    obtain ⟨o, e, p, rfl, rfl, h1⟩ := inv_neg h
    exact both (ev_neg (sE a X W e g tk h1).1) fun _ => rfl
  | .not a => fun X W x g tk h => by
    obtain ⟨o, e, p, rfl, rfl, h1⟩ := inv_not h
    have := sE a X W e g tk h1
    exact ⟨ev_not this.1, tv_not this.2⟩
  | .cmp op a b => fun X W x g tk h => by
    obtain ⟨l, o, r, p, rfl, rfl, h1, h2⟩ := inv_cmp h
    exact ⟨ev_cmp (op_cmpA N g.units op) (sE a X W l g tk h1).1 (sE b X W r g tk h2).1 (mE_set h2 _), tv_cmp (op_cmpA N g.units op) (sE a X W l g tk h1).1 (sE b X W r g tk h2).1 (mE_set h2 _)⟩
  | .cmp2 o1 o2 a b c => fun X W x g tk h => by
    obtain ⟨l, q1, q2, r, s, p, rfl, rfl, rfl, h1, h2, h3⟩ := inv_cmp2 h
    have hm : lastMarks [cop o1, cop o2] [r, s] = false := mE_set h3 _
    exact ⟨ev_cmp2 (op_cmpA N g.units o1) (op_cmpA N g.units o2) (sE a X W l g tk h1).1 (sE b X W r g tk h2).1 (sE c X W s g tk h3).1 hm, tv_cmp2 (op_cmpA N g.units o1) (op_cmpA N g.units o2) (sE a X W l g tk h1).1 (sE b X W r g tk h2).1 (sE c X W s g tk h3).1 hm⟩
  | .and es => fun X W x g tk h => by
    obtain ⟨o, xs, p, rfl, rfl, h1, h2⟩ := inv_and h
    have := ((sEs es X W xs g tk h1).2.2.2 (by omega) p).1
    exact ⟨this.1, this.2.pt⟩
  | .or es => fun X W x g tk h => by
    obtain ⟨o, xs, p, rfl, rfl, h1, h2⟩ := inv_or h
    have := ((sEs es X W xs g tk h1).2.2.2 (by omega) p).2
    exact ⟨this.1, this.2.pt⟩
  | .ife c a b => fun X W x g tk h => by
    obtain ⟨c', a', b', p, rfl, h1, h2, h3⟩ := inv_ife h
    exact ⟨ev_ife (sE c X W _ g tk h1).2 (sE a X W _ g tk h2).1 (sE b X W _ g tk h3).1, tv_ife (sE c X W _ g tk h1).2 (sE a X W _ g tk h2).2 (sE b X W _ g tk h3).2⟩
  | .lst mu es => fun X W x g tk h => by
    obtain ⟨xs, p, rfl, h1⟩ := inv_lst h
    exact both (ev_lst (sEs es X W xs g tk h1).1) fun _ => rfl
  | .tup es => fun X W x g tk h => by
    obtain ⟨xs, j, p, rfl, h1⟩ := inv_tup h
    exact both (ev_tup (sEs es X W xs g tk h1).1) fun _ => rfl
  | .dct _ => fun X W x g tk h => by
    cases x <;> cases h
  | .idx a b => fun X W x g tk h => by
    obtain ⟨y, z, p, rfl, h1, h2⟩ := inv_idx h
    exact both (ev_ix (ix_A N) (sE a X W _ g tk h1).1 (sE b X W _ g tk h2).1 (mE_ix h2)) fun _ => rfl
  | .slc a lo hi => fun X W x g tk h => by
    obtain ⟨y, l, u, p2, p, rfl, h1, h2, h3⟩ := inv_slc h
    exact both (ev_slc (sl_A N) (sE a X W _ g tk h1).1 ((sO lo X W g tk).1 l h2) ((sO hi X W g tk).1 u h3)) fun _ => rfl
  | .att a f => fun X W x g tk h => by
    obtain ⟨y, nm, p, rfl, h1, h2, h3⟩ := inv_att h
    exact both (ev_att g h1 h2 (sE a X W _ g tk h3).1) fun _ => rfl
  | .fn1 mu b a => fun X W x g tk h => by
    obtain ⟨y, p, e1, p2, rfl, h1, h | h⟩ := inv_fn1 h
    · exact both (ev_fn1 g h.2.1 h.1 h1 (sE a X W _ g tk h.2.2).1 (mE_ns h.2.2)) fun _ => rfl
    · obtain ⟨rfl, h2, z, p3, e2, p4, rfl, h3, h4, h5⟩ := h
      exact both (ev_setlen g h2 h1 h3 h4 (sE a X W _ g tk h5).1 (mE_ns h5)) fun _ => rfl
  | .fn2 b a c => fun X W x g tk h => by
    obtain ⟨y, p, e1, e2, p2, rfl, h1, h2, h3, h4⟩ := inv_fn2 h
    exact both (ev_fn2 g h1 h2 (sE a X W _ g tk h3).1 (sE c X W _ g tk h4).1 (mE_ns h3) (mE_ns h4)) fun _ => rfl
  | .call f es => fun X W x g tk h => by
    obtain ⟨y, p, xs, p2, rfl, h1, h2, h3, h4⟩ := inv_call h
    have := sEs es X W xs g tk h3
    exact both (ev_call g tk h1 h2 this.1 this.2.1 this.2.2.1) fun _ => rfl
  | .make C es => fun X W x g tk h => by
    obtain ⟨y, p, xs, p2, rfl, h1, h2, h3, h4⟩ := inv_make h
    have := sEs es X W xs g tk h3
    exact both (ev_make g tk h1 h4 h2 this.1 this.2.1 this.2.2.1) fun _ => rfl
  | .meth mt o es => fun X W x g tk h => by
    obtain ⟨y, nm, ap, xs, p, rfl, h1, h2, h3, h4, h5, h6⟩ := inv_meth h
    have := sEs es X W xs g tk h4
    exact both (ev_meth g tk h1 h2 h5 h6 (sE o X W _ g tk h3).1 this.1 this.2.1 this.2.2.1) fun _ => rfl
  | .bm0 _ _ => fun X W x g tk h => by
    cases x <;> cases h
  | .bm1 b a c => fun X W x g tk h => by
    obtain ⟨y, nm, ap, e1, p, rfl, h1, h2, h3, h4, h5⟩ := inv_bm1 h
    exact both (ev_bm1 h1 h2 h5 (sE a X W _ g tk h3).1 (sE c X W _ g tk h4).1 (mE_ns h4)) fun _ => rfl
  | .isi a t => fun X W x g tk h => by
    obtain ⟨y, p, e1, z, p2, p3, rfl, h1, h2, h3, h4, h5, h6⟩ := inv_isi h
    exact both (ev_isi g h6 h1 h2 h4 h5 (sE a X W _ g tk h3).1 (mE_ns h3)) fun _ => rfl
  | .lc mu tg tup it cond e => fun X W x g tk h => by
    obtain ⟨elt, t, i, ifs, scope, p, rfl, h1, h2, h3, h4, h5⟩ := inv_lc h
    exact both (lc_ok g (sI it X W i t g tk h1) (mI_okX h1) h2 h5 (fun s H C cl fp => (sO cond (X.blk s H scope (compEnvC scope cl C X.env) fp) W00 g.blk takes_blk).2 ifs h3) fun s H C cl fp => (sE e (X.blk s H scope (compEnvC scope cl C X.env) fp) W00 elt g.blk takes_blk h4).1) fun _ => rfl
  | .frz a => fun X W x g tk h => by
    have h1 : (plainT x && mE T N X.N X.env.scope a x) = true := by
      cases x <;> exact h
    rw [Bool.and_eq_true] at h1
    have := sE a X W x g tk h1.2
    exact both (ev_frz this.1) (plainT_is h1.1)
theorem sEs : ∀ es : Es, SEs T N k call es
  | .nil => fun X W xs g tk h => by
    cases inv_mEs_nil h
    exact ⟨av_nil, (fun e he => by simp at he), fun _ _ _ => rfl, fun h => by simp at h⟩
  | .cons e es => fun X W xs g tk h => by
    obtain ⟨y, r, rfl, h1, h2⟩ := inv_mEs_cons h
    have a := sE e X W y g tk h1
    have b := sEs es X W r g tk h2
    refine ⟨av_cons a.1 b.1 (mE_ns h1 _ _), fun z hz => ?_, (fun h => by simp at h), fun _ pos => ?_⟩
    · rcases List.mem_cons.mp hz with rfl | hz
      · exact mE_ns h1
      · exact b.2.1 z hz
    · cases es with
      | nil =>
        cases inv_mEs_nil h2
        exact ⟨⟨pe_one a.1, pw_and1 a.2⟩, ⟨pe_one a.1, pw_or1 a.2⟩⟩
      | cons e2 es2 =>
        obtain ⟨z, r2, rfl, h3, h4⟩ := inv_mEs_cons h2
        have c := b.2.2.2 (by simp) pos
        exact ⟨⟨ev_and a.1 c.1.1, tw_and a.2 c.1.2⟩, ⟨ev_or a.1 c.2.1, tw_or a.2 c.2.2⟩⟩
theorem sO : ∀ e : Oe, SO T N k call e
  | .no => fun X W g tk => ⟨fun x h => by
      cases inv_mO_no h
      exact ov_none, fun xs h => by
      cases inv_mCd_no h
      exact pts_noc⟩
  | .some e => fun X W g tk => ⟨fun x h => by
      obtain ⟨y, rfl, h1⟩ := inv_mO_some h
      exact ov_some (sE e X W y g tk h1).1, fun xs h => by
      obtain ⟨y, rfl, h1⟩ := inv_mCd_some h
      exact pts_one (sE e X W y g tk h1).2⟩
theorem sI : ∀ e : It, SI T N k call e
  | .rng1 a => fun X W x tg g tk h => by
    obtain ⟨y, p, e1, p2, rfl, h1, h2, h3⟩ := inv_rng1 h
    exact iv_rng1 g h1 h2 (sE a X W _ g tk h3).1 (mE_ns h3)
  | .rng2 a b => fun X W x tg g tk h => by
    obtain ⟨y, p, e1, e2, p2, rfl, h1, h2, h3, h4⟩ := inv_rng2 h
    exact iv_rng2 g h1 h2 (sE a X W _ g tk h3).1 (sE b X W _ g tk h4).1 (mE_ns h3) (mE_ns h4)
  | .rrng1 a => fun X W x tg g tk h => by
    obtain ⟨z, p3, y, p, e1, p2, p4, rfl, h1, h2, h3, h4, h5⟩ := inv_rrng1 h
    exact iv_rrng1 g h1 h2 h3 h4 (sE a X W _ g tk h5).1 (mE_ns h5)
  | .of a => fun X W x tg g tk h => by
    have h1 : mE T N X.N X.env.scope a x = true := by
      cases x <;> exact h
    exact iv_of (sE a X W _ g tk h1).1
end
end
end GL

/-! G16: statements. -/
namespace GL
open PySem L2
/-- behind a statement's outcome -/
def POs (N : Nms) (K : PySem.W.Frag) (D : Ends) (W : WX) (F : Hp) (t : Nat → Addr) (m : Store) (H : Hp) : O → Prop
  | .nx r m' => ∀ σ' F' t' H', Stp N K F t m H F' t' m' H' → Rl N K F' t' m'.length r σ' → D.nx σ' H'
  | .rt a m' => ∀ v F' t' H', Stp N K F t m H F' t' m' H' → RA N K F' t' m'.length v a → D.rt v H'
  | .ex C fs r m' => ∀ cls d σ' F' t' H', Stp N K F t m H F' t' m' H' → Rl N K F' t' m'.length r σ' → RX N K F' cls d C fs → W cls d σ' H'
  | .bad => False
def tS (N : Nms) (K : PySem.W.Frag) (W : WX) (f : Env → Store → O) : TS := fun D σ H => ∃ r F t m, Rl N K F t m.length r σ ∧ SR N K F t m H ∧ POs N K D W F t m H (f r m)
theorem PS.imp {X : Cx} {s : Stmt} {t t' : TS} (h : PS X s t) (k : ∀ D σ H, t' D σ H → t D σ H) : PS X s t' := ⟨fun pins s σ H D I q => h.run pins s σ H D I (k D σ H q)⟩
theorem PSs.imp {X : Cx} {s : List Stmt} {t t' : TS} (h : PSs X s t) (k : ∀ D σ H, t' D σ H → t D σ H) : PSs X s t' := ⟨fun pins s σ H D I q => h.run pins s σ H D I (k D σ H q)⟩
section
variable {N : Nms} {K : PySem.W.Frag} {D : Ends} {W : WX} {F F' : Hp} {t t' : Nat → Addr} {m m' : Store} {H H' : Hp} {α β : Type} {rl : Hp → (Nat → Addr) → Nat → β → α → Prop}
theorem POs.step {o : O} (p : POs N K D W F t m H o) (st : Stp N K F t m H F' t' m' H') : POs N K D W F' t' m' H' o := by
  cases o with
  | nx r m1 => exact fun σ F2 t2 H2 s2 r2 => p σ F2 t2 H2 (st.trans s2) r2
  | rt a m1 => exact fun v F2 t2 H2 s2 r2 => p v F2 t2 H2 (st.trans s2) r2
  | ex C fs r m1 => exact fun cls d σ F2 t2 H2 s2 r2 x2 => p cls d σ F2 t2 H2 (st.trans s2) r2 x2
  | bad => exact p
/-- an expression, then the rest -/
theorem tS.ofR {f : Env → Store → R α} {g : Env → α → Store → O} {σ : St} {Q1 : β → Hp → Prop} (h : tS N K W (fun r m => O.ofR (f r m) r fun a m1 => g r a m1) D σ H)
    (c : ∀ r a v F t m H1, Rl N K F t m.length r σ → SR N K F t m H1 → rl F t m.length v a → POs N K D W F t m H1 (g r a m) → Q1 v H1) : tG N K rl W f σ H Q1 := by
  obtain ⟨r, F, t, m, h1, h2, p⟩ := h
  refine ⟨r, F, t, m, h1, h2, ?_⟩
  dsimp only at p
  cases e : f r m with
  | bad => rw [e] at p; exact p
  | ex C fs m1 =>
    rw [e] at p
    exact fun cls d F1 t1 H1 st x => p cls d σ F1 t1 H1 st (h1.mono N K st.ext) x
  | ok a m1 =>
    rw [e, O.ofR_ok] at p
    exact fun v F1 t1 H1 st rv => c r a v F1 t1 m1 H1 (h1.mono N K st.ext) st.sr rv (p.step st)
theorem POs.ofR {x : R α} {r : Env} {σ : St} {g : α → Store → O} {Q1 : β → Hp → Prop} (h1 : Rl N K F t m.length r σ) (p : POs N K D W F t m H (O.ofR x r g))
    (c : ∀ a m1 v F1 t1 H1, Stp N K F t m H F1 t1 m1 H1 → rl F1 t1 m1.length v a → POs N K D W F1 t1 m1 H1 (g a m1) → Q1 v H1) : Pst N K rl (wAt W σ) Q1 F t m H x := by
  cases x with
  | bad => exact p
  | ex C fs m1 => exact fun cls d F1 t1 H1 st x => p cls d σ F1 t1 H1 st (h1.mono N K st.ext) x
  | ok a m1 => exact fun v F1 t1 H1 st rv => c a m1 v F1 t1 H1 st rv (POs.step (o := g a m1) p st)
theorem POs.seq {o : O} {f : Env → Store → O} (p : POs N K D W F t m H (o.seq f)) : POs N K { D with nx := tS N K W f D } W F t m H o := by
  cases o with
  | nx r m1 => exact fun σ F1 t1 H1 st rl => ⟨r, F1, t1, m1, rl, st.sr, POs.step (o := f r m1) p st⟩
  | rt a m1 => exact p
  | ex C fs r m1 => exact p
  | bad => exact p
theorem POs.ends {o : O} {D' : Ends} (p : POs N K D W F t m H o) (h1 : ∀ σ H, D.nx σ H → D'.nx σ H) (h2 : D.rt = D'.rt) : POs N K D' W F t m H o := by
  cases o with
  | nx r m1 => exact fun σ F1 t1 H1 st rl => h1 _ _ (p σ F1 t1 H1 st rl)
  | rt a m1 => exact fun v F1 t1 H1 st rv => h2 ▸ p v F1 t1 H1 st rv
  | ex C fs r m1 => exact p
  | bad => exact p
theorem POs.nx {r : Env} {σ : St} (p : POs N K D W F t m H (.nx r m)) (sr : SR N K F t m H) (rl : Rl N K F t m.length r σ) : D.nx σ H := p σ F t H (Stp.refl sr) rl
end
theorem RAf.put {N : Nms} {K : PySem.W.Frag} {F : Hp} {t : Nat → Addr} {l : Nat} (nd : N.fl.Nodup) {f : Nat} (hf : f < N.fl.length) {v : V} {a : A} (ra : RA N K F t l v a) : ∀ {vs : List (Str × V)} {as : List (Nat × A)}, RAf N K F t l vs as → RAf N K F t l (putF (fnm N f) v vs) (putFd f a as)
  | _, _, .nil => .cons hf ra .nil
  | _, _, .cons (f := g) hg h r => by
    unfold putF putFd
    by_cases q : f = g
    · subst q
      rw [if_pos rfl, if_pos (by simp)]
      exact .cons hf ra r
    · have q2 : Nat.beq f g = false := by
        cases z : Nat.beq f g with
        | false => rfl
        | true => exact absurd (Nat.eq_of_beq_eq_true z) q
      have ne : fnm N g ≠ fnm N f := by
        intro z
        unfold fnm at z
        rw [List.getD_eq_getElem?_getD, List.getD_eq_getElem?_getD, List.getElem?_eq_getElem hf, List.getElem?_eq_getElem hg] at z
        simp only [Option.getD_some] at z
        exact q ((List.getElem_inj nd).mp z).symm
      rw [if_neg ne, q2]
      exact .cons hg h (RAf.put nd hf ra r)
theorem RAf.len {N : Nms} {K : PySem.W.Frag} {F : Hp} {t : Nat → Addr} {l : Nat} : ∀ {vs : List (Str × V)} {as : List (Nat × A)}, RAf N K F t l vs as → vs.length = as.length
  | _, _, .nil => rfl
  | _, _, .cons _ _ r => by simp [RAf.len r]
theorem RAs.setI {N : Nms} {K : PySem.W.Frag} {F : Hp} {t : Nat → Addr} {l : Nat} {v : V} {a : A} (ra : RA N K F t l v a) : ∀ {vs : List V} {as : List A} (j : Nat), RAs N K F t l vs as → RAs N K F t l (vs.set j v) (as.set j a)
  | _, _, _, .nil => .nil
  | _, _, 0, .cons h r => .cons ra r
  | _, _, j + 1, .cons h r => .cons h (RAs.setI ra j r)
/-- a context of a def's body -/
structure Gs' (T : Tab) (N : Nms) (X : Cx) (k : Nat) (call : Nat → List A → Store → R A) : Prop where
  g : Gd T N X k call
  own : PassesOwn (model X.prog X.w) X.A X.env X.xe
  fn : X.fn = allFn
section
variable {T : Tab} {N : Nms} {X : Cx} {k : Nat} {call : Nat → List A → Store → R A} {W : WX} {a b c e o i v : Expr} {fa fb fc fe : Env → Store → R A} {p p2 p3 pos : Pos} {x y : Str} {ba bb : List Stmt} {ga gb : Env → Store → O}
abbrev SV (N : Nms) (X : Cx) (W : WX) (s : Stmt) (f : Env → Store → O) : Prop := PS X s (tS N X.K W f)
abbrev SVs (N : Nms) (X : Cx) (W : WX) (s : List Stmt) (f : Env → Store → O) : Prop := PSs X s (tS N X.K W f)
theorem sw_none {v : Expr} {t : Expr} {l : Nat} {env : PySem.Env} (ht : ∀ x p, t ≠ .Name x p) : swapsWith v (some t) l env = pure false := by
  cases v <;> first | rfl | (cases t <;> first | rfl | exact absurd rfl (ht _ _))
theorem sw_drop {v : Expr} {l : Nat} {env : PySem.Env} (h : notLc v = true) : swapsWith v none l env = pure false := by
  cases v <;> first | rfl | cases h
theorem sw_name {v : Expr} {l : Nat} {env : PySem.Env} {x : Str} {p : Pos} (h : notLc v = true) : swapsWith v (some (.Name x p)) l env = pure false := by
  cases v <;> first | rfl | cases h
theorem sv_pass : SV N X W (.Pass pos) fun r m => .nx r m := PS.imp ps_pass fun D σ H ⟨r, F, t, m, h1, h2, p⟩ => p.nx h2 h1
theorem sv_ex (hn : notLc e = true) (he : EV N X W e fe) : SV N X W (.Expr e pos) fun r m => O.ofR (fe r m) r fun _ m1 => .nx r m1 :=
  PS.imp (ps_expr he (sw_drop hn)) fun D σ H h => tS.ofR (rl := RA N X.K) (g := fun r _ m1 => .nx r m1) h fun r a v F t m H1 rl sr rx p => p.nx sr rl
theorem sv_asg (g : Gs' T N X k call) {j : Nat} (hi : X.N[j]? = some x) (hs : isSto X.env.scope x = true) (hn : notLc e = true) (he : EV N X W e fe) : SV N X W (.Assign [.Name x p] e pos) fun r m => O.ofR (fe r m) r fun a m1 => .nx (r.set j (some a)) m1 :=
  PS.imp (ps_set g.g.nd hi (isSto_loc hs) he (sw_name hn) (.inl (by rw [g.fn]; rfl))) fun D σ H h => tS.ofR (rl := RA N X.K) (g := fun r a m1 => .nx (r.set j (some a)) m1) h fun r a v F t m H1 rl sr rx p => p.nx sr (rl.set j rx)
theorem sv_asgLc (g : Gs' T N X k call) {j : Nat} {elt t it : Expr} {ifs : List Expr} {scope : Scope} {mu : Bool} {tg : List Nat} {tup : Bool} {f : Env → Store → R Src} (hj : X.N[j]? = some x) (hs : isSto X.env.scope x = true)
    (hi : IV N X W t it f) (hi2 : okX it = true) (ht : mTg X.N (relS scope X.env.scope) (blkFn scope) tg tup t = true) (hb : blkC X.N X.env.scope scope (ownOf X.N tg) = true)
    (hc : ∀ (s : Shared) (H : Hp) (C : Addr) (cl : List (Str × Addr)) (fp : List Addr), PTs (X.blk s H scope (compEnvC scope cl C X.env) fp) ifs (GL.tB N X.K W00 (tst fc)))
    (he : ∀ (s : Shared) (H : Hp) (C : Addr) (cl : List (Str × Addr)) (fp : List Addr), EV N (X.blk s H scope (compEnvC scope cl C X.env) fp) W00 elt fe) :
    SV N X W (.Assign [.Name x p] (.ListComp elt [⟨t, it, ifs, 0⟩] scope p2) pos) fun r m => O.ofR ((f r m).bind fun s m1 => (match s with
    | .fix xs => if Nat.blt xs.length sz then (lcL tg tup fc fe (wipeE r tg) xs m1).bind fun ys m2 => mkLst mu ys m2 else .bad
    | .live _ => .bad)) r fun a m1 => .nx (r.set j (some a)) m1 := by
  generalize hbb : (X.env.blockKind == .function && X.env.kindOf x == some .local && p.line == p2.line
      && !(scope.names.any fun (n, k) => n == x && (k == .local || k == .cell))) = bb
  have hsw : swapsWith (.ListComp elt [⟨t, it, ifs, 0⟩] scope p2) (some (.Name x p)) pos.line X.env = pure bb := by
    rw [← hbb]
    rfl
  have out : ∀ {D σ H}, tS N X.K W (fun r m => O.ofR ((f r m).bind fun s m1 => (match s with
    | .fix xs => if Nat.blt xs.length sz then (lcL tg tup fc fe (wipeE r tg) xs m1).bind fun ys m2 => mkLst mu ys m2 else .bad
    | .live _ => .bad)) r fun a m1 => .nx (r.set j (some a)) m1) D σ H → tV N X.K W (fun r m => (f r m).bind fun s m1 => (match s with
    | .fix xs => if Nat.blt xs.length sz then (lcL tg tup fc fe (wipeE r tg) xs m1).bind fun ys m2 => mkLst mu ys m2 else .bad
    | .live _ => .bad)) σ H fun v H1 => gName j v σ H1 D.nx := fun {D σ H} h =>
    tS.ofR (rl := RA N X.K) (g := fun r a m1 => .nx (r.set j (some a)) m1) h fun r a v F t m H1 rl sr rx p => p.nx sr (rl.set j rx)
  cases bb with
  | false => exact PS.imp (ps_set g.g.nd hj (isSto_loc hs) (lc_ok (mu := mu) g.g hi hi2 ht hb hc he) hsw (.inl (by rw [g.fn]; rfl))) fun D σ H h => out h
  | true =>
    simp only [Bool.and_eq_true] at hbb
    have hl : X.env.scope.names.lookup x = some .local := eq_of_beq hbb.1.1.2
    refine PS.imp (ps_setLc (wi := tI N X.K W f) (g := gTg N X.K tg tup) (tt := GL.tB N X.K W00 (tst fc)) (te := tV N X.K W00 fe) g.g.calm g.g.nd hj hl hsw hi (blkOk_by hb) (fun s H C cl fp => pg_ok (X := X.blk s H scope (compEnvC scope cl C X.env) fp) g.g.nd g.g.calm ht) hc he (fse_ok hi2 X.env)) fun D σ H h => ?_
    have := lc_in (out h)
    rw [own_snd]
    exact this
theorem sv_asgt (g : Gs' T N X k call) {is : List Nat} {ts : List Expr} {j : Nat} (h : mNms X.N X.env.scope allFn is ts = true) (hv : notTup e = true) (he : EV N X W e fe) : SV N X W (.Assign [.Tuple ts j p] e pos) fun r m => O.ofR (fe r m) r fun x m1 => (match setT is true x m1 r with
    | some r1 => .nx r1 m1
    | none => .bad) := by
  have hg : PG X (.Tuple ts j p) (gTg N X.K is true) := pg_ok g.g.nd g.g.calm (by
    rw [g.fn]
    simp only [mTg, Bool.true_and]
    exact h)
  refine PS.imp (ps_asg he hg (by
    unfold swapsWithSole
    exact sw_none (fun _ _ z => by cases z)) (by
    cases e <;> first | rfl | cases hv)) fun D σ H h => tS.ofR (rl := RA N X.K) (g := fun r x m1 => (match setT is true x m1 r with
    | some r1 => .nx r1 m1
    | none => .bad)) h fun r a v F t m H1 rl sr rx p => ?_
  split at p
  · rename_i r1 e1
    exact ⟨r, F, t, m, a, r1, rl, sr, rx, e1, fun σ1 rl1 _ => p.nx sr rl1⟩
  · exact False.elim p
theorem sv_sfd (g : Gs' T N X k call) {f : Nat} {nm : Str} (hf : N.fl[f]? = some nm) (ho : EV N X W o fa) (he : EV N X W e fe) : SV N X W (.Assign [.Attribute o nm p] e pos) fun r m => O.ofR (fe r m) r fun x m1 => O.ofR (fa r m1) r fun y m2 => (match stA T y f x m2 with
    | some m3 => .nx r m3
    | none => .bad) := by
  refine PS.imp (ps_fld ho he (sw_none (fun _ _ z => by cases z))) fun D σ H ⟨r, F, t, m, h1, h2, p⟩ => ⟨r, F, t, m, h1, h2, POs.ofR (rl := RA N X.K) h1 p fun a m1 v F1 t1 H1 st1 rv p => ⟨r, F1, t1, m1, h1.mono N X.K st1.ext, st1.sr, POs.ofR (rl := RA N X.K) (h1.mono N X.K st1.ext) p fun b m2 w F2 t2 H2 st2 rw p => ?_⟩⟩
  cases hs : stA T b f a m2 with
  | none => rw [hs] at p; exact False.elim p
  | some m3 =>
    rw [hs] at p
    unfold stA at hs
    split at hs
    · rename_i n
      split at hs
      · rename_i C fs hc
        split at hs
        · rename_i hC
          simp only [Bool.and_eq_true] at hC
          cases hs
          cases rw with
          | h hn =>
            obtain ⟨ob, e1, e2, e3⟩ := st2.sr.cel n _ hc
            cases e2 with
            | @ins _ dx vs _ rs =>
              have hl : f < N.fl.length := (List.getElem?_eq_some_iff.mp hf).1
              have es : fnm N f = nm := nm_get hf
              have rv2 := rv.mono N X.K st2.ext
              have st3 := Stp.set (o := .ins (cad N X.K C) dx (putF nm v vs)) (c := .ins C (putFd f a fs)) st2.sr hc (.ins (es ▸ RAf.put g.g.sta.fl hl rv2 rs))
              have ln : vs.length = fs.length := rs.len
              refine ⟨t2 n, _, dx, vs, rfl, e1, (g.g.sta.cls C hC.1).cl, es ▸ g.g.sta.noat C f hC.1 hl, ?_, ?_⟩
              · have := Nat.ble_eq.mp hC.2
                omega
              · exact p σ F2 t2 _ st3 (((h1.mono N X.K st1.ext).mono N X.K st2.ext).mono N X.K st3.ext)
        · cases hs
      · cases hs
    · cases hs
theorem sv_sit (g : Gs' T N X k call) (hix : okX i = true) (ho : EV N X W o fa) (hi : EV N X W i fb) (he : EV N X W e fe) : SV N X W (.Assign [.Subscript o i p] e pos) fun r m => O.ofR (fe r m) r fun x m1 => O.ofR (fa r m1) r fun y m2 => O.ofR (fb r m2) r fun k m3 => (match sitA y k x m3 with
    | some m4 => .nx r m4
    | none => .bad) := by
  refine PS.imp (ps_asg he (pg_sub ho hi set_list (by intro v; cases i <;> first | rfl | cases hix)) (by
    unfold swapsWithSole
    exact sw_none (fun _ _ z => by cases z)) (by
    cases e <;> rfl)) fun D σ H ⟨r, F, t, m, h1, h2, p⟩ => ⟨r, F, t, m, h1, h2, POs.ofR (rl := RA N X.K) h1 p fun a m1 v F1 t1 H1 st1 rv p => ⟨r, F1, t1, m1, h1.mono N X.K st1.ext, st1.sr, POs.ofR (rl := RA N X.K) (h1.mono N X.K st1.ext) p fun b m2 w F2 t2 H2 st2 rw p =>
      ⟨r, F2, t2, m2, (h1.mono N X.K st1.ext).mono N X.K st2.ext, st2.sr, POs.ofR (rl := RA N X.K) ((h1.mono N X.K st1.ext).mono N X.K st2.ext) p fun c m3 u F3 t3 H3 st3 ru p => ?_⟩⟩⟩
  cases hs : sitA b c a m3 with
  | none => rw [hs] at p; exact False.elim p
  | some m4 =>
    rw [hs] at p
    unfold sitA at hs
    split at hs
    · rename_i n
      split at hs
      · rename_i xs z hc
        split at hs
        · rename_i j hj
          cases hs
          have rw3 := rw.mono N X.K st3.ext
          cases rw3 with
          | h hn =>
            obtain ⟨ob, e1, e2, e3⟩ := st3.sr.cel n _ hc
            cases e2 with
            | @lst vs _ rs =>
              cases ru with
              | z ru =>
                cases ru
                have rv2 := (rv.mono N X.K st2.ext).mono N X.K st3.ext
                have st4 := Stp.set (o := .lst (vs.set j v)) (c := .lst (xs.set j a)) st3.sr hc (.lst (RAs.setI rv2 j rs))
                refine ⟨t3 n, vs, z, j, ?_, rfl, e1, by rw [← ixL_eq, rs.len N X.K]; exact hj, ?_⟩
                · rfl
                · exact p σ F3 t3 _ st4 ((((h1.mono N X.K st1.ext).mono N X.K st2.ext).mono N X.K st3.ext).mono N X.K st4.ext)
        · cases hs
      · cases hs
    · cases hs
theorem sv_ret (he : EV N X W e fe) : SV N X W (.Return (some e) pos) fun r m => O.ofR (fe r m) r fun x m1 => .rt x m1 :=
  PS.imp (ps_ret he) fun D σ H h => tS.ofR (rl := RA N X.K) (g := fun r x m1 => .rt x m1) h fun r a v F t m H1 rl sr rx p => p v F t H1 (Stp.refl sr) rx
theorem sv_retn : SV N X W (.Return none pos) fun r m => .rt (.z .non) m :=
  PS.imp ps_retN fun D σ H ⟨r, F, t, m, h1, h2, p⟩ => p .non F t H (Stp.refl h2) (.z .non)
/-- a test, then the rest -/
theorem tst_of {fc : Env → Store → R A} {r : Env} {σ : St} {D : Ends} {F : Hp} {t : Nat → Addr} {m : Store} {H : Hp} {g1 g2 : Store → O} {Q1 : Bool → Hp → Prop} (h1 : Rl N X.K F t m.length r σ) (p : POs N X.K D W F t m H (O.ofR (fc r m) r fun x m1 => (match tru m1 x with
    | some true => g1 m1
    | some false => g2 m1
    | none => .bad)))
    (c : ∀ b m1 F1 t1 H1, Stp N X.K F t m H F1 t1 m1 H1 → POs N X.K D W F1 t1 m1 H1 (if b = true then g1 m1 else g2 m1) → Q1 b H1) : Pst N X.K (rEq' (α := Bool)) (wAt W σ) Q1 F t m H (tst fc r m) := by
  unfold tst
  cases e : fc r m with
  | bad => rw [e] at p; exact p
  | ex C fs m1 => rw [e] at p; exact fun cls d F1 t1 H1 st x => p cls d σ F1 t1 H1 st (h1.mono N X.K st.ext) x
  | ok x m1 =>
    rw [e, O.ofR_ok] at p
    simp only [R.bind_ok]
    cases e2 : tru m1 x with
    | none => rw [e2] at p; exact p
    | some b =>
      rw [e2] at p
      intro b' F1 t1 H1 st eb
      cases eb
      refine c b m1 F1 t1 H1 st ?_
      cases b with
      | true => rw [if_pos rfl]; exact POs.step (o := g1 m1) p st
      | false => rw [if_neg (by simp)]; exact POs.step (o := g2 m1) p st
theorem sv_iff (hc : TV N X W c (tst fc)) (ha : SVs N X W ba ga) (hb : SVs N X W bb gb) : SV N X W (.If c ba bb pos) fun r m => O.ofR (fc r m) r fun x m1 => (match tru m1 x with
    | some true => ga r m1
    | some false => gb r m1
    | none => .bad) :=
  PS.imp (ps_if hc ha hb) fun D σ H ⟨r, F, t, m, h1, h2, p⟩ => ⟨r, F, t, m, h1, h2, tst_of h1 p fun b m1 F1 t1 H1 st p => by
    cases b with
    | true => exact ite_tt ⟨r, F1, t1, m1, h1.mono N X.K st.ext, st.sr, by simpa using p⟩
    | false => exact ite_ff ⟨r, F1, t1, m1, h1.mono N X.K st.ext, st.sr, by simpa using p⟩⟩
theorem sv_whl (g : Gs' T N X k call) (hc : TV N X W c (tst fc)) (hb : SVs N X W ba ga) : SV N X W (.While c ba [] pos) fun r m => whl fc ga W0 r m :=
  PS.imp (ps_while g.own hc hb) fun D σ H h => by
    refine ⟨fun n σ H => tS N X.K W (fun r m => whl fc ga n r m) D σ H, ⟨W0, h⟩, fun n σ H h => ?_⟩
    cases n with
    | zero => obtain ⟨_, _, _, _, _, _, p⟩ := h; exact False.elim p
    | succ n =>
      obtain ⟨r, F, t, m, h1, h2, p⟩ := h
      refine ⟨r, F, t, m, h1, h2, tst_of (g1 := fun m1 => (ga r m1).seq fun r2 m2 => whl fc ga n r2 m2) (g2 := fun m1 => .nx r m1) h1 p fun b m1 F1 t1 H1 st p => ?_⟩
      cases b with
      | true =>
        refine ite_tt ⟨tS N X.K W (fun r m => whl fc ga n r m) D, fun σ' H' q => ⟨n, Nat.lt_succ_self _, q⟩, ⟨r, F1, t1, m1, h1.mono N X.K st.ext, st.sr, ?_⟩⟩
        rw [if_pos rfl] at p
        exact p.seq.ends (fun _ _ q => q) rfl
      | false =>
        rw [if_neg (by simp)] at p
        exact ite_ff (p.nx st.sr (h1.mono N X.K st.ext))
theorem sv_for (g : Gs' T N X k call) {it tgE : Expr} {f : Env → Store → R Src} {tg : List Nat} {tup : Bool} (hi : IV N X W tgE it f) (hi2 : okX it = true) (ht : mTg X.N X.env.scope allFn tg tup tgE = true) (hb : SVs N X W ba ga) :
    SV N X W (.For tgE it ba [] pos) fun r m => O.ofR (f r m) r fun s m1 => (match s with
    | .fix xs => forL tg tup ga xs r m1
    | .live n => forV tg tup ga n W0 0 r m1) := by
  have hg : PG X tgE (gTg N X.K tg tup) := pg_ok g.g.nd g.g.calm (by rw [g.fn]; exact ht)
  refine PS.imp (ps_for g.own g.g.calm hi hg hb (fse_ok hi2 X.env)) fun D σ H ⟨r, F, t, m, h1, h2, p⟩ => ⟨r, F, t, m, h1, h2, POs.ofR (rl := GoesI N X.K) h1 p fun src m0 J F0 t0 H0 st0 gs p => ?_⟩
  have rl0 := h1.mono N X.K st0.ext
  cases src with
  | fix xs =>
    refine ⟨fun i n σ H => n = xs.length - i ∧ i ≤ xs.length ∧ ∃ r F t m, Ext F0 t0 m0.length F t m.length ∧ Rl N X.K F t m.length r σ ∧ SR N X.K F t m H ∧ POs N X.K D W F t m H (forL tg tup ga (xs.drop i) r m), ⟨_, rfl, Nat.zero_le _, r, F0, t0, m0, Ext.refl, rl0, st0.sr, p⟩, ?_⟩
    rintro i n σ1 H1 ⟨rfl, hi, r1, F1, t1, m1, ex, rl1, sr1, p⟩
    by_cases hlt : i < xs.length
    · refine .inr ?_
      have hx : xs[i]? = some xs[i] := List.getElem?_eq_getElem hlt
      obtain ⟨go, yl⟩ := (gs F1 t1 m1 H1 ex sr1 xs rfl i).1 _ hx
      refine ⟨go, fun σ' H' => i + 1 ≤ xs.length ∧ ∃ r F t m, Ext F0 t0 m0.length F t m.length ∧ Rl N X.K F t m.length r σ' ∧ SR N X.K F t m H' ∧ POs N X.K D W F t m H' (forL tg tup ga (xs.drop (i + 1)) r m), fun σ' H' q => ⟨xs.length - (i + 1), by omega, rfl, q⟩, fun x H' y => ?_⟩
      obtain ⟨rfl, rx⟩ := yl x H' y
      rw [List.drop_eq_getElem_cons hlt] at p
      simp only [forL] at p
      cases es : setT tg tup xs[i] m1 r1 with
      | none => rw [es] at p; exact False.elim p
      | some r2 =>
        rw [es] at p
        refine ⟨r1, F1, t1, m1, xs[i], r2, rl1, sr1, rx, es, fun σ2 rl2 _ => ⟨r2, F1, t1, m1, rl2, sr1, ?_⟩⟩
        have key : ∀ o : O, POs N X.K D W F1 t1 m1 H' (o.seq fun r m => forL tg tup ga (xs.drop (i + 1)) r m) → POs N X.K { D with nx := fun σ' H' => i + 1 ≤ xs.length ∧ ∃ r F t m, Ext F0 t0 m0.length F t m.length ∧ Rl N X.K F t m.length r σ' ∧ SR N X.K F t m H' ∧ POs N X.K D W F t m H' (forL tg tup ga (xs.drop (i + 1)) r m), ct := fun σ' H' => i + 1 ≤ xs.length ∧ ∃ r F t m, Ext F0 t0 m0.length F t m.length ∧ Rl N X.K F t m.length r σ' ∧ SR N X.K F t m H' ∧ POs N X.K D W F t m H' (forL tg tup ga (xs.drop (i + 1)) r m), bk := D.nx } W F1 t1 m1 H' o := fun o p => by
          cases o with
          | nx r m2 => exact fun σ' F2 t2 H2 st rl => ⟨hlt, r, F2, t2, m2, ex.trans st.ext, rl, st.sr, POs.step (o := forL tg tup ga (xs.drop (i + 1)) r m2) p st⟩
          | rt a m2 => exact p
          | ex C fs r m2 => exact p
          | bad => exact p
        exact key _ p
    · have e : i = xs.length := by omega
      subst e
      refine .inl ⟨(gs F1 t1 m1 H1 ex sr1 xs rfl _).2 (List.getElem?_eq_none (Nat.le_refl _)), ?_⟩
      rw [List.drop_length] at p
      exact p.nx sr1 rl1
  | live n =>
    refine ⟨fun i k σ H => ∃ r F t m, Ext F0 t0 m0.length F t m.length ∧ Rl N X.K F t m.length r σ ∧ SR N X.K F t m H ∧ POs N X.K D W F t m H (forV tg tup ga n k i r m), ⟨_, r, F0, t0, m0, Ext.refl, rl0, st0.sr, p⟩, ?_⟩
    rintro i k σ1 H1 ⟨r1, F1, t1, m1, ex, rl1, sr1, p⟩
    cases k with
    | zero => exact False.elim p
    | succ k =>
      simp only [forV] at p
      split at p
      · rename_i xs hc
        have hsrc : srcAt (.live n) m1 = some xs := by
          show (match cell m1 n with
            | some (.lst xs) => some xs
            | _ => none) = some xs
          rw [hc]
        split at p
        · rename_i hx
          exact .inl ⟨(gs F1 t1 m1 H1 ex sr1 xs hsrc i).2 hx, p.nx sr1 rl1⟩
        · rename_i a hx
          refine .inr ?_
          obtain ⟨go, yl⟩ := (gs F1 t1 m1 H1 ex sr1 xs hsrc i).1 _ hx
          refine ⟨go, fun σ' H' => ∃ r F t m, Ext F0 t0 m0.length F t m.length ∧ Rl N X.K F t m.length r σ' ∧ SR N X.K F t m H' ∧ POs N X.K D W F t m H' (forV tg tup ga n k (i + 1) r m), fun σ' H' q => ⟨k, Nat.lt_succ_self _, q⟩, fun x H' y => ?_⟩
          obtain ⟨rfl, rx⟩ := yl x H' y
          split at p
          · exact False.elim p
          · rename_i r2 es
            refine ⟨r1, F1, t1, m1, a, r2, rl1, sr1, rx, es, fun σ2 rl2 _ => ⟨r2, F1, t1, m1, rl2, sr1, ?_⟩⟩
            have key : ∀ o : O, POs N X.K D W F1 t1 m1 H' (o.seq fun r m => forV tg tup ga n k (i + 1) r m) → POs N X.K { D with nx := fun σ' H' => ∃ r F t m, Ext F0 t0 m0.length F t m.length ∧ Rl N X.K F t m.length r σ' ∧ SR N X.K F t m H' ∧ POs N X.K D W F t m H' (forV tg tup ga n k (i + 1) r m), ct := fun σ' H' => ∃ r F t m, Ext F0 t0 m0.length F t m.length ∧ Rl N X.K F t m.length r σ' ∧ SR N X.K F t m H' ∧ POs N X.K D W F t m H' (forV tg tup ga n k (i + 1) r m), bk := D.nx } W F1 t1 m1 H' o := fun o p => by
              cases o with
              | nx r m2 => exact fun σ' F2 t2 H2 st rl => ⟨r, F2, t2, m2, ex.trans st.ext, rl, st.sr, POs.step (o := forV tg tup ga n k (i + 1) r m2) p st⟩
              | rt a m2 => exact p
              | ex C fs r m2 => exact p
              | bad => exact p
            exact key _ p
      · exact False.elim p
theorem svs_nil : SVs N X W [] fun r m => .nx r m := PSs.imp pss_nil fun D σ H ⟨r, F, t, m, h1, h2, p⟩ => p.nx h2 h1
theorem svs_cons {s : Stmt} {ss : List Stmt} (h1 : SV N X W s ga) (h2 : SVs N X W ss gb) : SVs N X W (s :: ss) fun r m => (ga r m).seq fun r1 m1 => gb r1 m1 :=
  PSs.imp (pss_cons h1 h2) fun D σ H ⟨r, F, t, m, h1, h2, p⟩ => ⟨r, F, t, m, h1, h2, POs.seq p⟩
theorem sv_raise (g : Gs' T N X k call) (tk : Takes X W) {C : Nat} {c : CDef} {msg : Str} {j : Nat} (hC : N.cl[C]? = some x) (hg : isGlo X.env.scope x = true) (hl : C < T.cls.length) (hc : T.cls[C]? = some c) (hx : c.xfs = some []) :
    SV N X W (.Raise (some (.Call (.Name x p) [.Constant (.str msg) j p2] [] p3)) none pos) fun r m => .ex C [] r m := by
  obtain ⟨e1, e2⟩ := g.g.sta.clg C hl
  rw [nm_get hC] at e1
  obtain ⟨r1, r2, r3⟩ := g.g.sta.rse C c hc hx
  refine PS.imp (ps_raise g.g.calm tk (pmk_own PySem.F.excBase_ValueError r1 e1 e2 (raises_own r2 r3) (isGlo_gl hg).1 (isGlo_gl hg).2)) fun D σ H ⟨r, F, t, m, h1, h2, p⟩ => ?_
  exact p _ none σ F t H (Stp.refl h2) h1 ⟨rfl, .inl ⟨rfl, rfl⟩⟩
end
section
variable {T : Tab} {N : Nms} {L : List Str}
theorem inv_pass {sc : Scope} {x : Stmt} (h : mS T N L sc (.pass ) x = true) : ∃ p, x = .Pass p := by
  unfold mS at h
  split at h <;> try (first | contradiction | cases h)
  try simp only [Bool.and_eq_true, decide_eq_true_eq] at h
  exact ⟨_, rfl⟩
theorem inv_ex {sc : Scope} {x : Stmt} {e} (h : mS T N L sc (.ex e) x = true) : ∃ y p, x = .Expr y p ∧ notLc y = true ∧ mE T N L sc e y = true := by
  unfold mS at h
  split at h <;> try (first | contradiction | cases h)
  rename_i heq
  cases heq
  try simp only [Bool.and_eq_true, decide_eq_true_eq] at h
  exact ⟨_, _, rfl, h⟩
theorem inv_asg {sc : Scope} {x : Stmt} {i e} (h : mS T N L sc (.asg i e) x = true) : ∃ y p v p2, x = .Assign [.Name y p] v p2 ∧ L[i]? = some y ∧ isSto sc y = true ∧ mE T N L sc e v = true := by
  unfold mS at h
  split at h <;> try (first | contradiction | cases h)
  rename_i heq
  cases heq
  try simp only [Bool.and_eq_true, decide_eq_true_eq] at h
  exact ⟨_, _, _, _, rfl, h⟩
theorem inv_asgt {sc : Scope} {x : Stmt} {is e} (h : mS T N L sc (.asgt is e) x = true) : ∃ ts j p v p2, x = .Assign [.Tuple ts j p] v p2 ∧ mNms L sc allFn is ts = true ∧ mE T N L sc e v = true ∧ notTup v = true := by
  unfold mS at h
  split at h <;> try (first | contradiction | cases h)
  rename_i heq
  cases heq
  try simp only [Bool.and_eq_true, decide_eq_true_eq] at h
  exact ⟨_, _, _, _, _, rfl, h⟩
theorem inv_sfd {sc : Scope} {x : Stmt} {o f e} (h : mS T N L sc (.sfd o f e) x = true) : ∃ y nm p v p2, x = .Assign [.Attribute y nm p] v p2 ∧ N.fl[f]? = some nm ∧ mE T N L sc o y = true ∧ mE T N L sc e v = true := by
  unfold mS at h
  split at h <;> try (first | contradiction | cases h)
  rename_i heq
  cases heq
  try simp only [Bool.and_eq_true, decide_eq_true_eq] at h
  exact ⟨_, _, _, _, _, rfl, h⟩
theorem inv_sit {sc : Scope} {x : Stmt} {o i e} (h : mS T N L sc (.sit o i e) x = true) : ∃ y z p v p2, x = .Assign [.Subscript y z p] v p2 ∧ mE T N L sc o y = true ∧ mE T N L sc i z = true ∧ mE T N L sc e v = true := by
  unfold mS at h
  split at h <;> try (first | contradiction | cases h)
  rename_i heq
  cases heq
  try simp only [Bool.and_eq_true, decide_eq_true_eq] at h
  exact ⟨_, _, _, _, _, rfl, h⟩
theorem inv_ret {sc : Scope} {x : Stmt} {e} (h : mS T N L sc (.ret e) x = true) : ∃ y p, x = .Return (some y) p ∧ mE T N L sc e y = true := by
  unfold mS at h
  split at h <;> try (first | contradiction | cases h)
  rename_i heq
  cases heq
  try simp only [Bool.and_eq_true, decide_eq_true_eq] at h
  exact ⟨_, _, rfl, h⟩
theorem inv_retn {sc : Scope} {x : Stmt} (h : mS T N L sc (.retn ) x = true) : ∃ p, x = .Return none p := by
  unfold mS at h
  split at h <;> try (first | contradiction | cases h)
  try simp only [Bool.and_eq_true, decide_eq_true_eq] at h
  exact ⟨_, rfl⟩
theorem inv_iff {sc : Scope} {x : Stmt} {c a b} (h : mS T N L sc (.iff c a b) x = true) : ∃ y z w p, x = .If y z w p ∧ mE T N L sc c y = true ∧ mSs T N L sc a z = true ∧ mSs T N L sc b w = true := by
  unfold mS at h
  split at h <;> try (first | contradiction | cases h)
  rename_i heq
  cases heq
  try simp only [Bool.and_eq_true, decide_eq_true_eq] at h
  exact ⟨_, _, _, _, rfl, h⟩
theorem inv_whl {sc : Scope} {x : Stmt} {c b} (h : mS T N L sc (.whl c b) x = true) : ∃ y z p, x = .While y z [] p ∧ mE T N L sc c y = true ∧ mSs T N L sc b z = true := by
  unfold mS at h
  split at h <;> try (first | contradiction | cases h)
  rename_i heq
  cases heq
  try simp only [Bool.and_eq_true, decide_eq_true_eq] at h
  exact ⟨_, _, _, rfl, h⟩
theorem inv_for_ {sc : Scope} {x : Stmt} {tg tup it b} (h : mS T N L sc (.for_ tg tup it b) x = true) : ∃ t i y p, x = .For t i y [] p ∧ mI T N L sc it i = true ∧ mTg L sc allFn tg tup t = true ∧ mSs T N L sc b y = true := by
  unfold mS at h
  split at h <;> try (first | contradiction | cases h)
  rename_i heq
  cases heq
  try simp only [Bool.and_eq_true, decide_eq_true_eq] at h
  exact ⟨_, _, _, _, rfl, h⟩
theorem inv_raise {sc : Scope} {x : Stmt} {C es} (h : mS T N L sc (.raise C es) x = true) : ∃ y p m j p2 p3 p4 c, x = .Raise (some (.Call (.Name y p) [.Constant (.str m) j p2] [] p3)) none p4 ∧ es = .nil ∧ N.cl[C]? = some y ∧ isGlo sc y = true ∧ C < T.cls.length ∧ T.cls[C]? = some c ∧ c.xfs = some [] := by
  unfold mS at h
  split at h <;> try (first | contradiction | cases h)
  rename_i heq
  cases heq
  simp only [Bool.and_eq_true, decide_eq_true_eq] at h
  obtain ⟨h1, h2, h3, h4⟩ := h
  split at h4
  · rename_i c hc
    exact ⟨_, _, _, _, _, _, _, c, rfl, rfl, h1, h2, h3, hc, by simpa using h4⟩
  · cases h4
end
/-! ### the whole -/
section
variable (T : Tab) (N : Nms) (k : Nat) (call : Nat → List A → Store → R A)
def SS (s : S) : Prop := ∀ (X : Cx) (W : WX) (x : Stmt), Gs' T N X k call → Takes X W → mS T N X.N X.env.scope s x = true → SV N X W x (exS T call s)
def SSs (s : Ss) : Prop := ∀ (X : Cx) (W : WX) (xs : List Stmt), Gs' T N X k call → Takes X W → mSs T N X.N X.env.scope s xs = true → SVs N X W xs (exSs T call s)
variable {T N k call}
theorem mE_lc {L : List Str} {sc : Scope} {elt : Expr} {gs : List Comprehension} {scope : Scope} {p : Pos} : ∀ {e : E}, mE T N L sc e (.ListComp elt gs scope p) = true → ∃ mu tg tup it cond e1, e = .lc mu tg tup it cond e1
  | .lc mu tg tup it cond e1, _ => ⟨mu, tg, tup, it, cond, e1, rfl⟩
  | .frz a, h => by cases h
  | .var _, h => by cases h
  | .cst _, h => by cases h
  | .glo _, h => by cases h
  | .bin _ _ _, h => by cases h
  | .neg _, h => by cases h
  | .not _, h => by cases h
  | .cmp _ _ _, h => by cases h
  | .cmp2 _ _ _ _ _, h => by cases h
  | .and _, h => by cases h
  | .or _, h => by cases h
  | .ife _ _ _, h => by cases h
  | .lst _ _, h => by cases h
  | .tup _, h => by cases h
  | .dct _, h => by cases h
  | .idx _ _, h => by cases h
  | .slc _ _ _, h => by cases h
  | .att _ _, h => by cases h
  | .fn1 _ _ _, h => by cases h
  | .fn2 _ _ _, h => by cases h
  | .call _ _, h => by cases h
  | .make _ _, h => by cases h
  | .meth _ _ _, h => by cases h
  | .bm0 _ _, h => by cases h
  | .bm1 _ _ _, h => by cases h
  | .isi _ _, h => by cases h
theorem mE_ok2 {x : Expr} {L : List Str} {sc : Scope} {e : E} (hm : mE T N L sc e x = true) : okX x = true := by
  cases h : okX x with
  | true => rfl
  | false =>
    rw [mE_okX h] at hm
    cases hm
theorem notLc_cases {x : Expr} (h : notLc x = false) {L : List Str} {sc : Scope} {e : E} (hm : mE T N L sc e x = true) : ∃ elt gs scope p, x = .ListComp elt gs scope p := by
  cases x <;> first | exact ⟨_, _, _, _, rfl⟩ | (rw [mE_okX rfl] at hm; cases hm) | cases h
mutual
theorem sS : ∀ s : S, SS T N k call s
  | .pass => fun X W x g tk h => by
    obtain ⟨p, rfl⟩ := inv_pass h
    exact sv_pass
  | .ex e => fun X W x g tk h => by
    obtain ⟨y, p, rfl, h1, h2⟩ := inv_ex h
    exact sv_ex h1 (sE e X W y g.g tk h2).1
  | .asg i e => fun X W x g tk h => by
    obtain ⟨y, p, v, p2, rfl, h1, h2, h3⟩ := inv_asg h
    cases hn : notLc v with
    | true => exact sv_asg g h1 h2 hn (sE e X W v g.g tk h3).1
    | false =>
      obtain ⟨elt, gs, scope, p3, rfl⟩ := notLc_cases hn h3
      obtain ⟨mu, tg, tup, it, cond, e1, rfl⟩ := mE_lc h3
      obtain ⟨elt, t, i, ifs, scope, p, e, q1, q2, q3, q4, q5⟩ := inv_lc h3
      cases e
      exact sv_asgLc g h1 h2 (sI it X W i t g.g tk q1) (mI_okX q1) q2 q5 (fun s H C cl fp => (sO cond (X.blk s H scope (compEnvC scope cl C X.env) fp) W00 g.g.blk takes_blk).2 ifs q3) fun s H C cl fp => (sE e1 (X.blk s H scope (compEnvC scope cl C X.env) fp) W00 elt g.g.blk takes_blk q4).1
  | .asgt is e => fun X W x g tk h => by
    obtain ⟨ts, j, p, v, p2, rfl, h1, h2, h3⟩ := inv_asgt h
    exact sv_asgt g h1 h3 (sE e X W v g.g tk h2).1
  | .sfd o f e => fun X W x g tk h => by
    obtain ⟨y, nm, p, v, p2, rfl, h1, h2, h3⟩ := inv_sfd h
    exact sv_sfd g h1 (sE o X W y g.g tk h2).1 (sE e X W v g.g tk h3).1
  | .sit o i e => fun X W x g tk h => by
    obtain ⟨y, z, p, v, p2, rfl, h1, h2, h3⟩ := inv_sit h
    exact sv_sit g (mE_ok2 h2) (sE o X W y g.g tk h1).1 (sE i X W z g.g tk h2).1 (sE e X W v g.g tk h3).1
  | .ret e => fun X W x g tk h => by
    obtain ⟨y, p, rfl, h1⟩ := inv_ret h
    exact sv_ret (sE e X W y g.g tk h1).1
  | .retn => fun X W x g tk h => by
    obtain ⟨p, rfl⟩ := inv_retn h
    exact sv_retn
  | .iff c a b => fun X W x g tk h => by
    obtain ⟨y, z, w, p, rfl, h1, h2, h3⟩ := inv_iff h
    exact sv_iff (sE c X W y g.g tk h1).2 (sSs a X W z g tk h2) (sSs b X W w g tk h3)
  | .whl c b => fun X W x g tk h => by
    obtain ⟨y, z, p, rfl, h1, h2⟩ := inv_whl h
    exact sv_whl g (sE c X W y g.g tk h1).2 (sSs b X W z g tk h2)
  | .for_ tg tup it b => fun X W x g tk h => by
    obtain ⟨t, i, y, p, rfl, h1, h2, h3⟩ := inv_for_ h
    exact sv_for g (sI it X W i t g.g tk h1) (mI_okX h1) h2 (sSs b X W y g tk h3)
  | .raise C es => fun X W x g tk h => by
    obtain ⟨y, p, m, j, p2, p3, p4, c, rfl, rfl, h1, h2, h3, h4, h5⟩ := inv_raise h
    refine PS.imp (sv_raise g tk h1 h2 h3 h4 h5) fun D σ H ⟨r, F, t, m, q1, q2, p⟩ => ⟨r, F, t, m, q1, q2, ?_⟩
    simp only [exS, evs, O.ofR_ok, allZ, h4, h5, Option.bind_some, excFs] at p
    exact p
  | .try_ b hs => fun X W x g tk h => by
    cases x <;> cases h
theorem sSs : ∀ s : Ss, SSs T N k call s
  | .nil => fun X W xs g tk h => by
    cases xs with
    | nil => exact svs_nil
    | cons y r => cases h
  | .cons s ss => fun X W xs g tk h => by
    cases xs with
    | nil => cases h
    | cons y r =>
      have h : (mS T N X.N X.env.scope s y && mSs T N X.N X.env.scope ss r) = true := h
      rw [Bool.and_eq_true] at h
      exact svs_cons (sS s X W y g tk h.1) (sSs ss X W r g tk h.2)
end
end
end GL

/-! G17: functions. -/
namespace GL
open PySem L2
theorem zip_look : ∀ {ps : List Str} {us : List Value}, us.length = ps.length → ∀ n ∈ ps, ((ps.zip us).lookup n).isNone = false
  | p :: ps, u :: us, h, n, hn => by
    rw [List.zip_cons_cons, List.lookup_cons]
    cases e : n == p with
    | true => rfl
    | false =>
      rcases List.mem_cons.mp hn with rfl | hn
      · simp at e
      · exact zip_look (by simpa using h) n hn
  | [], us, h, n, hn => by simp at hn
  | p :: ps, [], h, n, hn => by simp at h
theorem zip_fm : ∀ {ps : List Str} {us : List Value}, ps.Nodup → us.length = ps.length → (ps.filterMap fun n => ((ps.zip us).lookup n).map (n, ·)) = ps.zip us
  | [], _, _, h => by simp
  | p :: ps, [], _, h => by simp at h
  | p :: ps, u :: us, nd, h => by
    obtain ⟨n1, n2⟩ := List.nodup_cons.mp nd
    rw [List.zip_cons_cons, List.filterMap_cons]
    rw [List.lookup_cons]
    simp only [beq_self_eq_true]
    show (p, u) :: _ = _
    congr 1
    have ih := zip_fm n2 (by simpa using h : us.length = ps.length)
    have key : ∀ l : List Str, (∀ n ∈ l, n ≠ p) → (l.filterMap fun n => (List.lookup n ((p, u) :: ps.zip us)).map (n, ·)) = l.filterMap fun n => ((ps.zip us).lookup n).map (n, ·) := fun l hl => by
      induction l with
      | nil => rfl
      | cons a l ih =>
        rw [List.filterMap_cons, List.filterMap_cons, ih fun n hn => hl n (List.mem_cons_of_mem _ hn), List.lookup_cons]
        have : (a == p) = false := beq_eq_false_iff_ne.mpr (hl a (by simp))
        rw [this]
    rw [key ps fun n hn z => n1 (z ▸ hn), ih]
theorem bind_pos {x qual : Str} {as : List Arg} {ds : List Expr} {body : List Stmt} {scope : Scope} {kV doc pm cdv ct : Value} {an : Option Addr} {us : List Value} (nd : (as.map (·.arg)).Nodup) (hl : us.length = (as.map (·.arg)).length) :
    bindArgs (PySem.W.fnOf x qual ⟨[], as, none, [], [], none, ds⟩ body scope .none kV doc pm an cdv ct) ⟨us, []⟩ = pure ((as.map (·.arg)).zip us) := by
  have hl2 : us.length = as.length := by simpa using hl
  have e1 : List.filter (fun n => (List.lookup n ((as.map (·.arg)).zip us)).isNone) (as.map (·.arg)) = [] := List.filter_eq_nil_iff.mpr fun n hn => by rw [zip_look hl n hn]; simp
  have e2 := zip_fm nd hl
  have e3 : List.take as.length (as.map (·.arg)) = as.map (·.arg) := List.take_of_length_le (by simp)
  unfold bindArgs PySem.W.fnOf
  simp only [seqItems?, notAStandIn, List.map_nil, List.nil_append, List.append_nil, List.length_map, hl2, e1, e2, e3, List.length_nil, Nat.sub_zero, Nat.zero_sub, List.drop_nil, gt_iff_lt, Nat.lt_irrefl, false_and, if_false, List.isEmpty_nil, Bool.not_true, Bool.false_eq_true, Option.isNone_none, Option.getD_none, pure_bind, bind_pure, List.forIn_nil, List.zip_nil_right, decide_false, Bool.false_and, List.toList_toArray]
/-! ### a def's end -/
section
variable {N : Nms} {K : PySem.W.Frag} {F F' : Hp} {t t' : Nat → Addr} {L L' : Nat} {m m' : Store} {H H' : Hp}
theorem RA.bel {v : V} {a : A} (r : RA N K F t L v a) : belA L a = true := by
  cases r with
  | z _ => rfl
  | h hn => exact Nat.ble_eq.mpr hn
theorem RA.cut {v : V} {a : A} (r : RA N K F t L' v a) (h : belA L a = true) : RA N K F t L v a := by
  cases r with
  | z r => exact .z r
  | h hn => exact .h (Nat.ble_eq.mp h)
theorem RAs.bel : ∀ {v : List V} {a : List A}, RAs N K F t L v a → a.all (belA L) = true
  | _, _, .nil => rfl
  | _, _, .cons h r => by rw [List.all_cons, h.bel, RAs.bel r]; rfl
theorem RAs.cutL : ∀ {v : List V} {a : List A}, RAs N K F t L' v a → a.all (belA L) = true → RAs N K F t L v a
  | _, _, .nil, _ => .nil
  | _, _, .cons h r, e => by
    rw [List.all_cons, Bool.and_eq_true] at e
    exact .cons (h.cut e.1) (RAs.cutL r e.2)
theorem RAf.bel : ∀ {v : List (Str × V)} {a : List (Nat × A)}, RAf N K F t L v a → a.all (fun p => belA L p.2) = true
  | _, _, .nil => rfl
  | _, _, .cons _ h r => by rw [List.all_cons, h.bel, RAf.bel r]; rfl
theorem RAf.cutL : ∀ {v : List (Str × V)} {a : List (Nat × A)}, RAf N K F t L' v a → a.all (fun p => belA L p.2) = true → RAf N K F t L v a
  | _, _, .nil, _ => .nil
  | _, _, .cons q h r, e => by
    rw [List.all_cons, Bool.and_eq_true] at e
    exact .cons q (h.cut e.1) (RAf.cutL r e.2)
theorem RAk.bel : ∀ {v : List (Key × V)} {a : List (D × A)}, RAk N K F t L v a → a.all (fun p => belA L p.2) = true
  | _, _, .nil => rfl
  | _, _, .cons _ h r => by rw [List.all_cons, h.bel, RAk.bel r]; rfl
theorem RAk.cutL : ∀ {v : List (Key × V)} {a : List (D × A)}, RAk N K F t L' v a → a.all (fun p => belA L p.2) = true → RAk N K F t L v a
  | _, _, .nil, _ => .nil
  | _, _, .cons q h r, e => by
    rw [List.all_cons, Bool.and_eq_true] at e
    exact .cons q (h.cut e.1) (RAk.cutL r e.2)
theorem RAt.bel : ∀ {v : List (List Key × V)} {a : List (D × A)}, RAt N K F t L v a → a.all (fun p => belA L p.2) = true
  | _, _, .nil => rfl
  | _, _, .cons _ h r => by rw [List.all_cons, h.bel, RAt.bel r]; rfl
theorem RAt.cutL : ∀ {v : List (List Key × V)} {a : List (D × A)}, RAt N K F t L' v a → a.all (fun p => belA L p.2) = true → RAt N K F t L v a
  | _, _, .nil, _ => .nil
  | _, _, .cons q h r, e => by
    rw [List.all_cons, Bool.and_eq_true] at e
    exact .cons q (h.cut e.1) (RAt.cutL r e.2)
theorem RN.bel {o : HO} {c : Nd} (r : RN N K F t L o c) : belN L c = true := by
  cases r with
  | lst r => exact r.bel
  | tup r => exact r.bel
  | dK r => exact r.bel
  | dT r => exact r.bel
  | ins r => exact r.bel
theorem RN.cut {o : HO} {c : Nd} (r : RN N K F t L' o c) (h : belN L c = true) : RN N K F t L o c := by
  cases r with
  | lst r => exact .lst (r.cutL h)
  | tup r => exact .tup (r.cutL h)
  | dK r => exact .dK (r.cutL h)
  | dT r => exact .dT (r.cutL h)
  | ins r => exact .ins (r.cutL h)
theorem Stp.drp (sr : SR N K F t m H) (st : Stp N K F t m H F' t' m' H') : Stp N K F t m H F' t' (GL.drp m m') H' := by
  unfold GL.drp
  split
  · rename_i hk
    refine st.drop (Nat.le_refl _) st.ext.len fun n c o hn hc r => r.cut ?_
    rcases hk.2 n hn with e | e
    · have hc0 : GL.cell m n = some c := by
        unfold GL.cell at hc ⊢
        rw [e] at hc
        exact hc
      obtain ⟨o0, _, r0, _⟩ := sr.cel n c hc0
      exact r0.bel
    · exact e c hc
  · exact st
theorem drp_len (h : m.length ≤ m'.length) : m.length ≤ (GL.drp m m').length := by
  unfold GL.drp
  split
  · simp; omega
  · exact h
theorem fin_ok {E : XK} {Q : VK} {o : O} (sr : SR N K F t m H) (p : PstA N K E Q F t m H (fin m o)) : POs N K { nx := fun _ H' => Q .non H', rt := Q } (fun cls d _ H => E cls d H) F t m H o := by
  cases o with
  | nx r m1 => exact fun σ' F1 t1 H1 st rl => p .non F1 t1 H1 (st.drp sr) (.z .non)
  | rt a m1 =>
    cases a with
    | z d =>
      intro v F1 t1 H1 st rv
      cases rv with
      | z rv => exact p v F1 t1 H1 (st.drp sr) (.z rv)
    | h n =>
      intro v F1 t1 H1 st rv
      simp only [fin] at p
      by_cases hn : n < m.length
      · rw [if_pos hn] at p
        refine p v F1 t1 H1 (st.drp sr) (rv.cut ?_)
        exact Nat.ble_eq.mpr (Nat.lt_of_lt_of_le hn (drp_len st.ext.len))
      · rw [if_neg hn] at p
        exact p v F1 t1 H1 st rv
  | ex C fs r m1 => exact fun cls d σ F1 t1 H1 st rl x => p cls d F1 t1 H1 (st.drp sr) x
  | bad => exact p
end
/-! ### the text's defs -/
def funS (x : Str) : List Stmt → Option (Arguments × List Stmt × Scope)
  | [] => none
  | .FunctionDef n a b _ _ _ sc _ _ _ :: r => if decide (n = x) then some (a, b, sc) else funS x r
  | _ :: r => funS x r
def clsS (x : Str) : List Stmt → Option (List Stmt)
  | [] => none
  | .ClassDef n _ _ b _ _ _ _ _ _ _ :: r => if decide (n = x) then some b else clsS x r
  | _ :: r => clsS x r
def defS (body : List Stmt) (p : Str × Option Str) : Option (Arguments × List Stmt × Scope) := match p.2 with
  | none => funS p.1 body
  | some m => (clsS p.1 body).bind (funS m)
def qualS (p : Str × Option Str) : Str := match p.2 with
  | none => p.1
  | some m => p.1 ++ "." ++ m
def nameS (p : Str × Option Str) : Str := match p.2 with
  | none => p.1
  | some m => m
def toDv : D → He.Dv
  | .bl b => .bl b
  | .int i => .int i
  | .str x => .str (tx x)
  | _ => .non
theorem toDv_v (K : PySem.W.Frag) (d : D) : (toDv d).v K = dvV d := by cases d <;> rfl
/-- the def of a function of the table -/
def dOf (body : List Stmt) (p : Str × Option Str) (fd : FDef) : He.DefD := match defS body p with
  | some (a, b, sc) => ⟨p, nameS p, qualS p, a, b, sc, fd.dfl.map toDv, []⟩
  | none => ⟨p, nameS p, qualS p, ⟨[], [], none, [], [], none, []⟩, [], ⟨.module, [], false, false, []⟩, [], []⟩
/-- does a def say what the table says -/
def ckDef (T : Tab) (N : Nms) (L : List Str) (fd : FDef) (d : He.DefD) : Bool := match d.params with
  | ⟨[], as, none, [], [], none, _⟩ => decide (as.map (·.arg) = L.take fd.ps) && (decide (fd.ps ≤ L.length) && (decide (L.length = fd.slots) && (decide L.Nodup && ((match d.scope.kind with
    | .function => true
    | _ => false) && (!d.scope.isCoroutine && (!d.scope.isGenerator && ((L.take fd.ps).all (fun x => isSto d.scope x) && (d.scope.names.all (fun y => decide (y.2 ≠ .free)) && (fd.dfl.all flatD && mSs T N L d.scope fd.body d.body)))))))))
  | _ => false
theorem ckDef_ok {T : Tab} {N : Nms} {L : List Str} {fd : FDef} {d : He.DefD} (h : ckDef T N L fd d = true) : ∃ as ds, d.params = ⟨[], as, none, [], [], none, ds⟩ ∧ as.map (·.arg) = L.take fd.ps ∧ fd.ps ≤ L.length ∧ L.length = fd.slots ∧ FnScope L (L.take fd.ps) d.scope ∧
    fd.dfl.all flatD = true ∧ mSs T N L d.scope fd.body d.body = true := by
  unfold ckDef at h
  split at h
  · rename_i as ds hp
    simp only [Bool.and_eq_true, decide_eq_true_eq, Bool.not_eq_true', List.all_eq_true] at h
    obtain ⟨h1, h2, h3, h4, h5, h6, h7, h8, h9, h10, h11⟩ := h
    refine ⟨as, ds, hp, h1, h2, h3, ⟨?_, h6, h7, h4, ?_, fun x hx => isSto_loc (h8 x hx), fun y hy => h9 y hy⟩, List.all_eq_true.mpr h10, h11⟩
    · split at h5
      · assumption
      · cases h5
    · rw [List.length_take]
      congr 1
      omega
  · cases h
/-- the static facts of a table at a heap -/
structure Tx (T : Tab) (N : Nms) (Ls : List (List Str)) (body : List Stmt) (K : PySem.W.Frag) : Prop where
  ck : ∀ (f : Nat) (fd : FDef), T.fns[f]? = some fd → ∃ L p, Ls[f]? = some L ∧ N.fn[f]? = some p ∧ ckDef T N L fd (dOf body p fd) = true ∧ ∃ fdat, FunD K (dOf body p fd).name (dOf body p fd).qual (dOf body p fd).params (dOf body p fd).body (dOf body p fd).scope ((dOf body p fd).dvs K) [] (He.fAd K p) fdat ∧
    (fd.dfl ≠ [] → ∀ j, ∃ ds, Vals ((fd.dfl.drop j).map dvV) ds ∧ Binds K fdat (L.take fd.ps) ds)
section
variable {T : Tab} {N : Nms} {Ls : List (List Str)} {body : List Stmt} {K : PySem.W.Frag} {P : Program} {w : World} {mg : Str → Option Value} {base : Heap}
theorem start_eq {L : List Str} {vs : List V} {F : Hp} {t : Nat → Addr} {l : Nat} {as : List A} {n : Nat} (hn : L.length = n) (r : RAs N K F t l vs as) : Rl N K F t l (as.map some ++ List.replicate (n - as.length) none) (L2.start L vs) := by
  have e := r.len N K
  unfold L2.start
  rw [hn, e]
  refine ⟨by simp [e], fun i a h => ?_⟩
  by_cases hi : i < as.length
  · rw [List.getElem?_append_left (by simpa using hi), List.getElem?_map] at h
    cases q : as[i]? with
    | none => rw [q] at h; cases h
    | some b =>
      rw [q] at h
      cases h
      obtain ⟨v, e1, e2⟩ := r.get N K q
      exact ⟨v, by rw [List.getElem?_append_left (by simpa [e] using hi), List.getElem?_map, e1]; rfl, e2⟩
  · rw [List.getElem?_append_right (by simpa using hi), List.getElem?_replicate] at h
    split at h <;> cases h
/-- a def keeps its promise where its callees do -/
theorem fn_lv (S : Sta T N K mg) {n f : Nat} {fd : FDef} {L : List Str} {p : Str × Option Str} {fdat : FuncData} (ih : Cal T N K P w mg base (2 * n) (callF T n)) (hf : T.fns[f]? = some fd) (h2 : N.fn[f]? = some p) (h3 : ckDef T N L fd (dOf body p fd) = true)
    (F : FunD K (dOf body p fd).name (dOf body p fd).qual (dOf body p fd).params (dOf body p fd).body (dOf body p fd).scope ((dOf body p fd).dvs K) [] (He.fAd K p) fdat) :
    FnOk P w K mg base (L2.CX P w) (2 * (n + 1)) (fad N K f) fdat (L.take fd.ps) (spD N K fd.ps (callF T (n + 1) f)) := by
  obtain ⟨as, ds, e1, e2, e3, e4, SC, e6, e7⟩ := ckDef_ok h3
  have ef : fad N K f = He.fAd K p := by
    unfold fad
    rw [List.getD_eq_getElem?_getD, h2]
    rfl
  rw [ef, show 2 * (n + 1) = (2 * n + 1) + 1 by omega]
  refine F.ok SC (fun vs H Q E ⟨_, _, _, _, hl, _⟩ => by rw [List.length_take]; omega) fun cdv A outer s H vs Q E hr ⟨F1, t1, m1, as1, hl, sr, ra, q⟩ => ?_
  refine ⟨tS N K (fun cls d _ H => E cls d H) (exSs T (callF T n) fd.body), ?_, as1.map some ++ List.replicate (fd.slots - fd.ps) none, F1, t1, m1, ?_, sr, ?_⟩
  · refine sSs fd.body (cxOf (L2.CX P w) P w K mg base L _ _ (He.fAd K p) cdv A outer s H E) (fun cls d _ H => E cls d H) _ ⟨⟨rfl, SC.nd, hr, S, ih⟩, passes_of rfl, rfl⟩ (takes_of rfl rfl rfl rfl) e7
  · have el : as1.length = fd.ps := by rw [← ra.len N K, hl]
    have := start_eq e4 ra
    rw [el] at this
    exact this
  · have el : as1.length = fd.ps := by rw [← ra.len N K, hl]
    have eb : Nat.beq as1.length fd.ps = true := by rw [el]; exact Nat.beq_refl _
    simp only [callF, hf, eb, if_true] at q
    exact fin_ok sr q
/-- each def keeps its promise at every level -/
theorem cal_ok (S : Sta T N K mg) (X : Tx T N Ls body K) : ∀ n, Cal T N K P w mg base (2 * n) (callF T n)
  | 0 => by
    refine ⟨fun f fd hf => ?_, fun f fd hf => ?_, fun f as m hf => rfl, fun f fd as m hf hl => rfl⟩
    · obtain ⟨L, p, h1, h2, h3, fdat, F, hb⟩ := X.ck f fd hf
      obtain ⟨as, ds, e1, e2, e3, e4, SC, e6, e7⟩ := ckDef_ok h3
      refine ⟨fdat, L.take fd.ps, ⟨fun vs H Q E ⟨_, _, _, _, hl, _⟩ => ?_, fun A outer s H args us vs Q E hr e0 hbd r ⟨_, _, _, _, _, _, _, p⟩ => False.elim p⟩, fun j => ?_⟩
      · rw [List.length_take]; omega
      · by_cases hd : fd.dfl = []
        · rw [hd, List.drop_nil]
          refine ⟨[], .nil, ?_⟩
          have ed : (dOf body p fd).dvs K = [] := by
            unfold He.DefD.dvs dOf
            split <;> simp [hd]
          rw [ed, e1] at F
          rw [← e2]
          have nd : (as.map (·.arg)).Nodup := by
            rw [e2]
            exact SC.nd.sublist (List.take_sublist _ _)
          exact FunD.bindsN F fun _ _ _ _ _ _ us hl => bind_pos nd hl
        · exact hb hd j
    · obtain ⟨L, p, h1, h2, h3, _⟩ := X.ck f fd hf
      obtain ⟨as, ds, e1, e2, e3, e4, SC, e6, e7⟩ := ckDef_ok h3
      exact e6
  | n + 1 => by
    have ih := cal_ok S X n
    refine ⟨fun f fd hf => ?_, ih.dfl, fun f as m hf => ?_, fun f fd as m hf hl => ?_⟩
    · obtain ⟨fdat, ps, F0, hb⟩ := ih.ok f fd hf
      obtain ⟨L, p, h1, h2, h3, fdat2, F, hb2⟩ := X.ck f fd hf
      obtain ⟨as, ds, e1, e2, e3, e4, SC, e6, e7⟩ := ckDef_ok h3
      refine ⟨fdat2, L.take fd.ps, ?_, fun j => ?_⟩
      · exact fn_lv S ih hf h2 h3 F
      · by_cases hd : fd.dfl = []
        · rw [hd, List.drop_nil]
          refine ⟨[], .nil, ?_⟩
          have ed : (dOf body p fd).dvs K = [] := by
            unfold He.DefD.dvs dOf
            split <;> simp [hd]
          rw [ed, e1] at F
          rw [← e2]
          have nd : (as.map (·.arg)).Nodup := by
            rw [e2]
            exact SC.nd.sublist (List.take_sublist _ _)
          exact FunD.bindsN F fun _ _ _ _ _ _ us hl => bind_pos nd hl
        · exact hb2 hd j
    · simp only [callF, hf]
    · simp only [callF, hf]
      rw [if_neg]
      intro z
      exact hl (Nat.eq_of_beq_eq_true z)
end
end GL

/-! G18: the static facts by the kernel; the law's end. -/
namespace GL
open PySem L2
section
variable (T : Tab) (N : Nms) (K : PySem.W.Frag)
def cnm (C : Nat) : Str := N.cl.getD C Str.empty
def clB (C : Nat) : Bool := (He.Fa.cls (cnm N C)).ok K && (He.eqO (PySem.W.findIn K (.ref (cad N K C)) "__class__") (some (some (.builtin "object.__class__"))) && (He.eqO (PySem.W.specialIn K (.builtin "object.__class__") "__get__") (some (some (.builtin "getset_descriptor.__get__"))) &&
  (decide (PySem.W.takesIn K (.builtin "object.__class__") = some true) && decide (PySem.W.mroIn K (cad N K C) (.type "object") = some true))))
def tysL : List Ty := (List.range T.cls.length).map .cls ++ [.int, .bool, .str, .list, .tuple]
def kdsL : List Kd := ((List.range T.cls.length).filter (insC T)).map .cls ++ [.non, .bl, .int, .str, .list, .tuple]
def cB (C : Nat) (c : CDef) : Bool := (He.Fa.glo (cnm N C)).ok K && (PySem.W.keepIn K (.ref (cad N K C)) && (match c.xfs with
  | none => clB N K C && (((List.range N.fl.length).all fun f => (He.Fa.noat (cnm N C) (fnm N f)).ok K) && ((match c.init with
      | some f => PySem.W.makesIn K (cad N K C) && (He.eqO (PySem.W.findIn K (.ref (cad N K C)) "__init__") (some (some (.ref (fad N K f)))) && PySem.W.isFn K (.ref (fad N K f)))
      | none => PySem.W.makesIn K (cad N K C) && He.eqO (PySem.W.findIn K (.ref (cad N K C)) "__init__") (some (some (.builtin "object.__init__")))) &&
      c.meths.all fun p => He.eqO (PySem.W.findIn K (.ref (cad N K C)) (N.mt.getD p.1 Str.empty)) (some (some (.ref (fad N K p.2)))) && (PySem.W.isFn K (.ref (fad N K p.2)) && (PySem.W.keepIn K (.ref (fad N K p.2)) && decide (N.mt.getD p.1 Str.empty ∉ N.fl)))))
  | some [] => (He.Fa.exc (cnm N C)).ok K
  | some _ => true))
def csB : Nat → List CDef → Bool
  | _, [] => true
  | C, c :: r => cB N K C c && csB (C + 1) r
def fnB : Str × Option Str → Bool
  | (x, none) => (He.Fa.glo x).ok K && PySem.W.keepIn K (.ref (He.fAd K (x, none)))
  | _ => true
def staB : Bool := decide N.fl.Nodup && (csB N K 0 T.cls && (((tysL T).all fun t => (kdsL T).all fun k => decide (PySem.W.kitOne K (kdV N K k) (tyU N K t) = some (isK T t k))) && ((names1.all fun x => (He.Fa.free x).ok K) && N.fn.all (fnB K))))
variable {T N K}
theorem csB_ok : ∀ {l : List CDef} {n C : Nat} {c : CDef}, csB N K n l = true → l[C]? = some c → cB N K (n + C) c = true
  | [], _, _, _, _, h => by simp at h
  | d :: r, n, 0, c, h, e => by
    cases e
    exact (He.ba (show (cB N K n _ && csB N K (n + 1) r) = true from h)).1
  | d :: r, n, C + 1, c, h, e => by
    have := csB_ok (He.ba (show (cB N K n d && csB N K (n + 1) r) = true from h)).2 e
    rw [show n + (C + 1) = n + 1 + C by omega]
    exact this
theorem insC_ok {C : Nat} (h : insC T C = true) : ∃ c, T.cls[C]? = some c ∧ c.xfs = none := by
  unfold insC at h
  split at h
  · rename_i c hc
    exact ⟨c, hc, Option.isNone_iff_eq_none.mp h⟩
  · cases h
theorem lookF_mem {α : Type} {f : Nat} {x : α} : ∀ {l : List (Nat × α)}, lookF f l = some x → (f, x) ∈ l
  | [], h => by cases h
  | (g, v) :: r, h => by
    unfold lookF at h
    split at h
    · rename_i e
      have e := Nat.eq_of_beq_eq_true e
      cases h
      rw [e]
      exact List.mem_cons_self
    · exact List.mem_cons_of_mem _ (lookF_mem h)
theorem sta_ok {h : Heap} {mg : Str → Option Value} (X : K.In h) (G : h.Ns mainGlobals mg) (c : staB T N K = true) : Sta T N K mg := by
  unfold staB at c
  simp only [Bool.and_eq_true] at c
  obtain ⟨c1, c2, c3, c4, c5⟩ := c
  have cc : ∀ {C : Nat} {c : CDef}, T.cls[C]? = some c → cB N K C c = true := fun {C c} e => by
    have := csB_ok c2 e
    rwa [Nat.zero_add] at this
  have cn : ∀ {C : Nat} {c : CDef}, T.cls[C]? = some c → c.xfs = none → (clB N K C && (((List.range N.fl.length).all fun f => (He.Fa.noat (cnm N C) (fnm N f)).ok K) && ((match c.init with
      | some f => PySem.W.makesIn K (cad N K C) && (He.eqO (PySem.W.findIn K (.ref (cad N K C)) "__init__") (some (some (.ref (fad N K f)))) && PySem.W.isFn K (.ref (fad N K f)))
      | none => PySem.W.makesIn K (cad N K C) && He.eqO (PySem.W.findIn K (.ref (cad N K C)) "__init__") (some (some (.builtin "object.__init__")))) &&
      c.meths.all fun p => He.eqO (PySem.W.findIn K (.ref (cad N K C)) (N.mt.getD p.1 Str.empty)) (some (some (.ref (fad N K p.2)))) && (PySem.W.isFn K (.ref (fad N K p.2)) && (PySem.W.keepIn K (.ref (fad N K p.2)) && decide (N.mt.getD p.1 Str.empty ∉ N.fl)))))) = true := fun {C c} e hx => by
    have := (He.ba (He.ba (cc e)).2).2
    rw [hx] at this
    exact this
  refine ⟨of_decide_eq_true c1, fun C hC => ?_, fun C f hC hf => ?_, fun t k ht hk => ?_, fun C hl => ?_, fun C c f e hx hi => ?_, fun C c e hx hi => ?_, fun C c mt f e hx hm => ?_, fun x hx => ?_, fun C c e hx => ?_, fun f x e => ?_⟩
  · obtain ⟨c, e, hx⟩ := insC_ok hC
    have z := (He.ba (cn e hx)).1
    unfold clB at z
    simp only [Bool.and_eq_true, decide_eq_true_eq] at z
    obtain ⟨z1, z2, z3, z4, z5⟩ := z
    exact ⟨He.cls_ok z1, He.eqO_ok z2, He.eqO_ok z3, z4, z5⟩
  · obtain ⟨c, e, hx⟩ := insC_ok hC
    have z := (He.ba (He.ba (cn e hx)).2).1
    exact He.noat_ok (List.all_eq_true.mp z f (List.mem_range.mpr hf))
  · have hmt : t ∈ tysL T := by
      unfold tysL
      cases t with
      | cls C => exact List.mem_append_left _ (List.mem_map_of_mem (List.mem_range.mpr (by simpa [tyOk] using ht)))
      | _ => exact List.mem_append_right _ (by simp)
    have hmk : k ∈ kdsL T := by
      unfold kdsL
      cases k with
      | cls C =>
        have hk : insC T C = true := hk
        obtain ⟨c, e, _⟩ := insC_ok hk
        exact List.mem_append_left _ (List.mem_map_of_mem (List.mem_filter.mpr ⟨List.mem_range.mpr (List.getElem?_eq_some_iff.mp e).1, hk⟩))
      | dict => cases hk
      | _ => exact List.mem_append_right _ (by simp)
    exact of_decide_eq_true (List.all_eq_true.mp (List.all_eq_true.mp c3 t hmt) k hmk)
  · have z := cc (List.getElem?_eq_getElem hl)
    exact ⟨He.glo_ok X G (He.ba z).1, (He.ba (He.ba z).2).1⟩
  · have z := (He.ba (He.ba (He.ba (cn e hx)).2).2).1
    rw [hi] at z
    obtain ⟨z1, z⟩ := He.ba z
    obtain ⟨z2, z3⟩ := He.ba z
    exact ⟨z1, He.eqO_ok z2, z3, (He.ba (He.ba (cc e)).2).1⟩
  · have z := (He.ba (He.ba (He.ba (cn e hx)).2).2).1
    rw [hi] at z
    obtain ⟨z1, z2⟩ := He.ba z
    exact ⟨z1, He.eqO_ok z2⟩
  · have z := (He.ba (He.ba (He.ba (cn e hx)).2).2).2
    have z := List.all_eq_true.mp z _ (lookF_mem hm)
    obtain ⟨z1, z⟩ := He.ba z
    obtain ⟨z2, z⟩ := He.ba z
    obtain ⟨z3, z4⟩ := He.ba z
    exact ⟨⟨He.eqO_ok z1, z2, z3⟩, of_decide_eq_true z4⟩
  · exact He.free_ok X G (List.all_eq_true.mp c4 x hx)
  · have z := (He.ba (He.ba (cc e)).2).2
    rw [hx] at z
    obtain ⟨z1, z2, z3, z4⟩ := He.exc_ok z
    exact ⟨z1, z3, z4⟩
  · have z := List.all_eq_true.mp c5 _ (List.mem_of_getElem? e)
    obtain ⟨z1, z2⟩ := He.ba z
    have ef : fad N K f = He.fAd K (x, none) := by
      unfold fad
      rw [nm_get e]
    rw [ef]
    exact ⟨He.glo_ok X G z1, z2⟩
end
/-! ### the Hook -/
def dsOf (body : List Stmt) : List FDef → List (Str × Option Str) → List He.DefD
  | fd :: fs, p :: ps => dOf body p fd :: dsOf body fs ps
  | _, _ => []
def obsX (T : Tab) (N : Nms) (ds : List He.DefD) (K : PySem.W.Frag) : Bool × List He.FnW := (staB T N K && ds.all fun d => d.ok K, ds.map fun d => He.fnW K d.at_)
def valX (ds : List He.DefD) : Bool × List He.FnW := (true, ds.map He.DefD.val)
def SaysX (T : Tab) (N : Nms) (ds : List He.DefD) (K : PySem.W.Frag) : Prop := obsX T N ds K = valX ds
def obsXG (n : Nat) (T : Tab) (N : Nms) (ds : List He.DefD) (g : Addr → Option Obj) : Bool × List He.FnW := obsX T N ds (He.frG g (He.asD g n))
def hookX (n : Nat) (T : Tab) (N : Nms) (ds : List He.DefD) : PySem.W.Hook where
  α := Bool × List He.FnW
  obs := fun s => obsXG n T N ds s.heap.get?
  val := fun _ => valX ds
  says := fun _ h => ∃ K : PySem.W.Frag, K.In h ∧ SaysX T N ds K
  of := fun _ _ e => ⟨_, He.frG_in, e⟩
  keeps := fun _ _ _ ⟨K, hK, c⟩ k => ⟨K, PySem.W.Frag.In.keeps hK k, c⟩
theorem obsXG_eq {n : Nat} {T : Tab} {N : Nms} {ds : List He.DefD} {g : Addr → Option Obj} {s : Shared} (h : ∀ a, g a = s.heap.get? a) : obsXG n T N ds g = (hookX n T N ds).obs s := by
  have e : g = s.heap.get? := funext h
  rw [e] <;> rfl
/-- does the whole text say what the table says -/
def ckAll (T : Tab) (N : Nms) (body : List Stmt) : List FDef → List (Str × Option Str) → List (List Str) → Bool
  | [], [], [] => true
  | fd :: fs, p :: ps, L :: Ls => ckDef T N L fd (dOf body p fd) && ckAll T N body fs ps Ls
  | _, _, _ => false
section
variable {T : Tab} {N : Nms} {Ls : List (List Str)} {body : List Stmt} {K : PySem.W.Frag}
theorem ckAll_ok : ∀ {fs : List FDef} {ps : List (Str × Option Str)} {Ls : List (List Str)} {f : Nat} {fd : FDef}, ckAll T N body fs ps Ls = true → fs[f]? = some fd → ∃ L p, Ls[f]? = some L ∧ ps[f]? = some p ∧ ckDef T N L fd (dOf body p fd) = true ∧ (dsOf body fs ps)[f]? = some (dOf body p fd)
  | [], [], [], _, _, _, e => by simp at e
  | fd0 :: fs, p :: ps, L :: Ls, 0, fd, h, e => by
    cases e
    exact ⟨L, p, rfl, rfl, (He.ba (show (ckDef T N L _ (dOf body p _) && ckAll T N body fs ps Ls) = true from h)).1, rfl⟩
  | fd0 :: fs, p :: ps, L :: Ls, f + 1, fd, h, e =>
    ckAll_ok (fs := fs) (ps := ps) (Ls := Ls) (f := f) (He.ba (show (ckDef T N L fd0 (dOf body p fd0) && ckAll T N body fs ps Ls) = true from h)).2 e
  | [], [], _ :: _, _, _, h, _ => by cases h
  | [], _ :: _, _, _, _, h, _ => by cases h
  | _ :: _, [], _, _, _, h, _ => by cases h
  | _ :: _, _ :: _, [], _, _, h, _ => by cases h
/-- defaults, def by def -/
def DflOk (T : Tab) (N : Nms) (Ls : List (List Str)) (body : List Stmt) (K : PySem.W.Frag) : Prop := ∀ (f : Nat) (fd : FDef) (L : List Str) (p : Str × Option Str), T.fns[f]? = some fd → Ls[f]? = some L → N.fn[f]? = some p → fd.dfl ≠ [] → ∀ fdat,
  FunD K (dOf body p fd).name (dOf body p fd).qual (dOf body p fd).params (dOf body p fd).body (dOf body p fd).scope ((dOf body p fd).dvs K) [] (He.fAd K p) fdat → ∀ j, ∃ ds, Vals ((fd.dfl.drop j).map dvV) ds ∧ Binds K fdat (L.take fd.ps) ds
theorem dOf_at {p : Str × Option Str} {fd : FDef} : (dOf body p fd).at_ = p ∧ (dOf body p fd).kwd = [] := by
  unfold dOf
  split <;> exact ⟨rfl, rfl⟩
theorem says_ok {h : Heap} {mg : Str → Option Value} (X : K.In h) (G : h.Ns mainGlobals mg) (c : SaysX T N (dsOf body T.fns N.fn) K) (ck : ckAll T N body T.fns N.fn Ls = true) (df : DflOk T N Ls body K) : Sta T N K mg ∧ Tx T N Ls body K := by
  have c1 := He.ba (show (staB T N K && (dsOf body T.fns N.fn).all fun d => d.ok K) = true from congrArg (fun z : Bool × List He.FnW => z.1) c)
  have c2 : (dsOf body T.fns N.fn).map (fun d => He.fnW K d.at_) = (dsOf body T.fns N.fn).map He.DefD.val := congrArg (fun z : Bool × List He.FnW => z.2) c
  refine ⟨sta_ok X G c1.1, ⟨fun f fd hf => ?_⟩⟩
  obtain ⟨L, p, h1, h2, h3, h4⟩ := ckAll_ok ck hf
  obtain ⟨a1, a2⟩ := dOf_at (body := body) (p := p) (fd := fd)
  have e2 : ((dsOf body T.fns N.fn).map fun d => He.fnW K d.at_)[f]? = ((dsOf body T.fns N.fn).map He.DefD.val)[f]? := by rw [c2]
  rw [List.getElem?_map, List.getElem?_map, h4] at e2
  obtain ⟨fdat, F⟩ := He.DefD.funD (Option.some.inj e2) (List.all_eq_true.mp c1.2 _ (List.mem_of_getElem? h4))
  have ek : (dOf body p fd).kws K = [] := by
    unfold He.DefD.kws
    rw [a2]; rfl
  rw [ek, a1] at F
  exact ⟨L, p, h1, h2, h3, fdat, F, fun hd j => df f fd L p hf h1 h2 hd fdat F j⟩
end
/-! ### the law -/
theorem FnOk.quiet {P : Program} {w : World} {K : PySem.W.Frag} {mg : Str → Option Value} {base : Heap} {k : Nat} {f : Addr} {fd : FuncData} {ps : List Str} {sp : Sp} (F : FnOk P w K mg base (L2.CX P w) k f fd ps sp) : FnOk P w K mg base CX0 k f fd ps fun vs H Q _ => sp vs H Q fun _ _ _ => False := by
  refine ⟨fun vs H Q E h => F.len _ _ _ _ h, fun A outer s H args us vs Q E hr e0 hb r h => codeAny_mono (F.run A outer s H args us vs Q _ hr e0 hb r h) fun r s' q => ?_⟩
  cases r with
  | error e =>
    obtain ⟨_, _, _, _, _, _, _, _, _, _, _, _, z⟩ := q
    exact False.elim z
  | ok fl => cases fl <;> exact q
theorem walkX {l : PySem.W.OpenLaw} {n j : Nat} {q : Program} {loose : List Str} {XP : (Str → Option Value) → Heap → Prop} {d : DefRec} {T : Tab} {N : Nms} {Ls : List (List Str)} {law : Nat} {fd : FDef} {x : Str}
    (hn : l.most = some n) (hn2 : n ≤ sizeLine) (hdf : d.params.defaults = []) (hfd : T.fns[law]? = some fd) (hps : fd.ps = 1) (hdl : fd.dfl = []) (hL : ∃ r, Ls[law]? = some (x :: r)) (hnm : N.fn[law]? = some (d.name, none))
    (ck : ckAll T N l.prog.main.body T.fns N.fn Ls = true) (df : ∀ K, DflOk T N Ls l.prog.main.body K)
    (plain : ∀ ns : List Int, ns.length ≤ n → ∃ m, callF T 115 law [.z (.scr ns)] [] = .ok (.z (.bl true)) m) :
    PySem.W.WalkO q loose XP (hookX j T N (dsOf l.prog.main.body T.fns N.fn)).says l.row.toRowW d [] (fun f vs => PySem.call f vs) := by
  refine L2.walk_ofE (l := l) (n := n) (k := 230) (x := x) (CX := CX0) hn hn2 hdf ⟨rfl, by decide, by decide⟩ ?_ (fun _ _ _ _ z => z)
  intro w mg fa h Y G hmg
  obtain ⟨K, KX, c⟩ := Y
  obtain ⟨S, X⟩ := says_ok KX G c ck (df K)
  obtain ⟨L, p, h1, h2, h3, fdat, F, _⟩ := X.ck law fd hfd
  rw [hnm] at h2
  cases h2
  obtain ⟨r, hL⟩ := hL
  rw [hL] at h1
  cases h1
  obtain ⟨as, ds, e1, e2, e3, e4, SC, e6, e7⟩ := ckDef_ok h3
  rw [hps] at e2
  have e2 : as.map (·.arg) = [x] := e2
  have ed : (dOf l.prog.main.body (d.name, none) fd).dvs K = [] := by
    unfold He.DefD.dvs dOf
    split <;> simp [hdl]
  have efa : fad N K law = fa := by
    have z := (S.fng law d.name hnm).1
    rw [hmg] at z
    exact (Value.ref.inj (Option.some.inj z)).symm
  have ef2 : fad N K law = He.fAd K (d.name, none) := by
    unfold fad
    rw [nm_get hnm]
  have F0 := F
  rw [ed, e1] at F0
  refine ⟨K, fdat, fun vs H Q _ => spD N K 1 (callF T 115 law) vs H Q fun _ _ _ => False, KX, fun s v => ?_, fun H a ns hl hO hS => ?_, fun base hb hg => ?_⟩
  · have := FunD.bindsA (ps := as.map (·.arg)) F0 (fun _ _ _ _ _ _ us hl => bind_pos (by rw [e2]; simp) hl) s [v] (by rw [e2]; rfl)
    rw [e2] at this
    exact this
  · obtain ⟨m', hm⟩ := plain ns hl
    refine ⟨H, fun _ => 0, [], [.z (.scr ns)], rfl, ⟨fun a o e => .inl e, fun n c hc => by simp [cell] at hc, fun n k c d hc => by simp [cell] at hc⟩, .cons (.z (.scr hS)) .nil, ?_⟩
    rw [hm]
    intro v F' t' H' st rv
    cases rv with
    | z rv => cases rv; rfl
  · have z := fn_lv (P := l.prog) (w := w) (base := base) S (cal_ok S X 114) hfd hnm h3 F
    rw [efa, hps] at z
    exact FnOk.quiet z
end GL

/-! PL: plain tools: the ghost's code step by step. -/
namespace GL
theorem drp_same (m : Store) : drp m m = m := by
  unfold drp
  rw [if_pos ⟨Nat.le_refl _, fun n _ => .inl rfl⟩, List.take_length]
theorem drp_app (m x : Store) : drp m (m ++ x) = m := by
  unfold drp
  rw [if_pos ⟨by simp, fun n hn => .inl (by rw [List.getElem?_append_left hn])⟩]
  simp
section
variable {T : Tab} {call : Nat → List A → Store → R A} {r : Env} {m : Store}
/-- a call, by its body -/
theorem call_def {n f : Nat} {xs : List A} {m : Store} {fd : FDef} (hf : T.fns[f]? = some fd) (hl : xs.length = fd.ps) : callF T (n + 1) f xs m = fin m (exSs T (callF T n) fd.body (xs.map some ++ List.replicate (fd.slots - fd.ps) none) m) := by
  simp only [callF, hf]
  rw [if_pos (by rw [hl]; exact Nat.beq_refl _)]
theorem fill_no {f : Nat} {xs : List A} (h : ∀ fd ∈ T.fns, fd.dfl = []) : fill T f xs = xs := by
  unfold fill
  split
  · rename_i fd hf
    rw [h fd (List.mem_of_getElem? hf)]
    simp
  · rfl
/-- the rest of a suite -/
def seqS (T : Tab) (call : Nat → List A → Store → R A) (o : O) (ss : Ss) : O := o.seq fun r m => exSs T call ss r m
@[simp] theorem seqS_nx {ss : Ss} : seqS T call (.nx r m) ss = exSs T call ss r m := rfl
@[simp] theorem seqS_rt {a : A} {ss : Ss} : seqS T call (.rt a m) ss = .rt a m := rfl
@[simp] theorem seqS_ex {C : Nat} {fs : List (Nat × D)} {ss : Ss} : seqS T call (.ex C fs r m) ss = .ex C fs r m := rfl
def iffS (T : Tab) (call : Nat → List A → Store → R A) (b : Option Bool) (x y : Ss) (r : Env) (m : Store) : O := match b with
  | some true => exSs T call x r m
  | some false => exSs T call y r m
  | none => .bad
@[simp] theorem iffS_t {x y : Ss} : iffS T call (some true) x y r m = exSs T call x r m := rfl
@[simp] theorem iffS_f {x y : Ss} : iffS T call (some false) x y r m = exSs T call y r m := rfl
@[simp] theorem exSs_nil : exSs T call .nil r m = .nx r m := rfl
@[simp] theorem exSs_cons {s : S} {ss : Ss} : exSs T call (.cons s ss) r m = seqS T call (exS T call s r m) ss := rfl
@[simp] theorem exS_pass : exS T call .pass r m = .nx r m := rfl
@[simp] theorem exS_ex {e : E} : exS T call (.ex e) r m = O.ofR (ev T call e r m) r fun _ m1 => .nx r m1 := rfl
@[simp] theorem exS_asg {i : Nat} {e : E} : exS T call (.asg i e) r m = O.ofR (ev T call e r m) r fun x m1 => .nx (r.set i (some x)) m1 := rfl
@[simp] theorem exS_ret {e : E} : exS T call (.ret e) r m = O.ofR (ev T call e r m) r fun x m1 => .rt x m1 := rfl
@[simp] theorem exS_retn : exS T call .retn r m = .rt (.z .non) m := rfl
@[simp] theorem exS_iff {c : E} {x y : Ss} : exS T call (.iff c x y) r m = O.ofR (ev T call c r m) r fun v m1 => iffS T call (tru m1 v) x y r m1 := by
  show O.ofR _ r _ = O.ofR _ r _
  congr 1
@[simp] theorem exS_sit {o i e : E} : exS T call (.sit o i e) r m = O.ofR (ev T call e r m) r fun x m1 => O.ofR (ev T call o r m1) r fun y m2 => O.ofR (ev T call i r m2) r fun k m3 => (match sitA y k x m3 with
    | some m4 => .nx r m4
    | none => .bad) := rfl
@[simp] theorem exS_sfd {o e : E} {f : Nat} : exS T call (.sfd o f e) r m = O.ofR (ev T call e r m) r fun x m1 => O.ofR (ev T call o r m1) r fun y m2 => (match stA T y f x m2 with
    | some m3 => .nx r m3
    | none => .bad) := rfl
/-- a loop's source, then the loop -/
def forS (T : Tab) (call : Nat → List A → Store → R A) (tg : List Nat) (tup : Bool) (b : Ss) (s : Src) (r : Env) (m : Store) : O := match s with
    | .fix xs => forL tg tup (exSs T call b) xs r m
    | .live n => forV tg tup (exSs T call b) n W0 0 r m
@[simp] theorem forS_fix {tg : List Nat} {tup : Bool} {b : Ss} {xs : List A} : forS T call tg tup b (.fix xs) r m = forL tg tup (exSs T call b) xs r m := rfl
@[simp] theorem forS_live {tg : List Nat} {tup : Bool} {b : Ss} {n : Nat} : forS T call tg tup b (.live n) r m = forV tg tup (exSs T call b) n W0 0 r m := rfl
@[simp] theorem exS_for {tg : List Nat} {tup : Bool} {it : It} {b : Ss} : exS T call (.for_ tg tup it b) r m = O.ofR (evIt T call it r m) r fun s m1 => forS T call tg tup b s r m1 := rfl
/-! ### expressions -/
@[simp] theorem ev_var' {i : Nat} : ev T call (.var i) r m = (match r[i]? with
    | some (some a) => .ok a m
    | _ => .bad) := rfl
@[simp] theorem ev_cst' {d : D} : ev T call (.cst d) r m = okZ d m := rfl
@[simp] theorem ev_bin' {op : BOp} {a b : E} : ev T call (.bin op a b) r m = (ev T call a r m).bind fun x m1 => (ev T call b r m1).bind fun y m2 => binA op x y m2 := rfl
@[simp] theorem ev_not' {a : E} : ev T call (.not a) r m = (ev T call a r m).bind fun x m1 => ofO (tru m1 x) fun b => okZ (.bl (!b)) m1 := rfl
@[simp] theorem ev_neg' {a : E} : ev T call (.neg a) r m = (ev T call a r m).bind fun x m1 => (match x with
    | .z (.int i) => okZ (.int (-i)) m1
    | _ => .bad) := rfl
@[simp] theorem ev_cmp' {op : COp} {a b : E} : ev T call (.cmp op a b) r m = (ev T call a r m).bind fun x m1 => (ev T call b r m1).bind fun y m2 => ofO (cmpA op x y m2) fun b => okZ (.bl b) m2 := rfl
def andK (T : Tab) (call : Nat → List A → Store → R A) (b : Option Bool) (x : A) (es : Es) (r : Env) (m : Store) : R A := match b with
    | some true => evAnd T call es r m
    | some false => .ok x m
    | none => .bad
@[simp] theorem andK_t {x : A} {es : Es} : andK T call (some true) x es r m = evAnd T call es r m := rfl
@[simp] theorem andK_f {x : A} {es : Es} : andK T call (some false) x es r m = .ok x m := rfl
def orK (T : Tab) (call : Nat → List A → Store → R A) (b : Option Bool) (x : A) (es : Es) (r : Env) (m : Store) : R A := match b with
    | some false => evOr T call es r m
    | some true => .ok x m
    | none => .bad
@[simp] theorem orK_t {x : A} {es : Es} : orK T call (some true) x es r m = .ok x m := rfl
@[simp] theorem orK_f {x : A} {es : Es} : orK T call (some false) x es r m = evOr T call es r m := rfl
@[simp] theorem ev_and' {es : Es} : ev T call (.and es) r m = evAnd T call es r m := rfl
@[simp] theorem ev_or' {es : Es} : ev T call (.or es) r m = evOr T call es r m := rfl
@[simp] theorem evAnd_1 {e : E} : evAnd T call (.cons e .nil) r m = ev T call e r m := rfl
@[simp] theorem evOr_1 {e : E} : evOr T call (.cons e .nil) r m = ev T call e r m := rfl
@[simp] theorem evAnd_2 {e e2 : E} {es : Es} : evAnd T call (.cons e (.cons e2 es)) r m = (ev T call e r m).bind fun x m1 => andK T call (tru m1 x) x (.cons e2 es) r m1 := by
  show R.bind _ _ = R.bind _ _
  congr 1
@[simp] theorem evOr_2 {e e2 : E} {es : Es} : evOr T call (.cons e (.cons e2 es)) r m = (ev T call e r m).bind fun x m1 => orK T call (tru m1 x) x (.cons e2 es) r m1 := by
  show R.bind _ _ = R.bind _ _
  congr 1
@[simp] theorem evs_nil' : evs T call .nil r m = .ok [] m := rfl
@[simp] theorem evs_cons' {e : E} {es : Es} : evs T call (.cons e es) r m = (ev T call e r m).bind fun x m1 => (evs T call es r m1).bind fun xs m2 => .ok (x :: xs) m2 := rfl
@[simp] theorem ev_lst' {mu : Bool} {es : Es} : ev T call (.lst mu es) r m = (evs T call es r m).bind fun xs m1 => if Nat.ble xs.length sz then mkLst mu xs m1 else .bad := rfl
@[simp] theorem ev_tup' {es : Es} : ev T call (.tup es) r m = (evs T call es r m).bind fun xs m1 => if Nat.ble xs.length sz then mkTup xs m1 else .bad := rfl
@[simp] theorem ev_idx' {a b : E} : ev T call (.idx a b) r m = (ev T call a r m).bind fun x m1 => (ev T call b r m1).bind fun y m2 => idxA x y m2 := rfl
@[simp] theorem ev_slc' {a : E} {lo hi : Oe} : ev T call (.slc a lo hi) r m = (ev T call a r m).bind fun x m1 => (evO T call lo r m1).bind fun l m2 => (evO T call hi r m2).bind fun h m3 => slcA x l h m3 := rfl
@[simp] theorem ev_att' {a : E} {f : Nat} : ev T call (.att a f) r m = (ev T call a r m).bind fun x m1 => attA T x f m1 := rfl
@[simp] theorem ev_fn1' {mu : Bool} {b : B1} {a : E} : ev T call (.fn1 mu b a) r m = (ev T call a r m).bind fun x m1 => fn1A mu b x m1 := rfl
@[simp] theorem ev_fn2' {b : B2} {a c : E} : ev T call (.fn2 b a c) r m = (ev T call a r m).bind fun x m1 => (ev T call c r m1).bind fun y m2 => fn2A b x y m2 := rfl
@[simp] theorem ev_call' {f : Nat} {es : Es} : ev T call (.call f es) r m = (evs T call es r m).bind fun xs m1 => call f (fill T f xs) m1 := rfl
@[simp] theorem ev_bm1' {b : M1} {a c : E} : ev T call (.bm1 b a c) r m = (ev T call a r m).bind fun x m1 => if bmTy b x m1 then (ev T call c r m1).bind fun y m2 => bm1A b x y m2 else .bad := rfl
@[simp] theorem ev_isi' {a : E} {t : Ty} : ev T call (.isi a t) r m = (ev T call a r m).bind fun x m1 => isiA T x t m1 := rfl
@[simp] theorem ev_frz' {a : E} : ev T call (.frz a) r m = (ev T call a r m).bind fun x m1 => (frA 6 x m1).bind fun d m2 => okZ d m2 := rfl
def lcK (T : Tab) (call : Nat → List A → Store → R A) (mu : Bool) (tg : List Nat) (tup : Bool) (cond : Oe) (e : E) (r : Env) (s : Src) (m : Store) : R A := match s with
    | .fix xs => if Nat.blt xs.length sz then (lcL tg tup (evC T call cond) (ev T call e) (wipeE r tg) xs m).bind fun ys m2 => mkLst mu ys m2 else .bad
    | .live _ => .bad
@[simp] theorem lcK_fix {mu : Bool} {tg : List Nat} {tup : Bool} {cond : Oe} {e : E} {xs : List A} : lcK T call mu tg tup cond e r (.fix xs) m = if Nat.blt xs.length sz then (lcL tg tup (evC T call cond) (ev T call e) (wipeE r tg) xs m).bind fun ys m2 => mkLst mu ys m2 else .bad := rfl
@[simp] theorem ev_lc' {mu : Bool} {tg : List Nat} {tup : Bool} {it : It} {cond : Oe} {e : E} : ev T call (.lc mu tg tup it cond e) r m = (evIt T call it r m).bind fun s m1 => lcK T call mu tg tup cond e r s m1 := by
  show R.bind _ _ = R.bind _ _
  congr 1
/-- a class's call -/
def makeK (T : Tab) (call : Nat → List A → Store → R A) (C : Nat) (xs : List A) (m1 : Store) : R A := match T.cls[C]? with
    | some c => (match c.init with
      | some f => if c.xfs.isNone then (call f (fill T f (.h m1.length :: xs)) (m1 ++ [some (.ins C [])])).bind fun y m2 => noneOk y (.h m1.length) m2 else .bad
      | none => if c.xfs.isNone && xs.isEmpty then okZ (.ins C []) m1 else .bad)
    | none => .bad
@[simp] theorem ev_make' {C : Nat} {es : Es} : ev T call (.make C es) r m = (evs T call es r m).bind fun xs m1 => makeK T call C xs m1 := by
  show R.bind _ _ = R.bind _ _
  congr 1
theorem make_i {C f : Nat} {c : CDef} {xs : List A} {m : Store} (hc : T.cls[C]? = some c) (hi : c.init = some f) (hx : c.xfs = none) : makeK T call C xs m = (call f (fill T f (.h m.length :: xs)) (m ++ [some (.ins C [])])).bind fun y m2 => noneOk y (.h m.length) m2 := by
  unfold makeK
  simp [hc, hi, hx]
theorem make_0 {C : Nat} {c : CDef} {m : Store} (hc : T.cls[C]? = some c) (hi : c.init = none) (hx : c.xfs = none) : makeK T call C [] m = okZ (.ins C []) m := by
  unfold makeK
  simp [hc, hi, hx]
/-- a method's call -/
def methK (T : Tab) (call : Nat → List A → Store → R A) (mt : Nat) (x : A) (es : Es) (r : Env) (m1 : Store) : R A := match view m1 x with
    | some (.ins C _) => (match T.cls[C]? with
      | some c => (match (if c.xfs.isNone then lookF mt c.meths else none) with
        | some f => (evs T call es r m1).bind fun xs m2 => call f (fill T f (x :: xs)) m2
        | none => .bad)
      | none => .bad)
    | _ => .bad
@[simp] theorem ev_meth' {mt : Nat} {o : E} {es : Es} : ev T call (.meth mt o es) r m = (ev T call o r m).bind fun x m1 => methK T call mt x es r m1 := by
  show R.bind _ _ = R.bind _ _
  congr 1
theorem meth_i {mt f C : Nat} {c : CDef} {fs : List (Nat × A)} {x : A} {es : Es} (hv : view m x = some (.ins C fs)) (hc : T.cls[C]? = some c) (hm : lookF mt c.meths = some f) (hx : c.xfs = none) : methK T call mt x es r m = (evs T call es r m).bind fun xs m2 => call f (fill T f (x :: xs)) m2 := by
  unfold methK
  simp [hv, hc, hm, hx]
@[simp] theorem evO_no : evO T call .no r m = .ok none m := rfl
@[simp] theorem evO_some {e : E} : evO T call (.some e) r m = (ev T call e r m).bind fun x m1 => (match x with
    | .z (.int i) => .ok (some i) m1
    | _ => .bad) := rfl
@[simp] theorem evC_no : evC T call .no r m = okZ (.bl true) m := rfl
@[simp] theorem evC_some {e : E} : evC T call (.some e) r m = ev T call e r m := rfl
@[simp] theorem evIt_rng1 {a : E} : evIt T call (.rng1 a) r m = (ev T call a r m).bind fun x m1 => (match x with
    | .z (.int i) => if inR i then .ok (.fix (rngL 0 i.toNat)) m1 else .bad
    | _ => .bad) := rfl
@[simp] theorem evIt_of {a : E} : evIt T call (.of a) r m = (ev T call a r m).bind fun x m1 => srcOf x m1 := rfl
end
@[simp] theorem fin_nx (m0 : Store) (r : Env) (m : Store) : fin m0 (.nx r m) = .ok (.z .non) (drp m0 m) := rfl
@[simp] theorem fin_rtz (m0 : Store) (d : D) (m : Store) : fin m0 (.rt (.z d) m) = .ok (.z d) (drp m0 m) := rfl
@[simp] theorem drp_same' (m : Store) : drp m m = m := drp_same m
@[simp] theorem drp_app' (m x : Store) : drp m (m ++ x) = m := drp_app m x
@[simp] theorem view_h (m : Store) (n : Nat) : view m (.h n) = cell m n := rfl
@[simp] theorem view_lst' (m : Store) (xs : List D) : view m (.z (.lst xs)) = some (.lst (xs.map .z)) := rfl
@[simp] theorem view_tup' (m : Store) (xs : List D) : view m (.z (.tup xs)) = some (.tup (xs.map .z)) := rfl
@[simp] theorem view_scr' (m : Store) (xs : List Int) : view m (.z (.scr xs)) = some (.lst (xs.map fun i => .z (.int i))) := rfl
@[simp] theorem view_int' (m : Store) (i : Int) : view m (.z (.int i)) = some (.at (.int i)) := rfl
@[simp] theorem view_str' (m : Store) (x : List Nat) : view m (.z (.str x)) = some (.at (.str x)) := rfl
@[simp] theorem view_bl' (m : Store) (b : Bool) : view m (.z (.bl b)) = some (.at (.bl b)) := rfl
@[simp] theorem view_non' (m : Store) : view m (.z .non) = some (.at .non) := rfl
@[simp] theorem view_ins' (m : Store) (C : Nat) (fs : List (Nat × D)) : view m (.z (.ins C fs)) = some (.ins C (fs.map fun p => (p.1, .z p.2))) := rfl
@[simp] theorem tru_bl (m : Store) (b : Bool) : tru m (.z (.bl b)) = some b := rfl
/-! ### operations -/
section
variable {m : Store}
@[simp] theorem bin_add (i j : Int) : binA .add (.z (.int i)) (.z (.int j)) m = okZ (.int (i + j)) m := rfl
@[simp] theorem bin_sub (i j : Int) : binA .sub (.z (.int i)) (.z (.int j)) m = okZ (.int (i - j)) m := rfl
@[simp] theorem bin_mul {i j : Int} (h : (b64 i || b64 j) = true) : binA .mul (.z (.int i)) (.z (.int j)) m = okZ (.int (i * j)) m := by
  simp only [binA, view_int', binI, h, if_true]
@[simp] theorem bin_mod {i j : Int} (h : 0 < j) : binA .mod (.z (.int i)) (.z (.int j)) m = okZ (.int (i % j)) m := by
  simp only [binA, view_int', binI, decide_eq_true h, if_true]
@[simp] theorem bin_cat {x y : List Nat} (h : x.length + y.length ≤ sz) : binA .add (.z (.str x)) (.z (.str y)) m = okZ (.str (x ++ y)) m := by
  simp only [binA, view_str']
  rw [if_pos (Nat.ble_eq.mpr h)]
@[simp] theorem cmp_lt (i j : Int) : cmpA .lt (.z (.int i)) (.z (.int j)) m = some (decide (i < j)) := rfl
@[simp] theorem cmp_le (i j : Int) : cmpA .le (.z (.int i)) (.z (.int j)) m = some (decide (i ≤ j)) := rfl
@[simp] theorem cmp_gt (i j : Int) : cmpA .gt (.z (.int i)) (.z (.int j)) m = some (decide (j < i)) := rfl
@[simp] theorem cmp_ge (i j : Int) : cmpA .ge (.z (.int i)) (.z (.int j)) m = some (decide (j ≤ i)) := rfl
@[simp] theorem cmp_eqI (i j : Int) : cmpA .eq (.z (.int i)) (.z (.int j)) m = some (i == j) := rfl
@[simp] theorem cmp_neI (i j : Int) : cmpA .ne (.z (.int i)) (.z (.int j)) m = some (!(i == j)) := rfl
@[simp] theorem cmp_eqS (i j : List Nat) : cmpA .eq (.z (.str i)) (.z (.str j)) m = some (i == j) := rfl
@[simp] theorem cmp_neS (i j : List Nat) : cmpA .ne (.z (.str i)) (.z (.str j)) m = some (!(i == j)) := rfl
theorem ix_nat {n j : Nat} (h : j < n) : ixL n (j : Int) = some j := by
  unfold ixL
  simp [h]
theorem ixL_of {n : Nat} {i : Int} (h1 : 0 ≤ i) (h2 : i < n) : ixL n i = some i.toNat := by
  unfold ixL
  simp [h1, h2]
@[simp] theorem len_lst (mu : Bool) (xs : List D) : fn1A mu .len (.z (.lst xs)) m = okZ (.int xs.length) m := by simp [fn1A]
@[simp] theorem len_tup (mu : Bool) (xs : List D) : fn1A mu .len (.z (.tup xs)) m = okZ (.int xs.length) m := by simp [fn1A]
@[simp] theorem len_scr (mu : Bool) (xs : List Int) : fn1A mu .len (.z (.scr xs)) m = okZ (.int xs.length) m := by simp [fn1A]
@[simp] theorem len_str (mu : Bool) {xs : List Nat} (h : xs.length ≤ sz) : fn1A mu .len (.z (.str xs)) m = okZ (.int xs.length) m := by
  simp only [fn1A, view_str']
  rw [if_pos (Nat.ble_eq.mpr h)]
theorem idx_lst {xs : List D} {i : Int} {j : Nat} {x : D} (h : ixL xs.length i = some j) (hx : xs[j]? = some x) : idxA (.z (.lst xs)) (.z (.int i)) m = okZ x m := by
  simp [idxA, h, hx]
theorem idx_tup {xs : List D} {i : Int} {j : Nat} {x : D} (h : ixL xs.length i = some j) (hx : xs[j]? = some x) : idxA (.z (.tup xs)) (.z (.int i)) m = okZ x m := by
  simp [idxA, h, hx]
theorem idx_scr {xs : List Int} {i : Int} {j : Nat} {x : Int} (h : ixL xs.length i = some j) (hx : xs[j]? = some x) : idxA (.z (.scr xs)) (.z (.int i)) m = okZ (.int x) m := by
  simp [idxA, h, hx]
theorem idx_str {xs : List Nat} {i : Int} {j : Nat} {x : Nat} (hl : xs.length ≤ sz) (h : ixL xs.length i = some j) (hx : xs[j]? = some x) : idxA (.z (.str xs)) (.z (.int i)) m = okZ (.str [x]) m := by
  simp [idxA, h, hx, hl]
@[simp] theorem idx_t0 (x : D) (xs : List D) : idxA (.z (.tup (x :: xs))) (.z (.int 0)) m = okZ x m := idx_tup (j := 0) (by simp [ixL]) rfl
@[simp] theorem idx_t1 (x y : D) (xs : List D) : idxA (.z (.tup (x :: y :: xs))) (.z (.int 1)) m = okZ y m := idx_tup (j := 1) (by simp [ixL]; omega) rfl
@[simp] theorem idx_t2 (x y z : D) (xs : List D) : idxA (.z (.tup (x :: y :: z :: xs))) (.z (.int 2)) m = okZ z m := idx_tup (j := 2) (by simp [ixL]; omega) rfl
@[simp] theorem src_lst (xs : List D) : srcOf (.z (.lst xs)) m = .ok (.fix (xs.map .z)) m := rfl
@[simp] theorem src_tup (xs : List D) : srcOf (.z (.tup xs)) m = .ok (.fix (xs.map .z)) m := rfl
@[simp] theorem src_str (xs : List Nat) : srcOf (.z (.str xs)) m = .ok (.fix (xs.map fun c => .z (.str [c]))) m := rfl
@[simp] theorem allZ_map (xs : List D) : allZ (xs.map .z) = some xs := by
  induction xs with
  | nil => rfl
  | cons x xs ih => simp [allZ, ih]
@[simp] theorem mk_z (xs : List D) : mkLst false (xs.map .z) m = okZ (.lst xs) m := by simp [mkLst]
@[simp] theorem mkTup_z (xs : List D) : mkTup (xs.map .z) m = okZ (.tup xs) m := by simp [mkTup]
theorem rngL_z (lo : Int) (n : Nat) : rngL lo n = ((List.range n).map fun (k : Nat) => D.int (lo + k)).map .z := by
  unfold rngL
  rw [List.map_map]
  rfl
theorem rngL_get {lo : Int} {n j : Nat} {a : A} (h : (rngL lo n)[j]? = some a) : a = .z (.int (lo + j)) ∧ j < n := by
  unfold rngL at h
  rw [List.getElem?_map] at h
  by_cases hj : j < n
  · rw [List.getElem?_range hj] at h
    cases h
    exact ⟨rfl, hj⟩
  · rw [List.getElem?_eq_none (by simpa using hj)] at h
    cases h
theorem sIx_in {n d i : Nat} (h : i ≤ n) : sIx n d (some (i : Int)) = i := by
  unfold sIx
  dsimp only
  rw [if_neg (by omega)]
  simp [h]
@[simp] theorem slc_to {xs : List Nat} {i : Nat} (hl : xs.length ≤ sz) (h : i ≤ xs.length) : slcA (.z (.str xs)) none (some (i : Int)) m = okZ (.str (xs.take i)) m := by
  simp only [slcA, view_str']
  rw [if_pos (Nat.ble_eq.mpr hl)]
  unfold cut
  rw [sIx_in h]
  rfl
@[simp] theorem slc_from {xs : List Nat} {i : Nat} (hl : xs.length ≤ sz) (h : i ≤ xs.length) : slcA (.z (.str xs)) (some (i : Int)) none m = okZ (.str (xs.drop i)) m := by
  simp only [slcA, view_str']
  rw [if_pos (Nat.ble_eq.mpr hl)]
  unfold cut
  rw [sIx_in h]
  have e : sIx xs.length xs.length none = xs.length := rfl
  rw [e, List.take_of_length_le (by simp)]
theorem strsOf_one (cs : List Nat) : strsOf ((cs.map fun c => D.str [c]).map .z) = some (cs.map fun c => [c]) := by
  induction cs with
  | nil => rfl
  | cons c cs ih => simp only [List.map_cons, strsOf, ih, Option.map_some]
theorem strsOf_map (cs : List (List Nat)) : strsOf ((cs.map .str).map .z) = some cs := by
  induction cs with
  | nil => rfl
  | cons c cs ih => simp only [List.map_cons, strsOf, ih, Option.map_some]
theorem joinT_one : ∀ cs : List Nat, joinT [] (cs.map fun c => [c]) = cs
  | [] => rfl
  | [c] => rfl
  | c :: d :: cs => by
    have ih := joinT_one (d :: cs)
    simp only [List.map_cons, joinT] at ih ⊢
    rw [ih]
    rfl
theorem sum_one (cs : List Nat) : ((cs.map fun c => [c]).map List.length).sum = cs.length := by
  induction cs with
  | nil => rfl
  | cons c cs ih =>
    rw [List.map_cons, List.map_cons, List.sum_cons, ih, List.length_cons]
    simp
    omega
/-- ''.join of single signs -/
theorem join_one {cs : List Nat} (h : cs.length ≤ sz) : bm1A .join (.z (.str [])) (.z (.lst (cs.map fun c => .str [c]))) m = okZ (.str cs) m := by
  simp only [bm1A, seqOf, view_lst']
  rw [strsOf_one]
  simp only [ofO_some]
  rw [sum_one, joinT_one]
  simp [h]
@[simp] theorem bmTy_str (x : List Nat) : bmTy .join (.z (.str x)) m = true := rfl
theorem nodup_map' {α β : Type} {f : α → β} {l : List α} (h : l.Nodup) (inj : ∀ a ∈ l, ∀ b ∈ l, f a = f b → a = b) : (l.map f).Nodup := by
  unfold List.Nodup at h ⊢
  rw [List.pairwise_map]
  exact List.Pairwise.imp_of_mem (fun {a b} ha hb ne e => ne (inj a ha b hb e)) h
/-! ### loops -/
theorem forL_inv {tg : List Nat} {tup : Bool} {b : Env → Store → O} (P : Nat → Env → Store → Prop) : ∀ {xs : List A} {i : Nat} {r : Env} {m : Store}, P i r m → (∀ j r m a, xs[j]? = some a → P (i + j) r m → ∃ r1 r2 m2, setT tg tup a m r = some r1 ∧ b r1 m = .nx r2 m2 ∧ P (i + j + 1) r2 m2) →
    ∃ r' m', forL tg tup b xs r m = .nx r' m' ∧ P (i + xs.length) r' m'
  | [], i, r, m, h, _ => ⟨r, m, rfl, h⟩
  | a :: xs, i, r, m, h, hs => by
    obtain ⟨r1, r2, m2, e1, e2, p⟩ := hs 0 r m a rfl h
    obtain ⟨r', m', e3, q⟩ := forL_inv (tg := tg) (tup := tup) (b := b) P (xs := xs) (i := i + 1) p fun j r m a hj p => by
      have := hs (j + 1) r m a hj (by rw [show i + (j + 1) = i + 1 + j by omega]; exact p)
      rw [show i + (j + 1) + 1 = i + 1 + j + 1 by omega] at this
      exact this
    refine ⟨r', m', ?_, by rw [List.length_cons, show i + (xs.length + 1) = i + 1 + xs.length by omega]; exact q⟩
    simp only [forL, e1, e2, O.seq_nx]
    exact e3
theorem forV_inv {tg : List Nat} {tup : Bool} {b : Env → Store → O} {n : Nat} {xs : List A} (P : Nat → Env → Store → Prop) (hc : ∀ i r m, P i r m → cell m n = some (.lst xs)) (hs : ∀ j r m a, xs[j]? = some a → P j r m → ∃ r1 r2 m2, setT tg tup a m r = some r1 ∧ b r1 m = .nx r2 m2 ∧ P (j + 1) r2 m2) :
    ∀ (k i : Nat) (r : Env) (m : Store), i ≤ xs.length → xs.length - i < k → P i r m → ∃ r' m', forV tg tup b n k i r m = .nx r' m' ∧ P xs.length r' m'
  | 0, _, _, _, _, h, _ => absurd h (Nat.not_lt_zero _)
  | k + 1, i, r, m, hi, hk, p => by
    simp only [forV, hc i r m p]
    by_cases hl : i < xs.length
    · obtain ⟨r1, r2, m2, e1, e2, p2⟩ := hs i r m _ (List.getElem?_eq_getElem hl) p
      obtain ⟨r', m', e3, q⟩ := forV_inv P hc hs k (i + 1) r2 m2 hl (by omega) p2
      refine ⟨r', m', ?_, q⟩
      simp only [List.getElem?_eq_getElem hl, e1, e2, O.seq_nx]
      exact e3
    · have e : i = xs.length := by omega
      subst e
      exact ⟨r, m, by rw [List.getElem?_eq_none (Nat.le_refl _)], p⟩
/-! ### the store -/
theorem cell_set_same {m : Store} {n : Nat} {c : Nd} (h : n < m.length) : cell (m.set n (some c)) n = some c := by
  unfold cell
  rw [List.getElem?_set_self h]
theorem cell_set_ne {m : Store} {n k : Nat} {c : Option Nd} (h : n ≠ k) : cell (m.set n c) k = cell m k := by
  unfold cell
  rw [List.getElem?_set_ne h]
theorem cell_appL {m x : Store} {n : Nat} (h : n < m.length) : cell (m ++ x) n = cell m n := by
  unfold cell
  rw [List.getElem?_append_left h]
theorem cell_appR {m : Store} {c : Nd} {x : Store} : cell (m ++ some c :: x) m.length = some c := by
  unfold cell
  rw [List.getElem?_append_right (Nat.le_refl _)]
  simp
theorem drp_keep {m m' : Store} (h : KeepOk m m') : drp m m' = m'.take m.length := by
  unfold drp
  rw [if_pos h]
theorem allZ_f {α : Type} (f : α → D) (l : List α) : allZ (l.map fun x => A.z (f x)) = some (l.map f) := by
  have := allZ_map (l.map f)
  rw [List.map_map] at this
  exact this
@[simp] theorem mk_f {α : Type} (f : α → D) (l : List α) : mkLst false (l.map fun x => A.z (f x)) m = okZ (.lst (l.map f)) m := by
  unfold mkLst
  dsimp only
  rw [allZ_f]
theorem idx_h {n : Nat} {xs : List A} {i : Int} {j : Nat} {x : A} (hc : cell m n = some (.lst xs)) (h : ixL xs.length i = some j) (hx : xs[j]? = some x) : idxA (.h n) (.z (.int i)) m = .ok x m := by
  simp [idxA, hc, h, hx]
theorem idx_ht {n : Nat} {xs : List A} {i : Int} {j : Nat} {x : A} (hc : cell m n = some (.tup xs)) (h : ixL xs.length i = some j) (hx : xs[j]? = some x) : idxA (.h n) (.z (.int i)) m = .ok x m := by
  simp [idxA, hc, h, hx]
theorem sit_h {n : Nat} {xs : List A} {i : Int} {j : Nat} {x : A} (hc : cell m n = some (.lst xs)) (h : ixL xs.length i = some j) : sitA (.h n) (.z (.int i)) x m = some (m.set n (some (.lst (xs.set j x)))) := by
  simp [sitA, hc, h]
theorem app_h {n : Nat} {xs : List A} {x : A} (hc : cell m n = some (.lst xs)) (h : xs.length < sz) : bm1A .append (.h n) x m = .ok (.z .non) (m.set n (some (.lst (xs ++ [x])))) := by
  simp only [bm1A, hc]
  rw [if_pos (show Nat.blt xs.length sz = true from Nat.ble_eq.mpr h)]
theorem ty_h {n : Nat} {xs : List A} (hc : cell m n = some (.lst xs)) : bmTy .append (.h n) m = true := by
  simp [bmTy, hc]
theorem len_h {mu : Bool} {n : Nat} {xs : List A} (hc : cell m n = some (.lst xs)) : fn1A mu .len (.h n) m = okZ (.int xs.length) m := by
  simp [fn1A, hc]
theorem len_ht {mu : Bool} {n : Nat} {xs : List A} (hc : cell m n = some (.tup xs)) : fn1A mu .len (.h n) m = okZ (.int xs.length) m := by
  simp [fn1A, hc]
@[simp] theorem ixL_z (n : Nat) : ixL (n + 1) 0 = some 0 := by simp [ixL]
theorem drp_seta {m x : Store} {h : Nat} {c : Nd} (hb : belN m.length c = true) (hh : h < m.length) : drp m (m.set h (some c) ++ x) = m.set h (some c) := by
  have hl : (m.set h (some c)).length = m.length := by simp
  rw [drp_keep ⟨by simp, fun n hn => ?_⟩, ← hl, List.take_left]
  by_cases e : n = h
  · subst e
    refine .inr fun d hd => ?_
    rw [cell_appL (by rw [hl]; exact hn), cell_set_same hn] at hd
    cases hd
    exact hb
  · refine .inl ?_
    rw [List.getElem?_append_left (by rw [hl]; exact hn), List.getElem?_set_ne (Ne.symm e)]
theorem drp_set {m : Store} {h : Nat} {c : Nd} (hb : belN m.length c = true) (hh : h < m.length) : drp m (m.set h (some c)) = m.set h (some c) := by
  have := drp_seta (x := []) hb hh
  rwa [List.append_nil] at this
theorem mapR_z {k : Nat} : ∀ (ds : List D), mapR (frA k) (ds.map .z) m = .ok ds m
  | [] => rfl
  | d :: ds => by
    have e : frA k (.z d) m = .ok d m := by cases k <;> rfl
    simp only [List.map_cons, mapR, e, R.bind_ok, mapR_z ds]
theorem frz_lst {n : Nat} {ds : List D} (hc : cell m n = some (.lst (ds.map .z))) : frA 6 (.h n) m = .ok (.lst ds) (m.set n none) := by
  simp only [frA, hc, mapR_z, R.bind_ok, endC]
@[simp] theorem frz_z (d : D) : frA 6 (.z d) m = .ok d m := rfl
theorem setA_app {m x : Store} {h : Nat} {c : Option Nd} (hh : h < m.length) : (m ++ x).set h c = m.set h c ++ x := List.set_append_left h c hh
theorem set_end {m : Store} {c d : Option Nd} {n : Nat} (hn : n = m.length) : (m ++ [c]).set n d = m ++ [d] := by
  subst hn
  rw [List.set_append_right _ _ (Nat.le_refl _)]
  simp
@[simp] theorem noneOk_n (x : A) (m : Store) : noneOk (.z .non) x m = .ok x m := rfl
theorem cell_end (m : Store) (c : Nd) : cell (m ++ [some c]) m.length = some c := cell_appR
theorem src_h {n : Nat} {xs : List A} (hc : cell m n = some (.lst xs)) : srcOf (.h n) m = .ok (.live n) m := by
  simp [srcOf, hc]
theorem isi_at {T : Tab} {x : A} {nd : Nd} {k : Kd} {t : Ty} (hv : view m x = some nd) (hk : kdOf nd = some k) (ho : kdOk T k = true) : isiA T x t m = okZ (.bl (isK T t k)) m := by
  simp [isiA, hv, hk, ho]
theorem cell_end2 {m : Store} {c : Nd} {n : Nat} (h : n = m.length) : cell (m ++ [some c]) n = some c := by
  rw [h]
  exact cell_end m c
theorem st_end {T : Tab} {m : Store} {C f : Nat} {fs : List (Nat × A)} {x : A} (hC : insC T C = true) (hf : fs.length < 900) : stA T (.h m.length) f x (m ++ [some (.ins C fs)]) = some (m ++ [some (.ins C (putFd f x fs))]) := by
  unfold stA
  dsimp only
  rw [cell_end]
  dsimp only
  rw [if_pos (by rw [hC]; exact (show Nat.blt fs.length 900 = true from Nat.ble_eq.mpr hf)), set_end rfl]
theorem drp_end {m : Store} {c c' : Nd} (hb : belN (m.length + 1) c' = true) : drp (m ++ [some c]) (m ++ [some c']) = m ++ [some c'] := by
  rw [drp_keep ⟨by simp, fun n hn => ?_⟩]
  · exact List.take_of_length_le (by simp)
  · by_cases e : n < m.length
    · exact .inl (by rw [List.getElem?_append_left e, List.getElem?_append_left e])
    · have : n = m.length := by simp at hn; omega
      subst this
      refine .inr fun d hd => ?_
      rw [cell_end] at hd
      cases hd
      simpa using hb
theorem frz_ins {n C : Nat} {fs : List (Nat × D)} (hc : cell m n = some (.ins C (fs.map fun p => (p.1, A.z p.2)))) : frA 6 (.h n) m = .ok (.ins C fs) (m.set n none) := by
  have e1 : ((fs.map fun p => (p.1, A.z p.2)).map (·.2)) = (fs.map (·.2)).map A.z := by rw [List.map_map, List.map_map]; rfl
  have e2 : ((fs.map fun p => (p.1, A.z p.2)).map (·.1)) = fs.map (·.1) := by rw [List.map_map]; rfl
  simp only [frA, hc, e1, e2, mapR_z, R.bind_ok, endC]
  have e3 : ∀ l : List (Nat × D), (l.map (·.1)).zip (l.map (·.2)) = l := fun l => by
    induction l with
    | nil => rfl
    | cons p l ih => simp only [List.map_cons, List.zip_cons_cons, ih]
  rw [e3]
theorem att_z {T : Tab} {C f : Nat} {fs : List (Nat × D)} {d : D} (hC : insC T C = true) (h : lookF f fs = some d) : attA T (.z (.ins C fs)) f m = okZ d m := by
  have e : ∀ l : List (Nat × D), lookF f (l.map fun p => (p.1, A.z p.2)) = (lookF f l).map A.z := fun l => by
    induction l with
    | nil => rfl
    | cons p l ih =>
      simp only [List.map_cons, lookF]
      split
      · rfl
      · exact ih
  unfold attA
  simp only [view_ins', hC, if_true, e, h, Option.map_some, ofO_some]
@[simp] theorem list_z (xs : List D) : fn1A false .list (.z (.lst xs)) m = okZ (.lst xs) m := by simp [fn1A]
theorem isi_ins {T : Tab} {C B : Nat} {fs : List (Nat × D)} (hC : insC T C = true) : isiA T (.z (.ins C fs)) (.cls B) m = okZ (.bl (isK T (.cls B) (.cls C))) m := by
  simp [isiA, kdOf, kdOk, hC]
/-- a comprehension without a test, item by item -/
theorem lc_gen {α : Type} {tg : Nat} {cond e : Env → Store → R A} {r : Env} (a g : α → A) : ∀ {l : List α}, (∀ x ∈ l, cond (r.set tg (some (a x))) m = okZ (.bl true) m) → (∀ x ∈ l, e (r.set tg (some (a x))) m = .ok (g x) m) → lcL [tg] false cond e r (l.map a) m = .ok (l.map g) m
  | [], _, _ => rfl
  | x :: xs, h1, h2 => by
    have ih := lc_gen (tg := tg) (r := r) a g (l := xs) (fun y hy => h1 y (List.mem_cons_of_mem _ hy)) fun y hy => h2 y (List.mem_cons_of_mem _ hy)
    simp [lcL, setT, h1 x (by simp), h2 x (by simp), nox, ih]
/-- a comprehension without a test over data: each item in turn -/
theorem lc_map {tg : Nat} {cond e : Env → Store → R A} {r : Env} (f : D → D) : ∀ {xs : List D}, (∀ x ∈ xs, cond (r.set tg (some (.z x))) m = okZ (.bl true) m) → (∀ x ∈ xs, e (r.set tg (some (.z x))) m = okZ (f x) m) → lcL [tg] false cond e r (xs.map .z) m = .ok ((xs.map f).map .z) m
  | [], _, _ => rfl
  | x :: xs, h1, h2 => by
    have ih := lc_map (tg := tg) (r := r) f (xs := xs) (fun y hy => h1 y (List.mem_cons_of_mem _ hy)) fun y hy => h2 y (List.mem_cons_of_mem _ hy)
    simp [lcL, setT, h1 x (by simp), h2 x (by simp), nox, ih]
end
end GL

namespace GL
def fd0l0 : Ss := (.cons (.iff (.cmp .eq (.idx (.var 4) (.cst (.int 0))) (.cst (.str [108, 111, 111, 107])))
(.cons (.ex (.bm1 .append (.idx (.var 4) (.cst (.int 2))) (.tup (.cons (.cst (.str [110, 111, 110, 101])) (.cons (.cst (.int 0)) .nil)))))
.nil)
.nil)
.nil)
def fd0 : FDef := ⟨1, 7, [], (.cons (.asg 2 (.call 8 (.cons (.var 0) (.cons (.cst (.int 1500)) .nil))))
(.cons (.asg 6 (.call 7 (.cons (.var 0) (.cons (.var 2) (.cons (.cst (.int 6)) (.cons (.lst true (.cons (.cst (.int 40)) .nil)) .nil))))))
(.cons (.iff (.cmp .eq (.call 5 (.cons (.var 0) (.cons (.cst (.int 0)) (.cons (.cst (.int 8)) .nil)))) (.cst (.int 0)))
(.cons (.asg 6 (.call 6 (.cons (.var 0) (.cons (.var 2) (.cons (.bin .add (.cst (.int 30)) (.call 5 (.cons (.var 0) (.cons (.cst (.int 1)) (.cons (.cst (.int 11)) .nil))))) .nil)))))
.nil)
.nil)
(.cons (.asg 1 (.lst true .nil))
(.cons (.ex (.call 4 (.cons (.var 1) (.cons (.var 6) .nil))))
(.cons (.asg 3 (.call 3 (.cons (.var 6) .nil)))
(.cons (.asg 5 (.call 2 (.cons (.var 3) .nil)))
(.cons (.iff (.not (.call 1 (.cons (.var 5) (.cons (.var 1) .nil))))
(.cons (.ret (.cst (.bl false)))
.nil)
.nil)
(.cons (.for_ [4] false (.of (.var 5)) fd0l0)
(.cons (.ex (.bm1 .append (.var 5) (.tup (.cons (.cst (.str [115, 116, 111, 112])) .nil))))
(.cons (.ret (.and (.cons (.call 1 (.cons (.call 2 (.cons (.var 3) .nil)) (.cons (.var 1) .nil))) (.cons (.call 1 (.cons (.call 2 (.cons (.make 3 .nil) .nil)) (.cons (.lst false (.cons (.tup (.cons (.cst (.str [115, 116, 111, 112])) .nil)) .nil)) .nil))) .nil))))
.nil)))))))))))⟩
def ln0 : List PySem.Str := [PySem.Str.ofString "_law_script", PySem.Str.ofString "_law_due", PySem.Str.ofString "_law_names_here", PySem.Str.ofString "_law_plan_here", PySem.Str.ofString "_law_row", PySem.Str.ofString "_law_told", PySem.Str.ofString "_law_tree_here"]
def fd1l0 : Ss := (.cons (.iff (.or (.cons (.not (.isi (.var 3) .tuple)) (.cons (.cmp .ne (.fn1 false .len (.var 3)) (.cst (.int 2))) (.cons (.isi (.idx (.var 3) (.cst (.int 1))) .bool) .nil))))
(.cons (.ret (.cst (.bl false)))
.nil)
.nil)
.nil)
def fd1l1 : Ss := (.cons (.iff (.or (.cons (.not (.isi (.var 2) .tuple)) (.cons (.cmp .lt (.fn1 false .len (.var 2)) (.cst (.int 1))) (.cons (.not (.isi (.idx (.var 2) (.cst (.int 0))) .str)) .nil))))
(.cons (.ret (.cst (.bl false)))
.nil)
.nil)
(.cons (.iff (.and (.cons (.cmp .eq (.idx (.var 2) (.cst (.int 0))) (.cst (.str [100, 111]))) (.cons (.or (.cons (.cmp .ne (.fn1 false .len (.var 2)) (.cst (.int 3))) (.cons (.isi (.idx (.var 2) (.cst (.int 2))) .bool) .nil))) .nil)))
(.cons (.ret (.cst (.bl false)))
.nil)
.nil)
(.cons (.iff (.cmp .eq (.idx (.var 2) (.cst (.int 0))) (.cst (.str [108, 111, 111, 107])))
(.cons (.iff (.or (.cons (.cmp .ne (.fn1 false .len (.var 2)) (.cst (.int 3))) (.cons (.not (.isi (.idx (.var 2) (.cst (.int 2))) .list)) .nil)))
(.cons (.ret (.cst (.bl false)))
.nil)
.nil)
(.cons (.for_ [3] false (.of (.idx (.var 2) (.cst (.int 2)))) fd1l0)
.nil))
.nil)
.nil)))
def fd1 : FDef := ⟨2, 4, [], (.cons (.iff (.or (.cons (.not (.isi (.var 0) .list)) (.cons (.cmp .ne (.fn1 false .len (.var 0)) (.fn1 false .len (.var 1))) .nil)))
(.cons (.ret (.cst (.bl false)))
.nil)
.nil)
(.cons (.for_ [2] false (.of (.var 0)) fd1l1)
(.cons (.ret (.cmp .eq (.var 0) (.var 1)))
.nil)))⟩
def ln1 : List PySem.Str := [PySem.Str.ofString "_law_told", PySem.Str.ofString "_law_due", PySem.Str.ofString "_law_row", PySem.Str.ofString "_law_way"]
def fd2 : FDef := ⟨1, 2, [], (.cons (.asg 1 (.lst true .nil))
(.cons (.ex (.call 9 (.cons (.var 1) (.cons (.var 0) .nil))))
(.cons (.ret (.var 1))
.nil)))⟩
def ln2 : List PySem.Str := [PySem.Str.ofString "plan", PySem.Str.ofString "rows"]
def fd3 : FDef := ⟨1, 2, [], (.cons (.iff (.cmp .eq (.idx (.var 0) (.cst (.int 0))) (.cst (.str [115, 116, 111, 112])))
(.cons (.ret (.make 3 .nil))
.nil)
.nil)
(.cons (.iff (.cmp .eq (.idx (.var 0) (.cst (.int 0))) (.cst (.str [100, 111])))
(.cons (.ret (.frz (.make 4 (.cons (.idx (.var 0) (.cst (.int 1))) (.cons (.call 3 (.cons (.idx (.var 0) (.cst (.int 2))) .nil)) .nil)))))
.nil)
.nil)
(.cons (.ret (.frz (.make 5 (.cons (.idx (.var 0) (.cst (.int 1))) (.cons (.lc false [1] false (.of (.idx (.var 0) (.cst (.int 2)))) .no (.tup (.cons (.idx (.var 1) (.cst (.int 0))) (.cons (.call 3 (.cons (.idx (.var 1) (.cst (.int 1))) .nil)) .nil)))) .nil)))))
.nil)))⟩
def ln3 : List PySem.Str := [PySem.Str.ofString "_law_tree_here", PySem.Str.ofString "_law_way"]
def fd4l0 : Ss := (.cons (.ex (.bm1 .append (.var 4) (.tup (.cons (.idx (.var 3) (.cst (.int 0))) (.cons (.fn1 false .len (.var 0)) .nil)))))
(.cons (.ex (.call 4 (.cons (.var 0) (.cons (.idx (.var 3) (.cst (.int 1))) .nil))))
.nil))
def fd4 : FDef := ⟨2, 5, [], (.cons (.asg 2 (.fn1 false .len (.var 0)))
(.cons (.ex (.bm1 .append (.var 0) (.tup (.cons (.cst (.str [115, 116, 111, 112])) .nil))))
(.cons (.iff (.cmp .eq (.idx (.var 1) (.cst (.int 0))) (.cst (.str [100, 111])))
(.cons (.sit (.var 0) (.var 2) (.tup (.cons (.cst (.str [100, 111])) (.cons (.idx (.var 1) (.cst (.int 1))) (.cons (.bin .add (.var 2) (.cst (.int 1))) .nil)))))
(.cons (.ex (.call 4 (.cons (.var 0) (.cons (.idx (.var 1) (.cst (.int 2))) .nil))))
.nil))
.nil)
(.cons (.iff (.cmp .eq (.idx (.var 1) (.cst (.int 0))) (.cst (.str [108, 111, 111, 107])))
(.cons (.asg 4 (.lst true .nil))
(.cons (.for_ [3] false (.of (.idx (.var 1) (.cst (.int 2)))) fd4l0)
(.cons (.sit (.var 0) (.var 2) (.tup (.cons (.cst (.str [108, 111, 111, 107])) (.cons (.idx (.var 1) (.cst (.int 1))) (.cons (.frz (.var 4)) .nil)))))
.nil)))
.nil)
.nil))))⟩
def ln4 : List PySem.Str := [PySem.Str.ofString "_law_rows", PySem.Str.ofString "_law_tree_here", PySem.Str.ofString "_law_at", PySem.Str.ofString "_law_way", PySem.Str.ofString "_law_ways"]
def fd5 : FDef := ⟨3, 4, [], (.cons (.asg 3 (.bin .mod (.bin .mul (.bin .add (.bin .add (.bin .mod (.call 12 (.cons (.var 0) (.cons (.var 1) .nil))) (.cst (.int 1000003))) (.bin .mul (.var 1) (.var 1))) (.cst (.int 1))) (.cst (.int 48271))) (.cst (.int 999983))))
(.cons (.ret (.bin .mod (.bin .mod (.bin .mul (.var 3) (.cst (.int 742938285))) (.cst (.int 2147483629))) (.var 2)))
.nil))⟩
def ln5 : List PySem.Str := [PySem.Str.ofString "_law_script", PySem.Str.ofString "_law_k", PySem.Str.ofString "_law_many", PySem.Str.ofString "_law_number"]
def fd6l0 : Ss := (.cons (.iff (.cmp .eq (.call 5 (.cons (.var 0) (.cons (.bin .add (.cst (.int 200)) (.var 3)) (.cons (.cst (.int 3)) .nil)))) (.cst (.int 0)))
(.cons (.asg 4 (.tup (.cons (.cst (.str [108, 111, 111, 107])) (.cons (.idx (.var 1) (.bin .add (.cst (.int 3)) (.call 5 (.cons (.var 0) (.cons (.bin .add (.cst (.int 260)) (.var 3)) (.cons (.cst (.int 3)) .nil)))))) (.cons (.lst false (.cons (.tup (.cons (.idx (.var 1) (.call 5 (.cons (.var 0) (.cons (.bin .add (.cst (.int 320)) (.var 3)) (.cons (.cst (.int 8)) .nil))))) (.cons (.var 4) .nil))) .nil)) .nil)))))
.nil)
(.cons (.asg 4 (.tup (.cons (.cst (.str [100, 111])) (.cons (.idx (.var 1) (.call 5 (.cons (.var 0) (.cons (.bin .add (.cst (.int 260)) (.var 3)) (.cons (.cst (.int 3)) .nil))))) (.cons (.var 4) .nil)))))
.nil))
.nil)
def fd6 : FDef := ⟨3, 5, [], (.cons (.asg 4 (.tup (.cons (.cst (.str [115, 116, 111, 112])) .nil)))
(.cons (.for_ [3] false (.rng1 (.var 2)) fd6l0)
(.cons (.ret (.var 4))
.nil)))⟩
def ln6 : List PySem.Str := [PySem.Str.ofString "_law_script", PySem.Str.ofString "_law_names_here", PySem.Str.ofString "_law_depth", PySem.Str.ofString "_law_k", PySem.Str.ofString "_law_tree_here"]
def fd7l0 : Ss := (.cons (.asg 4 (.idx (.var 1) (.bin .mod (.bin .add (.call 5 (.cons (.var 0) (.cons (.bin .add (.var 5) (.cst (.int 3))) (.cons (.cst (.int 8)) .nil)))) (.var 6)) (.cst (.int 8)))))
(.cons (.ex (.bm1 .append (.var 8) (.tup (.cons (.var 4) (.cons (.call 7 (.cons (.var 0) (.cons (.var 1) (.cons (.bin .sub (.var 2) (.cst (.int 1))) (.cons (.var 3) .nil))))) .nil)))))
.nil))
def fd7 : FDef := ⟨4, 9, [], (.cons (.sit (.var 3) (.cst (.int 0)) (.bin .sub (.idx (.var 3) (.cst (.int 0))) (.cst (.int 1))))
(.cons (.asg 5 (.bin .add (.cst (.int 200)) (.bin .mul (.cst (.int 4)) (.idx (.var 3) (.cst (.int 0))))))
(.cons (.asg 7 (.call 5 (.cons (.var 0) (.cons (.var 5) (.cons (.cst (.int 5)) .nil)))))
(.cons (.iff (.or (.cons (.cmp .eq (.var 2) (.cst (.int 0))) (.cons (.cmp .lt (.idx (.var 3) (.cst (.int 0))) (.cst (.int 1))) (.cons (.cmp .eq (.var 7) (.cst (.int 0))) .nil))))
(.cons (.ret (.tup (.cons (.cst (.str [115, 116, 111, 112])) .nil)))
.nil)
.nil)
(.cons (.iff (.cmp .lt (.var 7) (.cst (.int 3)))
(.cons (.ret (.tup (.cons (.cst (.str [100, 111])) (.cons (.idx (.var 1) (.call 5 (.cons (.var 0) (.cons (.bin .add (.var 5) (.cst (.int 1))) (.cons (.cst (.int 3)) .nil))))) (.cons (.call 7 (.cons (.var 0) (.cons (.var 1) (.cons (.bin .sub (.var 2) (.cst (.int 1))) (.cons (.var 3) .nil))))) .nil)))))
.nil)
.nil)
(.cons (.asg 8 (.lst true .nil))
(.cons (.for_ [6] false (.rng1 (.bin .add (.cst (.int 1)) (.call 5 (.cons (.var 0) (.cons (.bin .add (.var 5) (.cst (.int 2))) (.cons (.cst (.int 3)) .nil)))))) fd7l0)
(.cons (.ret (.tup (.cons (.cst (.str [108, 111, 111, 107])) (.cons (.idx (.var 1) (.bin .add (.cst (.int 3)) (.call 5 (.cons (.var 0) (.cons (.bin .add (.var 5) (.cst (.int 1))) (.cons (.cst (.int 3)) .nil)))))) (.cons (.frz (.var 8)) .nil)))))
.nil))))))))⟩
def ln7 : List PySem.Str := [PySem.Str.ofString "_law_script", PySem.Str.ofString "_law_names_here", PySem.Str.ofString "_law_depth", PySem.Str.ofString "_law_left", PySem.Str.ofString "_law_answer", PySem.Str.ofString "_law_at", PySem.Str.ofString "_law_k", PySem.Str.ofString "_law_way", PySem.Str.ofString "_law_ways"]
def fd8 : FDef := ⟨2, 7, [], (.cons (.asg 5 (.cst (.str [32, 97, 98, 99, 120, 121, 122, 65, 66, 90, 48, 49, 57, 45, 95, 46, 126, 33])))
(.cons (.asg 2 (.bm1 .join (.cst (.str [])) (.lc false [3] false (.rng1 (.call 5 (.cons (.var 0) (.cons (.var 1) (.cons (.cst (.int 22)) .nil))))) .no (.idx (.var 5) (.call 5 (.cons (.var 0) (.cons (.bin .add (.bin .add (.var 1) (.cst (.int 2))) (.var 3)) (.cons (.cst (.int 17)) .nil))))))))
(.cons (.asg 5 (.cst (.str [97, 98, 99, 100, 101, 102, 103, 104])))
(.cons (.iff (.cmp .eq (.call 5 (.cons (.var 0) (.cons (.bin .add (.var 1) (.cst (.int 40))) (.cons (.cst (.int 5)) .nil)))) (.cst (.int 0)))
(.cons (.ret (.lc false [3] false (.rng1 (.fn1 false .len (.var 5))) .no (.bin .add (.var 2) (.slc (.var 5) .no (.some (.bin .add (.var 3) (.cst (.int 1))))))))
.nil)
.nil)
(.cons (.asg 6 (.call 5 (.cons (.var 0) (.cons (.bin .add (.var 1) (.cst (.int 1))) (.cons (.bin .add (.fn1 false .len (.var 2)) (.cst (.int 1))) .nil)))))
(.cons (.ret (.lc false [4] false (.of (.var 5)) .no (.bin .add (.bin .add (.slc (.var 2) .no (.some (.var 6))) (.var 4)) (.slc (.var 2) (.some (.var 6)) .no))))
.nil))))))⟩
def ln8 : List PySem.Str := [PySem.Str.ofString "_law_script", PySem.Str.ofString "_law_at", PySem.Str.ofString "_law_base", PySem.Str.ofString "_law_k", PySem.Str.ofString "_law_sign", PySem.Str.ofString "_law_signs", PySem.Str.ofString "_law_spot"]
def fd9l0 : Ss := (.cons (.ex (.bm1 .append (.var 4) (.tup (.cons (.idx (.var 3) (.cst (.int 0))) (.cons (.fn1 false .len (.var 0)) .nil)))))
(.cons (.ex (.call 9 (.cons (.var 0) (.cons (.idx (.var 3) (.cst (.int 1))) .nil))))
.nil))
def fd9 : FDef := ⟨2, 5, [], (.cons (.asg 2 (.fn1 false .len (.var 0)))
(.cons (.iff (.isi (.var 1) (.cls 3))
(.cons (.ex (.bm1 .append (.var 0) (.tup (.cons (.cst (.str [115, 116, 111, 112])) .nil))))
.nil)
(.cons (.iff (.isi (.var 1) (.cls 4))
(.cons (.ex (.bm1 .append (.var 0) (.tup (.cons (.cst (.str [100, 111])) (.cons (.att (.var 1) 1) (.cons (.bin .add (.var 2) (.cst (.int 1))) .nil))))))
(.cons (.ex (.call 9 (.cons (.var 0) (.cons (.att (.var 1) 0) .nil))))
.nil))
(.cons (.ex (.bm1 .append (.var 0) (.cst .non)))
(.cons (.asg 4 (.lst true .nil))
(.cons (.for_ [3] false (.of (.meth 0 (.var 1) .nil)) fd9l0)
(.cons (.sit (.var 0) (.var 2) (.tup (.cons (.cst (.str [108, 111, 111, 107])) (.cons (.att (.var 1) 2) (.cons (.var 4) .nil)))))
.nil)))))
.nil))
.nil))⟩
def ln9 : List PySem.Str := [PySem.Str.ofString "rows", PySem.Str.ofString "plan", PySem.Str.ofString "at", PySem.Str.ofString "way", PySem.Str.ofString "ways"]
def fd10 : FDef := ⟨3, 4, [], (.cons (.iff (.cmp .eq (.fn1 false .len (.var 2)) (.cst (.int 0)))
(.cons (.raise 1 .nil)
.nil)
.nil)
(.cons (.iff (.cmp .lt (.fn1 false .setlen (.lc false [3] false (.of (.var 2)) .no (.idx (.var 3) (.cst (.int 0))))) (.fn1 false .len (.var 2)))
(.cons (.raise 1 .nil)
.nil)
.nil)
(.cons (.sfd (.var 0) 2 (.var 1))
(.cons (.sfd (.var 0) 3 (.lc false [3] false (.of (.var 2)) .no (.tup (.cons (.idx (.var 3) (.cst (.int 0))) (.cons (.idx (.var 3) (.cst (.int 1))) .nil)))))
.nil))))⟩
def ln10 : List PySem.Str := [PySem.Str.ofString "self", PySem.Str.ofString "look", PySem.Str.ofString "ways", PySem.Str.ofString "way"]
def fd11 : FDef := ⟨3, 3, [], (.cons (.sfd (.var 0) 1 (.var 1))
(.cons (.sfd (.var 0) 0 (.var 2))
.nil))⟩
def ln11 : List PySem.Str := [PySem.Str.ofString "self", PySem.Str.ofString "deed", PySem.Str.ofString "rest"]
def fd12 : FDef := ⟨2, 2, [], (.cons (.iff (.cmp .eq (.fn1 false .len (.var 0)) (.cst (.int 0)))
(.cons (.ret (.cst (.int 0)))
.nil)
.nil)
(.cons (.ret (.idx (.var 0) (.bin .mod (.var 1) (.fn1 false .len (.var 0)))))
.nil))⟩
def ln12 : List PySem.Str := [PySem.Str.ofString "_law_script", PySem.Str.ofString "_law_k"]
def fd13 : FDef := ⟨1, 1, [], (.cons (.ret (.fn1 false .list (.att (.var 0) 3)))
.nil)⟩
def ln13 : List PySem.Str := [PySem.Str.ofString "self"]
def cd0 : CDef := ⟨[0], [], none, (some [])⟩
def cd1 : CDef := ⟨[1, 0], [], none, (some [])⟩
def cd2 : CDef := ⟨[2], [], none, none⟩
def cd3 : CDef := ⟨[3, 2], [], none, none⟩
def cd4 : CDef := ⟨[4, 2], [], (some 11), none⟩
def cd5 : CDef := ⟨[5, 2], [(0, 13)], (some 10), none⟩
def tab : Tab := ⟨[fd0, fd1, fd2, fd3, fd4, fd5, fd6, fd7, fd8, fd9, fd10, fd11, fd12, fd13], [cd0, cd1, cd2, cd3, cd4, cd5], []⟩
def lns : List (List PySem.Str) := [ln0, ln1, ln2, ln3, ln4, ln5, ln6, ln7, ln8, ln9, ln10, ln11, ln12, ln13]
def nms : Nms := ⟨[(PySem.Str.ofString "law", none), (PySem.Str.ofString "_law_kinds", none), (PySem.Str.ofString "rows_of", none), (PySem.Str.ofString "_law_plan", none), (PySem.Str.ofString "_law_lay", none), (PySem.Str.ofString "_law_draw", none), (PySem.Str.ofString "_law_long", none), (PySem.Str.ofString "_law_tree", none), (PySem.Str.ofString "_law_names", none), (PySem.Str.ofString "lay_rows", none), (PySem.Str.ofString "Look", some (PySem.Str.ofString "__init__")), (PySem.Str.ofString "Do", some (PySem.Str.ofString "__init__")), (PySem.Str.ofString "_law_cell", none), (PySem.Str.ofString "Look", some (PySem.Str.ofString "ways"))],
 [PySem.Str.ofString "GropeError", PySem.Str.ofString "NoPlan", PySem.Str.ofString "Plan", PySem.Str.ofString "Stop", PySem.Str.ofString "Do", PySem.Str.ofString "Look"],
 [PySem.Str.ofString "rest", PySem.Str.ofString "deed", PySem.Str.ofString "look", PySem.Str.ofString "branches"],
 [PySem.Str.ofString "ways"], []⟩
-- functions: 0 law, 1 _law_kinds, 2 rows_of, 3 _law_plan, 4 _law_lay, 5 _law_draw, 6 _law_long, 7 _law_tree, 8 _law_names, 9 lay_rows, 10 Look.__init__, 11 Do.__init__, 12 _law_cell, 13 Look.ways
-- names: _wall __name__ GropeError NoPlan __name__ Plan Stop Do Look __name__ lay_rows rows_of __name__ _law_cell _law_draw _law_names _law_tree _law_long _law_plan _law_lay _law_kinds law
end GL

namespace GL
/-! ### draws -/
theorem dfl60 : ∀ fd ∈ tab.fns, fd.dfl = [] := by
  have h : tab.fns.all (fun fd => fd.dfl.isEmpty) = true := by rfl
  intro fd hfd
  exact List.isEmpty_iff.mp (List.all_eq_true.mp h fd hfd)
@[simp] theorem fill60 (f : Nat) (xs : List A) : fill tab f xs = xs := fill_no dfl60
def cel (ns : List Int) (k : Int) : Int := if ns = [] then 0 else (ns[(k % (ns.length : Int)).toNat]?).getD 0
@[simp] theorem c12 (n : Nat) (ns : List Int) (k : Int) (m : Store) : callF tab (n + 1) 12 [.z (.scr ns), .z (.int k)] m = okZ (.int (cel ns k)) m := by
  rw [call_def (fd := fd12) rfl rfl]
  by_cases h : ns = []
  · subst h
    simp [fd12, cel]
  · have h1 : ns.length ≠ 0 := by simp [h]
    have h2 : (0 : Int) < ns.length := by omega
    have h3 : 0 ≤ k % (ns.length : Int) := Int.emod_nonneg _ (by omega)
    have h4 : k % (ns.length : Int) < ns.length := Int.emod_lt_of_pos _ h2
    have h5 : (k % (ns.length : Int)).toNat < ns.length := by omega
    have h6 : ((ns.length : Int) == 0) = false := beq_eq_false_iff_ne.mpr (by omega)
    simp [fd12, cel, h, h6, bin_mod h2, idx_scr (ixL_of h3 h4) (List.getElem?_eq_getElem h5), h5]
def drw (ns : List Int) (k many : Int) : Int := ((cel ns k % 1000003 + k * k + 1) * 48271 % 999983) * 742938285 % 2147483629 % many
@[simp] theorem c5 (n : Nat) (ns : List Int) (k many : Int) (m : Store) (hk : b64 k = true) (hm : 0 < many) : callF tab (n + 2) 5 [.z (.scr ns), .z (.int k), .z (.int many)] m = okZ (.int (drw ns k many)) m := by
  rw [call_def (fd := fd5) rfl rfl]
  have e1 : ∀ i : Int, (b64 i || b64 48271) = true := fun i => by simp [b64]
  have e2 : ∀ i : Int, (b64 i || b64 742938285) = true := fun i => by simp [b64]
  simp [fd5, bin_mod, bin_mul, hk, hm, e1, e2, drw]
theorem drw_lo {ns : List Int} {k many : Int} (h : 0 < many) : 0 ≤ drw ns k many := Int.emod_nonneg _ (by omega)
theorem drw_hi {ns : List Int} {k many : Int} (h : 0 < many) : drw ns k many < many := Int.emod_lt_of_pos _ h
/-! ### names -/
def sg17 : List Nat := [32, 97, 98, 99, 120, 121, 122, 65, 66, 90, 48, 49, 57, 45, 95, 46, 126, 33]
def abc : List Nat := [97, 98, 99, 100, 101, 102, 103, 104]
def pick (l : List Nat) (i : Int) : Nat := (l[i.toNat]?).getD 0
def bas (ns : List Int) : List Nat := (List.range (drw ns 1500 22).toNat).map fun (k : Nat) => pick sg17 (drw ns (1502 + (k : Int)) 17)
def nmL (ns : List Int) : List (List Nat) := if drw ns 1540 5 = 0 then (List.range 8).map fun k => bas ns ++ abc.take (k + 1)
  else abc.map fun c => (bas ns).take (drw ns 1501 ((bas ns).length + 1)).toNat ++ [c] ++ (bas ns).drop (drw ns 1501 ((bas ns).length + 1)).toNat
theorem bas_len (ns : List Int) : (bas ns).length < 22 := by
  unfold bas
  rw [List.length_map, List.length_range]
  have h1 := drw_lo (ns := ns) (k := 1500) (many := 22) (by omega)
  have h2 := drw_hi (ns := ns) (k := 1500) (many := 22) (by omega)
  omega
theorem b64_of {i : Int} (h1 : -1000000 ≤ i) (h2 : i ≤ 1000000) : b64 i = true := by
  unfold b64
  simp only [Bool.and_eq_true, decide_eq_true_eq]
  omega
theorem pick_ix {l : List Nat} {i : Int} (h1 : 0 ≤ i) (h2 : i < l.length) : ∃ j, ixL l.length i = some j ∧ l[j]? = some (pick l i) := by
  refine ⟨i.toNat, ixL_of h1 h2, ?_⟩
  unfold pick
  rw [List.getElem?_eq_getElem (by omega)]
  rfl
theorem c8 (n : Nat) (ns : List Int) (m : Store) : callF tab (n + 3) 8 [.z (.scr ns), .z (.int 1500)] m = okZ (.lst ((nmL ns).map .str)) m := by
  rw [call_def (fd := fd8) rfl rfl]
  have hb : b64 1500 = true := by decide
  have hb2 : b64 1540 = true := by decide
  have hb3 : b64 1501 = true := by decide
  have h1 := drw_lo (ns := ns) (k := 1500) (many := 22) (by omega)
  have h2 := drw_hi (ns := ns) (k := 1500) (many := 22) (by omega)
  have hr : inR (drw ns 1500 22) = true := by unfold inR; simp; omega
  have hz : (drw ns 1500 22).toNat < sz := by unfold sz; omega
  have hl := bas_len ns
  have hl2 : (bas ns).length ≤ sz := by unfold sz; omega
  have e1 : ∀ k ∈ List.range (drw ns 1500 22).toNat, b64 (1502 + (k : Int)) = true := fun k hk => by
    have := List.mem_range.mp hk
    exact b64_of (by omega) (by omega)
  simp [fd8, hb, hr, rngL_z, hz]
  rw [lc_gen (g := fun (k : Nat) => .z (.str [pick sg17 (drw ns (1502 + (k : Int)) 17)])) _ (fun k hk => by simp) (fun k hk => by
    have d1 := drw_lo (ns := ns) (k := 1502 + (k : Int)) (many := 17) (by omega)
    have d2 := drw_hi (ns := ns) (k := 1502 + (k : Int)) (many := 17) (by omega)
    obtain ⟨j, j1, j2⟩ := pick_ix (l := sg17) d1 (by simp [sg17]; omega)
    simp [wipeE, show (1500 : Int) + 2 + (k : Int) = 1502 + k by omega, e1 k hk]
    exact idx_str (by simp [sz]) j1 j2)]
  have ej : bm1A .join (.z (.str [])) (.z (.lst ((List.range (drw ns 1500 22).toNat).map fun (k : Nat) => D.str [pick sg17 (drw ns (1502 + (k : Int)) 17)]))) m = okZ (.str (bas ns)) m := by
    have := join_one (m := m) (cs := bas ns) hl2
    unfold bas at this ⊢
    rw [List.map_map] at this
    exact this
  simp [ej, hb2]
  have hsz : sz = 16777216 := rfl
  by_cases hc : drw ns 1540 5 = 0
  · simp [hc, hsz, inR, rngL_z]
    rw [lc_gen (g := fun (k : Nat) => .z (.str (bas ns ++ abc.take (k + 1)))) _ (fun k hk => by simp) (fun k hk => by
      have hk := List.mem_range.mp hk
      have e : ((k : Int) + 1) = ((k + 1 : Nat) : Int) := by omega
      simp [wipeE]
      rw [e, slc_to (by simp [hsz]) (by simp; omega)]
      simp
      rw [bin_cat (by simp [hsz]; omega)]
      rfl)]
    simp
    unfold nmL
    rw [if_pos hc]
    simp
  · have d1 := drw_lo (ns := ns) (k := 1501) (many := (bas ns).length + 1) (by omega)
    have d2 := drw_hi (ns := ns) (k := 1501) (many := (bas ns).length + 1) (by omega)
    have hp : (0 : Int) < (bas ns).length + 1 := by omega
    have hl3 : (bas ns).length ≤ 16777216 := by omega
    have hcb : (drw ns 1540 5 == 0) = false := beq_eq_false_iff_ne.mpr hc
    generalize hq : drw ns 1501 ((bas ns).length + 1) = q at d1 d2
    obtain ⟨j, rfl⟩ : ∃ j : Nat, q = j := ⟨q.toNat, by omega⟩
    simp [hcb, hb3, hp, hq, hsz, hl3]
    have ea : [A.z (.str [97]), A.z (.str [98]), A.z (.str [99]), A.z (.str [100]), A.z (.str [101]), A.z (.str [102]), A.z (.str [103]), A.z (.str [104])] = abc.map fun c => A.z (.str [c]) := rfl
    rw [ea, lc_gen (g := fun (c : Nat) => .z (.str ((bas ns).take j ++ [c] ++ (bas ns).drop j))) _ (fun k hk => by simp) (fun k hk => by
      have hj : j ≤ (bas ns).length := by omega
      simp [wipeE, slc_to, slc_from, hsz, hl3, hj]
      rw [bin_cat (by simp [hsz]; omega)]
      simp
      rw [bin_cat (by simp [hsz]; omega)]
      simp)]
    simp
    unfold nmL
    rw [if_neg hc, hq]
    simp
theorem nmL_len (ns : List Int) : (nmL ns).length = 8 := by
  unfold nmL
  split <;> simp [abc]
theorem nmL_nd (ns : List Int) : (nmL ns).Nodup := by
  unfold nmL
  split
  · refine nodup_map' List.nodup_range fun a ha b hb e => ?_
    have ha := List.mem_range.mp ha
    have hb := List.mem_range.mp hb
    have := congrArg List.length e
    simp [abc] at this
    omega
  · refine nodup_map' (by decide) fun a ha b hb e => ?_
    simpa using e
/-- signs within ASCII -/
theorem sg17_ok : ∀ i, pick sg17 i < 128 := fun i => by
  unfold pick
  cases h : sg17[i.toNat]? with
  | none => simp
  | some c =>
    have := List.mem_of_getElem? h
    have hall : ∀ c ∈ sg17, c < 128 := by decide
    exact hall c this
theorem bas_ok (ns : List Int) : ∀ c ∈ bas ns, c < 128 := fun c hc => by
  unfold bas at hc
  obtain ⟨k, _, rfl⟩ := List.mem_map.mp hc
  exact sg17_ok _
theorem nmL_ok (ns : List Int) : ∀ x ∈ nmL ns, ∀ c ∈ x, c < 128 := by
  have hb := bas_ok ns
  have ha : ∀ c ∈ abc, c < 128 := by decide
  intro x hx c hc
  unfold nmL at hx
  split at hx
  · obtain ⟨k, _, rfl⟩ := List.mem_map.mp hx
    rcases List.mem_append.mp hc with h | h
    · exact hb c h
    · exact ha c (List.mem_of_mem_take h)
  · obtain ⟨k, hk, rfl⟩ := List.mem_map.mp hx
    rcases List.mem_append.mp hc with h | h
    · rcases List.mem_append.mp h with h | h
      · exact hb c (List.mem_of_mem_take h)
      · rw [List.mem_singleton.mp h]; exact ha k hk
    · exact hb c (List.mem_of_mem_drop h)
theorem nmL_small (ns : List Int) : ∀ x ∈ nmL ns, x.length ≤ 40 := by
  intro x hx
  have hl := bas_len ns
  unfold nmL at hx
  split at hx
  · obtain ⟨k, hk, rfl⟩ := List.mem_map.mp hx
    simp [abc]
    omega
  · obtain ⟨k, hk, rfl⟩ := List.mem_map.mp hx
    simp
    omega
/-! ### trees -/
inductive Tr where
  | stop | go (d : List Nat) (t : Tr) | look (q : List Nat) (ws : List (List Nat × Tr))
abbrev tStop : List Nat := [115, 116, 111, 112]
abbrev tDo : List Nat := [100, 111]
abbrev tLook : List Nat := [108, 111, 111, 107]
mutual
def toD : Tr → D
  | .stop => .tup [.str tStop]
  | .go d t => .tup [.str tDo, .str d, toD t]
  | .look q ws => .tup [.str tLook, .str q, .lst (toDs ws)]
def toDs : List (List Nat × Tr) → List D
  | [] => []
  | (a, t) :: r => .tup [.str a, toD t] :: toDs r
end
mutual
/-- how many rows -/
def cnt : Tr → Nat
  | .stop => 1
  | .go _ t => cnt t + 1
  | .look _ ws => cntW ws + 1
def cntW : List (List Nat × Tr) → Nat
  | [] => 0
  | (_, t) :: r => cnt t + cntW r
end
theorem cntW_app (a : List Nat) (t : Tr) : ∀ ws : List (List Nat × Tr), cntW (ws ++ [(a, t)]) = cntW ws + cnt t
  | [] => by simp [cntW]
  | (b, s) :: r => by
    have ih := cntW_app a t r
    simp only [List.cons_append, cntW, ih]
    omega
/-- good trees, of a depth -/
inductive Wf (N : List (List Nat)) : Nat → Tr → Prop
  | stop {n : Nat} : Wf N n .stop
  | go {n : Nat} {d : List Nat} {t : Tr} : d ∈ N → Wf N n t → Wf N (n + 1) (.go d t)
  | look {n : Nat} {q : List Nat} {ws : List (List Nat × Tr)} : q ∈ N → ws ≠ [] → ws.length ≤ 100 → (ws.map (·.1)).Nodup → (∀ p ∈ ws, p.1 ∈ N) → (∀ p ∈ ws, Wf N n p.2) → Wf N (n + 1) (.look q ws)
theorem Wf.mono {N : List (List Nat)} : ∀ {n : Nat} {t : Tr}, Wf N n t → ∀ {k : Nat}, n ≤ k → Wf N k t
  | _, _, .stop, _, _ => .stop
  | _, _, .go hd h, k + 1, hk => .go hd (Wf.mono h (by omega))
  | _, _, .look hq h1 h2 h3 h4 h5, k + 1, hk => .look hq h1 h2 h3 h4 fun p hp => Wf.mono (h5 p hp) (by omega)
/-! #### the tree by draws -/
theorem toDs_map (ws : List (List Nat × Tr)) : toDs ws = ws.map fun p => .tup [.str p.1, toD p.2] := by
  induction ws with
  | nil => rfl
  | cons p ws ih =>
    obtain ⟨a, t⟩ := p
    rw [toDs, ih]
    rfl
theorem nm_idx {ns : List Int} {i : Int} (h1 : 0 ≤ i) (h2 : i < 8) (m : Store) : ∃ x ∈ nmL ns, (nmL ns)[i.toNat]? = some x ∧ idxA (.z (.lst ((nmL ns).map .str))) (.z (.int i)) m = okZ (.str x) m := by
  have hl := nmL_len ns
  have hi : i.toNat < (nmL ns).length := by omega
  refine ⟨(nmL ns)[i.toNat], List.getElem_mem hi, List.getElem?_eq_getElem hi, ?_⟩
  refine idx_lst (j := i.toNat) (ixL_of h1 (by simp [hl]; exact h2)) ?_
  rw [List.getElem?_map, List.getElem?_eq_getElem hi]
  rfl
abbrev Lc (L : Int) : Nd := .lst [.z (.int L)]
theorem c7 (ns : List Int) : ∀ (d n : Nat) (L : Int) (m : Store) (h : Nat), cell m h = some (Lc L) → -100000 + (4 : Int) ^ d ≤ L → L ≤ 100 → d ≤ 6 →
    ∃ t L', callF tab (n + d + 4) 7 [.z (.scr ns), .z (.lst ((nmL ns).map .str)), .z (.int d), .h h] m = .ok (.z (toD t)) (m.set h (some (Lc L'))) ∧ Wf (nmL ns) d t ∧ L - (4 : Int) ^ d ≤ L' ∧ L' = L - cnt t := by
  intro d
  induction d with
  | zero =>
    intro n L m h hc hL hL2 hd
    have hlt : h < m.length := cell_lt hc
    have hb : b64 (200 + 4 * (L - 1)) = true := b64_of (by simp at hL; omega) (by omega)
    have e1 : idxA (.h h) (.z (.int 0)) m = .ok (.z (.int L)) m := idx_h hc (ixL_z 0) rfl
    have e2 : ∀ x : A, sitA (.h h) (.z (.int 0)) x m = some (m.set h (some (.lst [x]))) := fun x => sit_h hc (ixL_z 0)
    have hc1 := cell_set_same (c := Lc (L - 1)) hlt
    have e3 : idxA (.h h) (.z (.int 0)) (m.set h (some (Lc (L - 1)))) = .ok (.z (.int (L - 1))) (m.set h (some (Lc (L - 1)))) := idx_h hc1 (ixL_z 0) rfl
    have hb4 : b64 4 = true := by decide
    refine ⟨.stop, L - 1, ?_, .stop, by simp, by simp [cnt]⟩
    rw [call_def (fd := fd7) rfl rfl]
    simp [fd7, e1, e2, e3, hb, hb4, mkTup, allZ, sz, drp_set, hlt, belN, belA, toD]
  | succ d ih =>
    intro n L m h hc hL hL2 hd
    have hlt : h < m.length := cell_lt hc
    have h4 : (4 : Int) ^ (d + 1) = 4 * 4 ^ d := by rw [Int.pow_succ]; omega
    have h4p : (1 : Int) ≤ 4 ^ d := by
      have : (0 : Int) < 4 ^ d := Int.pow_pos (by omega)
      omega
    have hb : b64 (200 + 4 * (L - 1)) = true := b64_of (by omega) (by omega)
    have hb1 : b64 (200 + 4 * (L - 1) + 1) = true := b64_of (by omega) (by omega)
    have hb2 : b64 (200 + 4 * (L - 1) + 2) = true := b64_of (by omega) (by omega)
    have hb3 : b64 (200 + 4 * (L - 1) + 3) = true := b64_of (by omega) (by omega)
    have e1 : idxA (.h h) (.z (.int 0)) m = .ok (.z (.int L)) m := idx_h hc (ixL_z 0) rfl
    have e2 : ∀ x : A, sitA (.h h) (.z (.int 0)) x m = some (m.set h (some (.lst [x]))) := fun x => sit_h hc (ixL_z 0)
    have hc1 := cell_set_same (c := Lc (L - 1)) hlt
    have e3 : idxA (.h h) (.z (.int 0)) (m.set h (some (Lc (L - 1)))) = .ok (.z (.int (L - 1))) (m.set h (some (Lc (L - 1)))) := idx_h hc1 (ixL_z 0) rfl
    have hb4 : b64 4 = true := by decide
    generalize hat : 200 + 4 * (L - 1) = at_ at hb hb1 hb2 hb3
    generalize hw : drw ns at_ 5 = w
    have w1 : 0 ≤ w := hw ▸ drw_lo (by omega)
    have w2 : w < 5 := hw ▸ drw_hi (by omega)
    obtain ⟨qd, qd1, qd2, qd3⟩ := nm_idx (ns := ns) (drw_lo (ns := ns) (k := at_ + 1) (many := 3) (by omega)) (by have := drw_hi (ns := ns) (k := at_ + 1) (many := 3) (by omega); omega) (m.set h (some (Lc (L - 1))))
    have ed : ((d : Int) + 1 == 0) = false := beq_eq_false_iff_ne.mpr (by omega)
    rw [show n + (d + 1) + 4 = (n + d + 4) + 1 by omega, call_def (fd := fd7) rfl rfl]
    by_cases hs : L - 1 < 1 ∨ w = 0
    · refine ⟨.stop, L - 1, ?_, .stop, by omega, by simp [cnt]⟩
      have hs2 : (decide (L - 1 < 1) || (w == 0)) = true := by simpa using hs
      by_cases hs3 : L - 1 < 1
      · simp [fd7, e1, e2, e3, hb, hb4, hat, hw, ed, hs3, mkTup, allZ, sz, drp_set, hlt, belN, belA, toD]
      · have hw0 : w = 0 := by omega
        simp [fd7, e1, e2, e3, hb, hb4, hat, hw, ed, hs3, hw0, mkTup, allZ, sz, drp_set, hlt, belN, belA, toD]
    · have hs3 : ¬ L - 1 < 1 := fun z => hs (.inl z)
      have hw0 : (w == 0) = false := beq_eq_false_iff_ne.mpr fun z => hs (.inr z)
      by_cases hw3 : w < 3
      · obtain ⟨t, L', q1, q2, q3, q4⟩ := ih n (L - 1) (m.set h (some (Lc (L - 1)))) h hc1 (by omega) (by omega) (by omega)
        refine ⟨.go qd t, L', ?_, .go qd1 q2, by omega, by simp only [cnt]; omega⟩
        simp [fd7, e1, e2, e3, hb, hb1, hb4, hat, hw, ed, hs3, hw0, hw3, mkTup, allZ, sz, drp_set, hlt, belN, belA, toD, qd3, q1]
      · obtain ⟨qq, qq1, qq2, qq3⟩ := nm_idx (ns := ns) (i := 3 + drw ns (at_ + 1) 3) (by have := drw_lo (ns := ns) (k := at_ + 1) (many := 3) (by omega); omega) (by have := drw_hi (ns := ns) (k := at_ + 1) (many := 3) (by omega); omega) m
        have qq4 : ∀ m', idxA (.z (.lst ((nmL ns).map .str))) (.z (.int (3 + drw ns (at_ + 1) 3))) m' = okZ (.str qq) m' := fun m' => by
          simp only [idxA, view_lst'] at qq3 ⊢
          revert qq3
          cases ((ixL (((nmL ns).map D.str).map A.z).length (3 + drw ns (at_ + 1) 3)).bind fun j => (((nmL ns).map D.str).map A.z)[j]?) with
          | none => intro z; cases z
          | some x => intro z; simp only [ofO_some, R.ok.injEq] at z ⊢; exact ⟨z.1, trivial⟩
        have v1 := drw_lo (ns := ns) (k := at_ + 2) (many := 3) (by omega)
        have v2 := drw_hi (ns := ns) (k := at_ + 2) (many := 3) (by omega)
        generalize hv : drw ns (at_ + 2) 3 = v at v1 v2
        have s1 := drw_lo (ns := ns) (k := at_ + 3) (many := 8) (by omega)
        have s2 := drw_hi (ns := ns) (k := at_ + 3) (many := 8) (by omega)
        generalize hsv : drw ns (at_ + 3) 8 = sv at s1 s2
        have hrv : inR (1 + v) = true := by unfold inR; simp; omega
        let nm : Nat → List Nat := fun j => ((nmL ns)[((sv + j) % 8).toNat]?).getD []
        have lp := forL_inv (tg := [6]) (tup := false) (b := exSs tab (callF tab (n + d + 4)) fd7l0)
          (fun i r m' => ∃ (ws : List (List Nat × Tr)) (L' : Int) (x y : Option A), r = [some (A.z (D.scr ns)), some (A.z (D.lst (List.map D.str (nmL ns)))), some (A.z (D.int (d + 1))), some (A.h h), x, some (A.z (D.int at_)), y, some (A.z (D.int w)), some (A.h m.length)] ∧
            m' = m.set h (some (Lc L')) ++ [some (.lst ((toDs ws).map .z))] ∧ ws.length = i ∧ ws.map (·.1) = (List.range i).map nm ∧ (∀ p ∈ ws, Wf (nmL ns) d p.2) ∧ L - 1 - i * 4 ^ d ≤ L' ∧ L' = L - 1 - cntW ws)
          (xs := rngL 0 (1 + v).toNat) (i := 0) (r := [some (A.z (D.scr ns)), some (A.z (D.lst (List.map D.str (nmL ns)))), some (A.z (D.int (d + 1))), some (A.h h), none, some (A.z (D.int at_)), none, some (A.z (D.int w)), some (A.h m.length)]) (m := m.set h (some (Lc (L - 1))) ++ [some (.lst [])])
          ⟨[], L - 1, none, none, rfl, rfl, rfl, rfl, fun p hp => by simp at hp, by simp, by simp [cntW]⟩ ?_
        · obtain ⟨r', m', f1, ws, L', x, y, rfl, rfl, l1, l2, l3, l4, l5⟩ := lp
          have hlen : (rngL 0 (1 + v).toNat).length = (1 + v).toNat := by simp [rngL]
          rw [hlen, Nat.zero_add] at l1 l2 l4
          have hnd : (ws.map (·.1)).Nodup := by
            rw [l2]
            refine nodup_map' List.nodup_range fun a ha b hb e => ?_
            have ha := List.mem_range.mp ha
            have hb := List.mem_range.mp hb
            have hN := nmL_len ns
            have i1 : ((sv + a) % 8).toNat < (nmL ns).length := by omega
            have i2 : ((sv + b) % 8).toNat < (nmL ns).length := by omega
            have e : ((nmL ns)[((sv + a) % 8).toNat]?).getD [] = ((nmL ns)[((sv + b) % 8).toNat]?).getD [] := e
            rw [List.getElem?_eq_getElem i1, List.getElem?_eq_getElem i2] at e
            have := (List.getElem_inj (nmL_nd ns)).mp e
            omega
          have hin : ∀ p ∈ ws, p.1 ∈ nmL ns := fun p hp => by
            have : p.1 ∈ ws.map (·.1) := List.mem_map_of_mem hp
            rw [l2] at this
            obtain ⟨j, _, ej⟩ := List.mem_map.mp this
            have hN := nmL_len ns
            have i1 : ((sv + j) % 8).toNat < (nmL ns).length := by omega
            have ej : ((nmL ns)[((sv + j) % 8).toNat]?).getD [] = p.1 := ej
            rw [List.getElem?_eq_getElem i1] at ej
            rw [← ej]
            exact List.getElem_mem i1
          refine ⟨.look qq ws, L', ?_, .look qq1 (fun z => by rw [z] at l1; simp at l1; omega) (by omega) hnd hin l3, ?_, by simp only [cnt]; omega⟩
          · have hck : cell (m.set h (some (Lc L')) ++ [some (.lst ((toDs ws).map .z))]) m.length = some (.lst ((toDs ws).map .z)) := by
              have : m.length = (m.set h (some (Lc L'))).length := by simp
              rw [this]
              exact cell_appR
            have hmk : ∀ m' : Store, mkLst true [] m' = .ok (.h m'.length) (m' ++ [some (.lst [])]) := fun _ => rfl
            simp [fd7, e1, e2, e3, hb, hb1, hb2, hb4, hat, hw, ed, hs3, hw0, hw3, mkTup, allZ, sz, belN, belA, hv, hrv, hmk]
            rw [f1]
            simp [qq4, hb1, mkTup, allZ, sz]
            rw [frz_lst hck]
            simp [allZ]
            exact ⟨rfl, drp_seta (by simp [belN, belA]) hlt⟩
          · have : ((1 + v).toNat : Int) ≤ 3 := by omega
            have : ((1 + v).toNat : Int) * 4 ^ d ≤ 3 * 4 ^ d := Int.mul_le_mul_of_nonneg_right this (by omega)
            omega
        · rintro j r m' a ha ⟨ws, L', x, y, rfl, rfl, l1, l2, l3, l4, l5⟩
          obtain ⟨rfl, hj⟩ := rngL_get ha
          rw [Nat.zero_add] at l1 l2 l4
          have hm8 : (0 : Int) < 8 := by omega
          have i0 : 0 ≤ (sv + (0 + j)) % 8 := Int.emod_nonneg _ (by omega)
          have i1 : (sv + (0 + j)) % 8 < 8 := Int.emod_lt_of_pos _ hm8
          obtain ⟨qa, qa1, qa2, qa3⟩ := nm_idx (ns := ns) i0 i1 (m.set h (some (Lc L')) ++ [some (.lst ((toDs ws).map .z))])
          have hjd : (j : Int) * 4 ^ d ≤ 2 * 4 ^ d := Int.mul_le_mul_of_nonneg_right (by omega) (by omega)
          have hck : ∀ L'' : Int, cell (m.set h (some (Lc L'')) ++ [some (.lst ((toDs ws).map .z))]) m.length = some (.lst ((toDs ws).map .z)) := fun L'' => by
            have : m.length = (m.set h (some (Lc L''))).length := by simp
            rw [this]
            exact cell_appR
          have hch : cell (m.set h (some (Lc L')) ++ [some (.lst ((toDs ws).map .z))]) h = some (Lc L') := by
            rw [cell_appL (by simpa using hlt)]
            exact cell_set_same hlt
          obtain ⟨t, L'', q1, q2, q3, q4⟩ := ih n L' _ h hch (by omega) (by omega) (by omega)
          have hset : (m.set h (some (Lc L')) ++ [some (Nd.lst ((toDs ws).map .z))]).set h (some (Lc L'')) = m.set h (some (Lc L'')) ++ [some (.lst ((toDs ws).map .z))] := by
            rw [setA_app (by simpa using hlt), List.set_set]
          rw [hset] at q1
          have hap : bm1A .append (.h m.length) (.z (.tup [.str qa, toD t])) (m.set h (some (Lc L'')) ++ [some (.lst ((toDs ws).map .z))]) = .ok (.z .non) (m.set h (some (Lc L'')) ++ [some (.lst ((toDs (ws ++ [(qa, t)])).map .z))]) := by
            rw [app_h (hck L'') (by rw [toDs_map]; simp [sz]; omega), set_end (by simp)]
            simp [toDs_map]
          refine ⟨_, _, _, rfl, ?_, ws ++ [(qa, t)], L'', some (.z (.str qa)), some (.z (.int (0 + (j : Int)))), rfl, rfl, by simp [l1], ?_, fun p hp => ?_, ?_, by rw [cntW_app]; omega⟩
          · simp [fd7l0, hb3, hsv, bin_mod hm8]
            simp at qa3 q1 hap
            simp [qa3, ty_h (hck L'), q1, mkTup, allZ, sz, hap]
          · rw [List.map_append, l2, Nat.zero_add, List.range_succ, List.map_append]
            simp only [List.map_cons, List.map_nil, List.append_cancel_left_eq, List.cons.injEq, and_true]
            show qa = ((nmL ns)[((sv + j) % 8).toNat]?).getD []
            rw [show sv + (j : Int) = sv + (0 + j) by omega, qa2]
            rfl
          · rcases List.mem_append.mp hp with hp | hp
            · exact l3 p hp
            · rw [List.mem_singleton.mp hp]; exact q2
          · rw [Nat.zero_add]
            have : ((j + 1 : Nat) : Int) * 4 ^ d = j * 4 ^ d + 4 ^ d := by
              rw [Int.natCast_add, Int.add_mul]; simp
            omega
theorem c6 (ns : List Int) (n : Nat) (e : Int) (m : Store) (h0 : 0 ≤ e) (h1 : e ≤ 40) : ∃ t, callF tab (n + 4) 6 [.z (.scr ns), .z (.lst ((nmL ns).map .str)), .z (.int e)] m = okZ (toD t) m ∧ Wf (nmL ns) 40 t ∧ cnt t ≤ 41 := by
  have hr : inR e = true := by unfold inR; simp; omega
  have lp := forL_inv (tg := [3]) (tup := false) (b := exSs tab (callF tab (n + 3)) fd6l0) (fun i r m' => ∃ (t : Tr) (x : Option A), r = [some (A.z (D.scr ns)), some (A.z (D.lst (List.map D.str (nmL ns)))), some (A.z (D.int e)), x, some (A.z (toD t))] ∧ m' = m ∧ Wf (nmL ns) i t ∧ cnt t = i + 1)
    (xs := rngL 0 e.toNat) (i := 0) (r := [some (A.z (D.scr ns)), some (A.z (D.lst (List.map D.str (nmL ns)))), some (A.z (D.int e)), none, some (A.z (toD .stop))]) (m := m) ⟨.stop, none, rfl, rfl, .stop, rfl⟩ ?_
  · obtain ⟨r', m', f1, t, x, rfl, rfl, w, wc⟩ := lp
    have hlen : (rngL 0 e.toNat).length = e.toNat := by simp [rngL]
    rw [hlen, Nat.zero_add] at w wc
    refine ⟨t, ?_, w.mono (by omega), by omega⟩
    rw [call_def (fd := fd6) rfl rfl]
    have es : toD .stop = .tup [.str [115, 116, 111, 112]] := rfl
    rw [es] at f1
    simp [fd6, mkTup, allZ, sz, hr, f1]
  · rintro j r m' a ha ⟨t, x, rfl, rfl, w, wc⟩
    obtain ⟨rfl, hj⟩ := rngL_get ha
    have hj2 : (j : Int) < 40 := by omega
    have b1 : b64 (200 + (0 + (j : Int))) = true := b64_of (by omega) (by omega)
    have b2 : b64 (260 + (0 + (j : Int))) = true := b64_of (by omega) (by omega)
    have b3 : b64 (320 + (0 + (j : Int))) = true := b64_of (by omega) (by omega)
    obtain ⟨q1, q11, _, q13⟩ := nm_idx (ns := ns) (i := 3 + drw ns (260 + (0 + (j : Int))) 3) (by have := drw_lo (ns := ns) (k := 260 + (0 + (j : Int))) (many := 3) (by omega); omega) (by have := drw_hi (ns := ns) (k := 260 + (0 + (j : Int))) (many := 3) (by omega); omega) m'
    obtain ⟨q2, q21, _, q23⟩ := nm_idx (ns := ns) (i := drw ns (320 + (0 + (j : Int))) 8) (drw_lo (by omega)) (drw_hi (by omega)) m'
    obtain ⟨q3, q31, _, q33⟩ := nm_idx (ns := ns) (i := drw ns (260 + (0 + (j : Int))) 3) (drw_lo (by omega)) (by have := drw_hi (ns := ns) (k := 260 + (0 + (j : Int))) (many := 3) (by omega); omega) m'
    simp only [Int.zero_add] at b1 b2 b3 q13 q23 q33
    rw [Nat.zero_add] at w
    by_cases hd : drw ns (200 + (j : Int)) 3 = 0
    · refine ⟨_, _, _, rfl, ?_, .look q1 [(q2, t)], some (.z (.int (0 + (j : Int)))), rfl, rfl, ?_, by simp [cnt, cntW]; omega⟩
      · simp [fd6l0, b1, b2, b3, hd, mkTup, mkLst, allZ, sz, q13, q23]
        rfl
      · rw [Nat.zero_add]
        exact .look q11 (by simp) (by simp) (by simp) (fun p hp => by rw [List.mem_singleton.mp hp]; exact q21) (fun p hp => by rw [List.mem_singleton.mp hp]; exact w)
    · have hd2 : (drw ns (200 + (j : Int)) 3 == 0) = false := beq_eq_false_iff_ne.mpr hd
      refine ⟨_, _, _, rfl, ?_, .go q3 t, some (.z (.int (0 + (j : Int)))), rfl, rfl, ?_, by simp [cnt, cntW]; omega⟩
      · simp [fd6l0, b1, b2, b3, hd2, mkTup, mkLst, allZ, sz, q33]
        rfl
      · rw [Nat.zero_add]
        exact .go q31 w
/-! ### plans -/
mutual
def plD : Tr → D
  | .stop => .ins 3 []
  | .go d t => .ins 4 [(1, .str d), (0, plD t)]
  | .look q ws => .ins 5 [(2, .str q), (3, .lst (plDs ws))]
def plDs : List (List Nat × Tr) → List D
  | [] => []
  | (a, t) :: r => .tup [.str a, plD t] :: plDs r
end
theorem plDs_map (ws : List (List Nat × Tr)) : plDs ws = ws.map fun p => .tup [.str p.1, plD p.2] := by
  induction ws with
  | nil => rfl
  | cons p ws ih =>
    obtain ⟨a, t⟩ := p
    rw [plDs, ih]
    rfl
theorem c11 (n : Nat) (m : Store) (d : List Nat) (p : D) : callF tab (n + 1) 11 [.h m.length, .z (.str d), .z p] (m ++ [some (.ins 4 [])]) = .ok (.z .non) (m ++ [some (.ins 4 [(1, .z (.str d)), (0, .z p)])]) := by
  rw [call_def (fd := fd11) rfl rfl]
  have hi : insC tab 4 = true := rfl
  simp [fd11, st_end hi, putFd]
  exact drp_end (by simp [belN, belA])
theorem metT_nd : ∀ (xs acc : List (List Nat)), (acc ++ xs).Nodup → metT acc xs = acc ++ xs
  | [], acc, _ => by simp [metT]
  | x :: r, acc, h => by
    have hx : acc.contains x = false := by
      have h2 := List.nodup_append.mp h
      cases hc : acc.contains x with
      | false => rfl
      | true => exact absurd rfl (h2.2.2 x (by simpa using hc) x (by simp))
    unfold metT
    rw [hx]
    have := metT_nd r (acc ++ [x]) (by simpa using h)
    simp [this]
theorem c10 (n : Nat) (m : Store) (q : List Nat) (ws : List (List Nat × Tr)) (h0 : ws ≠ []) (h1 : ws.length ≤ 100) (nd : (ws.map (·.1)).Nodup) : callF tab (n + 1) 10 [.h m.length, .z (.str q), .z (.lst (plDs ws))] (m ++ [some (.ins 5 [])]) = .ok (.z .non) (m ++ [some (.ins 5 [(2, .z (.str q)), (3, .z (.lst (plDs ws)))])]) := by
  rw [call_def (fd := fd10) rfl rfl]
  have hi : insC tab 5 = true := rfl
  have hl : (plDs ws).length = ws.length := by rw [plDs_map]; simp
  have hn : ((ws.length : Int) == 0) = false := beq_eq_false_iff_ne.mpr (by
    have : ws.length ≠ 0 := by simpa using h0
    omega)
  have hz : ws.length < 16777216 := by omega
  have el : (plDs ws).map A.z = ws.map fun p => A.z (.tup [.str p.1, plD p.2]) := by rw [plDs_map, List.map_map]; rfl
  have l1 : ∀ (e : Env), lcL [3] false (evC tab (callF tab n) .no) (ev tab (callF tab n) (.idx (.var 3) (.cst (.int 0)))) [some (.h m.length), some (.z (.str q)), some (.z (.lst (plDs ws))), none] ((plDs ws).map A.z) (m ++ [some (.ins 5 [])]) = .ok (ws.map fun p => A.z (.str p.1)) (m ++ [some (.ins 5 [])]) := fun _ => by
    rw [el]
    exact lc_gen _ _ (fun p hp => by simp) fun p hp => by simp
  have l2 : ∀ (e : Env), lcL [3] false (evC tab (callF tab n) .no) (ev tab (callF tab n) (.tup (.cons (.idx (.var 3) (.cst (.int 0))) (.cons (.idx (.var 3) (.cst (.int 1))) .nil)))) [some (.h m.length), some (.z (.str q)), some (.z (.lst (plDs ws))), none] ((plDs ws).map A.z) (m ++ [some (.ins 5 [(2, .z (.str q))])]) = .ok ((plDs ws).map A.z) (m ++ [some (.ins 5 [(2, .z (.str q))])]) := fun _ => by
    rw [el]
    exact lc_gen _ _ (fun p hp => by simp) fun p hp => by simp [mkTup, allZ, sz]
  have l3 : fn1A false .setlen (.z (.lst (ws.map fun p => D.str p.1))) (m ++ [some (.ins 5 [])]) = okZ (.int ws.length) (m ++ [some (.ins 5 [])]) := by
    have e := strsOf_map (ws.map (·.1))
    have e0 : (ws.map (·.1)).map D.str = ws.map fun p => D.str p.1 := by rw [List.map_map]; rfl
    rw [e0] at e
    have e4 : ws.length < 4000 := by omega
    simp only [fn1A, view_lst', e]
    rw [if_pos (show Nat.blt (ws.map (·.1)).length 4000 = true from Nat.ble_eq.mpr (by rw [List.length_map]; exact e4)), metT_nd _ [] (by simpa using nd)]
    simp
  simp [fd10, hl, hn, wipeE, sz, hz, l1 [], l3, st_end hi, putFd, l2 []]
  exact drp_end (by simp [belN, belA])
theorem mk3 (call : Nat → List A → Store → R A) (m : Store) : makeK tab call 3 [] m = okZ (.ins 3 []) m := make_0 (T := tab) (c := cd3) rfl rfl rfl
theorem mk4 (call : Nat → List A → Store → R A) (xs : List A) (m : Store) : makeK tab call 4 xs m = (call 11 (.h m.length :: xs) (m ++ [some (.ins 4 [])])).bind fun y m2 => noneOk y (.h m.length) m2 := by
  rw [make_i (T := tab) (c := cd4) (f := 11) rfl rfl rfl, fill60]
theorem mk5 (call : Nat → List A → Store → R A) (xs : List A) (m : Store) : makeK tab call 5 xs m = (call 10 (.h m.length :: xs) (m ++ [some (.ins 5 [])])).bind fun y m2 => noneOk y (.h m.length) m2 := by
  rw [make_i (T := tab) (c := cd5) (f := 10) rfl rfl rfl, fill60]
theorem c3 {N : List (List Nat)} : ∀ (k : Nat) (t : Tr), Wf N k t → ∀ (n : Nat) (m : Store), callF tab (n + k + 2) 3 [.z (toD t)] m = okZ (plD t) m := by
  intro k
  induction k with
  | zero =>
    intro t w n m
    cases w
    rw [call_def (fd := fd3) rfl rfl]
    simp [fd3, toD, mk3, plD]
  | succ k ih =>
    intro t w n m
    rw [show n + (k + 1) + 2 = (n + k + 2) + 1 by omega, call_def (fd := fd3) rfl rfl]
    cases w with
    | stop => simp [fd3, toD, mk3, plD]
    | @go _ d t hd h =>
      have i1 := ih t h n m
      have hz4 : frA 6 (.h m.length) (m ++ [some (.ins 4 [(1, .z (.str d)), (0, .z (plD t))])]) = .ok (.ins 4 [(1, .str d), (0, plD t)]) (m ++ [none]) := by
        have := frz_ins (m := m ++ [some (.ins 4 [(1, .z (.str d)), (0, .z (plD t))])]) (n := m.length) (C := 4) (fs := [(1, .str d), (0, plD t)]) (cell_end _ _)
        rw [set_end rfl] at this
        exact this
      simp [fd3, toD, i1, mk4, c11, hz4, plD]
    | @look _ q ws hq h0 h1 nd hN hw =>
      have el : (toDs ws).map A.z = ws.map fun p => A.z (.tup [.str p.1, toD p.2]) := by rw [toDs_map, List.map_map]; rfl
      have ll : (toDs ws).length = ws.length := by rw [toDs_map]; simp
      have hz : ws.length < 16777216 := by omega
      have l1 : ∀ x, lcL [1] false (evC tab (callF tab (n + k + 2)) .no) (ev tab (callF tab (n + k + 2)) (.tup (.cons (.idx (.var 1) (.cst (.int 0))) (.cons (.call 3 (.cons (.idx (.var 1) (.cst (.int 1))) .nil)) .nil)))) [some x, none] ((toDs ws).map A.z) m = .ok ((plDs ws).map A.z) m := fun x => by
        rw [el, plDs_map, List.map_map]
        exact lc_gen _ _ (fun p hp => by simp) fun p hp => by simp [ih p.2 (hw p hp) n m, mkTup, allZ, sz]
      have hz5 : frA 6 (.h m.length) (m ++ [some (.ins 5 [(2, .z (.str q)), (3, .z (.lst (plDs ws)))])]) = .ok (.ins 5 [(2, .str q), (3, .lst (plDs ws))]) (m ++ [none]) := by
        have := frz_ins (m := m ++ [some (.ins 5 [(2, .z (.str q)), (3, .z (.lst (plDs ws)))])]) (n := m.length) (C := 5) (fs := [(2, .str q), (3, .lst (plDs ws))]) (cell_end _ _)
        rw [set_end rfl] at this
        exact this
      simp [fd3, toD, ll, sz, hz, wipeE, l1, mk5, c10 _ _ _ _ h0 h1 nd, hz5, plD]
theorem c13 (n : Nat) (m : Store) (q : List Nat) (ws : List (List Nat × Tr)) : callF tab (n + 1) 13 [.z (plD (.look q ws))] m = okZ (.lst (plDs ws)) m := by
  rw [call_def (fd := fd13) rfl rfl]
  have hi : insC tab 5 = true := rfl
  simp [fd13, plD, att_z (T := tab) (fs := [(2, .str q), (3, .lst (plDs ws))]) hi (f := 3) (d := .lst (plDs ws)) rfl]
end GL

namespace GL
/-! ### rows -/
inductive Rw where
  | stop | go (d : List Nat) (i : Nat) | look (q : List Nat) (ws : List (List Nat × Nat))
def wyD (p : List Nat × Nat) : D := .tup [.str p.1, .int p.2]
def rwD : Rw → D
  | .stop => .tup [.str tStop]
  | .go d i => .tup [.str tDo, .str d, .int i]
  | .look q ws => .tup [.str tLook, .str q, .lst (ws.map wyD)]
mutual
def rows : Tr → Nat → List Rw
  | .stop, _ => [.stop]
  | .go d t, at_ => .go d (at_ + 1) :: rows t (at_ + 1)
  | .look q ws, at_ => .look q (idxW ws (at_ + 1)) :: rowsW ws (at_ + 1)
def rowsW : List (List Nat × Tr) → Nat → List Rw
  | [], _ => []
  | (_, t) :: r, at_ => rows t at_ ++ rowsW r (at_ + cnt t)
def idxW : List (List Nat × Tr) → Nat → List (List Nat × Nat)
  | [], _ => []
  | (a, t) :: r, at_ => (a, at_) :: idxW r (at_ + cnt t)
end
mutual
theorem rows_len : ∀ (t : Tr) (n : Nat), (rows t n).length = cnt t
  | .stop, _ => rfl
  | .go d t, n => by simp [rows, cnt, rows_len t]
  | .look q ws, n => by simp [rows, cnt, rowsW_len ws]
theorem rowsW_len : ∀ (ws : List (List Nat × Tr)) (n : Nat), (rowsW ws n).length = cntW ws
  | [], _ => rfl
  | (a, t) :: r, n => by simp [rowsW, cntW, rows_len t, rowsW_len r]
end
theorem idxW_len : ∀ (ws : List (List Nat × Tr)) (n : Nat), (idxW ws n).length = ws.length
  | [], _ => rfl
  | (a, t) :: r, n => by simp [idxW, idxW_len r]
/-! #### the law's rows -/
abbrev zR (R : List Rw) : Nd := .lst (R.map fun r => .z (rwD r))
abbrev zW (W : List (List Nat × Nat)) : Nd := .lst (W.map fun p => .z (wyD p))
theorem bel_zR (L : Nat) (R : List Rw) : belN L (zR R) = true := by
  simp [belN, belA]
def Lay4 (N : List (List Nat)) (k n : Nat) : Prop := ∀ t, Wf N k t → ∀ (m : Store) (h : Nat) (R : List Rw), cell m h = some (zR R) → R.length + cnt t < sz → callF tab n 4 [.h h, .z (toD t)] m = .ok (.z .non) (m.set h (some (zR (R ++ rows t R.length))))
theorem loop4 {N : List (List Nat)} {k n : Nat} (ih : Lay4 N k n) {m : Store} {h : Nat} (hlt : h < m.length) (tr at_ : Option A) : ∀ (ws : List (List Nat × Tr)) (R : List Rw) (W : List (List Nat × Nat)) (x : Option A), (∀ p ∈ ws, Wf N k p.2) → R.length + cntW ws < sz → W.length + ws.length < sz →
    ∃ x', forL [3] false (exSs tab (callF tab n) fd4l0) ((toDs ws).map .z) [some (.h h), tr, at_, x, some (.h m.length)] (m.set h (some (zR R)) ++ [some (zW W)]) = .nx [some (.h h), tr, at_, x', some (.h m.length)] (m.set h (some (zR (R ++ rowsW ws R.length))) ++ [some (zW (W ++ idxW ws R.length))])
  | [], R, W, x, _, _, _ => ⟨x, by simp [toDs, forL, rowsW, idxW]⟩
  | (a, t) :: ws, R, W, x, hw, hz, hz2 => by
    have c1 : cell (m.set h (some (zR R)) ++ [some (zW W)]) m.length = some (zW W) := by
      have : m.length = (m.set h (some (zR R))).length := by simp
      rw [this]
      exact cell_appR
    have c2 : ∀ W : List (List Nat × Nat), cell (m.set h (some (zR R)) ++ [some (zW W)]) h = some (zR R) := fun W => by
      rw [cell_appL (by simpa using hlt)]
      exact cell_set_same hlt
    simp only [cntW] at hz
    have e1 : fn1A false .len (.h h) (m.set h (some (zR R)) ++ [some (zW W)]) = okZ (.int R.length) (m.set h (some (zR R)) ++ [some (zW W)]) := by
      rw [len_h (c2 W)]
      simp
    have e2 : bm1A .append (.h m.length) (.z (.tup [.str a, .int R.length])) (m.set h (some (zR R)) ++ [some (zW W)]) = .ok (.z .non) (m.set h (some (zR R)) ++ [some (zW (W ++ [(a, R.length)]))]) := by
      rw [app_h c1 (by simp at hz2 ⊢; omega), set_end (by simp)]
      simp [zW, wyD]
    have e3 := ih t (hw (a, t) (by simp)) (m.set h (some (zR R)) ++ [some (zW (W ++ [(a, R.length)]))]) h R (c2 _) (by omega)
    rw [setA_app (by simpa using hlt), List.set_set] at e3
    obtain ⟨x', ih2⟩ := loop4 ih hlt tr at_ ws (R ++ rows t R.length) (W ++ [(a, R.length)]) (some (.z (.tup [.str a, toD t]))) (fun p hp => hw p (List.mem_cons_of_mem _ hp)) (by rw [List.length_append, rows_len]; omega) (by simp at hz2 ⊢; omega)
    refine ⟨x', ?_⟩
    have el : (R ++ rows t R.length).length = R.length + cnt t := by rw [List.length_append, rows_len]
    rw [el] at ih2
    simp only [toDs, List.map_cons, forL, setT]
    have body : exSs tab (callF tab n) fd4l0 ([some (.h h), tr, at_, x, some (.h m.length)].set 3 (some (.z (.tup [.str a, toD t])))) (m.set h (some (zR R)) ++ [some (zW W)]) = .nx [some (.h h), tr, at_, some (.z (.tup [.str a, toD t])), some (.h m.length)] (m.set h (some (zR (R ++ rows t R.length))) ++ [some (zW (W ++ [(a, R.length)]))]) := by
      simp [fd4l0, ty_h c1, e1, mkTup, allZ, sz, e2, e3]
    rw [body, O.seq_nx, ih2]
    simp [rowsW, idxW, List.append_assoc]
theorem c4 {N : List (List Nat)} : ∀ (k n : Nat), Lay4 N k (n + k + 1)
  | k, n, t, w, m, h, R, hc, hz => by
    have hlt := cell_lt hc
    have hc1 : ∀ X : List Rw, cell (m.set h (some (zR X))) h = some (zR X) := fun X => cell_set_same hlt
    have e0 : fn1A false .len (.h h) m = okZ (.int R.length) m := by
      rw [len_h hc]
      simp
    have hp : 1 ≤ cnt t := by cases t <;> simp [cnt]
    have e1 : bm1A .append (.h h) (.z (.tup [.str tStop])) m = .ok (.z .non) (m.set h (some (zR (R ++ [Rw.stop])))) := by
      rw [app_h hc (by simp; omega)]
      simp [zR]
      rfl
    have e2 : ∀ (X : List Rw) (r : Rw), sitA (.h h) (.z (.int R.length)) (.z (rwD r)) (m.set h (some (zR (R ++ [Rw.stop] ++ X)))) = some (m.set h (some (zR (R ++ [r] ++ X)))) := fun X r => by
      rw [sit_h (hc1 _) (ix_nat (j := R.length) (by simp)), List.set_set]
      simp [zR]
    cases w with
    | stop =>
      rw [call_def (fd := fd4) rfl rfl]
      simp [fd4, toD, e0, mkTup, allZ, sz, ty_h hc, e1, drp_set (bel_zR _ _) hlt, rows]
    | @go k d t hd hw =>
      have ih := c4 k n t hw (m.set h (some (zR (R ++ [.go d (R.length + 1)])))) h (R ++ [.go d (R.length + 1)]) (hc1 _) (by simp [cnt] at hz ⊢; omega)
      rw [List.set_set] at ih
      have e3 := e2 [] (.go d (R.length + 1))
      simp only [List.append_nil] at e3
      rw [show n + (k + 1) + 1 = (n + k + 1) + 1 by omega, call_def (fd := fd4) rfl rfl]
      have e3 : sitA (.h h) (.z (.int R.length)) (.z (.tup [.str tDo, .str d, .int (R.length + 1)])) (m.set h (some (zR (R ++ [Rw.stop])))) = some (m.set h (some (zR (R ++ [.go d (R.length + 1)])))) := e3
      simp [fd4, toD, e0, mkTup, allZ, sz, ty_h hc, e1, e3, ih, drp_set (bel_zR _ _) hlt, rows]
    | @look k q ws hq h0 h1 nd hN hw =>
      have hmk : ∀ m' : Store, mkLst true [] m' = .ok (.h m'.length) (m' ++ [some (.lst [])]) := fun _ => rfl
      obtain ⟨x', lp⟩ := loop4 (c4 k n) hlt (some (.z (toD (.look q ws)))) (some (.z (.int R.length))) ws (R ++ [Rw.stop]) [] none hw (by simp [cnt] at hz ⊢; omega) (by simp [sz]; omega)
      have el : (R ++ [Rw.stop]).length = R.length + 1 := by simp
      rw [el] at lp
      have ck : cell (m.set h (some (zR (R ++ [Rw.stop] ++ rowsW ws (R.length + 1)))) ++ [some (zW ([] ++ idxW ws (R.length + 1)))]) m.length = some (.lst (((idxW ws (R.length + 1)).map wyD).map .z)) := by
        have : m.length = (m.set h (some (zR (R ++ [Rw.stop] ++ rowsW ws (R.length + 1))))).length := by simp
        rw [this, cell_appR]
        simp
      have e4 := frz_lst ck
      rw [set_end (by simp)] at e4
      have e5 := e2 (rowsW ws (R.length + 1)) (.look q (idxW ws (R.length + 1)))
      have e6 : sitA (.h h) (.z (.int R.length)) (.z (rwD (.look q (idxW ws (R.length + 1))))) (m.set h (some (zR (R ++ [Rw.stop] ++ rowsW ws (R.length + 1)))) ++ [none]) = some (m.set h (some (zR (R ++ [.look q (idxW ws (R.length + 1))] ++ rowsW ws (R.length + 1)))) ++ [none]) := by
        rw [sit_h (xs := (R ++ [Rw.stop] ++ rowsW ws (R.length + 1)).map fun r => A.z (rwD r)) (by rw [cell_appL (by simpa using hlt)]; exact hc1 _) (ix_nat (j := R.length) (by simp)), setA_app (by simpa using hlt), List.set_set]
        simp [zR]
      rw [show n + (k + 1) + 1 = (n + k + 1) + 1 by omega, call_def (fd := fd4) rfl rfl]
      simp only [toD] at lp
      simp only [rwD] at e6
      generalize hM : m.set h (some (zR (R ++ [Rw.stop] ++ rowsW ws (R.length + 1)))) = M at lp e4 e6
      have lp2 : forL [3] false (exSs tab (callF tab (n + k + 1)) fd4l0) ((toDs ws).map .z) [some (.h h), some (.z (.tup [.str tLook, .str q, .lst (toDs ws)])), some (.z (.int R.length)), none, some (.h m.length)] (m.set h (some (zR (R ++ [Rw.stop]))) ++ [some (.lst [])]) = .nx [some (.h h), some (.z (.tup [.str tLook, .str q, .lst (toDs ws)])), some (.z (.int R.length)), x', some (.h m.length)] (M ++ [some (zW (idxW ws (R.length + 1)))]) := lp
      have e4 : frA 6 (.h m.length) (M ++ [some (zW (idxW ws (R.length + 1)))]) = .ok (.lst ((idxW ws (R.length + 1)).map wyD)) (M ++ [none]) := e4
      simp [fd4, toD, e0, mkTup, allZ, sz, ty_h hc, e1, hmk]
      rw [lp2]
      simp [e4, allZ, mkTup, sz]
      rw [e6]
      simp only [seqS_nx, exSs_nil, fin_nx]
      rw [drp_seta (bel_zR _ _) hlt]
      simp [rows]
/-! #### the program's rows -/
def RowR (lo : Nat) (m : Store) (a : A) : Rw → Prop
  | .look q ws => ∃ k j, a = .h k ∧ lo ≤ k ∧ lo ≤ j ∧ cell m k = some (.tup [.z (.str tLook), .z (.str q), .h j]) ∧ cell m j = some (zW ws)
  | r => a = .z (rwD r)
inductive RsR (lo : Nat) (m : Store) : List A → List Rw → Prop
  | nil : RsR lo m [] []
  | cons {a : A} {as : List A} {r : Rw} {R : List Rw} : RowR lo m a r → RsR lo m as R → RsR lo m (a :: as) (r :: R)
theorem RowR.mono {lo lo' : Nat} {m m' : Store} (hl : lo' ≤ lo) (hm : ∀ i c, lo ≤ i → cell m i = some c → cell m' i = some c) {a : A} {r : Rw} (h : RowR lo m a r) : RowR lo' m' a r := by
  cases r with
  | look q ws =>
    obtain ⟨k, j, e, h1, h2, h3, h4⟩ := h
    exact ⟨k, j, e, by omega, by omega, hm k _ h1 h3, hm j _ h2 h4⟩
  | _ => exact h
theorem RsR.mono {lo lo' : Nat} {m m' : Store} (hl : lo' ≤ lo) (hm : ∀ i c, lo ≤ i → cell m i = some c → cell m' i = some c) : ∀ {as : List A} {R : List Rw}, RsR lo m as R → RsR lo' m' as R
  | _, _, .nil => .nil
  | _, _, .cons h r => .cons (h.mono hl hm) (RsR.mono hl hm r)
theorem RsR.app {lo : Nat} {m : Store} : ∀ {as bs : List A} {R S : List Rw}, RsR lo m as R → RsR lo m bs S → RsR lo m (as ++ bs) (R ++ S)
  | _, _, _, _, .nil, h => h
  | _, _, _, _, .cons h r, h2 => .cons h (RsR.app r h2)
theorem RsR.len {lo : Nat} {m : Store} : ∀ {as : List A} {R : List Rw}, RsR lo m as R → as.length = R.length
  | _, _, .nil => rfl
  | _, _, .cons _ r => by simp [RsR.len r]
theorem RsR.flat {lo : Nat} {m m' : Store} : ∀ {as : List A} {R : List Rw}, RsR lo m as R → (as.all (belA lo) = true) → RsR lo m' as R
  | _, _, .nil, _ => .nil
  | _, _, .cons (r := r0) h r, e => by
    rw [List.all_cons, Bool.and_eq_true] at e
    refine .cons ?_ (RsR.flat r e.2)
    cases r0 with
    | look q ws =>
      obtain ⟨k, j, rfl, h1, _⟩ := h
      have := Nat.ble_eq.mp e.1
      omega
    | _ => exact h
/-- what lay_rows leaves -/
structure Left9 (m : Store) (h : Nat) (as bs : List A) (R : List Rw) (m' : Store) : Prop where
  len : m.length ≤ m'.length
  fr : ∀ i, i < m.length → i ≠ h → m'[i]? = m[i]?
  cel : cell m' h = some (.lst (as ++ bs))
  rs : RsR m.length m' bs R
theorem Left9.drp {m : Store} {h : Nat} {as bs : List A} {R : List Rw} {m' : Store} (hc : cell m h = some (.lst as)) (L : Left9 m h as bs R m') : Left9 m h as bs R (GL.drp m m') := by
  have hlt := cell_lt hc
  by_cases hk : KeepOk m m'
  · rw [drp_keep hk]
    have ct : ∀ i, i < m.length → (m'.take m.length)[i]? = m'[i]? := fun i hi => List.getElem?_take_of_lt hi
    have cc : ∀ i, i < m.length → cell (m'.take m.length) i = cell m' i := fun i hi => by
      unfold cell
      rw [ct i hi]
    refine ⟨by simp [L.len], fun i hi hn => by rw [ct i hi, L.fr i hi hn], by rw [cc h hlt]; exact L.cel, ?_⟩
    rcases hk.2 h hlt with e | e
    · have : cell m' h = cell m h := by
        unfold cell
        rw [e]
      rw [L.cel, hc] at this
      have : as ++ bs = as := by simpa using this
      have hb : bs = [] := by simpa using this
      have l := L.rs
      subst hb
      cases l
      exact .nil
    · have := e _ L.cel
      simp only [belN, List.all_append, Bool.and_eq_true] at this
      exact L.rs.flat this.2
  · unfold GL.drp
    rw [if_neg hk]
    exact L
def Lay9 (N : List (List Nat)) (k n : Nat) : Prop := ∀ t, Wf N k t → ∀ (m : Store) (h : Nat) (as : List A), cell m h = some (.lst as) → as.length + cnt t < sz → ∃ m' bs, callF tab n 9 [.h h, .z (plD t)] m = .ok (.z .non) m' ∧ Left9 m h as bs (rows t as.length) m'
/-- within the loop: the ways' cell at K -/
structure In9 (m0 : Store) (K h : Nat) (as bs : List A) (W : List (List Nat × Nat)) (R : List Rw) (m : Store) : Prop where
  len : K < m.length
  fr : ∀ i, i < K → i ≠ h → m[i]? = m0[i]?
  cel : cell m h = some (.lst (as ++ bs))
  ways : cell m K = some (zW W)
  rs : RsR (K + 1) m bs R
theorem loop9 {N : List (List Nat)} {k n : Nat} (ih : Lay9 N k n) {m0 : Store} {h K : Nat} (hlt : h < K) (tr at_ : Option A) (as : List A) : ∀ (ws : List (List Nat × Tr)) (bs : List A) (R : List Rw) (W : List (List Nat × Nat)) (x : Option A) (m : Store), (∀ p ∈ ws, Wf N k p.2) → as.length + bs.length + cntW ws < sz → W.length + ws.length < sz → In9 m0 K h as bs W R m →
    ∃ x' m' bs', forL [3] false (exSs tab (callF tab n) fd9l0) ((plDs ws).map .z) [some (.h h), tr, at_, x, some (.h K)] m = .nx [some (.h h), tr, at_, x', some (.h K)] m' ∧ In9 m0 K h as (bs ++ bs') (W ++ idxW ws (as.length + bs.length)) (R ++ rowsW ws (as.length + bs.length)) m'
  | [], bs, R, W, x, m, _, _, _, I => ⟨x, m, [], by simp [plDs, forL], by simpa [rowsW, idxW] using I⟩
  | (a, t) :: ws, bs, R, W, x, m, hw, hz, hz2, I => by
    simp only [cntW] at hz
    have e1 : fn1A false .len (.h h) m = okZ (.int (as.length + bs.length : Nat)) m := by
      rw [len_h I.cel]
      simp
    have e2 : bm1A .append (.h K) (.z (.tup [.str a, .int (as.length + bs.length : Nat)])) m = .ok (.z .non) (m.set K (some (zW (W ++ [(a, as.length + bs.length)])))) := by
      rw [app_h I.ways (by simp at hz2 ⊢; omega)]
      simp [zW, wyD]
    have cs : cell (m.set K (some (zW (W ++ [(a, as.length + bs.length)])))) h = some (.lst (as ++ bs)) := by
      rw [cell_set_ne (by omega)]
      exact I.cel
    obtain ⟨m2, b2, e3, L⟩ := ih t (hw (a, t) (by simp)) _ h (as ++ bs) cs (by rw [List.length_append]; omega)
    have hl : (m.set K (some (zW (W ++ [(a, as.length + bs.length)])))).length = m.length := by simp
    have I2 : In9 m0 K h as (bs ++ b2) (W ++ [(a, as.length + bs.length)]) (R ++ rows t (as.length + bs.length)) m2 := by
      have Lr := L.rs
      have Lf := L.fr
      have Ll := L.len
      rw [hl] at Lr Lf Ll
      have keep : ∀ i c, K + 1 ≤ i → cell m i = some c → cell m2 i = some c := fun i c hi hc => by
        have hi2 := cell_lt hc
        have : m2[i]? = m[i]? := by rw [Lf i hi2 (by omega), List.getElem?_set_ne (by omega)]
        unfold cell at hc ⊢
        rw [this]
        exact hc
      refine ⟨Nat.lt_of_lt_of_le I.len Ll, fun i hi hn => ?_, by rw [L.cel, List.append_assoc], ?_, (I.rs.mono (Nat.le_refl _) keep).app ?_⟩
      · rw [Lf i (Nat.lt_trans hi I.len) hn, List.getElem?_set_ne (by omega), I.fr i hi hn]
      · have : m2[K]? = (m.set K (some (zW (W ++ [(a, as.length + bs.length)]))))[K]? := Lf K I.len (by omega)
        unfold cell
        rw [this]
        exact cell_set_same I.len
      · rw [List.length_append] at Lr
        exact Lr.mono I.len fun i c _ hc => hc
    have lb : b2.length = cnt t := by
      rw [L.rs.len, rows_len]
    obtain ⟨x', m', bs', e4, I3⟩ := loop9 ih hlt tr at_ as ws (bs ++ b2) _ _ (some (.z (.tup [.str a, plD t]))) m2 (fun p hp => hw p (List.mem_cons_of_mem _ hp)) (by rw [List.length_append, lb]; omega) (by simp at hz2 ⊢; omega) I2
    refine ⟨x', m', b2 ++ bs', ?_, ?_⟩
    · simp only [plDs, List.map_cons, forL, setT]
      have body : exSs tab (callF tab n) fd9l0 ([some (.h h), tr, at_, x, some (.h K)].set 3 (some (.z (.tup [.str a, plD t])))) m = .nx [some (.h h), tr, at_, some (.z (.tup [.str a, plD t])), some (.h K)] m2 := by
        simp at e1 e2 e3
        simp [fd9l0, ty_h I.ways, e1, mkTup, allZ, sz, e2, e3]
      rw [body, O.seq_nx, e4]
    · have el : as.length + (bs ++ b2).length = as.length + bs.length + cnt t := by rw [List.length_append, lb]; omega
      rw [el] at I3
      simpa [rowsW, idxW, List.append_assoc] using I3
theorem isP (C B : Nat) (fs : List (Nat × D)) (m : Store) (hC : insC tab C = true) : isiA tab (.z (.ins C fs)) (.cls B) m = okZ (.bl (isK tab (.cls B) (.cls C))) m := isi_ins hC
theorem c9 {N : List (List Nat)} : ∀ (k n : Nat), Lay9 N k (n + k + 2)
  | k, n, t, w, m, h, as, hc, hz => by
    have hlt := cell_lt hc
    have e0 : fn1A false .len (.h h) m = okZ (.int as.length) m := len_h hc
    have hp : 1 ≤ cnt t := by cases t <;> simp [cnt]
    have e1 : ∀ x : A, bm1A .append (.h h) x m = .ok (.z .non) (m.set h (some (.lst (as ++ [x])))) := fun x => app_h hc (by omega)
    have hc1 : ∀ xs : List A, cell (m.set h (some (.lst xs))) h = some (.lst xs) := fun xs => cell_set_same hlt
    have fr1 : ∀ (c : Option Nd) (i : Nat), i < m.length → i ≠ h → (m.set h c)[i]? = m[i]? := fun c i _ hn => List.getElem?_set_ne (Ne.symm hn)
    cases w with
    | stop =>
      have q1 : isiA tab (.z (.ins 3 [])) (.cls 3) m = okZ (.bl true) m := isP 3 3 [] m rfl
      have L : Left9 m h as [.z (rwD .stop)] [.stop] (m.set h (some (.lst (as ++ [.z (.tup [.str tStop])])))) := ⟨by simp, fr1 _, hc1 _, .cons rfl .nil⟩
      refine ⟨_, _, ?_, L.drp hc⟩
      rw [show n + k + 2 = (n + k + 1) + 1 by omega, call_def (fd := fd9) rfl rfl]
      simp [fd9, plD, e0, q1, ty_h hc, mkTup, allZ, sz, e1]
    | @go k d t hd hw =>
      have q1 : isiA tab (.z (.ins 4 [(1, .str d), (0, plD t)])) (.cls 3) m = okZ (.bl false) m := isP 4 3 _ m rfl
      have q2 : isiA tab (.z (.ins 4 [(1, .str d), (0, plD t)])) (.cls 4) m = okZ (.bl true) m := isP 4 4 _ m rfl
      have a1 : ∀ m, attA tab (.z (.ins 4 [(1, .str d), (0, plD t)])) 1 m = okZ (.str d) m := fun m => att_z (T := tab) (fs := [(1, .str d), (0, plD t)]) (C := 4) rfl rfl
      have a0 : ∀ m, attA tab (.z (.ins 4 [(1, .str d), (0, plD t)])) 0 m = okZ (plD t) m := fun m => att_z (T := tab) (fs := [(1, .str d), (0, plD t)]) (C := 4) rfl rfl
      obtain ⟨m', bs, e3, L⟩ := c9 k n t hw _ h _ (hc1 (as ++ [.z (.tup [.str tDo, .str d, .int (as.length + 1)])])) (by simp [cnt] at hz ⊢; omega)
      have L2 : Left9 m h as ([.z (rwD (.go d (as.length + 1)))] ++ bs) (rows (.go d t) as.length) m' := by
        have l1 := L.len
        have l2 := L.fr
        have l3 := L.rs
        simp only [List.length_set, List.length_append, List.length_cons, List.length_nil, Nat.zero_add] at l1 l2 l3
        refine ⟨l1, fun i hi hn => by rw [l2 i hi hn, fr1 _ i hi hn], ?_, .cons rfl l3⟩
        rw [L.cel, List.append_assoc]
        rfl
      refine ⟨_, _, ?_, L2.drp hc⟩
      rw [show n + (k + 1) + 2 = (n + k + 2) + 1 by omega, call_def (fd := fd9) rfl rfl]
      simp [fd9, plD, e0, q1, q2, a1, a0, ty_h hc, mkTup, allZ, sz, e1, e3]
    | @look k q ws hq h0 h1 nd hN hw =>
      have q1 : isiA tab (.z (plD (.look q ws))) (.cls 3) m = okZ (.bl false) m := isP 5 3 _ m rfl
      have q2 : isiA tab (.z (plD (.look q ws))) (.cls 4) m = okZ (.bl false) m := isP 5 4 _ m rfl
      have a2 : ∀ m, attA tab (.z (plD (.look q ws))) 2 m = okZ (.str q) m := fun m => att_z (T := tab) (fs := [(2, .str q), (3, .lst (plDs ws))]) (C := 5) rfl rfl
      have hmk : ∀ m' : Store, mkLst true [] m' = .ok (.h m'.length) (m' ++ [some (.lst [])]) := fun _ => rfl
      have mw : ∀ (r : Env) (m : Store), methK tab (callF tab (n + k + 2)) 0 (.z (plD (.look q ws))) .nil r m = okZ (.lst (plDs ws)) m := fun r m => by
        rw [meth_i (T := tab) (C := 5) (c := cd5) (f := 13) (fs := [(2, .z (.str q)), (3, .z (.lst (plDs ws)))]) rfl rfl rfl rfl]
        simp
        exact c13 _ _ _ _
      have I0 : In9 m m.length h (as ++ [.z .non]) [] [] [] (m.set h (some (.lst (as ++ [.z .non]))) ++ [some (.lst [])]) := by
        have hl : (m.set h (some (.lst (as ++ [.z .non])))).length = m.length := by simp
        refine ⟨by simp, fun i hi hn => ?_, ?_, ?_, .nil⟩
        · rw [List.getElem?_append_left (by rw [hl]; exact hi), fr1 _ i hi hn]
        · rw [cell_appL (by rw [hl]; exact hlt), hc1, List.append_nil]
        · rw [← hl, cell_appR]
          rfl
      obtain ⟨x', m', bs, lp, I⟩ := loop9 (c9 k n) hlt (some (.z (plD (.look q ws)))) (some (.z (.int as.length))) (as ++ [.z .non]) ws [] [] [] none _ hw (by simp [cnt] at hz ⊢; omega) (by simp [sz]; omega) I0
      have el : (as ++ [A.z .non]).length + ([] : List A).length = as.length + 1 := by simp
      rw [el] at I
      simp only [List.nil_append] at I
      have hlt2 : h < m'.length := Nat.lt_trans hlt I.len
      have ct : cell (m' ++ [some (.tup [.z (.str tLook), .z (.str q), .h m.length])]) h = some (.lst ((as ++ [.z .non]) ++ bs)) := by
        rw [cell_appL hlt2]
        exact I.cel
      have es : sitA (.h h) (.z (.int as.length)) (.h m'.length) (m' ++ [some (.tup [.z (.str tLook), .z (.str q), .h m.length])]) = some (m'.set h (some (.lst (as ++ .h m'.length :: bs))) ++ [some (.tup [.z (.str tLook), .z (.str q), .h m.length])]) := by
        rw [sit_h ct (ix_nat (j := as.length) (by simp)), setA_app hlt2]
        simp
      have L : Left9 m h as (.h m'.length :: bs) (rows (.look q ws) as.length) (m'.set h (some (.lst (as ++ .h m'.length :: bs))) ++ [some (.tup [.z (.str tLook), .z (.str q), .h m.length])]) := by
        have hl : (m'.set h (some (.lst (as ++ .h m'.length :: bs)))).length = m'.length := by simp
        have keep : ∀ i c, m.length ≤ i → cell m' i = some c → cell (m'.set h (some (.lst (as ++ .h m'.length :: bs))) ++ [some (.tup [.z (.str tLook), .z (.str q), .h m.length])]) i = some c := fun i c hi hci => by
          rw [cell_appL (by rw [hl]; exact cell_lt hci), cell_set_ne (by omega)]
          exact hci
        refine ⟨by simp; have := I.len; omega, fun i hi hn => ?_, ?_, .cons ⟨m'.length, m.length, rfl, Nat.le_of_lt I.len, Nat.le_refl _, ?_, keep _ _ (Nat.le_refl _) I.ways⟩ (I.rs.mono (Nat.le_succ _) fun i c hi hci => keep i c (by omega) hci)⟩
        · rw [List.getElem?_append_left (by rw [hl]; exact Nat.lt_trans hi I.len), List.getElem?_set_ne (Ne.symm hn), I.fr i hi hn]
        · rw [cell_appL (by rw [hl]; exact hlt2)]
          exact cell_set_same hlt2
        · exact cell_end2 (by simp)
      refine ⟨_, _, ?_, L.drp hc⟩
      have mt : mkTup [.z (.str tLook), .z (.str q), .h m.length] m' = .ok (.h m'.length) (m' ++ [some (.tup [.z (.str tLook), .z (.str q), .h m.length])]) := rfl
      rw [show n + (k + 1) + 2 = (n + k + 2) + 1 by omega, call_def (fd := fd9) rfl rfl]
      simp [fd9, e0, q1, q2, ty_h hc, e1, hmk, mw]
      rw [lp]
      simp [a2, sz, mt, es]
theorem c2 {N : List (List Nat)} {k n : Nat} {t : Tr} (w : Wf N k t) (m : Store) (hz : cnt t < sz) : ∃ m' bs, callF tab (n + k + 3) 2 [.z (plD t)] m = .ok (.h m.length) m' ∧ m.length < m'.length ∧ (∀ i, i < m.length → m'[i]? = m[i]?) ∧ cell m' m.length = some (.lst bs) ∧ RsR (m.length + 1) m' bs (rows t 0) := by
  have hc : cell (m ++ [some (.lst [])]) m.length = some (.lst []) := cell_end _ _
  obtain ⟨m', bs, e, L⟩ := c9 k n t w _ m.length [] hc (by simpa using hz)
  have hmk : ∀ m' : Store, mkLst true [] m' = .ok (.h m'.length) (m' ++ [some (.lst [])]) := fun _ => rfl
  have l1 := L.len
  have l2 := L.fr
  have l3 := L.rs
  simp only [List.length_append, List.length_cons, List.length_nil, Nat.zero_add] at l1 l2 l3
  refine ⟨m', bs, ?_, by omega, fun i hi => by rw [l2 i (by omega) (by omega), List.getElem?_append_left hi], by simpa using L.cel, l3⟩
  rw [show n + k + 3 = (n + k + 2) + 1 by omega, call_def (fd := fd2) rfl rfl]
  simp [fd2, hmk, e, fin, sz]
end GL

namespace GL
/-! ### the kinds, the comparison -/
mutual
theorem eqD_refl : ∀ (d : D) (n : Nat), plainD d n = true → eqD d d = true
  | .non, _, _ => rfl
  | .bl b, _, _ => by simp [eqD]
  | .int i, _, _ => by simp [eqD]
  | .str x, _, _ => by simp [eqD]
  | .lst xs, n + 1, h => by
    simp only [eqD]
    exact eqDs_refl xs n h
  | .tup xs, n + 1, h => by
    simp only [eqD]
    exact eqDs_refl xs n h
  | .lst xs, 0, h => by cases h
  | .tup xs, 0, h => by cases h
  | .dct _, _, h => by cases h
  | .ins _ _, _, h => by cases h
  | .scr _, _, h => by cases h
theorem eqDs_refl : ∀ (ds : List D) (n : Nat), plainDs ds n = true → eqDs ds ds = true
  | [], _, _ => rfl
  | d :: ds, n, h => by
    have h : (plainD d n && plainDs ds n) = true := h
    rw [Bool.and_eq_true] at h
    show (eqD d d && eqDs ds ds) = true
    rw [eqD_refl d n h.1, eqDs_refl ds n h.2]
    rfl
end
theorem plainDs_all {n : Nat} : ∀ {ds : List D}, (∀ d ∈ ds, plainD d n = true) → plainDs ds n = true
  | [], _ => rfl
  | d :: ds, h => by
    show (plainD d n && plainDs ds n) = true
    rw [h d (by simp), plainDs_all fun e he => h e (List.mem_cons_of_mem _ he)]
    rfl
def RwOk : Rw → Prop
  | .stop => True
  | .go d _ => ∀ c ∈ d, c < 128
  | .look q ws => (∀ c ∈ q, c < 128) ∧ ws.length ≤ 100 ∧ ∀ p ∈ ws, ∀ c ∈ p.1, c < 128
theorem idxW_ok {P : List Nat → Prop} : ∀ {ws : List (List Nat × Tr)} {n : Nat}, (∀ p ∈ ws, P p.1) → ∀ p ∈ idxW ws n, P p.1
  | [], _, _, p, hp => by simp [idxW] at hp
  | (a, t) :: r, n, h, p, hp => by
    simp only [idxW, List.mem_cons] at hp
    rcases hp with rfl | hp
    · exact h (a, t) (by simp)
    · exact idxW_ok (fun q hq => h q (List.mem_cons_of_mem _ hq)) p hp
theorem rows_ok {N : List (List Nat)} (hN : ∀ x ∈ N, ∀ c ∈ x, c < 128) : ∀ {k : Nat} {t : Tr}, Wf N k t → ∀ n, ∀ r ∈ rows t n, RwOk r
  | _, _, .stop, n, r, hr => by
    simp [rows] at hr
    subst hr
    trivial
  | _, _, .go hd h, n, r, hr => by
    simp only [rows, List.mem_cons] at hr
    rcases hr with rfl | hr
    · exact hN _ hd
    · exact rows_ok hN h _ r hr
  | _, _, .look (ws := ws) hq h1 h2 h3 h4 h5, n, r, hr => by
    simp only [rows, List.mem_cons] at hr
    rcases hr with rfl | hr
    · exact ⟨hN _ hq, by rw [idxW_len]; exact h2, fun p hp c hc => idxW_ok (P := fun x => ∀ c ∈ x, c < 128) (fun q hq => hN _ (h4 q hq)) p hp c hc⟩
    · have key : ∀ (vs : List (List Nat × Tr)), (∀ p ∈ vs, p ∈ ws) → ∀ n, ∀ r ∈ rowsW vs n, RwOk r := fun vs => by
        induction vs with
        | nil => intro _ n r hr; simp [rowsW] at hr
        | cons p vs ih =>
          intro hv n r hr
          obtain ⟨a, t⟩ := p
          simp only [rowsW, List.mem_append] at hr
          rcases hr with hr | hr
          · exact rows_ok hN (h5 (a, t) (hv _ (by simp))) _ r hr
          · exact ih (fun q hq => hv q (List.mem_cons_of_mem _ hq)) _ r hr
      exact key ws (fun _ h => h) _ r hr
theorem ascii {x : List Nat} (h : ∀ c ∈ x, c < 128) : (x.all fun c => Nat.blt c 1114112) = true := by
  rw [List.all_eq_true]
  intro c hc
  exact Nat.ble_eq.mpr (by have := h c hc; omega)
theorem rwD_plain {r : Rw} (h : RwOk r) (n : Nat) : plainD (rwD r) (n + 4) = true := by
  cases r with
  | stop => simp [rwD, plainD, plainDs]
  | go d i =>
    simp only [rwD, plainD, plainDs, ascii h, Bool.and_true, Bool.true_and]
    decide
  | look q ws =>
    obtain ⟨h1, h2, h3⟩ := h
    have : plainDs (ws.map wyD) (n + 2) = true := plainDs_all fun d hd => by
      obtain ⟨p, hp, rfl⟩ := List.mem_map.mp hd
      simp only [wyD, plainD, plainDs, ascii (h3 p hp), Bool.and_true]
    simp only [rwD, plainD, plainDs, ascii h1, this, Bool.and_true, Bool.true_and]
    decide
theorem snap_z (m : Store) (k : Nat) (d : D) : snap m k (.z d) = some d := by cases k <;> rfl
theorem mapO_z (m : Store) (k : Nat) : ∀ ds : List D, mapO (snap m k) (ds.map .z) = some ds
  | [] => rfl
  | d :: ds => by simp only [List.map_cons, mapO, snap_z, mapO_z m k ds]
theorem snap_row {lo : Nat} {m : Store} {a : A} {r : Rw} (k : Nat) (h : RowR lo m a r) : snap m (k + 2) a = some (rwD r) := by
  cases r with
  | look q ws =>
    obtain ⟨i, j, rfl, _, _, h1, h2⟩ := h
    have e : snap m (k + 1) (.h j) = some (.lst (ws.map wyD)) := by
      have z : (ws.map fun p => A.z (wyD p)) = (ws.map wyD).map .z := by rw [List.map_map]; rfl
      simp only [snap, h2, z, mapO_z, Option.map_some]
    have e2 : snap m (k + 2) (.h i) = (mapO (snap m (k + 1)) [.z (.str tLook), .z (.str q), .h j]).map .tup := by
      show (match cell m i with
        | some (.lst xs) => (mapO (snap m (k + 1)) xs).map D.lst
        | some (.tup xs) => (mapO (snap m (k + 1)) xs).map D.tup
        | _ => none) = _
      rw [h1]
    rw [e2]
    simp only [mapO, snap_z, e]
    rfl
  | stop => cases h; exact snap_z _ _ _
  | go d i => cases h; exact snap_z _ _ _
theorem snap_rows {lo : Nat} {m : Store} (k : Nat) : ∀ {as : List A} {R : List Rw}, RsR lo m as R → mapO (snap m (k + 2)) as = some (R.map rwD)
  | _, _, .nil => rfl
  | _, _, .cons h r => by simp only [mapO, snap_row k h, snap_rows k r, List.map_cons]
/-- a list of rows that stands: told's rows, due as data -/
theorem c1 (n : Nat) {lo K : Nat} {m : Store} {bs : List A} {R : List Rw} {due : A} (hc : cell m K = some (.lst bs)) (rs : RsR lo m bs R) (hR : ∀ r ∈ R, RwOk r) (hl : R.length < 1000000) (hd : snap m 8 due = some (.lst (R.map rwD))) (hd2 : fn1A false .len due m = okZ (.int R.length) m) :
    callF tab (n + 1) 1 [.h K, due] m = okZ (.bl true) m := by
  have hlen := rs.len
  have e0 : fn1A false .len (.h K) m = okZ (.int R.length) m := by rw [len_h hc, hlen]
  have e1 : isiA tab (.h K) .list m = okZ (.bl true) m := (isi_at (T := tab) (x := .h K) (t := .list) (hv := hc) (k := .list) rfl rfl).trans rfl
  have lp := forV_inv (tg := [2]) (tup := false) (b := exSs tab (callF tab n) fd1l1) (n := K) (xs := bs) (fun i r m' => ∃ x y, r = [some (.h K), some due, x, y] ∧ m' = m) (fun i r m' ⟨x, y, _, e⟩ => by rw [e]; exact hc) ?_ W0 0 [some (.h K), some due, none, none] m (Nat.zero_le _) (by unfold W0; omega) ⟨none, none, rfl, rfl⟩
  · obtain ⟨r', m', f1, x, y, rfl, rfl⟩ := lp
    have eqq : cmpA .eq (.h K) due m' = some true := by
      have s1 : snap m' 8 (.h K) = some (.lst (R.map rwD)) := by
        show (match cell m' K with
          | some (.lst xs) => (mapO (snap m' 7) xs).map D.lst
          | some (.tup xs) => (mapO (snap m' 7) xs).map D.tup
          | _ => none) = _
        rw [hc]
        dsimp only
        rw [snap_rows 5 rs]
        rfl
      have pl : plainD (.lst (R.map rwD)) 60 = true := plainDs_all fun d hd => by
        obtain ⟨r, hr, rfl⟩ := List.mem_map.mp hd
        exact rwD_plain (hR r hr) 55
      have er := eqD_refl _ _ pl
      show eqA (.h K) due m' = _
      have : deepEq (.h K) due m' = some true := by
        simp only [deepEq, s1, hd, pl, er, Bool.and_self, if_true]
      cases due <;> exact this
    rw [call_def (fd := fd1) rfl rfl]
    simp [fd1, e0, e1, hd2, src_h hc, f1, eqq]
  · rintro j r m' a ha ⟨x, y, rfl, rfl⟩
    obtain ⟨r0, hr0, hrow⟩ : ∃ r0 ∈ R, RowR lo m' a r0 := by
      clear hc e0 e1 hd hd2 hlen hR hl
      induction rs generalizing j with
      | nil => simp at ha
      | cons h rs ih =>
        cases j with
        | zero => cases ha; exact ⟨_, by simp, h⟩
        | succ j =>
          obtain ⟨r0, h1, h2⟩ := ih j ha
          exact ⟨r0, List.mem_cons_of_mem _ h1, h2⟩
    have ok := hR r0 hr0
    have isT : ∀ xs : List D, isiA tab (.z (.tup xs)) .tuple m' = okZ (.bl true) m' := fun xs => (isi_at (T := tab) (t := .tuple) (hv := rfl) (k := .tuple) rfl rfl).trans rfl
    have isS : ∀ xs : List Nat, isiA tab (.z (.str xs)) .str m' = okZ (.bl true) m' := fun xs => (isi_at (T := tab) (t := .str) (hv := rfl) (k := .str) rfl rfl).trans rfl
    have isB : ∀ i : Int, isiA tab (.z (.int i)) .bool m' = okZ (.bl false) m' := fun xs => (isi_at (T := tab) (t := .bool) (hv := rfl) (k := .int) rfl rfl).trans rfl
    cases r0 with
    | stop =>
      cases hrow
      exact ⟨_, [some (.h K), some due, some (.z (rwD .stop)), y], m', rfl, by simp [fd1l1, rwD, isT, isS], _, _, rfl, rfl⟩
    | go d i =>
      cases hrow
      exact ⟨_, [some (.h K), some due, some (.z (rwD (.go d i))), y], m', rfl, by simp [fd1l1, rwD, isT, isS, isB], _, _, rfl, rfl⟩
    | look q ws =>
      obtain ⟨i, k, rfl, _, _, h1, h2⟩ := hrow
      have g1 : isiA tab (.h i) .tuple m' = okZ (.bl true) m' := (isi_at (T := tab) (x := .h i) (t := .tuple) (hv := h1) (k := .tuple) rfl rfl).trans rfl
      have g2 : isiA tab (.h k) .list m' = okZ (.bl true) m' := (isi_at (T := tab) (x := .h k) (t := .list) (hv := h2) (k := .list) rfl rfl).trans rfl
      have g3 : idxA (.h i) (.z (.int 0)) m' = .ok (.z (.str tLook)) m' := idx_ht h1 (j := 0) (by simp [ixL]) rfl
      have g4 : idxA (.h i) (.z (.int 2)) m' = .ok (.h k) m' := idx_ht h1 (j := 2) (by simp [ixL]) rfl
      have g5 : fn1A false .len (.h i) m' = okZ (.int 3) m' := len_ht h1
      have lp := forV_inv (tg := [3]) (tup := false) (b := exSs tab (callF tab n) fd1l0) (n := k) (xs := ws.map fun p => .z (wyD p)) (fun j r m => ∃ y, r = [some (.h K), some due, some (.h i), y] ∧ m = m') (fun j r m ⟨y, _, e⟩ => by rw [e]; exact h2) ?_ W0 0 [some (.h K), some due, some (.h i), y] m' (Nat.zero_le _) (by have := ok.2.1; simp [W0]; omega) ⟨y, rfl, rfl⟩
      · obtain ⟨r', m2, f1, y2, rfl, rfl⟩ := lp
        exact ⟨_, [some (.h K), some due, some (.h i), y2], m2, rfl, by simp [fd1l1, g1, g2, g3, g4, g5, isS, src_h h2, f1], _, _, rfl, rfl⟩
      · rintro j2 r m2 a2 ha2 ⟨y2, rfl, rfl⟩
        rw [List.getElem?_map] at ha2
        cases hw : ws[j2]? with
        | none => rw [hw] at ha2; cases ha2
        | some p =>
          rw [hw] at ha2
          cases ha2
          exact ⟨_, [some (.h K), some due, some (.h i), some (.z (wyD p))], m2, rfl, by simp [fd1l0, wyD, isT, isB], _, rfl, rfl⟩
end GL

namespace GL
def rest0 : Ss := match fd0.body with
  | .cons _ (.cons _ (.cons _ r)) => r
  | _ => .nil
theorem tail60 (ns : List Int) {t : Tr} (w : Wf (nmL ns) 40 t) (ct : cnt t ≤ 5000) (L : Int) : ∃ m', exSs tab (callF tab 114) rest0 [some (.z (.scr ns)), none, some (.z (.lst ((nmL ns).map .str))), none, none, none, some (.z (toD t))] [some (Lc L)] = .rt (.z (.bl true)) m' := by
  have hmk : ∀ m' : Store, mkLst true [] m' = .ok (.h m'.length) (m' ++ [some (.lst [])]) := fun _ => rfl
  have hz : cnt t < sz := by unfold sz; omega
  have ok := rows_ok (nmL_ok ns) w 0
  -- due
  have e4 : callF tab 114 4 [.h 1, .z (toD t)] [some (Lc L), some (.lst [])] = .ok (.z .non) [some (Lc L), some (zR (rows t 0))] := by
    have := c4 (N := nmL ns) 40 73 t w [some (Lc L), some (zR [])] 1 [] rfl (by simpa using hz)
    simpa [zR] using this
  -- plan
  have e3 : ∀ m, callF tab 114 3 [.z (toD t)] m = okZ (plD t) m := fun m => c3 (N := nmL ns) 40 t w 72 m
  -- told
  obtain ⟨m1, bs, e2, l1, f1, c1', r1⟩ := c2 (n := 71) w [some (Lc L), some (zR (rows t 0))] hz
  have e2 : callF tab 114 2 [.z (plD t)] [some (Lc L), some (zR (rows t 0))] = .ok (.h 2) m1 := e2
  have c1' : cell m1 2 = some (.lst bs) := c1'
  have hdue : ∀ {m : Store}, cell m 1 = some (zR (rows t 0)) → snap m 8 (.h 1) = some (.lst ((rows t 0).map rwD)) ∧ fn1A false .len (.h 1) m = okZ (.int (rows t 0).length) m := fun {m} h => by
    refine ⟨?_, by rw [len_h h]; simp⟩
    show (match cell m 1 with
      | some (.lst xs) => (mapO (snap m 7) xs).map D.lst
      | some (.tup xs) => (mapO (snap m 7) xs).map D.tup
      | _ => none) = _
    rw [h]
    dsimp only
    have z : ((rows t 0).map fun r => A.z (rwD r)) = ((rows t 0).map rwD).map .z := by rw [List.map_map]; rfl
    rw [z, mapO_z]
    rfl
  have d1 : cell m1 1 = some (zR (rows t 0)) := by
    unfold cell
    rw [f1 1 (by simp)]
    rfl
  have hrl : (rows t 0).length < 1000000 := by rw [rows_len]; omega
  have k1 : callF tab 114 1 [.h 2, .h 1] m1 = okZ (.bl true) m1 := c1 113 (K := 2) c1' r1 ok hrl (hdue d1).1 (hdue d1).2
  -- the loop that spoils what was told
  have hbs : bs.length = (rows t 0).length := r1.len
  have start : ∀ a ∈ bs, (∃ r0, a = .z (rwD r0) ∧ ∀ q ws, r0 ≠ .look q ws) ∨ ∃ k j q xs, a = .h k ∧ 3 ≤ j ∧ cell m1 k = some (.tup [.z (.str tLook), .z (.str q), .h j]) ∧ cell m1 j = some (.lst xs) ∧ xs.length ≤ 100 + 0 := by
    clear k1 hbs c1' e2 hrl
    intro a ha
    have key : ∀ {as : List A} {R : List Rw}, RsR 3 m1 as R → (∀ r ∈ R, RwOk r) → a ∈ as → ∃ r0, RowR 3 m1 a r0 ∧ RwOk r0 := fun {as R} h hR hm => by
      induction h with
      | nil => simp at hm
      | cons h hs ih =>
        rcases List.mem_cons.mp hm with rfl | hm
        · exact ⟨_, h, hR _ (by simp)⟩
        · exact ih (fun r hr => hR r (List.mem_cons_of_mem _ hr)) hm
    obtain ⟨r0, h0, o0⟩ := key (r1.mono (Nat.le_refl _) fun i c _ h => h) ok ha
    cases r0 with
    | stop => exact .inl ⟨.stop, h0, fun q ws z => by cases z⟩
    | go d i => exact .inl ⟨.go d i, h0, fun q ws z => by cases z⟩
    | look q ws =>
      obtain ⟨k, j, rfl, _, hj, h1, h2⟩ := h0
      exact .inr ⟨k, j, q, _, rfl, hj, h1, h2, by simpa using o0.2.1⟩
  have lp := forV_inv (tg := [4]) (tup := false) (b := exSs tab (callF tab 114) fd0l0) (n := 2) (xs := bs) (fun i r m => (∃ x, r = [some (.z (.scr ns)), some (.h 1), some (.z (.lst ((nmL ns).map .str))), some (.z (plD t)), x, some (.h 2), some (.z (toD t))]) ∧ cell m 2 = some (.lst bs) ∧ cell m 1 = some (zR (rows t 0)) ∧
      ∀ a ∈ bs, (∃ r0, a = .z (rwD r0) ∧ ∀ q ws, r0 ≠ .look q ws) ∨ ∃ k j q xs, a = .h k ∧ 3 ≤ j ∧ cell m k = some (.tup [.z (.str tLook), .z (.str q), .h j]) ∧ cell m j = some (.lst xs) ∧ xs.length ≤ 100 + i)
    (fun i r m h => h.2.1) ?_ W0 0 [some (.z (.scr ns)), some (.h 1), some (.z (.lst ((nmL ns).map .str))), some (.z (plD t)), none, some (.h 2), some (.z (toD t))] m1 (Nat.zero_le _) (by unfold W0; omega) ⟨⟨none, rfl⟩, c1', d1, start⟩
  · obtain ⟨r', m2, f2, ⟨x, rfl⟩, g1, g2, _⟩ := lp
    have hl2 : 2 < m2.length := cell_lt g1
    have ap : bm1A .append (.h 2) (.z (.tup [.str tStop])) m2 = .ok (.z .non) (m2.set 2 (some (.lst (bs ++ [.z (.tup [.str tStop])])))) := app_h g1 (by unfold sz; omega)
    generalize hm3 : m2.set 2 (some (.lst (bs ++ [.z (.tup [.str tStop])]))) = m3 at ap
    have d3 : cell m3 1 = some (zR (rows t 0)) := by
      rw [← hm3, cell_set_ne (by omega)]
      exact g2
    obtain ⟨m4, bs4, e24, l4, f4, c4', r4⟩ := c2 (n := 71) w m3 hz
    have e24 : callF tab 114 2 [.z (plD t)] m3 = .ok (.h m3.length) m4 := e24
    have d4 : cell m4 1 = some (zR (rows t 0)) := by
      unfold cell at d3 ⊢
      have h1 : 1 < m3.length := by rw [← hm3]; simp; omega
      rw [f4 1 h1]
      exact d3
    have k4 : callF tab 114 1 [.h m3.length, .h 1] m4 = okZ (.bl true) m4 := c1 113 (K := m3.length) c4' r4 ok hrl (hdue d4).1 (hdue d4).2
    obtain ⟨m5, bs5, e25, l5, f5, c5', r5⟩ := c2 (N := nmL ns) (n := 111) (k := 0) (t := .stop) .stop m4 (by simp [cnt, sz])
    have e25 : callF tab 114 2 [.z (.ins 3 [])] m4 = .ok (.h m4.length) m5 := e25
    have k5 : callF tab 114 1 [.h m4.length, .z (.lst [.tup [.str tStop]])] m5 = okZ (.bl true) m5 := c1 113 (K := m4.length) c5' r5 (fun r hr => by
      simp [rows] at hr
      subst hr
      trivial) (by simp [rows]) (snap_z _ _ _) (by simp [rows])
    have hmf : ∀ m : Store, mkLst false [A.z (.tup [.str tStop])] m = okZ (.lst [.tup [.str tStop]]) m := fun _ => rfl
    refine ⟨m5, ?_⟩
    simp [rest0, fd0, hmk, hmf, sz, e4, e3, e2, k1, src_h c1', f2, ty_h g1, mkTup, allZ, ap, e24, k4, mk3, e25, k5]
  · rintro j r m a ha ⟨⟨x, rfl⟩, g1, g2, g3⟩
    rcases g3 a (List.mem_of_getElem? ha) with ⟨r0, rfl, hn⟩ | ⟨k, i, q, xs, rfl, hi, h1, h2, h3⟩
    · refine ⟨_, [some (.z (.scr ns)), some (.h 1), some (.z (.lst ((nmL ns).map .str))), some (.z (plD t)), some (.z (rwD r0)), some (.h 2), some (.z (toD t))], m, rfl, ?_, ⟨_, rfl⟩, g1, g2, fun b hb => (g3 b hb).imp id fun ⟨k, j', q, xs, q1, q2, q3, q4, q5⟩ => ⟨k, j', q, xs, q1, q2, q3, q4, by omega⟩⟩
      cases r0 with
      | stop => simp [fd0l0, rwD]
      | go d i => simp [fd0l0, rwD]
      | look q ws => exact absurd rfl (hn q ws)
    · have v1 : idxA (.h k) (.z (.int 0)) m = .ok (.z (.str tLook)) m := idx_ht h1 (j := 0) (by simp [ixL]) rfl
      have v2 : idxA (.h k) (.z (.int 2)) m = .ok (.h i) m := idx_ht h1 (j := 2) (by simp [ixL]) rfl
      have hil := cell_lt h2
      have hjb : j < bs.length := (List.getElem?_eq_some_iff.mp ha).1
      have ap : bm1A .append (.h i) (.z (.tup [.str [110, 111, 110, 101], .int 0])) m = .ok (.z .non) (m.set i (some (.lst (xs ++ [.z (.tup [.str [110, 111, 110, 101], .int 0])])))) := app_h h2 (by unfold sz; omega)
      refine ⟨_, [some (.z (.scr ns)), some (.h 1), some (.z (.lst ((nmL ns).map .str))), some (.z (plD t)), some (.h k), some (.h 2), some (.z (toD t))], _, rfl, by simp [fd0l0, v1, v2, ty_h h2, mkTup, allZ, sz, ap]; rfl, ⟨_, rfl⟩, ?_, ?_, fun b hb => (g3 b hb).imp id fun ⟨k', j', q', xs', q1, q2, q3, q4, q5⟩ => ?_⟩
      · rw [cell_set_ne (by omega)]; exact g1
      · rw [cell_set_ne (by omega)]; exact g2
      · have hk : i ≠ k' := fun z => by
          subst z
          rw [h2] at q3
          cases q3
        by_cases hj : i = j'
        · subst hj
          rw [h2] at q4
          cases q4
          exact ⟨k', i, q', _, q1, q2, by rw [cell_set_ne hk]; exact q3, cell_set_same hil, by simp; omega⟩
        · exact ⟨k', j', q', xs', q1, q2, by rw [cell_set_ne hk]; exact q3, by rw [cell_set_ne hj]; exact q4, by omega⟩
theorem plain60 (ns : List Int) : ∃ m, callF tab 115 0 [.z (.scr ns)] [] = .ok (.z (.bl true)) m := by
  have hmk : ∀ (x : List A) (m' : Store), mkLst true x m' = .ok (.h m'.length) (m' ++ [some (.lst x)]) := fun _ _ => rfl
  have e8 : ∀ m, callF tab 114 8 [.z (.scr ns), .z (.int 1500)] m = okZ (.lst ((nmL ns).map .str)) m := fun m => c8 111 ns m
  obtain ⟨t0, L', e7, w7, b7, cL⟩ := c7 ns 6 104 40 [some (Lc 40)] 0 rfl (by decide) (by decide) (by decide)
  have e7 : callF tab 114 7 [.z (.scr ns), .z (.lst ((nmL ns).map .str)), .z (.int 6), .h 0] [some (.lst [.z (.int 40)])] = .ok (.z (toD t0)) [some (Lc L')] := e7
  have b0 : b64 0 = true := by decide
  have b1 : b64 1 = true := by decide
  have h8 : (0 : Int) < 8 := by omega
  have h11 : (0 : Int) < 11 := by omega
  have p8 : ∀ (k many : Int) (m : Store), b64 k = true → 0 < many → callF tab 114 5 [.z (.scr ns), .z (.int k), .z (.int many)] m = okZ (.int (drw ns k many)) m := fun k many m h1 h2 => c5 112 ns k many m h1 h2
  have ct0 : cnt t0 ≤ 5000 := by
    have : (4 : Int) ^ 6 = 4096 := by decide
    omega
  rw [call_def (fd := fd0) rfl rfl]
  show ∃ m, fin [] (exSs tab (callF tab 114) (.cons _ (.cons _ (.cons _ rest0))) _ []) = _
  by_cases hd : drw ns 0 8 = 0
  · obtain ⟨t, e6, w, ct⟩ := c6 ns 110 (30 + drw ns 1 11) [some (Lc L')] (by have := drw_lo (ns := ns) (k := 1) (many := 11) h11; omega) (by have := drw_hi (ns := ns) (k := 1) (many := 11) h11; omega)
    have e6 : callF tab 114 6 [.z (.scr ns), .z (.lst ((nmL ns).map .str)), .z (.int (30 + drw ns 1 11))] [some (Lc L')] = okZ (toD t) [some (Lc L')] := e6
    obtain ⟨m', e⟩ := tail60 ns w (by omega) L'
    exact ⟨drp [] m', by simp [fd0, e8, hmk, sz, e7, p8, b0, b1, hd, e6, e]⟩
  · have hd2 : (drw ns 0 8 == 0) = false := beq_eq_false_iff_ne.mpr hd
    obtain ⟨m', e⟩ := tail60 ns (w7.mono (by omega)) ct0 L'
    exact ⟨drp [] m', by simp [fd0, e8, hmk, sz, e7, p8, b0, b1, hd2, e]⟩
end GL

set_option maxHeartbeats 0
namespace HeadT
open PySem PySem.W PySem.Calls PyProof.Rows
abbrev Rw1 : OpenRow := OpenLaw.row PySem.Challenge.rw_grope_k60_trees_as_rows
abbrev qv : Program := view Rw1.prog [21]
abbrev txt : List Stmt := PySem.Challenge.rw_grope_k60_trees_as_rows.prog.main.body
def names : List PySem.Str := [PySem.Str.ofString "_wall", PySem.Str.ofString "__name__", PySem.Str.ofString "GropeError", PySem.Str.ofString "NoPlan", PySem.Str.ofString "Plan", PySem.Str.ofString "Stop", PySem.Str.ofString "Do", PySem.Str.ofString "Look", PySem.Str.ofString "lay_rows", PySem.Str.ofString "rows_of", PySem.Str.ofString "_law_cell", PySem.Str.ofString "_law_draw", PySem.Str.ofString "_law_names", PySem.Str.ofString "_law_tree", PySem.Str.ofString "_law_long", PySem.Str.ofString "_law_plan", PySem.Str.ofString "_law_lay", PySem.Str.ofString "_law_kinds"]
def ds : List He.DefD := GL.dsOf txt GL.tab.fns GL.nms.fn
abbrev hk : Hook := GL.hookX 6 GL.tab GL.nms ds
def ob (s : SharedT) : Bool × List He.FnW := GL.obsXG 6 GL.tab GL.nms ds (HandSHeadRun.getT s)
theorem ob_eq (s : SharedT) : ob s = hk.obs s.abs := GL.obsXG_eq (HandSHeadRun.getT_eq s)
theorem ck : GL.ckAll GL.tab GL.nms txt GL.tab.fns GL.nms.fn GL.lns = true := by decide +kernel
theorem run (w : World) : HandSHeadRun.RunEq Rw1 qv hk ob 3000 names w := by
  intro os
  kernel_rfl
end HeadT
open PySem PySem.W PySem.Calls PyProof.Rows
theorem PySem.Challenge.cw_grope_k60_trees_as_rows_holds : PySem.Challenge.rw_grope_k60_trees_as_rows.Holds := by
  w_on; o_law
  refine HandSHeadRun.head_any (r := OpenLaw.row PySem.Challenge.rw_grope_k60_trees_as_rows) (q := HeadT.qv) (H := HeadT.hk) (ob := HeadT.ob) (M := 3000) (loose := HeadT.names) (d := HandSHeadRun.topDef (OpenLaw.row PySem.Challenge.rw_grope_k60_trees_as_rows).prog 21) (kwd := []) HeadT.ob_eq
    (by kernel_rfl) (fun s => by kernel_rfl) HeadT.run (by kernel_rfl) (by kernel_rfl) (by kernel_rfl) (by rfl) (by first | assumption | decide +kernel) (by decide +kernel) ⟨rfl, rfl, rfl, rfl, rfl, by decide +kernel⟩ ?hw ?hc
  case hw => w_witness2
  case hc =>
    refine GL.walkX (l := PySem.Challenge.rw_grope_k60_trees_as_rows) (n := 63) (T := GL.tab) (N := GL.nms) (Ls := GL.lns) (law := 0) (fd := GL.fd0) (x := PySem.Str.ofString "_law_script") rfl (by decide) (by kernel_rfl) rfl rfl rfl ⟨_, rfl⟩ ?_ HeadT.ck (fun K f fd L p h _ _ hd => absurd (GL.dfl60 fd (List.mem_of_getElem? h)) hd) (fun ns _ => GL.plain60 ns)
    have e : (HandSHeadRun.topDef (OpenLaw.row PySem.Challenge.rw_grope_k60_trees_as_rows).prog 21).name = (PySem.Str.ofString "law") := by kernel_rfl
    rw [e]
    rfl
