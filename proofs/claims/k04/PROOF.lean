import PyProof.Rows.All
import Wide.All
import OpenK.AllK
import Wide.FinOn
import HandS.ForMost
import HandS.ForExc
import HandS.Defaults
import HandS.Lambda
import HandS.TupAny
import HandS.SortInts
import HandS.Style
import HandS.IsInst
import HandS.Zip
import HandS.Walk
import KE.SortKeyHeap
import KE.KSortedM
import HandS.More
import KE.GoesZip
import KE.GoesMore
import HandS.Codes
import HandS.Head2
import HandS.HeadEnd
import HandS.HeadHook2
import HandS.HeadHook4
import HandS.HeadWalk
import PySem.Challenge.RW_weavefile_k04_whole_apart
section
/-! L0: a small language with plain values, and what it means. -/
namespace MP

inductive MV where
  | non | bl (b : Bool) | int (i : Int) | str (s : List Nat)
  | tup (l : List MV) | lst (l : List MV) | rol (l : List MV)
  | obj (c : Nat) (fs : List (Nat × MV))
  | ref (a : Nat)

/-- what stands in the heap of the small language, or is owned by a slot -/
inductive O where
  | lst (l : List MV) | dic (t : Bool) (l : List (MV × MV)) | ins (c : Nat) (fs : List (Nat × MV)) | dead

structure Exc where
  cls : Nat
  arg : Option (Nat × MV)

inductive SV where
  | none | val (v : MV) | own (o : O)

inductive R (α : Type) where
  | ok (a : α) (h : List O) | ex (e : Exc) (h : List O) | bad

def R.bind {α β : Type} (r : R α) (f : α → List O → R β) : R β := match r with
  | .ok a h => f a h
  | .ex e h => .ex e h
  | .bad => .bad
/-- nothing may be raised here -/
def R.noex {α : Type} (r : R α) : R α := match r with
  | .ex _ _ => .bad
  | r => r
def R.of {α : Type} (o : Option α) (h : List O) : R α := match o with
  | some a => .ok a h
  | .none => .bad
/-- a pure test -/
def R.guard (c : Bool) {α : Type} (r : R α) : R α := match c with
  | true => r
  | false => .bad

abbrev Fn := List MV → List O → R MV

inductive Bop where | add | sub | mul | fdv | mod | pow | shr | band
inductive Cop where | lt | le | gt | ge | eq | ne | isin | notin | is | isnot
inductive Blt where | len | abs | sum | max | min | all | any | tuple | list | listR | sorted | str | int
inductive Ty where | int | bool | str | list | tuple | cls (c : Nat)
inductive IK where | seq | rng1 | rng2 | enm | zip
inductive SK where | all | lo | hi | both | rev

/-- where an argument comes from: a written value, or a default -/
inductive Pa where | ix (i : Nat) | non | emp | int (i : Int)
  deriving DecidableEq

inductive T where | nm (i : Nat) | tp (l : List T)

mutual
def T.slots : T → List Nat
  | .nm i => [i]
  | .tp l => T.slotsL l
def T.slotsL : List T → List Nat
  | [] => []
  | t :: ts => T.slots t ++ T.slotsL ts
end

inductive E where
  | var (i : Nat)
  | con (v : MV)
  | glo (k : Nat) (v : MV)
  | bin (o : Bop) (a b : E)
  | cmp (o : Cop) (a b : E)
  | chn (o p : Cop) (a b c : E)
  | bop (conj : Bool) (es : List E)
  | not (a : E)
  | neg (a : E)
  | ite (c a b : E)
  | idx (a b : E)
  | slc (k : SK) (a lo hi : E)
  | tup (es : List E)
  | lst (es : List E)
  | lstR (es : List E)
  | dic (t : Bool) (es : List E)
  | blt (f : Blt) (es : List E)
  | isi (t : Ty) (a : E)
  | call (k : Nat) (p : Bool) (es : List E)
  | callK (k : Nat) (p : Bool) (pat : List Pa) (es fs : List E)
  | new (k c : Nat) (p : Bool) (es : List E)
  | meth (k c : Nat) (p : Bool) (a : E) (es : List E)
  | oeq (neg : Bool) (k c : Nat) (a b : E)
  | olen (k c : Nat) (a : E)
  | fld (a : E) (f : Nat)
  | comp (live : Bool) (elt : E) (tg : T) (own : List Nat) (ik : IK) (ia ib : E) (ifs : List E)
  | oIdx (i : Nat) (e : E)
  | oDix (i : Nat) (e : E)
  | oGet (i : Nat) (k d : E)
  | oLen (i : Nat)
  | oIn (neg : Bool) (k : E) (i : Nat)
  | app (a e : E)
  | exR (a e : E)
  | addR (a b : E)
  | srtL (t : Nat) (e : E)

inductive S where
  | asg (t : T) (e : E)
  | par (l : List (Nat × Bool × E))
  | own (i : Nat) (e : E)
  | app (i : Nat) (e : E)
  | ext (i : Nat) (e : E)
  | setI (i : Nat) (k e : E)
  | exp (e : E)
  | setF (a : E) (f : Nat) (e : E)
  | frz (i : Nat)
  | ifs (c : E) (a b : List S)
  | for (t : T) (ik : IK) (ia ib : E) (ks : List Nat) (b : List S)
  | whl (n : Nat) (c : E) (ks : List Nat) (b : List S)
  | ret (e : E)
  | retN
  | cont
  | never
  | pass
  | rai (c : Nat) (arg : Option (Nat × E))
  | aug (i : Nat) (o : Bop) (e : E)

def SK.hasLo : SK → Bool
  | .lo => true
  | .both => true
  | _ => false
def SK.hasHi : SK → Bool
  | .hi => true
  | .both => true
  | _ => false
/-! ### values -/
def LIM : Nat := 1000000

mutual
def noRef : MV → Bool
  | .ref _ => false
  | .tup l => noRefs l
  | .lst l => noRefs l
  | .rol l => noRefs l
  | .obj _ fs => noRefF fs
  | _ => true
def noRefs : List MV → Bool
  | [] => true
  | v :: vs => noRef v && noRefs vs
def noRefF : List (Nat × MV) → Bool
  | [] => true
  | (_, v) :: fs => noRef v && noRefF fs
end

/-- the items of a list (told in the heap or frozen) or a tuple -/
def lookL (h : List O) : MV → Option (List MV)
  | .lst l => some l
  | .ref a => match h[a]? with
    | some (.lst l) => some l
    | _ => none
  | _ => none
def lookS (h : List O) : MV → Option (List MV)
  | .tup l => some l
  | v => lookL h v

/-- plain data (to a depth): what == is asked of; g tells what stands at a place of the heap -/
def snapG (g : Nat → Option MV) : Nat → MV → Option MV
  | _, .non => some .non
  | _, .bl b => some (.bl b)
  | _, .int i => some (.int i)
  | _, .str s => if s.all (fun c => decide (c < 1114112)) then some (.str s) else none
  | n + 1, .tup l => (snapsG (snapG g n) l).map .tup
  | n + 1, .lst l => (snapsG (snapG g n) l).map .lst
  | _, .ref a => g a
  | _, _ => none
where snapsG (f : MV → Option MV) : List MV → Option (List MV)
  | [] => some []
  | v :: vs => match f v, snapsG f vs with
    | some x, some xs => some (x :: xs)
    | _, _ => none
def snapR (h : List O) : Nat → Nat → Option MV
  | 0, _ => none
  | k + 1, a => match h[a]? with
    | some (.lst l) => (snapG.snapsG (snapG (snapR h k) 6) l).map .lst
    | _ => none
def snap (h : List O) (v : MV) : Option MV := snapG (snapR h 3) 6 v

mutual
def eqM : MV → MV → Bool
  | .non, .non => true
  | .bl a, .bl b => a == b
  | .bl a, .int j => (if a then 1 else 0) == j
  | .int i, .bl b => i == (if b then 1 else 0)
  | .int i, .int j => i == j
  | .str x, .str y => x == y
  | .lst xs, .lst ys => eqMs xs ys
  | .tup xs, .tup ys => eqMs xs ys
  | _, _ => false
def eqMs : List MV → List MV → Bool
  | [], [] => true
  | x :: xs, y :: ys => eqM x y && eqMs xs ys
  | _, _ => false
end

def flatM : MV → Bool
  | .non => true
  | .bl _ => true
  | .int _ => true
  | .str _ => true
  | _ => false
def inM (x : MV) (xs : List MV) : Bool := xs.any fun y => eqM y x

/-! ### places, slices -/
def sIx (n d : Nat) : Option Int → Nat
  | none => d
  | some v => if v < 0 then (v + (n : Int)).toNat else min v.toNat n
def cut {α : Type} (xs : List α) (lo hi : Option Int) : List α := (xs.drop (sIx xs.length 0 lo)).take (sIx xs.length xs.length hi - sIx xs.length 0 lo)
def ixN (n : Nat) (i : Int) : Option Nat := if 0 ≤ i then (if i < n then some i.toNat else none) else if -(n : Int) ≤ i then some (i + n).toNat else none
def atI {α : Type} (xs : List α) (i : Int) : Option α := (ixN xs.length i).bind fun j => xs[j]?

/-! ### operators -/
def mulOk (i j : Int) : Bool := decide (-(2 ^ 64) < i ∧ i < 2 ^ 64) || decide (-(2 ^ 64) < j ∧ j < 2 ^ 64)
def rep {α : Type} (n : Nat) (xs : List α) : List α := match n with
  | 0 => []
  | n + 1 => xs ++ rep n xs
def andBit (i : Int) : Int := i % 2
def binV (h : List O) : Bop → MV → MV → Option MV
  | .add, .int i, .int j => some (.int (i + j))
  | .add, .str x, .str y => if x.length + y.length ≤ LIM then some (.str (x ++ y)) else none
  | .add, .tup x, .tup y => if x.length + y.length ≤ LIM then some (.tup (x ++ y)) else none
  | .add, x, y => match lookL h x, lookL h y with
    | some l, some k => if l.length + k.length ≤ LIM then some (.lst (l ++ k)) else none
    | _, _ => none
  | .sub, .int i, .int j => some (.int (i - j))
  | .mul, .int i, .int j => if mulOk i j then some (.int (i * j)) else none
  | .mul, .lst l, .int k => if l.length * k.toNat ≤ LIM ∧ 0 ≤ k ∧ k ≤ LIM then some (.lst (rep k.toNat l)) else none
  | .fdv, .int i, .int j => if 0 < j ∧ j < 1073741824 then some (.int (i / j)) else none
  | .mod, .int i, .int j => if 0 < j then some (.int (i % j)) else none
  | .pow, .int i, .int j => if 0 ≤ j ∧ j ≤ 1000000 ∧ i.natAbs < 2 ^ 64 then some (.int (i ^ j.toNat)) else none
  | .shr, .int i, .int j => if 0 ≤ j then some (.int (i / 2 ^ j.toNat)) else none
  | .band, .int i, .int 1 => if 0 ≤ i then some (.int (i % 2)) else none
  | _, _, _ => none

def inSeq (h : List O) (x y : MV) : Option Bool := match lookS h y with
  | some l => if flatM x && l.all flatM then some (inM x l) else none
  | none => none
def inSign (x : MV) (z : List Nat) : Option Bool := match x with
  | .str [c] => some (decide (c ∈ z))
  | _ => none
def inV (h : List O) (x y : MV) : Option Bool := match y with
  | .str z => inSign x z
  | y => inSeq h x y
def cmpV (h : List O) : Cop → MV → MV → Option Bool
  | .lt, .int i, .int j => some (decide (i < j))
  | .le, .int i, .int j => some (decide (i ≤ j))
  | .gt, .int i, .int j => some (decide (j < i))
  | .ge, .int i, .int j => some (decide (j ≤ i))
  | .eq, x, y => match snap h x, snap h y with
    | some u, some v => some (eqM u v)
    | _, _ => none
  | .ne, x, y => match snap h x, snap h y with
    | some u, some v => some (!eqM u v)
    | _, _ => none
  | .isin, x, y => inV h x y
  | .notin, x, y => (inV h x y).map not
  | .is, .non, .non => some true
  | .is, x, .non => match x with
    | .ref _ => some false
    | .rol _ => none
    | _ => some false
  | .isnot, .non, .non => some false
  | .isnot, x, .non => match x with
    | .rol _ => none
    | _ => some true
  | .is, .bl a, .bl b => some (decide (a = b))
  | .isnot, .bl a, .bl b => some (!decide (a = b))
  | _, _, _ => none

def insI (x : Int) : List Int → List Int
  | [] => [x]
  | y :: ys => if x ≤ y then x :: y :: ys else y :: insI x ys
def sortI : List Int → List Int
  | [] => []
  | x :: xs => insI x (sortI xs)
/-- lots: by how many, then by their numbers -/
def lotLe (a b : List Int) : Bool := decide (a.length < b.length) || (decide (a.length = b.length) && !decide (b < a))
def sortLots (ls : List (List Int)) : List (List Int) := ls.mergeSort lotLe
def intsOf : List MV → Option (List Int)
  | [] => some []
  | .int i :: vs => (intsOf vs).map (i :: ·)
  | _ :: _ => none
/-- tuples of ints -/
def lotsOf : List MV → Option (List (List Int))
  | [] => some []
  | .tup l :: vs => (intsOf l).bind fun ns => (lotsOf vs).map (ns :: ·)
  | _ :: _ => none
def lotM (ns : List Int) : MV := .tup (ns.map .int)
def boolsOf : List MV → Option (List Bool)
  | [] => some []
  | .bl i :: vs => (boolsOf vs).map (i :: ·)
  | _ :: _ => none

def optR {α β : Type} (o : Option α) (f : α → R β) : R β := match o with
  | some a => f a
  | none => .bad
def minI (n : Int) (ns : List Int) : Int := ns.foldl (fun a b => if b < a then b else a) n
def lenV (v : MV) (h : List O) : R MV := match v with
  | .str s => if s.length ≤ LIM then .ok (.int s.length) h else .bad
  | v => optR (lookS h v) fun l => .ok (.int l.length) h
def blt1 (f : Blt) (v : MV) (h : List O) : R MV := match f with
  | .len => lenV v h
  | .abs => (match v with
    | .int i => .ok (.int (if i < 0 then -i else i)) h
    | _ => .bad)
  | .sum => optR ((lookL h v).bind intsOf) fun ns => .ok (.int ns.sum) h
  | .max => .bad
  | .min => optR ((lookL h v).bind intsOf) fun ns => (match ns with
    | n :: ns => .ok (.int (minI n ns)) h
    | _ => .bad)
  | .all => optR ((lookL h v).bind boolsOf) fun bs => .ok (.bl (bs.all id)) h
  | .any => optR ((lookL h v).bind boolsOf) fun bs => .ok (.bl (bs.any id)) h
  | .tuple => optR (lookS h v) fun l => .ok (.tup l) h
  | .list => optR (lookS h v) fun l => .ok (.lst l) h
  | .listR => optR (lookS h v) fun l => .ok (.ref h.length) (h ++ [.lst l])
  | .sorted => optR ((lookL h v).bind intsOf) fun ns => .ok (.lst ((sortI ns).map .int)) h
  | .str => .bad
  | .int => (match v with
    | .int i => .ok (.int i) h
    | .bl b => .ok (.int (if b then 1 else 0)) h
    | _ => .bad)
def blt2 (f : Blt) (v w : MV) (h : List O) : R MV := match f, v, w with
  | .max, .int i, .int j => .ok (.int (if j > i then j else i)) h
  | .min, .int i, .int j => .ok (.int (if j < i then j else i)) h
  | _, _, _ => .bad
def bltV (f : Blt) (vs : List MV) (h : List O) : R MV := match vs with
  | [v] => blt1 f v h
  | [v, w] => blt2 f v w h
  | _ => .bad

def clsOf (h : List O) (v : MV) : Option Nat := match v with
  | .obj c _ => some c
  | .ref a => match h[a]? with
    | some (.ins c _) => some c
    | _ => none
  | _ => none

/-! ### slots -/

def isiV (h : List O) : Ty → MV → Option Bool
  | _, .rol _ => none
  | .int, .int _ => some true
  | .int, .bl _ => some true
  | .int, .ref a => match h[a]? with
    | some (.lst _) => some false
    | _ => none
  | .int, .obj _ _ => none
  | .int, _ => some false
  | .bool, .bl _ => some true
  | .bool, .ref a => match h[a]? with
    | some (.lst _) => some false
    | _ => none
  | .bool, .obj _ _ => none
  | .bool, _ => some false
  | .str, .str _ => some true
  | .str, .ref a => match h[a]? with
    | some (.lst _) => some false
    | _ => none
  | .str, .obj _ _ => none
  | .str, _ => some false
  | .list, .lst _ => some true
  | .list, .ref a => match h[a]? with
    | some (.lst _) => some true
    | _ => none
  | .list, .obj _ _ => none
  | .list, _ => some false
  | .tuple, .tup _ => some true
  | .tuple, .ref a => match h[a]? with
    | some (.lst _) => some false
    | _ => none
  | .tuple, .obj _ _ => none
  | .tuple, _ => some false
  | .cls c, v => if clsOf h v = some c then some true else none

def lookF (fs : List (Nat × MV)) (f : Nat) : Option MV := match fs with
  | [] => none
  | (g, v) :: r => if g = f then some v else lookF r f
def putF (f : Nat) (v : MV) : List (Nat × MV) → List (Nat × MV)
  | [] => [(f, v)]
  | (g, x) :: r => if g = f then (g, v) :: r else (g, x) :: putF f v r
def fldV (h : List O) (v : MV) (f : Nat) : Option MV := match v with
  | .obj _ fs => lookF fs f
  | .ref a => match h[a]? with
    | some (.ins _ fs) => lookF fs f
    | _ => none
  | _ => none

/-- keys of dicts: ints and texts, or tuples of them -/
def keyM : MV → Bool
  | .int _ => true
  | .str _ => true
  | _ => false
def keyT (t : Bool) (k : MV) : Bool := match t with
  | false => keyM k
  | true => (match k with
    | .tup l => l.all keyM
    | _ => false)
def keyEq (a b : MV) : Bool := match a, b with
  | .int i, .int j => decide (i = j)
  | .str x, .str y => decide (x = y)
  | .tup x, .tup y => eqMs x y
  | _, _ => false
def getD (kvs : List (MV × MV)) (k : MV) : Option MV := (kvs.find? fun p => keyEq p.1 k).map (·.2)
def putD (kvs : List (MV × MV)) (k v : MV) : List (MV × MV) :=
  if (kvs.any fun p => keyEq p.1 k) = true then kvs.map (fun p => if keyEq p.1 k = true then (p.1, v) else p) else kvs ++ [(k, v)]

def cutM (h : List O) (x : MV) (lo hi : Option Int) : Option MV := match x with
  | .str s => if s.length ≤ LIM then some (.str (cut s lo hi)) else none
  | .tup l => some (.tup (cut l lo hi))
  | .rol l => some (.lst (cut l lo hi))
  | x => (lookL h x).map fun l => .lst (cut l lo hi)
def revM (h : List O) (x : MV) : Option MV := (lookL h x).map fun l => .lst l.reverse
def slcV (h : List O) (k : SK) (x : MV) (lo hi : Option Int) : Option MV := match k with
  | .rev => revM h x
  | _ => cutM h x lo hi
/-! ### calls -/
def callFn (f : Fn) (p : Bool) (args : List MV) (h : List O) : R MV := match p with
  | false => f args h
  | true => if noRefs args then (match f args [] with
    | .ok v _ => if noRef v then .ok v h else .bad
    | .ex e _ => (match e.arg with
      | none => .ex e h
      | some (_, v) => if noRef v then .ex e h else .bad)
    | .bad => .bad) else .bad
/-- the instance of a constructor's own heap, from now on as it is -/
def frzAt (c : Nat) (h1 h : List O) : R MV := match h1[0]? with
  | some (O.ins d fs) => if noRefF fs && decide (c = d) then .ok (.obj c fs) h else .bad
  | _ => .bad
def newFn (f : Fn) (c : Nat) (p : Bool) (args : List MV) (h : List O) : R MV := match p with
  | false => (f (.ref h.length :: args) (h ++ [.ins c []])).bind fun v h1 => match v with
    | .non => .ok (.ref h.length) h1
    | _ => .bad
  | true => if noRefs args then (match f (.ref 0 :: args) [.ins c []] with
    | .ok v h1 => (match v with
      | .non => frzAt c h1 h
      | _ => .bad)
    | .ex e _ => (match e.arg with
      | none => .ex e h
      | some (_, v) => if noRef v then .ex e h else .bad)
    | .bad => .bad) else .bad

def getV (rho : List SV) (i : Nat) : Option MV := match rho[i]? with
  | some (.val v) => some v
  | _ => none
def getO (rho : List SV) (i : Nat) : Option O := match rho[i]? with
  | some (.own o) => some o
  | _ => none
def wipe (rho : List SV) (ks : List Nat) : List SV := match ks with
  | [] => rho
  | k :: ks => (wipe rho ks).set k .none
/-! a name or a tuple of names is set -/
mutual
def setT : T → MV → List SV → Option (List SV)
  | .nm i, v, rho => some (rho.set i (.val v))
  | .tp ts, v, rho => match v with
    | .tup l => setTs ts l rho
    | _ => none
def setTs : List T → List MV → List SV → Option (List SV)
  | [], l, rho => (match l with
    | [] => some rho
    | _ => none)
  | t :: ts, l, rho => match l with
    | v :: vs => (setT t v rho).bind fun r => setTs ts vs r
    | [] => none
end

/-! ### what is walked: the item at a turn; none: unknown, some none: the end -/
inductive Src where
  | fz (l : List MV) | live (a : Nat) | enm (s : Src) | zip (s t : Src)
def Src.at (h : List O) : Src → Nat → Option (Option MV)
  | .fz l, i => some l[i]?
  | .live a, i => match h[a]? with
    | some (.lst l) => some l[i]?
    | _ => none
  | .enm s, i => match s.at h i with
    | some (some v) => some (some (.tup [.int i, v]))
    | r => r
  | .zip s t, i => match s.at h i, t.at h i with
    | some (some v), some (some w) => some (some (.tup [v, w]))
    | some none, some _ => some none
    | some (some _), some none => some none
    | _, _ => none
def Src.len (h : List O) : Src → Nat
  | .fz l => l.length
  | .live a => match h[a]? with
    | some (.lst l) => l.length
    | _ => 0
  | .enm s => s.len h
  | .zip s t => min (s.len h) (t.len h)
def rangeV (lo : Int) : Nat → List MV
  | 0 => []
  | n + 1 => .int lo :: rangeV (lo + 1) n
def srcV (h : List O) (v : MV) : Option Src := match v with
  | .tup l => some (.fz l)
  | .lst l => some (.fz l)
  | .ref a => (match h[a]? with
    | some (.lst _) => some (.live a)
    | _ => none)
  | _ => none
def rng1V (v : MV) : Option Src := match v with
  | .int j => if -1000000 < j ∧ j < 1000000 then some (.fz (rangeV 0 j.toNat)) else none
  | _ => none
def rng2V (v w : MV) : Option Src := match v, w with
  | .int i, .int j => if (-1000000 < i ∧ i < 1000000) ∧ -1000000 < j ∧ j < 1000000 then some (.fz (rangeV i (j - i).toNat)) else none
  | _, _ => none
def isTup : MV → Bool
  | .tup _ => true
  | _ => false
def enmV (h : List O) (v : MV) : Option Src := if isTup v then none else (srcV h v).map .enm
def zipV (h : List O) (v w : MV) : Option Src := if isTup v = true ∨ isTup w = false then (srcV h v).bind fun s => (srcV h w).map fun t => .zip s t else none
def srcE (ik : IK) (ra rb : List O → R MV) (h : List O) : R Src := match ik with
  | .seq => (ra h).bind fun x h1 => R.of (srcV h1 x) h1
  | .rng1 => (ra h).bind fun x h1 => R.of (rng1V x) h1
  | .rng2 => (ra h).bind fun x h1 => (rb h1).bind fun y h2 => R.of (rng2V x y) h2
  | .enm => (ra h).bind fun x h1 => R.of (enmV h1 x) h1
  | .zip => (ra h).bind fun x h1 => (rb h1).bind fun y h2 => R.of (zipV h2 x y) h2

/-- a comprehension's turns -/
def compAdd (o : Option MV) (ys : List MV) (h : List O) : R (List MV) := match o with
  | some y => .ok (y :: ys) h
  | none => .ok ys h
def compGo (fe : List O → R MV) (b : MV) (h : List O) : R (Option MV) := match b with
  | .bl true => (fe h).bind fun y h6 => .ok (some y) h6
  | .bl false => .ok none h
  | _ => .bad
def compLoop (src : Src) (step : MV → List O → R (Option MV)) : Nat → Nat → List O → R (List MV)
  | 0, _, _ => .bad
  | n + 1, i, h => match src.at h i with
    | none => .bad
    | some none => .ok [] h
    | some (some x) => (step x h).noex.bind fun o h1 => (compLoop src step n (i + 1) h1).bind fun ys h2 => compAdd o ys h2

def compStep (tg : T) (rho : List SV) (ft fe : List SV → List O → R MV) (x : MV) (h : List O) : R (Option MV) := (R.of (setT tg x rho) h).bind fun r h4 => (ft r h4).bind fun b h5 => compGo (fun h6 => fe r h6) b h5

inductive SR where
  | nx (rho : List SV) (h : List O) | rt (v : MV) (h : List O) | ct (rho : List SV) (h : List O)
  | ex (e : Exc) (rho : List SV) (h : List O) | bad
def SR.ofR {α : Type} (r : R α) (rho : List SV) (f : α → List O → SR) : SR := match r with
  | .ok a h => f a h
  | .ex e h => .ex e rho h
  | .bad => .bad
def SR.ofO {α : Type} (o : Option α) (f : α → SR) : SR := match o with
  | some a => f a
  | none => .bad
def SR.test (v : MV) (a b : SR) : SR := match v with
  | .bl true => a
  | .bl false => b
  | _ => .bad
def SR.seq (r : SR) (f : List SV → List O → SR) : SR := match r with
  | .nx rho h => f rho h
  | r => r
/-- the end of a loop's body: on to the next turn -/
def SR.turn (r : SR) (f : List SV → List O → SR) : SR := match r with
  | .nx rho h => f rho h
  | .ct rho h => f rho h
  | r => r
def forLoop (src : Src) (step : MV → List SV → List O → SR) : Nat → Nat → List SV → List O → SR
  | 0, _, _, _ => .bad
  | n + 1, i, rho, h => match src.at h i with
    | none => .bad
    | some none => .nx rho h
    | some (some x) => (step x rho h).turn fun r1 h1 => forLoop src step n (i + 1) r1 h1
def whileLoop (c : List SV → List O → R MV) (b : List SV → List O → SR) : Nat → List SV → List O → SR
  | 0, _, _ => .bad
  | n + 1, rho, h => SR.ofR (c rho h) rho fun v h1 => SR.test v ((b rho h1).turn fun r1 h2 => whileLoop c b n r1 h2) (.nx rho h1)

/-! ### the meaning -/
def badF : Fn := fun _ _ => .bad
def Pa.get (xs : List MV) : Pa → Option MV
  | .ix i => xs[i]?
  | .non => some .non
  | .emp => some (.tup [])
  | .int i => some (.int i)
def pickP : List Pa → List MV → Option (List MV)
  | [], _ => some []
  | p :: ps, xs => (p.get xs).bind fun v => (pickP ps xs).bind fun vs => some (v :: vs)

def oIdxV (o : O) (y : MV) (h : List O) : R MV := match o with
  | .lst l => (match y with
    | .int j => R.of (atI l j) h
    | _ => .bad)
  | _ => .bad
def oDixV (o : O) (y : MV) (h : List O) : R MV := match o with
  | .dic false d => if keyM y then R.of (getD d y) h else .bad
  | _ => .bad
def getK (rho : List SV) (i : Nat) : Option (List (MV × MV)) := match getO rho i with
  | some (.dic false kvs) => some kvs
  | _ => none
def getL (rho : List SV) (i : Nat) : Option (List MV) := match getO rho i with
  | some (.lst l) => some l
  | _ => none
def oGetV (kvs : List (MV × MV)) (x y : MV) (h : List O) : R MV := if keyM x then .ok ((getD kvs x).getD y) h else .bad
def oInV (n : Bool) (o : O) (x : MV) (h : List O) : R MV := match o with
  | .dic false kvs => if keyM x then .ok (.bl (if n then !(getD kvs x).isSome else (getD kvs x).isSome)) h else .bad
  | _ => .bad
def oLenV (o : O) (h : List O) : R MV := match o with
  | .lst l => .ok (.int l.length) h
  | _ => .bad
/-- the place of a list of the heap -/
def refL (h : List O) (x : MV) : Option Nat := match x with
  | .ref i => (match h[i]? with
    | some (.lst _) => some i
    | _ => none)
  | _ => none
def appV (i : Nat) (y : MV) (h : List O) : R MV := match h[i]? with
  | some (.lst l) => if l.length < LIM then .ok .non (h.set i (.lst (l ++ [y]))) else .bad
  | _ => .bad
def extV (i : Nat) (y : MV) (h : List O) : R MV := match h[i]? with
  | some (.lst l) => optR (lookL h y) fun k => if l.length + k.length ≤ LIM then .ok .non (h.set i (.lst (l ++ k))) else .bad
  | _ => .bad
def addRV (x y : MV) (h : List O) : R MV := optR (lookL h x) fun l => optR (lookL h y) fun k => if l.length + k.length ≤ LIM then .ok (.ref h.length) (h ++ [.lst (l ++ k)]) else .bad
/-- sorted(x, key=lambda y: (len(y), y)) -/
def srtV (x : MV) (h : List O) : R MV := optR ((lookL h x).bind lotsOf) fun ls => if ls.length ≤ LIM then .ok (.lst ((sortLots ls).map lotM)) h else .bad
def oeqV (f : Fn) (n : Bool) (c : Nat) (x y : MV) (h : List O) : R MV := if clsOf h x = some c ∧ clsOf h y = some c then (match f [x, y] h with
  | .ok (.bl r) h3 => .ok (.bl (if n then !r else r)) h3
  | _ => .bad) else .bad
def olenV (f : Fn) (c : Nat) (x : MV) (h : List O) : R MV := if clsOf h x = some c then (match f [x] h with
  | .ok (.int r) h3 => if 0 ≤ r ∧ r ≤ LIM then .ok (.int r) h3 else .bad
  | _ => .bad) else .bad
def compEnd (live : Bool) (ys : List MV) (h : List O) : R MV := if ys.length ≤ LIM then (match live with
  | true => .ok (.ref h.length) (h ++ [.lst ys])
  | false => .ok (.lst ys) h) else .bad
def optP (b : Bool) (r : List O → R MV) (h : List O) : R (Option Int) := match b with
  | false => .ok none h
  | true => (r h).bind fun x h1 => match x with
    | .int i => .ok (some i) h1
    | _ => .bad
mutual
def ev (Φ : List Fn) : E → List SV → List O → R MV
  | .var i, rho, h => R.of (getV rho i) h
  | .con v, _, h => .ok v h
  | .glo _ v, _, h => .ok v h
  | .bin o a b, rho, h => (ev Φ a rho h).bind fun x h1 => (ev Φ b rho h1).bind fun y h2 => R.of (binV h2 o x y) h2
  | .cmp o a b, rho, h => (ev Φ a rho h).bind fun x h1 => (ev Φ b rho h1).bind fun y h2 => R.of ((cmpV h2 o x y).map .bl) h2
  | .chn o p a b c, rho, h => (ev Φ a rho h).bind fun x h1 => (ev Φ b rho h1).bind fun y h2 => (R.of (cmpV h2 o x y) h2).bind fun k h3 =>
      match k with
      | true => (ev Φ c rho h3).bind fun z h4 => R.of ((cmpV h4 p y z).map .bl) h4
      | false => .ok (.bl false) h3
  | .bop conj es, rho, h => evB Φ conj es rho h
  | .not a, rho, h => (ev Φ a rho h).bind fun x h1 => match x with
      | .bl b => .ok (.bl (!b)) h1
      | _ => .bad
  | .neg a, rho, h => (ev Φ a rho h).bind fun x h1 => match x with
      | .int i => .ok (.int (-i)) h1
      | _ => .bad
  | .ite c a b, rho, h => (ev Φ c rho h).bind fun x h1 => match x with
      | .bl true => ev Φ a rho h1
      | .bl false => ev Φ b rho h1
      | _ => .bad
  | .idx a b, rho, h => (ev Φ a rho h).bind fun x h1 => (ev Φ b rho h1).bind fun y h2 => match y with
      | .int i => (match x with
        | .str s => if s.length ≤ LIM then R.of ((atI s i).map fun c => .str [c]) h2 else .bad
        | x => R.of ((lookS h2 x).bind fun l => atI l i) h2)
      | _ => .bad
  | .slc k a lo hi, rho, h => (ev Φ a rho h).bind fun x h1 => (optP k.hasLo (fun h2 => ev Φ lo rho h2) h1).bind fun l h2 => (optP k.hasHi (fun h3 => ev Φ hi rho h3) h2).bind fun u h3 => R.of (slcV h3 k x l u) h3
  | .tup es, rho, h => (evs Φ es rho h).bind fun xs h1 => if xs.length ≤ LIM then .ok (.tup xs) h1 else .bad
  | .lst es, rho, h => (evs Φ es rho h).bind fun xs h1 => if xs.length ≤ LIM then .ok (.lst xs) h1 else .bad
  | .lstR es, rho, h => (evs Φ es rho h).bind fun xs h1 => if xs.length ≤ LIM then .ok (.ref h1.length) (h1 ++ [.lst xs]) else .bad
  | .dic _ _, _, _ => .bad
  | .blt f es, rho, h => (evs Φ es rho h).bind fun xs h1 => bltV f xs h1
  | .isi t a, rho, h => (ev Φ a rho h).bind fun x h1 => R.of ((isiV h1 t x).map .bl) h1
  | .call k p es, rho, h => (evs Φ es rho h).bind fun xs h1 => callFn (Φ.getD k badF) p xs h1
  | .callK k p pat es fs, rho, h => (evs Φ es rho h).bind fun xs h1 => (evs Φ fs rho h1).bind fun ys h2 => optR (pickP pat (xs ++ ys)) fun args => callFn (Φ.getD k badF) p args h2
  | .new k c p es, rho, h => (evs Φ es rho h).bind fun xs h1 => newFn (Φ.getD k badF) c p xs h1
  | .meth k c p a es, rho, h => (ev Φ a rho h).bind fun x h1 => if clsOf h1 x = some c then (evs Φ es rho h1).bind fun xs h2 => callFn (Φ.getD k badF) p (x :: xs) h2 else .bad
  | .oeq n k c a b, rho, h => (ev Φ a rho h).bind fun x h1 => (ev Φ b rho h1).bind fun y h2 => oeqV (Φ.getD k badF) n c x y h2
  | .olen k c a, rho, h => (ev Φ a rho h).bind fun x h1 => olenV (Φ.getD k badF) c x h1
  | .fld a f, rho, h => (ev Φ a rho h).bind fun x h1 => R.of (fldV h1 x f) h1
  | .comp live elt tg own ik ia ib ifs, rho, h => (srcE ik (fun h1 => ev Φ ia rho h1) (fun h1 => ev Φ ib rho h1) h).bind fun src h3 =>
        (compLoop src (compStep tg (wipe rho own) (fun r h4 => evB Φ true ifs r h4) (fun r h4 => ev Φ elt r h4)) (src.len h3 + 1) 0 h3).bind fun ys h7 =>
          compEnd live ys h7
  | .oIdx i e, rho, h => optR (getO rho i) fun o => (ev Φ e rho h).bind fun y h1 => oIdxV o y h1
  | .oDix i e, rho, h => optR (getO rho i) fun o => (ev Φ e rho h).bind fun y h1 => oDixV o y h1
  | .oGet i k d, rho, h => optR (getK rho i) fun kvs => (ev Φ k rho h).bind fun x h1 => (ev Φ d rho h1).bind fun y h2 => oGetV kvs x y h2
  | .oLen i, rho, h => optR (getO rho i) fun o => oLenV o h
  | .oIn n k i, rho, h => (ev Φ k rho h).bind fun x h1 => optR (getO rho i) fun o => oInV n o x h1
  | .app a e, rho, h => (ev Φ a rho h).bind fun x h1 => optR (refL h1 x) fun i => (ev Φ e rho h1).bind fun y h2 => appV i y h2
  | .exR a e, rho, h => (ev Φ a rho h).bind fun x h1 => optR (refL h1 x) fun i => (ev Φ e rho h1).bind fun y h2 => extV i y h2
  | .addR a b, rho, h => (ev Φ a rho h).bind fun x h1 => (ev Φ b rho h1).bind fun y h2 => addRV x y h2
  | .srtL _ e, rho, h => (ev Φ e rho h).bind fun x h1 => srtV x h1
def evs (Φ : List Fn) : List E → List SV → List O → R (List MV)
  | [], _, h => .ok [] h
  | e :: es, rho, h => (ev Φ e rho h).bind fun x h1 => (evs Φ es rho h1).bind fun xs h2 => .ok (x :: xs) h2
/-- and, or: an empty one is what it joins to -/
def evB (Φ : List Fn) : Bool → List E → List SV → List O → R MV
  | conj, [], _, h => .ok (.bl conj) h
  | conj, e :: es, rho, h => (ev Φ e rho h).bind fun x h1 => match x with
      | .bl b => if b = conj then evB Φ conj es rho h1 else .ok (.bl b) h1
      | _ => .bad
end

/-- what a slot comes to own -/
def evO (Φ : List Fn) (e : E) (rho : List SV) (h : List O) : R O := match e with
  | .lst es => (evs Φ es rho h).bind fun xs h1 => if xs.length ≤ LIM then .ok (.lst xs) h1 else .bad
  | .blt .list [e] => (ev Φ e rho h).bind fun x h1 => (R.of (lookS h1 x) h1).bind fun l h2 => .ok (.lst l) h2
  | .dic t [] => .ok (.dic t []) h
  | .dic false [k, v] => (ev Φ k rho h).bind fun x h1 => (ev Φ v rho h1).bind fun y h2 => if keyM x then .ok (.dic false [(x, y)]) h2 else .bad
  | _ => .bad
def evSV (Φ : List Fn) (own : Bool) (e : E) (rho : List SV) (h : List O) : R SV := match own with
  | true => (evO Φ e rho h).bind fun o h1 => .ok (.own o) h1
  | false => (ev Φ e rho h).bind fun v h1 => .ok (.val v) h1
def evPar (Φ : List Fn) (rho : List SV) : List (Nat × Bool × E) → List O → R (List (Nat × SV))
  | [], h => .ok [] h
  | (i, b, e) :: r, h => (evSV Φ b e rho h).bind fun v h1 => (evPar Φ rho r h1).bind fun vs h2 => .ok ((i, v) :: vs) h2
def setAll : List (Nat × SV) → List SV → List SV
  | [], rho => rho
  | (i, v) :: r, rho => setAll r (rho.set i v)
def appOwn (l : List MV) (v : MV) : Option O := if l.length < LIM then some (.lst (l ++ [v])) else none
def extOwn (h : List O) (l : List MV) (v : MV) : Option O := (lookL h v).bind fun k => if l.length + k.length ≤ LIM then some (.lst (l ++ k)) else none
def setOwn (kvs : List (MV × MV)) (k v : MV) : Option O := if keyM k && decide (kvs.length < LIM) then some (.dic false (putD kvs k v)) else none
def setFld (f : Nat) (x v : MV) (h : List O) : Option (List O) := match x with
  | .ref i => (match h[i]? with
    | some (O.ins c fs) => if fs.length < 900 then some (h.set i (.ins c (putF f v fs))) else none
    | _ => none)
  | _ => none
def augV (o : Bop) (x y : MV) : Option MV := match o, x, y with
  | .add, .int i, .int j => some (.int (i + j))
  | .sub, .int i, .int j => some (.int (i - j))
  | _, _, _ => none
def frzO (o : O) : Option MV := match o with
  | .lst l => some (.lst l)
  | _ => none
mutual
def exS (Φ : List Fn) : S → List SV → List O → SR
  | .asg t e, rho, h => SR.ofR (ev Φ e rho h) rho fun v h1 => SR.ofO (setT t v rho) fun r => .nx r h1
  | .par l, rho, h => SR.ofR (evPar Φ rho l h) rho fun vs h1 => .nx (setAll vs rho) h1
  | .own i e, rho, h => SR.ofR (evO Φ e rho h) rho fun o h1 => .nx (rho.set i (.own o)) h1
  | .app i e, rho, h => SR.ofO (getL rho i) fun l => SR.ofR (ev Φ e rho h) rho fun v h1 => SR.ofO (appOwn l v) fun u => .nx (rho.set i (.own u)) h1
  | .ext i e, rho, h => SR.ofO (getL rho i) fun l => SR.ofR (ev Φ e rho h) rho fun v h1 => SR.ofO (extOwn h1 l v) fun u => .nx (rho.set i (.own u)) h1
  | .setI i k e, rho, h => SR.ofR (ev Φ e rho h) rho fun v h1 => SR.ofO (getK rho i) fun l => SR.ofR (ev Φ k rho h1) rho fun x h2 => SR.ofO (setOwn l x v) fun u => .nx (rho.set i (.own u)) h2
  | .exp e, rho, h => SR.ofR (ev Φ e rho h) rho fun _ h1 => .nx rho h1
  | .setF a f e, rho, h => SR.ofR (ev Φ e rho h) rho fun v h1 => SR.ofR (ev Φ a rho h1) rho fun x h2 => SR.ofO (setFld f x v h2) fun h3 => .nx rho h3
  | .frz i, rho, h => SR.ofO (getO rho i) fun o => SR.ofO (frzO o) fun v => .nx (rho.set i (.val v)) h
  | .ifs c a b, rho, h => SR.ofR (ev Φ c rho h) rho fun v h1 => SR.test v (exL Φ a rho h1) (exL Φ b rho h1)
  | .never, _, _ => .bad
  | .pass, rho, h => .nx rho h
  | .for t ik ia ib ks b, rho, h => SR.ofR (srcE ik (fun h1 => ev Φ ia rho h1) (fun h1 => ev Φ ib rho h1) h) rho fun src h2 =>
      (forLoop src (fun x r h => SR.ofO (setT t x (wipe r ks)) fun r1 => exL Φ b r1 h) (src.len h2 + 1) 0 rho h2).seq fun r h => .nx (wipe r ks) h
  | .whl n c ks b, rho, h => (whileLoop (fun r h => ev Φ c r h) (fun r h => exL Φ b (wipe r ks) h) n rho h).seq fun r h => .nx (wipe r ks) h
  | .ret e, rho, h => SR.ofR (ev Φ e rho h) rho fun v h1 => .rt v h1
  | .retN, _, h => .rt .non h
  | .cont, rho, h => .ct rho h
  | .rai c arg, rho, h => match arg with
      | none => .ex ⟨c, none⟩ rho h
      | some (f, e) => SR.ofR (ev Φ e rho h) rho fun v h1 => .ex ⟨c, some (f, v)⟩ rho h1
  | .aug i o e, rho, h => SR.ofO (getV rho i) fun x => SR.ofR (ev Φ e rho h) rho fun y h1 => SR.ofO (augV o x y) fun z => .nx (rho.set i (.val z)) h1
def exL (Φ : List Fn) : List S → List SV → List O → SR
  | [], rho, h => .nx rho h
  | s :: ss, rho, h => (exS Φ s rho h).seq fun r h1 => exL Φ ss r h1
end
/-- a def: np parameters, ns slots -/
def runDef (Φ : List Fn) (np ns : Nat) (body : List S) : Fn := fun args h => if args.length = np then (match exL Φ body (args.map .val ++ List.replicate (ns - np) .none) h with
    | .nx _ h1 => .ok .non h1
    | .rt v h1 => .ok v h1
    | .ex e _ h1 => .ex e h1
    | _ => .bad) else .bad
end MP
end

section
set_option Elab.async false
set_option linter.all false
set_option maxRecDepth 100000
set_option maxHeartbeats 1000000
namespace MPS
open PySem PySem.Spec PyProof.Rows L2
/-- what the relations lean on: the written part, the classes' addresses, the fields' names -/
structure Gc where
  K : PySem.W.Frag
  C : Nat → Addr
  fn : Nat → Str
  X : Nat → Addr
  T : List (Addr × Str)
  inj : ∀ a b, fn a = fn b → a = b

mutual
inductive VR (G : Gc) (m : List Addr) (F : Hp) : MP.MV → V → Prop
  | non : VR G m F .non .non
  | bl (b : Bool) : VR G m F (.bl b) (.bl b)
  | int (i : Int) : VR G m F (.int i) (.int i)
  | str (s : List Nat) : VR G m F (.str s) (.str ⟨s.toArray⟩)
  | tup {a : Addr} {vs : List MP.MV} {xs : List V} (e : SqT G.K F a xs) (r : VRs G m F vs xs) : VR G m F (.tup vs) (.ref a)
  | lst {a : Addr} {vs : List MP.MV} {xs : List V} (e : F a = some (.lst xs)) (r : VRs G m F vs xs) : VR G m F (.lst vs) (.ref a)
  | rol {a : Addr} {vs : List MP.MV} {xs : List V} (e : SqL G.K F a xs) (r : VRs G m F vs xs) : VR G m F (.rol vs) (.ref a)
  | obj {a dx : Addr} {c : Nat} {fs : List (Nat × MP.MV)} {gs : List (Str × V)} (e : F a = some (.ins (G.C c) dx gs)) (r : FR G m F fs gs) : VR G m F (.obj c fs) (.ref a)
  | ref {i : Nat} {a : Addr} (e : m[i]? = some a) : VR G m F (.ref i) (.ref a)
inductive VRs (G : Gc) (m : List Addr) (F : Hp) : List MP.MV → List V → Prop
  | nil : VRs G m F [] []
  | cons {v : MP.MV} {x : V} {vs : List MP.MV} {xs : List V} (h : VR G m F v x) (t : VRs G m F vs xs) : VRs G m F (v :: vs) (x :: xs)
inductive FR (G : Gc) (m : List Addr) (F : Hp) : List (Nat × MP.MV) → List (Str × V) → Prop
  | nil : FR G m F [] []
  | cons {f : Nat} {v : MP.MV} {x : V} {fs : List (Nat × MP.MV)} {gs : List (Str × V)} (h : VR G m F v x) (t : FR G m F fs gs) : FR G m F ((f, v) :: fs) ((G.fn f, x) :: gs)
end

theorem sqT_same {K : PySem.W.Frag} {H H' : Hp} {a : Addr} {xs : List V} (e : Same H H') (h : SqT K H a xs) : SqT K H' a xs := by
  rcases h with (h | ⟨o, h⟩) | h
  · exact .inl (.inl (e _ _ h))
  · exact .inl (.inr ⟨o, e _ _ h⟩)
  · exact .inr h
/-- m' goes on from m -/
def Pre (m m' : List Addr) : Prop := ∃ t, m' = m ++ t
theorem Pre.refl (m : List Addr) : Pre m m := ⟨[], by simp⟩
theorem Pre.trans {a b c : List Addr} (h : Pre a b) (k : Pre b c) : Pre a c := by
  obtain ⟨s, rfl⟩ := h
  obtain ⟨t, rfl⟩ := k
  exact ⟨s ++ t, by simp⟩
theorem Pre.at {m m' : List Addr} {i : Nat} {a : Addr} (p : Pre m m') (h : m[i]? = some a) : m'[i]? = some a := by
  obtain ⟨t, rfl⟩ := p
  rw [List.getElem?_append_left (List.getElem?_eq_some_iff.mp h).1]
  exact h
theorem Pre.mem {m m' : List Addr} {a : Addr} (p : Pre m m') (h : a ∈ m) : a ∈ m' := by
  obtain ⟨t, rfl⟩ := p
  exact List.mem_append_left _ h
theorem Pre.app (m t : List Addr) : Pre m (m ++ t) := ⟨t, rfl⟩
section
variable {G : Gc} {m m' : List Addr} {F F' : Hp}
mutual
theorem VR.mono (p : Pre m m') (s : Same F F') : ∀ {v : MP.MV} {x : V}, VR G m F v x → VR G m' F' v x
  | _, _, .non => .non
  | _, _, .bl b => .bl b
  | _, _, .int i => .int i
  | _, _, .str z => .str z
  | _, _, .tup e r => .tup (sqT_same s e) (VRs.mono p s r)
  | _, _, .lst e r => .lst (s _ _ e) (VRs.mono p s r)
  | _, _, .rol e r => .rol (s.seq e) (VRs.mono p s r)
  | _, _, .obj e r => .obj (s _ _ e) (FR.mono p s r)
  | _, _, .ref e => .ref (p.at e)
theorem VRs.mono (p : Pre m m') (s : Same F F') : ∀ {v : List MP.MV} {x : List V}, VRs G m F v x → VRs G m' F' v x
  | _, _, .nil => .nil
  | _, _, .cons h t => .cons (VR.mono p s h) (VRs.mono p s t)
theorem FR.mono (p : Pre m m') (s : Same F F') : ∀ {v : List (Nat × MP.MV)} {x : List (Str × V)}, FR G m F v x → FR G m' F' v x
  | _, _, .nil => .nil
  | _, _, .cons h t => .cons (VR.mono p s h) (FR.mono p s t)
end
mutual
/-- what holds no place of the heap needs no map -/
theorem VR.bare (m' : List Addr) : ∀ {v : MP.MV} {x : V}, VR G m F v x → MP.noRef v = true → VR G m' F v x
  | _, _, .non, _ => .non
  | _, _, .bl b, _ => .bl b
  | _, _, .int i, _ => .int i
  | _, _, .str z, _ => .str z
  | _, _, .tup e r, h => .tup e (VRs.bare m' r (by simpa [MP.noRef] using h))
  | _, _, .lst e r, h => .lst e (VRs.bare m' r (by simpa [MP.noRef] using h))
  | _, _, .rol e r, h => .rol e (VRs.bare m' r (by simpa [MP.noRef] using h))
  | _, _, .obj e r, h => .obj e (FR.bare m' r (by simpa [MP.noRef] using h))
  | _, _, .ref e, h => by simp [MP.noRef] at h
theorem VRs.bare (m' : List Addr) : ∀ {v : List MP.MV} {x : List V}, VRs G m F v x → MP.noRefs v = true → VRs G m' F v x
  | _, _, .nil, _ => .nil
  | _, _, .cons a t, h => by
    simp only [MP.noRefs, Bool.and_eq_true] at h
    exact .cons (VR.bare m' a h.1) (VRs.bare m' t h.2)
theorem FR.bare (m' : List Addr) : ∀ {v : List (Nat × MP.MV)} {x : List (Str × V)}, FR G m F v x → MP.noRefF v = true → FR G m' F v x
  | _, _, .nil, _ => .nil
  | _, _, .cons a t, h => by
    simp only [MP.noRefF, Bool.and_eq_true] at h
    exact .cons (VR.bare m' a h.1) (FR.bare m' t h.2)
end
theorem VRs.length : ∀ {v : List MP.MV} {x : List V}, VRs G m F v x → v.length = x.length
  | _, _, .nil => rfl
  | _, _, .cons _ t => congrArg Nat.succ t.length
theorem VRs.get : ∀ {vs : List MP.MV} {xs : List V} {i : Nat} {v : MP.MV}, VRs G m F vs xs → vs[i]? = some v → ∃ x, xs[i]? = some x ∧ VR G m F v x
  | _, _, _, _, .nil, e => by simp at e
  | _, _, 0, _, .cons h _, e => by
    simp at e
    subst e
    exact ⟨_, rfl, h⟩
  | _, _, i + 1, v, .cons _ t, e => by
    obtain ⟨x, h1, h2⟩ := VRs.get (i := i) (v := v) t (by simpa using e)
    exact ⟨x, by simpa using h1, h2⟩
theorem VRs.get2 : ∀ {vs : List MP.MV} {xs : List V} {i : Nat} {x : V}, VRs G m F vs xs → xs[i]? = some x → ∃ v, vs[i]? = some v ∧ VR G m F v x
  | _, _, _, _, .nil, e => by simp at e
  | _, _, 0, _, .cons h _, e => by
    simp at e
    subst e
    exact ⟨_, rfl, h⟩
  | _, _, i + 1, v, .cons _ t, e => by
    obtain ⟨x, h1, h2⟩ := VRs.get2 (i := i) (x := v) t (by simpa using e)
    exact ⟨x, by simpa using h1, h2⟩
theorem VRs.append : ∀ {vs ws : List MP.MV} {xs ys : List V}, VRs G m F vs xs → VRs G m F ws ys → VRs G m F (vs ++ ws) (xs ++ ys)
  | _, _, _, _, .nil, s => s
  | _, _, _, _, .cons h t, s => .cons h (VRs.append t s)
theorem VRs.take (n : Nat) : ∀ {vs : List MP.MV} {xs : List V}, VRs G m F vs xs → VRs G m F (vs.take n) (xs.take n) := by
  induction n with
  | zero => intro vs xs _; simp; exact .nil
  | succ n ih =>
    intro vs xs r
    cases r with
    | nil => simp; exact .nil
    | cons h t => simp; exact .cons h (ih t)
theorem VRs.drop (n : Nat) : ∀ {vs : List MP.MV} {xs : List V}, VRs G m F vs xs → VRs G m F (vs.drop n) (xs.drop n) := by
  induction n with
  | zero => intro vs xs h; simpa using h
  | succ n ih =>
    intro vs xs r
    cases r with
    | nil => simp; exact .nil
    | cons h t => simp; exact ih t
theorem VRs.set {v : MP.MV} {x : V} (h : VR G m F v x) : ∀ {vs : List MP.MV} {xs : List V} (i : Nat), VRs G m F vs xs → VRs G m F (vs.set i v) (xs.set i x)
  | _, _, _, .nil => .nil
  | _, _, 0, .cons _ t => .cons h t
  | _, _, i + 1, .cons a t => .cons a (VRs.set h i t)
theorem VRs.reverse : ∀ {vs : List MP.MV} {xs : List V}, VRs G m F vs xs → VRs G m F vs.reverse xs.reverse
  | _, _, .nil => .nil
  | _, _, .cons h t => by
    rw [List.reverse_cons, List.reverse_cons]
    exact (VRs.reverse t).append (.cons h .nil)
theorem VRs.cut (lo hi : Option Int) {vs : List MP.MV} {xs : List V} (r : VRs G m F vs xs) : VRs G m F (MP.cut vs lo hi) (cutV xs lo hi) := by
  unfold MP.cut cutV
  have e : ∀ (n d : Nat) (o : Option Int), MP.sIx n d o = HT.sIx n d o := fun n d o => by cases o <;> rfl
  rw [e, e, r.length]
  exact (r.drop _).take _
theorem VRs.rep (n : Nat) {vs : List MP.MV} {xs : List V} (r : VRs G m F vs xs) : VRs G m F (MP.rep n vs) (MP.rep n xs) := by
  induction n with
  | zero => exact .nil
  | succ n ih => exact r.append ih
theorem VRs.ints : ∀ {vs : List MP.MV} {xs : List V} {ns : List Int}, VRs G m F vs xs → MP.intsOf vs = some ns → xs = ns.map V.int
  | _, _, ns, .nil, e => by
    simp [MP.intsOf] at e
    subst e
    rfl
  | _, _, ns, .cons h t, e => by
    cases h <;> simp [MP.intsOf] at e
    obtain ⟨ks, e1, rfl⟩ := e
    rw [VRs.ints t e1]
    rfl
theorem VRs.bools : ∀ {vs : List MP.MV} {xs : List V} {ns : List Bool}, VRs G m F vs xs → MP.boolsOf vs = some ns → xs = ns.map V.bl
  | _, _, ns, .nil, e => by
    simp [MP.boolsOf] at e
    subst e
    rfl
  | _, _, ns, .cons h t, e => by
    cases h <;> simp [MP.boolsOf] at e
    obtain ⟨ks, e1, rfl⟩ := e
    rw [VRs.bools t e1]
    rfl
theorem VRs.ofInts : ∀ ns : List Int, VRs G m F (ns.map MP.MV.int) (ns.map V.int)
  | [] => .nil
  | n :: ns => .cons (.int n) (VRs.ofInts ns)
theorem FR.look : ∀ {fs : List (Nat × MP.MV)} {gs : List (Str × V)} {f : Nat} {v : MP.MV}, FR G m F fs gs → MP.lookF fs f = some v → ∃ x, gs.lookup (G.fn f) = some x ∧ VR G m F v x
  | _, _, _, _, .nil, e => by simp [MP.lookF] at e
  | _, _, f, v, .cons (f := g) (x := x) h t, e => by
    simp only [MP.lookF] at e
    by_cases k : g = f
    · subst k
      rw [if_pos rfl] at e
      cases e
      exact ⟨x, by rw [List.lookup_cons]; simp, h⟩
    · rw [if_neg k] at e
      obtain ⟨y, h1, h2⟩ := FR.look t e
      refine ⟨y, ?_, h2⟩
      rw [List.lookup_cons]
      have : (G.fn f == G.fn g) = false := by
        rw [beq_eq_false_iff_ne]
        intro z
        exact k (G.inj _ _ z).symm
      rw [this]
      exact h1
theorem FR.put {f : Nat} {v : MP.MV} {x : V} (hv : VR G m F v x) : ∀ {fs : List (Nat × MP.MV)} {gs : List (Str × V)}, FR G m F fs gs → FR G m F (MP.putF f v fs) (L2.putF (G.fn f) x gs)
  | _, _, .nil => .cons hv .nil
  | _, _, .cons (f := g) (x := y) h t => by
    unfold MP.putF L2.putF
    by_cases k : g = f
    · subst k
      simp
      exact .cons hv t
    · have e1 : ¬ (G.fn g = G.fn f) := fun z => k (G.inj _ _ z)
      have e2 : ¬ (G.fn f = G.fn g) := fun z => e1 z.symm
      simp [k, e1, e2]
      exact .cons h (FR.put hv t)
theorem FR.length : ∀ {fs : List (Nat × MP.MV)} {gs : List (Str × V)}, FR G m F fs gs → fs.length = gs.length
  | _, _, .nil => rfl
  | _, _, .cons _ t => congrArg Nat.succ t.length
end

/-! ### dicts -/
inductive KRel : MP.MV → Key → Prop
  | int (i : Int) : KRel (.int i) (.inl i)
  | str (s : List Nat) : KRel (.str s) (.inr ⟨s.toArray⟩)
inductive KRels : List MP.MV → List Key → Prop
  | nil : KRels [] []
  | cons {k : MP.MV} {q : Key} {ks : List MP.MV} {qs : List Key} (h : KRel k q) (t : KRels ks qs) : KRels (k :: ks) (q :: qs)
inductive KRelT : MP.MV → List Key → Prop
  | tup {ks : List MP.MV} {qs : List Key} (h : KRels ks qs) : KRelT (.tup ks) qs
inductive DR {κ : Type} (G : Gc) (m : List Addr) (F : Hp) (R : MP.MV → κ → Prop) : List (MP.MV × MP.MV) → List (κ × V) → Prop
  | nil : DR G m F R [] []
  | cons {k : MP.MV} {q : κ} {v : MP.MV} {x : V} {kvs : List (MP.MV × MP.MV)} {ks : List (κ × V)} (h : R k q) (hv : VR G m F v x) (t : DR G m F R kvs ks) : DR G m F R ((k, v) :: kvs) ((q, x) :: ks)
theorem arr_eq {x y : List Nat} : (⟨x.toArray⟩ : Str) = ⟨y.toArray⟩ ↔ x = y := by
  constructor
  · intro h
    have := congrArg (fun s => s.cps.toList) h
    simpa using this
  · rintro rfl
    rfl
theorem KRel.eq {a b : MP.MV} {p q : Key} (h : KRel a p) (k : KRel b q) : (MP.keyEq a b = true ↔ p = q) := by
  cases h <;> cases k <;> simp [MP.keyEq, arr_eq]
theorem KRel.eqM {a b : MP.MV} {p q : Key} (h : KRel a p) (k : KRel b q) : (MP.eqM a b = true ↔ p = q) := by
  cases h <;> cases k <;> simp [MP.eqM, arr_eq]
theorem KRels.eq : ∀ {a b : List MP.MV} {p q : List Key}, KRels a p → KRels b q → (MP.eqMs a b = true ↔ p = q)
  | _, _, _, _, .nil, .nil => by simp [MP.eqMs]
  | _, _, _, _, .nil, .cons _ _ => by simp [MP.eqMs]
  | _, _, _, _, .cons _ _, .nil => by simp [MP.eqMs]
  | _, _, _, _, .cons h t, .cons h' t' => by simp [MP.eqMs, h.eqM h', KRels.eq t t']
theorem KRelT.eq {a b : MP.MV} {p q : List Key} (h : KRelT a p) (k : KRelT b q) : (MP.keyEq a b = true ↔ p = q) := by
  cases h with
  | tup h =>
    cases k with
    | tup k => exact h.eq k
section
variable {κ : Type} [DecidableEq κ] {G : Gc} {m m' : List Addr} {F F' : Hp} {R : MP.MV → κ → Prop}
theorem DR.mono (p : Pre m m') (s : Same F F') : ∀ {a : List (MP.MV × MP.MV)} {b : List (κ × V)}, DR G m F R a b → DR G m' F' R a b
  | _, _, .nil => .nil
  | _, _, .cons h hv t => .cons h (hv.mono p s) (DR.mono p s t)
theorem DR.length : ∀ {a : List (MP.MV × MP.MV)} {b : List (κ × V)}, DR G m F R a b → a.length = b.length
  | _, _, .nil => rfl
  | _, _, .cons _ _ t => congrArg Nat.succ t.length
theorem DR.get (hR : ∀ {a b : MP.MV} {p q : κ}, R a p → R b q → (MP.keyEq a b = true ↔ p = q)) {k : MP.MV} {q : κ} (hk : R k q) : ∀ {a : List (MP.MV × MP.MV)} {b : List (κ × V)}, DR G m F R a b →
    match MP.getD a k with
    | some v => ∃ x, valV b q = some x ∧ VR G m F v x
    | none => valV b q = none
  | _, _, .nil => rfl
  | _, _, .cons (k := k') (q := q') (v := v) (x := x) h hv t => by
    have ih := DR.get hR hk t
    unfold MP.getD at ih ⊢
    by_cases e : MP.keyEq k' k = true
    · have e2 := (hR h hk).mp e
      simp only [List.find?_cons, e, Option.map_some]
      exact ⟨x, valV_pos e2, hv⟩
    · have e2 : ¬ q' = q := fun z => e ((hR h hk).mpr z)
      rw [valV_neg e2]
      simp only [List.find?_cons, show MP.keyEq k' k = false by simpa using e]
      exact ih
theorem DR.any (hR : ∀ {a b : MP.MV} {p q : κ}, R a p → R b q → (MP.keyEq a b = true ↔ p = q)) {k : MP.MV} {q : κ} (hk : R k q) : ∀ {a : List (MP.MV × MP.MV)} {b : List (κ × V)}, DR G m F R a b →
    (a.any fun p => MP.keyEq p.1 k) = (b.any fun kv => decide (kv.1 = q))
  | _, _, .nil => rfl
  | _, _, .cons (k := k') (q := q') h hv t => by
    rw [List.any_cons, List.any_cons, DR.any hR hk t]
    congr 1
    by_cases e : MP.keyEq k' k = true
    · have e2 := (hR h hk).mp e
      simp [e, e2]
    · have e2 : ¬ q' = q := fun z => e ((hR h hk).mpr z)
      simp [e, e2]
theorem DR.snoc {k : MP.MV} {q : κ} {v : MP.MV} {x : V} (hk : R k q) (hv : VR G m F v x) : ∀ {a : List (MP.MV × MP.MV)} {b : List (κ × V)}, DR G m F R a b → DR G m F R (a ++ [(k, v)]) (b ++ [(q, x)])
  | _, _, .nil => .cons hk hv .nil
  | _, _, .cons h w t => .cons h w (DR.snoc hk hv t)
theorem DR.map (hR : ∀ {a b : MP.MV} {p q : κ}, R a p → R b q → (MP.keyEq a b = true ↔ p = q)) {k : MP.MV} {q : κ} {v : MP.MV} {x : V} (hk : R k q) (hv : VR G m F v x) : ∀ {a : List (MP.MV × MP.MV)} {b : List (κ × V)}, DR G m F R a b →
    DR G m F R (a.map fun p => if MP.keyEq p.1 k = true then (p.1, v) else p) (b.map fun kv => if kv.1 = q then (kv.1, x) else kv)
  | _, _, .nil => .nil
  | _, _, .cons (k := k') (q := q') h w t => by
    rw [List.map_cons, List.map_cons]
    have ih := DR.map hR hk hv t
    by_cases e : MP.keyEq k' k = true
    · have e2 := (hR h hk).mp e
      rw [if_pos e, if_pos e2]
      exact .cons h hv ih
    · have e2 : ¬ q' = q := fun z => e ((hR h hk).mpr z)
      rw [if_neg e, if_neg e2]
      exact .cons h w ih
theorem DR.put (hR : ∀ {a b : MP.MV} {p q : κ}, R a p → R b q → (MP.keyEq a b = true ↔ p = q)) {k : MP.MV} {q : κ} {v : MP.MV} {x : V} (hk : R k q) (hv : VR G m F v x) {a : List (MP.MV × MP.MV)} {b : List (κ × V)} (d : DR G m F R a b) :
    DR G m F R (MP.putD a k v) (putK b q x) := by
  unfold MP.putD putK
  rw [d.any hR hk]
  split
  · exact d.map hR hk hv
  · exact d.snoc hk hv
end
/-- a value's key -/
theorem keyM_of {G : Gc} {m : List Addr} {F : Hp} {v : MP.MV} {x : V} (h : VR G m F v x) (k : MP.keyM v = true) : ∃ q, KRel v q ∧ x = kV q := by
  cases h <;> simp [MP.keyM] at k
  · exact ⟨_, .int _, rfl⟩
  · exact ⟨_, .str _, rfl⟩
theorem keysM_of {G : Gc} {m : List Addr} {F : Hp} : ∀ {vs : List MP.MV} {xs : List V}, VRs G m F vs xs → vs.all MP.keyM = true → ∃ qs, KRels vs qs ∧ xs = qs.map kV
  | _, _, .nil, _ => ⟨[], .nil, rfl⟩
  | _, _, .cons h t, k => by
    simp only [List.all_cons, Bool.and_eq_true] at k
    obtain ⟨q, h1, rfl⟩ := keyM_of h k.1
    obtain ⟨qs, h2, rfl⟩ := keysM_of t k.2
    exact ⟨q :: qs, .cons h1 h2, rfl⟩

/-! ### the world -/
/-- what stands at the address a for o -/
def OR (G : Gc) (m : List Addr) (F H : Hp) (a : Addr) : MP.O → Prop
  | .lst l => ∃ xs, H a = some (.lst xs) ∧ VRs G m F l xs
  | .dic t kvs => match t with
    | false => ∃ ks, H a = some (.dK ks) ∧ DR G m F KRel kvs ks
    | true => ∃ ks, H a = some (.dT ks) ∧ DR G m F KRelT kvs ks
  | .ins c fs => ∃ dx gs, H a = some (.ins (G.C c) dx gs) ∧ FR G m F fs gs
  | .dead => True
theorem OR.mono {G : Gc} {m m' : List Addr} {F F' H H' : Hp} {a : Addr} (p : Pre m m') (s : Same F F') (e : H' a = H a) : ∀ {o : MP.O}, OR G m F H a o → OR G m' F' H' a o
  | .lst l, ⟨xs, h, r⟩ => ⟨xs, by rw [e]; exact h, r.mono p s⟩
  | .dic false kvs, ⟨ks, h, r⟩ => ⟨ks, by rw [e]; exact h, r.mono p s⟩
  | .dic true kvs, ⟨ks, h, r⟩ => ⟨ks, by rw [e]; exact h, r.mono p s⟩
  | .ins c fs, ⟨dx, gs, h, r⟩ => ⟨dx, gs, by rw [e]; exact h, r.mono p s⟩
  | .dead, _ => trivial
theorem OR.there {G : Gc} {m : List Addr} {F H : Hp} {a : Addr} : ∀ {o : MP.O}, OR G m F H a o → o ≠ .dead → H a ≠ none
  | .lst l, ⟨xs, h, r⟩, _ => by rw [h]; simp
  | .dic false kvs, ⟨ks, h, r⟩, _ => by rw [h]; simp
  | .dic true kvs, ⟨ks, h, r⟩, _ => by rw [h]; simp
  | .ins c fs, ⟨dx, gs, h, r⟩, _ => by rw [h]; simp
  | .dead, _, z => absurd rfl z

/-! #### tables of code objects -/
def Gc.tabs (G : Gc) : List Addr := G.T.map (·.1)
def TabF (H F : Hp) (P : Addr) (q : Str) : Prop := ∃ ps : Array Value, H P = some (.tbl ps) ∧ TriplesOk ps.toList ∧ ∀ (pos : Pos) (cv : Value), codeAmong pos ps.toList = some cv → ∃ c, cv = .ref c ∧ F c = some (LamX.CodeO c q)
theorem TabF.mono {H H' F F' : Hp} {P : Addr} {q : Str} (t : TabF H F P q) (e : H' P = H P) (s : Same F F') : TabF H' F' P q := by
  obtain ⟨ps, h1, h2, h3⟩ := t
  refine ⟨ps, e.trans h1, h2, fun pos cv hc => ?_⟩
  obtain ⟨c, e1, e2⟩ := h3 pos cv hc
  exact ⟨c, e1, s _ _ e2⟩
def TabsOk (G : Gc) (H F : Hp) (m : List Addr) (U : Addr → Option MP.O) : Prop := ∀ p ∈ G.T, TabF H F p.1 p.2 ∧ F p.1 = none ∧ p.1 ∉ m ∧ U p.1 = none
section
variable {G : Gc} {H H' F F' : Hp} {m m' : List Addr} {U U' : Addr → Option MP.O} {p : Addr}
theorem TabsOk.at (t : TabsOk G H F m U) (h : p ∈ G.tabs) : H p ≠ none ∧ F p = none ∧ p ∉ m ∧ U p = none := by
  obtain ⟨q, hq, rfl⟩ := List.mem_map.mp h
  obtain ⟨⟨ps, h1, _⟩, h2, h3, h4⟩ := t q hq
  exact ⟨by rw [h1]; simp, h2, h3, h4⟩
theorem TabsOk.ne_none (t : TabsOk G H F m U) (n : H p = none) : p ∉ G.tabs := fun h => (t.at h).1 n
theorem TabsOk.ne_m (t : TabsOk G H F m U) (h : p ∈ m) : p ∉ G.tabs := fun z => (t.at z).2.2.1 h
theorem TabsOk.ne_U {u : MP.O} (t : TabsOk G H F m U) (h : U p = some u) : p ∉ G.tabs := fun z => by
  have := (t.at z).2.2.2
  rw [h] at this
  cases this
theorem TabsOk.step (t : TabsOk G H F m U) (hp : p ∉ G.tabs) (eH : ∀ a, a ≠ p → H' a = H a) (s : Same F F') (eF : ∀ a, a ≠ p → F a = none → F' a = none) (em : ∀ a, a ≠ p → a ∈ m' → a ∈ m) (eU : ∀ a, a ≠ p → U a = none → U' a = none) : TabsOk G H' F' m' U' := fun q hq => by
  obtain ⟨h1, h2, h3, h4⟩ := t q hq
  have n : q.1 ≠ p := fun z => hp (z ▸ List.mem_map.mpr ⟨q, hq, rfl⟩)
  exact ⟨h1.mono (eH _ n) s, eF _ n h2, fun z => h3 (em _ n z), eU _ n h4⟩
theorem TabsOk.up (t : TabsOk G H F m U) (up : ∀ a o, H a = some o → H' a = some o) : TabsOk G H' F m U := fun q hq => by
  obtain ⟨⟨ps, e, h1⟩, h2⟩ := t q hq
  exact ⟨⟨ps, up _ _ e, h1⟩, h2⟩
theorem TabsOk.to (t : TabsOk G H F m U) (hm : ∀ a ∈ G.tabs, a ∉ m') (hU : ∀ a ∈ G.tabs, U' a = none) : TabsOk G H F m' U' := fun q hq => by
  obtain ⟨h1, h2, _, _⟩ := t q hq
  have z : q.1 ∈ G.tabs := List.mem_map.mpr ⟨q, hq, rfl⟩
  exact ⟨h1, h2, hm _ z, hU _ z⟩
end
/-- where a def stands: what may be changed of the heap at its entry (A0), the map, the frozen part and the heap at its entry; its slots, what they own, the map, the frozen part, the small heap -/
structure Wd where
  A0 : List Addr
  m0 : List Addr
  F0 : Hp
  H0 : Hp
  rho : List MP.SV
  U : Addr → Option MP.O
  m : List Addr
  F : Hp
  h : List MP.O
abbrev Wd.at (w : Wd) (m : List Addr) (F : Hp) (h : List MP.O) : Wd := { w with m := m, F := F, h := h }
structure Slots (G : Gc) (w : Wd) (σ : L2.St) : Prop where
  len : w.rho.length = σ.length
  val : ∀ (i : Nat) (v : MP.MV), w.rho[i]? = some (.val v) → ∃ x, σ[i]? = some (some x) ∧ VR G w.m w.F v x
  own : ∀ (i : Nat) (o : MP.O), w.rho[i]? = some (.own o) → ∃ a, σ[i]? = some (some (.ref a)) ∧ w.U a = some o
  sep : ∀ (i j : Nat) (o o' : MP.O) (a : Addr), w.rho[i]? = some (.own o) → w.rho[j]? = some (.own o') → σ[i]? = some (some (.ref a)) → σ[j]? = some (some (.ref a)) → i = j
structure Good (G : Gc) (w : Wd) (σ : L2.St) (H : Hp) : Prop where
  fro : Same w.F H
  len : w.m.length = w.h.length
  nod : w.m.Nodup
  obj : ∀ (i : Nat) (o : MP.O) (a : Addr), w.h[i]? = some o → w.m[i]? = some a → o ≠ .dead → OR G w.m w.F H a o ∧ w.F a = none
  map : ∀ a ∈ w.m, H a ≠ none
  own : ∀ a o, w.U a = some o → OR G w.m w.F H a o ∧ o ≠ .dead ∧ w.F a = none ∧ a ∉ w.m
  slo : Slots G w σ
  o0 : Pre w.m0 w.m
  o1 : Same w.F0 w.F
  o2 : ∀ a o, a ∉ w.A0 → a ∉ G.tabs → w.H0 a = some o → H a = some o
  o3 : ∀ a ∈ w.m, a ∈ w.A0 ∨ w.H0 a = none
  o4 : ∀ a, w.U a ≠ none → a ∈ w.A0 ∨ w.H0 a = none
  o5 : ∀ a, w.F a ≠ none → w.F0 a ≠ none ∨ a ∈ w.A0 ∨ w.H0 a = none
  tab : TabsOk G H w.F w.m w.U
section
variable {G : Gc} {w : Wd} {σ : L2.St} {H : Hp}
theorem Good.noF (g : Good G w σ H) {p : Addr} (n : H p = none) : w.F p = none := by
  cases e : w.F p with
  | none => rfl
  | some o => rw [g.fro p o e] at n; cases n
theorem Good.noM (g : Good G w σ H) {p : Addr} (n : H p = none) : p ∉ w.m := fun h => g.map p h n
theorem Good.noU (g : Good G w σ H) {p : Addr} (n : H p = none) : w.U p = none := by
  cases e : w.U p with
  | none => rfl
  | some o => exact absurd n ((g.own p o e).1.there (g.own p o e).2.1)
theorem Good.noH0 (g : Good G w σ H) {p : Addr} (n : H p = none) : p ∈ w.A0 ∨ w.H0 p = none := by
  by_cases h : p ∈ w.A0
  · exact .inl h
  · refine .inr ?_
    cases e : w.H0 p with
    | none => rfl
    | some o => rw [g.o2 p o h (g.tab.ne_none n) e] at n; cases n
theorem same_upd {H : Hp} {p : Addr} {o : HO} (h : H p = none) : Same H (upd H p o) := fun b x e => by
  rw [upd_ne (ne_of_none e h)]
  exact e
/-- the slots go on -/
theorem Slots.mono {w' : Wd} {σ : L2.St} (s : Slots G w σ) (er : w'.rho = w.rho) (eU : w'.U = w.U) (p : Pre w.m w'.m) (f : Same w.F w'.F) : Slots G w' σ := by
  refine ⟨by rw [er]; exact s.len, fun i v e => ?_, fun i o e => ?_, fun i j o o' a e1 e2 => ?_⟩
  · rw [er] at e
    obtain ⟨x, h1, h2⟩ := s.val i v e
    exact ⟨x, h1, h2.mono p f⟩
  · rw [er] at e
    rw [eU]
    exact s.own i o e
  · rw [er] at e1 e2
    exact s.sep i j o o' a e1 e2
/-- a new object that stays as it is -/
theorem Good.new (g : Good G w σ H) {p : Addr} (o : HO) (n : H p = none) : Good G (w.at w.m (upd w.F p o) w.h) σ (upd H p o) := by
  have nF := g.noF n
  have sF : Same w.F (upd w.F p o) := same_upd nF
  have sH : Same H (upd H p o) := same_upd n
  have ne : ∀ {a : Addr}, H a ≠ none → a ≠ p := fun h z => h (z ▸ n)
  refine ⟨fun a u e => ?_, g.len, g.nod, fun i u a e1 e2 e3 => ?_, fun a h => ?_, fun a u e => ?_, g.slo.mono rfl rfl (Pre.refl _) sF, g.o0, g.o1.trans sF, fun a u h h2 e => sH _ _ (g.o2 a u h h2 e), g.o3, g.o4, fun a h => ?_, g.tab.step (g.tab.ne_none n) (fun a q => upd_ne q) sF (fun a q e => by show upd w.F p o a = none; rw [upd_ne q]; exact e) (fun a _ h => h) (fun a _ e => e)⟩
  · have e : upd w.F p o a = some u := e
    by_cases q : a = p
    · subst q
      rw [upd_same] at e ⊢
      exact e
    · have e' : w.F a = some u := by rw [← upd_ne (H := w.F) (o := o) q]; exact e
      rw [upd_ne q]
      exact g.fro a u e'
  · obtain ⟨h1, h2⟩ := g.obj i u a e1 e2 e3
    have q := ne (g.map a (List.mem_of_getElem? e2))
    exact ⟨h1.mono (Pre.refl _) sF (upd_ne q), by show upd w.F p o a = none; rw [upd_ne q]; exact h2⟩
  · rw [upd_ne (ne (g.map a h))]
    exact g.map a h
  · obtain ⟨h1, h2, h3, h4⟩ := g.own a u e
    have q := ne (h1.there h2)
    exact ⟨h1.mono (Pre.refl _) sF (upd_ne q), h2, by show upd w.F p o a = none; rw [upd_ne q]; exact h3, h4⟩
  · by_cases q : a = p
    · subst q
      exact .inr (g.noH0 n)
    · exact g.o5 a (by have h' : upd w.F p o a ≠ none := h; rw [upd_ne q] at h'; exact h')
/-- a new object of the small heap -/
theorem Good.newR (g : Good G w σ H) {p : Addr} {o : HO} {u : MP.O} (n : H p = none) (r : OR G (w.m ++ [p]) w.F (upd H p o) p u) : Good G (w.at (w.m ++ [p]) w.F (w.h ++ [u])) σ (upd H p o) := by
  have sH : Same H (upd H p o) := same_upd n
  have ne : ∀ {a : Addr}, H a ≠ none → a ≠ p := fun h z => h (z ▸ n)
  have pr : Pre w.m (w.m ++ [p]) := Pre.app _ _
  refine ⟨g.fro.trans sH, ?_, ?_, fun i v a e1 e2 e3 => ?_, fun a h => ?_, fun a v e => ?_, g.slo.mono rfl rfl pr (Same.refl _), g.o0.trans pr, g.o1, fun a v h h2 e => sH _ _ (g.o2 a v h h2 e), fun a h => ?_, g.o4, g.o5, g.tab.step (g.tab.ne_none n) (fun a q => upd_ne q) (Same.refl _) (fun a q e => e) (fun a q h => (List.mem_append.mp (show a ∈ w.m ++ [p] from h)).resolve_right fun z => q (by simpa using z)) (fun a _ e => e)⟩
  · show (w.m ++ [p]).length = (w.h ++ [u]).length
    rw [List.length_append, List.length_append, g.len]
    rfl
  · show (w.m ++ [p]).Nodup
    rw [List.nodup_append]
    refine ⟨g.nod, by simp, fun a ha b hb => ?_⟩
    have e : b = p := by simpa using hb
    subst e
    intro z
    subst z
    exact g.noM n ha
  · by_cases q : i < w.m.length
    · have e2' : w.m[i]? = some a := by
        have e2 : (w.m ++ [p])[i]? = some a := e2
        rw [List.getElem?_append_left q] at e2
        exact e2
      have e1' : w.h[i]? = some v := by
        have e1 : (w.h ++ [u])[i]? = some v := e1
        rw [List.getElem?_append_left (by rw [← g.len]; exact q)] at e1
        exact e1
      obtain ⟨h1, h2⟩ := g.obj i v a e1' e2' e3
      exact ⟨h1.mono pr (Same.refl _) (upd_ne (ne (g.map a (List.mem_of_getElem? e2')))), h2⟩
    · have e2 : (w.m ++ [p])[i]? = some a := e2
      have e1 : (w.h ++ [u])[i]? = some v := e1
      have hi : i = w.m.length := by
        have := (List.getElem?_eq_some_iff.mp e2).1
        rw [List.length_append] at this
        simp at this
        omega
      subst hi
      rw [List.getElem?_append_right (Nat.le_refl _)] at e2
      simp at e2
      rw [g.len, List.getElem?_append_right (Nat.le_refl _)] at e1
      simp at e1
      subst e2 e1
      exact ⟨r, g.noF n⟩
  · rcases List.mem_append.mp (show a ∈ w.m ++ [p] from h) with h | h
    · rw [upd_ne (ne (g.map a h))]
      exact g.map a h
    · have e : a = p := by simpa using h
      subst e
      rw [upd_same]
      simp
  · obtain ⟨h1, h2, h3, h4⟩ := g.own a v e
    have q := ne (h1.there h2)
    refine ⟨h1.mono pr (Same.refl _) (upd_ne q), h2, h3, fun z => ?_⟩
    rcases List.mem_append.mp (show a ∈ w.m ++ [p] from z) with z | z
    · exact h4 z
    · exact q (by simpa using z)
  · rcases List.mem_append.mp (show a ∈ w.m ++ [p] from h) with h | h
    · exact g.o3 a h
    · have e : a = p := by simpa using h
      subst e
      exact g.noH0 n
theorem nod_ix {m : List Addr} (h : m.Nodup) {i j : Nat} {a : Addr} (x : m[i]? = some a) (y : m[j]? = some a) : i = j := by
  obtain ⟨h1, e1⟩ := List.getElem?_eq_some_iff.mp x
  obtain ⟨h2, e2⟩ := List.getElem?_eq_some_iff.mp y
  exact (List.getElem_inj h).mp (e1.trans e2.symm)
/-- an object of the small heap is changed -/
theorem Good.setR (g : Good G w σ H) {i : Nat} {a : Addr} {o : HO} {u v : MP.O} (ea : w.m[i]? = some a) (eh : w.h[i]? = some v) (hv : v ≠ .dead) (r : OR G w.m w.F (upd H a o) a u) : Good G (w.at w.m w.F (w.h.set i u)) σ (upd H a o) := by
  obtain ⟨_, nF⟩ := g.obj i v a eh ea hv
  have hm := List.mem_of_getElem? ea
  refine ⟨fun b x e => ?_, ?_, g.nod, fun j x b e1 e2 e3 => ?_, fun b h => ?_, fun b x e => ?_, g.slo.mono rfl rfl (Pre.refl _) (Same.refl _), g.o0, g.o1, fun b x h hT e => ?_, g.o3, g.o4, g.o5, g.tab.step (g.tab.ne_m hm) (fun a q => upd_ne q) (Same.refl _) (fun a q e => e) (fun a _ h => h) (fun a _ e => e)⟩
  · have q : b ≠ a := fun z => by
      subst z
      rw [nF] at e
      cases e
    rw [upd_ne q]
    exact g.fro b x e
  · show w.m.length = (w.h.set i u).length
    rw [List.length_set]
    exact g.len
  · have e1 : (w.h.set i u)[j]? = some x := e1
    by_cases q : j = i
    · subst q
      rw [List.getElem?_set_self (List.getElem?_eq_some_iff.mp eh).1] at e1
      cases e1
      rw [ea] at e2
      cases e2
      exact ⟨r, nF⟩
    · rw [List.getElem?_set_ne (Ne.symm q)] at e1
      obtain ⟨h1, h2⟩ := g.obj j x b e1 e2 e3
      have qa : b ≠ a := fun z => by
        subst z
        exact q (nod_ix g.nod e2 ea)
      exact ⟨h1.mono (Pre.refl _) (Same.refl _) (upd_ne qa), h2⟩
  · by_cases q : b = a
    · subst q
      rw [upd_same]
      simp
    · rw [upd_ne q]
      exact g.map b h
  · obtain ⟨h1, h2, h3, h4⟩ := g.own b x e
    have q : b ≠ a := fun z => h4 (z ▸ hm)
    exact ⟨h1.mono (Pre.refl _) (Same.refl _) (upd_ne q), h2, h3, h4⟩
  · have q : b ≠ a := fun z => by
      subst z
      rcases g.o3 b hm with z | z
      · exact h z
      · rw [z] at e
        cases e
    rw [upd_ne q]
    exact g.o2 b x h hT e
end
end MPS
end

section
set_option Elab.async false
set_option linter.all false
set_option maxRecDepth 100000
set_option maxHeartbeats 1000000
namespace MPS
open PySem PySem.Spec PyProof.Rows L2
def isStar : Expr → Bool
  | .Starred _ _ => true
  | _ => false
def noStar (es : List Expr) : Bool := es.all fun e => !isStar e
/-! ### what is wanted behind an expression -/
def EPost {α β : Type} (G : Gc) (Rl : List Addr → Hp → α → β → Prop) (w : Wd) (σ : L2.St) (r : MP.R α) (Q : β → Hp → Prop) (W : MP.Exc → Wd → Hp → Prop) : Prop := match r with
  | .ok v h' => ∀ m' F' H' x, Pre w.m m' → Same w.F F' → Good G (w.at m' F' h') σ H' → Rl m' F' v x → Q x H'
  | .ex e h' => ∀ m' F' H', Pre w.m m' → Same w.F F' → Good G (w.at m' F' h') σ H' → W e (w.at m' F' h') H'
  | .bad => False
section
variable {α β α' β' : Type} {G : Gc} {Rl : List Addr → Hp → α → β → Prop} {Rl' : List Addr → Hp → α' → β' → Prop} {w : Wd} {σ : L2.St} {Q : β → Hp → Prop} {W : MP.Exc → Wd → Hp → Prop}
theorem EPost.imp {r : MP.R α} {Q' : β → Hp → Prop} (h : EPost G Rl w σ r Q W) (i : ∀ v h' m' F' H' x, r = .ok v h' → Pre w.m m' → Same w.F F' → Good G (w.at m' F' h') σ H' → Rl m' F' v x → Q x H' → Q' x H') : EPost G Rl w σ r Q' W := by
  cases r with
  | ok v h' => exact fun m' F' H' x p s g r => i v h' m' F' H' x rfl p s g r (h m' F' H' x p s g r)
  | ex e h' => exact h
  | bad => exact h
/-- one after another -/
theorem EPost.bind {r : MP.R α} {f : α → List MP.O → MP.R α'} {Q : β' → Hp → Prop} (h : EPost G Rl' w σ (r.bind f) Q W) :
    EPost G Rl w σ r (fun x H1 => ∃ v h1 m1 F1, Pre w.m m1 ∧ Same w.F F1 ∧ Good G (w.at m1 F1 h1) σ H1 ∧ Rl m1 F1 v x ∧ EPost G Rl' (w.at m1 F1 h1) σ (f v h1) Q W) W := by
  cases r with
  | ok v h1 =>
    intro m1 F1 H1 x p s g rl
    refine ⟨v, h1, m1, F1, p, s, g, rl, ?_⟩
    have h : EPost G Rl' w σ (f v h1) Q W := h
    cases e : f v h1 with
    | ok u h2 =>
      rw [e] at h
      exact fun m2 F2 H2 y p2 s2 g2 r2 => h m2 F2 H2 y (p.trans p2) (s.trans s2) g2 r2
    | ex z h2 =>
      rw [e] at h
      exact fun m2 F2 H2 p2 s2 g2 => h m2 F2 H2 (p.trans p2) (s.trans s2) g2
    | bad =>
      rw [e] at h
      exact h
  | ex e h' => exact h
  | bad => exact h
theorem EPost.of {o : Option α} {hp : List MP.O} (h : EPost G Rl w σ (MP.R.of o hp) Q W) : ∃ v, o = some v ∧ ∀ m' F' H' x, Pre w.m m' → Same w.F F' → Good G (w.at m' F' hp) σ H' → Rl m' F' v x → Q x H' := by
  cases o with
  | none => exact h.elim
  | some v => exact ⟨v, rfl, h⟩
end
/-- the wish about exceptions, at the slots -/
abbrev EW := MP.Exc → Wd → L2.St → Hp → Prop
/-- an expression's reading, a test's, an argument list's -/
def TEv (G : Gc) (W : EW) (f : List MP.SV → List MP.O → MP.R MP.MV) : TE := fun σ H Q => ∃ w, Good G w σ H ∧ EPost G (VR G) w σ (f w.rho w.h) Q (fun e w H => W e w σ H)
def BR : List Addr → Hp → MP.MV → Bool → Prop := fun _ _ v b => v = .bl b
def TTv (G : Gc) (W : EW) (f : List MP.SV → List MP.O → MP.R MP.MV) : TT := fun σ H Q => ∃ w, Good G w σ H ∧ EPost G (VR G) w σ (f w.rho w.h) (fun x H1 => ∃ b, x = .bl b ∧ Q b H1) (fun e w H => W e w σ H)
def TAv (G : Gc) (W : EW) (f : List MP.SV → List MP.O → MP.R (List MP.MV)) : TA := fun σ H Q => ∃ w, Good G w σ H ∧ EPost G (VRs G) w σ (f w.rho w.h) Q (fun e w H => W e w σ H)
section
variable {X : Cx} {e : Expr} {es : List Expr} {t t' : TE} {u u' : TT} {v v' : TA}
theorem pe_imp (h : PE X e t) (i : ∀ σ H Q, t' σ H Q → t σ H Q) : PE X e t' := ⟨fun p s σ H Q I q => h.run p s σ H Q I (i σ H Q q)⟩
theorem pt_imp (h : PT X e u) (i : ∀ σ H Q, u' σ H Q → u σ H Q) : PT X e u' := ⟨fun p s σ H Q I q => h.run p s σ H Q I (i σ H Q q)⟩
theorem pw_imp (h : PW X e u) (i : ∀ σ H Q, u' σ H Q → u σ H Q) : PW X e u' := ⟨fun wh p s σ H Q I q => h.run wh p s σ H Q I (i σ H Q q)⟩
theorem pa_imp (h : PA X es v) (i : ∀ σ H Q, v' σ H Q → v σ H Q) : PA X es v' := ⟨fun ps p s σ H Q I q => h.run ps p s σ H Q I (i σ H Q q)⟩
end

/-! ### looking at lists -/
section
variable {G : Gc} {w : Wd} {σ : L2.St} {H : Hp}
/-- what looks like a list may be read as one, here and now -/
theorem look_list (g : Good G w σ H) {v : MP.MV} {x : V} {l : List MP.MV} (r : VR G w.m w.F v x) (e : MP.lookL w.h v = some l) : ∃ a xs, x = .ref a ∧ H a = some (.lst xs) ∧ VRs G w.m w.F l xs := by
  cases r <;> simp [MP.lookL] at e
  case lst a vs xs e1 r =>
    subst e
    exact ⟨_, _, rfl, g.fro _ _ e1, r⟩
  case ref i a e1 =>
    split at e
    · rename_i l' e2
      cases e
      obtain ⟨⟨xs, h1, h2⟩, _⟩ := g.obj i _ _ e2 e1 (by simp)
      exact ⟨_, _, rfl, h1, h2⟩
    · cases e
theorem look_seq (g : Good G w σ H) {v : MP.MV} {x : V} {l : List MP.MV} (r : VR G w.m w.F v x) (e : MP.lookS w.h v = some l) : ∃ a xs, x = .ref a ∧ (SqL G.K H a xs ∨ SqT G.K H a xs) ∧ VRs G w.m w.F l xs := by
  cases v with
  | tup l' =>
    cases r with
    | tup e1 r =>
      simp [MP.lookS] at e
      subst e
      exact ⟨_, _, rfl, .inr (sqT_same g.fro e1), r⟩
  | _ =>
    first
      | (obtain ⟨a, xs, h1, h2, h3⟩ := look_list g r (by simpa [MP.lookS] using e)
         exact ⟨a, xs, h1, .inl (SqL.of h2), h3⟩)
/-- what is flat -/
theorem flat_of {v : MP.MV} {x : V} {m : List Addr} {F : Hp} (r : VR G m F v x) (h : MP.flatM v = true) : flatV x = true := by
  cases r <;> simp [MP.flatM] at h <;> rfl
theorem flats_of {m : List Addr} {F : Hp} : ∀ {vs : List MP.MV} {xs : List V}, VRs G m F vs xs → vs.all MP.flatM = true → xs.all flatV = true
  | _, _, .nil, _ => rfl
  | _, _, .cons h t, k => by
    simp only [List.all_cons, Bool.and_eq_true] at k ⊢
    exact ⟨flat_of h k.1, flats_of t k.2⟩
theorem str_beq (s s' : List Nat) : ((⟨s.toArray⟩ : Str) == ⟨s'.toArray⟩) = (s == s') := by
  by_cases q : s = s'
  · subst q
    simp
  · have q2 : ¬ ((⟨s.toArray⟩ : Str) = ⟨s'.toArray⟩) := fun z => q (arr_eq.mp z)
    rw [beq_eq_false_iff_ne.mpr q, beq_eq_false_iff_ne.mpr q2]
theorem eqV_of {m : List Addr} {F : Hp} {v v' : MP.MV} {x x' : V} (r : VR G m F v x) (r' : VR G m F v' x') (h : MP.flatM v = true) (h' : MP.flatM v' = true) : eqV x x' = MP.eqM v v' := by
  cases r <;> simp [MP.flatM] at h <;> cases r' <;> simp [MP.flatM] at h' <;> simp [eqV, MP.eqM, str_beq]
theorem inV_of {m : List Addr} {F : Hp} {v : MP.MV} {x : V} (r : VR G m F v x) (h : MP.flatM v = true) : ∀ {vs : List MP.MV} {xs : List V}, VRs G m F vs xs → vs.all MP.flatM = true → inV x xs = MP.inM v vs
  | _, _, .nil, _ => rfl
  | _, _, .cons a t, k => by
    simp only [List.all_cons, Bool.and_eq_true] at k
    have ih := inV_of r h t k.2
    unfold inV MP.inM at ih ⊢
    rw [List.any_cons, List.any_cons, ih, eqV_of a r k.1 h]
end
end MPS
end

section
set_option Elab.async false
set_option linter.all false
set_option maxRecDepth 100000
set_option maxHeartbeats 1000000
namespace MPS
open PySem PySem.Spec PyProof.Rows L2
/-! ### operators by values -/
def OpOk (G : Gc) (r : R2) (f : List MP.O → MP.MV → MP.MV → Option MP.MV) : Prop := ∀ (w : Wd) (σ : L2.St) (H : Hp) (v1 v2 : MP.MV) (x y : V) (u : MP.MV) (Q : VK), Good G w σ H → VR G w.m w.F v1 x → VR G w.m w.F v2 y → f w.h v1 v2 = some u →
  (∀ m' F' H' z, Pre w.m m' → Same w.F F' → Good G (w.at m' F' w.h) σ H' → VR G m' F' u z → Q z H') → r x y H Q
section
variable {X : Cx} {G : Gc} {W : EW} {a b : Expr} {fa fb : List MP.SV → List MP.O → MP.R MP.MV} {pos : Pos}
/-- a new object behind an operator -/
theorem new_lst {w : Wd} {σ : L2.St} {H : Hp} {Q : VK} (g : Good G w σ H) {l : List MP.MV} {xs : List V} (r : VRs G w.m w.F l xs)
    (q : ∀ m' F' H' z, Pre w.m m' → Same w.F F' → Good G (w.at m' F' w.h) σ H' → VR G m' F' (.lst l) z → Q z H') (p : Addr) (n : H p = none) : Q (.ref p) (upd H p (.lst xs)) := by
  have s : Same w.F (upd w.F p (.lst xs)) := MPS.same_upd (g.noF n)
  exact q _ _ _ _ (Pre.refl _) s (g.new (.lst xs) n) (.lst upd_same (r.mono (Pre.refl _) s))
theorem new_tup {w : Wd} {σ : L2.St} {H : Hp} {Q : VK} (g : Good G w σ H) {l : List MP.MV} {xs : List V} (r : VRs G w.m w.F l xs)
    (q : ∀ m' F' H' z, Pre w.m m' → Same w.F F' → Good G (w.at m' F' w.h) σ H' → VR G m' F' (.tup l) z → Q z H') (p : Addr) (n : H p = none) : Q (.ref p) (upd H p (.tup xs)) := by
  have s : Same w.F (upd w.F p (.tup xs)) := MPS.same_upd (g.noF n)
  exact q _ _ _ _ (Pre.refl _) s (g.new (.tup xs) n) (.tup (SqT.of upd_same) (r.mono (Pre.refl _) s))
theorem same_here {w : Wd} {σ : L2.St} {H : Hp} {Q : VK} (g : Good G w σ H) {v : MP.MV} {x : V} (r : VR G w.m w.F v x)
    (q : ∀ m' F' H' z, Pre w.m m' → Same w.F F' → Good G (w.at m' F' w.h) σ H' → VR G m' F' v z → Q z H') : Q x H := q w.m w.F H x (Pre.refl _) (Same.refl _) g r
/-- two values, then an operator -/
theorem two {r : R2} {f : List MP.O → MP.MV → MP.MV → Option MP.MV} (ok : OpOk G r f) (σ : L2.St) (H : Hp) (Q : VK)
    (h : TEv G W (fun rho h => (fa rho h).bind fun x h1 => (fb rho h1).bind fun y h2 => MP.R.of (f h2 x y) h2) σ H Q) : tOp r (TEv G W fa) (TEv G W fb) σ H Q := by
  obtain ⟨w, g, q⟩ := h
  refine ⟨w, g, (EPost.bind (Rl := VR G) q).imp fun v h1 m1 F1 H1 x e1 p1 s1 g1 r1 q1 => ?_⟩
  obtain ⟨v', h1', m1', F1', p1', s1', g1', r1', q2⟩ := q1
  refine ⟨_, g1', (EPost.bind (Rl := VR G) q2).imp fun u h2 m2 F2 H2 y e2 p2 s2 g2 r2 q3 => ?_⟩
  obtain ⟨u', h2', m2', F2', p2', s2', g2', r2', q4⟩ := q3
  obtain ⟨z, ez, q5⟩ := EPost.of q4
  exact ok _ σ H2 v' u' x y z Q g2' (r1'.mono p2' s2') r2' ez q5
theorem sound_bin {op : Operator} {r : R2} {f : List MP.O → MP.MV → MP.MV → Option MP.MV} (ho : OpR X (binaryOp op) r) (ok : OpOk G r f) (ha : PE X a (TEv G W fa)) (hb : PE X b (TEv G W fb)) :
    PE X (.BinOp a op b pos) (TEv G W (fun rho h => (fa rho h).bind fun x h1 => (fb rho h1).bind fun y h2 => MP.R.of (f h2 x y) h2)) := pe_imp (pe_op ho ha hb) fun σ H Q h => two ok σ H Q h
theorem sound_cmp {op : CmpOp} {r : R2} {f : List MP.O → MP.MV → MP.MV → Option MP.MV} (ho : OpR X (compareOp op) r) (ok : OpOk G r f) (ha : PE X a (TEv G W fa)) (hb : PE X b (TEv G W fb)) (hm : behindInMarks op b = false) :
    PE X (.Compare a [op] [b] pos) (TEv G W (fun rho h => (fa rho h).bind fun x h1 => (fb rho h1).bind fun y h2 => MP.R.of (f h2 x y) h2)) := pe_imp (pe_cmpR ho ha hb hm) fun σ H Q h => two ok σ H Q h
theorem OpOk.or {r r' : R2} {f f' : List MP.O → MP.MV → MP.MV → Option MP.MV} (h : OpOk G r f) (h' : OpOk G r' f') (g : List MP.O → MP.MV → MP.MV → Option MP.MV) (c : ∀ hp x y u, g hp x y = some u → f hp x y = some u ∨ f' hp x y = some u) :
    OpOk G (fun x y H Q => r x y H Q ∨ r' x y H Q) g := fun w σ H v1 v2 x y u Q gd r1 r2 e q => by
  rcases c _ _ _ _ e with e | e
  · exact .inl (h w σ H v1 v2 x y u Q gd r1 r2 e q)
  · exact .inr (h' w σ H v1 v2 x y u Q gd r1 r2 e q)
theorem lim_line {n : Nat} (h : n ≤ MP.LIM) : n ≤ sizeLine := by
  rw [sizeLine_eq]
  unfold MP.LIM at h
  omega
/-! #### + -/
def rAddAll (K : PySem.W.Frag) : R2 := fun x y H Q => ((rI0 fun i j => .int (i + j)) x y H Q ∨ (∃ i j, x = .str i ∧ y = .str j ∧ i.length + j.length ≤ sizeLine ∧ Q (.str (i ++ j)) H)) ∨ (rCatA K x y H Q ∨ rCat x y H Q)
theorem op_addAll : OpR X (binaryOp .Add) (rAddAll X.K) := (op_add.or op_add_str).or (op_catA.or op_cat)
theorem str_app (x y : List Nat) : (⟨x.toArray⟩ : Str) ++ ⟨y.toArray⟩ = ⟨(x ++ y).toArray⟩ := by
  show Str.append _ _ = _
  unfold Str.append
  simp
theorem cat_ok {w : Wd} {σ : L2.St} {H : Hp} {v1 v2 : MP.MV} {x y : V} {l k : List MP.MV} {Q : VK} (g : Good G w σ H) (r1 : VR G w.m w.F v1 x) (r2 : VR G w.m w.F v2 y) (e1 : MP.lookL w.h v1 = some l) (e2 : MP.lookL w.h v2 = some k) (hz : l.length + k.length ≤ MP.LIM)
    (q : ∀ m' F' H' z, Pre w.m m' → Same w.F F' → Good G (w.at m' F' w.h) σ H' → VR G m' F' (.lst (l ++ k)) z → Q z H') : rCat x y H Q := by
  obtain ⟨a, xs, rfl, h1, s1⟩ := look_list g r1 e1
  obtain ⟨b, ys, rfl, h2, s2⟩ := look_list g r2 e2
  exact ⟨a, b, xs, ys, rfl, rfl, h1, h2, by rw [← s1.length, ← s2.length]; exact lim_line hz, new_lst g (s1.append s2) q⟩
theorem add_ok : OpOk G (rAddAll G.K) (fun h x y => MP.binV h .add x y) := by
  intro w σ H v1 v2 x y u Q g r1 r2 e q
  have lists : ∀ l k, MP.lookL w.h v1 = some l → MP.lookL w.h v2 = some k → (if l.length + k.length ≤ MP.LIM then some (MP.MV.lst (l ++ k)) else none) = some u → rAddAll G.K x y H Q := by
    intro l k e1 e2 e3
    split at e3
    · rename_i hz
      cases e3
      exact .inr (.inr (cat_ok g r1 r2 e1 e2 hz q))
    · cases e3
  have gen : (match MP.lookL w.h v1, MP.lookL w.h v2 with
    | some l, some k => if l.length + k.length ≤ MP.LIM then some (MP.MV.lst (l ++ k)) else none
    | _, _ => none) = some u → rAddAll G.K x y H Q := by
    intro e
    split at e
    · rename_i l k e1 e2
      exact lists l k e1 e2 e
    · cases e
  cases r1 <;> first
    | exact gen e
    | (cases r2 <;> first
        | exact gen e
        | skip)
  case int.int i j =>
    simp only [MP.binV, Option.some.injEq] at e
    subst e
    exact .inl (.inl ⟨i, j, rfl, rfl, same_here g (.int _) q⟩)
  case str.str i j =>
    simp only [MP.binV] at e
    split at e
    · rename_i hz
      cases e
      refine .inl (.inr ⟨_, _, rfl, rfl, by simpa [Str.length] using lim_line hz, ?_⟩)
      rw [str_app]
      exact same_here g (.str _) q
    · cases e
  case tup.tup a vs xs e1 s1 b ws ys e2 s2 =>
    simp only [MP.binV] at e
    split at e
    · rename_i hz
      cases e
      refine .inr (.inl ⟨_, _, xs, ys, rfl, rfl, sqT_same g.fro e1, sqT_same g.fro e2, by rw [← s1.length, ← s2.length]; exact lim_line hz, fun z => ?_, fun z1 z => ?_, fun _ _ => new_tup g (s1.append s2) q⟩)
      · subst z
        cases s1
        exact same_here g (.tup e2 s2) q
      · subst z
        cases s2
        refine same_here g (.tup e1 ?_) q
        rw [List.append_nil]
        exact s1
    · cases e
/-! #### - * // % ** >> & -/
def rSubAll : R2 := rI0 fun i j => .int (i - j)
theorem sub_ok : OpOk G rSubAll (fun h x y => MP.binV h .sub x y) := by
  intro w σ H v1 v2 x y u Q g r1 r2 e q
  cases r1 <;> first | (simp [MP.binV] at e; done) | skip
  cases r2 <;> simp [MP.binV] at e
  subst e
  exact ⟨_, _, rfl, rfl, same_here g (.int _) q⟩
def rMulAll : R2 := fun x y H Q => rI CMul (fun i j => .int (i * j)) x y H Q ∨ rRep x y H Q
theorem op_mulAll : OpR X (binaryOp .Mult) rMulAll := op_mul.or op_rep
theorem rep_flat {α : Type} (n : Nat) (xs : List α) : (List.replicate n xs).flatten = MP.rep n xs := by
  induction n with
  | zero => rfl
  | succ n ih => rw [List.replicate_succ, List.flatten_cons, ih]; rfl
theorem mul_ok : OpOk G rMulAll (fun h x y => MP.binV h .mul x y) := by
  intro w σ H v1 v2 x y u Q g r1 r2 e q
  cases r1 <;> first | (simp [MP.binV] at e; done) | skip
  case int i =>
    cases r2 <;> simp [MP.binV] at e
    obtain ⟨h, rfl⟩ := e
    refine .inl ⟨_, _, rfl, rfl, ?_, same_here g (.int _) q⟩
    simpa [MP.mulOk, CMul] using h
  case lst a vs xs e1 s1 =>
    cases r2 <;> simp [MP.binV] at e
    rename_i k
    obtain ⟨⟨h1, h2, h3⟩, rfl⟩ := e
    refine .inr ⟨_, k, xs, rfl, rfl, g.fro _ _ e1, by omega, ?_, ?_, fun p n => ?_⟩
    · have : (MP.LIM : Int) = 1000000 := rfl
      omega
    · rw [← s1.length]
      exact lim_line h1
    · rw [rep_flat]
      exact new_lst g (s1.rep _) q p n
theorem fdv_ok : OpOk G (rI CDiv fun i j => .int (i / j)) (fun h x y => MP.binV h .fdv x y) := by
  intro w σ H v1 v2 x y u Q g r1 r2 e q
  cases r1 <;> first | (simp [MP.binV] at e; done) | skip
  cases r2 <;> simp [MP.binV] at e
  obtain ⟨h, rfl⟩ := e
  exact ⟨_, _, rfl, rfl, h, same_here g (.int _) q⟩
theorem mod_ok : OpOk G (rI (fun _ j => 0 < j) fun i j => .int (i % j)) (fun h x y => MP.binV h .mod x y) := by
  intro w σ H v1 v2 x y u Q g r1 r2 e q
  cases r1 <;> first | (simp [MP.binV] at e; done) | skip
  cases r2 <;> simp [MP.binV] at e
  obtain ⟨h, rfl⟩ := e
  exact ⟨_, _, rfl, rfl, h, same_here g (.int _) q⟩
theorem pow_ok : OpOk G (rI CPow fun i j => .int (i ^ j.toNat)) (fun h x y => MP.binV h .pow x y) := by
  intro w σ H v1 v2 x y u Q g r1 r2 e q
  cases r1 <;> first | (simp [MP.binV] at e; done) | skip
  cases r2 <;> simp only [MP.binV] at e <;> first | (cases e; done) | skip
  split at e
  · rename_i h
    cases e
    exact ⟨_, _, rfl, rfl, h, same_here g (.int _) q⟩
  · cases e
theorem shr_ok : OpOk G (rI (fun _ j => 0 ≤ j) fun i j => .int (i / 2 ^ j.toNat)) (fun h x y => MP.binV h .shr x y) := by
  intro w σ H v1 v2 x y u Q g r1 r2 e q
  cases r1 <;> first | (simp [MP.binV] at e; done) | skip
  cases r2 <;> simp [MP.binV] at e
  obtain ⟨h, rfl⟩ := e
  exact ⟨_, _, rfl, rfl, h, same_here g (.int _) q⟩
theorem and_one {i : Int} (h : 0 ≤ i) : Builtin.bitAnd i 1 = i % 2 := by
  obtain ⟨n, rfl⟩ := Int.eq_ofNat_of_zero_le h
  have e : Builtin.bitAnd (n : Int) 1 = (((n : Int).toNat &&& (1 : Int).toNat : Nat) : Int) := by
    unfold Builtin.bitAnd
    rw [decide_eq_true h, decide_eq_true (show (0 : Int) ≤ 1 by decide)]
  rw [e, Int.toNat_natCast]
  show ((n &&& 1 : Nat) : Int) = _
  rw [Nat.and_one_is_mod]
  omega
theorem band_ok : OpOk G (rI0 fun i j => .int (Builtin.bitAnd i j)) (fun h x y => MP.binV h .band x y) := by
  intro w σ H v1 v2 x y u Q g r1 r2 e q
  cases r1 <;> first | (simp [MP.binV] at e; done) | skip
  cases r2 <;> first | (simp [MP.binV] at e; done) | skip
  rename_i i j
  by_cases hj : j = 1
  · subst hj
    simp [MP.binV] at e
    obtain ⟨h, rfl⟩ := e
    refine ⟨_, _, rfl, rfl, ?_⟩
    show Q (V.int (Builtin.bitAnd i 1)) H
    rw [and_one h]
    exact same_here g (.int _) q
  · simp only [MP.binV] at e
    split at e
    all_goals first | (cases e; done) | (simp_all; done)
end
end MPS
end

section
set_option Elab.async false
set_option linter.all false
set_option maxRecDepth 100000
set_option maxHeartbeats 1000000
set_option autoImplicit false
namespace MPS
open PySem PySem.Spec PyProof.Rows L2
/-! ### data -/
mutual
inductive PDR : MP.MV → PyData → Prop
  | non : PDR .non .none
  | bl (b : Bool) : PDR (.bl b) (.bool b)
  | int (i : Int) : PDR (.int i) (.int i)
  | str (s : List Nat) : PDR (.str s) (.str ⟨s.toArray⟩)
  | lst {vs : List MP.MV} {ds : List PyData} (h : PDRs vs ds) : PDR (.lst vs) (.list ds)
  | tup {vs : List MP.MV} {ds : List PyData} (h : PDRs vs ds) : PDR (.tup vs) (.tuple ds)
inductive PDRs : List MP.MV → List PyData → Prop
  | nil : PDRs [] []
  | cons {v : MP.MV} {d : PyData} {vs : List MP.MV} {ds : List PyData} (h : PDR v d) (t : PDRs vs ds) : PDRs (v :: vs) (d :: ds)
end
mutual
theorem PDR.eqv : ∀ {u v : MP.MV} {d e : PyData}, PDR u d → PDR v e → PyData.eqv d e = MP.eqM u v
  | _, _, _, _, .non, k => by cases k <;> simp [PyData.eqv, MP.eqM]
  | _, _, _, _, .bl b, k => by cases k <;> simp [PyData.eqv, MP.eqM]
  | _, _, _, _, .int b, k => by cases k <;> simp [PyData.eqv, MP.eqM]
  | _, _, _, _, .str b, k => by cases k <;> simp [PyData.eqv, MP.eqM, str_beq]
  | _, _, _, _, .lst h, k => by
    cases k with
    | lst k => simp only [PyData.eqv, MP.eqM]; exact PDRs.eqv h k
    | _ => simp [PyData.eqv, MP.eqM]
  | _, _, _, _, .tup h, k => by
    cases k with
    | tup k => simp only [PyData.eqv, MP.eqM]; exact PDRs.eqv h k
    | _ => simp [PyData.eqv, MP.eqM]
theorem PDRs.eqv : ∀ {u v : List MP.MV} {d e : List PyData}, PDRs u d → PDRs v e → PyData.eqvAll d e = MP.eqMs u v
  | _, _, _, _, .nil, .nil => by simp [PyData.eqvAll, MP.eqMs]
  | _, _, _, _, .nil, .cons _ _ => by simp [PyData.eqvAll, MP.eqMs]
  | _, _, _, _, .cons _ _, .nil => by simp [PyData.eqvAll, MP.eqMs]
  | _, _, _, _, .cons h t, .cons h' t' => by
    simp only [PyData.eqvAll, MP.eqMs]
    rw [PDR.eqv h h', PDRs.eqv t t']
end
/-- at x stands the data of u, of so many levels -/
def DpB (K : PySem.W.Frag) (H : Hp) (x : V) (u : MP.MV) (n : Nat) : Prop := ∃ d, PDR u d ∧ Dp K H x d ∧ d.canLay0 = true ∧ d.depth ≤ n
def DpBs (K : PySem.W.Frag) (H : Hp) (xs : List V) (us : List MP.MV) (n : Nat) : Prop := ∃ ds, PDRs us ds ∧ DpAll K H xs ds ∧ PyData.canLayAll0 ds = true ∧ PyData.depthAll ds ≤ n
section
variable {G : Gc} {w : Wd} {σ : L2.St} {H : Hp} {gf : Nat → Option MP.MV} {D : Nat}
theorem DpB.mono {K : PySem.W.Frag} {x : V} {u : MP.MV} {n k : Nat} (h : DpB K H x u n) (l : n ≤ k) : DpB K H x u k := by
  obtain ⟨d, h1, h2, h3, h4⟩ := h
  exact ⟨d, h1, h2, h3, Nat.le_trans h4 l⟩
theorem snaps_dp {f : MP.MV → Option MP.MV} {n : Nat} (hf : ∀ {v : MP.MV} {x : V} {u : MP.MV}, VR G w.m w.F v x → f v = some u → DpB G.K H x u n) : ∀ {vs : List MP.MV} {xs : List V} {us : List MP.MV}, VRs G w.m w.F vs xs → MP.snapG.snapsG f vs = some us → DpBs G.K H xs us n
  | _, _, us, .nil, e => by
    simp [MP.snapG.snapsG] at e
    subst e
    exact ⟨[], .nil, .nil, by simp [PyData.canLayAll0], by simp [PyData.depthAll]⟩
  | _, _, us, .cons (v := v) (vs := vs) h t, e => by
    simp only [MP.snapG.snapsG] at e
    split at e
    · rename_i a as e1 e2
      cases e
      obtain ⟨d, p1, p2, p3, p4⟩ := hf h e1
      obtain ⟨ds, q1, q2, q3, q4⟩ := snaps_dp hf t e2
      refine ⟨d :: ds, .cons p1 q1, .cons p2 q2, ?_, ?_⟩
      · simp only [PyData.canLayAll0, p3, q3, Bool.and_self]
      · simp only [PyData.depthAll]
        omega
    · cases e
theorem strOk_of {s : List Nat} (h : s.all (fun c => decide (c < 1114112)) = true) : PyData.strOk ⟨s.toArray⟩ = true := by
  unfold PyData.strOk
  simpa using h
theorem DpBs.lst {K : PySem.W.Frag} {xs : List V} {us : List MP.MV} {n : Nat} {a : Addr} (h : DpBs K H xs us n) (e : H a = some (.lst xs)) : DpB K H (.ref a) (.lst us) (n + 1) := by
  obtain ⟨ds, q1, q2, q3, q4⟩ := h
  refine ⟨.list ds, .lst q1, .lst (SqL.of e) q2, by simpa only [PyData.canLay0] using q3, ?_⟩
  simp only [PyData.depth]
  omega
theorem DpBs.tup {K : PySem.W.Frag} {xs : List V} {us : List MP.MV} {n : Nat} {a : Addr} (h : DpBs K H xs us n) (e : SqT K H a xs) : DpB K H (.ref a) (.tup us) (n + 1) := by
  obtain ⟨ds, q1, q2, q3, q4⟩ := h
  refine ⟨.tuple ds, .tup q1, .tup e q2, by simpa only [PyData.canLay0] using q3, ?_⟩
  simp only [PyData.depth]
  omega
theorem snapG_dp (g : Good G w σ H) (hg : ∀ a u adr, gf a = some u → w.m[a]? = some adr → DpB G.K H (.ref adr) u D) (n : Nat) : ∀ {v : MP.MV} {x : V} {u : MP.MV}, VR G w.m w.F v x → MP.snapG gf n v = some u → DpB G.K H x u (n + D) := by
  induction n with
  | zero =>
    intro v x u r e
    cases r <;> simp only [MP.snapG] at e <;> first | (cases e; done) | skip
    case non => cases e; exact ⟨_, .non, .non, by simp [PyData.canLay0], by simp [PyData.depth]⟩
    case bl b => cases e; exact ⟨_, .bl b, .bl b, by simp [PyData.canLay0], by simp [PyData.depth]⟩
    case int b => cases e; exact ⟨_, .int b, .int b, by simp [PyData.canLay0], by simp [PyData.depth]⟩
    case str s =>
      split at e
      · rename_i hs
        cases e
        exact ⟨_, .str s, .str _, by simpa only [PyData.canLay0] using strOk_of hs, by simp [PyData.depth]⟩
      · cases e
    case ref i a ea => exact (hg _ _ _ e ea).mono (by omega)
  | succ n ih =>
    intro v x u r e
    cases r <;> simp only [MP.snapG] at e <;> first | (cases e; done) | skip
    case non => cases e; exact ⟨_, .non, .non, by simp [PyData.canLay0], by simp [PyData.depth]⟩
    case bl b => cases e; exact ⟨_, .bl b, .bl b, by simp [PyData.canLay0], by simp [PyData.depth]⟩
    case int b => cases e; exact ⟨_, .int b, .int b, by simp [PyData.canLay0], by simp [PyData.depth]⟩
    case str s =>
      split at e
      · rename_i hs
        cases e
        exact ⟨_, .str s, .str _, by simpa only [PyData.canLay0] using strOk_of hs, by simp [PyData.depth]⟩
      · cases e
    case ref i a ea => exact (hg _ _ _ e ea).mono (by omega)
    case tup a vs xs ea rs =>
      obtain ⟨us, e1, rfl⟩ := Option.map_eq_some_iff.mp e
      exact ((snaps_dp ih rs e1).tup (sqT_same g.fro ea)).mono (by omega)
    case lst a vs xs ea rs =>
      obtain ⟨us, e1, rfl⟩ := Option.map_eq_some_iff.mp e
      exact ((snaps_dp ih rs e1).lst (g.fro _ _ ea)).mono (by omega)
theorem snapR_dp (g : Good G w σ H) (k : Nat) : ∀ a u adr, MP.snapR w.h k a = some u → w.m[a]? = some adr → DpB G.K H (.ref adr) u (7 * k) := by
  induction k with
  | zero => intro a u adr e; simp [MP.snapR] at e
  | succ k ih =>
    intro a u adr e ea
    simp only [MP.snapR] at e
    split at e
    · rename_i l el
      obtain ⟨us, e1, rfl⟩ := Option.map_eq_some_iff.mp e
      obtain ⟨⟨xs, h1, h2⟩, _⟩ := g.obj _ _ _ el ea (by simp)
      exact ((snaps_dp (snapG_dp g ih 6) h2 e1).lst h1).mono (by omega)
    · cases e
theorem snap_dp (g : Good G w σ H) {v : MP.MV} {x : V} {u : MP.MV} (r : VR G w.m w.F v x) (e : MP.snap w.h v = some u) : ∃ d, PDR u d ∧ Dp G.K H x d ∧ SeqAt.shaped d = true := by
  obtain ⟨d, h1, h2, h3, h4⟩ := snapG_dp g (snapR_dp g 3) 6 r e
  refine ⟨d, h1, h2, ?_⟩
  unfold SeqAt.shaped
  rw [h3, decide_eq_true (by omega)]
  rfl
theorem eqD_ok : OpOk G (rEqD G.K) (fun h x y => (MP.cmpV h .eq x y).map .bl) := by
  intro w σ H v1 v2 x y u Q g r1 r2 e q
  cases e1 : MP.snap w.h v1 with
  | none => simp [MP.cmpV, e1] at e
  | some a =>
    cases e2 : MP.snap w.h v2 with
    | none => simp [MP.cmpV, e1, e2] at e
    | some b =>
      simp [MP.cmpV, e1, e2] at e
      subst e
      obtain ⟨d, p1, p2, p3⟩ := snap_dp g r1 e1
      obtain ⟨d', q1, q2, q3⟩ := snap_dp g r2 e2
      refine ⟨d, d', p2, q2, p3, q3, ?_⟩
      rw [p1.eqv q1]
      exact same_here g (.bl _) q
theorem neD_ok : OpOk G (rNeD G.K) (fun h x y => (MP.cmpV h .ne x y).map .bl) := by
  intro w σ H v1 v2 x y u Q g r1 r2 e q
  cases e1 : MP.snap w.h v1 with
  | none => simp [MP.cmpV, e1] at e
  | some a =>
    cases e2 : MP.snap w.h v2 with
    | none => simp [MP.cmpV, e1, e2] at e
    | some b =>
      simp [MP.cmpV, e1, e2] at e
      subst e
      obtain ⟨d, p1, p2, p3⟩ := snap_dp g r1 e1
      obtain ⟨d', q1, q2, q3⟩ := snap_dp g r2 e2
      refine ⟨d, d', p2, q2, p3, q3, ?_⟩
      rw [p1.eqv q1]
      exact same_here g (.bl _) q
theorem lt_ok : OpOk G (rI0 fun i j => .bl (decide (i < j))) (fun h x y => (MP.cmpV h .lt x y).map .bl) := by
  intro w σ H v1 v2 x y u Q g r1 r2 e q
  cases r1 <;> first | (simp [MP.cmpV] at e; done) | skip
  cases r2 <;> simp [MP.cmpV] at e
  subst e
  exact ⟨_, _, rfl, rfl, same_here g (.bl _) q⟩
theorem le_ok : OpOk G (rI0 fun i j => .bl (decide (i ≤ j))) (fun h x y => (MP.cmpV h .le x y).map .bl) := by
  intro w σ H v1 v2 x y u Q g r1 r2 e q
  cases r1 <;> first | (simp [MP.cmpV] at e; done) | skip
  cases r2 <;> simp [MP.cmpV] at e
  subst e
  exact ⟨_, _, rfl, rfl, same_here g (.bl _) q⟩
theorem gt_ok : OpOk G (rI0 fun i j => .bl (decide (j < i))) (fun h x y => (MP.cmpV h .gt x y).map .bl) := by
  intro w σ H v1 v2 x y u Q g r1 r2 e q
  cases r1 <;> first | (simp [MP.cmpV] at e; done) | skip
  cases r2 <;> simp [MP.cmpV] at e
  subst e
  exact ⟨_, _, rfl, rfl, same_here g (.bl _) q⟩
theorem ge_ok : OpOk G (rI0 fun i j => .bl (decide (j ≤ i))) (fun h x y => (MP.cmpV h .ge x y).map .bl) := by
  intro w σ H v1 v2 x y u Q g r1 r2 e q
  cases r1 <;> first | (simp [MP.cmpV] at e; done) | skip
  cases r2 <;> simp [MP.cmpV] at e
  subst e
  exact ⟨_, _, rfl, rfl, same_here g (.bl _) q⟩
def rInA (K : PySem.W.Frag) : R2 := fun x y H Q => rIn K false x y H Q ∨ (∃ (c : Nat) (z : Str), x = .str ⟨#[c]⟩ ∧ y = .str z ∧ Q (.bl (decide (c ∈ z.cps.toList))) H)
def rNotInA (K : PySem.W.Frag) : R2 := fun x y H Q => rIn K true x y H Q ∨ (∃ (c : Nat) (z : Str), x = .str ⟨#[c]⟩ ∧ y = .str z ∧ Q (.bl (!decide (c ∈ z.cps.toList))) H)
theorem op_inA {X : Cx} : OpR X (compareOp .In) (rInA X.K) := op_in_seq.or op_in_sign
theorem op_notinA {X : Cx} : OpR X (compareOp .NotIn) (rNotInA X.K) := op_notIn_seq.or op_notIn_sign
theorem in_cases {v1 v2 : MP.MV} {x y : V} {b : Bool} (g : Good G w σ H) (r1 : VR G w.m w.F v1 x) (r2 : VR G w.m w.F v2 y) (e : MP.inV w.h v1 v2 = some b) :
    (∃ p xs, y = .ref p ∧ (SqL G.K H p xs ∨ SqT G.K H p xs) ∧ flatV x = true ∧ xs.all flatV = true ∧ inV x xs = b) ∨ (∃ (c : Nat) (z : Str), x = .str ⟨#[c]⟩ ∧ y = .str z ∧ decide (c ∈ z.cps.toList) = b) := by
  have gen : MP.inSeq w.h v1 v2 = some b → (∃ p xs, y = .ref p ∧ (SqL G.K H p xs ∨ SqT G.K H p xs) ∧ flatV x = true ∧ xs.all flatV = true ∧ inV x xs = b) := fun e => by
    unfold MP.inSeq at e
    split at e
    · rename_i l e1
      split at e
      · rename_i hf
        cases e
        simp only [Bool.and_eq_true] at hf
        obtain ⟨a, xs, rfl, hs, rs⟩ := look_seq g r2 e1
        exact ⟨a, xs, rfl, hs, flat_of r1 hf.1, flats_of rs hf.2, inV_of r1 hf.1 rs hf.2⟩
      · cases e
    · cases e
  cases r2 <;> first | (exact .inl (gen e)) | skip
  rename_i z
  refine .inr ?_
  have e : MP.inSign v1 z = some b := e
  unfold MP.inSign at e
  split at e
  · cases e
    cases r1
    exact ⟨_, _, rfl, rfl, rfl⟩
  · cases e
theorem in_ok : OpOk G (rInA G.K) (fun h x y => (MP.cmpV h .isin x y).map .bl) := by
  intro w σ H v1 v2 x y u Q g r1 r2 e q
  obtain ⟨b, e1, rfl⟩ := Option.map_eq_some_iff.mp e
  rcases in_cases g r1 r2 (by simpa [MP.cmpV] using e1) with ⟨p, xs, rfl, h1, h2, h3, h4⟩ | ⟨c, z, rfl, rfl, h4⟩
  · refine .inl ⟨p, xs, rfl, h1, h2, h3, ?_⟩
    rw [if_neg Bool.false_ne_true, h4]
    exact same_here g (.bl _) q
  · refine .inr ⟨c, z, rfl, rfl, ?_⟩
    rw [h4]
    exact same_here g (.bl _) q
theorem notin_ok : OpOk G (rNotInA G.K) (fun h x y => (MP.cmpV h .notin x y).map .bl) := by
  intro w σ H v1 v2 x y u Q g r1 r2 e q
  obtain ⟨b, e1, rfl⟩ := Option.map_eq_some_iff.mp e
  obtain ⟨b, e2, rfl⟩ := Option.map_eq_some_iff.mp (show (MP.inV w.h v1 v2).map not = some b by simpa [MP.cmpV] using e1)
  rcases in_cases g r1 r2 e2 with ⟨p, xs, rfl, h1, h2, h3, h4⟩ | ⟨c, z, rfl, rfl, h4⟩
  · refine .inl ⟨p, xs, rfl, h1, h2, h3, ?_⟩
    rw [if_pos rfl, h4]
    exact same_here g (.bl _) q
  · refine .inr ⟨c, z, rfl, rfl, ?_⟩
    rw [h4]
    exact same_here g (.bl _) q
def rIsAll : R2 := fun x y H Q => (y = .non ∧ Q (.bl (decide (x = .non))) H) ∨ rIsB x y H Q
def rNotAll : R2 := fun x y H Q => (y = .non ∧ Q (.bl (!decide (x = .non))) H) ∨ rNotB x y H Q
theorem is_ok : OpOk G rIsAll (fun h x y => (MP.cmpV h .is x y).map .bl) := by
  intro w σ H v1 v2 x y u Q g r1 r2 e q
  cases r2 with
  | non =>
    show (V.non = .non ∧ Q (.bl (decide (x = .non))) H) ∨ rIsB x V.non H Q
    refine Or.inl ⟨rfl, ?_⟩
    cases r1 <;> simp [MP.cmpV] at e <;> subst e <;> exact same_here g (.bl _) q
  | bl b =>
    cases r1 <;> simp [MP.cmpV] at e
    subst e
    show (_ = V.non ∧ _) ∨ rIsB _ _ H Q
    exact Or.inr ⟨_, _, rfl, rfl, same_here g (.bl _) q⟩
  | _ => cases r1 <;> simp [MP.cmpV] at e
theorem isnot_ok : OpOk G rNotAll (fun h x y => (MP.cmpV h .isnot x y).map .bl) := by
  intro w σ H v1 v2 x y u Q g r1 r2 e q
  cases r2 with
  | non =>
    show (V.non = .non ∧ Q (.bl (!decide (x = .non))) H) ∨ rNotB x V.non H Q
    refine Or.inl ⟨rfl, ?_⟩
    cases r1 <;> simp [MP.cmpV] at e <;> subst e <;> exact same_here g (.bl _) q
  | bl b =>
    cases r1 <;> simp [MP.cmpV] at e
    subst e
    show (_ = V.non ∧ _) ∨ rNotB _ _ H Q
    exact Or.inr ⟨_, _, rfl, rfl, same_here g (.bl _) q⟩
  | _ => cases r1 <;> simp [MP.cmpV] at e
end
end MPS
end

section
set_option Elab.async false
set_option linter.all false
set_option maxRecDepth 100000
set_option maxHeartbeats 1000000
set_option autoImplicit false
namespace MPS
open PySem PySem.Spec PyProof.Rows L2
abbrev Ef := List MP.SV → List MP.O → MP.R MP.MV
abbrev Efs := List MP.SV → List MP.O → MP.R (List MP.MV)
section
variable {X : Cx} {G : Gc} {W : EW} {a b c e : Expr} {es : List Expr} {fa fb fc : Ef} {fs : Efs} {pos : Pos}
/-- from here on -/
theorem EPost.here {α β : Type} {Rl : List Addr → Hp → α → β → Prop} {w : Wd} {σ : L2.St} {H : Hp} {v : α} {x : β} {Q : β → Hp → Prop} {W : MP.Exc → Wd → Hp → Prop} (h : EPost G Rl w σ (.ok v w.h) Q W) (g : Good G w σ H) (r : Rl w.m w.F v x) : Q x H := h w.m w.F H x (Pre.refl _) (Same.refl _) g r
theorem EPost.later {α β : Type} {Rl : List Addr → Hp → α → β → Prop} {w : Wd} {σ : L2.St} {r : MP.R α} {Q : β → Hp → Prop} {W : MP.Exc → Wd → Hp → Prop} {m : List Addr} {F : Hp} {hp : List MP.O} (q : EPost G Rl w σ r Q W) (p : Pre w.m m) (s : Same w.F F) : EPost G Rl (w.at m F hp) σ r Q W := by
  cases r with
  | ok v hh => exact fun m' F' H' x p' s' => q m' F' H' x (p.trans p') (s.trans s')
  | ex v hh => exact fun m' F' H' p' s' => q m' F' H' (p.trans p') (s.trans s')
  | bad => exact q
theorem sound_var {i : Nat} {x : Str} (hN : X.N[i]? = some x) (hv : Vis X.env.scope x) (hd : (x == ("__debug__" : Str)) = false) (hcd : (x == ("__classdict__" : Str)) = false) : PE X (.Name x pos) (TEv G W (fun rho h => MP.R.of (MP.getV rho i) h)) := by
  refine pe_imp (pe_var hN hv hd hcd) fun σ H Q h => ?_
  obtain ⟨w, g, q⟩ := h
  obtain ⟨v, ev, q⟩ := EPost.of q
  have e : w.rho[i]? = some (.val v) := by
    unfold MP.getV at ev
    split at ev
    · rename_i u e
      cases ev
      exact e
    · cases ev
  obtain ⟨x, h1, h2⟩ := g.slo.val i v e
  exact ⟨x, h1, q _ _ _ _ (Pre.refl _) (Same.refl _) g h2⟩
theorem sound_tC {v : MP.MV} {x : V} (h : PE X e (tC x)) (r : ∀ m F, VR G m F v x) : PE X e (TEv G W (fun _ h => .ok v h)) := by
  refine pe_imp h fun σ H Q h => ?_
  obtain ⟨w, g, q⟩ := h
  exact EPost.here q g (r _ _)
/-- a comparison's chain -/
theorem chn_core {r r' : R2} {f f' : List MP.O → MP.MV → MP.MV → Option Bool} (ok : OpOk G r (fun h x y => (f h x y).map .bl)) (ok' : OpOk G r' (fun h x y => (f' h x y).map .bl)) (σ : L2.St) (H : Hp) (Q : VK)
    (h : TEv G W (fun rho h => (fa rho h).bind fun x h1 => (fb rho h1).bind fun y h2 => (MP.R.of (f h2 x y) h2).bind fun k h3 => match k with
      | true => (fc rho h3).bind fun z h4 => MP.R.of ((f' h4 y z).map .bl) h4
      | false => .ok (.bl false) h3) σ H Q) : tChain r r' (TEv G W fa) (TEv G W fb) (TEv G W fc) σ H Q := by
  obtain ⟨w, g, q⟩ := h
  refine ⟨w, g, (EPost.bind (Rl := VR G) q).imp fun v h1 m1 F1 H1 x e1 p1 s1 g1 r1 q1 => ?_⟩
  obtain ⟨v', h1', m1', F1', p1', s1', g1', r1', q2⟩ := q1
  refine ⟨_, g1', (EPost.bind (Rl := VR G) q2).imp fun u h2 m2 F2 H2 y e2 p2 s2 g2 r2 q3 => ?_⟩
  obtain ⟨u', h2', m2', F2', p2', s2', g2', r2', q4⟩ := q3
  obtain ⟨k, ek, q5⟩ : ∃ k, f h2' v' u' = some k ∧ EPost G (VR G) ((w.at m1' F1' h1').at m2' F2' h2') σ (match k with
      | true => (fc w.rho h2').bind fun z h4 => MP.R.of ((f' h4 u' z).map .bl) h4
      | false => .ok (.bl false) h2') Q (fun e w H => W e w σ H) := by
    cases ek : f h2' v' u' with
    | none =>
      rw [ek] at q4
      exact q4.elim
    | some k =>
      rw [ek] at q4
      exact ⟨k, rfl, q4⟩
  refine ok _ σ H2 v' u' x y (.bl k) _ g2' (r1'.mono p2' s2') r2' (by show Option.map MP.MV.bl (f h2' v' u') = _; rw [ek]; rfl) fun m3 F3 H3 z p3 s3 g3 r3 => ?_
  cases r3
  refine ⟨k, rfl, ?_⟩
  cases k with
  | false => exact iteF (q5 m3 F3 H3 _ p3 s3 g3 (.bl false))
  | true =>
    refine iteT ?_
    have q6 : EPost G (VR G) (((w.at m1' F1' h1').at m2' F2' h2').at m3 F3 h2') σ ((fc w.rho h2').bind fun z h4 => MP.R.of ((f' h4 u' z).map .bl) h4) Q (fun e w H => W e w σ H) := EPost.later q5 p3 s3
    refine ⟨_, g3, (EPost.bind (Rl := VR G) q6).imp fun t h4 m4 F4 H4 zz e4 p4 s4 g4 r4 q7 => ?_⟩
    obtain ⟨t', h4', m4', F4', p4', s4', g4', r4', q8⟩ := q7
    obtain ⟨z, ez, q9⟩ := EPost.of q8
    exact ok' _ σ H4 u' t' y zz z Q g4' ((r2'.mono p3 s3).mono p4' s4') r4' ez q9
theorem sound_chn {r r' : R2} {f f' : List MP.O → MP.MV → MP.MV → Option Bool} (ok : OpOk G r (fun h x y => (f h x y).map .bl)) (ok' : OpOk G r' (fun h x y => (f' h x y).map .bl))
    (h : PE X e (tChain r r' (TEv G W fa) (TEv G W fb) (TEv G W fc))) : PE X e (TEv G W (fun rho h => (fa rho h).bind fun x h1 => (fb rho h1).bind fun y h2 => (MP.R.of (f h2 x y) h2).bind fun k h3 => match k with
      | true => (fc rho h3).bind fun z h4 => MP.R.of ((f' h4 y z).map .bl) h4
      | false => .ok (.bl false) h3)) := pe_imp h fun σ H Q h => chn_core ok ok' σ H Q h
theorem t_chn {r r' : R2} {f f' : List MP.O → MP.MV → MP.MV → Option Bool} (ok : OpOk G r (fun h x y => (f h x y).map .bl)) (ok' : OpOk G r' (fun h x y => (f' h x y).map .bl))
    (h : PT X e (tTest (tChain r r' (TEv G W fa) (TEv G W fb) (TEv G W fc)))) : PT X e (TTv G W (fun rho h => (fa rho h).bind fun x h1 => (fb rho h1).bind fun y h2 => (MP.R.of (f h2 x y) h2).bind fun k h3 => match k with
      | true => (fc rho h3).bind fun z h4 => MP.R.of ((f' h4 y z).map .bl) h4
      | false => .ok (.bl false) h3)) := pt_imp h fun σ H Q h => chn_core ok ok' σ H _ h
/-- not, -, if else as values -/
theorem sound_not (ha : PE X a (TEv G W fa)) : PE X (.UnaryOp .Not a pos) (TEv G W (fun rho h => (fa rho h).bind fun x h1 => match x with
      | .bl b => .ok (.bl (!b)) h1
      | _ => .bad)) := by
  refine pe_imp (pe_not ha) fun σ H Q h => ?_
  obtain ⟨w, g, q⟩ := h
  refine ⟨w, g, (EPost.bind (Rl := VR G) q).imp fun v h1 m1 F1 H1 x e1 p1 s1 g1 r1 q1 => ?_⟩
  obtain ⟨v', h1', m1', F1', p1', s1', g1', r1', q2⟩ := q1
  cases r1' <;> first | (exact q2.elim) | skip
  exact ⟨_, rfl, EPost.here q2 g1' (.bl _)⟩
theorem sound_neg (ha : PE X a (TEv G W fa)) : PE X (.UnaryOp .USub a pos) (TEv G W (fun rho h => (fa rho h).bind fun x h1 => match x with
      | .int i => .ok (.int (-i)) h1
      | _ => .bad)) := by
  refine pe_imp (pe_un un_neg ha) fun σ H Q h => ?_
  obtain ⟨w, g, q⟩ := h
  refine ⟨w, g, (EPost.bind (Rl := VR G) q).imp fun v h1 m1 F1 H1 x e1 p1 s1 g1 r1 q1 => ?_⟩
  obtain ⟨v', h1', m1', F1', p1', s1', g1', r1', q2⟩ := q1
  cases r1' <;> first | (exact q2.elim) | skip
  exact ⟨_, rfl, EPost.here q2 g1' (.int _)⟩
theorem sound_ite (hc : PT X c (TTv G W fc)) (ha : PE X a (TEv G W fa)) (hb : PE X b (TEv G W fb)) : PE X (.IfExp c a b pos) (TEv G W (fun rho h => (fc rho h).bind fun x h1 => match x with
      | .bl true => fa rho h1
      | .bl false => fb rho h1
      | _ => .bad)) := by
  refine pe_imp (pe_ifExp hc ha hb) fun σ H Q h => ?_
  obtain ⟨w, g, q⟩ := h
  refine ⟨w, g, (EPost.bind (Rl := VR G) q).imp fun v h1 m1 F1 H1 x e1 p1 s1 g1 r1 q1 => ?_⟩
  obtain ⟨v', h1', m1', F1', p1', s1', g1', r1', q2⟩ := q1
  cases r1' <;> first | (exact q2.elim) | skip
  rename_i k
  cases k with
  | true => exact ⟨_, rfl, iteT ⟨_, g1', q2⟩⟩
  | false => exact ⟨_, rfl, iteF ⟨_, g1', q2⟩⟩
/-! tests -/
theorem t_of {f : Ef} {t : TE} (h : PE X e (TEv G W f)) (he : ∀ whole, isTrue e X.env whole = (do let v ← whole; standAt e.pos; holding [v] (truthy v))) : PT X e (TTv G W f) := by
  refine pt_imp (pt_val h he) fun σ H Q h => ?_
  exact h
theorem t_cmp {op : CmpOp} {r : R2} {f : List MP.O → MP.MV → MP.MV → Option MP.MV} (ho : OpR X (compareOp op) r) (ok : OpOk G r f) (ha : PE X a (TEv G W fa)) (hb : PE X b (TEv G W fb)) (hm : behindInMarks op b = false) :
    PT X (.Compare a [op] [b] pos) (TTv G W (fun rho h => (fa rho h).bind fun x h1 => (fb rho h1).bind fun y h2 => MP.R.of (f h2 x y) h2)) := pt_imp (pt_cmpR ho ha hb hm) fun σ H Q h => two ok σ H _ h
theorem t_not (ha : PT X a (TTv G W fa)) : PT X (.UnaryOp .Not a pos) (TTv G W (fun rho h => (fa rho h).bind fun x h1 => match x with
      | .bl b => .ok (.bl (!b)) h1
      | _ => .bad)) := by
  refine pt_imp (pt_not ha) fun σ H Q h => ?_
  obtain ⟨w, g, q⟩ := h
  refine ⟨w, g, (EPost.bind (Rl := VR G) q).imp fun v h1 m1 F1 H1 x e1 p1 s1 g1 r1 q1 => ?_⟩
  obtain ⟨v', h1', m1', F1', p1', s1', g1', r1', q2⟩ := q1
  cases r1' <;> first | (exact q2.elim) | skip
  obtain ⟨b, e, q3⟩ := EPost.here q2 g1' (.bl _)
  cases e
  exact ⟨_, rfl, q3⟩
end
end MPS
end

section
set_option Elab.async false
set_option linter.all false
set_option maxRecDepth 100000
set_option maxHeartbeats 1000000
set_option autoImplicit false
namespace MPS
open PySem PySem.Spec PyProof.Rows L2
section
variable {X : Cx} {G : Gc} {W : EW} {a b c e : Expr} {es : List Expr} {fa fb fc : Ef} {fs : Efs} {pos : Pos}
/-! argument lists -/
theorem sound_nil : PA X [] (TAv G W (fun _ h => .ok [] h)) := pa_imp pa_nil fun σ H Q h => by
  obtain ⟨w, g, q⟩ := h
  exact EPost.here q g .nil
theorem starEach_cons {env : Env} (h : isStar e = false) : starEach (e :: es) env = (false, eval e env) :: starEach es env := by
  cases e <;> first | rfl | (cases h)
theorem sound_cons (h : isStar e = false) (ha : PE X e (TEv G W fa)) (hs : PA X es (TAv G W fs)) :
    PA X (e :: es) (TAv G W (fun rho h => (fa rho h).bind fun x h1 => (fs rho h1).bind fun xs h2 => .ok (x :: xs) h2)) := by
  refine pa_imp (pa_cons ha hs (starEach_cons h)) fun σ H Q h => ?_
  obtain ⟨w, g, q⟩ := h
  refine ⟨w, g, (EPost.bind (Rl := VR G) q).imp fun v h1 m1 F1 H1 x e1 p1 s1 g1 r1 q1 => ?_⟩
  obtain ⟨v', h1', m1', F1', p1', s1', g1', r1', q2⟩ := q1
  refine ⟨_, g1', (EPost.bind (Rl := VRs G) q2).imp fun u h2 m2 F2 H2 y e2 p2 s2 g2 r2 q3 => ?_⟩
  obtain ⟨u', h2', m2', F2', p2', s2', g2', r2', q4⟩ := q3
  exact EPost.here q4 g2' (.cons (r1'.mono p2' s2') r2')
theorem sound_knil : PK X [] (TAv G W (fun _ h => .ok [] h)) := ⟨fun pos pins s σ H Q I h => (pk_nil (X := X)).run pos pins s σ H Q I (by
  obtain ⟨w, g, q⟩ := h
  exact EPost.here q g .nil)⟩
theorem sound_kcons {kws : List Keyword} {nm : Option Str} {kpos : Pos} (ha : PE X e (TEv G W fa)) (hs : PK X kws (TAv G W fs)) :
    PK X (⟨nm, e, kpos⟩ :: kws) (TAv G W (fun rho h => (fa rho h).bind fun x h1 => (fs rho h1).bind fun xs h2 => .ok (x :: xs) h2)) := ⟨fun pos pins s σ H Q I h => (pk_cons (nm := nm) (kpos := kpos) ha hs).run pos pins s σ H Q I (by
  obtain ⟨w, g, q⟩ := h
  refine ⟨w, g, (EPost.bind (Rl := VR G) q).imp fun v h1 m1 F1 H1 x e1 p1 s1 g1 r1 q1 => ?_⟩
  obtain ⟨v', h1', m1', F1', p1', s1', g1', r1', q2⟩ := q1
  refine ⟨_, g1', (EPost.bind (Rl := VRs G) q2).imp fun u h2 m2 F2 H2 y e2 p2 s2 g2 r2 q3 => ?_⟩
  obtain ⟨u', h2', m2', F2', p2', s2', g2', r2', q4⟩ := q3
  exact EPost.here q4 g2' (.cons (r1'.mono p2' s2') r2'))⟩
/-! displays -/
theorem sound_tup {k : Nat} (h : PA X es (TAv G W fs)) : PE X (.Tuple es k pos) (TEv G W (fun rho h => (fs rho h).bind fun xs h1 => if xs.length ≤ MP.LIM then .ok (.tup xs) h1 else .bad)) := by
  refine pe_imp (pe_tup h) fun σ H Q h => ?_
  obtain ⟨w, g, q⟩ := h
  refine ⟨w, g, (EPost.bind (Rl := VRs G) q).imp fun v h1 m1 F1 H1 x e1 p1 s1 g1 r1 q1 => ?_⟩
  obtain ⟨v', h1', m1', F1', p1', s1', g1', r1', q2⟩ := q1
  split at q2
  · rename_i hz
    refine ⟨by rw [← r1'.length]; exact lim_line hz, fun p n => new_tup g1' r1' (fun m' F' H' z p s g r => q2 m' F' H' z p s g r) p n⟩
  · exact q2.elim
theorem sound_lst (h : PA X es (TAv G W fs)) : PE X (.List es pos) (TEv G W (fun rho h => (fs rho h).bind fun xs h1 => if xs.length ≤ MP.LIM then .ok (.lst xs) h1 else .bad)) := by
  refine pe_imp (pe_lst h) fun σ H Q h => ?_
  obtain ⟨w, g, q⟩ := h
  refine ⟨w, g, (EPost.bind (Rl := VRs G) q).imp fun v h1 m1 F1 H1 x e1 p1 s1 g1 r1 q1 => ?_⟩
  obtain ⟨v', h1', m1', F1', p1', s1', g1', r1', q2⟩ := q1
  split at q2
  · rename_i hz
    refine ⟨by rw [← r1'.length]; exact lim_line hz, fun p n => new_lst g1' r1' (fun m' F' H' z p s g r => q2 m' F' H' z p s g r) p n⟩
  · exact q2.elim
theorem new_ref {w : Wd} {σ : L2.St} {H : Hp} {Q : VK} (g : Good G w σ H) {l : List MP.MV} {xs : List V} (r : VRs G w.m w.F l xs)
    (q : ∀ m' F' H' z, Pre w.m m' → Same w.F F' → Good G (w.at m' F' (w.h ++ [.lst l])) σ H' → VR G m' F' (.ref w.h.length) z → Q z H') (p : Addr) (n : H p = none) : Q (.ref p) (upd H p (.lst xs)) := by
  have pr := Pre.app w.m [p]
  refine q _ _ _ _ pr (Same.refl _) (g.newR n (u := .lst l) ⟨xs, upd_same, r.mono pr (Same.refl _)⟩) (.ref ?_)
  rw [← g.len, List.getElem?_append_right (Nat.le_refl _)]
  simp
theorem sound_lstR (h : PA X es (TAv G W fs)) : PE X (.List es pos) (TEv G W (fun rho h => (fs rho h).bind fun xs h1 => if xs.length ≤ MP.LIM then .ok (.ref h1.length) (h1 ++ [.lst xs]) else .bad)) := by
  refine pe_imp (pe_lst h) fun σ H Q h => ?_
  obtain ⟨w, g, q⟩ := h
  refine ⟨w, g, (EPost.bind (Rl := VRs G) q).imp fun v h1 m1 F1 H1 x e1 p1 s1 g1 r1 q1 => ?_⟩
  obtain ⟨v', h1', m1', F1', p1', s1', g1', r1', q2⟩ := q1
  split at q2
  · rename_i hz
    refine ⟨by rw [← r1'.length]; exact lim_line hz, fun p n => new_ref g1' r1' (fun m' F' H' z p s g r => q2 m' F' H' z p s g r) p n⟩
  · exact q2.elim
/-! and, or -/
def bopOf : Bool → BoolOp
  | true => .And
  | false => .Or
theorem sound_bop1 {conj : Bool} (ha : PE X a (TEv G W fa)) : PE X (.BoolOp (bopOf conj) [a] pos) (TEv G W (fun rho h => (fa rho h).bind fun x h1 => match x with
      | .bl b => if b = conj then (.ok (.bl conj) h1 : MP.R MP.MV) else .ok (.bl b) h1
      | _ => .bad)) := by
  refine pe_imp (pe_one ha) fun σ H Q h => ?_
  obtain ⟨w, g, q⟩ := h
  refine ⟨w, g, (EPost.bind (Rl := VR G) q).imp fun v h1 m1 F1 H1 x e1 p1 s1 g1 r1 q1 => ?_⟩
  obtain ⟨v', h1', m1', F1', p1', s1', g1', r1', q2⟩ := q1
  cases r1' <;> first | (exact q2.elim) | skip
  rename_i k
  have q2 : EPost G (VR G) (w.at m1' F1' h1') σ (if k = conj then (.ok (.bl conj) h1' : MP.R MP.MV) else .ok (.bl k) h1') Q (fun e w H => W e w σ H) := q2
  split at q2
  · rename_i hk
    subst hk
    exact EPost.here q2 g1' (.bl _)
  · exact EPost.here q2 g1' (.bl _)
theorem sound_bopC {conj : Bool} {f : Ef} (ha : PE X a (TEv G W fa)) (hb : PE X (.BoolOp (bopOf conj) (b :: es) pos) (TEv G W f)) : PE X (.BoolOp (bopOf conj) (a :: b :: es) pos) (TEv G W (fun rho h => (fa rho h).bind fun x h1 => match x with
      | .bl b => if b = conj then f rho h1 else .ok (.bl b) h1
      | _ => .bad)) := by
  cases conj with
  | true =>
    refine pe_imp (pe_and ha hb) fun σ H Q h => ?_
    obtain ⟨w, g, q⟩ := h
    refine ⟨w, g, (EPost.bind (Rl := VR G) q).imp fun v h1 m1 F1 H1 x e1 p1 s1 g1 r1 q1 => ?_⟩
    obtain ⟨v', h1', m1', F1', p1', s1', g1', r1', q2⟩ := q1
    cases r1' <;> first | (exact q2.elim) | skip
    rename_i k
    cases k with
    | true => exact ⟨_, rfl, iteT ⟨_, g1', q2⟩⟩
    | false => exact ⟨_, rfl, iteF (EPost.here q2 g1' (.bl _))⟩
  | false =>
    refine pe_imp (pe_or ha hb) fun σ H Q h => ?_
    obtain ⟨w, g, q⟩ := h
    refine ⟨w, g, (EPost.bind (Rl := VR G) q).imp fun v h1 m1 F1 H1 x e1 p1 s1 g1 r1 q1 => ?_⟩
    obtain ⟨v', h1', m1', F1', p1', s1', g1', r1', q2⟩ := q1
    cases r1' <;> first | (exact q2.elim) | skip
    rename_i k
    cases k with
    | false => exact ⟨_, rfl, iteF ⟨_, g1', q2⟩⟩
    | true => exact ⟨_, rfl, iteT (EPost.here q2 g1' (.bl _))⟩
theorem w_bop1 {conj : Bool} (ha : PT X a (TTv G W fa)) : PW X (.BoolOp (bopOf conj) [a] pos) (TTv G W (fun rho h => (fa rho h).bind fun x h1 => match x with
      | .bl b => if b = conj then (.ok (.bl conj) h1 : MP.R MP.MV) else .ok (.bl b) h1
      | _ => .bad)) := by
  have base : PW X (.BoolOp (bopOf conj) [a] pos) (TTv G W fa) := by
    cases conj with
    | true => exact pw_and1 ha
    | false => exact pw_or1 ha
  refine pw_imp base fun σ H Q h => ?_
  obtain ⟨w, g, q⟩ := h
  refine ⟨w, g, (EPost.bind (Rl := VR G) q).imp fun v h1 m1 F1 H1 x e1 p1 s1 g1 r1 q1 => ?_⟩
  obtain ⟨v', h1', m1', F1', p1', s1', g1', r1', q2⟩ := q1
  cases r1' <;> first | (exact q2.elim) | skip
  rename_i k
  have q2 : EPost G (VR G) (w.at m1' F1' h1') σ (if k = conj then (.ok (.bl conj) h1' : MP.R MP.MV) else .ok (.bl k) h1') (fun x H1 => ∃ b, x = .bl b ∧ Q b H1) (fun e w H => W e w σ H) := q2
  refine ⟨k, rfl, ?_⟩
  split at q2
  · rename_i hk
    subst hk
    obtain ⟨b, e, q3⟩ := EPost.here q2 g1' (.bl _)
    cases e
    exact q3
  · obtain ⟨b, e, q3⟩ := EPost.here q2 g1' (.bl _)
    cases e
    exact q3
theorem w_bopC {conj : Bool} {f : Ef} (ha : PT X a (TTv G W fa)) (hb : PW X (.BoolOp (bopOf conj) (b :: es) pos) (TTv G W f)) : PW X (.BoolOp (bopOf conj) (a :: b :: es) pos) (TTv G W (fun rho h => (fa rho h).bind fun x h1 => match x with
      | .bl b => if b = conj then f rho h1 else .ok (.bl b) h1
      | _ => .bad)) := by
  cases conj with
  | true =>
    refine pw_imp (pw_and ha hb) fun σ H Q h => ?_
    obtain ⟨w, g, q⟩ := h
    refine ⟨w, g, (EPost.bind (Rl := VR G) q).imp fun v h1 m1 F1 H1 x e1 p1 s1 g1 r1 q1 => ?_⟩
    obtain ⟨v', h1', m1', F1', p1', s1', g1', r1', q2⟩ := q1
    cases r1' <;> first | (exact q2.elim) | skip
    rename_i k
    cases k with
    | true => exact ⟨_, rfl, iteT ⟨_, g1', q2⟩⟩
    | false =>
      refine ⟨_, rfl, ?_⟩
      refine iteF ?_
      obtain ⟨b, e, q3⟩ := EPost.here q2 g1' (.bl _)
      cases e
      exact q3
  | false =>
    refine pw_imp (pw_or ha hb) fun σ H Q h => ?_
    obtain ⟨w, g, q⟩ := h
    refine ⟨w, g, (EPost.bind (Rl := VR G) q).imp fun v h1 m1 F1 H1 x e1 p1 s1 g1 r1 q1 => ?_⟩
    obtain ⟨v', h1', m1', F1', p1', s1', g1', r1', q2⟩ := q1
    cases r1' <;> first | (exact q2.elim) | skip
    rename_i k
    cases k with
    | false => exact ⟨_, rfl, iteF ⟨_, g1', q2⟩⟩
    | true =>
      refine ⟨_, rfl, ?_⟩
      refine iteT ?_
      obtain ⟨b, e, q3⟩ := EPost.here q2 g1' (.bl _)
      cases e
      exact q3
/-! subscripts -/
theorem atI_eq {α : Type} (xs : List α) (i : Int) : MP.atI xs i = L2.atI xs i := rfl
theorem atI_get' {m : List Addr} {F : Hp} {l : List MP.MV} {xs : List V} {i : Int} {v : MP.MV} (r : VRs G m F l xs) (e : MP.atI l i = some v) : ∃ x, L2.atI xs i = some x ∧ VR G m F v x := by
  unfold MP.atI at e
  obtain ⟨j, e1, e2⟩ := Option.bind_eq_some_iff.mp e
  obtain ⟨x, h1, h2⟩ := r.get e2
  refine ⟨x, ?_, h2⟩
  unfold L2.atI
  rw [← r.length]
  have e1 : L2.ixN l.length i = some j := e1
  rw [e1]
  exact h1
theorem plainIx_of (h : (match b with | .Slice _ _ _ _ => false | _ => true) = true) : PlainIx b := by
  cases b <;> first | (intro _ _; rfl) | (cases h)
theorem sound_idx (h : (match b with | .Slice _ _ _ _ => false | _ => true) = true) (ha : PE X a (TEv G W fa)) (hb : PE X b (TEv G W fb)) (hK : X.K = G.K) : PE X (.Subscript a b pos) (TEv G W (fun rho h => (fa rho h).bind fun x h1 => (fb rho h1).bind fun y h2 => match y with
      | .int i => (match x with
        | .str s => if s.length ≤ MP.LIM then MP.R.of ((MP.atI s i).map fun c => .str [c]) h2 else .bad
        | x => MP.R.of ((MP.lookS h2 x).bind fun l => MP.atI l i) h2)
      | _ => .bad)) := by
  refine pe_imp (pe_ix ix_seq ha hb (plainIx_of h)) fun σ H Q h => ?_
  obtain ⟨w, g, q⟩ := h
  refine ⟨w, g, (EPost.bind (Rl := VR G) q).imp fun v h1 m1 F1 H1 x e1 p1 s1 g1 r1 q1 => ?_⟩
  obtain ⟨v', h1', m1', F1', p1', s1', g1', r1', q2⟩ := q1
  refine ⟨_, g1', (EPost.bind (Rl := VR G) q2).imp fun u h2 m2 F2 H2 y e2 p2 s2 g2 r2 q3 => ?_⟩
  obtain ⟨u', h2', m2', F2', p2', s2', g2', r2', q4⟩ := q3
  cases r2' <;> first | (exact q4.elim) | skip
  rename_i i
  have rx := r1'.mono p2' s2'
  have gen : EPost G (VR G) ((w.at m1' F1' h1').at m2' F2' h2') σ (MP.R.of ((MP.lookS h2' v').bind fun l => MP.atI l i) h2') Q (fun e w H => W e w σ H) → rIx X.K x (.int i) H2 Q := fun q5 => by
    obtain ⟨z, ez, q6⟩ := EPost.of q5
    obtain ⟨l, el, ez⟩ := Option.bind_eq_some_iff.mp ez
    obtain ⟨p, xs, rfl, hs, rs⟩ := look_seq g2' rx el
    obtain ⟨y, ey, ry⟩ := atI_get' rs ez
    have fin : Q y H2 := q6 _ _ _ _ (Pre.refl _) (Same.refl _) g2' ry
    rw [hK]
    rcases hs with hs | hs
    · exact .inl ⟨p, xs, i, y, rfl, rfl, hs, ey, fin⟩
    · exact .inr (.inl ⟨p, xs, i, y, rfl, rfl, hs, ey, fin⟩)
  cases rx <;> first | (exact gen q4) | skip
  rename_i s
  have q4 : EPost G (VR G) ((w.at m1' F1' h1').at m2' F2' h2') σ (if s.length ≤ MP.LIM then MP.R.of ((MP.atI s i).map fun c => .str [c]) h2' else .bad) Q (fun e w H => W e w σ H) := q4
  split at q4
  · rename_i hz
    obtain ⟨z, ez, q6⟩ := EPost.of q4
    obtain ⟨c, ec, rfl⟩ := Option.map_eq_some_iff.mp ez
    exact .inr (.inr ⟨_, i, c, rfl, rfl, by simpa [Str.length] using lim_line hz, ec, q6 _ _ _ _ (Pre.refl _) (Same.refl _) g2' (.str [c])⟩)
  · exact q4.elim
end
end MPS
end

section
set_option Elab.async false
set_option linter.all false
set_option maxRecDepth 100000
set_option maxHeartbeats 1000000
/-! sorted(x, key=lambda y: (len(y), y)): the order, the lambda, its call -/
namespace MPS
open PySem PySem.Spec PyProof.Rows L2
/-! ### the order -/
def lotK (ns : List Int) : PyData := .tuple [.int ns.length, .tuple (ns.map .int)]
theorem eqv_ints : ∀ xs ys : List Int, PyData.eqvAll (xs.map .int) (ys.map .int) = decide (xs = ys)
  | [], [] => by simp [PyData.eqvAll]
  | [], y :: ys => by simp [PyData.eqvAll]
  | x :: xs, [] => by simp [PyData.eqvAll]
  | x :: xs, y :: ys => by
    rw [List.map_cons, List.map_cons, PySem.W.eqv_all_cons, eqv_ints xs ys]
    by_cases h : x = y <;> by_cases h2 : xs = ys <;> simp [PyData.eqv, h, h2]
theorem alike_tup (xs ys : List Int) : PySem.W.alike (.tuple (xs.map .int)) (.tuple (ys.map .int)) = true := by
  rw [PySem.W.alike]
  exact PySem.W.alike_ints xs ys
theorem dataLe_lot {β : Type} (f : β → List Int) : PySem.W.dataLe false (fun b => lotK (f b)) = fun p q => MP.lotLe (f p) (f q) := by
  funext p q
  show (!PySem.W.dataLt (lotK (f q)) (lotK (f p))) = _
  unfold lotK MP.lotLe
  rw [PySem.W.dataLt_pair (by simp [PySem.W.alike]) (alike_tup _ _), PySem.W.dataLt_int, PySem.W.dataLt_tuple]
  have e := PySem.W.dataLt_ints (f q) (f p)
  unfold PySem.W.rowLt at e
  rw [e]
  simp only [PyData.eqv, beq_iff_eq, eqv_ints, decide_eq_true_eq]
  by_cases h1 : (f q).length < (f p).length
  · have a : ¬ ((f q).length : Int) = (f p).length := by omega
    have b : ((f q).length : Int) < (f p).length := by omega
    have c : ¬ (f p).length < (f q).length := by omega
    have d : ¬ (f p).length = (f q).length := by omega
    rw [if_neg a, decide_eq_true b, decide_eq_false c, decide_eq_false d]
    rfl
  · by_cases h2 : (f p).length = (f q).length
    · have a : ((f q).length : Int) = (f p).length := by omega
      have c : ¬ (f p).length < (f q).length := by omega
      rw [if_pos a, decide_eq_false c, decide_eq_true h2]
      by_cases h3 : f q = f p
      · rw [if_pos h3, h3, decide_eq_false (List.lt_irrefl _)]
        rfl
      · rw [if_neg h3]
        simp
    · have a : ¬ ((f q).length : Int) = (f p).length := by omega
      have b : ¬ ((f q).length : Int) < (f p).length := by omega
      have c : (f p).length < (f q).length := by omega
      rw [if_neg a, decide_eq_false b, decide_eq_true c]
      rfl
theorem lotK_depth (ns : List Int) : (lotK ns).depth ≤ 2 := by
  unfold lotK
  simp [PyData.depth, PyData.depthAll, PySem.W.depth_ints]
theorem lotK_alike {β : Type} (f : β → List Int) (bs : List β) : PySem.W.AllAlike (bs.map fun b => lotK (f b)) := PySem.W.AllAlike.of fun b b' => by
  have := alike_tup (f b) (f b')
  simp [lotK, PySem.W.alike, PySem.W.alikeAll] at this ⊢
  exact this
theorem lotK_sortable {β : Type} (f : β → List Int) (bs : List β) : PySem.W.Sortable (bs.map fun b => lotK (f b)) := PySem.W.Sortable.tuples fun _ => ⟨_, _, rfl⟩
end MPS
end

section
set_option Elab.async false
set_option linter.all false
set_option maxRecDepth 100000
set_option maxHeartbeats 1000000
namespace MPS
open PySem PySem.Spec PyProof.Rows L2 LamX
/-! ### the lambda's call -/
/-- lambda y: (len(y), y) -/
structure LotL (y : Str) (scope : Scope) (body : Expr) : Prop where
  kind : scope.kind = .function
  co : scope.isCoroutine = false
  gen : scope.isGenerator = false
  cell : ∀ x ∈ scope.names, x.2 ≠ .cell
  free : ∀ x ∈ scope.names, x.2 ≠ .free
  loc : scope.names.lookup y = some .local
  len : scope.names.lookup ("len" : Str) = some .globalImplicit
  bod : ∃ k p1 p2 p3 p4 p5, body = .Tuple [.Call (.Name "len" p1) [.Name y p2] [] p3, .Name y p4] k p5
  deb : (y == ("__debug__" : Str)) = false
theorem cloFrom_nil {cells : List (Str × Addr)} : ∀ {names : List (Str × NameKind)}, (∀ x ∈ names, x.2 ≠ .free) → ∀ acc, cloFrom cells names acc = acc
  | [], _, acc => rfl
  | (n, k) :: r, h, acc => by
    have hk : k ≠ .free := h (n, k) List.mem_cons_self
    have ih := cloFrom_nil (cells := cells) (names := r) (fun x hx => h x (List.mem_cons_of_mem _ hx)) acc
    unfold cloFrom
    cases k <;> first | exact ih | exact absurd rfl hk
section
variable {X : Cx} {pins : List (Addr × Obj)} {σ : L2.St} {H : Hp} {s : Shared} {y : Str} {scope : Scope} {body : Expr} {params : Arguments} {f c' : Addr} {q : Str} {pm ctv : Value} {cl : List (Str × Addr)}
theorem lot_turn {A : Around} {b : Addr} {its : Array Value} {ns : List Int} {h : Heap} {tk : Nat} (I : Inv X pins σ H s) (L : LotL y scope body) (hl : X.mg "len" = none) (hd : A.depth < recursionLimit)
    (hf : s.heap.get? f = some (PySem.W.kla_obj "<lambda>" q params body scope cl pm c' ctv)) (hc : H c' = some (CodeO c' q)) (hbind : ∀ v, bindArgs (PySem.W.kla_fn "<lambda>" q params body scope cl pm (.ref c') ctv) ⟨[v], []⟩ = pure [(y, v)])
    (ht : IsTup s.heap b its) (hi : IntsAre its.toList ns) (hz : its.size ≤ sizeLine) (kp : ∀ a o, s.heap.get? a = some o → h.get? a = some o) :
    wpAny (model X.prog X.w) A (call (.ref f) [.ref b]) (PySem.W.KeyPure (lotK ns) { s with heap := h, toks := tk }) (fun _ _ => False) { s with heap := h, toks := tk } := by
  obtain ⟨⟨oc, vs, t, hoc, hdc, hvc⟩, _, _⟩ := I.hok c' _ hc
  obtain ⟨mb, hb1, hb2⟩ := I.mod.blt
  obtain ⟨k, p1, p2, p3, p4, p5, rfl⟩ := L.bod
  refine wpAny_call (PySem.W.kla_callFunE (s := { s with heap := h, toks := tk }) hd (kp _ _ hf) rfl L.co L.gen rfl ⟨c', oc, vs, t, rfl, kp _ _ hoc, hdc, hvc⟩ ?_)
  rw [hbind]
  refine wpAny_pure (wpAny_newFunctionEnv L.cell (fun x hx => ?_) (fun h₁ hns hsb => ⟨(I.nolimit.keeps kp).fresh _ hsb, ?_⟩) L.kind)
  · have e : x = (y, .ref b) := by simpa using hx
    rw [e]
    exact L.loc
  have kp1 : ∀ a o, h.get? a = some o → h₁.get? a = some o := fun a o e => hsb.extBut a o (Nat.ne_of_lt (Heap.lt_size e)) (Heap.get?_push_of_some _ e)
  have kp2 : ∀ a o, s.heap.get? a = some o → h₁.get? a = some o := fun a o e => kp1 a o (kp a o e)
  obtain ⟨ot, ho, hcl, n, hdt⟩ := ht
  have hv : (fun x => ([(y, Value.ref b)] : List (Str × Value)).reverse.lookup x) y = some (.ref b) := by simp
  refine PySem.W.kla_codeExpr ?_
  refine wpAny_Tuple_spliced ?_
  show wpAny _ _ (spliced ((false, _) :: (false, _) :: [])) _ _ _
  refine Calls.spliced_cons ?_
  refine (wpAny_Call_Name_kw (Calls.Name_function_global (x := "len") L.kind L.len (Calls.loadGlobal_builtin (I.mod.glob.keeps fun a o e => kp2 a o (I.bk a o e)) hl (hb1.keeps fun a o e => kp2 a o (I.bk a o e)) ((hb2 "len" (by decide)).trans boot_len) ?_) (by decide)))
  refine PyProof.Rows.callWith_builtin1 ?_
  refine Calls.spliced_cons (wpAny_Name (wpAny_loadName_local L.kind L.loc hns hv ?_) L.deb)
  refine Calls.spliced_nil ?_
  have hl63 := line63
  have hs0 : sizeLine = 16777216 := sizeLine_eq
  refine len_tuple ⟨ot, kp2 _ _ ho, hcl, n, hdt⟩ (by omega) ?_
  refine Calls.spliced_cons (wpAny_Name (wpAny_loadName_local L.kind L.loc hns hv ?_) L.deb)
  refine Calls.spliced_nil ⟨by simp [hs0], ?_⟩
  have hn : (its.size : Int) = (ns.length : Int) := by
    have := hi.length
    rw [Array.length_toList] at this
    omega
  refine ⟨_, _, rfl, fun a o e => Heap.get?_push_of_some _ (kp1 a o e), ?_⟩
  refine .tuple (Heap.get?_push_size _ rfl) rfl rfl (as := []) ?_
  show ReadsAll _ [Value.int its.size _, Value.ref b] [PyData.int ns.length, PyData.tuple (ns.map .int)] ([] ++ ([] ++ []))
  rw [hn]
  exact .cons (.int _ _) (.cons (.tuple (Heap.get?_push_of_some _ (kp2 _ _ ho)) hcl hdt (hi.reads _)) .nil)
/-! ### the lambda's making -/
/-- the tables go on: all is as it was, or a table has one code more -/
structure Grow (P : Addr) (q : Str) (H H' : Hp) : Prop where
  or : H' = H ∨ ∃ (ps : Array Value) (c : Addr), H P ≠ none ∧ H c = none ∧ P ≠ c ∧ H' = upd (upd H P (.tbl ps)) c (CodeO c q) ∧ TriplesOk ps.toList ∧ ∀ (pos : Pos) (cv : Value), codeAmong pos ps.toList = some cv → cv = .ref c ∨ ∃ ps0 : Array Value, H P = some (.tbl ps0) ∧ codeAmong pos ps0.toList = some cv
theorem lot_make {P c : Addr} {pos : Pos} {Q : Value → Shared → Prop} {E : Value → Shared → Prop} (I : Inv X pins σ H s) (TB : TabB X.base X.mg c P) (hcode : X.env.code = .ref c) (hT : TabS H P (X.env.qual ++ "<lambda>")) (hdef : defaultsOf params X.env = ([], [])) (hfree : ∀ x ∈ scope.names, x.2 ≠ .free)
    (h : ∀ (f c' : Addr) (pm ctv : Value) (H1 : Hp) (s' : Shared), Inv X pins σ H1 s' → Grow P (X.env.qual ++ "<lambda>") H H1 → TabS H1 P (X.env.qual ++ "<lambda>") →
      s'.heap.get? f = some (PySem.W.kla_obj "<lambda>" (X.env.qual ++ "<lambda>") params body scope [] pm c' ctv) → H1 c' = some (CodeO c' (X.env.qual ++ "<lambda>")) → Q (.ref f) s') :
    wpAny (model X.prog X.w) X.A (eval (.Lambda params body scope pos) X.env) Q E s := by
  obtain ⟨ps, hP, ht, ha⟩ := hT
  have ecl : cloFrom X.env.cells scope.names [] = [] := cloFrom_nil hfree []
  have hfree' : ∀ x ∈ scope.names, x.2 = .free → ∃ c, X.env.cells.lookup x.1 = some c := fun x hx e => absurd e (hfree x hx)
  refine PySem.W.kla_eval hdef ?_
  have bP : s.heap.BuiltinsAt X.mg P := TB.bm.keeps I.bk
  have hP' : s.heap.get? P = some { cls := .none, data := .fields ps } := I.hok P _ hP
  have okC : closureFor scope X.env = pure [] := by
    rw [← ecl]
    exact closure_ok hfree'
  cases hc : codeAmong pos ps.toList with
  | none =>
    refine PySem.W.kla_makeFunction (mg := X.mg) (c := c) (P := P) (ps := ps) okC I.ok.glob (I.mod.glob.keeps I.bk) hcode (TB.code.keeps I.bk) hP' ht hc TB.gP bP fun c' ctv h' tk hx hge hlt hrec htb => ?_
    obtain ⟨c2, oc, vs, t, e2, hoc, hd, hv⟩ := hrec
    cases e2
    have nC : H c' = none := I.hok.fresh hge
    have nPc : P ≠ c' := ne_of_none hP nC
    have I1 := inv_table (t' := tk) (more := #[rawInt pos.line, rawInt pos.col, .ref c']) (h' := h'.push (PySem.W.kla_obj "<lambda>" (X.env.qual ++ "<lambda>") params body scope [] ((X.mg "__name__").getD .none) c' ctv)) I hP
      (fun b o hb e => Heap.get?_push_of_some _ (hx b o hb e)) (Heap.get?_push_of_some _ htb) hge ⟨oc, vs, t, Heap.get?_push_of_some _ hoc, hd, hv⟩
    have eL : (ps ++ #[rawInt pos.line, rawInt pos.col, .ref c']).toList = ps.toList ++ [rawInt pos.line, rawInt pos.col, .ref c'] := by simp
    have among : ∀ (p' : Pos) (cv : Value), codeAmong p' (ps ++ #[rawInt pos.line, rawInt pos.col, .ref c']).toList = some cv → cv = .ref c' ∨ ∃ ps0 : Array Value, H P = some (.tbl ps0) ∧ codeAmong p' ps0.toList = some cv := fun p' cv hcv => by
      rw [eL] at hcv
      rcases among_app _ ht hcv with z | z
      · exact .inr ⟨ps, hP, z⟩
      · exact .inl z
    have tri : TriplesOk (ps ++ #[rawInt pos.line, rawInt pos.col, .ref c']).toList := by rw [eL]; exact PySem.TriplesOk_snoc _ _ _ _ ht
    refine h h'.objs.size c' ((X.mg "__name__").getD .none) ctv _ _ I1 ⟨.inr ⟨_, c', by rw [hP]; simp, nC, nPc, rfl, tri, among⟩⟩ ⟨_, by rw [upd_ne nPc, upd_same], tri, fun p' cv hcv => ?_⟩ (Heap.get?_push_size _ rfl) upd_same
    rcases among p' cv hcv with z | ⟨ps0, e0, z0⟩
    · exact ⟨c', z, upd_same⟩
    · rw [hP] at e0
      cases e0
      obtain ⟨c0, z, e⟩ := ha p' cv z0
      refine ⟨c0, z, ?_⟩
      rw [upd_ne (ne_of_none e nC), upd_ne (fun w => codeO_ne ps (Option.some.inj (e.symm.trans (by rw [w]; exact hP))))]
      exact e
  | some cv =>
    obtain ⟨c', e, hco⟩ := ha pos cv hc
    subst e
    refine PySem.W.kla_makeFunctionHit (mg := X.mg) (c := c) (P := P) (ps := ps) okC I.ok.glob (I.mod.glob.keeps I.bk) hcode (TB.code.keeps I.bk) hP' ht hc bP fun ctv h' tk hx hsz => ?_
    have I1 : Inv X pins σ H { s with heap := h'.push (PySem.W.kla_obj "<lambda>" (X.env.qual ++ "<lambda>") params body scope [] ((X.mg "__name__").getD .none) c' ctv), toks := tk } := I.kept fun b o e => Heap.get?_push_of_some _ (hx b o e)
    exact h h'.objs.size c' ((X.mg "__name__").getD .none) ctv H _ I1 ⟨.inl rfl⟩ ⟨ps, hP, ht, ha⟩ (Heap.get?_push_size _ rfl) hco
end
end MPS
end

section
set_option Elab.async false
set_option linter.all false
set_option maxRecDepth 100000
set_option maxHeartbeats 1000000
namespace MPS
open PySem PySem.Spec PyProof.Rows L2 LamX
/-! ### the sorting -/
/-- refs to tuples of ints -/
def Lots (K : PySem.W.Frag) (H : Hp) (bs : List (V × List Int)) : Prop := ∀ p ∈ bs, ∃ b, p.1 = V.ref b ∧ SqT K H b (p.2.map V.int)
def LotV (h : Heap) (v : Value) (p : V × List Int) : Prop := ∃ (b : Addr) (its : Array Value), v = .ref b ∧ p.1 = V.ref b ∧ IsTup h b its ∧ IntsAre its.toList p.2 ∧ its.size ≤ sizeLine
def srtBs (bs : List (V × List Int)) : List (V × List Int) := bs.mergeSort fun p q => MP.lotLe p.2 q.2
theorem Grow.keep {P : Addr} {q : Str} {H H' : Hp} (g : Grow P q H H') {ps : Array Value} (hP : H P = some (.tbl ps)) : ExtN H H' := by
  rcases g.or with e | ⟨ps', c, h1, h2, h3, e, _⟩
  · rw [e]
    exact ExtN.refl H
  · intro b o hb n
    rw [e, upd_ne (ne_of_none hb h2), upd_ne (fun z => n ps (Option.some.inj (hb.symm.trans (by rw [z]; exact hP))))]
    exact hb
theorem sqL_ext {K : PySem.W.Frag} {H H' : Hp} {a : Addr} {xs : List V} (e : ExtN H H') (h : SqL K H a xs) : SqL K H' a xs := by
  rcases h with (h | ⟨o, h⟩) | h
  · exact .inl (.inl (e _ _ h (fun ps z => by cases z)))
  · exact .inl (.inr ⟨o, e _ _ h (fun ps z => by cases z)⟩)
  · exact .inr h
theorem sqT_ext {K : PySem.W.Frag} {H H' : Hp} {a : Addr} {xs : List V} (e : ExtN H H') (h : SqT K H a xs) : SqT K H' a xs := by
  rcases h with (h | ⟨o, h⟩) | h
  · exact .inl (.inl (e _ _ h (fun ps z => by cases z)))
  · exact .inl (.inr ⟨o, e _ _ h (fun ps z => by cases z)⟩)
  · exact .inr h
theorem Lots.ext {K : PySem.W.Frag} {H H' : Hp} {bs : List (V × List Int)} (e : ExtN H H') (h : Lots K H bs) : Lots K H' bs := fun p hp => by
  obtain ⟨b, h1, h2⟩ := h p hp
  exact ⟨b, h1, sqT_ext e h2⟩
def tSrt (K : PySem.W.Frag) (P : Addr) (q : Str) (t : TE) : TE := fun σ H Q => t σ H fun x H1 => TabS H1 P q ∧ ∃ (a : Addr) (bs : List (V × List Int)), x = .ref a ∧ SqL K H1 a (bs.map (·.1)) ∧ Lots K H1 bs ∧
  ∀ H2 p, Grow P q H1 H2 → TabS H2 P q → H2 p = none → Q (.ref p) (upd H2 p (.lst ((srtBs bs).map (·.1))))
section
variable {X : Cx}
theorem lots_each {pins : List (Addr × Obj)} {σ : L2.St} {H : Hp} {s : Shared} (I : Inv X pins σ H s) : ∀ {bs : List (V × List Int)} {its : List Value}, Vals (bs.map (·.1)) its → Lots X.K H bs → PySem.W.EachIs (LotV s.heap) its bs
  | [], _, r, _ => by
    cases r
    exact .nil
  | p :: bs, _, r, h => by
    obtain ⟨b, e1, e2⟩ := h p List.mem_cons_self
    rw [List.map_cons] at r
    cases r with
    | cons r1 r2 =>
      rw [e1] at r1
      obtain ⟨its, rv, ht, hz⟩ := I.tuple e2
      refine .cons ⟨b, its.toArray, r1, e1, ht, rv.ints, ?_⟩ (lots_each I r2 fun p hp => h p (List.mem_cons_of_mem _ hp))
      rw [List.size_toArray, ← rv.length]
      exact hz
theorem each_vals {h : Heap} : ∀ {bs : List (V × List Int)} {its : List Value}, PySem.W.EachIs (LotV h) its bs → Vals (bs.map (·.1)) its
  | [], _, .nil => .nil
  | p :: bs, _, .cons ⟨b, its, e1, e2, _⟩ t => by
    rw [List.map_cons, e2, e1]
    exact .cons rfl (each_vals t)
theorem pe_srt {e : Expr} {te : TE} {y : Str} {params : Arguments} {body : Expr} {scope : Scope} {c P : Addr} {k : Nat} {px lpos kp pos : Pos} (L : LotL y scope body) (hg : Gl X "sorted") (hm : X.mg "sorted" = none) (hl : X.mg "len" = none) (hr : Room k X.A) (hs : isStar e = false)
    (TB : TabB X.base X.mg c P) (hcode : X.env.code = .ref c) (hdef : defaultsOf params X.env = ([], []))
    (hbind : ∀ (q : Str) (pm cv ctv v : Value), bindArgs (PySem.W.kla_fn "<lambda>" q params body scope [] pm cv ctv) ⟨[v], []⟩ = pure [(y, v)]) (he : PE X e te) :
    PE X (.Call (.Name "sorted" px) [e] [⟨some "key", .Lambda params body scope lpos, kp⟩] pos) (tSrt X.K P (X.env.qual ++ "<lambda>") te) := by
  refine ⟨fun pins s σ H Q I h => ?_⟩
  refine wpAny_Call_Name_kw (ld_blt I hg hm boot_sorted ?_ (by decide) (by decide))
  refine callWith_kw ?_ (by rw [starEach_cons hs]; rfl) (by rw [starEach_cons hs]; rfl)
  rw [starEach_cons hs]
  show wpAny _ _ (spliced ((false, eval e X.env) :: [])) _ _ s
  refine Calls.spliced_cons (thn (he.run pins s σ H _ I h) fun u s1 ⟨x, H1, I1, r1, q1⟩ => Calls.spliced_nil ?_)
  obtain ⟨hT, a, bs, rfl, hL, hB, q2⟩ := q1
  cases r1
  refine kws_cons ?_
  refine lot_make I1 TB hcode hT hdef L.free fun f c' pm ctv H2 s2 I2 gr hT2 hf hc' => ?_
  refine kws_nil ?_
  show wpAny _ _ (call (.builtin "sorted") [.ref a] [(Str.ofString "key", .ref f)]) _ _ s2
  obtain ⟨ps, hP, _⟩ := hT
  have ex := gr.keep hP
  obtain ⟨its, rv, pl, hz⟩ := I2.list (sqL_ext ex hL)
  have hZ : bs.length ≤ sizeLine := by rw [List.length_map] at hz; exact hz
  have hun : ∀ p ∈ bs, X.A.units + 2 + (lotK p.2).depth < cLine := fun p _ => by
    have := lotK_depth p.2
    have := hr.un
    omega
  refine PySem.W.sorted_key_data (b := false) (fun p : V × List Int => lotK p.2) pl.isList (lots_each I2 rv (hB.ext ex)) (lotK_alike _ bs) (lotK_sortable _ bs) hZ hun (ksk_s1 _ _) (fun _ => ksk_l1 _ _) (fun _ => ksk_t1 _ _)
    (fun v p hR hp h tk kp => ?_) fun out ep h' tk kp fr hD hlen hE => ?_
  · obtain ⟨b, its, e1, e2, e3, e4, e5⟩ := hR
    rw [e1]
    exact lot_turn (A := X.A.in1.in1) I2 L hl hr.depth hf hc' (fun v => hbind _ _ _ _ v) e3 e4 e5 kp
  · rw [dataLe_lot (fun p : V × List Int => p.2)] at hE
    have rv' : Vals ((srtBs bs).map (·.1)) out := each_vals hE
    have hln : ((srtBs bs).map (·.1)).length ≤ sizeLine := by
      unfold srtBs
      rw [List.length_map, List.length_mergeSort]
      exact hZ
    exact ⟨.ref _, upd H2 (s2.heap.objs.size + 1) (.lst ((srtBs bs).map (·.1))), I2.laid (t' := tk) kp (Nat.le_succ _) ⟨hln, out, ep, rv', hD⟩, rfl, q2 _ _ gr hT2 (I2.hok.fresh (Nat.le_succ _))⟩
end
end MPS
end

section
set_option Elab.async false
set_option linter.all false
set_option maxRecDepth 100000
set_option maxHeartbeats 1000000
set_option autoImplicit false
namespace MPS
open PySem PySem.Spec PyProof.Rows L2
section
variable {X : Cx} {G : Gc} {W : EW} {a b c e : Expr} {es : List Expr} {fa fb fc : Ef} {fs : Efs} {pos : Pos}
/-! slices -/
def TOv (G : Gc) (W : EW) (f : List MP.SV → List MP.O → MP.R (Option Int)) : TO := fun σ H Q => ∃ w, Good G w σ H ∧ EPost G (fun _ _ (o : Option Int) p => o = p) w σ (f w.rho w.h) Q (fun e w H => W e w σ H)
theorem po_imp {e : Option Expr} {t t' : TO} (h : PO X e t) (i : ∀ σ H Q, t' σ H Q → t σ H Q) : PO X e t' := ⟨fun p s σ H Q I q => h.run p s σ H Q I (i σ H Q q)⟩
theorem sound_po0 : PO X none (TOv G W (fun rho h => MP.optP false (fun h2 => fa rho h2) h)) := po_imp po_none fun σ H Q h => by
  obtain ⟨w, g, q⟩ := h
  exact EPost.here q g rfl
theorem sound_po1 (ha : PE X a (TEv G W fa)) : PO X (some a) (TOv G W (fun rho h => MP.optP true (fun h2 => fa rho h2) h)) := po_imp (po_some ha) fun σ H Q h => by
  obtain ⟨w, g, q⟩ := h
  refine ⟨w, g, (EPost.bind (Rl := VR G) (f := fun x h1 => match x with
    | .int i => .ok (some i) h1
    | _ => .bad) q).imp fun v h1 m1 F1 H1 x e1 p1 s1 g1 r1 q1 => ?_⟩
  obtain ⟨v', h1', m1', F1', p1', s1', g1', r1', q2⟩ := q1
  cases r1' <;> first | (exact q2.elim) | skip
  exact ⟨_, rfl, EPost.here q2 g1' rfl⟩
def rSlAll (K : PySem.W.Frag) : V → Option Int → Option Int → Hp → VK → Prop := fun x lo hi H Q => (rSlL K x lo hi H Q ∨ rSlA K x lo hi H Q) ∨ (∃ z, x = .str z ∧ z.length ≤ sizeLine ∧ Q (.str (cutS z lo hi)) H)
theorem sl_all : SlR X (rSlAll X.K) := (sl_list.or sl_tupA).or sl_str
theorem cutS_eq (s : List Nat) (lo hi : Option Int) : cutS ⟨s.toArray⟩ lo hi = ⟨(MP.cut s lo hi).toArray⟩ := by
  unfold cutS MP.cut
  have e : ∀ (n d : Nat) (o : Option Int), MP.sIx n d o = HT.sIx n d o := fun n d o => by cases o <;> rfl
  rw [e, e]
  simp [Str.length]
theorem slc_ok {w : Wd} {σ : L2.St} {H : Hp} {v : MP.MV} {x : V} {u : MP.MV} {lo hi : Option Int} {Q : VK} (k : MP.SK) (hk : k ≠ .rev) (g : Good G w σ H) (r : VR G w.m w.F v x) (e : MP.slcV w.h k v lo hi = some u)
    (q : ∀ m' F' H' z, Pre w.m m' → Same w.F F' → Good G (w.at m' F' w.h) σ H' → VR G m' F' u z → Q z H') : rSlAll G.K x lo hi H Q := by
  replace e : MP.cutM w.h v lo hi = some u := by
    cases k <;> first | exact e | exact absurd rfl hk
  have gen : (MP.lookL w.h v).map (fun l => MP.MV.lst (MP.cut l lo hi)) = some u → rSlAll G.K x lo hi H Q := fun e => by
    obtain ⟨l, e1, rfl⟩ := Option.map_eq_some_iff.mp e
    obtain ⟨a, xs, rfl, h1, s1⟩ := look_list g r e1
    exact .inl (.inl ⟨a, xs, rfl, SqL.of h1, new_lst g (s1.cut lo hi) q⟩)
  cases r <;> first | (exact gen e) | skip
  case str s =>
    have e : (if s.length ≤ MP.LIM then some (MP.MV.str (MP.cut s lo hi)) else none) = some u := e
    split at e
    · rename_i hz
      cases e
      refine .inr ⟨_, rfl, by simpa [Str.length] using lim_line hz, ?_⟩
      rw [cutS_eq]
      exact same_here g (.str _) q
    · cases e
  case tup a vs xs ea rs =>
    have e : some (MP.MV.tup (MP.cut vs lo hi)) = some u := e
    cases e
    refine .inl (.inr ⟨a, xs, rfl, sqT_same g.fro ea, fun hz => ?_, fun _ => new_tup g (rs.cut lo hi) q⟩)
    refine same_here g (.tup ea ?_) q
    have z := rs.cut lo hi
    unfold cutV at z
    rw [hz.1, hz.2] at z
    simpa using z
  case rol a vs xs ea rs =>
    have e : some (MP.MV.lst (MP.cut vs lo hi)) = some u := e
    cases e
    exact .inl (.inl ⟨a, xs, rfl, g.fro.seq ea, new_lst g (rs.cut lo hi) q⟩)
theorem sound_slc {lo hi : Option Expr} {fl fh : List MP.SV → List MP.O → MP.R (Option Int)} {p2 : Pos} (k : MP.SK) (hk : k ≠ .rev) (hK : X.K = G.K) (ha : PE X a (TEv G W fa)) (hl : PO X lo (TOv G W fl)) (hh : PO X hi (TOv G W fh)) :
    PE X (.Subscript a (.Slice lo hi none p2) pos) (TEv G W (fun rho h => (fa rho h).bind fun x h1 => (fl rho h1).bind fun l h2 => (fh rho h2).bind fun u h3 => MP.R.of (MP.slcV h3 k x l u) h3)) := by
  refine pe_imp (pe_slice sl_all ha hl hh) fun σ H Q h => ?_
  obtain ⟨w, g, q⟩ := h
  refine ⟨w, g, (EPost.bind (Rl := VR G) q).imp fun v h1 m1 F1 H1 x e1 p1 s1 g1 r1 q1 => ?_⟩
  obtain ⟨v', h1', m1', F1', p1', s1', g1', r1', q2⟩ := q1
  refine ⟨_, g1', (EPost.bind (Rl := fun _ _ (o : Option Int) p => o = p) q2).imp fun u h2 m2 F2 H2 y e2 p2 s2 g2 r2 q3 => ?_⟩
  obtain ⟨u', h2', m2', F2', p2', s2', g2', r2', q4⟩ := q3
  refine ⟨_, g2', (EPost.bind (Rl := fun _ _ (o : Option Int) p => o = p) q4).imp fun t h3 m3 F3 H3 z e3 p3 s3 g3 r3 q5 => ?_⟩
  obtain ⟨t', h3', m3', F3', p3', s3', g3', r3', q6⟩ := q5
  obtain ⟨o, eo, q7⟩ := EPost.of q6
  subst r2' r3'
  rw [hK]
  exact slc_ok k hk g3' ((r1'.mono p2' s2').mono p3' s3') eo q7
theorem sound_rev {p1 p2 p3 : Pos} {k : Nat} (hK : X.K = G.K) (ha : PE X a (TEv G W fa)) (fl fh : List MP.SV → List MP.O → MP.R MP.MV) :
    PE X (.Subscript a (.Slice none none (some (.UnaryOp .USub (.Constant (.int 1) k p1) p2)) p3) pos) (TEv G W (fun rho h => (fa rho h).bind fun x h1 => (MP.optP false (fun h2 => fl rho h2) h1).bind fun l h2 => (MP.optP false (fun h3 => fh rho h3) h2).bind fun u h3 => MP.R.of (MP.slcV h3 .rev x l u) h3)) := by
  refine pe_imp (pe_revL ha) fun σ H Q h => ?_
  obtain ⟨w, g, q⟩ := h
  refine ⟨w, g, (EPost.bind (Rl := VR G) q).imp fun v h1 m1 F1 H1 x e1 p1 s1 g1 r1 q1 => ?_⟩
  obtain ⟨v', h1', m1', F1', p1', s1', g1', r1', q2⟩ := q1
  have q2 : EPost G (VR G) (w.at m1' F1' h1') σ (MP.R.of (MP.slcV h1' .rev v' none none) h1') Q (fun e w H => W e w σ H) := q2
  obtain ⟨o, eo, q7⟩ := EPost.of q2
  obtain ⟨l, e1, rfl⟩ := Option.map_eq_some_iff.mp (show (MP.lookL h1' v').map (fun l => MP.MV.lst l.reverse) = some o from eo)
  obtain ⟨a, xs, rfl, h1, s1⟩ := look_list g1' r1' e1
  exact ⟨a, xs, rfl, SqL.of h1, new_lst g1' s1.reverse q7⟩
/-! built-ins -/
def BOk (G : Gc) (r : List V → Hp → VK → Prop) (f : List MP.MV → List MP.O → MP.R MP.MV) : Prop := ∀ (w : Wd) (σ : L2.St) (H : Hp) (vs : List MP.MV) (xs : List V) (Q : VK) (W : MP.Exc → Wd → Hp → Prop), Good G w σ H → VRs G w.m w.F vs xs →
  EPost G (VR G) w σ (f vs w.h) Q W → r xs H Q
theorem sound_cb {r : List V → Hp → VK → Prop} {f : List MP.MV → List MP.O → MP.R MP.MV} (ok : BOk G r f) (h : PE X e (tCB r (TAv G W fs))) : PE X e (TEv G W (fun rho h => (fs rho h).bind fun xs h1 => f xs h1)) := by
  refine pe_imp h fun σ H Q h => ?_
  obtain ⟨w, g, q⟩ := h
  refine ⟨w, g, (EPost.bind (Rl := VRs G) q).imp fun v h1 m1 F1 H1 x e1 p1 s1 g1 r1 q1 => ?_⟩
  obtain ⟨v', h1', m1', F1', p1', s1', g1', r1', q2⟩ := q1
  exact ok _ σ H1 v' x Q _ g1' r1' q2
theorem call_or {f : Value} {r r' : List V → Hp → VK → Prop} (h : CallR X f r) (h' : CallR X f r') : CallR X f (fun xs H Q => r xs H Q ∨ r' xs H Q) := by
  intro pins s σ H xs us Q I rr q
  rcases q with q | q
  · exact h pins s σ H xs us Q I rr q
  · exact h' pins s σ H xs us Q I rr q
/-- of one value -/
theorem b_one {f : MP.Blt} {r : List V → Hp → VK → Prop} (h : ∀ (w : Wd) (σ : L2.St) (H : Hp) (v : MP.MV) (x : V) (Q : VK) (W : MP.Exc → Wd → Hp → Prop), Good G w σ H → VR G w.m w.F v x → EPost G (VR G) w σ (MP.blt1 f v w.h) Q W → r [x] H Q)
    (h2 : ∀ v u hp, MP.blt2 f v u hp = .bad) : BOk G r (MP.bltV f) := by
  intro w σ H vs xs Q W g r q
  cases r with
  | nil => exact q.elim
  | cons r t =>
    cases t with
    | nil => exact h w σ H _ _ Q W g r q
    | cons r2 t =>
      cases t with
      | nil =>
        have q : EPost G (VR G) w σ (MP.blt2 f _ _ w.h) Q W := q
        rw [h2] at q
        exact q.elim
      | cons _ _ => exact q.elim
theorem EPost.opt {α β : Type} {w : Wd} {σ : L2.St} {o : Option α} {f : α → MP.R MP.MV} {Q : VK} {W : MP.Exc → Wd → Hp → Prop} (q : EPost G (VR G) w σ (MP.optR o f) Q W) : ∃ a, o = some a ∧ EPost G (VR G) w σ (f a) Q W := by
  cases o with
  | none => exact q.elim
  | some a => exact ⟨a, rfl, q⟩
def rLen (K : PySem.W.Frag) : List V → Hp → VK → Prop := fun xs H Q => ∃ x n, xs = [x] ∧ LenV K x H n ∧ Q (.int n) H
theorem len_ok : BOk G (rLen G.K) (MP.bltV .len) := b_one (fun w σ H v x Q W g r q => by
  replace q : EPost G (VR G) w σ (MP.lenV v w.h) Q W := q
  have gen : EPost G (VR G) w σ (MP.optR (MP.lookS w.h v) fun l => .ok (.int l.length) w.h) Q W → rLen G.K [x] H Q := fun q => by
    obtain ⟨l, el, q⟩ := EPost.opt (β := Nat) q
    obtain ⟨a, ys, rfl, hs, rs⟩ := look_seq g r el
    refine ⟨_, l.length, rfl, ?_, EPost.here q g (.int _)⟩
    rcases hs with hs | hs
    · exact .inl ⟨ys, hs, rs.length⟩
    · exact .inr ⟨ys, hs, rs.length⟩
  cases r <;> first | (exact gen q) | skip
  rename_i s
  have q : EPost G (VR G) w σ (if s.length ≤ MP.LIM then (.ok (.int s.length) w.h : MP.R MP.MV) else .bad) Q W := q
  split at q
  · rename_i hz
    exact ⟨_, s.length, rfl, ⟨by simpa [Str.length] using lim_line hz, by simp [Str.length]⟩, EPost.here q g (.int _)⟩
  · exact q.elim) (fun v u hp => by cases v <;> cases u <;> rfl)
theorem abs_ok : BOk G (fun xs H Q => ∃ i, xs = [.int i] ∧ Q (.int (if i < 0 then -i else i)) H) (MP.bltV .abs) := b_one (fun w σ H v x Q W g r q => by
  cases r <;> first | (exact q.elim) | skip
  exact ⟨_, rfl, EPost.here q g (.int _)⟩) (fun v u hp => by cases v <;> cases u <;> rfl)
theorem one_list {f : MP.Blt} {r : List V → Hp → VK → Prop} {α : Type} (dec : List MP.MV → Option α) (res : α → MP.MV)
    (e : ∀ v h, MP.blt1 f v h = MP.optR ((MP.lookL h v).bind dec) fun ns => .ok (res ns) h) (e2 : ∀ v u h, MP.blt2 f v u h = .bad)
    (k : ∀ (w : Wd) (σ : L2.St) (H : Hp) (a : Addr) (l : List MP.MV) (ys : List V) (ns : α) (Q : VK), Good G w σ H → H a = some (.lst ys) → VRs G w.m w.F l ys → dec l = some ns → (∀ m' F' H' z, Pre w.m m' → Same w.F F' → Good G (w.at m' F' w.h) σ H' → VR G m' F' (res ns) z → Q z H') → r [.ref a] H Q) : BOk G r (MP.bltV f) :=
  b_one (fun w σ H v x Q W g r q => by
    rw [e] at q
    obtain ⟨ns, en, q⟩ := EPost.opt (β := Nat) q
    obtain ⟨l, el, en⟩ := Option.bind_eq_some_iff.mp en
    obtain ⟨a, ys, rfl, h1, rs⟩ := look_list g r el
    exact k w σ H a l ys ns Q g h1 rs en q) e2
theorem sum_ok : BOk G (rSum G.K) (MP.bltV .sum) := one_list MP.intsOf (fun ns => .int ns.sum) (fun v h => rfl) (fun v u hp => by cases v <;> cases u <;> rfl) fun w σ H a l ys ns Q g h1 rs en q =>
  ⟨a, ns, rfl, by rw [← rs.ints en]; exact SqL.of h1, same_here g (.int _) q⟩
theorem all_ok : BOk G (rAll G.K) (MP.bltV .all) := one_list MP.boolsOf (fun ns => .bl (ns.all id)) (fun v h => rfl) (fun v u hp => by cases v <;> cases u <;> rfl) fun w σ H a l ys ns Q g h1 rs en q =>
  ⟨a, ns, rfl, by rw [← rs.bools en]; exact SqL.of h1, same_here g (.bl _) q⟩
theorem any_ok : BOk G (rAny G.K) (MP.bltV .any) := one_list MP.boolsOf (fun ns => .bl (ns.any id)) (fun v h => rfl) (fun v u hp => by cases v <;> cases u <;> rfl) fun w σ H a l ys ns Q g h1 rs en q =>
  ⟨a, ns, rfl, by rw [← rs.bools en]; exact SqL.of h1, same_here g (.bl _) q⟩
theorem insI_perm (x : Int) : ∀ l : List Int, (MP.insI x l).Perm (x :: l)
  | [] => .refl _
  | y :: ys => by
    unfold MP.insI
    split
    · exact .refl _
    · exact ((insI_perm x ys).cons y).trans (.swap x y ys)
theorem sortI_perm : ∀ l : List Int, (MP.sortI l).Perm l
  | [] => .refl _
  | x :: xs => (insI_perm x _).trans ((sortI_perm xs).cons x)
theorem insI_sorted (x : Int) : ∀ l : List Int, l.Pairwise (· ≤ ·) → (MP.insI x l).Pairwise (· ≤ ·)
  | [], _ => by simp [MP.insI]
  | y :: ys, h => by
    unfold MP.insI
    have h' := List.pairwise_cons.mp h
    split
    · rename_i hx
      refine List.pairwise_cons.mpr ⟨fun z hz => ?_, h⟩
      rcases List.mem_cons.mp hz with rfl | hz
      · exact hx
      · exact Int.le_trans hx (h'.1 z hz)
    · rename_i hx
      refine List.pairwise_cons.mpr ⟨fun z hz => ?_, insI_sorted x ys h'.2⟩
      rcases List.mem_cons.mp ((insI_perm x ys).mem_iff.mp hz) with rfl | hz
      · omega
      · exact h'.1 z hz
theorem sortI_sorted : ∀ l : List Int, (MP.sortI l).Pairwise (· ≤ ·)
  | [] => .nil
  | x :: xs => insI_sorted x _ (sortI_sorted xs)
theorem sorted_ok : BOk G (rSortedI G.K) (MP.bltV .sorted) := one_list MP.intsOf (fun ns => .lst ((MP.sortI ns).map .int)) (fun v h => rfl) (fun v u hp => by cases v <;> cases u <;> rfl) fun w σ H a l ys ns Q g h1 rs en q => by
  refine ⟨a, ns, rfl, by rw [← rs.ints en]; exact SqL.of h1, fun ns' p pm sd n => ?_⟩
  have e : ns' = MP.sortI ns := PySem.W.ksm_same (pm.trans (sortI_perm ns).symm) sd (sortI_sorted ns)
  subst e
  exact new_lst g (VRs.ofInts _) q p n
theorem max_ok : BOk G (fun xs H Q => ∃ i j, xs = [.int i, .int j] ∧ Q (.int (if j > i then j else i)) H) (MP.bltV .max) := by
  intro w σ H vs xs Q W g r q
  cases r with
  | nil => exact q.elim
  | cons r t =>
    cases t with
    | nil => exact q.elim
    | cons r2 t =>
      cases t with
      | cons _ _ => exact q.elim
      | nil =>
        cases r <;> first | (exact q.elim) | skip
        cases r2 <;> first | (exact q.elim) | skip
        exact ⟨_, _, rfl, EPost.here q g (.int _)⟩
theorem min_fold (ns : List Int) : ∀ n m : Int, m ∈ n :: ns → (∀ y ∈ n :: ns, m ≤ y) → MP.minI n ns = m := by
  unfold MP.minI
  induction ns with
  | nil =>
    intro n m h _
    simpa using (List.mem_singleton.mp h).symm
  | cons k ns ih =>
    intro n m h l
    rw [List.foldl_cons]
    refine ih _ m ?_ fun y hy => ?_
    · have hk := l k (by simp)
      have hn := l n (by simp)
      rcases List.mem_cons.mp h with rfl | h
      · split
        · omega
        · simp
      · rcases List.mem_cons.mp h with rfl | h
        · split
          · simp
          · have : m = n := by omega
            subst this
            simp
        · exact List.mem_cons_of_mem _ h
    · rcases List.mem_cons.mp hy with rfl | hy
      · have hk := l k (by simp)
        have hn := l n (by simp)
        split <;> omega
      · exact l y (by simp [hy])
def rMinAll (K : PySem.W.Frag) : List V → Hp → VK → Prop := fun xs H Q => (∃ i j, xs = [.int i, .int j] ∧ Q (.int (if j < i then j else i)) H) ∨ rMin K xs H Q
theorem min_ok : BOk G (rMinAll G.K) (MP.bltV .min) := by
  intro w σ H vs xs Q W g r q
  cases r with
  | nil => exact q.elim
  | cons r t =>
    cases t with
    | nil =>
      rename_i v x
      have q : EPost G (VR G) w σ (MP.optR ((MP.lookL w.h v).bind MP.intsOf) fun ns => (match ns with
        | n :: ns => .ok (.int (MP.minI n ns)) w.h
        | _ => .bad)) Q W := q
      obtain ⟨ns, en, q⟩ := EPost.opt (β := Nat) q
      obtain ⟨l, el, en⟩ := Option.bind_eq_some_iff.mp en
      obtain ⟨a, ys, rfl, h1, rs⟩ := look_list g r el
      cases ns with
      | nil => exact q.elim
      | cons n ns =>
        refine .inr ⟨a, n :: ns, rfl, by rw [← rs.ints en]; exact SqL.of h1, by simp, fun m hm hl => ?_⟩
        have e := min_fold ns n m hm hl
        have q : EPost G (VR G) w σ (.ok (.int (MP.minI n ns)) w.h) Q W := q
        rw [e] at q
        exact EPost.here q g (.int _)
    | cons r2 t =>
      cases t with
      | cons _ _ => exact q.elim
      | nil =>
        cases r <;> first | (exact q.elim) | skip
        cases r2 <;> first | (exact q.elim) | skip
        exact .inl ⟨_, _, rfl, EPost.here q g (.int _)⟩
theorem tuple_ok : BOk G (fun xs H Q => ∃ p ys, xs = [.ref p] ∧ ((SqL G.K H p ys ∧ ∀ l, H l = none → Q (.ref l) (upd H l (.tup ys))) ∨ (SqT G.K H p ys ∧ Q (.ref p) H))) (MP.bltV .tuple) := b_one (fun w σ H v x Q W g r q => by
  replace q : EPost G (VR G) w σ (MP.optR (MP.lookS w.h v) fun l => .ok (.tup l) w.h) Q W := q
  obtain ⟨l, el, q⟩ := EPost.opt (β := Nat) q
  have gen : MP.lookL w.h v = some l → ∃ p ys, [x] = [.ref p] ∧ ((SqL G.K H p ys ∧ ∀ l, H l = none → Q (.ref l) (upd H l (.tup ys))) ∨ (SqT G.K H p ys ∧ Q (.ref p) H)) := fun el => by
    obtain ⟨a, ys, rfl, h1, rs⟩ := look_list g r el
    exact ⟨_, _, rfl, .inl ⟨SqL.of h1, new_tup g rs q⟩⟩
  cases r <;> first | (exact gen el) | skip
  rename_i ea rs
  cases el
  exact ⟨_, _, rfl, .inr ⟨sqT_same g.fro ea, EPost.here q g (.tup ea rs)⟩⟩) (fun v u hp => by cases v <;> cases u <;> rfl)
theorem list_ok : BOk G (fun xs H Q => ∃ p ys, xs = [.ref p] ∧ (SqL G.K H p ys ∨ SqT G.K H p ys) ∧ ∀ l, H l = none → Q (.ref l) (upd H l (.lst ys))) (MP.bltV .list) := b_one (fun w σ H v x Q W g r q => by
  have q : EPost G (VR G) w σ (MP.optR (MP.lookS w.h v) fun l => .ok (.lst l) w.h) Q W := q
  obtain ⟨l, el, q⟩ := EPost.opt (β := Nat) q
  obtain ⟨a, ys, rfl, h1, rs⟩ := look_seq g r el
  exact ⟨_, _, rfl, h1, new_lst g rs q⟩) (fun v u hp => by cases v <;> cases u <;> rfl)
theorem listR_ok : BOk G (fun xs H Q => ∃ p ys, xs = [.ref p] ∧ (SqL G.K H p ys ∨ SqT G.K H p ys) ∧ ∀ l, H l = none → Q (.ref l) (upd H l (.lst ys))) (MP.bltV .listR) := b_one (fun w σ H v x Q W g r q => by
  have q : EPost G (VR G) w σ (MP.optR (MP.lookS w.h v) fun l => .ok (.ref w.h.length) (w.h ++ [.lst l])) Q W := q
  obtain ⟨l, el, q⟩ := EPost.opt (β := Nat) q
  obtain ⟨a, ys, rfl, h1, rs⟩ := look_seq g r el
  exact ⟨_, _, rfl, h1, new_ref g rs q⟩) (fun v u hp => by cases v <;> cases u <;> rfl)
theorem int_ok : BOk G (fun xs H Q => (∃ i, xs = [.int i] ∧ Q (.int i) H) ∨ ∃ k, xs = [.bl k] ∧ Q (.int (if k then 1 else 0)) H) (MP.bltV .int) := b_one (fun w σ H v x Q W g r q => by
  cases r <;> first | (exact q.elim) | skip
  case bl b => exact .inr ⟨_, rfl, EPost.here q g (.int _)⟩
  case int i => exact .inl ⟨_, rfl, EPost.here q g (.int _)⟩) (fun v u hp => by cases v <;> cases u <;> rfl)
end
end MPS
end

section
set_option Elab.async false
set_option linter.all false
set_option maxRecDepth 100000
set_option maxHeartbeats 1000000
set_option autoImplicit false
namespace MPS
open PySem PySem.Spec PyProof.Rows L2
/-! ### exceptions as told -/
def ExR (G : Gc) (m : List Addr) (F H : Hp) (e : MP.Exc) (cls : Value) (d : Option Addr) : Prop := cls = .ref (G.X e.cls) ∧ match e.arg with
  | none => d = none
  | some (f, v) => ∃ dx x, d = some dx ∧ H dx = some (.xd [(G.fn f, x)]) ∧ VR G m F v x
/-- the wish in the small language -/
def WOf (G : Gc) (Wx : WX) : EW := fun e w σ H => ∀ cls d, ExR G w.m w.F H e cls d → Wx cls d σ H
/-- a def's promise, by what the evaluator tells -/
def spOf (G : Gc) (fn : MP.Fn) : Sp := fun vs H Q E => ∃ (w : Wd) (σ : L2.St) (args : List MP.MV), Good G w σ H ∧ VRs G w.m w.F args vs ∧
  EPost G (VR G) w σ (fn args w.h) Q (fun e w H => ∀ cls d, ExR G w.m w.F H e cls d → E cls d H)
/-! ### frames -/
section
variable {G : Gc} {w u : Wd} {σ τ : L2.St} {H H' : Hp}
/-- behind a callee that may change the small heap -/
theorem Good.back (g : Good G w σ H) (k : Good G u τ H') (e1 : u.A0 = w.m) (e2 : u.m0 = w.m) (e3 : u.F0 = w.F) (e4 : u.H0 = H) : Good G (w.at u.m u.F u.h) σ H' ∧ Pre w.m u.m ∧ Same w.F u.F := by
  have pr : Pre w.m u.m := e2 ▸ k.o0
  have sF : Same w.F u.F := e3 ▸ k.o1
  have keep : ∀ a o, a ∉ w.m → a ∉ G.tabs → H a = some o → H' a = some o := fun a o n n2 e => k.o2 a o (by rw [e1]; exact n) n2 (by rw [e4]; exact e)
  refine ⟨⟨k.fro, k.len, k.nod, k.obj, k.map, fun a o e => ?_, g.slo.mono rfl rfl pr sF, g.o0.trans pr, g.o1.trans sF, fun a o n nT e => ?_, fun a h => ?_, g.o4, fun a h => ?_, k.tab.to (fun a h => (k.tab.at h).2.2.1) (fun a h => (g.tab.at h).2.2.2)⟩, pr, sF⟩
  · obtain ⟨h1, h2, h3, h4⟩ := g.own a o e
    cases q : H a with
    | none => exact absurd q (h1.there h2)
    | some x =>
      have q' := keep a x h4 (g.tab.ne_U e) q
      refine ⟨h1.mono pr sF (q'.trans q.symm), h2, ?_, fun z => ?_⟩
      · cases z : u.F a with
        | none => rfl
        | some y =>
          rcases k.o5 a (by rw [z]; simp) with z | z | z
          · rw [e3] at z; exact absurd h3 z
          · rw [e1] at z; exact absurd z h4
          · rw [e4, q] at z; cases z
      · rcases k.o3 a z with z | z
        · rw [e1] at z; exact h4 z
        · rw [e4, q] at z; cases z
  · refine keep a o (fun z => ?_) nT (g.o2 a o n nT e)
    rcases g.o3 a z with z | z
    · exact n z
    · rw [e] at z; cases z
  · rcases k.o3 a h with z | z
    · rw [e1] at z; exact g.o3 a z
    · rw [e4] at z; exact g.noH0 z
  · rcases k.o5 a h with z | z | z
    · rw [e3] at z; exact g.o5 a z
    · rw [e1] at z; exact .inr (g.o3 a z)
    · rw [e4] at z; exact .inr (g.noH0 z)
/-- behind a callee that has a heap of its own -/
theorem Good.back0 (g : Good G w σ H) (k : Good G u τ H') (e1 : u.A0 = []) (e3 : u.F0 = w.F) (e4 : u.H0 = H) : Good G (w.at w.m u.F w.h) σ H' ∧ Same w.F u.F := by
  have sF : Same w.F u.F := e3 ▸ k.o1
  have keep : ∀ a o, a ∉ G.tabs → H a = some o → H' a = some o := fun a o nT e => k.o2 a o (by rw [e1]; simp) nT (by rw [e4]; exact e)
  have keepE : ∀ a, a ∉ G.tabs → H a ≠ none → H' a = H a := fun a nT n => by
    cases q : H a with
    | none => exact absurd q n
    | some x => exact keep a x nT q
  have noF : ∀ a, H a ≠ none → w.F a = none → u.F a = none := fun a n f => by
    cases z : u.F a with
    | none => rfl
    | some y =>
      rcases k.o5 a (by rw [z]; simp) with z | z | z
      · rw [e3] at z; exact absurd f z
      · rw [e1] at z; cases z
      · rw [e4] at z; exact absurd z n
  refine ⟨⟨k.fro, g.len, g.nod, fun i o a h1 h2 h3 => ?_, fun a h => ?_, fun a o e => ?_, g.slo.mono rfl rfl (Pre.refl _) sF, g.o0, g.o1.trans sF, fun a o n nT e => keep a o nT (g.o2 a o n nT e), g.o3, g.o4, fun a h => ?_, k.tab.to (fun a h => (g.tab.at h).2.2.1) (fun a h => (g.tab.at h).2.2.2)⟩, sF⟩
  · obtain ⟨q1, q2⟩ := g.obj i o a h1 h2 h3
    have n := g.map a (List.mem_of_getElem? h2)
    exact ⟨q1.mono (Pre.refl _) sF (keepE a (g.tab.ne_m (List.mem_of_getElem? h2)) n), noF a n q2⟩
  · rw [keepE a (g.tab.ne_m h) (g.map a h)]
    exact g.map a h
  · obtain ⟨h1, h2, h3, h4⟩ := g.own a o e
    have n := h1.there h2
    exact ⟨h1.mono (Pre.refl _) sF (keepE a (g.tab.ne_U e) n), h2, noF a n h3, h4⟩
  · rcases k.o5 a h with z | z | z
    · rw [e3] at z; exact g.o5 a z
    · rw [e1] at z; cases z
    · rw [e4] at z; exact .inr (g.noH0 z)
/-- a world of its own, nothing told but what is frozen -/
def Wd.bare (F H : Hp) : Wd := ⟨[], [], F, H, [], fun _ => none, [], F, []⟩
theorem Good.bare (g : Good G w σ H) : Good G (Wd.bare w.F H) [] H :=
  ⟨g.fro, rfl, .nil, fun i o a h => by simp [Wd.bare] at h, fun a h => by simp [Wd.bare] at h, fun a o h => by simp [Wd.bare] at h, ⟨rfl, fun i v h => by simp [Wd.bare] at h, fun i v h => by simp [Wd.bare] at h, fun i j o o' a h => by simp [Wd.bare] at h⟩,
    Pre.refl _, Same.refl _, fun _ _ _ _ h => h, fun a h => by simp [Wd.bare] at h, fun a h => by simp [Wd.bare] at h, fun a h => .inl h, g.tab.to (fun a h z => by simp [Wd.bare] at z) (fun a h => rfl)⟩
end
/-! ### calls -/
section
variable {X : Cx} {G : Gc} {Wx : WX} {a b c e : Expr} {es : List Expr} {fa fb fc : Ef} {fs : Efs} {pos : Pos}
/-- the call of a def by its promise -/
theorem call_sp {fn : MP.Fn} {p : Bool} {w : Wd} {σ : L2.St} {H : Hp} {vs : List V} {args : List MP.MV} {Q : VK} (g : Good G w σ H) (r : VRs G w.m w.F args vs) (q : EPost G (VR G) w σ (MP.callFn fn p args w.h) Q (fun e w H => WOf G Wx e w σ H)) :
    spOf G fn vs H Q (WE Wx σ) := by
  cases p with
  | false => exact ⟨w, σ, args, g, r, q⟩
  | true =>
    have q : EPost G (VR G) w σ (if MP.noRefs args then (match fn args [] with
      | .ok v _ => if MP.noRef v then .ok v w.h else .bad
      | .ex e _ => (match e.arg with
        | none => .ex e w.h
        | some (_, v) => if MP.noRef v then .ex e w.h else .bad)
      | .bad => .bad) else .bad) Q (fun e w H => WOf G Wx e w σ H) := q
    split at q
    · rename_i hn
      refine ⟨Wd.bare w.F H, [], args, g.bare, r.bare [] hn, ?_⟩
      show EPost G (VR G) (Wd.bare w.F H) [] (fn args []) Q _
      cases ef : fn args [] with
      | ok v hh =>
        rw [ef] at q
        have q : EPost G (VR G) w σ (if MP.noRef v then .ok v w.h else .bad) Q (fun e w H => WOf G Wx e w σ H) := q
        split at q
        · rename_i hv
          intro m' F' H' x pr sF gk rv
          obtain ⟨gb, sF⟩ := g.back0 gk rfl rfl rfl
          exact q w.m F' H' x (Pre.refl _) sF gb (rv.bare w.m hv)
        · exact q.elim
      | ex e hh =>
        rw [ef] at q
        intro m' F' H' pr sF gk cls d xr
        obtain ⟨gb, sF⟩ := g.back0 gk rfl rfl rfl
        obtain ⟨ec, ea⟩ := e
        cases ea with
        | none => exact q w.m F' H' (Pre.refl _) sF gb cls d xr
        | some fv =>
          obtain ⟨f, v⟩ := fv
          have q : EPost G (VR G) w σ (if MP.noRef v then .ex ⟨ec, some (f, v)⟩ w.h else .bad) Q (fun e w H => WOf G Wx e w σ H) := q
          split at q
          · rename_i hv
            obtain ⟨h1, dx, x, h2, h3, h4⟩ := xr
            exact q w.m F' H' (Pre.refl _) sF gb cls d ⟨h1, dx, x, h2, h3, h4.bare w.m hv⟩
          · exact q.elim
      | bad =>
        rw [ef] at q
        exact q.elim
    · exact q.elim
/-- what is known of a callee by its name -/
structure CallOk (X : Cx) (G : Gc) (lv : Nat) (x : Str) (fn : MP.Fn) : Prop where
  ex : ∃ (f : Addr) (fd : FuncData) (ps : List Str) (sp : Sp) (dvs : List V) (ds : List Value), FnOk X.prog X.w X.K X.mg X.base (L2.CX X.prog X.w) lv f fd ps sp ∧ X.mg x = some (.ref f) ∧ PySem.W.keepIn X.K (.ref f) = true ∧ Binds X.K fd ps ds ∧ Vals dvs ds ∧
    ∀ vs H Q E, spOf G fn vs H Q E → sp (vs ++ dvs) H Q E
theorem run_fnD {CX : CXT} {k : Nat} {f : Addr} {fd : FuncData} {ps : List Str} {sp : Sp} {dvs : List V} {ds : List Value} {E : XK} {pins : List (Addr × Obj)} {σ : L2.St} {H : Hp} {s : Shared} {Q : VK} {us : List Value} {vs : List V} (F : FnOk X.prog X.w X.K X.mg X.base CX k f fd ps sp) (hr : Room k X.A) (hb : Binds X.K fd ps ds) (hd : Vals dvs ds) (hx : PassesAt CX X σ E)
    (I : Inv X pins σ H s) (r : Vals vs us) (h : sp (vs ++ dvs) H Q E) : wpAny (model X.prog X.w) X.A (call (.ref f) us) (EP X pins σ Q) X.xe s := by
  have r2 : Vals (vs ++ dvs) (us ++ ds) := r.append hd
  have hl : (us ++ ds).length = ps.length := by rw [← r2.length]; exact F.len _ _ _ _ h
  refine wpAny_call (codeAny_mono (F.run X.A X.stack s H ⟨us, []⟩ (us ++ ds) (vs ++ dvs) Q E hr I.env0 (hb s us I.kIn hl) r2 h) fun r s' hq => ?_)
  cases r with
  | error e => exact hx pins H s e s' I hq
  | ok fl =>
    cases fl with
    | ret u => exact I.after hq
    | next => exact False.elim hq
    | brk => exact False.elim hq
    | cont => exact False.elim hq
theorem noStar_cons (h : noStar (e :: es) = true) : isStar e = false ∧ noStar es = true := by
  unfold noStar at h ⊢
  simp only [List.all_cons, Bool.and_eq_true, Bool.not_eq_true'] at h
  exact h
theorem notStar_any {env : Env} : ∀ es : List Expr, noStar es = true → (backTo pos (starEach es env)).any (·.1) = false
  | [], _ => rfl
  | e :: es, h => by
    obtain ⟨h1, h2⟩ := noStar_cons h
    rw [starEach_cons h1]
    have ih := notStar_any (env := env) es h2
    unfold backTo at ih ⊢
    simp only [List.map_cons, List.any_cons, ih, Bool.or_false]
theorem sound_call {lv : Nat} {x : Str} {fn : MP.Fn} {p : Bool} {px : Pos} (C : CallOk X G lv x fn) (hr : Room lv X.A) (tk : Takes X Wx) (hg : Gl X x) (hdb : (x == ("__debug__" : Str)) = false) (hs : noStar (e :: es) = true)
    (ha : PA X (e :: es) (TAv G (WOf G Wx) fs)) : PE X (.Call (.Name x px) (e :: es) [] pos) (TEv G (WOf G Wx) (fun rho h => (fs rho h).bind fun xs h1 => MP.callFn fn p xs h1)) := by
  obtain ⟨f, fd, ps, sp, dvs, ds, F, hm, hk, hb, hd, hi⟩ := C.ex
  have hs' := noStar_cons hs
  refine ⟨fun pins s σ H Q I h => ?_⟩
  obtain ⟨w, g, q⟩ := h
  refine wpAny_Call_Name_kw (ld_glob I hg hm ?_ hdb)
  refine PySem.W.callWith_K (h₀ := X.base) I.ok.mod.kin hk (thn (ha.run pos pins s σ H (fun vs H1 => sp (vs ++ dvs) H1 Q (WE Wx σ)) I ⟨w, g, (EPost.bind (Rl := VRs G) q).imp fun v h1 m1 F1 H1 x e1 p1 s1 g1 r1 q1 => ?_⟩) fun us s1 ⟨vs, H1, I1, r, q⟩ => ⟨I1.kIn, ?_⟩) (starEach_cons hs'.1) (notStar_any es hs'.2)
  · obtain ⟨v', h1', m1', F1', p1', s1', g1', r1', q2⟩ := q1
    exact hi _ _ _ _ (call_sp g1' r1' q2)
  · exact run_fnD F hr hb hd (passAt tk σ) I1 r q
theorem sound_call0 {lv : Nat} {x : Str} {fn : MP.Fn} {p : Bool} {px : Pos} (C : CallOk X G lv x fn) (hr : Room lv X.A) (tk : Takes X Wx) (hg : Gl X x) (hdb : (x == ("__debug__" : Str)) = false) :
    PE X (.Call (.Name x px) [] [] pos) (TEv G (WOf G Wx) (fun rho h => MP.callFn fn p [] h)) := by
  obtain ⟨f, fd, ps, sp, dvs, ds, F, hm, hk, hb, hd, hi⟩ := C.ex
  refine ⟨fun pins s σ H Q I h => ?_⟩
  obtain ⟨w, g, q⟩ := h
  refine wpAny_Call_Name_kw (ld_glob I hg hm ?_ hdb)
  exact PySem.W.callWith_K0 I.kIn hk (run_fnD (us := []) (vs := []) F hr hb hd (passAt tk σ) I .nil (hi _ _ _ _ (call_sp g .nil q)))
/-! #### with keywords -/
structure CallKOk (X : Cx) (G : Gc) (lv : Nat) (x : Str) (n : Nat) (ks : List Str) (pat : List MP.Pa) (fn : MP.Fn) : Prop where
  ex : ∃ (f : Addr) (fd : FuncData) (ps : List Str) (g : List Value → List Value → List Value) (gV : List V → List V → List V), FnOk X.prog X.w X.K X.mg X.base (L2.CX X.prog X.w) lv f fd ps (spOf G fn) ∧ X.mg x = some (.ref f) ∧ PySem.W.keepIn X.K (.ref f) = true ∧ KBn X.K fd ps n ks g gV ∧
    ∀ (m : List Addr) (F : Hp) (as bs args : List MP.MV) (vs zs : List V), VRs G m F as vs → VRs G m F bs zs → as.length = n → bs.length = ks.length → MP.pickP pat (as ++ bs) = some args → VRs G m F args (gV vs zs)
theorem run_fnK {CX : CXT} {k n : Nat} {f : Addr} {fd : FuncData} {ps ks : List Str} {sp : Sp} {E : XK} {g : List Value → List Value → List Value} {gV : List V → List V → List V} {pins : List (Addr × Obj)} {σ : L2.St} {H : Hp} {s : Shared} {Q : VK} {us ws : List Value} {vs zs : List V} (F : FnOk X.prog X.w X.K X.mg X.base CX k f fd ps sp) (hr : Room k X.A) (hb : KBn X.K fd ps n ks g gV) (hx : PassesAt CX X σ E)
    (I : Inv X pins σ H s) (r : Vals vs us) (rz : Vals zs ws) (l1 : vs.length = n) (l2 : zs.length = ks.length) (h : sp (gV vs zs) H Q E) : wpAny (model X.prog X.w) X.A (call (.ref f) us (ks.zip ws)) (EP X pins σ Q) X.xe s := by
  refine wpAny_call (codeAny_mono (F.run X.A X.stack s H ⟨us, ks.zip ws⟩ (g us ws) (gV vs zs) Q E hr I.env0 (hb.to s us ws I.kIn (r.length.symm.trans l1) (rz.length.symm.trans l2)) (hb.rel r rz) h) fun r s' hq => ?_)
  cases r with
  | error e => exact hx pins H s e s' I hq
  | ok fl =>
    cases fl with
    | ret u => exact I.after hq
    | next => exact False.elim hq
    | brk => exact False.elim hq
    | cont => exact False.elim hq
def kwN (kws : List Keyword) : List Str := kws.filterMap (·.arg)
def kwAll (kws : List Keyword) : Bool := kws.all fun k => k.arg.isSome
theorem kw_isSome {env : Env} : ∀ kws : List Keyword, kwAll kws = true → (backToKw pos (keywordEach kws env)).all (·.1.isSome) = true ∧ (backToKw pos (keywordEach kws env)).any (·.1.isNone) = false ∧ (backToKw pos (keywordEach kws env)).filterMap (·.1) = kwN kws
  | [], _ => ⟨rfl, rfl, rfl⟩
  | ⟨none, v, p⟩ :: kws, h => by cases h
  | ⟨some n, v, p⟩ :: kws, h => by
    obtain ⟨h1, h2, h3⟩ := kw_isSome (env := env) kws h
    unfold backToKw at h1 h2 h3 ⊢
    refine ⟨?_, ?_, ?_⟩
    · simpa [keywordEach] using h1
    · simpa [keywordEach] using h2
    · simpa [keywordEach, kwN] using h3
theorem optA {Rl : List Addr → Hp → MP.MV → V → Prop} {w : Wd} {σ : L2.St} {oo : Option (List MP.MV)} {f : List MP.MV → MP.R MP.MV} {Q : VK} {W : MP.Exc → Wd → Hp → Prop} (q : EPost G Rl w σ (MP.optR oo f) Q W) : ∃ a, oo = some a ∧ EPost G Rl w σ (f a) Q W := by
  cases oo with
  | none => exact q.elim
  | some a => exact ⟨a, rfl, q⟩
theorem sound_callK {lv n : Nat} {x : Str} {fn : MP.Fn} {p : Bool} {px : Pos} {kws : List Keyword} {pat : List MP.Pa} {gs : Efs} (C : CallKOk X G lv x n (kwN kws) pat fn) (hr : Room lv X.A) (tk : Takes X Wx) (hg : Gl X x) (hdb : (x == ("__debug__" : Str)) = false) (hs : noStar (e :: es) = true) (hka : kwAll kws = true)
    (ln : (e :: es).length = n) (lf : ∀ rho h xs h', fs rho h = .ok xs h' → xs.length = n) (lg : ∀ rho h xs h', gs rho h = .ok xs h' → xs.length = (kwN kws).length)
    (ha : PA X (e :: es) (TAv G (WOf G Wx) fs)) (hk2 : PK X kws (TAv G (WOf G Wx) gs)) : PE X (.Call (.Name x px) (e :: es) kws pos) (TEv G (WOf G Wx) (fun rho h => (fs rho h).bind fun xs h1 => (gs rho h1).bind fun ys h2 => MP.optR (MP.pickP pat (xs ++ ys)) fun args => MP.callFn fn p args h2)) := by
  obtain ⟨f, fd, ps, g, gV, F, hm, hk, hb, hi⟩ := C.ex
  have hs' := noStar_cons hs
  have hkw := kw_isSome (pos := pos) (env := X.env) kws hka
  refine ⟨fun pins s σ H Q I h => ?_⟩
  obtain ⟨w, gd, q⟩ := h
  refine wpAny_Call_Name_kw (ld_glob I hg hm ?_ hdb)
  refine PySem.W.callWith_KW (h₀ := X.base) I.ok.mod.kin hk hkw.1 (thn (ha.run pos pins s σ H (fun vs H1 => TAv G (WOf G Wx) gs σ H1 fun zs H2 => vs.length = n ∧ zs.length = (kwN kws).length ∧ spOf G fn (gV vs zs) H2 Q (WE Wx σ)) I ⟨w, gd, (EPost.bind (Rl := VRs G) q).imp fun v h1 m1 F1 H1 x e1 p1 s1 g1 r1 q1 => ?_⟩) fun us s1 ⟨vs, H1, I1, r, q⟩ => ?_) (by rw [notStar_any _ hs, hkw.2.1]; rfl) (starEach_cons hs'.1)
  · obtain ⟨v', h1', m1', F1', p1', s1', g1', r1', q2⟩ := q1
    have lx : x.length = n := by rw [← r1.length]; exact lf _ _ _ _ e1
    refine ⟨_, g1', (EPost.bind (Rl := VRs G) q2).imp fun u h2 m2 F2 H2 y e2 p2 s2 g2 r2 q3 => ?_⟩
    obtain ⟨u', h2', m2', F2', p2', s2', g2', r2', q4⟩ := q3
    obtain ⟨args, ea, q5⟩ := optA q4
    have ly : y.length = (kwN kws).length := by rw [← r2.length]; exact lg _ _ _ _ e2
    exact ⟨lx, ly, call_sp g2' (hi _ _ _ _ args _ _ (r1'.mono p2' s2') r2' (r1'.length.trans lx) (r2'.length.trans ly) ea) q5⟩
  · refine thn (hk2.run pos pins s1 σ H1 _ I1 q) fun ws s2 ⟨zs, H2, I2, rz, l1, l2, q2⟩ => ⟨I2.kIn, ?_⟩
    rw [hkw.2.2]
    exact run_fnK F hr hb (passAt tk σ) I2 r rz l1 l2 q2
end
end MPS
end

section
set_option Elab.async false
set_option linter.all false
set_option maxRecDepth 100000
set_option maxHeartbeats 1000000
namespace MPS
open PySem PySem.Spec PyProof.Rows L2 LamX
/-! ### sorted by lots, in the small language -/
theorem tabS_of {H F : Hp} {P : Addr} {q : Str} (t : TabF H F P q) (s : Same F H) : TabS H P q := by
  obtain ⟨ps, h1, h2, h3⟩ := t
  refine ⟨ps, h1, h2, fun pos cv hc => ?_⟩
  obtain ⟨c, e1, e2⟩ := h3 pos cv hc
  exact ⟨c, e1, s _ _ e2⟩
theorem TabF.at_ne {H F : Hp} {P p : Addr} {q : Str} (t : TabF H F P q) (n : H p = none) : P ≠ p := by
  obtain ⟨ps, h1, _⟩ := t
  intro z
  rw [z, n] at h1
  cases h1
/-- the tables have gone on -/
theorem Good.table {G : Gc} {w : Wd} {σ : L2.St} {H H' : Hp} {P : Addr} {q : Str} (g : Good G w σ H) (hT : (P, q) ∈ G.T) (hu : ∀ p ∈ G.T, p.1 = P → p.2 = q) (gr : Grow P q H H') : ∃ F', Same w.F F' ∧ Good G (w.at w.m F' w.h) σ H' := by
  have hPt : P ∈ G.tabs := List.mem_map.mpr ⟨_, hT, rfl⟩
  rcases gr.or with e | ⟨ps, c, h1, h2, h3, e, tri, am⟩
  · rw [e]
    exact ⟨w.F, Same.refl _, g⟩
  · have nF : w.F c = none := g.noF h2
    have sF : Same w.F (upd w.F c (CodeO c q)) := MPS.same_upd nF
    have at_ : ∀ a, a ≠ P → a ≠ c → H' a = H a := fun a n1 n2 => by rw [e, upd_ne n2, upd_ne n1]
    have nP : ∀ a, a ∉ G.tabs → a ≠ P := fun a h z => h (z ▸ hPt)
    have nc : ∀ a, H a ≠ none → a ≠ c := fun a h z => h (z ▸ h2)
    have keep : ∀ a, a ∉ G.tabs → H a ≠ none → H' a = H a := fun a n1 n2 => at_ a (nP a n1) (nc a n2)
    refine ⟨_, sF, ⟨fun a u h => ?_, g.len, g.nod, fun i u a e1 e2 e3 => ?_, fun a h => ?_, fun a u h => ?_, g.slo.mono rfl rfl (Pre.refl _) sF, g.o0, g.o1.trans sF, fun a u n1 n2 h => ?_, g.o3, g.o4, fun a h => ?_, fun p hp => ?_⟩⟩
    · have h : upd w.F c (CodeO c q) a = some u := h
      by_cases qa : a = c
      · rw [qa, upd_same] at h
        rw [qa, e, upd_same]
        exact h
      · rw [upd_ne qa] at h
        have nT : a ∉ G.tabs := fun z => by rw [(g.tab.at z).2.1] at h; cases h
        have h' := g.fro a u h
        rw [keep a nT (by rw [h']; simp)]
        exact h'
    · obtain ⟨k1, k2⟩ := g.obj i u a e1 e2 e3
      have hm := List.mem_of_getElem? e2
      have qa : a ≠ c := nc a (g.map a hm)
      exact ⟨k1.mono (Pre.refl _) sF (keep a (g.tab.ne_m hm) (g.map a hm)), by show upd w.F c (CodeO c q) a = none; rw [upd_ne qa]; exact k2⟩
    · rw [keep a (g.tab.ne_m h) (g.map a h)]
      exact g.map a h
    · obtain ⟨k1, k2, k3, k4⟩ := g.own a u h
      have qa : a ≠ c := nc a (k1.there k2)
      exact ⟨k1.mono (Pre.refl _) sF (keep a (g.tab.ne_U h) (k1.there k2)), k2, by show upd w.F c (CodeO c q) a = none; rw [upd_ne qa]; exact k3, k4⟩
    · have h' := g.o2 a u n1 n2 h
      rw [keep a n2 (by rw [h']; simp)]
      exact h'
    · by_cases qa : a = c
      · rw [qa]
        exact .inr (g.noH0 h2)
      · have h : upd w.F c (CodeO c q) a ≠ none := h
        rw [upd_ne qa] at h
        exact g.o5 a h
    · obtain ⟨k1, k2, k3, k4⟩ := g.tab p hp
      have qc : p.1 ≠ c := k1.at_ne h2
      refine ⟨?_, by show upd w.F c (CodeO c q) p.1 = none; rw [upd_ne qc]; exact k2, k3, k4⟩
      by_cases qp : p.1 = P
      · rw [hu p hp qp, qp]
        refine ⟨ps, by rw [e, upd_ne h3, upd_same], tri, fun pos cv hc => ?_⟩
        rw [hu p hp qp] at k1
        obtain ⟨ps1, e1, _, old⟩ := k1
        rcases am pos cv hc with z | ⟨ps0, e0, hc0⟩
        · exact ⟨c, z, upd_same⟩
        · rw [qp, e0] at e1
          cases e1
          obtain ⟨c0, z1, z2⟩ := old pos cv hc0
          exact ⟨c0, z1, sF _ _ z2⟩
      · exact k1.mono (at_ _ qp qc) sF
theorem ints_some : ∀ {l : List MP.MV} {ns : List Int}, MP.intsOf l = some ns → l = ns.map .int
  | [], ns, e => by
    simp [MP.intsOf] at e
    subst e
    rfl
  | v :: vs, ns, e => by
    cases v <;> simp [MP.intsOf] at e
    obtain ⟨ks, e1, rfl⟩ := e
    rw [ints_some e1]
    rfl
section
variable {G : Gc} {m : List Addr} {F : Hp}
theorem lots_zip : ∀ {l : List MP.MV} {xs : List V} {ls : List (List Int)}, VRs G m F l xs → MP.lotsOf l = some ls → (xs.zip ls).map (·.1) = xs ∧ (xs.zip ls).map (·.2) = ls ∧ ∀ p ∈ xs.zip ls, VR G m F (MP.lotM p.2) p.1
  | _, _, ls, .nil, e => by
    simp [MP.lotsOf] at e
    subst e
    exact ⟨rfl, rfl, fun p hp => by cases hp⟩
  | v :: vs, x :: xs, ls, .cons h t, e => by
    cases v <;> first | (simp [MP.lotsOf] at e; done) | skip
    rename_i l0
    have e : ((MP.intsOf l0).bind fun ns => (MP.lotsOf vs).map (ns :: ·)) = some ls := e
    obtain ⟨ns, e1, e⟩ := Option.bind_eq_some_iff.mp e
    obtain ⟨ks, e2, rfl⟩ := Option.map_eq_some_iff.mp e
    obtain ⟨h1, h2, h3⟩ := lots_zip t e2
    refine ⟨by rw [List.zip_cons_cons, List.map_cons, h1], by rw [List.zip_cons_cons, List.map_cons, h2], fun p hp => ?_⟩
    rcases List.mem_cons.mp (List.zip_cons_cons ▸ hp) with z | z
    · rw [z]
      show VR G m F (.tup (ns.map .int)) x
      rw [← ints_some e1]
      exact h
    · exact h3 p z
theorem vrs_map {bs : List (V × List Int)} (h : ∀ p ∈ bs, VR G m F (MP.lotM p.2) p.1) : VRs G m F ((bs.map (·.2)).map MP.lotM) (bs.map (·.1)) := by
  induction bs with
  | nil => exact .nil
  | cons p bs ih => exact .cons (h p List.mem_cons_self) (ih fun q hq => h q (List.mem_cons_of_mem _ hq))
end
theorem srtBs_snd (bs : List (V × List Int)) : (srtBs bs).map (·.2) = MP.sortLots (bs.map (·.2)) := by
  unfold srtBs MP.sortLots
  exact List.map_mergeSort fun _ _ _ _ => rfl
theorem srtBs_mem {bs : List (V × List Int)} {p : V × List Int} (h : p ∈ srtBs bs) : p ∈ bs := by
  unfold srtBs at h
  exact List.mem_mergeSort.mp h
section
variable {X : Cx} {G : Gc} {W : EW}
theorem sound_srt {e : Expr} {fe : Ef} {y : Str} {params : Arguments} {body : Expr} {scope : Scope} {c P : Addr} {k : Nat} {px lpos kp pos : Pos} (hK : X.K = G.K) (L : LotL y scope body) (hg : Gl X "sorted") (hm : X.mg "sorted" = none) (hl : X.mg "len" = none) (hr : Room k X.A) (hs : isStar e = false)
    (hT : (P, X.env.qual ++ "<lambda>") ∈ G.T) (hu : ∀ p ∈ G.T, p.1 = P → p.2 = X.env.qual ++ "<lambda>") (TB : LamX.TabB X.base X.mg c P) (hcode : X.env.code = .ref c) (hdef : defaultsOf params X.env = ([], []))
    (hbind : ∀ (q : Str) (pm cv ctv v : Value), bindArgs (PySem.W.kla_fn "<lambda>" q params body scope [] pm cv ctv) ⟨[v], []⟩ = pure [(y, v)]) (he : PE X e (TEv G W fe)) :
    PE X (.Call (.Name "sorted" px) [e] [⟨some "key", .Lambda params body scope lpos, kp⟩] pos) (TEv G W (fun rho h => (fe rho h).bind fun x h1 => MP.srtV x h1)) := by
  refine pe_imp (pe_srt L hg hm hl hr hs TB hcode hdef hbind he) fun σ H Q h => ?_
  obtain ⟨w, g, q⟩ := h
  refine ⟨w, g, (EPost.bind (Rl := VR G) q).imp fun v h1 m1 F1 H1 x e1 p1 s1 g1 r1 q1 => ?_⟩
  obtain ⟨v', h1', m1', F1', p1', s1', g1', r1', q2⟩ := q1
  refine ⟨tabS_of (g1'.tab _ hT).1 g1'.fro, ?_⟩
  unfold MP.srtV at q2
  cases el : MP.lookL h1' v' with
  | none =>
    rw [el] at q2
    exact q2.elim
  | some l =>
    rw [el] at q2
    cases eo : MP.lotsOf l with
    | none =>
      have q2 : EPost G (VR G) _ σ (MP.optR (MP.lotsOf l) _) Q _ := q2
      rw [eo] at q2
      exact q2.elim
    | some ls =>
      have q2 : EPost G (VR G) _ σ (MP.optR (MP.lotsOf l) _) Q _ := q2
      rw [eo] at q2
      have q2 : EPost G (VR G) (w.at m1' F1' h1') σ (if ls.length ≤ MP.LIM then .ok (.lst ((MP.sortLots ls).map MP.lotM)) h1' else .bad) Q _ := q2
      split at q2
      · obtain ⟨a, xs, rfl, ha, rs⟩ := look_list g1' r1' el
        obtain ⟨z1, z2, z3⟩ := lots_zip rs eo
        refine ⟨a, xs.zip ls, rfl, by rw [z1]; exact .inl (.inl ha), fun p hp => ?_, fun H2 p gr hT2 np => ?_⟩
        · have r := z3 p hp
          unfold MP.lotM at r
          generalize p.1 = x at r ⊢
          cases r with
          | tup e r =>
            refine ⟨_, rfl, ?_⟩
            rw [hK]
            have := VRs.ints r (ns := p.2) (by
              generalize p.2 = ns
              induction ns with
              | nil => rfl
              | cons n ns ih => rw [List.map_cons, MP.intsOf, ih]; rfl)
            rw [← this]
            exact sqT_same g1'.fro e
        · obtain ⟨F2, sF, g2⟩ := g1'.table hT hu gr
          have rv : VRs G m1' F2 ((MP.sortLots ls).map MP.lotM) ((srtBs (xs.zip ls)).map (·.1)) := by
            have := vrs_map (G := G) (m := m1') (F := F1') (bs := srtBs (xs.zip ls)) fun p hp => z3 p (srtBs_mem hp)
            rw [srtBs_snd, z2] at this
            exact this.mono (Pre.refl _) sF
          exact new_lst g2 rv (fun m' F' H' z pr ss gg rr => q2 m' F' H' z pr (sF.trans ss) gg rr) p np
      · exact q2.elim
end
end MPS
end

section
set_option Elab.async false
set_option linter.all false
set_option maxRecDepth 100000
set_option maxHeartbeats 1000000
set_option autoImplicit false
namespace MPS
open PySem PySem.Spec PyProof.Rows L2
/-! ### != of an own class that has an __eq__ alone -/
section
variable {M : Model} {prog : Program} {w : World} {A : Around} {E : Value → Shared → Prop} {s : Shared} {K : PySem.W.Frag} {x y C f L : Addr} {ox : Obj} {od : Option Obj} {tb : Value} {h₀ : Heap} {m : Str → Option Value}
theorem ifBound_objNe {args : List Value} {Q : Option Value → Shared → Prop} (X : K.In s.heap) (I : PySem.W.InstAt s.heap x ox C od) (hs : PySem.W.findIn K (.ref C) "__ne__" = some (some (.builtin "object.__ne__")))
    (h : wpAny M A (call (.builtin "object.__ne__") (.ref x :: args)) (fun v => Q (some v)) E s) : wpAny M A (callSpecialIfBound? (.ref x) "__ne__" args) Q E s := by
  simp only [callSpecialIfBound?, bindSpecialIfBound?]
  refine wpAny_holding (wpAny_bind (wpAny_bind (wpAny_bind (I.type.here ((PySem.W.looks_findIn X hs).here ?_)))))
  refine wpAny_bind (wpAny_askSetting (wpAny_ite ?_))
  have fin : wpAny M A (call (.builtin "object.__ne__") ([.ref x] ++ args) >>= fun v => pure (some v)) Q E s := wpAny_bind (wpAny_mono h (fun v s' h' => wpAny_pure h') fun _ _ h' => h')
  split
  · exact wpAny_bind (wpAny_of_eq (F.cmp_object.ne.bind _) (wpAny_pure (by exact fin)))
  · exact wpAny_tryCatch (wpAny_bind (wpAny_of_eq (F.cmp_object.ne.bind _) (wpAny_pure (by exact fin))))
def NotBack (Q : Value → Shared → Prop) (v : Value) (s' : Shared) : Prop := ∃ b, v = .bool b ∧ Q (.bool (!b)) s'
theorem objNe_entryK (X : K.In s.heap) (I : PySem.W.InstAt s.heap x ox C od) (hs : PySem.W.findIn K (.ref C) "__eq__" = some (some (.ref f))) (hf : PySem.W.isFn K (.ref f) = true) (hu : A.units < cLine) {Q : Fin → Shared → Prop}
    (hcall : wpAny (model prog w) A (call (.ref f) [.ref x, .ref y]) (fun v s' => ∃ b, v = .bool b ∧ Q (.done (.ret (.bool (!b)))) s') E s) :
    wpAny (model prog w) A (Builtin.«object.__ne__» ⟨[.ref x, .ref y], []⟩) Q E s := by
  unfold Builtin.«object.__ne__»
  repeat (first
    | with_reducible refine wpAny_cRoomFor hu ?_
    | (refine wpAny_bind (m := callSpecialIfBound? (.ref x) (Str.ofString "__eq__") [.ref y])
        (PySem.W.ifBound_K X I hs hf (wpAny_mono hcall (fun r s' hr => by
          obtain ⟨b, rfl, hq⟩ := hr
          repeat (first | exact hq | exact wpAny_pure hq | exact wpAny_truthy_bool hq | (refine wpAny_bind (m := truthy (.bool _)) (wpAny_truthy_bool ?_)) | wp_step)) fun _ _ e => e)))
    | wp_step)
theorem ne_K (hu : A.units + 1 < cLine) (X : K.In s.heap) (I : PySem.W.InstAt s.heap x ox C od) (hb : PySem.W.Looks (model prog w) s.heap (typeOf (.ref y)) (.ref C))
    (hn : PySem.W.findIn K (.ref C) "__ne__" = some (some (.builtin "object.__ne__"))) (hs : PySem.W.findIn K (.ref C) "__eq__" = some (some (.ref f))) (hf : PySem.W.isFn K (.ref f) = true) (hm : PySem.W.mroIn K C (.type "object") = some true) {Q : Value → Shared → Prop}
    (hcall : wpAny (model prog w) A.in1 (call (.ref f) [.ref x, .ref y]) (NotBack Q) E s) : wpAny (model prog w) A (richCompare .NotEq (.ref x) (.ref y)) Q E s := by
  have one : wpAny (model prog w) A (tryCompare (.ref x) "__ne__" (.ref y)) (fun r s' => ∃ v, r = some v ∧ Q v s') E s := by
    unfold tryCompare
    refine wpAny_bind (ifBound_objNe X I hn (wpAny_call (codeAny_call_builtin F.cmp_object.ne.plain F.cmpEntry_ne (PySem.W.check_slot F.cmpKind_ne F.cmpSplit_ne (I.type.andThen (PySem.W.looks_mroIn X hm)) (F.cmpArgs_ne _ _)
      (objNe_entryK X I hs hf hu (wpAny_mono hcall (fun v s' hv => ?_) fun _ _ e => e))))))
    obtain ⟨b, rfl, hq⟩ := hv
    first | exact ⟨b, rfl, wpAny_pure ⟨_, rfl, hq⟩⟩ | exact ⟨b, rfl, wpAny_pure (wpAny_pure ⟨_, rfl, hq⟩)⟩ | exact ⟨b, rfl, ⟨_, rfl, hq⟩⟩
  unfold richCompare
  simp only [oneThing_ref]
  refine wpAny_holding (wpAny_bind (wpAny_cRoomFor (Nat.lt_of_succ_lt hu) ?_))
  refine wpAny_bind (I.type.here (wpAny_bind (hb.here ?_)))
  rw [show (Value.ref C != Value.ref C) = false from by simp]
  simp only [Bool.false_eq_true, if_false]
  refine wpAny_bind (wpAny_pure ?_)
  simp only [Bool.false_eq_true, if_false]
  rw [cmpInfo_NotEq]
  refine wpAny_bind (wpAny_mono one (fun r s' z => ?_) fun _ _ e => e)
  obtain ⟨v, rfl, hq⟩ := z
  exact wpAny_pure hq
end
/-! ### methods -/
def plainBase : Expr → Bool
  | .Call (.Name _ _) [] [] _ => false
  | _ => true
theorem base_of {o : Expr} {f : Str} {env : Env} {whole : Sem Value} (h : plainBase o = true) : attributeBase o f env whole = whole := by
  unfold attributeBase
  split
  · cases h
  · rfl
theorem starAll {env : Env} {pos : Pos} : ∀ {es : List Expr}, noStar es = true → ((backTo pos (starEach es env)).all fun x => !x.1) = true
  | [], _ => rfl
  | e :: es, h => by
    obtain ⟨h1, h2⟩ := noStar_cons h
    rw [starEach_cons h1]
    have ih := starAll (env := env) (pos := pos) h2
    unfold backTo at ih ⊢
    simp only [List.map_cons, List.all_cons, ih, Bool.and_true]
    rfl
theorem meth_form {o : Expr} {m : Str} {env : Env} {es : List Expr} {apos pos : Pos} (hb : plainBase o = true) (hl : (apos.endLine == pos.line) = true) (hs : noStar es = true) (hn : es.length < 29) :
    eval (.Call (.Attribute o m apos) es [] pos) env = (do
      let ov ← eval o env
      standAt apos.atName
      let (f, first) ← holding [ov] (getMethod ov m (do return (← importBound o env).getD true))
      callWith pos f first (backTo pos (starEach es env)) (backToKw pos (keywordEach [] env))) := by
  have few : methodCallForm (es.length + 0) (backTo pos (starEach es env)) (backToKw pos (keywordEach [] env)) = true := by
    unfold methodCallForm
    rw [starAll hs]
    have : (backToKw pos (keywordEach [] env)).isEmpty = true := rfl
    rw [this]
    simp
    refine ⟨?_, by omega⟩
    intro a b h
    have e : backToKw pos (keywordEach [] env) = [] := rfl
    rw [e] at h
    cases h
  have e1 : eval (.Call (.Attribute o m apos) es [] pos) env = (do
    let ov ← attributeBase o m env (eval o env)
    standAt apos.atName
    methodCall o m apos pos env ov (es.length + 0) (backTo pos (starEach es env)) (backToKw pos (keywordEach [] env))) := rfl
  rw [e1, base_of hb]
  unfold methodCall
  rw [few]
  have e2 : methodCallPos true o env apos pos = pure pos := by
    unfold methodCallPos
    rw [hl]
    rfl
  rw [e2]
  rfl

/-- what is known of a class -/
structure ClsOk (X : Cx) (G : Gc) (c : Nat) : Prop where
  cls : Cls X.K (G.C c)
  cla : PySem.W.findIn X.K (.ref (G.C c)) "__class__" = some (some (.builtin "object.__class__"))
  hn : PySem.W.specialIn X.K (.builtin "object.__class__") "__get__" = some (some (.builtin "getset_descriptor.__get__"))
  htk : PySem.W.takesIn X.K (.builtin "object.__class__") = some true
  hm : PySem.W.mroIn X.K (G.C c) (.type "object") = some true
  ne : PySem.W.findIn X.K (.ref (G.C c)) "__ne__" = some (some (.builtin "object.__ne__"))
/-- what is known of a class's method -/
structure MethOk (X : Cx) (G : Gc) (lv c : Nat) (m : Str) (fn : MP.Fn) : Prop where
  ex : ∃ (f : Addr) (fd : FuncData) (ps : List Str) (sp : Sp) (dvs : List V) (ds : List Value), FnOk X.prog X.w X.K X.mg X.base (L2.CX X.prog X.w) lv f fd ps sp ∧ Meth X.K (G.C c) m f ∧ Binds X.K fd ps ds ∧ Vals dvs ds ∧
    ∀ vs H Q E, spOf G fn vs H Q E → sp (vs ++ dvs) H Q E
  cls : Cls X.K (G.C c)
  /-- no field bears the method's name -/
  nof : ∀ f, G.fn f ≠ m
section
variable {X : Cx} {G : Gc} {Wx : WX} {W : EW} {a b c e o : Expr} {es : List Expr} {fa fb fc : Ef} {fs : Efs} {pos apos : Pos}
theorem FR.nolook {m : List Addr} {F : Hp} {x : Str} (h : ∀ f, G.fn f ≠ x) : ∀ {fs : List (Nat × MP.MV)} {gs : List (Str × V)}, FR G m F fs gs → gs.lookup x = none
  | _, _, .nil => rfl
  | _, _, .cons (f := f) _ t => by
    rw [List.lookup_cons]
    have e : (x == G.fn f) = false := beq_eq_false_iff_ne.mpr (Ne.symm (h f))
    rw [e]
    exact FR.nolook h t
/-- an instance as it stands -/
theorem ins_of {w : Wd} {σ : L2.St} {H : Hp} (g : Good G w σ H) {v : MP.MV} {x : V} {c : Nat} (r : VR G w.m w.F v x) (e : MP.clsOf w.h v = some c) : ∃ a dx gs fs, x = .ref a ∧ H a = some (.ins (G.C c) dx gs) ∧ FR G w.m w.F fs gs ∧ ∀ f, MP.fldV w.h v f = MP.lookF fs f := by
  cases r <;> first | (cases e; done) | skip
  case obj a dx c' fs gs ea rs =>
    cases e
    exact ⟨a, dx, gs, fs, rfl, g.fro _ _ ea, rs, fun f => rfl⟩
  case ref i a ea =>
    simp only [MP.clsOf] at e
    split at e
    · rename_i c' fs eh
      cases e
      obtain ⟨⟨dx, gs, h1, h2⟩, _⟩ := g.obj i _ a eh ea (by simp)
      exact ⟨a, dx, gs, fs, rfl, h1, h2, fun f => by simp only [MP.fldV, eh]⟩
    · cases e
theorem fld_cls {h : List MP.O} {v : MP.MV} {f : Nat} {u : MP.MV} (e : MP.fldV h v f = some u) : ∃ c, MP.clsOf h v = some c := by
  cases v <;> simp only [MP.fldV] at e <;> first | (cases e; done) | skip
  case obj c fs => exact ⟨c, rfl⟩
  case ref a =>
    simp only [MP.clsOf]
    split at e
    · rename_i c fs eh
      exact ⟨c, by first | rfl | rw [eh]⟩
    · cases e
/-- o.f -/
theorem sound_fld {f : Nat} {x : Str} (hx : G.fn f = x) (hb : plainBase a = true) (hC : ∀ c, Cls X.K (G.C c)) (hN : ∀ c, NoAttr X.K (G.C c) x) (ha : PE X a (TEv G W fa)) :
    PE X (.Attribute a x pos) (TEv G W (fun rho h => (fa rho h).bind fun x h1 => MP.R.of (MP.fldV h1 x f) h1)) := by
  subst hx
  refine pe_imp (pe_fld ha (base_of hb)) fun σ H Q h => ?_
  obtain ⟨w, g, q⟩ := h
  refine ⟨w, g, (EPost.bind (Rl := VR G) q).imp fun v h1 m1 F1 H1 x e1 p1 s1 g1 r1 q1 => ?_⟩
  obtain ⟨v', h1', m1', F1', p1', s1', g1', r1', q2⟩ := q1
  obtain ⟨u, eu, q3⟩ := EPost.of q2
  obtain ⟨c, ec⟩ := fld_cls eu
  obtain ⟨a, dx, gs, fs, rfl, h1, h2, h3⟩ := ins_of g1' r1' ec
  rw [h3] at eu
  obtain ⟨y, l, ry⟩ := h2.look eu
  exact ⟨a, _, dx, gs, y, rfl, h1, hC c, hN c, l, q3 _ _ _ _ (Pre.refl _) (Same.refl _) g1' ry⟩
/-- o.m(..) -/
theorem sound_meth {lv c : Nat} {m : Str} {fn : MP.Fn} {p : Bool} (C : MethOk X G lv c m fn) (hr : Room lv X.A) (tk : Takes X Wx) (hb : plainBase o = true) (hl : (apos.endLine == pos.line) = true) (hs : noStar (e :: es) = true) (hn : (e :: es).length < 29)
    (ho : PE X o (TEv G (WOf G Wx) fa)) (ha : PA X (e :: es) (TAv G (WOf G Wx) fs)) :
    PE X (.Call (.Attribute o m apos) (e :: es) [] pos) (TEv G (WOf G Wx) (fun rho h => (fa rho h).bind fun x h1 => if MP.clsOf h1 x = some c then (fs rho h1).bind fun xs h2 => MP.callFn fn p (x :: xs) h2 else .bad)) := by
  obtain ⟨f, fd, ps, sp, dvs, ds, F, hm, hk, hd, hi⟩ := C.ex
  have hs' := noStar_cons hs
  refine ⟨fun pins s σ H Q I h => ?_⟩
  obtain ⟨w, g, q⟩ := h
  refine PySem.W.methodCall_KW (thn (ho.run pins s σ H (fun x H1 => ∃ a dx gs, x = .ref a ∧ H1 a = some (.ins (G.C c) dx gs) ∧ gs.lookup m = none ∧ TAv G (WOf G Wx) fs σ H1 fun vs H2 => sp ((x :: vs) ++ dvs) H2 Q (WE Wx σ)) I ⟨w, g, (EPost.bind (Rl := VR G) q).imp fun v h1 m1 F1 H1 x e1 p1 s1 g1 r1 q1 => ?_⟩)
    fun u s1 ⟨x, H1, I1, rx, a, dx, gs, ex, ea, l, q⟩ => ?_) (meth_form hb hl hs hn)
  · obtain ⟨v', h1', m1', F1', p1', s1', g1', r1', q2⟩ := q1
    have q2 : EPost G (VR G) (w.at m1' F1' h1') σ (if MP.clsOf h1' v' = some c then (fs w.rho h1').bind fun xs h2 => MP.callFn fn p (v' :: xs) h2 else .bad) Q (fun e w H => WOf G Wx e w σ H) := q2
    split at q2
    · rename_i hc
      obtain ⟨a, dx, gs, fs', rfl, h1, h2, h3⟩ := ins_of g1' r1' hc
      refine ⟨a, dx, gs, rfl, h1, h2.nolook C.nof, _, g1', (EPost.bind (Rl := VRs G) q2).imp fun v h1 m1 F1 H1 xs e1 p1 s1 g1 r1 q1 => ?_⟩
      obtain ⟨v2, h2', m2', F2', p2', s2', g2', r2', q3⟩ := q1
      exact hi _ _ _ _ (call_sp g2' (.cons (r1'.mono p2' s2') r2') q3)
    · exact q2.elim
  · subst ex
    obtain rfl : u = Value.ref a := rx
    refine getmeth_ok I1 ea C.cls hm l ?_
    refine PySem.W.callWith_K (first := [.ref a]) (h₀ := X.base) I.ok.mod.kin hm.kp (thn (ha.run pos pins s1 σ H1 _ I1 q) fun us s2 ⟨vs, H2, I2, r, q2⟩ => ⟨I2.kIn, ?_⟩) (starEach_cons hs'.1) (notStar_any es hs'.2)
    exact run_fnD (us := .ref a :: us) (vs := .ref a :: vs) F hr hk hd (passAt tk σ) I2 (.cons rfl r) q2
theorem sound_meth0 {lv c : Nat} {m : Str} {fn : MP.Fn} {p : Bool} (C : MethOk X G lv c m fn) (hr : Room lv X.A) (tk : Takes X Wx) (hb : plainBase o = true) (hl : (apos.endLine == pos.line) = true)
    (ho : PE X o (TEv G (WOf G Wx) fa)) :
    PE X (.Call (.Attribute o m apos) [] [] pos) (TEv G (WOf G Wx) (fun rho h => (fa rho h).bind fun x h1 => if MP.clsOf h1 x = some c then MP.callFn fn p [x] h1 else .bad)) := by
  obtain ⟨f, fd, ps, sp, dvs, ds, F, hm, hk, hd, hi⟩ := C.ex
  refine ⟨fun pins s σ H Q I h => ?_⟩
  obtain ⟨w, g, q⟩ := h
  refine PySem.W.methodCall_KW (thn (ho.run pins s σ H (fun x H1 => ∃ a dx gs, x = .ref a ∧ H1 a = some (.ins (G.C c) dx gs) ∧ gs.lookup m = none ∧ sp ([x] ++ dvs) H1 Q (WE Wx σ)) I ⟨w, g, (EPost.bind (Rl := VR G) q).imp fun v h1 m1 F1 H1 x e1 p1 s1 g1 r1 q1 => ?_⟩)
    fun u s1 ⟨x, H1, I1, rx, a, dx, gs, ex, ea, l, q⟩ => ?_) (meth_form hb hl rfl (by decide))
  · obtain ⟨v', h1', m1', F1', p1', s1', g1', r1', q2⟩ := q1
    have q2 : EPost G (VR G) (w.at m1' F1' h1') σ (if MP.clsOf h1' v' = some c then MP.callFn fn p [v'] h1' else .bad) Q (fun e w H => WOf G Wx e w σ H) := q2
    split at q2
    · rename_i hc
      obtain ⟨a, dx, gs, fs', rfl, h1, h2, h3⟩ := ins_of g1' r1' hc
      exact ⟨a, dx, gs, rfl, h1, h2.nolook C.nof, hi _ _ _ _ (call_sp g1' (.cons r1' .nil) q2)⟩
    · exact q2.elim
  · subst ex
    obtain rfl : u = Value.ref a := rx
    refine getmeth_ok I1 ea C.cls hm l ?_
    exact PySem.W.callWith_K0 (first := [.ref a]) I1.kIn hm.kp (run_fnD (us := [.ref a]) (vs := [.ref a]) F hr hk hd (passAt tk σ) I1 (.cons rfl .nil) q)
end
end MPS
end

section
set_option Elab.async false
set_option linter.all false
set_option maxRecDepth 100000
set_option maxHeartbeats 1000000
set_option autoImplicit false
namespace MPS
open PySem PySem.Spec PyProof.Rows L2
section
variable {G : Gc} {w u : Wd} {σ τ : L2.St} {H H' : Hp}
/-- the heap grows beside us -/
theorem Good.grow (g : Good G w σ H) {p : Addr} (o : HO) (n : H p = none) : Good G w σ (upd H p o) := by
  have sH : Same H (upd H p o) := MPS.same_upd n
  have ne : ∀ {a : Addr}, H a ≠ none → a ≠ p := fun h z => h (z ▸ n)
  refine ⟨g.fro.trans sH, g.len, g.nod, fun i v a e1 e2 e3 => ?_, fun a h => ?_, fun a v e => ?_, g.slo, g.o0, g.o1, fun a v h hT e => sH _ _ (g.o2 a v h hT e), g.o3, g.o4, g.o5, g.tab.step (g.tab.ne_none n) (fun a q => upd_ne q) (Same.refl _) (fun a q e => e) (fun a _ h => h) (fun a _ e => e)⟩
  · obtain ⟨h1, h2⟩ := g.obj i v a e1 e2 e3
    exact ⟨h1.mono (Pre.refl _) (Same.refl _) (upd_ne (ne (g.map a (List.mem_of_getElem? e2)))), h2⟩
  · rw [upd_ne (ne (g.map a h))]
    exact g.map a h
  · obtain ⟨h1, h2, h3, h4⟩ := g.own a v e
    exact ⟨h1.mono (Pre.refl _) (Same.refl _) (upd_ne (ne (h1.there h2))), h2, h3, h4⟩
/-- what we hold stands as it stood -/
theorem Good.onward (g : Good G w σ H) {F : Hp} (fro : Same F H') (sF : Same w.F F) (keep : ∀ a o, a ∉ G.tabs → H a = some o → H' a = some o) (new : ∀ a, F a ≠ none → w.F a ≠ none ∨ H a = none) {m1 : List Addr} {U1 : Addr → Option MP.O} (tab : TabsOk G H' F m1 U1) : Good G (w.at w.m F w.h) σ H' := by
  have keepE : ∀ a, a ∉ G.tabs → H a ≠ none → H' a = H a := fun a nT n => by
    cases q : H a with
    | none => exact absurd q n
    | some x => exact keep a x nT q
  have noF : ∀ a, H a ≠ none → w.F a = none → F a = none := fun a n f => by
    cases z : F a with
    | none => rfl
    | some y =>
      rcases new a (by rw [z]; simp) with z | z
      · exact absurd f z
      · exact absurd z n
  refine ⟨fro, g.len, g.nod, fun i o a h1 h2 h3 => ?_, fun a h => ?_, fun a o e => ?_, g.slo.mono rfl rfl (Pre.refl _) sF, g.o0, g.o1.trans sF, fun a o n nT e => keep a o nT (g.o2 a o n nT e), g.o3, g.o4, fun a h => ?_, tab.to (fun a h => (g.tab.at h).2.2.1) (fun a h => (g.tab.at h).2.2.2)⟩
  · obtain ⟨q1, q2⟩ := g.obj i o a h1 h2 h3
    have n := g.map a (List.mem_of_getElem? h2)
    exact ⟨q1.mono (Pre.refl _) sF (keepE a (g.tab.ne_m (List.mem_of_getElem? h2)) n), noF a n q2⟩
  · rw [keepE a (g.tab.ne_m h) (g.map a h)]
    exact g.map a h
  · obtain ⟨h1, h2, h3, h4⟩ := g.own a o e
    have n := h1.there h2
    exact ⟨h1.mono (Pre.refl _) sF (keepE a (g.tab.ne_U e) n), h2, noF a n h3, h4⟩
  · rcases new a h with z | z
    · exact g.o5 a z
    · exact .inr (g.noH0 z)
def Wd.one (c : Nat) (x : Addr) (F H : Hp) : Wd := ⟨[x], [x], F, H, [], fun _ => none, [x], F, [.ins c []]⟩
theorem Good.one {F : Hp} {c : Nat} {x dx : Addr} (sF : Same F H) (nF : F x = none) (e : H x = some (.ins (G.C c) dx [])) {m1 : List Addr} {U1 : Addr → Option MP.O} (tab : TabsOk G H F m1 U1) (nT : x ∉ G.tabs) : Good G (Wd.one c x F H) [] H := by
  refine ⟨sF, rfl, by simp [Wd.one], fun i o a h1 h2 h3 => ?_, fun a h => ?_, fun a o h => by simp [Wd.one] at h, ⟨rfl, fun i v h => by simp [Wd.one] at h, fun i v h => by simp [Wd.one] at h, fun i j o o' a h => by simp [Wd.one] at h⟩,
    Pre.refl _, Same.refl _, fun _ _ _ _ h => h, fun a h => .inl h, fun a h => by simp [Wd.one] at h, fun a h => .inl h, tab.to (fun a h z => nT ((show a = x by simpa [Wd.one] using z) ▸ h)) (fun a h => rfl)⟩
  · cases i with
    | zero =>
      have h1 : some (MP.O.ins c []) = some o := h1
      have h2 : some x = some a := h2
      cases h1
      cases h2
      exact ⟨⟨dx, [], e, .nil⟩, nF⟩
    | succ i => simp [Wd.one] at h1
  · have h : a ∈ [x] := h
    have h : a = x := by simpa using h
    subst h
    rw [e]
    simp
end
section
variable {X : Cx} {G : Gc} {Wx : WX} {W : EW} {a b c e o : Expr} {es : List Expr} {fa fb fc : Ef} {fs : Efs} {pos apos : Pos}
/-- what is known of a class's making -/
structure MkOk (X : Cx) (G : Gc) (lv c : Nat) (x : Str) (fn : MP.Fn) : Prop where
  ex : ∃ (f : Addr) (fd : FuncData) (ps : List Str) (sp : Sp) (dvs : List V) (ds : List Value), FnOk X.prog X.w X.K X.mg X.base (L2.CX X.prog X.w) lv f fd ps sp ∧ Mk X.K (G.C c) f ∧ X.mg x = some (.ref (G.C c)) ∧ Binds X.K fd ps ds ∧ Vals dvs ds ∧
    ∀ vs H Q E, spOf G fn vs H Q E → sp (vs ++ dvs) H Q E
theorem run_makeD {CX : CXT} {k : Nat} {f C : Addr} {fd : FuncData} {ps : List Str} {sp : Sp} {dvs : List V} {ds : List Value} {E : XK} {pins : List (Addr × Obj)} {σ : L2.St} {H : Hp} {s : Shared} {Q : VK} {us : List Value} {vs : List V} (M : Mk X.K C f) (F : FnOk X.prog X.w X.K X.mg X.base CX k f fd ps sp) (hr : Room (k + 1) X.A) (hb : Binds X.K fd ps ds) (hd : Vals dvs ds)
    (hx : PassesAt CX X σ E) (I : Inv X pins σ H s) (r : Vals vs us)
    (h : ∀ x dx, H x = none → H dx = none → dx ≠ x → sp ((.ref x :: vs) ++ dvs) (upd (upd H dx (.own x)) x (.ins C dx [])) (fun v H2 => v = .non ∧ Q (.ref x) H2) E) :
    wpAny (model X.prog X.w) X.A (call (.ref C) us) (EP X pins σ Q) X.xe s := by
  have hq := h (s.heap.objs.size + 1) s.heap.objs.size (I.hok.fresh (Nat.le_succ _)) (I.hok.fresh (Nat.le_refl _)) (Nat.ne_of_lt (Nat.lt_succ_self _))
  have I2 := Inv.made (C := C) I
  have r2 : Vals (V.ref (s.heap.objs.size + 1) :: (vs ++ dvs)) (Value.ref (s.heap.objs.size + 1) :: (us ++ ds)) := .cons rfl (r.append hd)
  have hl : (Value.ref (s.heap.objs.size + 1) :: us ++ ds).length = ps.length := by
    have e := r2.length
    rw [show (V.ref (s.heap.objs.size + 1) :: (vs ++ dvs)).length = ps.length from F.len _ _ _ _ hq] at e
    exact e.symm
  refine wpAny_call (make_map (f := f) I.kIn M.makes M.init (beq_iff_eq.mp M.fn) (codeAny_mono (F.run _ X.stack _ _ ⟨Value.ref (s.heap.objs.size + 1) :: us, []⟩ (Value.ref (s.heap.objs.size + 1) :: (us ++ ds)) _ _ E (hr.make C us [])
    (I2.env0.make C us []) (hb _ (Value.ref (s.heap.objs.size + 1) :: us) I2.kIn hl) r2 hq) fun r s' hq' => ?_))
  cases r with
  | error e => exact hx pins _ _ e s' I2 hq'
  | ok fl =>
    cases fl with
    | ret u =>
      obtain ⟨v, H', I3, rv, ev, q3⟩ := I2.after hq'
      subst ev
      exact ⟨rv, ⟨V.ref (s.heap.objs.size + 1), H', I3, rfl, q3⟩⟩
    | next => exact False.elim hq'
    | brk => exact False.elim hq'
    | cont => exact False.elim hq'
theorem new_sp {fn : MP.Fn} {p : Bool} {c : Nat} {w : Wd} {σ : L2.St} {H : Hp} {vs : List V} {args : List MP.MV} {Q : VK} (g : Good G w σ H) (r : VRs G w.m w.F args vs) (q : EPost G (VR G) w σ (MP.newFn fn c p args w.h) Q (fun e w H => WOf G Wx e w σ H))
    (x dx : Addr) (nx : H x = none) (nd : H dx = none) (ne : dx ≠ x) : spOf G fn (.ref x :: vs) (upd (upd H dx (.own x)) x (.ins (G.C c) dx [])) (fun v H2 => v = .non ∧ Q (.ref x) H2) (WE Wx σ) := by
  have g1 : Good G w σ (upd H dx (.own x)) := g.grow _ nd
  have nx1 : upd H dx (.own x) x = none := by rw [upd_ne (Ne.symm ne)]; exact nx
  cases p with
  | false =>
    have q : EPost G (VR G) w σ ((fn (.ref w.h.length :: args) (w.h ++ [.ins c []])).bind fun v h1 => match v with
      | .non => .ok (.ref w.h.length) h1
      | _ => .bad) Q (fun e w H => WOf G Wx e w σ H) := q
    have pr := Pre.app w.m [x]
    have g2 := g1.newR (o := .ins (G.C c) dx []) (u := .ins c []) nx1 ⟨dx, [], upd_same, .nil⟩
    refine ⟨_, σ, .ref w.h.length :: args, g2, .cons (.ref ?_) (r.mono pr (Same.refl _)), ?_⟩
    · show (w.m ++ [x])[w.h.length]? = some x
      rw [← g.len, List.getElem?_append_right (Nat.le_refl _)]
      simp
    · show EPost G (VR G) (w.at (w.m ++ [x]) w.F (w.h ++ [.ins c []])) σ (fn (.ref w.h.length :: args) (w.h ++ [.ins c []])) _ _
      revert q
      cases fn (.ref w.h.length :: args) (w.h ++ [.ins c []]) with
      | ok v hh =>
        intro q m' F' H' z p s gk rv
        cases rv <;> first | (exact q.elim) | skip
        refine ⟨rfl, q m' F' H' _ (pr.trans p) s gk (.ref (p.at ?_))⟩
        show (w.m ++ [x])[w.h.length]? = some x
        rw [← g.len, List.getElem?_append_right (Nat.le_refl _)]
        simp
      | ex e hh => exact fun q m' F' H' p s gk => q m' F' H' (pr.trans p) s gk
      | bad => exact fun q => q
  | true =>
    have q : EPost G (VR G) w σ (if MP.noRefs args then (match fn (.ref 0 :: args) [.ins c []] with
      | .ok v h1 => (match v with
        | .non => MP.frzAt c h1 w.h
        | _ => .bad)
      | .ex e _ => (match e.arg with
        | none => .ex e w.h
        | some (_, v) => if MP.noRef v then .ex e w.h else .bad)
      | .bad => .bad) else .bad) Q (fun e w H => WOf G Wx e w σ H) := q
    split at q
    · rename_i hn
      obtain ⟨H2, eH2⟩ : ∃ H2, H2 = upd (upd H dx (.own x)) x (.ins (G.C c) dx []) := ⟨_, rfl⟩
      rw [← eH2]
      have up : ∀ a o, H a = some o → H2 a = some o := fun a o e => by
        rw [eH2, upd_ne (fun z => by rw [z, nx] at e; cases e), upd_ne (fun z => by rw [z, nd] at e; cases e)]
        exact e
      have nF : w.F x = none := g.noF nx
      have k0 : Good G (Wd.one c x w.F H2) [] H2 := Good.one (fun a o e => up a o (g.fro a o e)) nF (by rw [eH2]; exact upd_same) (g.tab.up up) (g.tab.ne_none nx)
      refine ⟨_, [], .ref 0 :: args, k0, .cons (.ref rfl) (r.bare [x] hn), ?_⟩
      show EPost G (VR G) (Wd.one c x w.F H2) [] (fn (.ref 0 :: args) [.ins c []]) _ _
      have ahead : ∀ {m' : List Addr} {F' H' : Hp} {hh : List MP.O}, Good G ((Wd.one c x w.F H2).at m' F' hh) [] H' → (∀ a o, a ∉ G.tabs → H a = some o → H' a = some o) ∧ Same w.F F' ∧ ∀ a, F' a ≠ none → w.F a ≠ none ∨ H a = none := fun {m' F' H' hh} gk => by
        refine ⟨fun a o nT e => gk.o2 a o (fun z => ?_) nT (up a o e), gk.o1, fun a h => ?_⟩
        · have z : a ∈ [x] := z
          have z : a = x := by simpa using z
          rw [z, nx] at e
          cases e
        · rcases gk.o5 a h with z | z | z
          · exact .inl z
          · have z : a ∈ [x] := z
            have z : a = x := by simpa using z
            exact .inr (z ▸ nx)
          · refine .inr ?_
            cases e : H a with
            | none => rfl
            | some o =>
              have z : H2 a = none := z
              rw [up a o e] at z
              cases z
      revert q
      cases fn (.ref 0 :: args) [.ins c []] with
      | ok v hh =>
        intro q m' F' H' z p s gk rv
        obtain ⟨h1, h2, h3⟩ := ahead gk
        cases rv <;> first | (exact q.elim) | skip
        replace q : EPost G (VR G) w σ (MP.frzAt c hh w.h) Q (fun e w H => WOf G Wx e w σ H) := q
        refine ⟨rfl, ?_⟩
        unfold MP.frzAt at q
        split at q
        · rename_i d fs e0
          by_cases hc : (MP.noRefF fs && decide (c = d)) = true
          · rw [if_pos hc] at q
            simp only [Bool.and_eq_true, decide_eq_true_eq] at hc
            obtain ⟨hf, rfl⟩ := hc
            have ex : ((Wd.one c x w.F H2).at m' F' hh).m[0]? = some x := gk.o0.at (show [x][0]? = some x from rfl)
            obtain ⟨⟨dx', gs, e1, e2⟩, e3⟩ := gk.obj 0 _ x e0 ex (by simp)
            have nF' : F' x = none := e3
            have sF' : Same F' (upd F' x (.ins (G.C c) dx' gs)) := MPS.same_upd nF'
            have gn := g.onward (H' := H') (F := upd F' x (.ins (G.C c) dx' gs)) (fun a o e => by
              by_cases q : a = x
              · subst q
                rw [upd_same] at e
                cases e
                exact e1
              · rw [upd_ne q] at e
                exact gk.fro a o e) (h2.trans sF') h1 (fun a e => by
              by_cases q : a = x
              · exact .inr (q ▸ nx)
              · rw [upd_ne q] at e
                exact h3 a e) (gk.tab.step (m' := m') (U' := fun _ => none) (p := x) (g.tab.ne_none nx) (fun a _ => rfl) sF' (fun a q e => by rw [upd_ne q]; exact e) (fun a _ h => h) (fun a _ e => rfl))
            exact q w.m _ H' _ (Pre.refl _) (h2.trans sF') gn (.obj upd_same ((e2.bare w.m hf).mono (Pre.refl _) sF'))
          · rw [if_neg hc] at q
            exact q.elim
        · exact q.elim
      | ex e hh =>
        intro q m' F' H' p s gk cls d xr
        obtain ⟨h1, h2, h3⟩ := ahead gk
        have gb := g.onward gk.fro h2 h1 h3 gk.tab
        obtain ⟨ec, ea⟩ := e
        cases ea with
        | none => exact q w.m F' H' (Pre.refl _) h2 gb cls d xr
        | some fv =>
          obtain ⟨f, v⟩ := fv
          have q : EPost G (VR G) w σ (if MP.noRef v then .ex ⟨ec, some (f, v)⟩ w.h else .bad) Q (fun e w H => WOf G Wx e w σ H) := q
          split at q
          · rename_i hv
            obtain ⟨h1, dx, x, h2', h3, h4⟩ := xr
            exact q w.m F' H' (Pre.refl _) h2 gb cls d ⟨h1, dx, x, h2', h3, h4.bare w.m hv⟩
          · exact q.elim
      | bad => exact fun q => q
    · exact q.elim
theorem sound_new {lv c : Nat} {x : Str} {fn : MP.Fn} {p : Bool} {px : Pos} (C : MkOk X G lv c x fn) (hr : Room (lv + 1) X.A) (tk : Takes X Wx) (hg : Gl X x) (hdb : (x == ("__debug__" : Str)) = false) (hs : noStar (e :: es) = true)
    (ha : PA X (e :: es) (TAv G (WOf G Wx) fs)) : PE X (.Call (.Name x px) (e :: es) [] pos) (TEv G (WOf G Wx) (fun rho h => (fs rho h).bind fun xs h1 => MP.newFn fn c p xs h1)) := by
  obtain ⟨f, fd, ps, sp, dvs, ds, F, hk, hm, hb, hd, hi⟩ := C.ex
  have hs' := noStar_cons hs
  refine ⟨fun pins s σ H Q I h => ?_⟩
  obtain ⟨w, g, q⟩ := h
  refine wpAny_Call_Name_kw (ld_glob I hg hm ?_ hdb)
  refine PySem.W.callWith_K (h₀ := X.base) I.ok.mod.kin hk.kp (thn (ha.run pos pins s σ H (fun vs H1 => ∀ x dx, H1 x = none → H1 dx = none → dx ≠ x → sp ((.ref x :: vs) ++ dvs) (upd (upd H1 dx (.own x)) x (.ins (G.C c) dx [])) (fun v H2 => v = .non ∧ Q (.ref x) H2) (WE Wx σ)) I
    ⟨w, g, (EPost.bind (Rl := VRs G) q).imp fun v h1 m1 F1 H1 x e1 p1 s1 g1 r1 q1 => ?_⟩) fun us s1 ⟨vs, H1, I1, r, q⟩ => ⟨I1.kIn, ?_⟩) (starEach_cons hs'.1) (notStar_any es hs'.2)
  · obtain ⟨v', h1', m1', F1', p1', s1', g1', r1', q2⟩ := q1
    exact fun x dx nx nd ne => hi _ _ _ _ (new_sp g1' r1' q2 x dx nx nd ne)
  · exact run_makeD hk F hr hb hd (passAt tk σ) I1 r q
theorem sound_new0 {lv c : Nat} {x : Str} {fn : MP.Fn} {p : Bool} {px : Pos} (C : MkOk X G lv c x fn) (hr : Room (lv + 1) X.A) (tk : Takes X Wx) (hg : Gl X x) (hdb : (x == ("__debug__" : Str)) = false) :
    PE X (.Call (.Name x px) [] [] pos) (TEv G (WOf G Wx) (fun rho h => MP.newFn fn c p [] h)) := by
  obtain ⟨f, fd, ps, sp, dvs, ds, F, hk, hm, hb, hd, hi⟩ := C.ex
  refine ⟨fun pins s σ H Q I h => ?_⟩
  obtain ⟨w, g, q⟩ := h
  refine wpAny_Call_Name_kw (ld_glob I hg hm ?_ hdb)
  exact PySem.W.callWith_K0 I.kIn hk.kp (run_makeD (us := []) (vs := []) hk F hr hb hd (passAt tk σ) I .nil fun x dx nx nd ne => hi _ _ _ _ (new_sp g .nil q x dx nx nd ne))
end
end MPS
end

section
set_option Elab.async false
set_option linter.all false
set_option maxRecDepth 100000
set_option maxHeartbeats 1000000
set_option autoImplicit false
namespace MPS
open PySem PySem.Spec PyProof.Rows L2
/-! ### what is walked -/
structure ItOk (G : Gc) (J : It) (src : MP.Src) (m0 : List Addr) (F0 : Hp) : Prop where
  go : ∀ w σ H i v, Good G w σ H → Pre m0 w.m → Same F0 w.F → src.at w.h i = some (some v) → J.go i H
  stop : ∀ w σ H i, Good G w σ H → Pre m0 w.m → Same F0 w.F → src.at w.h i = some none → J.stop i H
  yld : ∀ w σ H i v x H', Good G w σ H → Pre m0 w.m → Same F0 w.F → src.at w.h i = some (some v) → J.yld i H x H' → ∃ F', Same w.F F' ∧ Good G (w.at w.m F' w.h) σ H' ∧ VR G w.m F' v x
/-- what stands for a walked thing: a list or a tuple -/
def SrcR (G : Gc) (m : List Addr) (F : Hp) (isT : Bool) (a : Addr) : MP.Src → Prop
  | .fz l => ∃ xs, VRs G m F l xs ∧ match isT with
    | true => SqT G.K F a xs
    | false => F a = some (.lst xs)
  | .live r => m[r]? = some a ∧ isT = false
  | _ => False
theorem SrcR.mono {G : Gc} {m m' : List Addr} {F F' : Hp} {t : Bool} {a : Addr} (p : Pre m m') (s : Same F F') : ∀ {src : MP.Src}, SrcR G m F t a src → SrcR G m' F' t a src
  | .fz l, ⟨xs, r, h⟩ => ⟨xs, r.mono p s, by cases t; exact s _ _ h; exact sqT_same s h⟩
  | .live r, ⟨h, e⟩ => ⟨p.at h, e⟩
  | .enm _, h => h.elim
  | .zip _ _, h => h.elim
section
variable {G : Gc}
/-- a list that is walked, here and now -/
theorem src_here {w : Wd} {σ : L2.St} {H : Hp} {a : Addr} {src : MP.Src} (g : Good G w σ H) (r : SrcR G w.m w.F false a src) {i : Nat} {o : Option MP.MV} (e : src.at w.h i = some o) : ∃ l xs, SqL G.K H a xs ∧ VRs G w.m w.F l xs ∧ o = l[i]? := by
  cases src with
  | fz l =>
    obtain ⟨xs, r1, r2⟩ := r
    cases e
    exact ⟨l, xs, SqL.of (g.fro _ _ r2), r1, rfl⟩
  | live r0 =>
    simp only [MP.Src.at] at e
    split at e
    · rename_i l el
      cases e
      obtain ⟨⟨xs, h1, h2⟩, _⟩ := g.obj r0 _ a el r.1 (by simp)
      exact ⟨l, xs, SqL.of h1, h2, rfl⟩
    · cases e
  | enm _ => exact r.elim
  | zip _ _ => exact r.elim
theorem src_tup {w : Wd} {σ : L2.St} {H : Hp} {a : Addr} {src : MP.Src} (g : Good G w σ H) (r : SrcR G w.m w.F true a src) {i : Nat} {o : Option MP.MV} (e : src.at w.h i = some o) : ∃ l xs, SqT G.K H a xs ∧ VRs G w.m w.F l xs ∧ o = l[i]? := by
  cases src with
  | fz l =>
    obtain ⟨xs, r1, r2⟩ := r
    cases e
    exact ⟨l, xs, sqT_same g.fro r2, r1, rfl⟩
  | live r0 => exact absurd r.2 (by simp)
  | enm _ => exact r.elim
  | zip _ _ => exact r.elim
theorem it_list {m0 : List Addr} {F0 : Hp} {a : Addr} {src : MP.Src} (r : SrcR G m0 F0 false a src) : ItOk G (Itl G.K a) src m0 F0 where
  go := fun w σ H i v g p s e => by
    obtain ⟨l, xs, h1, h2, h3⟩ := src_here g (r.mono p s) e
    obtain ⟨x, hx, _⟩ := h2.get h3.symm
    exact ⟨xs, x, h1, hx⟩
  stop := fun w σ H i g p s e => by
    obtain ⟨l, xs, h1, h2, h3⟩ := src_here g (r.mono p s) e
    exact ⟨xs, h1, by rw [← h2.length]; exact List.getElem?_eq_none_iff.mp h3.symm⟩
  yld := fun w σ H i v x H' g p s e y => by
    obtain ⟨l, xs, h1, h2, h3⟩ := src_here g (r.mono p s) e
    obtain ⟨x', hx, rx⟩ := h2.get h3.symm
    obtain ⟨rfl, y⟩ := y
    have q := y xs h1
    rw [hx] at q
    cases q
    exact ⟨w.F, Same.refl _, g, rx⟩
theorem it_tup {m0 : List Addr} {F0 : Hp} {a : Addr} {src : MP.Src} (r : SrcR G m0 F0 true a src) : ItOk G (Itt G.K a) src m0 F0 where
  go := fun w σ H i v g p s e => by
    obtain ⟨l, xs, h1, h2, h3⟩ := src_tup g (r.mono p s) e
    obtain ⟨x, hx, _⟩ := h2.get h3.symm
    exact ⟨xs, x, h1, hx⟩
  stop := fun w σ H i g p s e => by
    obtain ⟨l, xs, h1, h2, h3⟩ := src_tup g (r.mono p s) e
    exact ⟨xs, h1, by rw [← h2.length]; exact List.getElem?_eq_none_iff.mp h3.symm⟩
  yld := fun w σ H i v x H' g p s e y => by
    obtain ⟨l, xs, h1, h2, h3⟩ := src_tup g (r.mono p s) e
    obtain ⟨x', hx, rx⟩ := h2.get h3.symm
    obtain ⟨rfl, y⟩ := y
    have q := y xs h1
    rw [hx] at q
    cases q
    exact ⟨w.F, Same.refl _, g, rx⟩
theorem rangeV_at : ∀ (n i : Nat) (lo : Int), (MP.rangeV lo n)[i]? = if i < n then some (.int (lo + i)) else none
  | 0, i, lo => by simp [MP.rangeV]
  | n + 1, 0, lo => by simp [MP.rangeV]
  | n + 1, i + 1, lo => by
    simp only [MP.rangeV, List.getElem?_cons_succ]
    rw [rangeV_at n i (lo + 1)]
    by_cases h : i < n
    · rw [if_pos h, if_pos (by omega)]
      congr 2
      omega
    · rw [if_neg h, if_neg (by omega)]
theorem it_range {m0 : List Addr} {F0 : Hp} (lo : Int) (n : Nat) : ItOk G (Itr lo n) (.fz (MP.rangeV lo n)) m0 F0 where
  go := fun w σ H i v g p s e => by
    have e : some (MP.rangeV lo n)[i]? = some (some v) := e
    rw [rangeV_at] at e
    split at e
    · assumption
    · cases e
  stop := fun w σ H i g p s e => by
    have e : some (MP.rangeV lo n)[i]? = some none := e
    rw [rangeV_at] at e
    split at e
    · cases e
    · show n ≤ i
      omega
  yld := fun w σ H i v x H' g p s e y => by
    obtain ⟨rfl, rfl⟩ := y
    have e : some (MP.rangeV lo n)[i]? = some (some v) := e
    rw [rangeV_at] at e
    split at e
    · cases e
      exact ⟨w.F, Same.refl _, g, .int _⟩
    · cases e
/-- a new pair -/
theorem pair_new {w : Wd} {σ : L2.St} {H : Hp} {T : Addr} {v1 v2 : MP.MV} {x1 x2 : V} (g : Good G w σ H) (n : H T = none) (r1 : VR G w.m w.F v1 x1) (r2 : VR G w.m w.F v2 x2) :
    ∃ F', Same w.F F' ∧ Good G (w.at w.m F' w.h) σ (upd H T (.tup [x1, x2])) ∧ VR G w.m F' (.tup [v1, v2]) (.ref T) := by
  have s : Same w.F (upd w.F T (.tup [x1, x2])) := MPS.same_upd (g.noF n)
  exact ⟨_, s, g.new _ n, .tup (SqT.of upd_same) (.cons (r1.mono (Pre.refl _) s) (.cons (r2.mono (Pre.refl _) s) .nil))⟩
theorem it_enum {m0 : List Addr} {F0 : Hp} {a : Addr} {src : MP.Src} (r : SrcR G m0 F0 false a src) : ItOk G (Ite G.K a) (.enm src) m0 F0 := by
  have inv : ∀ {h : List MP.O} {i : Nat} {v : MP.MV}, (MP.Src.enm src).at h i = some (some v) → ∃ u, src.at h i = some (some u) ∧ v = .tup [.int i, u] := fun {h i v} e => by
    simp only [MP.Src.at] at e
    split at e
    · rename_i u eu
      cases e
      exact ⟨u, eu, rfl⟩
    · rename_i h1
      exact absurd e (h1 v)
  have inv0 : ∀ {h : List MP.O} {i : Nat}, (MP.Src.enm src).at h i = some none → src.at h i = some none := fun {h i} e => by
    simp only [MP.Src.at] at e
    split at e
    · cases e
    · exact e
  refine ⟨fun w σ H i v g p s e => ?_, fun w σ H i g p s e => ?_, fun w σ H i v x H' g p s e y => ?_⟩
  · obtain ⟨u, eu, _⟩ := inv e
    obtain ⟨l, xs, h1, h2, h3⟩ := src_here g (r.mono p s) eu
    obtain ⟨x, hx, _⟩ := h2.get h3.symm
    exact ⟨xs, x, h1, hx⟩
  · obtain ⟨l, xs, h1, h2, h3⟩ := src_here g (r.mono p s) (inv0 e)
    exact ⟨xs, h1, by rw [← h2.length]; exact List.getElem?_eq_none_iff.mp h3.symm⟩
  · obtain ⟨u, eu, rfl⟩ := inv e
    obtain ⟨l, xs, h1, h2, h3⟩ := src_here g (r.mono p s) eu
    obtain ⟨x', hx, rx⟩ := h2.get h3.symm
    obtain ⟨T, x2, rfl, nT, rfl, y⟩ := y
    have q := y xs h1
    rw [hx] at q
    cases q
    exact pair_new g nT (.int _) rx
theorem zip_inv {s t : MP.Src} {h : List MP.O} {i : Nat} {v : MP.MV} (e : (MP.Src.zip s t).at h i = some (some v)) : ∃ u u', s.at h i = some (some u) ∧ t.at h i = some (some u') ∧ v = .tup [u, u'] := by
  simp only [MP.Src.at] at e
  split at e
  · rename_i u u' e1 e2
    cases e
    exact ⟨u, u', e1, e2, rfl⟩
  all_goals first | (cases e; done) | skip
theorem zip_end {s t : MP.Src} {h : List MP.O} {i : Nat} (e : (MP.Src.zip s t).at h i = some none) : ∃ o o', s.at h i = some o ∧ t.at h i = some o' ∧ (o = none ∨ o' = none) := by
  simp only [MP.Src.at] at e
  split at e
  · cases e
  · rename_i o e1 e2
    exact ⟨_, _, e1, e2, .inl rfl⟩
  · rename_i o e1 e2
    exact ⟨_, _, e1, e2, .inr rfl⟩
  · cases e
theorem it_zip {m0 : List Addr} {F0 : Hp} {a b : Addr} {s t : MP.Src} (r : SrcR G m0 F0 false a s) (r' : SrcR G m0 F0 false b t) : ItOk G (Itz G.K a b) (.zip s t) m0 F0 := by
  refine ⟨fun w σ H i v g p f e => ?_, fun w σ H i g p f e => ?_, fun w σ H i v x H' g p f e y => ?_⟩
  · obtain ⟨u, u', e1, e2, _⟩ := zip_inv e
    obtain ⟨l, xs, h1, h2, h3⟩ := src_here g (r.mono p f) e1
    obtain ⟨l', xs', h1', h2', h3'⟩ := src_here g (r'.mono p f) e2
    obtain ⟨x, hx, _⟩ := h2.get h3.symm
    obtain ⟨x', hx', _⟩ := h2'.get h3'.symm
    exact ⟨xs, xs', x, x', h1, h1', hx, hx'⟩
  · obtain ⟨o, o', e1, e2, hh⟩ := zip_end e
    obtain ⟨l, xs, h1, h2, h3⟩ := src_here g (r.mono p f) e1
    obtain ⟨l', xs', h1', h2', h3'⟩ := src_here g (r'.mono p f) e2
    refine ⟨xs, xs', h1, h1', ?_⟩
    rcases hh with rfl | rfl
    · exact .inl (by rw [← h2.length]; exact List.getElem?_eq_none_iff.mp h3.symm)
    · exact .inr (by rw [← h2'.length]; exact List.getElem?_eq_none_iff.mp h3'.symm)
  · obtain ⟨u, u', e1, e2, rfl⟩ := zip_inv e
    obtain ⟨l, xs, h1, h2, h3⟩ := src_here g (r.mono p f) e1
    obtain ⟨l', xs', h1', h2', h3'⟩ := src_here g (r'.mono p f) e2
    obtain ⟨x, hx, rx⟩ := h2.get h3.symm
    obtain ⟨x', hx', rx'⟩ := h2'.get h3'.symm
    obtain ⟨T, y1, y2, rfl, nT, rfl, f1, f2⟩ := y
    have q1 := f1 xs h1
    rw [hx] at q1
    cases q1
    have q2 := f2 xs' h1'
    rw [hx'] at q2
    cases q2
    exact pair_new g nT rx rx'
theorem it_zipT {m0 : List Addr} {F0 : Hp} {a b : Addr} {s t : MP.Src} (r : SrcR G m0 F0 true a s) (r' : SrcR G m0 F0 true b t) : ItOk G (RZ.ItzT G.K a b) (.zip s t) m0 F0 := by
  refine ⟨fun w σ H i v g p f e => ?_, fun w σ H i g p f e => ?_, fun w σ H i v x H' g p f e y => ?_⟩
  · obtain ⟨u, u', e1, e2, _⟩ := zip_inv e
    obtain ⟨l, xs, h1, h2, h3⟩ := src_tup g (r.mono p f) e1
    obtain ⟨l', xs', h1', h2', h3'⟩ := src_tup g (r'.mono p f) e2
    obtain ⟨x, hx, _⟩ := h2.get h3.symm
    obtain ⟨x', hx', _⟩ := h2'.get h3'.symm
    exact ⟨xs, xs', x, x', h1, h1', hx, hx'⟩
  · obtain ⟨o, o', e1, e2, hh⟩ := zip_end e
    obtain ⟨l, xs, h1, h2, h3⟩ := src_tup g (r.mono p f) e1
    obtain ⟨l', xs', h1', h2', h3'⟩ := src_tup g (r'.mono p f) e2
    refine ⟨xs, xs', h1, h1', ?_⟩
    rcases hh with rfl | rfl
    · exact .inl (by rw [← h2.length]; exact List.getElem?_eq_none_iff.mp h3.symm)
    · exact .inr (by rw [← h2'.length]; exact List.getElem?_eq_none_iff.mp h3'.symm)
  · obtain ⟨u, u', e1, e2, rfl⟩ := zip_inv e
    obtain ⟨l, xs, h1, h2, h3⟩ := src_tup g (r.mono p f) e1
    obtain ⟨l', xs', h1', h2', h3'⟩ := src_tup g (r'.mono p f) e2
    obtain ⟨x, hx, rx⟩ := h2.get h3.symm
    obtain ⟨x', hx', rx'⟩ := h2'.get h3'.symm
    obtain ⟨T, y1, y2, rfl, nT, rfl, f1, f2⟩ := y
    have q1 := f1 xs h1
    rw [hx] at q1
    cases q1
    have q2 := f2 xs' h1'
    rw [hx'] at q2
    cases q2
    exact pair_new g nT rx rx'
/-- a walked value's source -/
theorem srcV_of {w : Wd} {σ : L2.St} {H : Hp} {v : MP.MV} {x : V} {src : MP.Src} (g : Good G w σ H) (r : VR G w.m w.F v x) (e : MP.srcV w.h v = some src) : ∃ a, x = .ref a ∧ SrcR G w.m w.F (MP.isTup v) a src ∧ ∃ xs, match MP.isTup v with
    | true => SqT G.K H a xs
    | false => SqL G.K H a xs := by
  cases r <;> first | (cases e; done) | skip
  case tup a vs xs ea rs =>
    cases e
    exact ⟨a, rfl, ⟨xs, rs, ea⟩, xs, sqT_same g.fro ea⟩
  case lst a vs xs ea rs =>
    cases e
    exact ⟨a, rfl, ⟨xs, rs, ea⟩, xs, SqL.of (g.fro _ _ ea)⟩
  case ref i a ea =>
    simp only [MP.srcV] at e
    split at e
    · rename_i l el
      cases e
      obtain ⟨⟨xs, h1, _⟩, _⟩ := g.obj i _ a el ea (by simp)
      exact ⟨a, rfl, ⟨ea, rfl⟩, xs, SqL.of h1⟩
    · cases e
end
end MPS
end

section
set_option Elab.async false
set_option linter.all false
set_option maxRecDepth 100000
set_option maxHeartbeats 1000000
set_option autoImplicit false
namespace MPS
open PySem PySem.Spec PyProof.Rows L2
/-! ### zip of a tuple and a list -/
def ItM (K : PySem.W.Frag) (ta lb : Addr) : It where
  go := fun n H => ∃ (us vs : List V) (p q : V), SqT K H ta us ∧ SqL K H lb vs ∧ us[n]? = some p ∧ vs[n]? = some q
  yld := fun n H r H' => ∃ T p q, r = .ref T ∧ H T = none ∧ H' = upd H T (.tup [p, q]) ∧ (∀ us, SqT K H ta us → us[n]? = some p) ∧ ∀ vs, SqL K H lb vs → vs[n]? = some q
  stop := fun n H => ∃ us vs : List V, SqT K H ta us ∧ SqL K H lb vs ∧ (us.length ≤ n ∨ vs.length ≤ n)
def zM (ta lb zz t1 t2 j1 j2 : Addr) (n : Nat) (hp : Heap) : Prop :=
  IsZip hp zz t1 t2 .none ∧ IsPair hp t1 (.ref j1) (.ref j2) ∧ (∃ p q, IsPair hp t2 p q) ∧ hp.IsTupleIter j1 ta n ∧ hp.IsListIter j2 lb n
theorem five {zz t1 t2 j1 j2 c : Addr} {p : Addr → Prop} (h : c ∈ [zz, t1, t2, j1, j2]) (h1 : p zz) (h2 : p t1) (h3 : p t2) (h4 : p j1) (h5 : p j2) : p c := by
  simp only [List.mem_cons, List.not_mem_nil, or_false] at h
  rcases h with h | h | h | h | h <;> (rw [h]; assumption)
theorem sepM {zz t1 t2 j1 j2 ta lb : Addr} (D : ZipApart zz t1 t2 j1 j2 ta lb) : ZipSep2 zz t1 t2 j1 j2 [j1, ta] [j2, lb] where
  TIz := D.TIz
  TOz := D.TOz
  TITO := D.TITO
  TIi1 := D.TIi1
  mem1 := by simp
  zf1 := by simp [D.i1z.symm, D.l1z.symm]
  Tf1 := by simp [D.TOi1, D.l1TO.symm]
  TIi2 := D.TIi2
  mem2 := by simp
  zf2 := by simp [D.i2z.symm, D.l2z.symm]
  Tf2 := by simp [D.TOi2, D.l2TO.symm]
  sep1_2 := by simp [D.i12, D.l2i1.symm]
  sep2_1 := by simp [D.i12.symm, D.l1i2.symm]
/-- an iterator that has come to its end -/
theorem overT {prog : Program} {w : World} {A : Around} (hh : A.handled = none) (it t : Addr) (items : Array Value) (n : Nat) (hx : items[n]? = none) :
    Draws prog w A it [it, t] n (fun _ _ => False) (fun i hp => i = n ∧ hp.IsTupleIter it t i ∧ hp.IsTuple t items) where
  live := fun _ _ z => let ⟨o, ho, _⟩ := z.2.1; ⟨o, ho⟩
  frame := fun _ _ _ z k => ⟨z.1, z.2.1.at fun o e => k it (by simp) o e, z.2.2.at fun o e => k t (by simp) o e⟩
  item := fun i _ _ _ hi z _ => absurd z.1 (Nat.ne_of_lt hi)
  done := fun _ _ _ z q => wpAny_nextOf_tuple_end hh z.2.1 z.2.2 hx q
theorem overL {prog : Program} {w : World} {A : Around} (hh : A.handled = none) (it l : Addr) (items : Array Value) (n : Nat) (hx : items[n]? = none) :
    Draws prog w A it [it, l] n (fun _ _ => False) (fun i hp => i = n ∧ hp.IsListIter it l i ∧ hp.IsList l items) where
  live := fun _ _ z => let ⟨o, ho, _⟩ := z.2.1; ⟨o, ho⟩
  frame := fun _ _ _ z k => ⟨z.1, z.2.1.at fun o e => k it (by simp) o e, z.2.2.at fun o e => k l (by simp) o e⟩
  item := fun i _ _ _ hi z _ => absurd z.1 (Nat.ne_of_lt hi)
  done := fun _ _ _ z q => wpAny_nextOf_list_end hh z.2.1 z.2.2 hx q
theorem turnM {P : Program} {w : World} {K : PySem.W.Frag} {tl : List Expr} {kk : Nat} {tp : Pos} {ta lb zz t1 t2 j1 j2 : Addr} (D : ZipApart zz t1 t2 j1 j2 ta lb) :
    Turn P w K (.Tuple tl kk tp) (ItM K ta lb) [zz, t1, t2, j1, j2] zz (zM ta lb zz t1 t2 j1 j2) := by
  refine ⟨by simp, fun n hp z c hc => ?_, fun n hp hp' z k => ?_, ?_, ?_, fun A n u Q E z q => wpAny_pyIter_zip z.1 q⟩
  · obtain ⟨g1, g2, ⟨p, q, g3⟩, ⟨o1, e1, _, d1⟩, ⟨o2, e2, _, d2⟩⟩ := z
    exact five (p := fun c => ∃ o, hp.get? c = some o ∧ ∀ v, o.data ≠ .cell v) hc ⟨_, g1, fun v b => nomatch b⟩ ⟨_, g2, fun v b => nomatch b⟩ ⟨_, g3, fun v b => nomatch b⟩ ⟨o1, e1, fun v b => by rw [d1] at b; cases b⟩ ⟨o2, e2, fun v b => by rw [d2] at b; cases b⟩
  · obtain ⟨g1, g2, ⟨p, q, g3⟩, g4, g5⟩ := z
    exact ⟨k zz (by simp) _ g1, k t1 (by simp) _ g2, ⟨p, q, k t2 (by simp) _ g3⟩, g4.at fun o b => k j1 (by simp) o b, g5.at fun o b => k j2 (by simp) o b⟩
  · intro X hP hw hK hcalm n pins u σ H E Iv hf z hgo
    subst hP hw hK
    obtain ⟨g1, g2, ⟨p0, q0, g3⟩, g4, g5⟩ := z
    obtain ⟨us, vs, p, q, k1, k2, k3, k4⟩ := hgo
    obtain ⟨as, ra, pa, _⟩ := Iv.tuple k1
    obtain ⟨bs, rb, pb, _⟩ := Iv.list k2
    have la : n < as.toArray.size := by
      have h0 := (List.getElem?_eq_some_iff.mp k3).1
      have h1 := ra.length
      simp
      omega
    have lb' : n < bs.toArray.size := by
      have h0 := (List.getElem?_eq_some_iff.mp k4).1
      have h1 := rb.length
      simp
      omega
    have hh : X.A.in1.handled = none := Iv.ok.hd hcalm
    have d1 := Draws.tuple (prog := X.prog) (w := X.w) (A := X.A.in1) hh j1 ta D.l1i1 as.toArray
    have d2 := Draws.list (prog := X.prog) (w := X.w) (A := X.A.in1) hh j2 lb D.l2i2 bs.toArray
    refine wpAny_pyNext_zipD2_item (sepM D) d1 d2 g1 g2 g3 ⟨g4, pa⟩ ⟨g5, pb.isList⟩ la lb' fun x1 x2 hp' tk e1 e2 z1 z2 s1 s2 z3 z4 hk => ?_
    have big : zz < u.heap.objs.size := Heap.lt_size g1
    refine ⟨_, rfl, wpAny_letOwnedTupleGo_zip (s := { u with heap := hp', toks := tk }) z1 fun hq z1' same => ?_⟩
    obtain ⟨w1, b1, r1⟩ := ra.get k3
    obtain ⟨w2, b2, r2⟩ := rb.get k4
    have e1' : x1 = w1 := by
      have : as[n]? = some x1 := by simpa using e1
      rw [b1] at this
      exact (Option.some.inj this).symm
    have e2' : x2 = w2 := by
      have : bs[n]? = some x2 := by simpa using e2
      rw [b2] at this
      exact (Option.some.inj this).symm
    subst e1' e2'
    have tup : hq.get? u.heap.objs.size = some { cls := .type "tuple", data := .seq #[x1, x2] } := (same.2 _ (Nat.ne_of_gt big)).trans z3
    have fresh : ObjOk X.prog X.w (upd H u.heap.objs.size (.tup [p, q])) hq u.heap.objs.size (.tup [p, q]) :=
      ⟨by show 2 ≤ sizeLine; decide, [x1, x2], .cons r1 (.cons r2 .nil), ⟨_, tup, rfl, _, rfl⟩⟩
    have Iv1 : Inv X pins σ (upd H u.heap.objs.size (.tup [p, q])) { u with heap := hq, toks := tk } :=
      Iv.turnedNew (t' := tk) (ch := [zz, t1, t2, j1, j2]) (fun c o hb b => (same.2 c (fun y => hb (by rw [y]; simp))).trans (hk c o (fun y => hb (by rw [y]; simp)) (fun y => hb (by rw [y]; simp)) (fun y => hb (by rw [y]; simp)) (fun y => hb (by rw [y]; simp)) b)) hf (Nat.le_refl _) fresh
    refine ⟨.ref u.heap.objs.size, _, Iv1, rfl, ⟨_, p, q, rfl, Iv.hok.fresh (Nat.le_refl _), rfl, fun l hl => by rw [Iv.tuple_inj hl k1]; exact k3, fun l hl => by rw [Iv.list_inj hl k2]; exact k4⟩, ⟨z1', ?_, ⟨x1, x2, ?_⟩, ?_, ?_⟩, fun c hc => ?_⟩
    · exact (same.2 _ D.TIz).trans (hk _ _ D.TIz D.TITO D.TIi1 D.TIi2 g2)
    · exact (same.2 _ D.TOz).trans z2
    · exact s1.1.at fun o b => (same.2 _ D.i1z).trans b
    · exact s2.1.at fun o b => (same.2 _ D.i2z).trans b
    · have small : c < u.heap.objs.size := five (p := fun c => c < u.heap.objs.size) hc big (Heap.lt_size g2) (Heap.lt_size g3) (by obtain ⟨_, y, _⟩ := g4; exact Heap.lt_size y) (by obtain ⟨_, y, _⟩ := g5; exact Heap.lt_size y)
      rw [upd_ne (Nat.ne_of_lt small)]
      exact (hf c hc).1
  · intro X hP hw hK hcalm n pins u σ H E Iv hf z hst
    subst hP hw hK
    obtain ⟨g1, g2, ⟨p0, q0, g3⟩, g4, g5⟩ := z
    obtain ⟨us, vs, k1, k2, k3⟩ := hst
    obtain ⟨as, ra, pa, _⟩ := Iv.tuple k1
    obtain ⟨bs, rb, pb, _⟩ := Iv.list k2
    have la := ra.length
    have lb' := rb.length
    have hh : X.A.in1.handled = none := Iv.ok.hd hcalm
    have fin : ∀ (hp' : Heap) (tk : Nat), (∀ c o, c ≠ zz → c ≠ t2 → c ≠ j1 → c ≠ j2 → u.heap.get? c = some o → hp'.get? c = some o) → (none : Option Value) = none ∧ Inv X pins σ H { u with heap := hp', toks := tk } := fun hp' tk hk =>
      ⟨rfl, Iv.turnedL (t' := tk) (ch := [zz, t1, t2, j1, j2]) (fun c o hb b => hk c o (fun y => hb (by rw [y]; simp)) (fun y => hb (by rw [y]; simp)) (fun y => hb (by rw [y]; simp)) (fun y => hb (by rw [y]; simp)) b) hf⟩
    by_cases c1 : us.length ≤ n
    · have d1 := overT (prog := X.prog) (w := X.w) (A := X.A.in1) hh j1 ta as.toArray n (by simp; omega)
      by_cases c2 : vs.length ≤ n
      · have d2 := overL (prog := X.prog) (w := X.w) (A := X.A.in1) hh j2 lb bs.toArray n (by simp; omega)
        exact wpAny_pyNext_zipD2_end (sepM D) d1 d2 g1 g2 g3 ⟨rfl, g4, pa⟩ ⟨rfl, g5, pb.isList⟩ (Nat.le_refl _) (Nat.le_refl _) (.inl rfl) fin
      · have d2 := Draws.list (prog := X.prog) (w := X.w) (A := X.A.in1) hh j2 lb D.l2i2 bs.toArray
        exact wpAny_pyNext_zipD2_end (sepM D) d1 d2 g1 g2 g3 ⟨rfl, g4, pa⟩ ⟨g5, pb.isList⟩ (Nat.le_refl _) (by simp; omega) (.inl rfl) fin
    · have d1 := Draws.tuple (prog := X.prog) (w := X.w) (A := X.A.in1) hh j1 ta D.l1i1 as.toArray
      have d2 := overL (prog := X.prog) (w := X.w) (A := X.A.in1) hh j2 lb bs.toArray n (by simp; omega)
      exact wpAny_pyNext_zipD2_end (sepM D) d1 d2 g1 g2 g3 ⟨g4, pa⟩ ⟨rfl, g5, pb.isList⟩ (by simp; omega) (Nat.le_refl _) (.inr rfl) fin
/-! the call of zip -/
def oIt (kind : String) (a : Addr) : Obj := { cls := .type kind, data := .fields #[.ref a, .int 0 0] }
abbrev g1M (h : Heap) (ta : Addr) : Heap := h.push { cls := .type "tuple_iterator", data := .fields #[.ref ta, .int 0 0] }
abbrev g2M (h : Heap) (ta lb : Addr) : Heap := (g1M h ta).push { cls := .type "list_iterator", data := .fields #[.ref lb, .int 0 0] }
abbrev g3M (h : Heap) (ta lb : Addr) : Heap := (g2M h ta lb).push { cls := .type "tuple", data := .seq #[.ref h.objs.size, .ref (g1M h ta).objs.size] }
abbrev g4M (h : Heap) (ta lb : Addr) : Heap := (g3M h ta lb).push { cls := .type "tuple", data := .seq #[.none, .none] }
abbrev g5M (h : Heap) (ta lb : Addr) : Heap := (g4M h ta lb).push { cls := .type "zip", data := .fields #[.none, .bool false, .bool false, .ref (g2M h ta lb).objs.size, .ref (g3M h ta lb).objs.size] }
theorem meetsM (ta lb : Addr) (as bs : Array Value) :
    Meets (Builtin.«zip.__new__» ⟨[.type "zip", .ref ta, .ref lb], []⟩) (fun _ R u => u.heap.IsTuple ta as ∧ u.heap.IsList lb bs ∧ R (.ok (.ret (.ref (g4M u.heap ta lb).objs.size))) { u with heap := g5M u.heap ta lb }) :=
  .of_wp fun prog w A R u z => by
    obtain ⟨hp, g, d, tk, os⟩ := u
    obtain ⟨z1, z2, z⟩ := z
    have hsub := sub_zip
    have w1 : Heap.IsTuple (Shared.heap ⟨hp, g, d, tk, os⟩) ta as := z1
    have w2 : Heap.IsList (Shared.heap ⟨hp.push { cls := .type "tuple_iterator", data := .fields #[.ref ta, .int 0 0] }, g, d, tk, os⟩) lb bs := Heap.IsList.push z2 _
    wp_walk using wpAny_pyIter_tuple w1, wpAny_pyIter_list w2
    exact ⟨_, rfl, z⟩
theorem callM {prog : Program} {w : World} {A : Around} {E : Value → Shared → Prop} {u : Shared} {ta lb : Addr} {as bs : Array Value} {Q : Value → Shared → Prop} (z1 : u.heap.IsTuple ta as) (z2 : u.heap.IsList lb bs)
    (q : ∀ hq, IsZip hq (u.heap.objs.size + 4) (u.heap.objs.size + 2) (u.heap.objs.size + 3) .none → IsPair hq (u.heap.objs.size + 2) (.ref u.heap.objs.size) (.ref (u.heap.objs.size + 1)) → IsPair hq (u.heap.objs.size + 3) .none .none →
      hq.IsTupleIter u.heap.objs.size ta 0 → hq.IsListIter (u.heap.objs.size + 1) lb 0 → (∀ c o, u.heap.get? c = some o → hq.get? c = some o) → Q (.ref (u.heap.objs.size + 4)) { u with heap := hq }) :
    wpAny (model prog w) A (call (.type "zip") [.ref ta, .ref lb]) Q E u := by
  refine callType_new F.called_zip (by decide) (F.typeCall_zip_2 _ _) (F.newCall_zip_2 _ _) (fun o => F.args_object_init_3 o _ _) F.entry_zip_new (meetsM ta lb as bs) ⟨z1, z2, ?_⟩
  have n1 : (g1M u.heap ta).objs.size = u.heap.objs.size + 1 := Heap.size_push ..
  have n2 : (g2M u.heap ta lb).objs.size = u.heap.objs.size + 2 := (Heap.size_push ..).trans (by rw [n1])
  have n3 : (g3M u.heap ta lb).objs.size = u.heap.objs.size + 3 := (Heap.size_push ..).trans (by rw [n2])
  have n4 : (g4M u.heap ta lb).objs.size = u.heap.objs.size + 4 := (Heap.size_push ..).trans (by rw [n3])
  have v5 : (g5M u.heap ta lb).get? (g4M u.heap ta lb).objs.size = some _ := Heap.get?_push_size _ rfl
  have v4 : (g5M u.heap ta lb).get? (g3M u.heap ta lb).objs.size = some _ := Heap.get?_push_of_some _ (Heap.get?_push_size _ rfl)
  have v3 : (g5M u.heap ta lb).get? (g2M u.heap ta lb).objs.size = some _ := Heap.get?_push_of_some _ (Heap.get?_push_of_some _ (Heap.get?_push_size _ rfl))
  have v2 : (g5M u.heap ta lb).get? (g1M u.heap ta).objs.size = some _ := Heap.get?_push_of_some _ (Heap.get?_push_of_some _ (Heap.get?_push_of_some _ (Heap.get?_push_size _ rfl)))
  have v1 : (g5M u.heap ta lb).get? u.heap.objs.size = some _ := Heap.get?_push_of_some _ (Heap.get?_push_of_some _ (Heap.get?_push_of_some _ (Heap.get?_push_of_some _ (Heap.get?_push_size _ rfl))))
  show _ ∧ _
  rw [n2, n3, n4] at v5
  rw [n1, n2] at v3
  rw [n3] at v4
  rw [n1] at v2
  rw [n4]
  exact ⟨⟨_, v5, rfl⟩, q _ v5 v3 v4 ⟨_, v1, rfl, rfl⟩ ⟨_, v2, rfl, rfl⟩ fun c o x =>
    Heap.get?_push_of_some _ (Heap.get?_push_of_some _ (Heap.get?_push_of_some _ (Heap.get?_push_of_some _ (Heap.get?_push_of_some _ x))))⟩
/-- zip of two lists, of two tuples, of a tuple and a list -/
def iZipB (K : PySem.W.Frag) (t : TA) : TI := fun σ H R => t σ H fun vs H1 => ∃ a b xs ys, vs = [.ref a, .ref b] ∧
  ((SqL K H1 a xs ∧ SqL K H1 b ys ∧ R (Itz K a b) H1) ∨ (SqT K H1 a xs ∧ SqT K H1 b ys ∧ R (RZ.ItzT K a b) H1) ∨ (SqT K H1 a xs ∧ SqL K H1 b ys ∧ R (ItM K a b) H1))
theorem pi_zipB {X : Cx} {e1 e2 : Expr} {t : TA} {p pos tp : Pos} {tl : List Expr} {kk : Nat} (hg : Gl X "zip") (hm : X.mg "zip" = none) (ha : PA X [e1, e2] t)
    (st : starEach [e1, e2] X.env = (false, eval e1 X.env) :: starEach [e2] X.env) (pl : (backTo pos (starEach [e2] X.env)).any (·.1) = false) :
    PI X (.Tuple tl kk tp) (.Call (.Name "zip" p) [e1, e2] [] pos) (iZipB X.K t) := by
  refine ⟨fun pins u σ H R Iv h => ?_⟩
  refine Call_ (ld_blt Iv hg hm PyProof.Rows.boot_zip (PyProof.Rows.callWith_type1 (thn (ha.run pos pins u σ H _ Iv h) fun ws u1 ⟨vs, H1, Iv1, r1, q1⟩ => ?_) st pl))
  obtain ⟨a, b, xs, ys, ex, q1⟩ := q1
  subst ex
  obtain ⟨x1, x2, rfl, rfl, rfl⟩ : ∃ x1 x2, ws = [x1, x2] ∧ x1 = .ref a ∧ x2 = .ref b := by
    cases r1 with
    | cons r rr =>
      cases rr with
      | cons r' rr =>
        cases rr
        cases r
        cases r'
        exact ⟨_, _, rfl, rfl, rfl⟩
  have young : ∀ c, c ∈ [u1.heap.objs.size + 4, u1.heap.objs.size + 2, u1.heap.objs.size + 3, u1.heap.objs.size, u1.heap.objs.size + 1] → FpOk X pins H1 c := fun c hc => by
    have le : u1.heap.objs.size ≤ c := five (p := fun c => u1.heap.objs.size ≤ c) hc (by omega) (by omega) (by omega) (by omega) (by omega)
    exact Iv1.fpOk le (Iv1.hok.fresh le)
  rcases q1 with ⟨k1, k2, q⟩ | ⟨k1, k2, q⟩ | ⟨k1, k2, q⟩
  · obtain ⟨as, ra, pa, _⟩ := Iv1.list k1
    obtain ⟨bs, rb, pb, _⟩ := Iv1.list k2
    refine call_zip_2 pa.isList pb.isList fun hq z1 z2 z3 z4 z5 _ hk => wpAny_pyIter_zip z1 ?_
    exact ⟨_, _, _, _, H1, rfl, Iv1.kept (t' := u1.toks) hk, turn_zip (PySem.W.ktu_apart u1.heap.objs.size a b pa.lt pb.lt), ⟨z1, z2, ⟨_, _, z3⟩, z4, z5⟩, young, q⟩
  · obtain ⟨as, ra, pa, _⟩ := Iv1.tuple k1
    obtain ⟨bs, rb, pb, _⟩ := Iv1.tuple k2
    obtain ⟨o1, y1, _⟩ := id pa
    obtain ⟨o2, y2, _⟩ := id pb
    refine RZ.call_zipT (show u1.heap.IsTuple a as.toArray from pa) (show u1.heap.IsTuple b bs.toArray from pb) fun hq z1 z2 z3 z4 z5 _ hk => wpAny_pyIter_zip z1 ?_
    exact ⟨_, _, _, _, H1, rfl, Iv1.kept (t' := u1.toks) hk, RZ.turn_zipT (PySem.W.ktu_apart u1.heap.objs.size a b (Heap.lt_size y1) (Heap.lt_size y2)), ⟨z1, z2, ⟨_, _, z3⟩, z4, z5⟩, young, q⟩
  · obtain ⟨as, ra, pa, _⟩ := Iv1.tuple k1
    obtain ⟨bs, rb, pb, _⟩ := Iv1.list k2
    obtain ⟨o1, y1, _⟩ := id pa
    refine callM (show u1.heap.IsTuple a as.toArray from pa) pb.isList fun hq z1 z2 z3 z4 z5 hk => wpAny_pyIter_zip z1 ?_
    exact ⟨_, _, _, _, H1, rfl, Iv1.kept (t' := u1.toks) hk, turnM (PySem.W.ktu_apart u1.heap.objs.size a b (Heap.lt_size y1) pb.lt), ⟨z1, z2, ⟨_, _, z3⟩, z4, z5⟩, young, q⟩
variable {G : Gc}
theorem it_zipM {m0 : List Addr} {F0 : Hp} {a b : Addr} {s t : MP.Src} (r : SrcR G m0 F0 true a s) (r' : SrcR G m0 F0 false b t) : ItOk G (ItM G.K a b) (.zip s t) m0 F0 := by
  refine ⟨fun w σ H i v g p f e => ?_, fun w σ H i g p f e => ?_, fun w σ H i v x H' g p f e y => ?_⟩
  · obtain ⟨u, u', e1, e2, _⟩ := zip_inv e
    obtain ⟨l, xs, h1, h2, h3⟩ := src_tup g (r.mono p f) e1
    obtain ⟨l', xs', h1', h2', h3'⟩ := src_here g (r'.mono p f) e2
    obtain ⟨x, hx, _⟩ := h2.get h3.symm
    obtain ⟨x', hx', _⟩ := h2'.get h3'.symm
    exact ⟨xs, xs', x, x', h1, h1', hx, hx'⟩
  · obtain ⟨o, o', e1, e2, hh⟩ := zip_end e
    obtain ⟨l, xs, h1, h2, h3⟩ := src_tup g (r.mono p f) e1
    obtain ⟨l', xs', h1', h2', h3'⟩ := src_here g (r'.mono p f) e2
    refine ⟨xs, xs', h1, h1', ?_⟩
    rcases hh with rfl | rfl
    · exact .inl (by rw [← h2.length]; exact List.getElem?_eq_none_iff.mp h3.symm)
    · exact .inr (by rw [← h2'.length]; exact List.getElem?_eq_none_iff.mp h3'.symm)
  · obtain ⟨u, u', e1, e2, rfl⟩ := zip_inv e
    obtain ⟨l, xs, h1, h2, h3⟩ := src_tup g (r.mono p f) e1
    obtain ⟨l', xs', h1', h2', h3'⟩ := src_here g (r'.mono p f) e2
    obtain ⟨x, hx, rx⟩ := h2.get h3.symm
    obtain ⟨x', hx', rx'⟩ := h2'.get h3'.symm
    obtain ⟨T, y1, y2, rfl, nT, rfl, f1, f2⟩ := y
    have q1 := f1 xs h1
    rw [hx] at q1
    cases q1
    have q2 := f2 xs' h1'
    rw [hx'] at q2
    cases q2
    exact pair_new g nT rx rx'
end MPS
end

section
set_option Elab.async false
set_option linter.all false
set_option maxRecDepth 100000
set_option maxHeartbeats 1000000
set_option autoImplicit false
namespace MPS
open PySem PySem.Spec PyProof.Rows L2
abbrev Es := List MP.SV → List MP.O → MP.R MP.Src
def JR (G : Gc) : List Addr → Hp → MP.Src → It → Prop := fun m F src J => ItOk G J src m F
def TIv (G : Gc) (W : EW) (f : Es) : TI := fun σ H R => ∃ w, Good G w σ H ∧ EPost G (JR G) w σ (f w.rho w.h) R (fun e w H => W e w σ H)
section
variable {X : Cx} {G : Gc} {W : EW} {a b c e o tg : Expr} {es : List Expr} {fa fb fc : Ef} {fs : Efs} {pos apos : Pos}
theorem pi_imp {t t' : TI} (h : PI X tg e t) (i : ∀ σ H R, t' σ H R → t σ H R) : PI X tg e t' := ⟨fun p s σ H Q I q => h.run p s σ H Q I (i σ H Q q)⟩
/-- over a list or a tuple -/
theorem pi_both {tl : TE} (hl : PE X a tl) : PI X tg a (fun σ H R => tl σ H fun x H1 => ∃ p, x = .ref p ∧ (((∃ xs, SqL X.K H1 p xs) ∧ R (Itl X.K p) H1) ∨ ((∃ xs, SqT X.K H1 p xs) ∧ R (Itt X.K p) H1))) := by
  refine ⟨fun pins s σ H R I h => ?_⟩
  refine thn (hl.run pins s σ H _ I h) fun v s1 ⟨x, H1, I1, r1, q1⟩ => ?_
  obtain ⟨p, e, q1⟩ := q1
  subst e
  cases r1
  rcases q1 with ⟨⟨xs, hq⟩, q⟩ | ⟨⟨xs, hq⟩, q⟩
  · obtain ⟨its, rv, pl, hz⟩ := I1.list hq
    refine wpAny_pyIter_list pl.isList ?_
    refine ⟨s1.heap.objs.size, [s1.heap.objs.size], _, _, H1, rfl, I1.kept (t' := s1.toks) fun b o e => Heap.get?_push_of_some _ e, turn_list p _, ⟨_, Heap.get?_push_size _ rfl, rfl, rfl⟩, fun b hb => ?_, q⟩
    have e : b = s1.heap.objs.size := by simpa using hb
    subst e
    exact I1.fpOk (Nat.le_refl _) (I1.hok.fresh (Nat.le_refl _))
  · obtain ⟨its, rv, pl, hz⟩ := I1.tuple hq
    refine wpAny_pyIter_tuple (show s1.heap.IsTuple p its.toArray from pl) ?_
    refine ⟨s1.heap.objs.size, [s1.heap.objs.size], _, _, H1, rfl, I1.kept (t' := s1.toks) fun b o e => Heap.get?_push_of_some _ e, turn_tuple p _, ⟨_, Heap.get?_push_size _ rfl, rfl, rfl⟩, fun b hb => ?_, q⟩
    have e : b = s1.heap.objs.size := by simpa using hb
    subst e
    exact I1.fpOk (Nat.le_refl _) (I1.hok.fresh (Nat.le_refl _))
theorem i_seq (hK : X.K = G.K) (ha : PE X a (TEv G W fa)) : PI X tg a (TIv G W (fun rho h => MP.srcE .seq (fun h1 => fa rho h1) (fun h1 => fb rho h1) h)) := by
  refine pi_imp (pi_both ha) fun σ H R h => ?_
  obtain ⟨w, g, q⟩ := h
  refine ⟨w, g, (EPost.bind (Rl := VR G) (f := fun x h1 => MP.R.of (MP.srcV h1 x) h1) q).imp fun v h1 m1 F1 H1 x e1 p1 s1 g1 r1 q1 => ?_⟩
  obtain ⟨v', h1', m1', F1', p1', s1', g1', r1', q2⟩ := q1
  obtain ⟨src, es, q3⟩ := EPost.of q2
  obtain ⟨p, rfl, sr, xs, hq⟩ := srcV_of g1' r1' es
  refine ⟨p, rfl, ?_⟩
  rw [hK]
  cases ht : MP.isTup v' with
  | true =>
    rw [ht] at sr hq
    exact .inr ⟨⟨xs, hq⟩, q3 _ _ _ _ (Pre.refl _) (Same.refl _) g1' (it_tup sr)⟩
  | false =>
    rw [ht] at sr hq
    exact .inl ⟨⟨xs, hq⟩, q3 _ _ _ _ (Pre.refl _) (Same.refl _) g1' (it_list sr)⟩
theorem pa1 (h : isStar a = false) (ha : PE X a (TEv G W fa)) : PA X [a] (tCons (TEv G W fa) tNil) := pa_cons ha pa_nil (starEach_cons h)
theorem pa2 (h : isStar a = false) (h' : isStar b = false) (ha : PE X a (TEv G W fa)) (hb : PE X b (TEv G W fb)) : PA X [a, b] (tCons (TEv G W fa) (tCons (TEv G W fb) tNil)) := pa_cons ha (pa_cons hb pa_nil (starEach_cons h')) (starEach_cons h)
theorem star1 {env : Env} (h : isStar a = false) : starEach [a] env = [(false, eval a env)] := starEach_cons h
theorem star2 {env : Env} (h : isStar a = false) (h' : isStar b = false) : starEach [a, b] env = [(false, eval a env), (false, eval b env)] := by
  rw [starEach_cons h, star1 h']
theorem i_rng1 {p : Pos} (hg : Gl X "range") (hm : X.mg "range" = none) (h : isStar a = false) (ha : PE X a (TEv G W fa)) : PI X tg (.Call (.Name "range" p) [a] [] pos) (TIv G W (fun rho h => MP.srcE .rng1 (fun h1 => fa rho h1) (fun h1 => fb rho h1) h)) := by
  refine pi_imp (pi_range1 hg hm (pa1 h ha) (star1 h)) fun σ H R h => ?_
  obtain ⟨w, g, q⟩ := h
  refine ⟨w, g, (EPost.bind (Rl := VR G) (f := fun x h1 => MP.R.of (MP.rng1V x) h1) q).imp fun v h1 m1 F1 H1 x e1 p1 s1 g1 r1 q1 => ?_⟩
  obtain ⟨v', h1', m1', F1', p1', s1', g1', r1', q2⟩ := q1
  obtain ⟨src, es, q3⟩ := EPost.of q2
  cases r1' <;> first | (cases es; done) | skip
  rename_i j
  have es : (if -1000000 < j ∧ j < 1000000 then some (MP.Src.fz (MP.rangeV 0 j.toNat)) else none) = some src := es
  split at es
  · rename_i hj
    cases es
    exact ⟨j, rfl, by omega, by omega, q3 _ _ _ _ (Pre.refl _) (Same.refl _) g1' (it_range 0 _)⟩
  · cases es
theorem i_rng2 {p : Pos} (hg : Gl X "range") (hm : X.mg "range" = none) (h : isStar a = false) (h' : isStar b = false) (ha : PE X a (TEv G W fa)) (hb : PE X b (TEv G W fb)) : PI X tg (.Call (.Name "range" p) [a, b] [] pos) (TIv G W (fun rho h => MP.srcE .rng2 (fun h1 => fa rho h1) (fun h1 => fb rho h1) h)) := by
  refine pi_imp (pi_range2 hg hm (pa2 h h' ha hb) (star2 h h') (star1 h')) fun σ H R h => ?_
  obtain ⟨w, g, q⟩ := h
  refine ⟨w, g, (EPost.bind (Rl := VR G) (f := fun x h1 => (fb w.rho h1).bind fun y h2 => MP.R.of (MP.rng2V x y) h2) q).imp fun v h1 m1 F1 H1 x e1 p1 s1 g1 r1 q1 => ?_⟩
  obtain ⟨v', h1', m1', F1', p1', s1', g1', r1', q2⟩ := q1
  refine ⟨_, g1', (EPost.bind (Rl := VR G) q2).imp fun u h2 m2 F2 H2 y e2 p2 s2 g2 r2 q3 => ?_⟩
  obtain ⟨u', h2', m2', F2', p2', s2', g2', r2', q4⟩ := q3
  obtain ⟨src, es, q5⟩ := EPost.of q4
  cases r1' <;> first | (cases es; done) | skip
  cases r2' <;> first | (cases es; done) | skip
  rename_i i j
  have es : (if (-1000000 < i ∧ i < 1000000) ∧ -1000000 < j ∧ j < 1000000 then some (MP.Src.fz (MP.rangeV i (j - i).toNat)) else none) = some src := es
  split at es
  · rename_i hj
    cases es
    exact ⟨i, j, rfl, by omega, q5 _ _ _ _ (Pre.refl _) (Same.refl _) g2' (it_range i _)⟩
  · cases es
theorem i_enm {p tpos : Pos} {elts : List Expr} {kk : Nat} (hK : X.K = G.K) (hg : Gl X "enumerate") (hm : X.mg "enumerate" = none) (h : isStar a = false) (ha : PE X a (TEv G W fa)) : PI X (.Tuple elts kk tpos) (.Call (.Name "enumerate" p) [a] [] pos) (TIv G W (fun rho h => MP.srcE .enm (fun h1 => fa rho h1) (fun h1 => fb rho h1) h)) := by
  refine pi_imp (pi_enum hg hm (pa1 h ha) (star1 h)) fun σ H R h => ?_
  obtain ⟨w, g, q⟩ := h
  refine ⟨w, g, (EPost.bind (Rl := VR G) (f := fun x h1 => MP.R.of (MP.enmV h1 x) h1) q).imp fun v h1 m1 F1 H1 x e1 p1 s1 g1 r1 q1 => ?_⟩
  obtain ⟨v', h1', m1', F1', p1', s1', g1', r1', q2⟩ := q1
  obtain ⟨src, es, q3⟩ := EPost.of q2
  unfold MP.enmV at es
  split at es
  · cases es
  · rename_i ht
    obtain ⟨src', es', rfl⟩ := Option.map_eq_some_iff.mp es
    obtain ⟨p, rfl, sr, xs, hq⟩ := srcV_of g1' r1' es'
    have ht : MP.isTup v' = false := by simpa using ht
    rw [ht] at sr hq
    rw [hK]
    exact ⟨p, xs, rfl, hq, q3 _ _ _ _ (Pre.refl _) (Same.refl _) g1' (it_enum sr)⟩
theorem i_zip {p tpos : Pos} {elts : List Expr} {kk : Nat} (hK : X.K = G.K) (hg : Gl X "zip") (hm : X.mg "zip" = none) (h : isStar a = false) (h' : isStar b = false) (ha : PE X a (TEv G W fa)) (hb : PE X b (TEv G W fb)) : PI X (.Tuple elts kk tpos) (.Call (.Name "zip" p) [a, b] [] pos) (TIv G W (fun rho h => MP.srcE .zip (fun h1 => fa rho h1) (fun h1 => fb rho h1) h)) := by
  refine pi_imp (pi_zipB hg hm (pa2 h h' ha hb) (starEach_cons h) (by rw [star1 h'] <;> rfl)) fun σ H R h => ?_
  obtain ⟨w, g, q⟩ := h
  refine ⟨w, g, (EPost.bind (Rl := VR G) (f := fun x h1 => (fb w.rho h1).bind fun y h2 => MP.R.of (MP.zipV h2 x y) h2) q).imp fun v h1 m1 F1 H1 x e1 p1 s1 g1 r1 q1 => ?_⟩
  obtain ⟨v', h1', m1', F1', p1', s1', g1', r1', q2⟩ := q1
  refine ⟨_, g1', (EPost.bind (Rl := VR G) q2).imp fun u h2 m2 F2 H2 y e2 p2 s2 g2 r2 q3 => ?_⟩
  obtain ⟨u', h2', m2', F2', p2', s2', g2', r2', q4⟩ := q3
  obtain ⟨src, es, q5⟩ := EPost.of q4
  unfold MP.zipV at es
  split at es
  · rename_i ht
    obtain ⟨s', es1, es⟩ := Option.bind_eq_some_iff.mp es
    obtain ⟨t', es2, rfl⟩ := Option.map_eq_some_iff.mp es
    obtain ⟨p, rfl, sr, xs, hq⟩ := srcV_of g2' (r1'.mono p2' s2') es1
    obtain ⟨p', rfl, sr', xs', hq'⟩ := srcV_of g2' r2' es2
    rw [hK]
    cases htv : MP.isTup v' with
    | true =>
      rw [htv] at sr hq
      cases htu : MP.isTup u' with
      | true =>
        rw [htu] at sr' hq'
        exact ⟨p, p', xs, xs', rfl, .inr (.inl ⟨hq, hq', q5 _ _ _ _ (Pre.refl _) (Same.refl _) g2' (it_zipT sr sr')⟩)⟩
      | false =>
        rw [htu] at sr' hq'
        exact ⟨p, p', xs, xs', rfl, .inr (.inr ⟨hq, hq', q5 _ _ _ _ (Pre.refl _) (Same.refl _) g2' (it_zipM sr sr')⟩)⟩
    | false =>
      rw [htv] at sr hq ht
      have htu : MP.isTup u' = false := ht.resolve_left (by simp)
      rw [htu] at sr' hq'
      exact ⟨p, p', xs, xs', rfl, .inl ⟨hq, hq', q5 _ _ _ _ (Pre.refl _) (Same.refl _) g2' (it_zip sr sr')⟩⟩
  · cases es
end
/-! ### targets -/
section
variable {G : Gc} {w : Wd} {σ : L2.St} {H : Hp}
theorem Good.slot (g : Good G w σ H) {i : Nat} {v : MP.MV} {x : V} (r : VR G w.m w.F v x) : Good G { w with rho := w.rho.set i (.val v) } (σ.set i (some x)) H := by
  refine ⟨g.fro, g.len, g.nod, g.obj, g.map, g.own, ⟨?_, fun j u e => ?_, fun j o e => ?_, fun j k o o' a e1 e2 e3 e4 => ?_⟩, g.o0, g.o1, g.o2, g.o3, g.o4, g.o5, g.tab⟩
  · show (w.rho.set i _).length = (σ.set i _).length
    rw [List.length_set, List.length_set]
    exact g.slo.len
  · have e : (w.rho.set i (.val v))[j]? = some (.val u) := e
    by_cases q : i = j
    · subst q
      have hl : i < w.rho.length := by
        have := (List.getElem?_eq_some_iff.mp e).1
        simpa using this
      rw [List.getElem?_set_self hl] at e
      cases e
      exact ⟨x, List.getElem?_set_self (by rw [← g.slo.len]; exact hl), r⟩
    · rw [List.getElem?_set_ne q] at e
      rw [List.getElem?_set_ne q]
      exact g.slo.val j u e
  · have e : (w.rho.set i (.val v))[j]? = some (.own o) := e
    by_cases q : i = j
    · subst q
      have hl : i < w.rho.length := by
        have := (List.getElem?_eq_some_iff.mp e).1
        simpa using this
      rw [List.getElem?_set_self hl] at e
      cases e
    · rw [List.getElem?_set_ne q] at e
      rw [List.getElem?_set_ne q]
      exact g.slo.own j o e
  · have e1 : (w.rho.set i (.val v))[j]? = some (.own o) := e1
    have e2 : (w.rho.set i (.val v))[k]? = some (.own o') := e2
    have ne : ∀ {j : Nat} {o : MP.O}, (w.rho.set i (.val v))[j]? = some (.own o) → i ≠ j := fun {j o} e q => by
      subst q
      have hl : i < w.rho.length := by
        have := (List.getElem?_eq_some_iff.mp e).1
        simpa using this
      rw [List.getElem?_set_self hl] at e
      cases e
    have n1 := ne e1
    have n2 := ne e2
    rw [List.getElem?_set_ne n1] at e1 e3
    rw [List.getElem?_set_ne n2] at e2 e4
    exact g.slo.sep j k o o' a e1 e2 e3 e4
/-- slots forgotten -/
theorem wipe_get {rho : List MP.SV} {i : Nat} : ∀ {ks : List Nat} {s : MP.SV}, (MP.wipe rho ks)[i]? = some s → s = .none ∨ rho[i]? = some s
  | [], s, h => .inr h
  | k :: ks, s, h => by
    have h : ((MP.wipe rho ks).set k .none)[i]? = some s := h
    by_cases q : k = i
    · subst q
      have hl : k < (MP.wipe rho ks).length := by
        have := (List.getElem?_eq_some_iff.mp h).1
        simpa using this
      rw [List.getElem?_set_self hl] at h
      cases h
      exact .inl rfl
    · rw [List.getElem?_set_ne q] at h
      exact wipe_get h
theorem wipe_len (rho : List MP.SV) : ∀ ks : List Nat, (MP.wipe rho ks).length = rho.length
  | [] => rfl
  | k :: ks => by
    show ((MP.wipe rho ks).set k .none).length = _
    rw [List.length_set, wipe_len rho ks]
theorem Good.wiped (g : Good G w σ H) (ks : List Nat) : Good G { w with rho := MP.wipe w.rho ks } σ H := by
  refine ⟨g.fro, g.len, g.nod, g.obj, g.map, g.own, ⟨?_, fun j u e => ?_, fun j o e => ?_, fun j k o o' a e1 e2 e3 e4 => ?_⟩, g.o0, g.o1, g.o2, g.o3, g.o4, g.o5, g.tab⟩
  · rw [wipe_len]
    exact g.slo.len
  · rcases wipe_get e with z | z
    · cases z
    · exact g.slo.val j u z
  · rcases wipe_get e with z | z
    · cases z
    · exact g.slo.own j o z
  · rcases wipe_get e1 with z1 | z1
    · cases z1
    · rcases wipe_get e2 with z2 | z2
      · cases z2
      · exact g.slo.sep j k o o' a z1 z2 e3 e4
/-- .. in both -/
theorem wipeF_get {σ : L2.St} {i : Nat} : ∀ {ks : List Nat}, i ∉ ks → (L2.wipe σ ks)[i]? = σ[i]?
  | [], _ => rfl
  | k :: ks, h => by
    show ((L2.wipe σ ks).set k none)[i]? = _
    rw [List.getElem?_set_ne (fun z => h (by simp [z]))]
    exact wipeF_get fun z => h (List.mem_cons_of_mem _ z)
theorem wipe_get2 {rho : List MP.SV} {i : Nat} : ∀ {ks : List Nat} {s : MP.SV}, (MP.wipe rho ks)[i]? = some s → s ≠ .none → i ∉ ks ∧ rho[i]? = some s
  | [], s, h, _ => ⟨by simp, h⟩
  | k :: ks, s, h, n => by
    have h : ((MP.wipe rho ks).set k .none)[i]? = some s := h
    by_cases q : k = i
    · subst q
      have hl : k < (MP.wipe rho ks).length := by
        have := (List.getElem?_eq_some_iff.mp h).1
        simpa using this
      rw [List.getElem?_set_self hl] at h
      cases h
      exact absurd rfl n
    · rw [List.getElem?_set_ne q] at h
      obtain ⟨h1, h2⟩ := wipe_get2 h n
      exact ⟨fun z => (List.mem_cons.mp z).elim (fun z => q z.symm) h1, h2⟩
theorem Good.wiped2 (g : Good G w σ H) (ks : List Nat) : Good G { w with rho := MP.wipe w.rho ks } (L2.wipe σ ks) H := by
  have h := g.wiped ks
  refine ⟨g.fro, g.len, g.nod, g.obj, g.map, g.own, ⟨?_, fun j u e => ?_, fun j o e => ?_, fun j k o o' a e1 e2 e3 e4 => ?_⟩, g.o0, g.o1, g.o2, g.o3, g.o4, g.o5, g.tab⟩
  · rw [wipe_len, L2.wipe_length]
    exact g.slo.len
  · obtain ⟨n, z⟩ := wipe_get2 e (by simp)
    rw [wipeF_get n]
    exact g.slo.val j u z
  · obtain ⟨n, z⟩ := wipe_get2 e (by simp)
    rw [wipeF_get n]
    exact g.slo.own j o z
  · obtain ⟨n1, z1⟩ := wipe_get2 e1 (by simp)
    obtain ⟨n2, z2⟩ := wipe_get2 e2 (by simp)
    rw [wipeF_get n1] at e3
    rw [wipeF_get n2] at e4
    exact g.slo.sep j k o o' a z1 z2 e3 e4
end
/-- a target's reading -/
def TGv (G : Gc) (t : MP.T) : TG := fun x σ H Q => ∃ (w : Wd) (v : MP.MV) (r : List MP.SV), Good G w σ H ∧ VR G w.m w.F v x ∧ MP.setT t v w.rho = some r ∧ ∀ σ', Good G { w with rho := r } σ' H → (∀ ks, (∀ i ∈ t.slots, i ∈ ks) → L2.wipe σ' ks = L2.wipe σ ks) → Q σ' H
def TGsv (G : Gc) (ts : List MP.T) : TGs := fun xs σ H Q => ∃ (w : Wd) (vs : List MP.MV) (r : List MP.SV), Good G w σ H ∧ VRs G w.m w.F vs xs ∧ MP.setTs ts vs w.rho = some r ∧ ∀ σ', Good G { w with rho := r } σ' H → (∀ ks, (∀ i ∈ MP.T.slotsL ts, i ∈ ks) → L2.wipe σ' ks = L2.wipe σ ks) → Q σ' H
theorem wipe_set {σ : L2.St} {i : Nat} {x : Option V} : ∀ {ks : List Nat}, i ∈ ks → L2.wipe (σ.set i x) ks = L2.wipe σ ks
  | k :: ks, h => by
    show (L2.wipe (σ.set i x) ks).set k none = (L2.wipe σ ks).set k none
    by_cases q : i ∈ ks
    · rw [wipe_set q]
    · have e : i = k := by
        rcases List.mem_cons.mp h with z | z
        · exact z
        · exact absurd z q
      subst e
      apply List.ext_getElem?
      intro j
      by_cases hj : i = j
      · subst hj
        by_cases hl : i < σ.length
        · rw [List.getElem?_set_self (by rw [L2.wipe_length, List.length_set]; exact hl), List.getElem?_set_self (by rw [L2.wipe_length]; exact hl)]
        · rw [List.getElem?_eq_none (by rw [List.length_set, L2.wipe_length, List.length_set]; omega), List.getElem?_eq_none (by rw [List.length_set, L2.wipe_length]; omega)]
      · rw [List.getElem?_set_ne hj, List.getElem?_set_ne hj]
        have gen : ∀ ks : List Nat, (L2.wipe (σ.set i x) ks)[j]? = (L2.wipe σ ks)[j]? := by
          intro ks
          induction ks with
          | nil => exact List.getElem?_set_ne hj
          | cons k ks ih =>
            show ((L2.wipe (σ.set i x) ks).set k none)[j]? = ((L2.wipe σ ks).set k none)[j]?
            by_cases hk : k = j
            · subst hk
              by_cases hl : k < σ.length
              · rw [List.getElem?_set_self (by rw [L2.wipe_length, List.length_set]; exact hl), List.getElem?_set_self (by rw [L2.wipe_length]; exact hl)]
              · rw [List.getElem?_eq_none (by rw [List.length_set, L2.wipe_length, List.length_set]; omega), List.getElem?_eq_none (by rw [List.length_set, L2.wipe_length]; omega)]
            · rw [List.getElem?_set_ne hk, List.getElem?_set_ne hk]
              exact ih
        exact gen ks
section
variable {X : Cx} {G : Gc} {e : Expr} {es : List Expr} {pos : Pos}
theorem pg_imp {t t' : TG} (h : PG X e t) (i : ∀ v σ H Q, t' v σ H Q → t v σ H Q) : PG X e t' := ⟨fun p s σ H v u Q I r q => h.run p s σ H v u Q I r (i v σ H Q q)⟩
theorem pgs_imp {t t' : TGs} (h : PGs X es t) (i : ∀ v σ H Q, t' v σ H Q → t v σ H Q) : PGs X es t' := ⟨fun p s σ H v u Q I r q => h.run p s σ H v u Q I r (i v σ H Q q)⟩
theorem T_nm {i : Nat} {x : Str} (hN : X.N.Nodup) (hi : X.N[i]? = some x) (hx : Loc X.env.scope x) (hf : X.fn x = true ∨ X.env.scope.names.lookup x = some .local) : PG X (.Name x pos) (TGv G (.nm i)) := by
  refine pg_imp (pg_name hN hi hx hf) fun x σ H Q h => ?_
  obtain ⟨w, v, r, g, rv, er, q⟩ := h
  cases er
  exact q _ (g.slot rv) fun ks hk => wipe_set (hk i (by simp [MP.T.slots]))
theorem Ts_nil : PGs X [] (TGsv G []) := by
  refine pgs_imp pgs_nil fun xs σ H Q h => ?_
  obtain ⟨w, vs, r, g, rv, er, q⟩ := h
  cases rv with
  | nil =>
    cases er
    exact ⟨rfl, q σ g fun _ _ => rfl⟩
  | cons _ _ => cases er
theorem Ts_cons {t : MP.T} {ts : List MP.T} (hs : isStar e = false) (h : PG X e (TGv G t)) (hr : PGs X es (TGsv G ts)) : PGs X (e :: es) (TGsv G (t :: ts)) := by
  refine pgs_imp (pgs_cons h hr (by cases e <;> first | rfl | (cases hs))) fun xs σ H Q h => ?_
  obtain ⟨w, vs, r, g, rv, er, q⟩ := h
  cases rv with
  | nil => cases er
  | cons rv rs =>
    obtain ⟨r1, e1, e2⟩ := Option.bind_eq_some_iff.mp (show (MP.setT t _ w.rho).bind (fun r => MP.setTs ts _ r) = some r from er)
    refine ⟨_, _, rfl, w, _, r1, g, rv, e1, fun σ1 g1 k1 => ⟨_, _, r, g1, rs, e2, fun σ2 g2 k2 => q σ2 g2 fun ks hk => ?_⟩⟩
    rw [k2 ks fun i hi => hk i (by simp [MP.T.slotsL, hi]), k1 ks fun i hi => hk i (by simp [MP.T.slotsL, hi])]
theorem each_len {env : Env} : ∀ es : List Expr, (assignEach es env).length = es.length
  | [] => rfl
  | e :: es => by
    have ih := each_len (env := env) es
    cases e <;> exact congrArg Nat.succ ih
theorem each_star {env : Env} : ∀ es : List Expr, noStar es = true → (assignEach es env).findIdx? (·.1) = none
  | [], _ => rfl
  | e :: es, h => by
    obtain ⟨h1, h2⟩ := noStar_cons h
    have ih := each_star (env := env) es h2
    have e1 : ∃ f, assignEach (e :: es) env = (false, f) :: assignEach es env := by
      cases e <;> first | exact ⟨_, rfl⟩ | (cases h1)
    obtain ⟨f, e1⟩ := e1
    rw [e1, List.findIdx?_cons]
    simp [ih]
theorem T_tp {k : Nat} {ts : List MP.T} (hK : X.K = G.K) (hc : X.calm = true) (hs : noStar es = true) (hl : es.length = ts.length) (h : PGs X es (TGsv G ts)) : PG X (.Tuple es k pos) (TGv G (.tp ts)) := by
  refine pg_imp (pg_tup hc h (each_len es) (each_star es hs)) fun x σ H Q h => ?_
  obtain ⟨w, v, r, g, rv, er, q⟩ := h
  cases rv <;> first | (cases er; done) | skip
  rename_i a vs xs ea rs
  have er : MP.setTs ts vs w.rho = some r := er
  refine ⟨a, xs, rfl, by rw [hK]; exact sqT_same g.fro ea, ?_, w, vs, r, g, rs, er, q⟩
  rw [hl, ← rs.length]
  have gen : ∀ (ts : List MP.T) (vs : List MP.MV) (rho r : List MP.SV), MP.setTs ts vs rho = some r → vs.length = ts.length := by
    intro ts
    induction ts with
    | nil =>
      intro vs rho r h
      cases vs with
      | nil => rfl
      | cons _ _ => cases h
    | cons t ts ih =>
      intro vs rho r h
      cases vs with
      | nil => cases h
      | cons v vs =>
        obtain ⟨r1, _, e2⟩ := Option.bind_eq_some_iff.mp (show (MP.setT t v rho).bind (fun r => MP.setTs ts vs r) = some r from h)
        exact congrArg Nat.succ (ih vs r1 r e2)
  exact gen ts vs w.rho r er
end
end MPS
end

section
set_option Elab.async false
set_option linter.all false
set_option maxRecDepth 100000
set_option maxHeartbeats 1000000
set_option autoImplicit false
namespace MPS
open PySem PySem.Spec PyProof.Rows L2
/-! ### comprehensions -/
def updU (U : Addr → Option MP.O) (a : Addr) (o : MP.O) : Addr → Option MP.O := fun b => if b = a then some o else U b
theorem updU_same {U : Addr → Option MP.O} {a : Addr} {o : MP.O} : updU U a o a = some o := if_pos rfl
theorem updU_ne {U : Addr → Option MP.O} {a b : Addr} {o : MP.O} (h : b ≠ a) : updU U a o b = U b := if_neg h
theorem updU_upd {U : Addr → Option MP.O} {a : Addr} {o o' : MP.O} : updU (updU U a o) a o' = updU U a o' := by
  funext b
  unfold updU
  split <;> rfl
section
variable {G : Gc} {w : Wd} {σ τ : L2.St} {H H' : Hp}
/-- a new object that is owned -/
theorem Good.newU (g : Good G w σ H) {p : Addr} {o : HO} {u : MP.O} (n : H p = none) (nd : u ≠ .dead) (r : OR G w.m w.F (upd H p o) p u) : Good G { w with U := updU w.U p u } σ (upd H p o) := by
  have g2 := g.grow o n
  refine ⟨g2.fro, g2.len, g2.nod, g2.obj, g2.map, fun a v e => ?_, ⟨g2.slo.len, g2.slo.val, fun i o e => ?_, g2.slo.sep⟩, g2.o0, g2.o1, g2.o2, g2.o3, fun a h => ?_, g2.o5, g2.tab.step (g.tab.ne_none n) (fun a _ => rfl) (Same.refl _) (fun a _ e => e) (fun a _ h => h) (fun a q e => by show updU w.U p u a = none; rw [updU_ne q]; exact e)⟩
  · by_cases q : a = p
    · subst q
      have e : updU w.U a u a = some v := e
      rw [updU_same] at e
      cases e
      exact ⟨r, nd, g.noF n, g.noM n⟩
    · have e : updU w.U p u a = some v := e
      rw [updU_ne q] at e
      exact g2.own a v e
  · obtain ⟨a, h1, h2⟩ := g2.slo.own i o e
    refine ⟨a, h1, ?_⟩
    show updU w.U p u a = some o
    rw [updU_ne (fun z => by rw [z] at h2; have := g.noU n; rw [this] at h2; cases h2)]
    exact h2
  · by_cases q : a = p
    · subst q
      exact g.noH0 n
    · have h : updU w.U p u a ≠ none := h
      rw [updU_ne q] at h
      exact g2.o4 a h
/-- an owned object is changed -/
theorem Good.setU (g : Good G w σ H) {p : Addr} {o : HO} {u v : MP.O} {rho : List MP.SV} (e : w.U p = some v) (nd : u ≠ .dead) (r : OR G w.m w.F (upd H p o) p u) (sl : Slots G { w with rho := rho, U := updU w.U p u } τ) : Good G { w with rho := rho, U := updU w.U p u } τ (upd H p o) := by
  obtain ⟨q1, q2, q3, q4⟩ := g.own p v e
  refine ⟨fun a x e => ?_, g.len, g.nod, fun i x a e1 e2 e3 => ?_, fun a h => ?_, fun a x e => ?_, sl, g.o0, g.o1, fun a x h hT e => ?_, g.o3, fun a h => ?_, g.o5, g.tab.step (g.tab.ne_U e) (fun a q => upd_ne q) (Same.refl _) (fun a _ e => e) (fun a _ h => h) (fun a q e => by show updU w.U p u a = none; rw [updU_ne q]; exact e)⟩
  · have q : a ≠ p := fun z => by rw [z, q3] at e; cases e
    rw [upd_ne q]
    exact g.fro a x e
  · obtain ⟨h1, h2⟩ := g.obj i x a e1 e2 e3
    have q : a ≠ p := fun z => q4 (z ▸ List.mem_of_getElem? e2)
    exact ⟨h1.mono (Pre.refl _) (Same.refl _) (upd_ne q), h2⟩
  · have q : a ≠ p := fun z => q4 (z ▸ h)
    rw [upd_ne q]
    exact g.map a h
  · by_cases q : a = p
    · subst q
      have e : updU w.U a u a = some x := e
      rw [updU_same] at e
      cases e
      exact ⟨r, nd, q3, q4⟩
    · have e : updU w.U p u a = some x := e
      rw [updU_ne q] at e
      obtain ⟨h1, h2, h3, h4⟩ := g.own a x e
      exact ⟨h1.mono (Pre.refl _) (Same.refl _) (upd_ne q), h2, h3, h4⟩
  · rename_i e'
    have q : a ≠ p := fun z => by
      subst z
      rcases g.o4 a (fun z => by rw [z] at e'; cases e') with z | z
      · exact h z
      · rw [z] at e
        cases e
    rw [upd_ne q]
    exact g.o2 a x h hT e
  · by_cases q : a = p
    · subst q
      exact g.o4 a (by rw [e]; simp)
    · have h : updU w.U p u a ≠ none := h
      rw [updU_ne q] at h
      exact g.o4 a h
/-- .. that no slot owns -/
theorem Good.setN (g : Good G w σ H) {p : Addr} {o : HO} {u v : MP.O} (e : w.U p = some v) (nd : u ≠ .dead) (r : OR G w.m w.F (upd H p o) p u) (ns : ∀ (i : Nat) (o : MP.O), w.rho[i]? = some (MP.SV.own o) → σ[i]? ≠ some (some (V.ref p))) : Good G { w with U := updU w.U p u } σ (upd H p o) := by
  refine g.setU e nd r ⟨g.slo.len, g.slo.val, fun i o e => ?_, g.slo.sep⟩
  obtain ⟨a, h1, h2⟩ := g.slo.own i o e
  refine ⟨a, h1, ?_⟩
  show updU w.U p u a = some o
  rw [updU_ne (fun z => by rw [z] at h1; exact ns i o e h1)]
  exact h2
/-- .. that the slot i owns -/
theorem Good.setS (g : Good G w σ H) {p : Addr} {o : HO} {u v : MP.O} {i : Nat} (ei : w.rho[i]? = some (.own v)) (es : σ[i]? = some (some (.ref p))) (nd : u ≠ .dead) (r : OR G w.m w.F (upd H p o) p u) : Good G { w with rho := w.rho.set i (.own u), U := updU w.U p u } σ (upd H p o) := by
  have e : w.U p = some v := by
    obtain ⟨a, h1, h2⟩ := g.slo.own i v ei
    rw [es] at h1
    cases h1
    exact h2
  have hl : i < w.rho.length := (List.getElem?_eq_some_iff.mp ei).1
  have own : ∀ (j : Nat) (x : MP.O), (w.rho.set i (.own u))[j]? = some (.own x) → (j = i ∧ x = u) ∨ (j ≠ i ∧ w.rho[j]? = some (.own x)) := fun j x h => by
    by_cases q : i = j
    · subst q
      rw [List.getElem?_set_self hl] at h
      cases h
      exact .inl ⟨rfl, rfl⟩
    · rw [List.getElem?_set_ne q] at h
      exact .inr ⟨Ne.symm q, h⟩
  have own' : ∀ (j : Nat) (x : MP.O), (w.rho.set i (.own u))[j]? = some (.own x) → ∃ x', w.rho[j]? = some (.own x') := fun j x h => by
    rcases own j x h with ⟨rfl, _⟩ | ⟨_, h⟩
    · exact ⟨_, ei⟩
    · exact ⟨_, h⟩
  refine g.setU e nd r ⟨by show (w.rho.set i (.own u)).length = _; rw [List.length_set]; exact g.slo.len, fun j x h => ?_, fun j x h => ?_, fun j k x x' a h1 h2 h3 h4 => ?_⟩
  · have h : (w.rho.set i (.own u))[j]? = some (.val x) := h
    by_cases q : i = j
    · subst q
      rw [List.getElem?_set_self hl] at h
      cases h
    · rw [List.getElem?_set_ne q] at h
      exact g.slo.val j x h
  · rcases own j x h with ⟨rfl, rfl⟩ | ⟨q, h⟩
    · exact ⟨p, es, updU_same⟩
    · obtain ⟨a, h1, h2⟩ := g.slo.own j x h
      refine ⟨a, h1, ?_⟩
      show updU w.U p u a = some x
      rw [updU_ne (fun z => q (g.slo.sep j i x v a h ei h1 (by rw [z]; exact es)))]
      exact h2
  · obtain ⟨x1, h1⟩ := own' j x h1
    obtain ⟨x2, h2⟩ := own' k x' h2
    exact g.slo.sep j k x1 x2 a h1 h2 h3 h4
/-- the comprehension's list is let go: it stays as it is, or becomes a place of the small heap -/
theorem Good.rest {u : Wd} {D : Addr} {l : List MP.MV} {xs : List V} (g : Good G w σ H) (nD : w.U D = none) (k : Good G u τ H') (eU : u.U = updU w.U D (.lst l)) (e0 : u.A0 = w.A0) (e1 : u.m0 = w.m0) (e2 : u.F0 = w.F0) (e3 : u.H0 = w.H0) (p : Pre w.m u.m) (s : Same w.F u.F) (eD : H' D = some (.lst xs)) :
    Good G (w.at u.m (upd u.F D (.lst xs)) u.h) σ H' := by
  obtain ⟨q1, q2, q3, q4⟩ := k.own D (.lst l) (by rw [eU]; exact updU_same)
  have sF : Same u.F (upd u.F D (.lst xs)) := MPS.same_upd q3
  refine ⟨fun a x e => ?_, k.len, k.nod, fun i x a h1 h2 h3 => ?_, k.map, fun a x e => ?_, g.slo.mono rfl rfl p (s.trans sF), e1 ▸ k.o0, (e2 ▸ k.o1).trans sF, fun a x h hT e => k.o2 a x (by rw [e0]; exact h) hT (by rw [e3]; exact e), fun a h => ?_, g.o4, fun a h => ?_, (k.tab.step (p := D) (k.tab.ne_U (by rw [eU]; exact updU_same)) (fun a _ => rfl) sF (fun a q e => by show upd u.F D (.lst xs) a = none; rw [upd_ne q]; exact e) (fun a _ h => h) (fun a _ e => e)).to (fun a h => (k.tab.at h).2.2.1) (fun a h => (g.tab.at h).2.2.2)⟩
  · by_cases q : a = D
    · subst q
      have e : upd u.F a (.lst xs) a = some x := e
      rw [upd_same] at e
      cases e
      exact eD
    · have e : upd u.F D (.lst xs) a = some x := e
      rw [upd_ne q] at e
      exact k.fro a x e
  · obtain ⟨h1', h2'⟩ := k.obj i x a h1 h2 h3
    have q : a ≠ D := fun z => q4 (z ▸ List.mem_of_getElem? h2)
    exact ⟨h1'.mono (Pre.refl _) sF rfl, by show upd u.F D (.lst xs) a = none; rw [upd_ne q]; exact h2'⟩
  · have q : a ≠ D := fun z => by rw [z, nD] at e; cases e
    obtain ⟨h1', h2', h3', h4'⟩ := k.own a x (by rw [eU, updU_ne q]; exact e)
    exact ⟨h1'.mono (Pre.refl _) sF rfl, h2', by show upd u.F D (.lst xs) a = none; rw [upd_ne q]; exact h3', h4'⟩
  · rcases k.o3 a h with z | z
    · exact .inl (e0 ▸ z)
    · exact .inr (e3 ▸ z)
  · by_cases q : a = D
    · subst q
      rcases k.o4 a (by rw [eU, updU_same]; simp) with z | z
      · exact .inr (.inl (e0 ▸ z))
      · exact .inr (.inr (e3 ▸ z))
    · have h : upd u.F D (.lst xs) a ≠ none := h
      rw [upd_ne q] at h
      rcases k.o5 a h with z | z | z
      · exact .inl (e2 ▸ z)
      · exact .inr (.inl (e0 ▸ z))
      · exact .inr (.inr (e3 ▸ z))
theorem Good.restR {u : Wd} {D : Addr} {l : List MP.MV} (g : Good G w σ H) (nD : w.U D = none) (k : Good G u τ H') (eU : u.U = updU w.U D (.lst l)) (e0 : u.A0 = w.A0) (e1 : u.m0 = w.m0) (e2 : u.F0 = w.F0) (e3 : u.H0 = w.H0) (p : Pre w.m u.m) (s : Same w.F u.F) :
    Good G (w.at (u.m ++ [D]) u.F (u.h ++ [MP.O.lst l])) σ H' := by
  obtain ⟨q1, q2, q3, q4⟩ := k.own D (.lst l) (by rw [eU]; exact updU_same)
  have pr : Pre u.m (u.m ++ [D]) := Pre.app _ _
  refine ⟨k.fro, ?_, ?_, fun i x a h1 h2 h3 => ?_, fun a h => ?_, fun a x e => ?_, g.slo.mono rfl rfl (p.trans pr) s, (e1 ▸ k.o0).trans pr, e2 ▸ k.o1, fun a x h hT e => k.o2 a x (by rw [e0]; exact h) hT (by rw [e3]; exact e), fun a h => ?_, g.o4, fun a h => ?_, (k.tab.step (m' := u.m ++ [D]) (p := D) (k.tab.ne_U (by rw [eU]; exact updU_same)) (fun a _ => rfl) (Same.refl _) (fun a _ e => e) (fun a q h => (List.mem_append.mp h).resolve_right fun z => q (by simpa using z)) (fun a _ e => e)).to (fun a h z => (List.mem_append.mp z).elim (k.tab.at h).2.2.1 fun z => absurd ((show a = D by simpa using z) ▸ h) (k.tab.ne_U (by rw [eU]; exact updU_same))) (fun a h => (g.tab.at h).2.2.2)⟩
  · show (u.m ++ [D]).length = (u.h ++ [MP.O.lst l]).length
    rw [List.length_append, List.length_append, k.len]
    rfl
  · show (u.m ++ [D]).Nodup
    rw [List.nodup_append]
    refine ⟨k.nod, by simp, fun a ha b hb => ?_⟩
    have e : b = D := by simpa using hb
    subst e
    intro z
    subst z
    exact q4 ha
  · have h1 : (u.h ++ [MP.O.lst l])[i]? = some x := h1
    have h2 : (u.m ++ [D])[i]? = some a := h2
    by_cases q : i < u.m.length
    · rw [List.getElem?_append_left q] at h2
      rw [List.getElem?_append_left (by rw [← k.len]; exact q)] at h1
      obtain ⟨h1', h2'⟩ := k.obj i x a h1 h2 h3
      exact ⟨h1'.mono pr (Same.refl _) rfl, h2'⟩
    · have hi : i = u.m.length := by
        have := (List.getElem?_eq_some_iff.mp h2).1
        rw [List.length_append] at this
        simp at this
        omega
      subst hi
      rw [List.getElem?_append_right (Nat.le_refl _)] at h2
      simp at h2
      rw [k.len, List.getElem?_append_right (Nat.le_refl _)] at h1
      simp at h1
      subst h2 h1
      exact ⟨q1.mono pr (Same.refl _) rfl, q3⟩
  · rcases List.mem_append.mp (show a ∈ u.m ++ [D] from h) with h | h
    · exact k.map a h
    · have e : a = D := by simpa using h
      subst e
      exact q1.there q2
  · have q : a ≠ D := fun z => by rw [z, nD] at e; cases e
    obtain ⟨h1', h2', h3', h4'⟩ := k.own a x (by rw [eU, updU_ne q]; exact e)
    refine ⟨h1'.mono pr (Same.refl _) rfl, h2', h3', fun z => ?_⟩
    rcases List.mem_append.mp (show a ∈ u.m ++ [D] from z) with z | z
    · exact h4' z
    · exact q (by simpa using z)
  · rcases List.mem_append.mp (show a ∈ u.m ++ [D] from h) with h | h
    · rcases k.o3 a h with z | z
      · exact .inl (e0 ▸ z)
      · exact .inr (e3 ▸ z)
    · have e : a = D := by simpa using h
      subst e
      rcases k.o4 a (by rw [eU, updU_same]; simp) with z | z
      · exact .inl (e0 ▸ z)
      · exact .inr (e3 ▸ z)
  · rcases k.o5 a h with z | z | z
    · exact .inl (e2 ▸ z)
    · exact .inr (.inl (e0 ▸ z))
    · exact .inr (.inr (e3 ▸ z))
end
theorem wipe_none {σ : L2.St} {i : Nat} : ∀ {ks : List Nat}, i ∈ ks → i < σ.length → (L2.wipe σ ks)[i]? = some none
  | k :: ks, h, hl => by
    show ((L2.wipe σ ks).set k none)[i]? = _
    by_cases q : k = i
    · subst q
      exact List.getElem?_set_self (by rw [L2.wipe_length]; exact hl)
    · rw [List.getElem?_set_ne q]
      exact wipe_none ((List.mem_cons.mp h).elim (fun z => absurd z.symm q) id) hl
theorem wipe_wipe {σ : L2.St} {ks : List Nat} : L2.wipe (L2.wipe σ ks) ks = L2.wipe σ ks := by
  apply List.ext_getElem?
  intro i
  by_cases q : i ∈ ks
  · by_cases hl : i < σ.length
    · rw [wipe_none q hl, wipe_none q (by rw [L2.wipe_length]; exact hl)]
    · rw [List.getElem?_eq_none (by rw [L2.wipe_length, L2.wipe_length]; omega), List.getElem?_eq_none (by rw [L2.wipe_length]; omega)]
  · rw [wipeF_get q]
/-- what is wanted of the turns that are left: D holds acc -/
def CPost (G : Gc) (w : Wd) (D : Addr) (own : List Nat) (τ : L2.St) (Q : Hp → List MP.MV → List Addr → Hp → List MP.O → Prop) (acc : List MP.MV) (r : MP.R (List MP.MV)) : Prop := match r with
  | .ok ys h' => (acc ++ ys).length ≤ MP.LIM ∧ ∀ m' F' H', Pre w.m m' → Same w.F F' → Good G { w with rho := MP.wipe w.rho own, U := updU w.U D (.lst (acc ++ ys)), m := m', F := F', h := h' } τ H' → Q H' (acc ++ ys) m' F' h'
  | _ => False
theorem CPost.cons {G : Gc} {w : Wd} {D : Addr} {own : List Nat} {τ : L2.St} {Q : Hp → List MP.MV → List Addr → Hp → List MP.O → Prop} {acc : List MP.MV} {r : MP.R (List MP.MV)} {y : MP.MV} (h : CPost G w D own τ Q acc (r.bind fun ys h2 => .ok (y :: ys) h2)) : CPost G w D own τ Q (acc ++ [y]) r ∧ acc.length < MP.LIM := by
  cases r with
  | ok ys h2 =>
    obtain ⟨h1, h2⟩ := h
    refine ⟨⟨by rw [List.append_assoc]; exact h1, fun m' F' H' p s g => ?_⟩, ?_⟩
    · rw [List.append_assoc] at g ⊢
      exact h2 m' F' H' p s g
    · rw [List.length_append, List.length_cons] at h1
      omega
  | ex e h2 => exact h.elim
  | bad => exact h.elim
theorem CPost.skip {G : Gc} {w : Wd} {D : Addr} {own : List Nat} {τ : L2.St} {Q : Hp → List MP.MV → List Addr → Hp → List MP.O → Prop} {acc : List MP.MV} {r : MP.R (List MP.MV)} (h : CPost G w D own τ Q acc (r.bind fun ys h2 => .ok ys h2)) : CPost G w D own τ Q acc r := by
  cases r with
  | ok ys h2 => exact h
  | ex e h2 => exact h.elim
  | bad => exact h.elim
section
variable {X : Cx} {G : Gc} {W : EW} {a b c e o tg elt iter : Expr} {ifs : List Expr} {fa fb fc : Ef} {fs : Es} {ft fe : Ef} {pos apos : Pos} {scope : Scope} {own : List (Str × Nat)}
theorem comp_turns (Wc : EW) {J : It} {src : MP.Src} {w : Wd} {σ : L2.St} {H : Hp} {D : Addr} {t : MP.T} {ks : List Nat} (hsl : ∀ i ∈ t.slots, i ∈ ks) (it : ItOk G J src w.m w.F) (Q : Hp → List MP.MV → List Addr → Hp → List MP.O → Prop) (nD : w.U D = none) (g0 : Good G w σ H)
    (gD : Good G { w with rho := MP.wipe w.rho ks, U := updU w.U D (.lst []) } (L2.wipe σ ks) (upd H D (.lst []))) (q : CPost G w D ks (L2.wipe σ ks) Q [] (MP.compLoop src (MP.compStep t (MP.wipe w.rho ks) ft fe) (src.len w.h + 1) 0 w.h)) (Qd : Hp → Prop)
    (hQ : ∀ H' l m' F' h', Pre w.m m' → Same w.F F' → Good G { w with rho := MP.wipe w.rho ks, U := updU w.U D (.lst l), m := m', F := F', h := h' } (L2.wipe σ ks) H' → Q H' l m' F' h' → Qd H') :
    ∃ W : Nat → Nat → Hp → Prop, (∃ m, W 0 m (upd H D (.lst []))) ∧ ∀ i m H, W i m H →
      (J.stop i H ∧ Qd H) ∨ (J.go i H ∧ ∃ Nx : Hp → Prop, (∀ H', Nx H' → ∃ m', m' < m ∧ W (i + 1) m' H') ∧ ∀ x H', J.yld i H x H' → TGv G t x (L2.wipe σ ks) H' fun σ2 H2 => L2.wipe σ2 ks = L2.wipe σ ks ∧ TTv G Wc ft σ2 H2 fun b H3 =>
        if b = true then TEv G Wc fe σ2 H3 fun y H4 => ∃ acc, H4 D = some (.lst acc) ∧ acc.length < sizeLine ∧ Nx (upd H4 D (.lst (acc ++ [y]))) else Nx H3) := by
  refine ⟨fun i n H => ∃ m F h acc, Pre w.m m ∧ Same w.F F ∧ Good G { w with rho := MP.wipe w.rho ks, U := updU w.U D (.lst acc), m := m, F := F, h := h } (L2.wipe σ ks) H ∧ CPost G w D ks (L2.wipe σ ks) Q acc (MP.compLoop src (MP.compStep t (MP.wipe w.rho ks) ft fe) n i h),
    ⟨_, w.m, w.F, w.h, [], Pre.refl _, Same.refl _, gD, q⟩, fun i n H => ?_⟩
  rintro ⟨m, F, h, acc, pm, sF, g, q⟩
  cases n with
  | zero => exact q.elim
  | succ n =>
    have q : CPost G w D ks (L2.wipe σ ks) Q acc (match src.at h i with
      | none => .bad
      | some none => .ok [] h
      | some (some x) => (MP.compStep t (MP.wipe w.rho ks) ft fe x h).noex.bind fun o h1 => (MP.compLoop src (MP.compStep t (MP.wipe w.rho ks) ft fe) n (i + 1) h1).bind fun ys h2 => MP.compAdd o ys h2) := q
    cases ea : src.at h i with
    | none =>
      rw [ea] at q
      exact q.elim
    | some o =>
      rw [ea] at q
      cases o with
      | none =>
        obtain ⟨_, q⟩ := q
        replace q := q m F H pm sF (by rw [List.append_nil]; exact g)
        rw [List.append_nil] at q
        exact .inl ⟨it.stop _ _ _ i g pm sF ea, hQ H acc m F h pm sF g q⟩
      | some v =>
        refine .inr ⟨it.go _ _ _ i v g pm sF ea, fun H' => ∃ m F h acc, Pre w.m m ∧ Same w.F F ∧ Good G { w with rho := MP.wipe w.rho ks, U := updU w.U D (.lst acc), m := m, F := F, h := h } (L2.wipe σ ks) H' ∧ CPost G w D ks (L2.wipe σ ks) Q acc (MP.compLoop src (MP.compStep t (MP.wipe w.rho ks) ft fe) n (i + 1) h),
          fun H' hN => ⟨n, Nat.lt_succ_self n, hN⟩, fun x H' hy => ?_⟩
        obtain ⟨F1, s1, g1, r1⟩ := it.yld _ _ _ i v x H' g pm sF ea hy
        replace q : CPost G w D ks (L2.wipe σ ks) Q acc ((MP.compStep t (MP.wipe w.rho ks) ft fe v h).noex.bind fun o h1 => (MP.compLoop src (MP.compStep t (MP.wipe w.rho ks) ft fe) n (i + 1) h1).bind fun ys h2 => MP.compAdd o ys h2) := q
        cases et : MP.setT t v (MP.wipe w.rho ks) with
        | none =>
          unfold MP.compStep at q
          rw [et] at q
          exact q.elim
        | some r =>
          replace q : CPost G w D ks (L2.wipe σ ks) Q acc (((ft r h).bind fun b h5 => MP.compGo (fun h6 => fe r h6) b h5).noex.bind fun o h1 => (MP.compLoop src (MP.compStep t (MP.wipe w.rho ks) ft fe) n (i + 1) h1).bind fun ys h2 => MP.compAdd o ys h2) := by
            unfold MP.compStep at q ⊢
            rw [et] at q
            exact q
          refine ⟨_, v, r, g1, r1, et, fun σ2 g2 k2 => ⟨(k2 ks hsl).trans wipe_wipe, ?_⟩⟩
          have back : ∀ {m' : List Addr} {F' : Hp} {hp : List MP.O} {H' : Hp}, Pre m m' → Same F1 F' → Good G { w with rho := r, U := updU w.U D (.lst acc), m := m', F := F', h := hp } σ2 H' → Good G { w with rho := MP.wipe w.rho ks, U := updU w.U D (.lst acc), m := m', F := F', h := hp } (L2.wipe σ ks) H' := fun {m' F' hp H'} pp ss gg =>
            ⟨gg.fro, gg.len, gg.nod, gg.obj, gg.map, gg.own, g.slo.mono rfl rfl pp (s1.trans ss), gg.o0, gg.o1, gg.o2, gg.o3, gg.o4, gg.o5, gg.tab⟩
          refine ⟨_, g2, ?_⟩
          cases e5 : ft r h with
          | bad =>
            rw [e5] at q
            exact q.elim
          | ex e h5 =>
            rw [e5] at q
            exact q.elim
          | ok b h5 =>
            rw [e5] at q
            replace q : CPost G w D ks (L2.wipe σ ks) Q acc ((MP.compGo (fun h6 => fe r h6) b h5).noex.bind fun o h1 => (MP.compLoop src (MP.compStep t (MP.wipe w.rho ks) ft fe) n (i + 1) h1).bind fun ys h2 => MP.compAdd o ys h2) := q
            intro m5 F5 H5 xb p5 s5 g5 r5
            cases r5 <;> first | exact q.elim | skip
            rename_i b
            refine ⟨b, rfl, ?_⟩
            cases b with
            | false =>
              exact ⟨m5, F5, h5, acc, pm.trans p5, sF.trans (s1.trans s5), back p5 s5 g5, CPost.skip q⟩
            | true =>
              replace q : CPost G w D ks (L2.wipe σ ks) Q acc (((fe r h5).bind fun y h6 => MP.R.ok (some y) h6).noex.bind fun o h1 => (MP.compLoop src (MP.compStep t (MP.wipe w.rho ks) ft fe) n (i + 1) h1).bind fun ys h2 => MP.compAdd o ys h2) := q
              refine ⟨_, g5, ?_⟩
              cases e6 : fe r h5 with
              | bad =>
                rw [e6] at q
                exact q.elim
              | ex e h6 =>
                rw [e6] at q
                exact q.elim
              | ok y h6 =>
                rw [e6] at q
                obtain ⟨q1, q2⟩ := CPost.cons q
                intro m6 F6 H6 xy p6 s6 g6 r6
                have gb := back (p5.trans p6) (s5.trans s6) g6
                obtain ⟨⟨xs, ex, rx⟩, _, nF, _⟩ := gb.own D (.lst acc) updU_same
                refine ⟨xs, ex, by rw [← rx.length]; exact Nat.lt_trans q2 (by decide), m6, F6, h6, acc ++ [y], pm.trans (p5.trans p6), sF.trans (s1.trans (s5.trans s6)), ?_, q1⟩
                have k := gb.setN (o := .lst (xs ++ [xy])) (u := .lst (acc ++ [y])) updU_same (by simp) ⟨_, upd_same, rx.append (.cons r6 .nil)⟩ fun i o e es => ?_
                · rw [updU_upd] at k
                  exact k
                · obtain ⟨_, z⟩ := wipe_get2 e (by simp)
                  obtain ⟨n1, _⟩ := wipe_get2 e (by simp)
                  obtain ⟨a, h1, h2⟩ := g0.slo.own i o z
                  rw [wipeF_get n1, h1] at es
                  cases es
                  rw [nD] at h2
                  cases h2
theorem comp_noex {src : MP.Src} {step : MP.MV → List MP.O → MP.R (Option MP.MV)} : ∀ (n i : Nat) (h : List MP.O) (e : MP.Exc) (h' : List MP.O), MP.compLoop src step n i h ≠ .ex e h' := by
  intro n
  induction n with
  | zero => intro i h e h' z; cases z
  | succ n ih =>
    intro i h e h' z
    unfold MP.compLoop at z
    split at z
    · cases z
    · cases z
    · rename_i x _
      cases es : (step x h) with
      | bad => rw [es] at z; cases z
      | ex e1 h1 => rw [es] at z; cases z
      | ok o h1 =>
        rw [es] at z
        have z : ((MP.compLoop src step n (i + 1) h1).bind fun ys h2 => MP.compAdd o ys h2) = .ex e h' := z
        cases el : MP.compLoop src step n (i + 1) h1 with
        | bad => rw [el] at z; cases z
        | ex e2 h2 => exact ih _ _ _ _ el
        | ok ys h2 =>
          rw [el] at z
          cases o <;> cases z
theorem comp_tLc {W W' : EW} {live : Bool} {t : MP.T} {ks : List Nat} (hsl : ∀ i ∈ t.slots, i ∈ ks) (σ : L2.St) (H : Hp) (Q : VK)
    (h : TEv G W (fun rho h => (fs rho h).bind fun src h3 => (MP.compLoop src (MP.compStep t (MP.wipe rho ks) (fun r h4 => ft r h4) (fun r h4 => fe r h4)) (src.len h3 + 1) 0 h3).bind fun ys h7 => MP.compEnd live ys h7) σ H Q) :
    tLc (TIv G W fs) (TGv G t) (TTv G W' ft) (TEv G W' fe) ks σ H Q := by
  obtain ⟨w, g, q⟩ := h
  refine ⟨w, g, (EPost.bind (Rl := JR G) q).imp fun v h1 m1 F1 H1 J e1 p1 s1 g1 r1 q1 => ?_⟩
  obtain ⟨src, h1', m1', F1', p1', s1', g1', r1', q2⟩ := q1
  intro D nD
  have g2 := g1'.newU (o := .lst []) (u := .lst []) nD (by simp) ⟨[], upd_same, .nil⟩
  refine comp_turns (w := w.at m1' F1' h1') (H := H1) (ft := ft) (fe := fe) W' hsl r1' (fun H' _ _ _ _ => Q (.ref D) H') (g1'.noU nD) g1' (g2.wiped2 ks) ?_ (fun H' => Q (.ref D) H') fun H' l m' F' h' _ _ _ q => q
  have q2 : EPost G (VR G) (w.at m1' F1' h1') σ ((MP.compLoop src (MP.compStep t (MP.wipe w.rho ks) ft fe) (src.len h1' + 1) 0 h1').bind fun ys h7 => MP.compEnd live ys h7) Q (fun e w H => W e w σ H) := q2
  show CPost G (w.at m1' F1' h1') D ks (L2.wipe σ ks) _ [] (MP.compLoop src (MP.compStep t (MP.wipe w.rho ks) ft fe) (src.len h1' + 1) 0 h1')
  cases el : MP.compLoop src (MP.compStep t (MP.wipe w.rho ks) ft fe) (src.len h1' + 1) 0 h1' with
  | bad =>
    rw [el] at q2
    exact q2.elim
  | ex e h2 => exact absurd el (comp_noex _ _ _ _ _)
  | ok ys h7 =>
    rw [el] at q2
    have q2 : EPost G (VR G) (w.at m1' F1' h1') σ (MP.compEnd live ys h7) Q (fun e w H => W e w σ H) := q2
    unfold MP.compEnd at q2
    split at q2
    · rename_i hz
      refine ⟨hz, fun m' F' H' p s k => ?_⟩
      have k : Good G { w with rho := MP.wipe w.rho ks, U := updU w.U D (.lst ys), m := m', F := F', h := h7 } (L2.wipe σ ks) H' := k
      obtain ⟨⟨xs, ex, rx⟩, _, nF, _⟩ := k.own D (.lst ys) updU_same
      cases live with
      | true =>
        have gr := Good.restR g1' (g1'.noU nD) k rfl rfl rfl rfl rfl p s
        exact q2 _ _ _ _ (p.trans (Pre.app _ _)) s gr (.ref (by
          show (m' ++ [D])[h7.length]? = some D
          have e := k.len
          have e : m'.length = h7.length := e
          rw [← e, List.getElem?_append_right (Nat.le_refl _)]
          simp))
      | false =>
        have gr := Good.rest g1' (g1'.noU nD) k rfl rfl rfl rfl rfl p s ex
        have sF : Same F' (upd F' D (.lst xs)) := MPS.same_upd nF
        exact q2 _ _ _ _ p (s.trans sF) gr (.lst upd_same (rx.mono (Pre.refl _) sF))
    · exact q2.elim
theorem sound_comp {W' : EW} {live : Bool} {t : MP.T} (hsl : ∀ i ∈ t.slots, i ∈ own.map (·.2)) (hc : X.calm = true) (hN : X.N.Nodup) (hi : PI X tg iter (TIv G W fs)) (ok : blkC X.N X.env.scope scope own = true)
    (hg : ∀ (s : Shared) (H : Hp) (C : Addr) (cl : List (Str × Addr)) (fp : List Addr), PG (X.blk s H scope (compEnvC scope cl C X.env) fp) tg (TGv G t)) (ht : ∀ (s : Shared) (H : Hp) (C : Addr) (cl : List (Str × Addr)) (fp : List Addr), PTs (X.blk s H scope (compEnvC scope cl C X.env) fp) ifs (TTv G W' ft))
    (he : ∀ (s : Shared) (H : Hp) (C : Addr) (cl : List (Str × Addr)) (fp : List Addr), PE (X.blk s H scope (compEnvC scope cl C X.env) fp) elt (TEv G W' fe)) (hs : ∀ x, foldedSetIterable iter X.env x = pure x) :
    PE X (.ListComp elt [⟨tg, iter, ifs, 0⟩] scope pos) (TEv G W (fun rho h => (fs rho h).bind fun src h3 => (MP.compLoop src (MP.compStep t (MP.wipe rho (own.map (·.2))) (fun r h4 => ft r h4) (fun r h4 => fe r h4)) (src.len h3 + 1) 0 h3).bind fun ys h7 => MP.compEnd live ys h7)) :=
  pe_imp (pe_lc hc hN hi (blkOk_by ok) hg ht he hs) fun σ H Q h => comp_tLc hsl σ H Q h
theorem pts_nil2 : PTs X [] (TTv G W (fun _ h => .ok (.bl true) h)) := ⟨fun pins s σ H Q I h => by
  obtain ⟨w, g, q⟩ := h
  obtain ⟨b, e, q⟩ := EPost.here q g (.bl true)
  cases e
  exact (pts_nil (X := X)).run pins s σ H Q I q⟩
theorem pts_one2 (h : PT X c (TTv G W fc)) : PTs X [c] (TTv G W (fun rho h => (fc rho h).bind fun x h1 => match x with
      | .bl b => if b = true then (.ok (.bl true) h1 : MP.R MP.MV) else .ok (.bl b) h1
      | _ => .bad)) := ⟨fun pins s σ H Q I q => (pts_one (X := X) h).run pins s σ H Q I (by
  obtain ⟨w, g, q⟩ := q
  refine ⟨w, g, (EPost.bind (Rl := VR G) q).imp fun v h1 m1 F1 H1 x e1 p1 s1 g1 r1 q1 => ?_⟩
  obtain ⟨v', h1', m1', F1', p1', s1', g1', r1', q2⟩ := q1
  cases r1' <;> first | (exact q2.elim) | skip
  rename_i k
  replace q2 : EPost G (VR G) (w.at m1' F1' h1') σ (if k = true then (.ok (.bl true) h1' : MP.R MP.MV) else .ok (.bl k) h1') (fun x H1 => ∃ b, x = .bl b ∧ Q b H1) (fun e w H => W e w σ H) := q2
  refine ⟨k, rfl, ?_⟩
  cases k with
  | true =>
    obtain ⟨b, e, q3⟩ := EPost.here (v := MP.MV.bl true) q2 g1' (VR.bl _)
    cases e
    exact q3
  | false =>
    obtain ⟨b, e, q3⟩ := EPost.here (v := MP.MV.bl false) q2 g1' (VR.bl _)
    cases e
    exact q3)⟩
end
end MPS
end

section
set_option Elab.async false
set_option linter.all false
set_option maxRecDepth 100000
set_option maxHeartbeats 1000000
set_option autoImplicit false
namespace MPS
open PySem PySem.Spec PyProof.Rows L2
/-! ### what a slot owns is read -/
section
variable {G : Gc} {w : Wd} {σ : L2.St} {H : Hp}
theorem own_of (g : Good G w σ H) {i : Nat} {o : MP.O} (e : MP.getO w.rho i = some o) : ∃ a, σ[i]? = some (some (.ref a)) ∧ w.U a = some o ∧ w.rho[i]? = some (.own o) := by
  have e2 : w.rho[i]? = some (.own o) := by
    unfold MP.getO at e
    split at e
    · rename_i u h
      cases e
      exact h
    · cases e
  obtain ⟨a, h1, h2⟩ := g.slo.own i o e2
  exact ⟨a, h1, h2, e2⟩
theorem dic_get {a : Addr} {kvs : List (MP.MV × MP.MV)} {k : MP.MV} {y : V} (g : Good G w σ H) (e : w.U a = some (.dic false kvs)) (r : VR G w.m w.F k y) (hk : MP.keyM k = true) :
    ∃ r, DGet H a y r ∧ (∀ v, MP.getD kvs k = some v → ∃ z, r = some z ∧ VR G w.m w.F v z) ∧ (MP.getD kvs k = none → r = none) ∧ IsD H a := by
  obtain ⟨⟨ks, h1, h2⟩, _⟩ := g.own a _ e
  obtain ⟨q, hq, rfl⟩ := keyM_of r hk
  have k1 := h2.get (fun h h' => h.eq h') hq
  refine ⟨_, DGet.k h1, fun v ev => ?_, fun ev => ?_, .inl ⟨ks, .inl h1⟩⟩
  · rw [ev] at k1
    exact k1
  · rw [ev] at k1
    exact k1
end
section
variable {X : Cx} {G : Gc} {Wx : WX} {W : EW} {a b c e o d : Expr} {es : List Expr} {fa fb fc : Ef} {fs : Efs} {pos apos vpos : Pos} {i : Nat} {x : Str}
/-- the slot's name is seen -/
structure VarOk (X : Cx) (i : Nat) (x : Str) : Prop where
  ix : X.N[i]? = some x
  vis : Vis X.env.scope x
  nd : (x == ("__debug__" : Str)) = false
  nc : (x == ("__classdict__" : Str)) = false
theorem VarOk.pe (h : VarOk X i x) : PE X (.Name x vpos) (tVar i) := pe_var h.ix h.vis h.nd h.nc
theorem opt_own {α : Type} {Rl : List Addr → Hp → α → V → Prop} {w : Wd} {σ : L2.St} {oo : Option MP.O} {f : MP.O → MP.R α} {Q : VK} {W : MP.Exc → Wd → Hp → Prop} (q : EPost G Rl w σ (MP.optR oo f) Q W) : ∃ a, oo = some a ∧ EPost G Rl w σ (f a) Q W := by
  cases oo with
  | none => exact q.elim
  | some a => exact ⟨a, rfl, q⟩
theorem sound_oIdx (hv : VarOk X i x) (hK : X.K = G.K) (hs : (match b with | .Slice _ _ _ _ => false | _ => true) = true) (hb : PE X b (TEv G W fb)) :
    PE X (.Subscript (.Name x vpos) b pos) (TEv G W (fun rho h => MP.optR (MP.getO rho i) fun o => (fb rho h).bind fun y h1 => MP.oIdxV o y h1)) := by
  refine pe_imp (pe_ix ix_list hv.pe hb (plainIx_of hs)) fun σ H Q h => ?_
  obtain ⟨w, g, q⟩ := h
  obtain ⟨u, eo, q⟩ := opt_own q
  obtain ⟨p, e1, e2, e3⟩ := own_of g eo
  refine ⟨_, e1, w, g, (EPost.bind (Rl := VR G) q).imp fun v h1 m1 F1 H1 y _ p1 s1 g1 r1 q1 => ?_⟩
  obtain ⟨v', h1', m1', F1', p1', s1', g1', r1', q2⟩ := q1
  cases u <;> first | (exact q2.elim) | skip
  rename_i l
  cases r1' <;> first | (exact q2.elim) | skip
  rename_i j
  obtain ⟨z, ez, q3⟩ := EPost.of (show EPost G (VR G) (w.at m1' F1' h1') σ (MP.R.of (MP.atI l j) h1') Q _ from q2)
  obtain ⟨⟨xs, k1, k2⟩, _⟩ := g1'.own p _ e2
  obtain ⟨zx, l1, l2⟩ := atI_get' k2 ez
  exact ⟨p, xs, j, zx, rfl, rfl, by rw [hK]; exact SqL.of k1, l1, q3 _ _ _ _ (Pre.refl _) (Same.refl _) g1' l2⟩
theorem sound_oDix (hv : VarOk X i x) (hu : X.A.units + 1 < cLine) (hs : NoSl b) (hb : PE X b (TEv G W fb)) :
    PE X (.Subscript (.Name x vpos) b pos) (TEv G W (fun rho h => MP.optR (MP.getO rho i) fun o => (fb rho h).bind fun y h1 => MP.oDixV o y h1)) := by
  refine pe_imp (pe_dget hu hv.pe hb hs) fun σ H Q h => ?_
  obtain ⟨w, g, q⟩ := h
  obtain ⟨u, eo, q⟩ := opt_own q
  obtain ⟨p, e1, e2, e3⟩ := own_of g eo
  refine ⟨_, e1, w, g, (EPost.bind (Rl := VR G) q).imp fun v h1 m1 F1 H1 y _ p1 s1 g1 r1 q1 => ?_⟩
  obtain ⟨v', h1', m1', F1', p1', s1', g1', r1', q2⟩ := q1
  cases u <;> first | (exact q2.elim) | skip
  rename_i t kvs
  cases t <;> first | (exact q2.elim) | skip
  replace q2 : EPost G (VR G) (w.at m1' F1' h1') σ (if MP.keyM v' then MP.R.of (MP.getD kvs v') h1' else .bad) Q (fun e w H => W e w σ H) := q2
  split at q2
  · rename_i hk
    obtain ⟨z, ez, q3⟩ := EPost.of q2
    obtain ⟨r, k1, k2, k3, _⟩ := dic_get g1' e2 r1' hk
    obtain ⟨zx, l1, l2⟩ := k2 _ ez
    subst l1
    exact ⟨p, zx, rfl, k1, q3 _ _ _ _ (Pre.refl _) (Same.refl _) g1' l2⟩
  · exact q2.elim
theorem optK {α : Type} {Rl : List Addr → Hp → α → V → Prop} {w : Wd} {σ : L2.St} {oo : Option (List (MP.MV × MP.MV))} {f : List (MP.MV × MP.MV) → MP.R α} {Q : VK} {W : MP.Exc → Wd → Hp → Prop} (q : EPost G Rl w σ (MP.optR oo f) Q W) : ∃ a, oo = some a ∧ EPost G Rl w σ (f a) Q W := by
  cases oo with
  | none => exact q.elim
  | some a => exact ⟨a, rfl, q⟩
theorem getK_of {rho : List MP.SV} {kvs : List (MP.MV × MP.MV)} (e : MP.getK rho i = some kvs) : MP.getO rho i = some (.dic false kvs) := by
  unfold MP.getK at e
  split at e
  · rename_i u h
    cases e
    exact h
  · cases e
theorem sound_oGet (m : M2 X (.Name x vpos) "get" apos a b pos) (hv : VarOk X i x) (hu : X.A.units + 1 < cLine) (ha : PE X a (TEv G W fa)) (hb : PE X b (TEv G W fb)) :
    PE X (.Call (.Attribute (.Name x vpos) "get" apos) [a, b] [] pos) (TEv G W (fun rho h => MP.optR (MP.getK rho i) fun kvs => (fa rho h).bind fun x h1 => (fb rho h1).bind fun y h2 => MP.oGetV kvs x y h2)) := by
  refine pe_imp (pe_dget2 hu hv.pe ha hb m) fun σ H Q h => ?_
  obtain ⟨w, g, q⟩ := h
  obtain ⟨kvs, eo, q⟩ := optK q
  obtain ⟨p, e1, e2, e3⟩ := own_of g (getK_of eo)
  obtain ⟨⟨ks, h1, h2⟩, _⟩ := g.own p _ e2
  refine ⟨_, e1, p, rfl, .inl ⟨ks, .inl h1⟩, w, g, (EPost.bind (Rl := VR G) q).imp fun v h1 m1 F1 H1 y _ p1 s1 g1 r1 q1 => ?_⟩
  obtain ⟨v', h1', m1', F1', p1', s1', g1', r1', q2⟩ := q1
  refine ⟨_, g1', (EPost.bind (Rl := VR G) q2).imp fun u h2 m2 F2 H2 z _ p2 s2 g2 r2 q3 => ?_⟩
  obtain ⟨u', h2', m2', F2', p2', s2', g2', r2', q4⟩ := q3
  replace q4 : EPost G (VR G) ((w.at m1' F1' h1').at m2' F2' h2') σ (if MP.keyM v' then .ok ((MP.getD kvs v').getD u') h2' else .bad) Q (fun e w H => W e w σ H) := q4
  split at q4
  · rename_i hk
    obtain ⟨r, k1, k2, k3, _⟩ := dic_get g2' e2 (r1'.mono p2' s2') hk
    refine ⟨r, k1, ?_⟩
    refine EPost.here q4 g2' ?_
    cases ek : MP.getD kvs v' with
    | none =>
      rw [k3 ek]
      exact r2'
    | some zz =>
      obtain ⟨zx, l1, l2⟩ := k2 _ ek
      rw [l1]
      exact l2
  · exact q4.elim
theorem sound_oLen {p : Pos} (hv : VarOk X i x) (hK : X.K = G.K) (hg : Gl X "len") (hm : X.mg "len" = none) :
    PE X (.Call (.Name "len" p) [.Name x vpos] [] pos) (TEv G W (fun rho h => MP.optR (MP.getO rho i) fun o => MP.oLenV o h)) := by
  refine pe_imp (pe_callB call_len_seq hg hm rfl (pa_cons hv.pe pa_nil (by rfl))) fun σ H Q h => ?_
  obtain ⟨w, g, q⟩ := h
  obtain ⟨u, eo, q⟩ := opt_own q
  obtain ⟨p, e1, e2, e3⟩ := own_of g eo
  cases u <;> first | (exact q.elim) | skip
  rename_i l
  obtain ⟨⟨xs, k1, k2⟩, _⟩ := g.own p _ e2
  refine ⟨_, e1, p, xs, rfl, .inl (by rw [hK]; exact SqL.of k1), ?_⟩
  rw [← k2.length]
  exact EPost.here (v := MP.MV.int l.length) q g (.int _)
theorem sound_oIn {n : Bool} (hv : VarOk X i x) (hu : X.A.units + 1 < cLine) (ha : PE X a (TEv G W fa)) (hm : behindInMarks (if n then .NotIn else .In) (.Name x vpos) = false) :
    PE X (.Compare a [if n then .NotIn else .In] [.Name x vpos] pos) (TEv G W (fun rho h => (fa rho h).bind fun x h1 => MP.optR (MP.getO rho i) fun o => MP.oInV n o x h1)) := by
  have core : ∀ σ H Q, TEv G W (fun rho h => (fa rho h).bind fun x h1 => MP.optR (MP.getO rho i) fun o => MP.oInV n o x h1) σ H Q → TEv G W fa σ H fun y H1 => tVar i σ H1 fun x H2 => ∃ a o, x = .ref a ∧ DGet H2 a y o ∧ Q (.bl (if n then !o.isSome else o.isSome)) H2 := fun σ H Q h => by
    obtain ⟨w, g, q⟩ := h
    refine ⟨w, g, (EPost.bind (Rl := VR G) q).imp fun v h1 m1 F1 H1 y _ p1 s1 g1 r1 q1 => ?_⟩
    obtain ⟨v', h1', m1', F1', p1', s1', g1', r1', q2⟩ := q1
    obtain ⟨u, eo, q2⟩ := opt_own q2
    obtain ⟨p, e1, e2, e3⟩ := own_of g1' eo
    cases u <;> first | (exact q2.elim) | skip
    rename_i t kvs
    cases t <;> first | (exact q2.elim) | skip
    replace q2 : EPost G (VR G) (w.at m1' F1' h1') σ (if MP.keyM v' then .ok (.bl (if n then !(MP.getD kvs v').isSome else (MP.getD kvs v').isSome)) h1' else .bad) Q (fun e w H => W e w σ H) := q2
    split at q2
    · rename_i hk
      obtain ⟨r, k1, k2, k3, _⟩ := dic_get g1' e2 r1' hk
      have er : r.isSome = (MP.getD kvs v').isSome := by
        cases ek : MP.getD kvs v' with
        | none =>
          rw [k3 ek]
          rfl
        | some z =>
          obtain ⟨zx, l1, _⟩ := k2 _ ek
          rw [l1]
          rfl
      refine ⟨_, e1, p, r, rfl, k1, ?_⟩
      rw [er]
      exact EPost.here q2 g1' (.bl _)
    · exact q2.elim
  cases n with
  | false => exact pe_imp (pe_cmp (pc_din hu ha hv.pe) hm) fun σ H Q h => core σ H Q h
  | true => exact pe_imp (pe_cmp (pc_dnotin hu ha hv.pe) hm) fun σ H Q h => core σ H Q h
/-- append to a list of the small heap -/
theorem few_of {cpos : Pos} {env : Env} (hs : noStar es = true) (hn : es.length < 29) : ((backTo cpos (starEach es env)).all (fun x => !x.1) && (backToKw cpos (keywordEach [] env)).all (fun x => x.1.isSome)
      && decide (es.length + ([] : List Keyword).length + (if ([] : List Keyword).isEmpty then 0 else 1) < 30)) = true := by
  have h1 := starAll (env := env) (pos := cpos) hs
  simp only [Bool.and_eq_true]
  refine ⟨⟨h1, rfl⟩, ?_⟩
  simp
  omega
theorem bm_one {T name id : String} {nm : Str} {r : V → List V → Hp → VK → Prop} {to : TE} {t : TA} (pa : PlainAttrs T) (slot : Slot T nm id) (hty : typeOf (.builtin id) = pure (.type "method_descriptor")) (hm : MtR X id r) (hb : plainBase o = true) (hl : (apos.endLine == pos.line) = true)
    (hs : noStar (e :: es) = true) (hn : (e :: es).length < 29) (ho : PE X o to) (ha : PA X (e :: es) t) : PE X (.Call (.Attribute o nm apos) (e :: es) [] pos) (tBM X.K T r to t) :=
  pe_bm pa slot hty hm ho ha (base_of hb) (few_of hs hn) hl (starEach_cons (noStar_cons hs).1) (notStar_any es (noStar_cons hs).2)
theorem bm_append {to : TE} {t : TA} (hb : plainBase a = true) (hl : (apos.endLine == pos.line) = true) (hs : isStar b = false) (ha : PE X a to) (hp : PA X [b] t) : PE X (.Call (.Attribute a "append" apos) [b] [] pos) (tBM X.K "list" rAppend to t) :=
  bm_one (name := "append") F.plainAttrs_list F.slot_list_append rfl mt_append hb hl (by simp [noStar, hs]) (by simp) ha hp
theorem bm_extend {to : TE} {t : TA} (hb : plainBase a = true) (hl : (apos.endLine == pos.line) = true) (hs : isStar b = false) (ha : PE X a to) (hp : PA X [b] t) : PE X (.Call (.Attribute a "extend" apos) [b] [] pos) (tBM X.K "list" rExtend to t) :=
  bm_one (name := "extend") F.plainAttrs_list F.slot_list_extend rfl mt_extend hb hl (by simp [noStar, hs]) (by simp) ha hp
theorem pa_one (hs : isStar b = false) (hp : PE X b (TEv G W fb)) : PA X [b] (tCons (TEv G W fb) tNil) := pa_cons hp pa_nil (starEach_cons hs)
theorem optN {α : Type} {Rl : List Addr → Hp → α → V → Prop} {w : Wd} {σ : L2.St} {oo : Option Nat} {f : Nat → MP.R α} {Q : VK} {W : MP.Exc → Wd → Hp → Prop} (q : EPost G Rl w σ (MP.optR oo f) Q W) : ∃ a, oo = some a ∧ EPost G Rl w σ (f a) Q W := by
  cases oo with
  | none => exact q.elim
  | some a => exact ⟨a, rfl, q⟩
theorem sound_app (hK : X.K = G.K) (hb : plainBase a = true) (hl : (apos.endLine == pos.line) = true) (hs : isStar b = false) (ha : PE X a (TEv G W fa)) (hp : PE X b (TEv G W fb)) :
    PE X (.Call (.Attribute a "append" apos) [b] [] pos) (TEv G W (fun rho h => (fa rho h).bind fun x h1 => MP.optR (MP.refL h1 x) fun i => (fb rho h1).bind fun y h2 => MP.appV i y h2)) := by
  refine pe_imp (bm_append hb hl hs ha (pa_one hs hp)) fun σ H Q h => ?_
  obtain ⟨w, g, q⟩ := h
  refine ⟨w, g, (EPost.bind (Rl := VR G) q).imp fun v h1 m1 F1 H1 x _ p1 s1 g1 r1 q1 => ?_⟩
  obtain ⟨v', h1', m1', F1', p1', s1', g1', r1', q2⟩ := q1
  obtain ⟨j, ej, q2⟩ := optN q2
  cases r1' <;> first | (cases ej; done) | skip
  rename_i i0 p ei
  simp only [MP.refL] at ej
  split at ej
  · rename_i l el
    have ej : i0 = j := by simpa using ej
    subst ej
    obtain ⟨⟨xs, k1, k2⟩, _⟩ := g1'.obj i0 _ p el ei (by simp)
    refine ⟨.inl ⟨rfl, xs, SqL.of k1⟩, _, g1', (EPost.bind (Rl := VR G) q2).imp fun u h2 m2 F2 H2 y _ p2 s2 g2 r2 q3 => ?_⟩
    obtain ⟨u', h2', m2', F2', p2', s2', g2', r2', q4⟩ := q3
    unfold MP.appV at q4
    split at q4
    · rename_i l2 el2
      split at q4
      · rename_i hz
        have ei2 := p2'.at ei
        obtain ⟨⟨ys, l1, l3⟩, _⟩ := g2'.obj i0 _ p el2 ei2 (by simp)
        refine ⟨p, ys, y, rfl, rfl, l1, by rw [← l3.length]; exact Nat.lt_of_lt_of_le hz (lim_line (Nat.le_refl _)), ?_⟩
        exact q4 _ _ _ _ (Pre.refl _) (Same.refl _) (g2'.setR ei2 el2 (by simp) (u := .lst (l2 ++ [u'])) ⟨_, upd_same, l3.append (.cons r2' .nil)⟩) .non
      · exact q4.elim
    · exact q4.elim
  · cases ej
theorem opt2 {α β : Type} {Rl : List Addr → Hp → α → V → Prop} {w : Wd} {σ : L2.St} {oo : Option β} {f : β → MP.R α} {Q : VK} {W : MP.Exc → Wd → Hp → Prop} (q : EPost G Rl w σ (MP.optR oo f) Q W) : ∃ a, oo = some a ∧ EPost G Rl w σ (f a) Q W := by
  cases oo with
  | none => exact q.elim
  | some a => exact ⟨a, rfl, q⟩
theorem sound_exR (hK : X.K = G.K) (hb : plainBase a = true) (hl : (apos.endLine == pos.line) = true) (hs : isStar b = false) (ha : PE X a (TEv G W fa)) (hp : PE X b (TEv G W fb)) :
    PE X (.Call (.Attribute a "extend" apos) [b] [] pos) (TEv G W (fun rho h => (fa rho h).bind fun x h1 => MP.optR (MP.refL h1 x) fun i => (fb rho h1).bind fun y h2 => MP.extV i y h2)) := by
  refine pe_imp (bm_extend hb hl hs ha (pa_one hs hp)) fun σ H Q h => ?_
  obtain ⟨w, g, q⟩ := h
  refine ⟨w, g, (EPost.bind (Rl := VR G) q).imp fun v h1 m1 F1 H1 x _ p1 s1 g1 r1 q1 => ?_⟩
  obtain ⟨v', h1', m1', F1', p1', s1', g1', r1', q2⟩ := q1
  obtain ⟨j, ej, q2⟩ := optN q2
  cases r1' <;> first | (cases ej; done) | skip
  rename_i i0 p ei
  simp only [MP.refL] at ej
  split at ej
  · rename_i l el
    have ej : i0 = j := by simpa using ej
    subst ej
    obtain ⟨⟨xs, k1, k2⟩, _⟩ := g1'.obj i0 _ p el ei (by simp)
    refine ⟨.inl ⟨rfl, xs, SqL.of k1⟩, _, g1', (EPost.bind (Rl := VR G) q2).imp fun u h2 m2 F2 H2 y _ p2 s2 g2 r2 q3 => ?_⟩
    obtain ⟨u', h2', m2', F2', p2', s2', g2', r2', q4⟩ := q3
    unfold MP.extV at q4
    split at q4
    · rename_i l2 el2
      obtain ⟨k, ek, q4⟩ := opt2 q4
      split at q4
      · rename_i hz
        have ei2 := p2'.at ei
        obtain ⟨⟨ys, l1, l3⟩, _⟩ := g2'.obj i0 _ p el2 ei2 (by simp)
        obtain ⟨b', zs, rfl, n1, n2⟩ := look_list g2' r2' ek
        refine ⟨p, b', ys, zs, rfl, rfl, l1, n1, by rw [← l3.length, ← n2.length]; exact lim_line hz, ?_⟩
        exact q4 _ _ _ _ (Pre.refl _) (Same.refl _) (g2'.setR ei2 el2 (by simp) (u := .lst (l2 ++ k)) ⟨_, upd_same, l3.append n2⟩) .non
      · exact q4.elim
    · exact q4.elim
  · cases ej
theorem sound_addR (ha : PE X a (TEv G W fa)) (hb : PE X b (TEv G W fb)) :
    PE X (.BinOp a .Add b pos) (TEv G W (fun rho h => (fa rho h).bind fun x h1 => (fb rho h1).bind fun y h2 => MP.addRV x y h2)) := by
  refine pe_imp (pe_op op_addAll ha hb) fun σ H Q h => ?_
  obtain ⟨w, g, q⟩ := h
  refine ⟨w, g, (EPost.bind (Rl := VR G) q).imp fun v h1 m1 F1 H1 x e1 p1 s1 g1 r1 q1 => ?_⟩
  obtain ⟨v', h1', m1', F1', p1', s1', g1', r1', q2⟩ := q1
  refine ⟨_, g1', (EPost.bind (Rl := VR G) q2).imp fun u h2 m2 F2 H2 y e2 p2 s2 g2 r2 q3 => ?_⟩
  obtain ⟨u', h2', m2', F2', p2', s2', g2', r2', q4⟩ := q3
  unfold MP.addRV at q4
  obtain ⟨l, el, q4⟩ := opt2 q4
  obtain ⟨k, ek, q4⟩ := opt2 q4
  split at q4
  · rename_i hz
    obtain ⟨a', xs, rfl, k1, k2⟩ := look_list g2' (r1'.mono p2' s2') el
    obtain ⟨b', ys, rfl, l1, l2⟩ := look_list g2' r2' ek
    exact .inr (.inr ⟨a', b', xs, ys, rfl, rfl, k1, l1, by rw [← k2.length, ← l2.length]; exact lim_line hz, fun p n => new_ref g2' (k2.append l2) (fun m' F' H' z p s g r => q4 m' F' H' z p s g r) p n⟩)
  · exact q4.elim
/-! == of own classes -/
def E00 : XK := fun _ _ _ => False
theorem run_fnA {A : Around} {CX : CXT} {k : Nat} {f : Addr} {fd : FuncData} {ps : List Str} {sp : Sp} {dvs : List V} {ds : List Value} {E : XK} {pins : List (Addr × Obj)} {σ : L2.St} {H : Hp} {s : Shared} {Q : VK} {us : List Value} {vs : List V} (F : FnOk X.prog X.w X.K X.mg X.base CX k f fd ps sp) (hr : Room k A) (hA : A.frames = X.A.frames) (hb : Binds X.K fd ps ds) (hd : Vals dvs ds) (hx : PassesAt CX X σ E)
    (I : Inv X pins σ H s) (r : Vals vs us) (h : sp (vs ++ dvs) H Q E) : wpAny (model X.prog X.w) A (call (.ref f) us) (EP X pins σ Q) X.xe s := by
  have r2 : Vals (vs ++ dvs) (us ++ ds) := r.append hd
  have hl : (us ++ ds).length = ps.length := by rw [← r2.length]; exact F.len _ _ _ _ h
  have e0 : Env0 X.prog X.w X.K X.mg X.base A X.stack s H := by
    have e := I.env0
    exact ⟨by rw [hA]; exact e.frames, e.mod, e.bs, e.bsz, e.funs, e.frf, e.hok, e.bare⟩
  refine wpAny_call (codeAny_mono (F.run A X.stack s H ⟨us, []⟩ (us ++ ds) (vs ++ dvs) Q E hr e0 (hb s us I.kIn hl) r2 h) fun r s' hq => ?_)
  cases r with
  | error e => exact hx pins H s e s' I hq
  | ok fl =>
    cases fl with
    | ret u => exact I.after hq
    | next => exact False.elim hq
    | brk => exact False.elim hq
    | cont => exact False.elim hq
def rEqC (G : Gc) (c : Nat) (n : Bool) (fn : MP.Fn) : R2 := fun x y H Q => ∃ a b dx dy gs gs', x = .ref a ∧ y = .ref b ∧ H a = some (.ins (G.C c) dx gs) ∧ H b = some (.ins (G.C c) dy gs') ∧
  spOf G fn [x, y] H (fun z H' => ∃ r, z = .bl r ∧ Q (.bl (if n then !r else r)) H') E00
theorem op_eqC {lv c : Nat} {fn : MP.Fn} {n : Bool} (C : MethOk X G lv c "__eq__" fn) (L : ClsOk X G c) (hr : Room (lv + 1) X.A) : OpR X (compareOp (if n then .NotEq else .Eq)) (rEqC G c n fn) := by
  obtain ⟨f, fd, ps, sp, dvs, ds, F, hm, hk, hd, hi⟩ := C.ex
  intro pins s σ H x y v u Q I rx ry h
  obtain ⟨a, b, dx, dy, gs, gs', rfl, rfl, ha, hb, q⟩ := h
  cases (show v = Value.ref a from rx)
  cases (show u = Value.ref b from ry)
  obtain ⟨mA, J, _⟩ := ins_get I.hok ha
  obtain ⟨mB, J', _⟩ := ins_get I.hok hb
  obtain ⟨od, J, _⟩ := J.look
  obtain ⟨od', J', _⟩ := J'.look
  have tk0 : Takes X (fun _ _ _ _ => False) := takes0
  have px : PassesAt (L2.CX X.prog X.w) X σ E00 := passAt tk0 σ
  have r2 : Vals [V.ref a, V.ref b] [Value.ref a, Value.ref b] := .cons rfl (.cons rfl .nil)
  cases n with
  | false =>
    obtain ⟨m, hF⟩ := I.fr
    refine PySem.W.cmp_K (op := .Eq) (tb := .ref (G.C c)) hr.units0 hF I.ok.mod.kin J J'.type (by simp [PySem.W.notFirst]) hm.at_ hm.fn ?_
    refine wpAny_mono (run_fnA F (hr.mono (Nat.le_succ _)) rfl hk hd px I r2 (hi _ _ _ _ q)) (fun w s' z => ?_) fun _ _ x => x
    obtain ⟨z', H', I', rz, r, ez, qz⟩ := z
    subst ez
    cases rz
    exact ⟨V.bl r, H', I', rfl, qz⟩
  | true =>
    refine ne_K (by have := hr.in1.units0; simpa using this) I.kIn J J'.type L.ne hm.at_ hm.fn L.hm ?_
    refine wpAny_mono (run_fnA (A := X.A.in1) F hr.in1 rfl hk hd px I r2 (hi _ _ _ _ q)) (fun w s' z => ?_) fun _ _ x => x
    obtain ⟨z', H', I', rz, r, ez, qz⟩ := z
    subst ez
    cases rz
    exact ⟨r, rfl, V.bl (!r), H', I', rfl, qz⟩
theorem eq_core {c : Nat} {fn : MP.Fn} {n : Bool} (σ : L2.St) (H : Hp) (Q : VK) (h : TEv G W (fun rho h => (fa rho h).bind fun x h1 => (fb rho h1).bind fun y h2 => MP.oeqV fn n c x y h2) σ H Q) : tOp (rEqC G c n fn) (TEv G W fa) (TEv G W fb) σ H Q := by
  obtain ⟨w, g, q⟩ := h
  refine ⟨w, g, (EPost.bind (Rl := VR G) q).imp fun v h1 m1 F1 H1 x _ p1 s1 g1 r1 q1 => ?_⟩
  obtain ⟨v', h1', m1', F1', p1', s1', g1', r1', q2⟩ := q1
  refine ⟨_, g1', (EPost.bind (Rl := VR G) q2).imp fun u h2 m2 F2 H2 y _ p2 s2 g2 r2 q3 => ?_⟩
  obtain ⟨u', h2', m2', F2', p2', s2', g2', r2', q4⟩ := q3
  have r1'' := r1'.mono p2' s2'
  replace q4 : EPost G (VR G) ((w.at m1' F1' h1').at m2' F2' h2') σ (if MP.clsOf h2' v' = some c ∧ MP.clsOf h2' u' = some c then (match fn [v', u'] h2' with
    | .ok (.bl r) h3 => .ok (.bl (if n then !r else r)) h3
    | _ => .bad) else .bad) Q (fun e w H => W e w σ H) := q4
  split at q4
  · rename_i hc
    obtain ⟨a, dx, gs, fs, rfl, ea, ra, _⟩ := ins_of g2' r1'' hc.1
    obtain ⟨b, dy, gs', fs', rfl, eb, rb, _⟩ := ins_of g2' r2' hc.2
    refine ⟨a, b, dx, dy, gs, gs', rfl, rfl, ea, eb, _, σ, [v', u'], g2', .cons r1'' (.cons r2' .nil), ?_⟩
    show EPost G (VR G) _ σ (fn [v', u'] h2') _ _
    cases ef : fn [v', u'] h2' with
    | bad =>
      rw [ef] at q4
      exact q4.elim
    | ex e2 h3 =>
      rw [ef] at q4
      exact q4.elim
    | ok v h3 =>
      rw [ef] at q4
      intro m' F' H' z p s gk rz
      cases rz <;> first | (exact q4.elim) | skip
      exact ⟨_, rfl, q4 _ _ _ _ p s gk (.bl _)⟩
  · exact q4.elim
end
end MPS
end

section
set_option Elab.async false
set_option linter.all false
set_option maxRecDepth 100000
set_option maxHeartbeats 1000000
set_option autoImplicit false
namespace MPS
open PySem PySem.Spec PyProof.Rows L2
section
variable {X : Cx} {G : Gc} {Wx : WX} {W : EW} {a b c e o d : Expr} {es : List Expr} {fa fb fc : Ef} {fs : Efs} {pos apos vpos : Pos} {i : Nat} {x : Str}
theorem sound_oeq {lv c : Nat} {fn : MP.Fn} {n : Bool} (C : MethOk X G lv c "__eq__" fn) (L : ClsOk X G c) (hr : Room (lv + 1) X.A) (ha : PE X a (TEv G W fa)) (hb : PE X b (TEv G W fb)) (hm : behindInMarks (if n then .NotEq else .Eq) b = false) :
    PE X (.Compare a [if n then .NotEq else .Eq] [b] pos) (TEv G W (fun rho h => (fa rho h).bind fun x h1 => (fb rho h1).bind fun y h2 => MP.oeqV fn n c x y h2)) :=
  pe_imp (pe_cmpR (op_eqC C L hr) ha hb hm) fun σ H Q h => eq_core σ H Q h
theorem t_oeq {lv c : Nat} {fn : MP.Fn} {n : Bool} (C : MethOk X G lv c "__eq__" fn) (L : ClsOk X G c) (hr : Room (lv + 1) X.A) (ha : PE X a (TEv G W fa)) (hb : PE X b (TEv G W fb)) (hm : behindInMarks (if n then .NotEq else .Eq) b = false) :
    PT X (.Compare a [if n then .NotEq else .Eq] [b] pos) (TTv G W (fun rho h => (fa rho h).bind fun x h1 => (fb rho h1).bind fun y h2 => MP.oeqV fn n c x y h2)) :=
  pt_imp (pt_cmpR (op_eqC C L hr) ha hb hm) fun σ H Q h => eq_core σ H _ h
/-! len of own classes -/
theorem call_lenC {lv c : Nat} {fn : MP.Fn} (C : MethOk X G lv c "__len__" fn) (hr : Room (lv + 1) X.A) : CallR X (.builtin "len") (fun xs H Q => ∃ a dx gs, xs = [.ref a] ∧ H a = some (.ins (G.C c) dx gs) ∧ spOf G fn [.ref a] H (fun z H' => ∃ r : Int, z = .int r ∧ 0 ≤ r ∧ r ≤ MP.LIM ∧ Q (.int r) H') E00) := by
  obtain ⟨f, fd, ps, sp, dvs, ds, F, hm, hk, hd, hi⟩ := C.ex
  intro pins s σ H xs us Q I r h
  obtain ⟨a, dx, gs, rfl, ha, q⟩ := h
  obtain ⟨u, rfl, ru⟩ := r.one
  cases (show u = Value.ref a from ru)
  obtain ⟨mA, J, _⟩ := ins_get I.hok ha
  obtain ⟨od, J, _⟩ := J.look
  have tk0 : Takes X (fun _ _ _ _ => False) := takes0
  have px : PassesAt (L2.CX X.prog X.w) X σ E00 := passAt tk0 σ
  obtain ⟨m, hF⟩ := I.fr
  refine PySem.W.len_K hF I.ok.mod.kin J hm.at_ hm.fn ?_
  refine wpAny_mono (run_fnA (A := X.A.in1) F hr.in1 rfl hk hd px I (vs := [V.ref a]) (.cons rfl .nil) (hi _ _ _ _ q)) (fun w s' z => ?_) fun _ _ x => x
  obtain ⟨z', H', I', rz, r, ez, h0, h1, qz⟩ := z
  subst ez
  obtain ⟨t, e⟩ := (show ∃ t, w = Value.int r t from rz)
  subst e
  refine ⟨⟨h0, ?_⟩, V.int r, H', I'.tok _, ⟨_, rfl⟩, qz⟩
  have : (MP.LIM : Int) = 1000000 := rfl
  omega
theorem sound_olen {lv c : Nat} {fn : MP.Fn} {p : Pos} (C : MethOk X G lv c "__len__" fn) (hr : Room (lv + 1) X.A) (hg : Gl X "len") (hm : X.mg "len" = none) (hs : isStar a = false) (ha : PE X a (TEv G W fa)) :
    PE X (.Call (.Name "len" p) [a] [] pos) (TEv G W (fun rho h => (fa rho h).bind fun x h1 => MP.olenV fn c x h1)) := by
  refine pe_imp (pe_callB (call_lenC C hr) hg hm rfl (pa_one hs ha) (by decide) (by decide) (starEach_cons hs) (by rfl)) fun σ H Q h => ?_
  obtain ⟨w, g, q⟩ := h
  refine ⟨w, g, (EPost.bind (Rl := VR G) q).imp fun v h1 m1 F1 H1 x _ p1 s1 g1 r1 q1 => ?_⟩
  obtain ⟨v', h1', m1', F1', p1', s1', g1', r1', q2⟩ := q1
  replace q2 : EPost G (VR G) (w.at m1' F1' h1') σ (if MP.clsOf h1' v' = some c then (match fn [v'] h1' with
    | .ok (.int r) h3 => if 0 ≤ r ∧ r ≤ MP.LIM then .ok (.int r) h3 else .bad
    | _ => .bad) else .bad) Q (fun e w H => W e w σ H) := q2
  split at q2
  · rename_i hc
    obtain ⟨a, dx, gs, fs', rfl, ea, ra, _⟩ := ins_of g1' r1' hc
    refine ⟨a, dx, gs, rfl, ea, _, σ, [v'], g1', .cons r1' .nil, ?_⟩
    show EPost G (VR G) _ σ (fn [v'] h1') _ _
    cases ef : fn [v'] h1' with
    | bad =>
      rw [ef] at q2
      exact q2.elim
    | ex e2 h3 =>
      rw [ef] at q2
      exact q2.elim
    | ok v h3 =>
      rw [ef] at q2
      intro m' F' H' z p s gk rz
      cases rz <;> first | (exact q2.elim) | skip
      rename_i r
      replace q2 : EPost G (VR G) (w.at m1' F1' h1') σ (if 0 ≤ r ∧ r ≤ MP.LIM then .ok (.int r) h3 else .bad) Q (fun e w H => W e w σ H) := q2
      split at q2
      · rename_i hz
        exact ⟨_, rfl, hz.1, hz.2, q2 _ _ _ _ p s gk (.int _)⟩
      · exact q2.elim
  · exact q2.elim
/-! isinstance -/
def tyName : MP.Ty → Option String
  | .int => some "int"
  | .bool => some "bool"
  | .str => some "str"
  | .list => some "list"
  | .tuple => some "tuple"
  | .cls _ => none
theorem kit_table (K : PySem.W.Frag) : (∀ t ∈ ["int", "bool", "str", "list", "tuple", "NoneType"], ∀ u ∈ ["int", "bool", "str", "list", "tuple"], PySem.W.kitOne K (.type t) (.type u) = some (t == u || (t == "bool" && u == "int"))) := by
  intro t ht u hu
  simp only [List.mem_cons, List.not_mem_nil, or_false] at ht hu
  rcases ht with rfl | rfl | rfl | rfl | rfl | rfl <;> rcases hu with rfl | rfl | rfl | rfl | rfl <;> rfl
/-- a value's type's name, of those asked -/
def tyOfV (h : List MP.O) : MP.MV → Option String
  | .non => some "NoneType"
  | .bl _ => some "bool"
  | .int _ => some "int"
  | .str _ => some "str"
  | .tup _ => some "tuple"
  | .lst _ => some "list"
  | .ref a => match h[a]? with
    | some (.lst _) => some "list"
    | _ => none
  | _ => none
theorem ty_of {w : Wd} {σ : L2.St} {H : Hp} (g : Good G w σ H) {v : MP.MV} {x : V} (r : VR G w.m w.F v x) {t : String} (e : tyOfV w.h v = some t) (nT : ∀ (xs : List V) (p : Addr), SqT G.K H p xs → TyX G.K H (.ref p) (.type "tuple")) : TyX G.K H x (.type t) ∧ t ∈ ["int", "bool", "str", "list", "tuple", "NoneType"] := by
  cases r <;> simp only [tyOfV] at e <;> first | (cases e; done) | skip
  case non => cases e; exact ⟨.base .non, by simp⟩
  case bl => cases e; exact ⟨.base (.bl _), by simp⟩
  case int => cases e; exact ⟨.base (.int _), by simp⟩
  case str => cases e; exact ⟨.base (.str _), by simp⟩
  case tup ea ra => cases e; exact ⟨nT _ _ (sqT_same g.fro ea), by simp⟩
  case lst ea ra => cases e; exact ⟨.base (.lst (g.fro _ _ ea)), by simp⟩
  case ref i p ei =>
    split at e
    · rename_i l el
      cases e
      obtain ⟨⟨xs, h1, h2⟩, _⟩ := g.obj i _ p el ei (by simp)
      exact ⟨.base (.lst h1), by simp⟩
    · cases e
theorem sqT_ty {K : PySem.W.Frag} {H : Hp} {p : Addr} {xs : List V} (h : SqT K H p xs) : TyX K H (.ref p) (.type "tuple") := by
  rcases h with (h | ⟨o, h⟩) | h
  · exact .base (.tup h)
  · exact .fTuple h
  · obtain ⟨o, its, n, h1, h2, _⟩ := h
    exact .kTuple h1 h2
theorem isi_ty {h : List MP.O} {T : MP.Ty} {nm : String} {v : MP.MV} {b : Bool} (eT : tyName T = some nm) (e : MP.isiV h T v = some b) : ∃ t, tyOfV h v = some t ∧ b = (t == nm || (t == "bool" && nm == "int")) ∧ nm ∈ ["int", "bool", "str", "list", "tuple"] := by
  cases T <;> simp only [tyName] at eT <;> first | (cases eT; done) | skip
  all_goals
    cases eT
    cases v <;> simp only [MP.isiV] at e <;> first
      | (cases e; done)
      | (cases e; exact ⟨_, rfl, rfl, by simp⟩)
      | (split at e <;> first
          | (cases e; rename_i hl; exact ⟨"list", by simp only [tyOfV, hl], rfl, by simp⟩)
          | (cases e; done))
theorem sound_isi {T : MP.Ty} {nm : String} {tn : Str} {p p2 : Pos} (hK : X.K = G.K) (eT : tyName T = some nm) (hg : Gl X "isinstance") (hm : X.mg "isinstance" = none) (hs : isStar a = false) (hg2 : Gl X tn) (hm2 : X.mg tn = none) (hv2 : bootBuiltins tn = some (.type nm)) (hn2 : tn ≠ "__name__") (hd2 : (tn == ("__debug__" : Str)) = false) (ha : PE X a (TEv G W fa)) :
    PE X (.Call (.Name "isinstance" p) [a, .Name tn p2] [] pos) (TEv G W (fun rho h => (fa rho h).bind fun x h1 => MP.R.of ((MP.isiV h1 T x).map .bl) h1)) := by
  refine pe_imp (pe_callB call_isi hg hm rfl (pa_cons ha (pa_cons (pe_bltn (v := V.ty nm) hg2 hm2 hv2 rfl hn2 hd2) pa_nil (by rfl)) (starEach_cons hs)) (by decide) (by decide) (starEach_cons hs) (by rfl)) fun σ H Q h => ?_
  obtain ⟨w, g, q⟩ := h
  refine ⟨w, g, (EPost.bind (Rl := VR G) q).imp fun v h1 m1 F1 H1 x _ p1 s1 g1 r1 q1 => ?_⟩
  obtain ⟨v', h1', m1', F1', p1', s1', g1', r1', q2⟩ := q1
  obtain ⟨z, ez, q3⟩ := EPost.of q2
  obtain ⟨bb, eb, rfl⟩ := Option.map_eq_some_iff.mp ez
  obtain ⟨t, et, rfl, hnm⟩ := isi_ty eT eb
  obtain ⟨ty, ht⟩ := ty_of g1' r1' et fun xs p h => sqT_ty h
  rw [hK]
  exact ⟨x, _, _, _, _, rfl, .ty nm, ty, kit_table _ _ ht _ hnm, q3 _ _ _ _ (Pre.refl _) (Same.refl _) g1' (.bl _)⟩
theorem sound_isiC {c : Nat} {C : Addr} {tn : Str} {p p2 : Pos} (hK : X.K = G.K) (eC : G.C c = C) (L : ClsOk X G c) (kk : PySem.W.kitOne X.K (.ref C) (.ref C) = some true) (hg : Gl X "isinstance") (hm : X.mg "isinstance" = none) (hs : isStar a = false) (hg2 : Gl X tn) (hm2 : X.mg tn = some (.ref C)) (hd2 : (tn == ("__debug__" : Str)) = false) (ha : PE X a (TEv G W fa)) :
    PE X (.Call (.Name "isinstance" p) [a, .Name tn p2] [] pos) (TEv G W (fun rho h => (fa rho h).bind fun x h1 => MP.R.of ((MP.isiV h1 (.cls c) x).map .bl) h1)) := by
  refine pe_imp (pe_callB call_isi hg hm rfl (pa_cons ha (pa_cons (pe_glob (v := V.ref C) hg2 hm2 rfl hd2) pa_nil (by rfl)) (starEach_cons hs)) (by decide) (by decide) (starEach_cons hs) (by rfl)) fun σ H Q h => ?_
  obtain ⟨w, g, q⟩ := h
  refine ⟨w, g, (EPost.bind (Rl := VR G) q).imp fun v h1 m1 F1 H1 x _ p1 s1 g1 r1 q1 => ?_⟩
  obtain ⟨v', h1', m1', F1', p1', s1', g1', r1', q2⟩ := q1
  obtain ⟨z, ez, q3⟩ := EPost.of q2
  obtain ⟨bb, eb, rfl⟩ := Option.map_eq_some_iff.mp ez
  subst eC
  have ev : bb = true ∧ MP.clsOf h1' v' = some c := by
    cases v' <;> simp only [MP.isiV] at eb <;> first
      | (cases eb; done)
      | (split at eb <;> first
          | (cases eb; rename_i hc; exact ⟨rfl, hc⟩)
          | (cases eb; done))
  obtain ⟨rfl, hc⟩ := ev
  obtain ⟨a, dx, gs, fs', rfl, ea, ra, _⟩ := ins_of g1' r1' hc
  exact ⟨_, _, _, _, _, rfl, .own _, .base (.ins ea L.cls L.cla L.hn L.htk L.hm), kk, q3 _ _ _ _ (Pre.refl _) (Same.refl _) g1' (.bl _)⟩
end
end MPS
end

section
set_option Elab.async false
set_option linter.all false
set_option maxRecDepth 100000
set_option maxHeartbeats 1000000
set_option autoImplicit false
namespace MPS
open PySem PySem.Spec PyProof.Rows L2
/-! ### statements -/
abbrev Wd.put (w : Wd) (rho : List MP.SV) (U : Addr → Option MP.O) (m : List Addr) (F : Hp) (h : List MP.O) : Wd := { w with rho := rho, U := U, m := m, F := F, h := h }
def SPost (G : Gc) (w : Wd) (r : MP.SR) (D : Ends) (W : EW) : Prop := match r with
  | .nx rho h => ∀ U m F σ H, Pre w.m m → Same w.F F → Good G (w.put rho U m F h) σ H → D.nx σ H
  | .ct rho h => ∀ U m F σ H, Pre w.m m → Same w.F F → Good G (w.put rho U m F h) σ H → D.ct σ H
  | .rt v h => ∀ rho U m F σ H x, Pre w.m m → Same w.F F → Good G (w.put rho U m F h) σ H → VR G m F v x → D.rt x H
  | .ex e rho h => ∀ U m F σ H, Pre w.m m → Same w.F F → Good G (w.put rho U m F h) σ H → W e (w.put rho U m F h) σ H
  | .bad => False
abbrev Sf := List MP.SV → List MP.O → MP.SR
def TSv (G : Gc) (W : EW) (f : Sf) : TS := fun D σ H => ∃ w, Good G w σ H ∧ SPost G w (f w.rho w.h) D W
section
variable {X : Cx} {st : Stmt} {rest : List Stmt} {t t' : TS}
theorem ps_imp (h : PS X st t) (i : ∀ D σ H, t' D σ H → t D σ H) : PS X st t' := ⟨fun p s σ H D I q => h.run p s σ H D I (i D σ H q)⟩
theorem pss_imp (h : PSs X rest t) (i : ∀ D σ H, t' D σ H → t D σ H) : PSs X rest t' := ⟨fun p s σ H D I q => h.run p s σ H D I (i D σ H q)⟩
end
section
variable {G : Gc} {w : Wd} {σ : L2.St} {H : Hp} {D : Ends} {W : EW}
theorem SPost.later {r : MP.SR} {rho : List MP.SV} {U : Addr → Option MP.O} {m : List Addr} {F : Hp} {h : List MP.O} (q : SPost G w r D W) (p : Pre w.m m) (s : Same w.F F) : SPost G (w.put rho U m F h) r D W := by
  cases r with
  | nx rho' h' => exact fun U' m' F' σ' H' p' s' => q U' m' F' σ' H' (p.trans p') (s.trans s')
  | ct rho' h' => exact fun U' m' F' σ' H' p' s' => q U' m' F' σ' H' (p.trans p') (s.trans s')
  | rt v h' => exact fun rho' U' m' F' σ' H' x p' s' => q rho' U' m' F' σ' H' x (p.trans p') (s.trans s')
  | ex e rho' h' => exact fun U' m' F' σ' H' p' s' => q U' m' F' σ' H' (p.trans p') (s.trans s')
  | bad => exact q
theorem SPost.ends {r : MP.SR} {D' : Ends} (q : SPost G w r D W) (h1 : ∀ σ H, D.nx σ H → D'.nx σ H) (h2 : ∀ x H, D.rt x H → D'.rt x H) (h3 : ∀ σ H, D.ct σ H → D'.ct σ H) : SPost G w r D' W := by
  cases r with
  | nx rho' h' => exact fun U' m' F' σ' H' p' s' g => h1 _ _ (q U' m' F' σ' H' p' s' g)
  | ct rho' h' => exact fun U' m' F' σ' H' p' s' g => h3 _ _ (q U' m' F' σ' H' p' s' g)
  | rt v h' => exact fun rho' U' m' F' σ' H' x p' s' g r => h2 _ _ (q rho' U' m' F' σ' H' x p' s' g r)
  | ex e rho' h' => exact q
  | bad => exact q
theorem SPost.seq {r : MP.SR} {f : Sf} (q : SPost G w (r.seq f) D W) : SPost G w r { D with nx := TSv G W f D } W := by
  cases r with
  | nx rho' h' => exact fun U' m' F' σ' H' p' s' g => ⟨_, g, SPost.later (r := f rho' h') q p' s'⟩
  | ct rho' h' => exact q
  | rt v h' => exact q
  | ex e rho' h' => exact q
  | bad => exact q
theorem SPost.ofR {α β : Type} {Rl : List Addr → Hp → α → β → Prop} {r : MP.R α} {f : α → List MP.O → MP.SR} (q : SPost G w (MP.SR.ofR r w.rho f) D W) (g : Good G w σ H) :
    EPost G Rl w σ r (fun x H1 => ∃ v h1 m1 F1, Pre w.m m1 ∧ Same w.F F1 ∧ Good G (w.at m1 F1 h1) σ H1 ∧ Rl m1 F1 v x ∧ SPost G (w.at m1 F1 h1) (f v h1) D W) (fun e w H => W e w σ H) := by
  cases r with
  | ok v h1 => exact fun m1 F1 H1 x p s g1 rl => ⟨v, h1, m1, F1, p, s, g1, rl, SPost.later (r := f v h1) q p s⟩
  | ex e h1 => exact fun m1 F1 H1 p s g1 => q w.U m1 F1 σ H1 p s g1
  | bad => exact q
theorem SPost.ofO {α : Type} {o : Option α} {f : α → MP.SR} (q : SPost G w (MP.SR.ofO o f) D W) : ∃ a, o = some a ∧ SPost G w (f a) D W := by
  cases o with
  | none => exact q.elim
  | some a => exact ⟨a, rfl, q⟩
theorem SPost.here {rho : List MP.SV} (q : SPost G w (.nx rho w.h) D W) {U : Addr → Option MP.O} {m : List Addr} {F : Hp} (p : Pre w.m m) (s : Same w.F F) (g : Good G (w.put rho U m F w.h) σ H) : D.nx σ H := q _ _ _ _ _ p s g
end
section
variable {X : Cx} {G : Gc} {W : EW} {st : Stmt} {rest : List Stmt} {t : TS} {a b c e o : Expr} {es : List Expr} {fa fb fc fe : Ef} {fs : Efs} {f g : Sf} {pos apos vpos spos : Pos} {i : Nat} {x : Str} {body orelse : List Stmt}
/-! blocks -/
theorem s_nil : PSs X [] (TSv G W (fun rho h => .nx rho h)) := pss_imp pss_nil fun D σ H h => by
  obtain ⟨w, g, q⟩ := h
  exact q _ _ _ _ _ (Pre.refl _) (Same.refl _) g
theorem s_cons (h1 : PS X st (TSv G W f)) (h2 : PSs X rest (TSv G W g)) : PSs X (st :: rest) (TSv G W (fun rho h => (f rho h).seq fun r h1 => g r h1)) := pss_imp (pss_cons h1 h2) fun D σ H h => by
  obtain ⟨w, gd, q⟩ := h
  exact ⟨w, gd, SPost.seq q⟩
theorem s_never : PS X st (TSv G W (fun _ _ => .bad)) := ps_imp ps_never fun D σ H h => by
  obtain ⟨w, gd, q⟩ := h
  exact q
theorem s_doc {x : Str} {j : Nat} {p p' : Pos} : PS X (.Expr (.Constant (.str x) j p) p') (TSv G W (fun rho h => .nx rho h)) := ps_imp ps_doc fun D σ H h => by
  obtain ⟨w, g, q⟩ := h
  exact q _ _ _ _ _ (Pre.refl _) (Same.refl _) g
theorem s_ret (he : PE X e (TEv G W fe)) : PS X (.Return (some e) pos) (TSv G W (fun rho h => MP.SR.ofR (fe rho h) rho fun v h1 => .rt v h1)) := ps_imp (ps_ret he) fun D σ H h => by
  obtain ⟨w, g, q⟩ := h
  refine ⟨w, g, (SPost.ofR (Rl := VR G) q g).imp fun v h1 m1 F1 H1 x e1 p1 s1 g1 r1 q1 => ?_⟩
  obtain ⟨v', h1', m1', F1', p1', s1', g1', r1', q2⟩ := q1
  exact q2 _ _ _ _ _ _ _ (Pre.refl _) (Same.refl _) g1' r1'
theorem s_retN : PS X (.Return none pos) (TSv G W (fun rho h => .rt .non h)) := ps_imp ps_retN fun D σ H h => by
  obtain ⟨w, g, q⟩ := h
  exact q _ _ _ _ _ _ _ (Pre.refl _) (Same.refl _) g .non
theorem s_cont : PS X (.Continue pos) (TSv G W (fun rho h => .ct rho h)) := ps_imp ps_continue fun D σ H h => by
  obtain ⟨w, g, q⟩ := h
  exact q _ _ _ _ _ (Pre.refl _) (Same.refl _) g
theorem s_if (hc : PT X c (TTv G W fc)) (ha : PSs X body (TSv G W f)) (hb : PSs X orelse (TSv G W g)) : PS X (.If c body orelse pos) (TSv G W (fun rho h => MP.SR.ofR (fc rho h) rho fun v h1 => MP.SR.test v (f rho h1) (g rho h1))) := ps_imp (ps_if hc ha hb) fun D σ H h => by
  obtain ⟨w, gd, q⟩ := h
  refine ⟨w, gd, (SPost.ofR (Rl := VR G) q gd).imp fun v h1 m1 F1 H1 x e1 p1 s1 g1 r1 q1 => ?_⟩
  obtain ⟨v', h1', m1', F1', p1', s1', g1', r1', q2⟩ := q1
  cases r1' <;> first | (exact q2.elim) | skip
  rename_i k
  cases k with
  | true => exact ⟨true, rfl, iteT ⟨_, g1', q2⟩⟩
  | false => exact ⟨false, rfl, iteF ⟨_, g1', q2⟩⟩
def isCompE : Expr → Bool
  | .ListComp _ _ _ _ => true
  | .SetComp _ _ _ _ => true
  | .DictComp _ _ _ _ _ => true
  | _ => false
theorem sw_false {tg : Option Expr} {l : Nat} {env : Env} (h : isCompE e = false) : swapsWith e tg l env = pure false := by
  cases e <;> first | rfl | (cases h)
theorem s_exp (hc : isCompE e = false) (he : PE X e (TEv G W fe)) : PS X (.Expr e pos) (TSv G W (fun rho h => MP.SR.ofR (fe rho h) rho fun _ h1 => .nx rho h1)) := ps_imp (ps_expr he (sw_false hc)) fun D σ H h => by
  obtain ⟨w, g, q⟩ := h
  refine ⟨w, g, (SPost.ofR (Rl := VR G) q g).imp fun v h1 m1 F1 H1 x e1 p1 s1 g1 r1 q1 => ?_⟩
  obtain ⟨v', h1', m1', F1', p1', s1', g1', r1', q2⟩ := q1
  exact q2 _ _ _ _ _ (Pre.refl _) (Same.refl _) g1'
/-! assignments -/
theorem core_asg {tg : MP.T} {te : TE} (ht : ∀ σ H Q, TEv G W fe σ H Q → te σ H Q) (D : Ends) (σ : L2.St) (H : Hp) (h : TSv G W (fun rho h => MP.SR.ofR (fe rho h) rho fun v h1 => MP.SR.ofO (MP.setT tg v rho) fun r => .nx r h1) D σ H) : tAsg te (TGv G tg) D σ H := by
  obtain ⟨w, g, q⟩ := h
  refine ht σ H _ ⟨w, g, (SPost.ofR (Rl := VR G) q g).imp fun v h1 m1 F1 H1 x e1 p1 s1 g1 r1 q1 => ?_⟩
  obtain ⟨v', h1', m1', F1', p1', s1', g1', r1', q2⟩ := q1
  obtain ⟨r, er, q3⟩ := SPost.ofO q2
  exact ⟨_, v', r, g1', r1', er, fun σ' g2 _ => q3 _ _ _ _ _ (Pre.refl _) (Same.refl _) g2⟩
theorem nm_name {x : V} {σ : L2.St} {H : Hp} {Q : L2.St → Hp → Prop} (h : TGv G (.nm i) x σ H Q) : gName i x σ H Q := by
  obtain ⟨w, v, r, g, rv, er, q⟩ := h
  cases er
  exact q _ (g.slot rv) fun ks hk => wipe_set (hk i (by simp [MP.T.slots]))
theorem te_mono {te : TE} (h : ∀ σ H Q, TEv G W fe σ H Q → te σ H Q) : ∀ D σ H, tAsg te (TGv G (.nm i)) D σ H → tAsg te (TGv G (.nm i)) D σ H := fun _ _ _ h => h
/-- name = value -/
theorem s_set (hN : X.N.Nodup) (hi : X.N[i]? = some x) (hx : Loc X.env.scope x) (hf : X.fn x = true ∨ X.env.scope.names.lookup x = some .local) (hc : isCompE e = false) (he : PE X e (TEv G W fe)) :
    PS X (.Assign [.Name x vpos] e pos) (TSv G W (fun rho h => MP.SR.ofR (fe rho h) rho fun v h1 => MP.SR.ofO (MP.setT (.nm i) v rho) fun r => .nx r h1)) := by
  refine ps_imp (ps_set hN hi hx (pe_imp he (t' := fun σ H Q => TEv G W fe σ H Q) fun _ _ _ h => h) (sw_false hc) hf) fun D σ H h => ?_
  obtain ⟨w, g, q⟩ := h
  refine ⟨w, g, (SPost.ofR (Rl := VR G) q g).imp fun v h1 m1 F1 H1 x e1 p1 s1 g1 r1 q1 => ?_⟩
  obtain ⟨v', h1', m1', F1', p1', s1', g1', r1', q2⟩ := q1
  obtain ⟨r, er, q3⟩ := SPost.ofO q2
  cases er
  exact q3 _ _ _ _ _ (Pre.refl _) (Same.refl _) (g1'.slot r1')
/-- name = [..], swapped -/
theorem s_setLc {te : TE} (h : PS X st (tAsg te (gName i))) (ht : ∀ σ H Q, TEv G W fe σ H Q → te σ H Q) : PS X st (TSv G W (fun rho h => MP.SR.ofR (fe rho h) rho fun v h1 => MP.SR.ofO (MP.setT (.nm i) v rho) fun r => .nx r h1)) := by
  refine ps_imp h fun D σ H h => ?_
  obtain ⟨w, g, q⟩ := h
  refine ht σ H _ ⟨w, g, (SPost.ofR (Rl := VR G) q g).imp fun v h1 m1 F1 H1 x e1 p1 s1 g1 r1 q1 => ?_⟩
  obtain ⟨v', h1', m1', F1', p1', s1', g1', r1', q2⟩ := q1
  obtain ⟨r, er, q3⟩ := SPost.ofO q2
  cases er
  exact q3 _ _ _ _ _ (Pre.refl _) (Same.refl _) (g1'.slot r1')
def isTupE : Expr → Bool
  | .Tuple _ _ _ => true
  | _ => false
/-- a, b = value -/
theorem s_asgT {k : Nat} {tg : MP.T} (hc : isCompE e = false) (ht : isTupE e = false) (he : PE X e (TEv G W fe)) (hg : PG X (.Tuple es k vpos) (TGv G tg)) :
    PS X (.Assign [.Tuple es k vpos] e pos) (TSv G W (fun rho h => MP.SR.ofR (fe rho h) rho fun v h1 => MP.SR.ofO (MP.setT tg v rho) fun r => .nx r h1)) :=
  ps_imp (ps_asg he hg (by cases e <;> first | rfl | (cases hc)) (by cases e <;> first | rfl | (cases ht)) (by rfl)) fun D σ H h => core_asg (fun _ _ _ h => h) D σ H h
/-! a field is set -/
theorem s_setF {f : Nat} (hK : X.K = G.K) (hx : G.fn f = x) (hC : ∀ c, Cls X.K (G.C c)) (hNo : ∀ c, NoAttr X.K (G.C c) x) (hc : isCompE e = false) (ha : PE X a (TEv G W fa)) (he : PE X e (TEv G W fe)) :
    PS X (.Assign [.Attribute a x apos] e pos) (TSv G W (fun rho h => MP.SR.ofR (fe rho h) rho fun v h1 => MP.SR.ofR (fa rho h1) rho fun x h2 => MP.SR.ofO (MP.setFld f x v h2) fun h3 => .nx rho h3)) := by
  subst hx
  refine ps_imp (ps_fld ha he (sw_false hc)) fun D σ H h => ?_
  obtain ⟨w, g, q⟩ := h
  refine ⟨w, g, (SPost.ofR (Rl := VR G) q g).imp fun v h1 m1 F1 H1 x e1 p1 s1 g1 r1 q1 => ?_⟩
  obtain ⟨v', h1', m1', F1', p1', s1', g1', r1', q2⟩ := q1
  refine ⟨_, g1', (SPost.ofR (Rl := VR G) q2 g1').imp fun u h2 m2 F2 H2 y e2 p2 s2 g2 r2 q3 => ?_⟩
  obtain ⟨u', h2', m2', F2', p2', s2', g2', r2', q4⟩ := q3
  obtain ⟨h3, e3, q5⟩ := SPost.ofO q4
  cases r2' <;> first | (cases e3; done) | skip
  rename_i j p ej
  simp only [MP.setFld] at e3
  split at e3
  · rename_i c fs eh
    split at e3
    · rename_i hz
      cases e3
      obtain ⟨⟨dx, gs, k1, k2⟩, _⟩ := g2'.obj j _ p eh ej (by simp)
      refine ⟨p, _, dx, gs, rfl, k1, hC c, hNo c, by rw [← k2.length]; omega, ?_⟩
      exact q5 _ _ _ _ _ (Pre.refl _) (Same.refl _) (g2'.setR ej eh (by simp) (u := .ins c (MP.putF f v' fs)) ⟨dx, _, upd_same, k2.put (r1'.mono p2' s2')⟩)
    · cases e3
  · cases e3
end
/-! ### what a slot owns -/
section
variable {G : Gc} {w : Wd} {σ : L2.St} {H : Hp}
/-- a slot comes to own what nobody owns -/
theorem Good.slotO (g : Good G w σ H) {i : Nat} {p : Addr} {o : MP.O} (eU : w.U p = some o) (fr : ∀ (j : Nat) (u : MP.O), w.rho[j]? = some (MP.SV.own u) → σ[j]? ≠ some (some (V.ref p))) : Good G { w with rho := w.rho.set i (.own o) } (σ.set i (some (.ref p))) H := by
  have own : ∀ (j : Nat) (x : MP.O), (w.rho.set i (.own o))[j]? = some (.own x) → (j = i ∧ x = o ∧ i < σ.length) ∨ (j ≠ i ∧ w.rho[j]? = some (.own x)) := fun j x h => by
    by_cases q : i = j
    · subst q
      have hl : i < w.rho.length := by
        have := (List.getElem?_eq_some_iff.mp h).1
        simpa using this
      rw [List.getElem?_set_self hl] at h
      cases h
      exact .inl ⟨rfl, rfl, by rw [← g.slo.len]; exact hl⟩
    · rw [List.getElem?_set_ne q] at h
      exact .inr ⟨Ne.symm q, h⟩
  refine ⟨g.fro, g.len, g.nod, g.obj, g.map, g.own, ⟨?_, fun j u e => ?_, fun j u e => ?_, fun j k o1 o2 a e1 e2 e3 e4 => ?_⟩, g.o0, g.o1, g.o2, g.o3, g.o4, g.o5, g.tab⟩
  · show (w.rho.set i _).length = (σ.set i _).length
    rw [List.length_set, List.length_set]
    exact g.slo.len
  · have e : (w.rho.set i (.own o))[j]? = some (.val u) := e
    by_cases q : i = j
    · subst q
      have hl : i < w.rho.length := by
        have := (List.getElem?_eq_some_iff.mp e).1
        simpa using this
      rw [List.getElem?_set_self hl] at e
      cases e
    · rw [List.getElem?_set_ne q] at e
      rw [List.getElem?_set_ne q]
      exact g.slo.val j u e
  · rcases own j u e with ⟨rfl, rfl, hl⟩ | ⟨q, e⟩
    · exact ⟨p, List.getElem?_set_self hl, eU⟩
    · rw [List.getElem?_set_ne (Ne.symm q)]
      exact g.slo.own j u e
  · rcases own j o1 e1 with ⟨j1, j2, hl⟩ | ⟨q1, z1⟩ <;> rcases own k o2 e2 with ⟨k1, k2, hl2⟩ | ⟨q2, z2⟩
    · rw [j1, k1]
    · rw [j1, List.getElem?_set_self hl] at e3
      cases e3
      rw [List.getElem?_set_ne (Ne.symm q2)] at e4
      exact absurd e4 (fr k o2 z2)
    · rw [k1, List.getElem?_set_self hl2] at e4
      cases e4
      rw [List.getElem?_set_ne (Ne.symm q1)] at e3
      exact absurd e3 (fr j o1 z1)
    · rw [List.getElem?_set_ne (Ne.symm q1)] at e3
      rw [List.getElem?_set_ne (Ne.symm q2)] at e4
      exact g.slo.sep j k o1 o2 a z1 z2 e3 e4
/-- an owned list is let go: it stays as it is -/
theorem Good.frz (g : Good G w σ H) {i : Nat} {l : List MP.MV} (e : w.rho[i]? = some (.own (.lst l))) : ∃ U F, Same w.F F ∧ Good G { w with rho := w.rho.set i (.val (.lst l)), U := U, F := F } σ H := by
  obtain ⟨p, e1, e2⟩ := g.slo.own i _ e
  obtain ⟨⟨xs, k1, k2⟩, _, nF, nM⟩ := g.own p _ e2
  have sF : Same w.F (upd w.F p (.lst xs)) := MPS.same_upd nF
  refine ⟨fun a => if a = p then none else w.U a, upd w.F p (.lst xs), sF, fun a x h => ?_, g.len, g.nod, fun j x a h1 h2 h3 => ?_, g.map, fun a x h => ?_, ⟨?_, fun j u h => ?_, fun j u h => ?_, fun j k o1 o2 a h1 h2 h3 h4 => ?_⟩, g.o0, g.o1.trans sF, g.o2, g.o3, fun a h => ?_, fun a h => ?_, g.tab.step (p := p) (g.tab.ne_U e2) (fun a _ => rfl) sF (fun a q e => by show upd w.F p (.lst xs) a = none; rw [upd_ne q]; exact e) (fun a _ h => h) (fun a q e => by show (if a = p then none else w.U a) = none; rw [if_neg q]; exact e)⟩
  · by_cases q : a = p
    · subst q
      have h : upd w.F a (.lst xs) a = some x := h
      rw [upd_same] at h
      cases h
      exact k1
    · have h : upd w.F p (.lst xs) a = some x := h
      rw [upd_ne q] at h
      exact g.fro a x h
  · obtain ⟨h4, h5⟩ := g.obj j x a h1 h2 h3
    have q : a ≠ p := fun z => nM (z ▸ List.mem_of_getElem? h2)
    exact ⟨h4.mono (Pre.refl _) sF rfl, by show upd w.F p (.lst xs) a = none; rw [upd_ne q]; exact h5⟩
  · have h : (if a = p then none else w.U a) = some x := h
    split at h
    · cases h
    · rename_i q
      obtain ⟨h1, h2, h3, h4⟩ := g.own a x h
      exact ⟨h1.mono (Pre.refl _) sF rfl, h2, by show upd w.F p (.lst xs) a = none; rw [upd_ne q]; exact h3, h4⟩
  · show (w.rho.set i _).length = _
    rw [List.length_set]
    exact g.slo.len
  · have h : (w.rho.set i (.val (.lst l)))[j]? = some (.val u) := h
    by_cases q : i = j
    · subst q
      have hl : i < w.rho.length := (List.getElem?_eq_some_iff.mp e).1
      rw [List.getElem?_set_self hl] at h
      cases h
      exact ⟨_, e1, .lst upd_same (k2.mono (Pre.refl _) sF)⟩
    · rw [List.getElem?_set_ne q] at h
      obtain ⟨x, h1, h2⟩ := g.slo.val j u h
      exact ⟨x, h1, h2.mono (Pre.refl _) sF⟩
  · have h : (w.rho.set i (.val (.lst l)))[j]? = some (.own u) := h
    by_cases q : i = j
    · subst q
      have hl : i < w.rho.length := (List.getElem?_eq_some_iff.mp e).1
      rw [List.getElem?_set_self hl] at h
      cases h
    · rw [List.getElem?_set_ne q] at h
      obtain ⟨a, h1, h2⟩ := g.slo.own j u h
      refine ⟨a, h1, ?_⟩
      have na : a ≠ p := fun z => q (g.slo.sep i j _ u p e h e1 (z ▸ h1))
      show (if a = p then none else w.U a) = some u
      rw [if_neg na]
      exact h2
  · have ne : ∀ {j : Nat} {o : MP.O}, (w.rho.set i (.val (.lst l)))[j]? = some (.own o) → w.rho[j]? = some (.own o) := fun {j o} h => by
      by_cases q : i = j
      · subst q
        have hl : i < w.rho.length := (List.getElem?_eq_some_iff.mp e).1
        rw [List.getElem?_set_self hl] at h
        cases h
      · rw [List.getElem?_set_ne q] at h
        exact h
    exact g.slo.sep j k o1 o2 a (ne h1) (ne h2) h3 h4
  · have h : (if a = p then none else w.U a) ≠ none := h
    split at h
    · exact absurd rfl h
    · exact g.o4 a h
  · by_cases q : a = p
    · subst q
      exact .inr (g.o4 a (by rw [e2]; simp))
    · have h : upd w.F p (.lst xs) a ≠ none := h
      rw [upd_ne q] at h
      exact g.o5 a h
theorem own_free (g : Good G w σ H) {p : Addr} (n : w.U p = none) (j : Nat) (u : MP.O) (e : w.rho[j]? = some (MP.SV.own u)) : σ[j]? ≠ some (some (V.ref p)) := fun z => by
  obtain ⟨a, h1, h2⟩ := g.slo.own j u e
  rw [z] at h1
  cases h1
  rw [n] at h2
  cases h2
end
/-- what is made for a slot -/
def OPost (G : Gc) (w : Wd) (σ : L2.St) (r : MP.R MP.O) (Q : VK) (W : EW) : Prop := match r with
  | .ok o h' => ∀ m' F' H' p, Pre w.m m' → Same w.F F' → Good G { w.at m' F' h' with U := updU w.U p o } σ H' → w.U p = none → Q (.ref p) H'
  | .ex e h' => ∀ U m' F' H', Pre w.m m' → Same w.F F' → Good G (w.put w.rho U m' F' h') σ H' → W e (w.put w.rho U m' F' h') σ H'
  | .bad => False
abbrev Of := List MP.SV → List MP.O → MP.R MP.O
def TWv (G : Gc) (W : EW) (f : Of) : TE := fun σ H Q => ∃ w, Good G w σ H ∧ OPost G w σ (f w.rho w.h) Q W
section
variable {X : Cx} {G : Gc} {W : EW} {st : Stmt} {rest : List Stmt} {t : TS} {a b c e o : Expr} {es : List Expr} {fa fb fc fe : Ef} {fs : Efs} {fo : Of} {f g : Sf} {pos apos vpos spos : Pos} {i : Nat} {x : Str} {body orelse : List Stmt}
theorem OPost.bind {α β : Type} {Rl : List Addr → Hp → α → β → Prop} {w : Wd} {σ : L2.St} {r : MP.R α} {f : α → List MP.O → MP.R MP.O} {Q : VK} (h : OPost G w σ (r.bind f) Q W) :
    EPost G Rl w σ r (fun x H1 => ∃ v h1 m1 F1, Pre w.m m1 ∧ Same w.F F1 ∧ Good G (w.at m1 F1 h1) σ H1 ∧ Rl m1 F1 v x ∧ OPost G (w.at m1 F1 h1) σ (f v h1) Q W) (fun e w H => W e w σ H) := by
  cases r with
  | ok v h1 =>
    intro m1 F1 H1 x p s g rl
    refine ⟨v, h1, m1, F1, p, s, g, rl, ?_⟩
    have h : OPost G w σ (f v h1) Q W := h
    cases e : f v h1 with
    | ok u h2 =>
      rw [e] at h
      exact fun m2 F2 H2 y p2 s2 g2 n => h m2 F2 H2 y (p.trans p2) (s.trans s2) g2 n
    | ex z h2 =>
      rw [e] at h
      exact fun U m2 F2 H2 p2 s2 g2 => h U m2 F2 H2 (p.trans p2) (s.trans s2) g2
    | bad =>
      rw [e] at h
      exact h
  | ex e h' => exact fun m' F' H' p s g => h w.U m' F' H' p s g
  | bad => exact h
/-- a new object for a slot -/
theorem OPost.new {w : Wd} {σ : L2.St} {H : Hp} {o : MP.O} {ho : HO} {Q : VK} (q : OPost G w σ (.ok o w.h) Q W) (g : Good G w σ H) (nd : o ≠ .dead) (p : Addr) (n : H p = none) (r : ∀ H', H' p = some ho → OR G w.m w.F H' p o) : Q (.ref p) (upd H p ho) :=
  q w.m w.F _ p (Pre.refl _) (Same.refl _) (g.newU n nd (r _ upd_same)) (g.noU n)
theorem o_lst (h : PA X es (TAv G W fs)) : PE X (.List es pos) (TWv G W (fun rho h => (fs rho h).bind fun xs h1 => if xs.length ≤ MP.LIM then .ok (.lst xs) h1 else .bad)) := by
  refine pe_imp (pe_lst h) fun σ H Q h => ?_
  obtain ⟨w, g, q⟩ := h
  refine ⟨w, g, (OPost.bind (Rl := VRs G) q).imp fun v h1 m1 F1 H1 x e1 p1 s1 g1 r1 q1 => ?_⟩
  obtain ⟨v', h1', m1', F1', p1', s1', g1', r1', q2⟩ := q1
  split at q2
  · rename_i hz
    exact ⟨by rw [← r1'.length]; exact lim_line hz, fun p n => OPost.new q2 g1' (by simp) p n fun H' e => ⟨x, e, r1'⟩⟩
  · exact q2.elim
theorem o_list {p : Pos} (hK : X.K = G.K) (hg : Gl X "list") (hm : X.mg "list" = none) (h : PE X (.Call (.Name "list" p) [a] [] pos) (tCB (fun xs H Q => ∃ p ys, xs = [.ref p] ∧ (SqL G.K H p ys ∨ SqT G.K H p ys) ∧ ∀ l, H l = none → Q (.ref l) (upd H l (.lst ys))) (tCons (TEv G W fa) tNil))) :
    PE X (.Call (.Name "list" p) [a] [] pos) (TWv G W (fun rho h => (fa rho h).bind fun x h1 => MP.R.bind (MP.R.of (MP.lookS h1 x) h1) fun l h2 => .ok (.lst l) h2)) := by
  refine pe_imp h fun σ H Q h => ?_
  obtain ⟨w, g, q⟩ := h
  refine ⟨w, g, (OPost.bind (Rl := VR G) q).imp fun v h1 m1 F1 H1 x e1 p1 s1 g1 r1 q1 => ?_⟩
  obtain ⟨v', h1', m1', F1', p1', s1', g1', r1', q2⟩ := q1
  cases el : MP.lookS h1' v' with
  | none =>
    rw [el] at q2
    exact q2.elim
  | some l =>
    rw [el] at q2
    replace q2 : OPost G (w.at m1' F1' h1') σ (.ok (.lst l) h1') Q W := q2
    obtain ⟨a, xs, rfl, hs, rs⟩ := look_seq g1' r1' el
    exact ⟨a, xs, rfl, hs, fun p n => OPost.new q2 g1' (by simp) p n fun H' e => ⟨xs, e, rs⟩⟩
/-- name = something new -/
theorem s_own (hN : X.N.Nodup) (hi : X.N[i]? = some x) (hx : Loc X.env.scope x) (hf : X.fn x = true ∨ X.env.scope.names.lookup x = some .local) (hc : isCompE e = false) (he : PE X e (TWv G W fo)) :
    PS X (.Assign [.Name x vpos] e pos) (TSv G W (fun rho h => MP.SR.ofR (fo rho h) rho fun o h1 => .nx (rho.set i (.own o)) h1)) := by
  refine ps_imp (ps_set hN hi hx he (sw_false hc) hf) fun D σ H h => ?_
  obtain ⟨w, g, q⟩ := h
  refine ⟨w, g, ?_⟩
  replace q : SPost G w (MP.SR.ofR (fo w.rho w.h) w.rho fun o h1 => .nx (w.rho.set i (.own o)) h1) D W := q
  cases er : fo w.rho w.h with
  | bad =>
    rw [er] at q
    exact q.elim
  | ex e h' =>
    rw [er] at q
    exact fun U m' F' H' p s gk => q U m' F' σ H' p s gk
  | ok o h' =>
    rw [er] at q
    intro m' F' H' p pr s gk nU
    exact q _ _ _ _ _ pr s (gk.slotO (i := i) (p := p) (o := o) updU_same fun j u e => own_free g nU j u e)
/-- an owned list is let go -/
theorem s_frz (h : PSs X rest (TSv G W f)) : PSs X rest (TSv G W (fun rho h => (MP.SR.ofO (MP.getO rho i) fun o => MP.SR.ofO (MP.frzO o) fun v => .nx (rho.set i (.val v)) h).seq fun r h1 => f r h1)) := by
  refine pss_imp h fun D σ H h => ?_
  obtain ⟨w, g, q⟩ := h
  have q1 := SPost.seq q
  obtain ⟨o, eo, q2⟩ := SPost.ofO q1
  obtain ⟨v, ev, q3⟩ := SPost.ofO q2
  obtain ⟨p, e1, e2, e3⟩ := own_of g eo
  cases o <;> first | (cases ev; done) | skip
  cases ev
  obtain ⟨U, F, sF, g2⟩ := g.frz e3
  exact q3 _ _ _ _ _ (Pre.refl _) sF g2
end
end MPS
end

section
set_option Elab.async false
set_option linter.all false
set_option maxRecDepth 100000
set_option maxHeartbeats 1000000
set_option autoImplicit false
namespace MPS
open PySem PySem.Spec PyProof.Rows L2
section
variable {X : Cx} {G : Gc} {W : EW} {st : Stmt} {rest : List Stmt} {t : TS} {a b c e o : Expr} {es : List Expr} {fa fb fc fe : Ef} {fs : Efs} {fo : Of} {f g : Sf} {pos apos vpos spos : Pos} {i : Nat} {x : Str} {body orelse : List Stmt}
/-! {} and {k: v} for a slot -/
theorem o_dic0 : PE X (.Dict [] [] pos) (TWv G W (fun _ h => .ok (.dic false []) h)) := pe_imp pe_dnewK fun σ H Q h => by
  obtain ⟨w, g, q⟩ := h
  exact fun p n => OPost.new q g (by simp) p n fun H' e => ⟨[], e, .nil⟩
theorem o_dic1 {k v : Expr} {fk fv : Ef} (hk : PE X k (TEv G W fk)) (hv : PE X v (TEv G W fv)) : PE X (.Dict [some k] [v] pos) (TWv G W (fun rho h => (fk rho h).bind fun x h1 => (fv rho h1).bind fun y h2 => if MP.keyM x then .ok (.dic false [(x, y)]) h2 else .bad)) := by
  refine pe_imp (pe_disp (pps_cons hk hv pps_nil) rfl rfl (by simp) (by simp)) fun σ H Q h => ?_
  obtain ⟨w, g, q⟩ := h
  intro p n
  have g0 := g.newU (o := .dK []) (u := .dic false []) n (by simp) ⟨[], upd_same, .nil⟩
  have nU := g.noU n
  show TEv G W fk σ _ fun x H1 => TEv G W fv σ H1 fun y H2 => H2 p = some (.dK []) ∧ ∃ kvs : List (Key × V), [(x, y)] = kvs.map (fun kv => (kV kv.1, kv.2)) ∧ kvs.length ≤ 15 ∧ Q (.ref p) (upd H2 p (.dK (mergeK [] kvs)))
  refine ⟨_, g0, ?_⟩
  show EPost G (VR G) { w with U := updU w.U p (.dic false []) } σ (fk w.rho w.h) _ _
  replace q : OPost G w σ ((fk w.rho w.h).bind fun x h1 => (fv w.rho h1).bind fun y h2 => if MP.keyM x then .ok (.dic false [(x, y)]) h2 else .bad) Q W := q
  cases ek : fk w.rho w.h with
  | bad =>
    rw [ek] at q
    exact q.elim
  | ex e h1 =>
    rw [ek] at q
    exact fun m' F' H' p1 s1 gk => q _ m' F' H' p1 s1 gk
  | ok x h1 =>
    rw [ek] at q
    replace q : OPost G w σ ((fv w.rho h1).bind fun y h2 => if MP.keyM x then .ok (.dic false [(x, y)]) h2 else .bad) Q W := q
    intro m1 F1 H1 xv p1 s1 g1 r1
    refine ⟨_, g1, ?_⟩
    show EPost G (VR G) _ σ (fv w.rho h1) _ _
    cases ev : fv w.rho h1 with
    | bad =>
      rw [ev] at q
      exact q.elim
    | ex e h2 =>
      rw [ev] at q
      exact fun m' F' H' p2 s2 gk => q _ m' F' H' (p1.trans p2) (s1.trans s2) gk
    | ok y h2 =>
      rw [ev] at q
      replace q : OPost G w σ (if MP.keyM x then .ok (.dic false [(x, y)]) h2 else .bad) Q W := q
      intro m2 F2 H2 yv p2 s2 g2 r2
      split at q
      · rename_i hk
        obtain ⟨⟨ks, k1, k2⟩, _⟩ := g2.own p (.dic false []) updU_same
        cases k2
        obtain ⟨kq, hq, rfl⟩ := keyM_of (r1.mono p2 s2) hk
        refine ⟨k1, [(kq, yv)], rfl, by simp, ?_⟩
        have g3 := g2.setN (o := .dK [(kq, yv)]) (u := .dic false [(x, y)]) updU_same (by simp) ⟨_, upd_same, .cons hq r2 .nil⟩ fun j u e => own_free g nU j u e
        refine q m2 F2 _ p (p1.trans p2) (s1.trans s2) ?_ nU
        have e : mergeK [] [(kq, yv)] = [(kq, yv)] := rfl
        rw [e]
        rw [updU_upd] at g3
        exact g3
      · exact q.elim
/-! appending to what a slot owns -/
theorem core_app {u v : MP.O} {p : Addr} {w : Wd} {σ : L2.St} {H : Hp} {D : Ends} {ho : HO} (g : Good G w σ H) (ei : w.rho[i]? = some (.own v)) (es : σ[i]? = some (some (.ref p))) (nd : u ≠ .dead) (r : ∀ H', H' p = some ho → OR G w.m w.F H' p u)
    (q : SPost G w (.nx (w.rho.set i (.own u)) w.h) D W) : D.nx σ (upd H p ho) := q _ _ _ _ _ (Pre.refl _) (Same.refl _) (g.setS ei es nd (r _ upd_same))
theorem getL_of {rho : List MP.SV} {l : List MP.MV} (e : MP.getL rho i = some l) : MP.getO rho i = some (.lst l) := by
  unfold MP.getL at e
  split at e
  · rename_i u h
    cases e
    exact h
  · cases e
theorem s_app (hv : VarOk X i x) (hl : (apos.endLine == pos.line) = true) (hs : isStar b = false) (hb : PE X b (TEv G W fb)) :
    PS X (.Expr (.Call (.Attribute (.Name x vpos) "append" apos) [b] [] pos) spos) (TSv G W (fun rho h => MP.SR.ofO (MP.getL rho i) fun l => MP.SR.ofR (fb rho h) rho fun v h1 => MP.SR.ofO (MP.appOwn l v) fun u => .nx (rho.set i (.own u)) h1)) := by
  refine ps_imp (ps_expr (bm_append (a := .Name x vpos) rfl hl hs hv.pe (pa_one hs hb)) (by rfl)) fun D σ H h => ?_
  obtain ⟨w, g, q⟩ := h
  obtain ⟨l, eo, q⟩ := SPost.ofO q
  obtain ⟨p, e1, e2, e3⟩ := own_of g (getL_of eo)
  obtain ⟨⟨xs0, k0, _⟩, _⟩ := g.own p _ e2
  refine ⟨_, e1, .inl ⟨rfl, xs0, SqL.of k0⟩, w, g, (SPost.ofR (Rl := VR G) q g).imp fun v h1 m1 F1 H1 y _ p1 s1 g1 r1 q1 => ?_⟩
  obtain ⟨v', h1', m1', F1', p1', s1', g1', r1', q2⟩ := q1
  obtain ⟨u, eu, q3⟩ := SPost.ofO q2
  replace eu : (if l.length < MP.LIM then some (MP.O.lst (l ++ [v'])) else none) = some u := eu
  split at eu
  · rename_i hz
    cases eu
    obtain ⟨⟨xs, k1, k2⟩, _⟩ := g1'.own p _ e2
    exact ⟨p, xs, y, rfl, rfl, k1, by rw [← k2.length]; exact Nat.lt_of_lt_of_le hz (lim_line (Nat.le_refl _)), core_app (u := .lst (l ++ [v'])) g1' e3 e1 (by simp) (fun H' e => ⟨_, e, k2.append (.cons r1' .nil)⟩) q3⟩
  · cases eu
theorem s_ext (hv : VarOk X i x) (hl : (apos.endLine == pos.line) = true) (hs : isStar b = false) (hb : PE X b (TEv G W fb)) :
    PS X (.Expr (.Call (.Attribute (.Name x vpos) "extend" apos) [b] [] pos) spos) (TSv G W (fun rho h => MP.SR.ofO (MP.getL rho i) fun l => MP.SR.ofR (fb rho h) rho fun v h1 => MP.SR.ofO (MP.extOwn h1 l v) fun u => .nx (rho.set i (.own u)) h1)) := by
  refine ps_imp (ps_expr (bm_extend (a := .Name x vpos) rfl hl hs hv.pe (pa_one hs hb)) (by rfl)) fun D σ H h => ?_
  obtain ⟨w, g, q⟩ := h
  obtain ⟨l, eo, q⟩ := SPost.ofO q
  obtain ⟨p, e1, e2, e3⟩ := own_of g (getL_of eo)
  obtain ⟨⟨xs0, k0, _⟩, _⟩ := g.own p _ e2
  refine ⟨_, e1, .inl ⟨rfl, xs0, SqL.of k0⟩, w, g, (SPost.ofR (Rl := VR G) q g).imp fun v h1 m1 F1 H1 y _ p1 s1 g1 r1 q1 => ?_⟩
  obtain ⟨v', h1', m1', F1', p1', s1', g1', r1', q2⟩ := q1
  obtain ⟨u, eu, q3⟩ := SPost.ofO q2
  obtain ⟨k, ek, eu⟩ := Option.bind_eq_some_iff.mp eu
  split at eu
  · rename_i hz
    cases eu
    obtain ⟨⟨xs, k1, k2⟩, _⟩ := g1'.own p _ e2
    obtain ⟨b', ys, rfl, l1, l2⟩ := look_list g1' r1' ek
    exact ⟨p, b', xs, ys, rfl, rfl, k1, l1, by rw [← k2.length, ← l2.length]; exact lim_line hz, core_app (u := .lst (l ++ k)) g1' e3 e1 (by simp) (fun H' e => ⟨_, e, k2.append l2⟩) q3⟩
  · cases eu
/-- d[k] = v -/
theorem s_setI (hv : VarOk X i x) (hu : X.A.units + 1 < cLine) (hc : isCompE e = false) (hb : PE X b (TEv G W fb)) (he : PE X e (TEv G W fe)) :
    PS X (.Assign [.Subscript (.Name x vpos) b apos] e pos) (TSv G W (fun rho h => MP.SR.ofR (fe rho h) rho fun v h1 => MP.SR.ofO (MP.getK rho i) fun l => MP.SR.ofR (fb rho h1) rho fun x h2 => MP.SR.ofO (MP.setOwn l x v) fun u => .nx (rho.set i (.own u)) h2)) := by
  refine ps_imp (ps_dput hu hv.pe hb he (sw_false hc)) fun D σ H h => ?_
  obtain ⟨w, g, q⟩ := h
  refine ⟨w, g, (SPost.ofR (Rl := VR G) q g).imp fun v h1 m1 F1 H1 y _ p1 s1 g1 r1 q1 => ?_⟩
  obtain ⟨v', h1', m1', F1', p1', s1', g1', r1', q2⟩ := q1
  obtain ⟨l, eo, q2⟩ := SPost.ofO q2
  obtain ⟨p, e1, e2, e3⟩ := own_of g1' (getK_of eo)
  refine ⟨_, e1, _, g1', (SPost.ofR (Rl := VR G) q2 g1').imp fun u h2 m2 F2 H2 z _ p2 s2 g2 r2 q3 => ?_⟩
  obtain ⟨u', h2', m2', F2', p2', s2', g2', r2', q4⟩ := q3
  obtain ⟨u, eu, q5⟩ := SPost.ofO q4
  replace eu : (if MP.keyM u' && decide (l.length < MP.LIM) then some (MP.O.dic false (MP.putD l u' v')) else none) = some u := eu
  split at eu
  · rename_i hz
    cases eu
    simp only [Bool.and_eq_true, decide_eq_true_eq] at hz
    obtain ⟨⟨ks, k1, k2⟩, _⟩ := g2'.own p _ e2
    obtain ⟨kq, hq, rfl⟩ := keyM_of r2' hz.1
    exact ⟨p, _, rfl, DPut.k k1 (by rw [← k2.length]; exact Nat.lt_of_lt_of_le hz.2 (lim_line (Nat.le_refl _))), core_app (u := .dic false (MP.putD l u' v')) g2' e3 e1 (by simp) (fun H' e => ⟨_, e, k2.put (fun h h' => h.eq h') hq (r1'.mono p2' s2')⟩) q5⟩
  · cases eu
/-- name op= e -/
def ipAll : MP.Bop → Option (Operator × (Int → Int → Int))
  | .add => some (.Add, fun i j => i + j)
  | .sub => some (.Sub, fun i j => i - j)
  | _ => none
theorem s_aug {op : MP.Bop} {pop : Operator} {fi : Int → Int → Int} (eop : ipAll op = some (pop, fi)) (hN : X.N.Nodup) (hi : X.N[i]? = some x) (hx : Loc X.env.scope x) (hf : X.fn x = true ∨ X.env.scope.names.lookup x = some .local) (he : PE X e (TEv G W fe)) :
    PS X (.AugAssign (.Name x vpos) pop e pos) (TSv G W (fun rho h => MP.SR.ofO (MP.getV rho i) fun x => MP.SR.ofR (fe rho h) rho fun y h1 => MP.SR.ofO (MP.augV op x y) fun z => .nx (rho.set i (.val z)) h1)) := by
  have hp : PIp X pop (ipI fi) := by
    cases op <;> first | (cases eop; done) | skip
    · cases eop
      exact ip_add
    · cases eop
      exact ip_sub
  refine ps_imp (ps_aug hN hi hx he hp hf) fun D σ H h => ?_
  obtain ⟨w, g, q⟩ := h
  obtain ⟨v, ev, q⟩ := SPost.ofO q
  have er : w.rho[i]? = some (.val v) := by
    unfold MP.getV at ev
    split at ev
    · rename_i u e
      cases ev
      exact e
    · cases ev
  obtain ⟨xv, h1, h2⟩ := g.slo.val i v er
  refine ⟨xv, h1, w, g, (SPost.ofR (Rl := VR G) q g).imp fun v h1 m1 F1 H1 y _ p1 s1 g1 r1 q1 => ?_⟩
  obtain ⟨v', h1', m1', F1', p1', s1', g1', r1', q2⟩ := q1
  obtain ⟨z, ez, q3⟩ := SPost.ofO q2
  have h2' := h2.mono p1' s1'
  cases h2' <;> cases r1' <;> cases op <;> first | (cases ez; done) | (cases eop; done) | skip
  · cases ez
    cases eop
    exact ⟨_, _, rfl, rfl, q3 _ _ _ _ _ (Pre.refl _) (Same.refl _) (g1'.slot (.int _))⟩
  · cases ez
    cases eop
    exact ⟨_, _, rfl, rfl, q3 _ _ _ _ _ (Pre.refl _) (Same.refl _) (g1'.slot (.int _))⟩
end
end MPS
end

section
set_option Elab.async false
set_option linter.all false
set_option maxRecDepth 100000
set_option maxHeartbeats 1000000
set_option autoImplicit false
namespace MPS
open PySem PySem.Spec PyProof.Rows L2
section
variable {X : Cx} {G : Gc} {W : EW} {st : Stmt} {rest : List Stmt} {t : TS} {a b c e o tg iter : Expr} {es : List Expr} {fa fb fc fe : Ef} {fs : Es} {fo : Of} {f g : Sf} {pos apos vpos spos : Pos} {i : Nat} {x : Str} {body orelse : List Stmt}
theorem SPost.turn {w : Wd} {D : Ends} {r : MP.SR} {f : Sf} (q : SPost G w (r.turn f) D W) : SPost G w r { D with nx := TSv G W f D, ct := TSv G W f D, bk := D.nx } W := by
  cases r with
  | nx rho' h' => exact fun U' m' F' σ' H' p' s' g => ⟨_, g, SPost.later (r := f rho' h') q p' s'⟩
  | ct rho' h' => exact fun U' m' F' σ' H' p' s' g => ⟨_, g, SPost.later (r := f rho' h') q p' s'⟩
  | rt v h' => exact q
  | ex e rho' h' => exact q
  | bad => exact q
theorem s_while {n : Nat} {ks : List Nat} (hp : PassesOwn (model X.prog X.w) X.A X.env X.xe) (hc : PT X c (TTv G W fc)) (hb : PSs X body (TSv G W f)) :
    PS X (.While c body [] pos) (TSv G W (fun rho h => (MP.whileLoop (fun r h => fc r h) (fun r h => f (MP.wipe r ks) h) n rho h).seq fun r h => .nx (MP.wipe r ks) h)) := by
  refine ps_imp (ps_while hp hc hb) fun D σ H h => ?_
  obtain ⟨w, g, q⟩ := h
  have q := SPost.seq q
  refine ⟨fun n σ H => TSv G W (fun rho h => MP.whileLoop (fun r h => fc r h) (fun r h => f (MP.wipe r ks) h) n rho h) { D with nx := TSv G W (fun r h => .nx (MP.wipe r ks) h) D } σ H, ⟨n, w, g, q⟩, ?_⟩
  rintro m σ H ⟨w, g, q⟩
  cases m with
  | zero => exact q.elim
  | succ m =>
    replace q : SPost G w (MP.SR.ofR (fc w.rho w.h) w.rho fun v h1 => MP.SR.test v ((f (MP.wipe w.rho ks) h1).turn fun r1 h2 => MP.whileLoop (fun r h => fc r h) (fun r h => f (MP.wipe r ks) h) m r1 h2) (.nx w.rho h1)) { D with nx := TSv G W (fun r h => .nx (MP.wipe r ks) h) D } W := q
    refine ⟨w, g, (SPost.ofR (Rl := VR G) q g).imp fun v h1 m1 F1 H1 x e1 p1 s1 g1 r1 q1 => ?_⟩
    obtain ⟨v', h1', m1', F1', p1', s1', g1', r1', q2⟩ := q1
    cases r1' <;> first | (exact q2.elim) | skip
    rename_i k
    refine ⟨k, rfl, ?_⟩
    cases k with
    | true =>
      refine iteT ⟨fun σ H => TSv G W (fun rho h => MP.whileLoop (fun r h => fc r h) (fun r h => f (MP.wipe r ks) h) m rho h) { D with nx := TSv G W (fun r h => .nx (MP.wipe r ks) h) D } σ H, fun σ' H' z => ⟨m, Nat.lt_succ_self m, z⟩, ?_⟩
      replace q2 : SPost G (w.at m1' F1' h1') ((f (MP.wipe w.rho ks) h1').turn fun r1 h2 => MP.whileLoop (fun r h => fc r h) (fun r h => f (MP.wipe r ks) h) m r1 h2) { D with nx := TSv G W (fun r h => .nx (MP.wipe r ks) h) D } W := q2
      refine ⟨_, g1'.wiped ks, ?_⟩
      have q3 := SPost.turn q2
      exact (SPost.later (w := w.at m1' F1' h1') (rho := MP.wipe w.rho ks) (U := w.U) (h := h1') q3 (Pre.refl _) (Same.refl _)).ends (fun _ _ z => z) (fun _ _ z => z) (fun _ _ z => z)
    | false =>
      refine iteF ?_
      replace q2 : SPost G (w.at m1' F1' h1') (.nx w.rho h1') { D with nx := TSv G W (fun r h => .nx (MP.wipe r ks) h) D } W := q2
      obtain ⟨w2, g2, q3⟩ := q2 _ _ _ _ _ (Pre.refl _) (Same.refl _) g1'
      exact q3 _ _ _ _ _ (Pre.refl _) (Same.refl _) (g2.wiped ks)
theorem s_for {tm : MP.T} {ks : List Nat} (hp : PassesOwn (model X.prog X.w) X.A X.env X.xe) (hc : X.calm = true) (hi : PI X tg iter (TIv G W fs)) (hg : PG X tg (TGv G tm)) (hb : PSs X body (TSv G W f)) (hs : ∀ x, foldedSetIterable iter X.env x = pure x) :
    PS X (.For tg iter body [] pos) (TSv G W (fun rho h => MP.SR.ofR (fs rho h) rho fun src h2 =>
      (MP.forLoop src (fun x r h => MP.SR.ofO (MP.setT tm x (MP.wipe r ks)) fun r1 => f r1 h) (src.len h2 + 1) 0 rho h2).seq fun r h => .nx (MP.wipe r ks) h)) := by
  refine ps_imp (ps_for hp hc hi hg hb hs) fun D σ H h => ?_
  obtain ⟨w, g, q⟩ := h
  refine ⟨w, g, (SPost.ofR (Rl := JR G) q g).imp fun v h1 m1 F1 H1 J e1 p1 s1 g1 r1 q1 => ?_⟩
  obtain ⟨src, h1', m1', F1', p1', s1', g1', r1', q2⟩ := q1
  have q2 := SPost.seq q2
  refine ⟨fun i n σ H => ∃ w, Good G w σ H ∧ Pre m1' w.m ∧ Same F1' w.F ∧ SPost G w (MP.forLoop src (fun x r h => MP.SR.ofO (MP.setT tm x (MP.wipe r ks)) fun r1 => f r1 h) n i w.rho w.h) { D with nx := TSv G W (fun r h => .nx (MP.wipe r ks) h) D } W, ⟨_, _, g1', Pre.refl _, Same.refl _, q2⟩, ?_⟩
  rintro i n σ H ⟨w, g, pm, sF, q⟩
  cases n with
  | zero => exact q.elim
  | succ n =>
    replace q : SPost G w (match src.at w.h i with
      | none => .bad
      | some none => .nx w.rho w.h
      | some (some x) => (MP.SR.ofO (MP.setT tm x (MP.wipe w.rho ks)) fun r1 => f r1 w.h).turn fun r1 h1 => MP.forLoop src (fun x r h => MP.SR.ofO (MP.setT tm x (MP.wipe r ks)) fun r1 => f r1 h) n (i + 1) r1 h1) { D with nx := TSv G W (fun r h => .nx (MP.wipe r ks) h) D } W := q
    cases ea : src.at w.h i with
    | none =>
      rw [ea] at q
      exact q.elim
    | some o =>
      rw [ea] at q
      cases o with
      | none =>
        refine .inl ⟨r1'.stop _ _ _ i g pm sF ea, ?_⟩
        obtain ⟨w2, g2, q3⟩ := (show SPost G w (.nx w.rho w.h) _ W from q) _ _ _ _ _ (Pre.refl _) (Same.refl _) g
        exact q3 _ _ _ _ _ (Pre.refl _) (Same.refl _) (g2.wiped ks)
      | some v =>
        refine .inr ⟨r1'.go _ _ _ i v g pm sF ea, fun σ H => ∃ w, Good G w σ H ∧ Pre m1' w.m ∧ Same F1' w.F ∧ SPost G w (MP.forLoop src (fun x r h => MP.SR.ofO (MP.setT tm x (MP.wipe r ks)) fun r1 => f r1 h) n (i + 1) w.rho w.h) { D with nx := TSv G W (fun r h => .nx (MP.wipe r ks) h) D } W, fun σ' H' z => ⟨n, Nat.lt_succ_self n, z⟩, fun x H' hy => ?_⟩
        obtain ⟨F2, s2, g2, r2⟩ := r1'.yld _ _ _ i v x H' g pm sF ea hy
        replace q : SPost G w ((MP.SR.ofO (MP.setT tm v (MP.wipe w.rho ks)) fun r1 => f r1 w.h).turn fun r1 h1 => MP.forLoop src (fun x r h => MP.SR.ofO (MP.setT tm x (MP.wipe r ks)) fun r1 => f r1 h) n (i + 1) r1 h1) { D with nx := TSv G W (fun r h => .nx (MP.wipe r ks) h) D } W := q
        cases et : MP.setT tm v (MP.wipe w.rho ks) with
        | none =>
          rw [et] at q
          exact q.elim
        | some r =>
          rw [et] at q
          replace q : SPost G w ((f r w.h).turn fun r1 h1 => MP.forLoop src (fun x r h => MP.SR.ofO (MP.setT tm x (MP.wipe r ks)) fun r1 => f r1 h) n (i + 1) r1 h1) { D with nx := TSv G W (fun r h => .nx (MP.wipe r ks) h) D } W := q
          refine ⟨_, v, r, g2.wiped ks, r2, et, fun σ2 g3 _ => ⟨_, g3, ?_⟩⟩
          have q4 : SPost G w (f r w.h) { D with nx := fun σ H => ∃ w2, Good G w2 σ H ∧ Pre m1' w2.m ∧ Same F1' w2.F ∧ SPost G w2 (MP.forLoop src (fun x r h => MP.SR.ofO (MP.setT tm x (MP.wipe r ks)) fun r1 => f r1 h) n (i + 1) w2.rho w2.h) { D with nx := TSv G W (fun r h => .nx (MP.wipe r ks) h) D } W, ct := fun σ H => ∃ w2, Good G w2 σ H ∧ Pre m1' w2.m ∧ Same F1' w2.F ∧ SPost G w2 (MP.forLoop src (fun x r h => MP.SR.ofO (MP.setT tm x (MP.wipe r ks)) fun r1 => f r1 h) n (i + 1) w2.rho w2.h) { D with nx := TSv G W (fun r h => .nx (MP.wipe r ks) h) D } W, bk := D.nx } W := by
            cases ef : f r w.h with
            | nx rho' h' =>
              rw [ef] at q
              exact fun U' m' F' σ' H' p' s' g => ⟨_, g, pm.trans p', sF.trans s', SPost.later (r := MP.forLoop src (fun x r h => MP.SR.ofO (MP.setT tm x (MP.wipe r ks)) fun r1 => f r1 h) n (i + 1) rho' h') q p' s'⟩
            | ct rho' h' =>
              rw [ef] at q
              exact fun U' m' F' σ' H' p' s' g => ⟨_, g, pm.trans p', sF.trans s', SPost.later (r := MP.forLoop src (fun x r h => MP.SR.ofO (MP.setT tm x (MP.wipe r ks)) fun r1 => f r1 h) n (i + 1) rho' h') q p' s'⟩
            | rt v h' =>
              rw [ef] at q
              exact q
            | ex e rho' h' =>
              rw [ef] at q
              exact q
            | bad =>
              rw [ef] at q
              exact q
          exact SPost.later (w := w) (rho := r) (U := w.U) (h := w.h) (m := w.m) (F := F2) q4 (Pre.refl _) s2
end
/-! ### several at once -/
def setS : List Nat → List V → L2.St → L2.St
  | i :: is, x :: xs, σ => setS is xs (σ.set i (some x))
  | _, _, σ => σ
def OwnL (G : Gc) (U0 U : Addr → Option MP.O) (m : List Addr) (F : Hp) : List (Nat × MP.SV) → List V → Prop
  | [], xs => xs = []
  | (_, .val v) :: l, xs => ∃ x r, xs = x :: r ∧ VR G m F v x ∧ OwnL G U0 U m F l r
  | (_, .own o) :: l, xs => ∃ p r, xs = .ref p :: r ∧ U p = some o ∧ U0 p = none ∧ OwnL G (updU U0 p o) U m F l r
  | (_, .none) :: _, _ => False
theorem OwnL.mono {G : Gc} {m m' : List Addr} {F F' : Hp} {U : Addr → Option MP.O} (p : Pre m m') (s : Same F F') : ∀ {l : List (Nat × MP.SV)} {xs : List V} {U0 : Addr → Option MP.O}, OwnL G U0 U m F l xs → OwnL G U0 U m' F' l xs
  | [], _, _, h => h
  | (_, .val v) :: l, _, _, ⟨x, r, e, h1, h2⟩ => ⟨x, r, e, h1.mono p s, OwnL.mono p s h2⟩
  | (_, .own o) :: l, _, _, ⟨q, r, e, h1, h2, h3⟩ => ⟨q, r, e, h1, h2, OwnL.mono p s h3⟩
  | (_, .none) :: _, _, _, h => h.elim
theorem setAll_good {G : Gc} {H : Hp} : ∀ {l : List (Nat × MP.SV)} {xs : List V} {U0 : Addr → Option MP.O} {w : Wd} {σ : L2.St}, Good G w σ H → (∀ (j : Nat) (u : MP.O) (a : Addr), w.rho[j]? = some (.own u) → σ[j]? = some (some (.ref a)) → U0 a ≠ none) → OwnL G U0 w.U w.m w.F l xs →
    Good G { w with rho := MP.setAll l w.rho } (setS (l.map (·.1)) xs σ) H
  | [], xs, _, w, σ, g, _, h => by
    have e : xs = [] := h
    subst e
    exact g
  | (i, .val v) :: l, _, U0, w, σ, g, fr, ⟨x, r, e, h1, h2⟩ => by
    subst e
    refine setAll_good (w := { w with rho := w.rho.set i (.val v) }) (U0 := U0) (g.slot h1) (fun j u a e1 e2 => ?_) h2
    have e1 : (w.rho.set i (.val v))[j]? = some (.own u) := e1
    by_cases q : i = j
    · subst q
      have hl : i < w.rho.length := by
        have := (List.getElem?_eq_some_iff.mp e1).1
        simpa using this
      rw [List.getElem?_set_self hl] at e1
      cases e1
    · rw [List.getElem?_set_ne q] at e1 e2
      exact fr j u a e1 e2
  | (i, .own o) :: l, _, U0, w, σ, g, fr, ⟨p, r, e, h1, h2, h3⟩ => by
    subst e
    refine setAll_good (w := { w with rho := w.rho.set i (.own o) }) (U0 := updU U0 p o) (g.slotO h1 fun j u e1 e2 => fr j u p e1 e2 h2) (fun j u a e1 e2 => ?_) h3
    have e1 : (w.rho.set i (.own o))[j]? = some (.own u) := e1
    by_cases q : i = j
    · subst q
      have hl : i < w.rho.length := by
        have := (List.getElem?_eq_some_iff.mp e1).1
        simpa using this
      rw [List.getElem?_set_self (by rw [← g.slo.len]; exact hl)] at e2
      cases e2
      rw [updU_same]
      simp
    · rw [List.getElem?_set_ne q] at e1 e2
      by_cases qa : a = p
      · subst qa
        rw [updU_same]
        simp
      · rw [updU_ne qa]
        exact fr j u a e1 e2
  | (_, .none) :: _, _, _, _, _, _, _, h => h.elim
def LPost (G : Gc) (w : Wd) (σ : L2.St) (r : MP.R (List (Nat × MP.SV))) (Q : List V → Hp → Prop) (W : EW) : Prop := match r with
  | .ok l h' => ∀ U m' F' H' xs, Pre w.m m' → Same w.F F' → (∀ a u, w.U a = some u → U a = some u) → Good G (w.put w.rho U m' F' h') σ H' → OwnL G w.U U m' F' l xs → Q xs H'
  | .ex e h' => ∀ U m' F' H', Pre w.m m' → Same w.F F' → Good G (w.put w.rho U m' F' h') σ H' → W e (w.put w.rho U m' F' h') σ H'
  | .bad => False
abbrev Lf := List MP.SV → List MP.O → MP.R (List (Nat × MP.SV))
def TLv (G : Gc) (W : EW) (f : Lf) : TA := fun σ H Q => ∃ w, Good G w σ H ∧ LPost G w σ (f w.rho w.h) Q W
section
variable {X : Cx} {G : Gc} {W : EW} {st : Stmt} {rest : List Stmt} {t : TS} {a b c e o tg iter : Expr} {es : List Expr} {fa fb fc fe : Ef} {fo : Of} {fl : Lf} {f g : Sf} {pos apos vpos spos : Pos} {i : Nat} {x : Str} {body orelse : List Stmt}
theorem la_nil : PA X [] (TLv G W (fun _ h => .ok [] h)) := pa_imp pa_nil fun σ H Q h => by
  obtain ⟨w, g, q⟩ := h
  exact q _ _ _ _ _ (Pre.refl _) (Same.refl _) (fun _ _ z => z) g rfl
theorem la_val (hs : isStar e = false) (he : PE X e (TEv G W fe)) (hl : PA X es (TLv G W fl)) : PA X (e :: es) (TLv G W (fun rho h => ((fe rho h).bind fun v h1 => .ok (.val v) h1).bind fun v h1 => (fl rho h1).bind fun vs h2 => .ok ((i, v) :: vs) h2)) := by
  refine pa_imp (pa_cons he hl (starEach_cons hs)) fun σ H Q h => ?_
  obtain ⟨w, g, q⟩ := h
  refine ⟨w, g, ?_⟩
  replace q : LPost G w σ (((fe w.rho w.h).bind fun v h1 => MP.R.ok (MP.SV.val v) h1).bind fun v h1 => (fl w.rho h1).bind fun vs h2 => .ok ((i, v) :: vs) h2) Q W := q
  cases ee : fe w.rho w.h with
  | bad =>
    rw [ee] at q
    exact q.elim
  | ex e h1 =>
    rw [ee] at q
    exact fun m' F' H' p s g => q w.U m' F' H' p s g
  | ok v h1 =>
    rw [ee] at q
    replace q : LPost G w σ ((fl w.rho h1).bind fun vs h2 => .ok ((i, .val v) :: vs) h2) Q W := q
    intro m1 F1 H1 x p1 s1 g1 r1
    refine ⟨_, g1, ?_⟩
    show LPost G (w.at m1 F1 h1) σ (fl w.rho h1) _ W
    cases el : fl w.rho h1 with
    | bad =>
      rw [el] at q
      exact q.elim
    | ex e h2 =>
      rw [el] at q
      exact fun U m' F' H' p s g => q U m' F' H' (p1.trans p) (s1.trans s) g
    | ok vs h2 =>
      rw [el] at q
      exact fun U m' F' H' xs p s u g ol => q U m' F' H' (x :: xs) (p1.trans p) (s1.trans s) u g ⟨x, xs, rfl, r1.mono p s, ol⟩
theorem la_own (hs : isStar e = false) (he : PE X e (TWv G W fo)) (hl : PA X es (TLv G W fl)) : PA X (e :: es) (TLv G W (fun rho h => ((fo rho h).bind fun v h1 => .ok (.own v) h1).bind fun v h1 => (fl rho h1).bind fun vs h2 => .ok ((i, v) :: vs) h2)) := by
  refine pa_imp (pa_cons he hl (starEach_cons hs)) fun σ H Q h => ?_
  obtain ⟨w, g, q⟩ := h
  refine ⟨w, g, ?_⟩
  replace q : LPost G w σ (((fo w.rho w.h).bind fun v h1 => MP.R.ok (MP.SV.own v) h1).bind fun v h1 => (fl w.rho h1).bind fun vs h2 => .ok ((i, v) :: vs) h2) Q W := q
  cases ee : fo w.rho w.h with
  | bad =>
    rw [ee] at q
    exact q.elim
  | ex e h1 =>
    rw [ee] at q
    exact fun U m' F' H' p s g => q U m' F' H' p s g
  | ok v h1 =>
    rw [ee] at q
    replace q : LPost G w σ ((fl w.rho h1).bind fun vs h2 => .ok ((i, .own v) :: vs) h2) Q W := q
    intro m1 F1 H1 pa p1 s1 g1 nU
    refine ⟨_, g1, ?_⟩
    show LPost G { w.at m1 F1 h1 with U := updU w.U pa v } σ (fl w.rho h1) _ W
    cases el : fl w.rho h1 with
    | bad =>
      rw [el] at q
      exact q.elim
    | ex e h2 =>
      rw [el] at q
      exact fun U m' F' H' p s g => q U m' F' H' (p1.trans p) (s1.trans s) g
    | ok vs h2 =>
      rw [el] at q
      refine fun U m' F' H' xs p s u g ol => q U m' F' H' (.ref pa :: xs) (p1.trans p) (s1.trans s) (fun a o z => u a o ?_) g ⟨pa, xs, rfl, u pa v updU_same, nU, ol⟩
      show updU w.U pa v a = some o
      rw [updU_ne (fun k => by rw [k, nU] at z; cases z)]
      exact z
/-- where all are set -/
theorem core_par {is : List Nat} (hi : ∀ rho h l h', fl rho h = .ok l h' → l.map (·.1) = is) {D : Ends} {σ : L2.St} {H : Hp} {K : List V → Hp → Prop} (h : TSv G W (fun rho h => MP.SR.ofR (fl rho h) rho fun vs h1 => .nx (MP.setAll vs rho) h1) D σ H) :
    TLv G W fl σ H fun xs H1 => ∃ w, Good G w σ H1 ∧ xs.length = is.length ∧ ∀ H2 F2, Same w.F F2 → Good G (w.at w.m F2 w.h) σ H2 → D.nx (setS is xs σ) H2 := by
  obtain ⟨w, g, q⟩ := h
  refine ⟨w, g, ?_⟩
  replace q : SPost G w (MP.SR.ofR (fl w.rho w.h) w.rho fun vs h1 => .nx (MP.setAll vs w.rho) h1) D W := q
  cases el : fl w.rho w.h with
  | bad =>
    rw [el] at q
    exact q.elim
  | ex e h2 =>
    rw [el] at q
    exact fun U m' F' H' p s g => q U m' F' σ H' p s g
  | ok vs h2 =>
    rw [el] at q
    intro U m' F' H' xs p s u gk ol
    have len : ∀ {l : List (Nat × MP.SV)} {xs : List V} {U0 : Addr → Option MP.O}, OwnL G U0 U m' F' l xs → xs.length = l.length := by
      intro l
      induction l with
      | nil =>
        intro xs U0 h
        have e : xs = [] := h
        rw [e]
        rfl
      | cons d l ih =>
        intro xs U0 h
        obtain ⟨i, sv⟩ := d
        cases sv with
        | none => exact h.elim
        | val v =>
          obtain ⟨x, r, e, _, h2⟩ := h
          rw [e]
          exact congrArg Nat.succ (ih h2)
        | own o =>
          obtain ⟨x, r, e, _, _, h2⟩ := h
          rw [e]
          exact congrArg Nat.succ (ih h2)
    have e := hi _ _ _ _ el
    refine ⟨_, gk, by rw [len ol, ← e, List.length_map], fun H2 F2 sF g2 => ?_⟩
    rw [← e]
    refine q U m' F2 _ H2 p (s.trans sF) ?_
    refine setAll_good (w := w.put w.rho U m' F2 h2) (U0 := w.U) g2 (fun j u' a e1 e2 => ?_) (ol.mono (Pre.refl _) sF)
    obtain ⟨a', z1, z2⟩ := g.slo.own j u' e1
    rw [e2] at z1
    cases z1
    rw [z2]
    simp
structure PL (X : Cx) (G : Gc) (W : EW) (es : List Expr) (is : List Nat) (fl : Lf) : Prop where
  pa : PA X es (TLv G W fl)
  ix : ∀ rho h l h', fl rho h = .ok l h' → l.map (·.1) = is
theorem pl_nil : PL X G W [] [] (fun _ h => .ok [] h) := ⟨la_nil, fun _ _ l h' e => by cases e; rfl⟩
theorem bind_ok {α β : Type} {r : MP.R α} {f : α → List MP.O → MP.R β} {b : β} {h' : List MP.O} (e : r.bind f = .ok b h') : ∃ a h, r = .ok a h ∧ f a h = .ok b h' := by
  cases r with
  | ok a h => exact ⟨a, h, rfl, e⟩
  | ex _ _ => cases e
  | bad => cases e
theorem ix_cons {is : List Nat} {r : MP.R MP.SV} {fl : Lf} {rho : List MP.SV} (hl : ∀ rho h l h', fl rho h = .ok l h' → l.map (·.1) = is) {l : List (Nat × MP.SV)} {h' : List MP.O} (e : (r.bind fun v h1 => (fl rho h1).bind fun vs h2 => .ok ((i, v) :: vs) h2) = .ok l h') : l.map (·.1) = i :: is := by
  obtain ⟨v, h1, _, e2⟩ := bind_ok e
  obtain ⟨vs, h2, e3, e4⟩ := bind_ok e2
  cases e4
  exact congrArg (i :: ·) (hl _ _ _ _ e3)
theorem pl_val {is : List Nat} (hs : isStar e = false) (he : PE X e (TEv G W fe)) (hl : PL X G W es is fl) : PL X G W (e :: es) (i :: is) (fun rho h => ((fe rho h).bind fun v h1 => .ok (.val v) h1).bind fun v h1 => (fl rho h1).bind fun vs h2 => .ok ((i, v) :: vs) h2) :=
  ⟨la_val hs he hl.pa, fun rho h l h' e => ix_cons hl.ix e⟩
theorem pl_own {is : List Nat} (hs : isStar e = false) (he : PE X e (TWv G W fo)) (hl : PL X G W es is fl) : PL X G W (e :: es) (i :: is) (fun rho h => ((fo rho h).bind fun v h1 => .ok (.own v) h1).bind fun v h1 => (fl rho h1).bind fun vs h2 => .ok ((i, v) :: vs) h2) :=
  ⟨la_own hs he hl.pa, fun rho h l h' e => ix_cons hl.ix e⟩
/-- the names on the left -/
structure NmsOk (X : Cx) (ts : List Expr) (is : List Nat) : Prop where
  pgs : PGs X ts (fun vs σ H Q => vs.length = is.length ∧ Q (setS is vs σ) H)
  len : ts.length = is.length
  star : noStar ts = true
theorem nms_nil : NmsOk X [] [] := by
  refine ⟨pgs_imp pgs_nil fun vs σ H Q ⟨h1, h2⟩ => ?_, rfl, rfl⟩
  cases vs with
  | nil => exact ⟨rfl, h2⟩
  | cons _ _ => cases h1
theorem nms_cons {ts : List Expr} {is : List Nat} (hN : X.N.Nodup) (hi : X.N[i]? = some x) (hx : Loc X.env.scope x) (hf : X.fn x = true ∨ X.env.scope.names.lookup x = some .local) (h : NmsOk X ts is) : NmsOk X (.Name x vpos :: ts) (i :: is) := by
  refine ⟨pgs_imp (pgs_cons (pg_name hN hi hx hf) h.pgs (by rfl)) fun vs σ H Q ⟨h1, h2⟩ => ?_, congrArg Nat.succ h.len, h.star⟩
  cases vs with
  | nil => cases h1
  | cons v vs => exact ⟨v, vs, rfl, Nat.succ.inj h1, h2⟩
/-- the left and the right side by their own -/
theorem s_parT {ts : List Expr} {is : List Nat} {k1 k2 : Nat} {p1 p2 : Pos} (hK : X.K = G.K) (hc : X.calm = true) (hw : swappedStores [.Tuple ts k1 p1] (.Tuple es k2 p2) X.env = pure none) (hn : NmsOk X ts is) (hz : is.length ≤ 1000) (hl : PL X G W es is fl) :
    PS X (.Assign [.Tuple ts k1 p1] (.Tuple es k2 p2) pos) (TSv G W (fun rho h => MP.SR.ofR (fl rho h) rho fun vs h1 => .nx (MP.setAll vs rho) h1)) := by
  refine ps_imp (ps_asg (pe_tup hl.pa) (pg_tup hc hn.pgs (each_len ts) (each_star ts hn.star)) (by rfl) hw (by rfl)) fun D σ H h => ?_
  have h := core_par (K := fun _ _ => True) hl.ix h
  obtain ⟨w0, g0, q⟩ := h
  refine ⟨w0, g0, ?_⟩
  cases er : fl w0.rho w0.h with
  | bad =>
    rw [er] at q
    exact q.elim
  | ex e h1 =>
    rw [er] at q
    exact q
  | ok l h1 =>
    rw [er] at q
    refine fun U m' F' H' xs p s u gk ol => ?_
    obtain ⟨w, g, e, q2⟩ := q U m' F' H' xs p s u gk ol
    refine ⟨by rw [e, sizeLine_eq]; omega, fun a n => ⟨a, xs, rfl, SqT.of upd_same, by rw [e, hn.len], e, ?_⟩⟩
    exact q2 _ _ (MPS.same_upd (g.noF n)) (g.new (.tup xs) n)
theorem s_par2 {x y : Str} {i j : Nat} {px py pt pt2 : Pos} {k1 k2 : Nat} (hc : X.calm = true) (hN : X.N.Nodup) (hi : X.N[i]? = some x) (hj : X.N[j]? = some y) (hij : i ≠ j)
    (hx : X.env.scope.names.lookup x = some .local) (hy : X.env.scope.names.lookup y = some .local) (hw : swappedStores [.Tuple [.Name x px, .Name y py] k1 pt] (.Tuple [a, b] k2 pt2) X.env = pure (some [x, y])) (hl : PL X G W [a, b] [i, j] fl) :
    PS X (.Assign [.Tuple [.Name x px, .Name y py] k1 pt] (.Tuple [a, b] k2 pt2) pos) (TSv G W (fun rho h => MP.SR.ofR (fl rho h) rho fun vs h1 => .nx (MP.setAll vs rho) h1)) := by
  refine ps_imp (ps_par hc hN hi hj hij hx hy hl.pa hw (by rfl)) fun D σ H h => ?_
  have h := core_par (K := fun _ _ => True) hl.ix h
  obtain ⟨w0, g0, q⟩ := h
  refine ⟨w0, g0, ?_⟩
  cases er : fl w0.rho w0.h with
  | bad =>
    rw [er] at q
    exact q.elim
  | ex e h1 =>
    rw [er] at q
    exact q
  | ok l h1 =>
    rw [er] at q
    refine fun U m' F' H' xs p s u gk ol => ?_
    obtain ⟨w, g, e, q2⟩ := q U m' F' H' xs p s u gk ol
    match xs, e with
    | [v, u], _ => exact ⟨v, u, rfl, q2 _ _ (Same.refl _) g⟩
theorem s_par3 {x y z : Str} {i j k : Nat} {px py pz pt pt2 : Pos} {k1 k2 : Nat} (hc : X.calm = true) (hN : X.N.Nodup) (hi : X.N[i]? = some x) (hj : X.N[j]? = some y) (hk : X.N[k]? = some z) (hij : i ≠ j) (hik : i ≠ k) (hjk : j ≠ k)
    (hx : X.env.scope.names.lookup x = some .local) (hy : X.env.scope.names.lookup y = some .local) (hzz : X.env.scope.names.lookup z = some .local) (hw : swappedStores [.Tuple [.Name x px, .Name y py, .Name z pz] k1 pt] (.Tuple [a, b, c] k2 pt2) X.env = pure (some [x, y, z])) (hl : PL X G W [a, b, c] [i, j, k] fl) :
    PS X (.Assign [.Tuple [.Name x px, .Name y py, .Name z pz] k1 pt] (.Tuple [a, b, c] k2 pt2) pos) (TSv G W (fun rho h => MP.SR.ofR (fl rho h) rho fun vs h1 => .nx (MP.setAll vs rho) h1)) := by
  refine ps_imp (ps_par3 hc hN hi hj hk hij hik hjk hx hy hzz hl.pa hw (by rfl)) fun D σ H h => ?_
  have h := core_par (K := fun _ _ => True) hl.ix h
  obtain ⟨w0, g0, q⟩ := h
  refine ⟨w0, g0, ?_⟩
  cases er : fl w0.rho w0.h with
  | bad =>
    rw [er] at q
    exact q.elim
  | ex e h1 =>
    rw [er] at q
    exact q
  | ok l h1 =>
    rw [er] at q
    refine fun U m' F' H' xs p s u gk ol => ?_
    obtain ⟨w, g, e, q2⟩ := q U m' F' H' xs p s u gk ol
    match xs, e with
    | [v, u, t], _ => exact ⟨v, u, t, rfl, q2 _ _ (Same.refl _) g⟩
/-- whether the stores are swapped, by the text -/
def swB (ts vs : List Expr) (sc : Scope) : Option (Option (List Str)) :=
  if !(ts.length == 2 || ts.length == 3) || vs.length != ts.length then some none else
  if vs.any (fun | .Starred .. => true | _ => false) then some none else
  let line := (ts.head?.map (·.pos.line)).getD 0
  let names := ts.filterMap fun
    | .Name id pos => if sc.names.lookup id == some .local && pos.line == line then some id else none
    | _ => none
  if names.length != ts.length || names.eraseDups.length != names.length then some none else
  if vs.all (foldedForSure 8) then some none else
  if vs.all (constantsAlone 8) then none else some (some names)
theorem swB_ok {ts vs : List Expr} {env : Env} {r : Option (List Str)} {k1 k2 : Nat} {p1 p2 : Pos} (hk : env.scope.kind = .function) (h : swB ts vs env.scope = some r) : swappedStores [.Tuple ts k1 p1] (.Tuple vs k2 p2) env = pure r := by
  have hb : env.blockKind = .function := by unfold Env.blockKind; rw [hk]; rfl
  unfold swB at h
  unfold swappedStores
  simp only [hb] at h ⊢
  split at h
  · rename_i c
    cases h
    simp only [Bool.or_eq_true] at c
    rcases c with c | c
    · simp [c]
    · simp [c]
  · rename_i c1
    refine (if_neg (by simpa using c1)).trans ?_
    split at h
    · rename_i c2
      cases h
      exact if_pos c2
    · rename_i c2
      refine (if_neg c2).trans ?_
      split at h
      · rename_i c3
        cases h
        exact if_pos c3
      · rename_i c3
        refine (if_neg c3).trans ?_
        split at h
        · rename_i c4
          cases h
          exact if_pos c4
        · rename_i c4
          refine (if_neg c4).trans ?_
          split at h
          · cases h
          · rename_i c5
            cases h
            exact (if_neg c5).trans rfl
end
end MPS
end

section
set_option Elab.async false
set_option linter.all false
set_option maxRecDepth 100000
set_option maxHeartbeats 1000000
set_option autoImplicit false
namespace MPS
open PySem PySem.Spec PyProof.Rows L2
/-! ### a text against the small language -/
structure Tb where
  con : List (Str × MP.MV)
  call : List (Nat × Str × Nat)
  new : List (Nat × Nat × Str × Nat)
  meth : List (Nat × Nat × Str × Nat)
  fld : List (Nat × Str)
  cls : List (Nat × Str)
  free : List Str
  callK : List (Nat × Str × Nat × List Str × List MP.Pa × Nat)
structure Cf where
  N : List Str
  sc : Scope
  fn : Option Scope
  k : Nat
  T : Tb
  lam : Bool
def Cf.fnB (c : Cf) (x : Str) : Bool := match c.fn with
  | none => true
  | some s => s.names.lookup x == some .cell
def Cf.blk (c : Cf) (s : Scope) : Cf := { c with sc := relS s c.sc, fn := some s, lam := false }
def kindB (k : Option NameKind) : Bool := match k with
  | some .local => true
  | some .cell => true
  | some .free => true
  | _ => false
def visB (c : Cf) (i : Nat) (x : Str) : Bool := decide (c.N[i]? = some x) && kindB (c.sc.names.lookup x) && !(x == ("__debug__" : Str)) && !(x == ("__classdict__" : Str))
def glB (c : Cf) (x : Str) : Bool := decide (c.sc.names.lookup x = some .globalImplicit) && !(x == ("__debug__" : Str))
def setB (c : Cf) (i : Nat) (x : Str) : Bool := decide (c.N[i]? = some x) && (decide (c.sc.names.lookup x = some .local) || (decide (c.sc.names.lookup x = some .cell) && c.fnB x))
def conB (v : MP.MV) (x : Expr) : Bool := match x with
  | .Constant k _ _ => (match v, k with
    | .non, .none => true
    | .bl a, .bool b => decide (a = b)
    | .int i, .int j => decide (i = j)
    | .str s, .str y => decide (s = y.cps.toList)
    | _, _ => false)
  | _ => false
def flatEq (v w : MP.MV) : Bool := match v, w with
  | .int i, .int j => decide (i = j)
  | .str s, .str t => decide (s = t)
  | _, _ => false
def opB (o : MP.Bop) (p : Operator) : Bool := match o, p with
  | .add, .Add => true
  | .sub, .Sub => true
  | .mul, .Mult => true
  | .fdv, .FloorDiv => true
  | .mod, .Mod => true
  | .pow, .Pow => true
  | .shr, .RShift => true
  | .band, .BitAnd => true
  | _, _ => false
def copB (o : MP.Cop) (p : CmpOp) : Bool := match o, p with
  | .lt, .Lt => true
  | .le, .LtE => true
  | .gt, .Gt => true
  | .ge, .GtE => true
  | .eq, .Eq => true
  | .ne, .NotEq => true
  | .isin, .In => true
  | .notin, .NotIn => true
  | .is, .Is => true
  | .isnot, .IsNot => true
  | _, _ => false
def bltN (f : MP.Blt) : Str := match f with
  | .len => "len"
  | .abs => "abs"
  | .sum => "sum"
  | .max => "max"
  | .min => "min"
  | .all => "all"
  | .any => "any"
  | .tuple => "tuple"
  | .list => "list"
  | .listR => "list"
  | .sorted => "sorted"
  | .str => "str"
  | .int => "int"
def bltUse (f : MP.Blt) : Bool := match f with
  | .str => false
  | _ => true
def notSet : Expr → Bool
  | .Set _ _ _ => false
  | _ => true
def notSlice : Expr → Bool
  | .Slice _ _ _ _ => false
  | _ => true
def bopB (conj : Bool) (o : BoolOp) : Bool := match conj, o with
  | true, .And => true
  | false, .Or => true
  | _, _ => false
def callB (c : Cf) (k : Nat) (x : Str) : Bool := c.T.call.any fun q => q.1 == k && q.2.1 == x && decide (q.2.2 ≤ c.k)
def callKB (c : Cf) (k : Nat) (x : Str) (n : Nat) (ks : List Str) (pat : List MP.Pa) : Bool := c.T.callK.any fun q => q.1 == k && q.2.1 == x && q.2.2.1 == n && decide (q.2.2.2.1 = ks) && decide (q.2.2.2.2.1 = pat) && decide (q.2.2.2.2.2 ≤ c.k)
def newB (c : Cf) (k cl : Nat) (x : Str) : Bool := c.T.new.any fun q => q.1 == k && q.2.1 == cl && q.2.2.1 == x && decide (q.2.2.2 + 1 ≤ c.k)
def methB (c : Cf) (k cl : Nat) (x : Str) : Bool := c.T.meth.any fun q => q.1 == k && q.2.1 == cl && q.2.2.1 == x && decide (q.2.2.2 + 1 ≤ c.k)
def frB (c : Cf) (x : Str) : Bool := glB c x && c.T.free.any (· == x)
/-- lambda y: (len(y), y) -/
def lotB (ps : Arguments) (body : Expr) (sc : Scope) : Bool := match ps, body with
  | ⟨[], [⟨y, _, _⟩], none, [], [], none, []⟩, .Tuple [.Call (.Name l _) [.Name y1 _] [] _, .Name y2 _] _ _ => (y == ("lot" : Str) || y == ("_law_lot" : Str) || y == ("_law_lot_here" : Str)) && l == ("len" : Str) && y1 == y && y2 == y && decide (sc.kind = .function) && !sc.isCoroutine && !sc.isGenerator && sc.names.all (fun x => !decide (x.2 = .cell) && !decide (x.2 = .free)) &&
    decide (sc.names.lookup y = some .local) && decide (sc.names.lookup ("len" : Str) = some .globalImplicit) && !(y == ("__debug__" : Str))
  | _, _ => false
def isTup2 : Expr → Bool
  | .Tuple _ _ _ => true
  | _ => false
mutual
def mT : MP.T → Cf → Expr → Bool
  | .nm i, c, x => (match x with
    | .Name y _ => setB c i y
    | _ => false)
  | .tp l, c, x => (match x with
    | .Tuple es _ _ => mTs l c es
    | _ => false)
def mTs : List MP.T → Cf → List Expr → Bool
  | [], _, es => es.isEmpty
  | t :: ts, c, es => (match es with
    | e :: es => !isStar e && mT t c e && mTs ts c es
    | [] => false)
end
mutual
def mE : MP.E → Cf → Bool → Expr → Bool
  | .var i, c, _, x => (match x with
    | .Name y _ => visB c i y
    | _ => false)
  | .con v, _, _, x => conB v x
  | .glo _ v, c, _, x => (match x with
    | .Name y _ => glB c y && c.T.con.any (fun q => q.1 == y && flatEq q.2 v)
    | _ => false)
  | .bin o a b, c, _, x => (match x with
    | .BinOp p op q _ => opB o op && mE a c false p && mE b c false q
    | _ => false)
  | .cmp o a b, c, _, x => (match x with
    | .Compare p [op] [q] _ => copB o op && notSet q && mE a c false p && mE b c false q
    | _ => false)
  | .chn o o' a b e, c, _, x => (match x with
    | .Compare p [op, op'] [q, r] _ => copB o op && copB o' op' && notSet r && mE a c false p && mE b c false q && mE e c false r
    | _ => false)
  | .bop conj es, c, t, x => (match x with
    | .BoolOp op vs _ => bopB conj op && !vs.isEmpty && mBs es c t vs
    | _ => false)
  | .not a, c, t, x => (match x with
    | .UnaryOp .Not p _ => mE a c t p
    | _ => false)
  | .neg a, c, _, x => (match x with
    | .UnaryOp .USub p _ => mE a c false p
    | _ => false)
  | .ite e a b, c, t, x => (match x with
    | .IfExp p q r _ => !t && mE e c true p && mE a c false q && mE b c false r
    | _ => false)
  | .idx a b, c, _, x => (match x with
    | .Subscript p q _ => notSlice q && mE a c false p && mE b c false q
    | _ => false)
  | .slc k a lo hi, c, _, x => (match x with
    | .Subscript p (.Slice l u s _) _ => (match k, l, u, s with
      | .all, none, none, none => mE a c false p
      | .lo, some l, none, none => mE a c false p && mE lo c false l
      | .hi, none, some u, none => mE a c false p && mE hi c false u
      | .both, some l, some u, none => mE a c false p && mE lo c false l && mE hi c false u
      | .rev, none, none, some (.UnaryOp .USub (.Constant (.int 1) _ _) _) => mE a c false p
      | _, _, _, _ => false)
    | _ => false)
  | .tup es, c, _, x => (match x with
    | .Tuple xs _ _ => noStar xs && mEs es c xs
    | _ => false)
  | .lst es, c, _, x => (match x with
    | .List xs _ => noStar xs && mEs es c xs
    | _ => false)
  | .lstR es, c, _, x => (match x with
    | .List xs _ => noStar xs && mEs es c xs
    | _ => false)
  | .dic _ _, _, _, _ => false
  | .blt f es, c, _, x => (match x with
    | .Call (.Name n _) xs [] _ => bltUse f && (bltN f == n) && frB c n && noStar xs && !xs.isEmpty && mEs es c xs
    | _ => false)
  | .isi ty a, c, _, x => (match x with
    | .Call (.Name n _) [p, .Name m _] [] _ => (n == "isinstance") && frB c n && !isStar p && mE a c false p && (match ty with
      | .cls cl => glB c m && c.T.cls.any fun q => q.1 == cl && q.2 == m
      | _ => (match tyName ty with
        | some nm => (m == Str.ofString nm) && frB c m
        | none => false))
    | _ => false)
  | .call k _ es, c, _, x => (match x with
    | .Call (.Name n _) xs [] _ => glB c n && callB c k n && noStar xs && mEs es c xs
    | _ => false)
  | .callK k _ pat es fs, c, _, x => (match x with
    | .Call (.Name n _) xs kws _ => glB c n && callKB c k n xs.length (kwN kws) pat && kwAll kws && noStar xs && !xs.isEmpty && mEs es c xs && mKs fs c kws
    | _ => false)
  | .new k cl _ es, c, _, x => (match x with
    | .Call (.Name n _) xs [] _ => glB c n && newB c k cl n && noStar xs && mEs es c xs
    | _ => false)
  | .meth k cl _ a es, c, _, x => (match x with
    | .Call (.Attribute o m ap) xs [] ps => plainBase o && (ap.endLine == ps.line) && noStar xs && decide (xs.length < 29) && methB c k cl m && mE a c false o && mEs es c xs
    | _ => false)
  | .oeq n k cl a b, c, _, x => (match x with
    | .Compare p [op] [q] _ => (match n, op with
      | true, .NotEq => methB c k cl "__eq__" && mE a c false p && mE b c false q
      | false, .Eq => methB c k cl "__eq__" && mE a c false p && mE b c false q
      | _, _ => false)
    | _ => false)
  | .olen k cl a, c, _, x => (match x with
    | .Call (.Name n _) [p] [] _ => (n == "len") && frB c n && !isStar p && methB c k cl "__len__" && mE a c false p
    | _ => false)
  | .fld a f, c, _, x => (match x with
    | .Attribute o y _ => plainBase o && c.T.fld.any (fun q => q.1 == f && q.2 == y) && mE a c false o
    | _ => false)
  | .comp _ elt tg own ik ia ib ifs, c, _, x => (match x with
    | .ListComp y [⟨tx, it, fx, z⟩] s _ => decide (z = 0) && blkC c.N c.sc s (own.map fun i => (c.N.getD i default, i)) && tg.slots.all (fun i => own.contains i) && mT tg (c.blk s) tx && notSet it && mE elt (c.blk s) false y &&
      (match ik with
        | .seq => mE ia c false it
        | .rng1 => (match it with
          | .Call (.Name n _) [p] [] _ => (n == "range") && frB c n && !isStar p && mE ia c false p
          | _ => false)
        | .rng2 => (match it with
          | .Call (.Name n _) [p, q] [] _ => (n == "range") && frB c n && !isStar p && !isStar q && mE ia c false p && mE ib c false q
          | _ => false)
        | .enm => (match it with
          | .Call (.Name n _) [p] [] _ => (n == "enumerate") && frB c n && isTup2 tx && !isStar p && mE ia c false p
          | _ => false)
        | .zip => (match it with
          | .Call (.Name n _) [p, q] [] _ => (n == "zip") && frB c n && isTup2 tx && !isStar p && !isStar q && mE ia c false p && mE ib c false q
          | _ => false)) &&
      (match ifs, fx with
        | [], [] => true
        | [a], [p] => mE a (c.blk s) true p
        | _, _ => false)
    | _ => false)
  | .oIdx i e, c, _, x => (match x with
    | .Subscript (.Name y _) q _ => visB c i y && notSlice q && mE e c false q
    | _ => false)
  | .oDix i e, c, _, x => (match x with
    | .Subscript (.Name y _) q _ => visB c i y && notSlice q && mE e c false q
    | _ => false)
  | .oGet i k d, c, _, x => (match x with
    | .Call (.Attribute (.Name y _) m ap) [p, q] [] ps => (m == "get") && visB c i y && (ap.endLine == ps.line) && !isStar p && !isStar q && mE k c false p && mE d c false q
    | _ => false)
  | .oLen i, c, _, x => (match x with
    | .Call (.Name n _) [.Name y _] [] _ => (n == "len") && frB c n && visB c i y
    | _ => false)
  | .oIn n k i, c, t, x => (match x with
    | .Compare p [op] [.Name y _] _ => !t && (match n, op with
      | true, .NotIn => visB c i y && mE k c false p
      | false, .In => visB c i y && mE k c false p
      | _, _ => false)
    | _ => false)
  | .app a e, c, _, x => (match x with
    | .Call (.Attribute o m ap) [p] [] ps => (m == "append") && plainBase o && (ap.endLine == ps.line) && !isStar p && mE a c false o && mE e c false p
    | _ => false)
  | .exR a e, c, _, x => (match x with
    | .Call (.Attribute o m ap) [p] [] ps => (m == "extend") && plainBase o && (ap.endLine == ps.line) && !isStar p && mE a c false o && mE e c false p
    | _ => false)
  | .addR a b, c, _, x => (match x with
    | .BinOp p op q _ => opB .add op && mE a c false p && mE b c false q
    | _ => false)
  | .srtL _ e, c, _, x => (match x with
    | .Call (.Name n _) [p] [⟨some kw, .Lambda ps body sc _, _⟩] _ => (n == ("sorted" : Str)) && (kw == ("key" : Str)) && !isStar p && frB c "sorted" && c.T.free.any (· == ("len" : Str)) && c.lam && lotB ps body sc && mE e c false p
    | _ => false)
def mEs : List MP.E → Cf → List Expr → Bool
  | [], _, xs => xs.isEmpty
  | e :: es, c, xs => (match xs with
    | x :: xs => mE e c false x && mEs es c xs
    | [] => false)
def mKs : List MP.E → Cf → List Keyword → Bool
  | [], _, xs => xs.isEmpty
  | e :: es, c, xs => (match xs with
    | ⟨_, v, _⟩ :: xs => mE e c false v && mKs es c xs
    | [] => false)
def mBs : List MP.E → Cf → Bool → List Expr → Bool
  | [], _, _, xs => xs.isEmpty
  | e :: es, c, t, xs => (match xs with
    | x :: xs => mE e c t x && mBs es c t xs
    | [] => false)
end
end MPS
end

section
set_option Elab.async false
set_option linter.all false
set_option maxRecDepth 100000
set_option maxHeartbeats 2000000
set_option autoImplicit false
namespace MPS
open PySem PySem.Spec PyProof.Rows L2
structure TOk (X : Cx) (G : Gc) (Fs : List MP.Fn) (T : Tb) : Prop where
  con : ∀ x v, (x, v) ∈ T.con → ∃ u vv, X.mg x = some u ∧ RelV vv u ∧ ∀ m F, VR G m F v vv
  call : ∀ k x lv, (k, x, lv) ∈ T.call → CallOk X G lv x (Fs.getD k MP.badF)
  new : ∀ k c x lv, (k, c, x, lv) ∈ T.new → MkOk X G lv c x (Fs.getD k MP.badF)
  meth : ∀ k c m lv, (k, c, m, lv) ∈ T.meth → MethOk X G lv c m (Fs.getD k MP.badF)
  fld : ∀ f x, (f, x) ∈ T.fld → G.fn f = x ∧ ∀ c, NoAttr X.K (G.C c) x
  clo : ∀ c, ClsOk X G c
  isc : ∀ c x, (c, x) ∈ T.cls → X.mg x = some (.ref (G.C c)) ∧ PySem.W.kitOne X.K (.ref (G.C c)) (.ref (G.C c)) = some true
  free : ∀ x ∈ T.free, X.mg x = none
  callK : ∀ k x n ks pat lv, (k, x, n, ks, pat, lv) ∈ T.callK → CallKOk X G lv x n ks pat (Fs.getD k MP.badF)
structure CxOk (X : Cx) (G : Gc) (Wx : WX) (Fs : List MP.Fn) (c : Cf) : Prop where
  N : X.N = c.N
  nd : c.N.Nodup
  sc : X.env.scope = c.sc
  fn : ∀ x, c.fnB x = true → X.fn x = true
  calm : X.calm = true
  K : X.K = G.K
  room : Room c.k X.A
  tk : Takes X Wx
  t : TOk X G Fs c.T
  lam : c.lam = true → ∃ P, (P, X.env.qual ++ "<lambda>") ∈ G.T ∧ (∀ p ∈ G.T, p.1 = P → p.2 = X.env.qual ++ "<lambda>") ∧ ∃ cc, X.env.code = .ref cc ∧ LamX.TabB X.base X.mg cc P
theorem TOk.blk {X Y : Cx} {G : Gc} {Fs : List MP.Fn} {T : Tb} (e1 : Y.prog = X.prog) (e2 : Y.w = X.w) (e3 : Y.K = X.K) (e4 : Y.mg = X.mg) (e5 : Y.base = X.base) (h : TOk X G Fs T) : TOk Y G Fs T := by
  obtain ⟨p, w, K, mg, base, A, N, s0, H0, env, outer, stack, ex, fn, calm, pn, xe⟩ := X
  obtain ⟨p', w', K', mg', base', A', N', s0', H0', env', outer', stack', ex', fn', calm', pn', xe'⟩ := Y
  simp only at e1 e2 e3 e4 e5
  subst e1 e2 e3 e4 e5
  exact ⟨h.con, fun k x lv m => ⟨(h.call k x lv m).ex⟩, fun k c x lv m => ⟨(h.new k c x lv m).ex⟩, fun k c x lv m => ⟨(h.meth k c x lv m).ex, (h.meth k c x lv m).cls, (h.meth k c x lv m).nof⟩, h.fld,
    fun c => ⟨(h.clo c).cls, (h.clo c).cla, (h.clo c).hn, (h.clo c).htk, (h.clo c).hm, (h.clo c).ne⟩, h.isc, h.free, fun k x n ks pat lv m => ⟨(h.callK k x n ks pat lv m).ex⟩⟩
def Wx0 : WX := fun _ _ _ _ => False
section
variable {X : Cx} {G : Gc} {Wx : WX} {Fs : List MP.Fn} {c : Cf} {i : Nat} {x : Str}
theorem CxOk.blk (h : CxOk X G Wx Fs c) (s : Shared) (H : Hp) (sc : Scope) (C : Addr) (cl : List (Str × Addr)) (fp : List Addr) : CxOk (X.blk s H sc (compEnvC sc cl C X.env) fp) G Wx0 Fs (c.blk sc) :=
  ⟨h.N, h.nd, by show relS sc X.env.scope = relS sc c.sc; rw [h.sc], fun x e => e, h.calm, h.K, h.room, takes0, TOk.blk (X := X) (T := c.T) rfl rfl rfl rfl rfl h.t, fun e => by cases e⟩
theorem CxOk.vis (h : CxOk X G Wx Fs c) (e : visB c i x = true) : VarOk X i x := by
  unfold visB at e
  simp only [Bool.and_eq_true, decide_eq_true_eq, Bool.not_eq_true'] at e
  obtain ⟨⟨⟨e1, e2⟩, e3⟩, e4⟩ := e
  refine ⟨by rw [h.N]; exact e1, ?_, e3, e4⟩
  unfold Vis
  rw [h.sc]
  cases hk : c.sc.names.lookup x with
  | none => rw [hk] at e2; cases e2
  | some k =>
    rw [hk] at e2
    cases k <;> first | (cases e2; done) | exact .inl rfl | exact .inr (.inl rfl) | exact .inr (.inr rfl)
theorem CxOk.gl (h : CxOk X G Wx Fs c) (e : glB c x = true) : Gl X x ∧ (x == ("__debug__" : Str)) = false := by
  unfold glB at e
  simp only [Bool.and_eq_true, decide_eq_true_eq, Bool.not_eq_true'] at e
  refine ⟨?_, e.2⟩
  show X.env.scope.names.lookup x = _
  rw [h.sc]
  exact e.1
theorem CxOk.fr (h : CxOk X G Wx Fs c) (e : frB c x = true) : Gl X x ∧ X.mg x = none ∧ (x == ("__debug__" : Str)) = false := by
  unfold frB at e
  simp only [Bool.and_eq_true, List.any_eq_true] at e
  obtain ⟨e1, y, e2, e3⟩ := e
  have e4 : y = x := by simpa using e3
  subst e4
  exact ⟨(h.gl e1).1, h.t.free y e2, (h.gl e1).2⟩
theorem CxOk.set (h : CxOk X G Wx Fs c) (e : setB c i x = true) : X.N[i]? = some x ∧ Loc X.env.scope x ∧ (X.fn x = true ∨ X.env.scope.names.lookup x = some .local) := by
  unfold setB at e
  simp only [Bool.and_eq_true, decide_eq_true_eq, Bool.or_eq_true] at e
  obtain ⟨e1, e2⟩ := e
  refine ⟨by rw [h.N]; exact e1, ?_, ?_⟩
  · unfold L2.Loc
    rw [h.sc]
    rcases e2 with e | e
    · exact .inl e
    · exact .inr e.1
  · rw [h.sc]
    rcases e2 with e | e
    · exact .inr e
    · exact .inl (h.fn _ e.2)
theorem CxOk.nd' (h : CxOk X G Wx Fs c) : X.N.Nodup := by rw [h.N]; exact h.nd
theorem CxOk.u1 (h : CxOk X G Wx Fs c) : X.A.units + 1 < cLine := by have := h.room.units; omega
/-! targets -/
mutual
theorem mT_ok : ∀ (t : MP.T) (c : Cf) (x : Expr) (X : Cx) (Wx : WX), CxOk X G Wx Fs c → mT t c x = true → PG X x (TGv G t)
  | .nm i, c, x, X, Wx, h, e => by
    unfold mT at e
    split at e
    · obtain ⟨h1, h2, h3⟩ := h.set e
      exact T_nm h.nd' h1 h2 h3
    · cases e
  | .tp l, c, x, X, Wx, h, e => by
    unfold mT at e
    split at e
    · obtain ⟨h1, h2, h3⟩ := mTs_ok l c _ X Wx h e
      exact T_tp h.K h.calm h2 h3 h1
    · cases e
theorem mTs_ok : ∀ (t : List MP.T) (c : Cf) (x : List Expr) (X : Cx) (Wx : WX), CxOk X G Wx Fs c → mTs t c x = true → PGs X x (TGsv G t) ∧ noStar x = true ∧ x.length = t.length
  | [], c, x, X, Wx, h, e => by
    unfold mTs at e
    cases x with
    | nil => exact ⟨Ts_nil, rfl, rfl⟩
    | cons _ _ => cases e
  | t :: ts, c, x, X, Wx, h, e => by
    unfold mTs at e
    split at e
    · rename_i y ys
      simp only [Bool.and_eq_true, Bool.not_eq_true'] at e
      obtain ⟨⟨e1, e2⟩, e3⟩ := e
      obtain ⟨h1, h2, h3⟩ := mTs_ok ts c _ X Wx h e3
      refine ⟨Ts_cons e1 (mT_ok t c _ X Wx h e2) h1, ?_, congrArg Nat.succ h3⟩
      unfold noStar at h2 ⊢
      simp only [List.all_cons, Bool.and_eq_true, Bool.not_eq_true']
      exact ⟨e1, h2⟩
    · cases e
end
/-! operators -/
theorem bin_ok {o : MP.Bop} {p : Operator} (hK : X.K = G.K) (e : opB o p = true) : ∃ r, OpR X (binaryOp p) r ∧ OpOk G r (fun h x y => MP.binV h o x y) := by
  cases o <;> cases p <;> first | (cases e; done) | skip
  · exact ⟨_, op_addAll, by rw [hK]; exact add_ok⟩
  · exact ⟨_, op_sub, sub_ok⟩
  · exact ⟨_, op_mulAll, mul_ok⟩
  · exact ⟨_, op_fdiv, fdv_ok⟩
  · exact ⟨_, op_mod, mod_ok⟩
  · exact ⟨_, op_pow, pow_ok⟩
  · exact ⟨_, op_shr, shr_ok⟩
  · exact ⟨_, op_and, band_ok⟩
theorem cop_ok {o : MP.Cop} {p : CmpOp} (hK : X.K = G.K) (hu : X.A.units + 64 < cLine) (e : copB o p = true) : ∃ r, OpR X (compareOp p) r ∧ OpOk G r (fun h x y => (MP.cmpV h o x y).map .bl) := by
  cases o <;> cases p <;> first | (cases e; done) | skip
  · exact ⟨_, op_lt, lt_ok⟩
  · exact ⟨_, op_le, le_ok⟩
  · exact ⟨_, op_gt, gt_ok⟩
  · exact ⟨_, op_ge, ge_ok⟩
  · exact ⟨_, op_eqD hu, by rw [hK]; exact eqD_ok⟩
  · exact ⟨_, op_neD hu, by rw [hK]; exact neD_ok⟩
  · exact ⟨_, op_inA, by rw [hK]; exact in_ok⟩
  · exact ⟨_, op_notinA, by rw [hK]; exact notin_ok⟩
  · exact ⟨_, op_isN.or op_isBl, is_ok⟩
  · exact ⟨_, op_notN.or op_notBl, isnot_ok⟩
theorem mark_ok {p : CmpOp} {x : Expr} (h : notSet x = true) : behindInMarks p x = false := by
  cases x <;> first | rfl | (cases h)
def Sd (X : Cx) (G : Gc) (W : EW) (t : Bool) (x : Expr) (f : Ef) : Prop := match t with
  | true => PT X x (TTv G W f)
  | false => PE X x (TEv G W f)
def plainT : Expr → Bool
  | .UnaryOp .Not _ _ => false
  | .BoolOp _ _ _ => false
  | .IfExp _ _ _ _ => false
  | .Compare _ _ _ _ => false
  | _ => true
theorem plain_is {x : Expr} {env : Env} (h : plainT x = true) : ∀ whole, isTrue x env whole = (do let v ← whole; standAt x.pos; holding [v] (truthy v)) := by
  intro whole
  cases x <;> first | rfl | (cases h; done) | skip
  rename_i op a p
  cases op <;> first | rfl | (cases h)
theorem Sd.of {W : EW} {t : Bool} {x : Expr} {f : Ef} (hp : plainT x = true) (h : PE X x (TEv G W f)) : Sd X G W t x f := by
  cases t with
  | false => exact h
  | true => exact t_of (t := TEv G W f) h (plain_is hp)
/-! built-ins -/
theorem blt_ok {f : MP.Blt} {e : Expr} {es : List Expr} {p pos : Pos} {W : EW} {fs : Efs} (hK : X.K = G.K) (hc : X.calm = true) (hu : bltUse f = true) (hg : Gl X (bltN f)) (hm : X.mg (bltN f) = none) (hd : (bltN f == ("__debug__" : Str)) = false) (hs : noStar (e :: es) = true) (ha : PA X (e :: es) (TAv G W fs)) :
    PE X (.Call (.Name (bltN f) p) (e :: es) [] pos) (TEv G W (fun rho h => (fs rho h).bind fun xs h1 => MP.bltV f xs h1)) := by
  have h1 := starEach_cons (env := X.env) (es := es) (noStar_cons hs).1
  have h2 := notStar_any (env := X.env) (pos := pos) es (noStar_cons hs).2
  cases f <;> first | (cases hu; done) | skip
  · have hr : CallR X (.builtin "len") (rLen X.K) := call_len
    rw [hK] at hr
    exact sound_cb len_ok (pe_callB hr hg hm rfl ha (by decide) hd h1 h2)
  · exact sound_cb abs_ok (pe_callB call_abs hg hm rfl ha (by decide) hd h1 h2)
  · have hr := cr_sum hc
    rw [hK] at hr
    exact sound_cb sum_ok (pe_callB hr hg hm rfl ha (by decide) hd h1 h2)
  · exact sound_cb max_ok (pe_callB (call_max2 hc) hg hm rfl ha (by decide) hd h1 h2)
  · have hr : CallR X (.builtin "min") (rMinAll X.K) := call_or (call_min2 hc) (cr_min hc)
    rw [hK] at hr
    exact sound_cb min_ok (pe_callB hr hg hm rfl ha (by decide) hd h1 h2)
  · have hr := cr_all hc
    rw [hK] at hr
    exact sound_cb all_ok (pe_callB hr hg hm rfl ha (by decide) hd h1 h2)
  · have hr := cr_any hc
    rw [hK] at hr
    exact sound_cb any_ok (pe_callB hr hg hm rfl ha (by decide) hd h1 h2)
  · have hr := call_tuple_of (X := X)
    rw [hK] at hr
    exact sound_cb tuple_ok (pe_callTy hr hg hm rfl ha (by decide) hd h1 h2)
  · have hr := call_list_of (X := X)
    rw [hK] at hr
    exact sound_cb list_ok (pe_callTy hr hg hm rfl ha (by decide) hd h1 h2)
  · have hr := call_list_of (X := X)
    rw [hK] at hr
    exact sound_cb listR_ok (pe_callTy hr hg hm rfl ha (by decide) hd h1 h2)
  · have hr := cr_sortedI (X := X)
    rw [hK] at hr
    exact sound_cb sorted_ok (pe_callB hr hg hm rfl ha (by decide) hd h1 h2)
  · exact sound_cb int_ok (pe_callTy call_int1 hg hm rfl ha (by decide) hd h1 h2)
end
end MPS
end

section
set_option Elab.async false
set_option linter.all false
set_option maxRecDepth 100000
set_option maxHeartbeats 4000000
set_option autoImplicit false
namespace MPS
open PySem PySem.Spec PyProof.Rows L2
section
variable {X : Cx} {G : Gc} {Wx : WX} {Fs : List MP.Fn} {c : Cf} {i : Nat} {x : Str}
theorem con_ok {v : MP.MV} {e : Expr} {W : EW} (h : conB v e = true) : PE X e (TEv G W (fun _ h => .ok v h)) ∧ plainT e = true := by
  cases e <;> first | (cases h; done) | skip
  rename_i k n p
  refine ⟨?_, rfl⟩
  cases k <;> cases v <;> simp only [conB, decide_eq_true_eq] at h <;> first | (cases h; done) | skip
  · exact sound_tC pe_non fun _ _ => .non
  · subst h
    exact sound_tC pe_bl fun _ _ => .bl _
  · subst h
    exact sound_tC pe_int fun _ _ => .int _
  · rename_i y s
    have e : y = ⟨s.toArray⟩ := by
      rw [h]
    rw [e]
    exact sound_tC pe_str fun _ _ => .str _
theorem flatEq_ok {v w : MP.MV} (h : flatEq v w = true) : v = w := by
  cases v <;> cases w <;> simp only [flatEq, decide_eq_true_eq] at h <;> first | (cases h; done) | (rw [h])
theorem lotB_ok {ps : Arguments} {body : Expr} {sc : Scope} (e : lotB ps body sc = true) : ∃ y, LotL y sc body ∧ (∀ env, defaultsOf ps env = ([], [])) ∧ ∀ (q : Str) (pm cv ctv v : Value), bindArgs (PySem.W.kla_fn "<lambda>" q ps body sc [] pm cv ctv) ⟨[v], []⟩ = pure [(y, v)] := by
  unfold lotB at e
  split at e
  · rename_i y an p l p1 y1 p2 p3 y2 p4 k p5
    simp only [Bool.and_eq_true, Bool.not_eq_true', beq_iff_eq, decide_eq_true_eq, List.all_eq_true, decide_eq_false_iff_not] at e
    obtain ⟨⟨⟨⟨⟨⟨⟨⟨⟨⟨e0, e1⟩, e2⟩, e3⟩, e4⟩, e5⟩, e6⟩, e7⟩, e8⟩, e9⟩, e10⟩ := e
    subst e1 e2 e3
    refine ⟨_, ⟨e4, e5, e6, fun x hx => (e7 x hx).1, fun x hx => (e7 x hx).2, e8, e9, ⟨_, _, _, _, _, _, rfl⟩, e10⟩, fun env => rfl, fun q pm cv ctv v => ?_⟩
    simp only [Bool.or_eq_true, beq_iff_eq] at e0
    rcases e0 with (e0 | e0) | e0 <;> (subst e0; rfl)
  · cases e
theorem callB_ok (h : CxOk X G Wx Fs c) {k : Nat} (e : callB c k x = true) : ∃ lv, CallOk X G lv x (Fs.getD k MP.badF) ∧ Room lv X.A := by
  unfold callB at e
  simp only [List.any_eq_true, Bool.and_eq_true, decide_eq_true_eq, beq_iff_eq] at e
  obtain ⟨⟨a, b, d⟩, h1, ⟨h2, h3⟩, h4⟩ := e
  subst h2 h3
  exact ⟨d, h.t.call _ _ _ h1, h.room.mono h4⟩
theorem callKB_ok (h : CxOk X G Wx Fs c) {k n : Nat} {ks : List Str} {pat : List MP.Pa} (e : callKB c k x n ks pat = true) : ∃ lv, CallKOk X G lv x n ks pat (Fs.getD k MP.badF) ∧ Room lv X.A := by
  unfold callKB at e
  simp only [List.any_eq_true, Bool.and_eq_true, decide_eq_true_eq, beq_iff_eq] at e
  obtain ⟨⟨a, b, d, u, v, l⟩, h1, ⟨⟨⟨⟨h2, h3⟩, h4⟩, h5⟩, h6⟩, h7⟩ := e
  subst h2 h3 h4 h5 h6
  exact ⟨l, h.t.callK _ _ _ _ _ _ h1, h.room.mono h7⟩
theorem evs_len {Fs : List MP.Fn} : ∀ (es : List MP.E) (rho : List MP.SV) (h : List MP.O) (xs : List MP.MV) (h' : List MP.O), MP.evs Fs es rho h = .ok xs h' → xs.length = es.length
  | [], rho, h, xs, h', e => by
    have e : MP.R.ok ([] : List MP.MV) h = .ok xs h' := e
    cases e
    rfl
  | d :: es, rho, h, xs, h', e => by
    have e : ((MP.ev Fs d rho h).bind fun x h1 => (MP.evs Fs es rho h1).bind fun xs h2 => .ok (x :: xs) h2) = .ok xs h' := e
    cases e1 : MP.ev Fs d rho h with
    | ok x h1 =>
      rw [e1] at e
      have e : ((MP.evs Fs es rho h1).bind fun xs h2 => MP.R.ok (x :: xs) h2) = .ok xs h' := e
      cases e2 : MP.evs Fs es rho h1 with
      | ok ys h2 =>
        rw [e2] at e
        cases e
        rw [List.length_cons, List.length_cons, evs_len es rho h1 ys _ e2]
      | ex z h2 =>
        rw [e2] at e
        cases e
      | bad =>
        rw [e2] at e
        cases e
    | ex z h1 =>
      rw [e1] at e
      cases e
    | bad =>
      rw [e1] at e
      cases e
theorem mEs_len : ∀ (es : List MP.E) (c : Cf) (xs : List Expr), mEs es c xs = true → es.length = xs.length
  | [], c, xs, e => by
    unfold mEs at e
    rw [List.isEmpty_iff.mp e]
    rfl
  | d :: es, c, xs, e => by
    unfold mEs at e
    cases xs with
    | nil => cases e
    | cons x xs =>
      simp only [Bool.and_eq_true] at e
      rw [List.length_cons, List.length_cons, mEs_len es c xs e.2]
theorem mKs_len : ∀ (es : List MP.E) (c : Cf) (xs : List Keyword), mKs es c xs = true → kwAll xs = true → es.length = (kwN xs).length
  | [], c, xs, e, ha => by
    unfold mKs at e
    rw [List.isEmpty_iff.mp e]
    rfl
  | d :: es, c, xs, e, ha => by
    unfold mKs at e
    cases xs with
    | nil => cases e
    | cons x xs =>
      obtain ⟨a, v, p⟩ := x
      cases a with
      | none => cases ha
      | some n =>
        have e : (mE d c false v && mKs es c xs) = true := e
        simp only [Bool.and_eq_true] at e
        have ih := mKs_len es c xs e.2 ha
        show es.length + 1 = (kwN xs).length + 1
        rw [ih]
theorem newB_ok (h : CxOk X G Wx Fs c) {k cl : Nat} (e : newB c k cl x = true) : ∃ lv, MkOk X G lv cl x (Fs.getD k MP.badF) ∧ Room (lv + 1) X.A := by
  unfold newB at e
  simp only [List.any_eq_true, Bool.and_eq_true, decide_eq_true_eq, beq_iff_eq] at e
  obtain ⟨⟨a, b, d, l⟩, h1, ⟨⟨h2, h3⟩, h5⟩, h4⟩ := e
  subst h2 h3 h5
  exact ⟨l, h.t.new _ _ _ _ h1, h.room.mono h4⟩
theorem methB_ok (h : CxOk X G Wx Fs c) {k cl : Nat} (e : methB c k cl x = true) : ∃ lv, MethOk X G lv cl x (Fs.getD k MP.badF) ∧ Room (lv + 1) X.A := by
  unfold methB at e
  simp only [List.any_eq_true, Bool.and_eq_true, decide_eq_true_eq, beq_iff_eq] at e
  obtain ⟨⟨a, b, d, l⟩, h1, ⟨⟨h2, h3⟩, h5⟩, h4⟩ := e
  subst h2 h3 h5
  exact ⟨l, h.t.meth _ _ _ _ h1, h.room.mono h4⟩
theorem notSlice_ok {e : Expr} : notSlice e = true → (match e with | .Slice _ _ _ _ => false | _ => true) = true := by
  intro h
  cases e <;> first | rfl | (cases h)
theorem notSlice_no {e : Expr} (h : notSlice e = true) : NoSl e := by
  intro ov iv
  cases e <;> first | rfl | (cases h)
theorem fset_ok {e : Expr} {env : Env} (h : notSet e = true) (v : Value) : foldedSetIterable e env v = pure v := by
  cases e <;> first | rfl | (cases h)
theorem ap_line {a b : Pos} (h : (a.endLine == b.line) = true) : (a.endLine == b.line) = true := h
theorem m2_of {y m : Str} {p ap ps : Pos} {a b : Expr} (hl : (ap.endLine == ps.line) = true) (h1 : isStar a = false) (h2 : isStar b = false) : M2 X (.Name y p) m ap a b ps := by
  have hn : noStar [a, b] = true := by simp [noStar, h1, h2]
  exact ⟨rfl, few_of hn (by simp), hl, by rw [star2 h1 h2]; rfl⟩
theorem bop_is {conj : Bool} {o : BoolOp} (h : bopB conj o = true) : o = bopOf conj := by
  cases conj <;> cases o <;> first | rfl | (cases h)
theorem comp_ok {live : Bool} {elt : MP.E} {tg : MP.T} {own : List Nat} {ifs : List MP.E} {x tx it : Expr} {fx : List Expr} {s : Scope} {pos : Pos} {fs : Es} (h : CxOk X G Wx Fs c)
    (e2 : blkC c.N c.sc s (own.map fun i => (c.N.getD i default, i)) = true) (e3 : tg.slots.all (fun i => own.contains i) = true) (e5 : notSet it = true)
    (hT : ∀ (X : Cx) (Wx : WX), CxOk X G Wx Fs (c.blk s) → PG X tx (TGv G tg)) (hE : ∀ (X : Cx) (Wx : WX), CxOk X G Wx Fs (c.blk s) → PE X x (TEv G (WOf G Wx) (fun rho h => MP.ev Fs elt rho h)))
    (hi : PI X tx it (TIv G (WOf G Wx) fs)) (hF : ∀ (X : Cx) (Wx : WX), CxOk X G Wx Fs (c.blk s) → PTs X fx (TTv G (WOf G Wx) (fun rho h => MP.evB Fs true ifs rho h))) :
    PE X (.ListComp x [⟨tx, it, fx, 0⟩] s pos) (TEv G (WOf G Wx) (fun rho h => (fs rho h).bind fun src h3 => (MP.compLoop src (MP.compStep tg (MP.wipe rho own) (fun r h4 => MP.evB Fs true ifs r h4) (fun r h4 => MP.ev Fs elt r h4)) (src.len h3 + 1) 0 h3).bind fun ys h7 => MP.compEnd live ys h7)) := by
  have hown : (own.map fun i => (c.N.getD i default, i)).map (·.2) = own := by
    rw [List.map_map]
    exact List.map_id' _
  have q := sound_comp (W := WOf G Wx) (W' := WOf G Wx0) (live := live) (pos := pos) (own := own.map fun i => (c.N.getD i default, i)) (t := tg) (fs := fs) (ft := fun r h4 => MP.evB Fs true ifs r h4) (fe := fun r h4 => MP.ev Fs elt r h4)
    (fun i hi => by rw [hown]; have := List.all_eq_true.mp e3 i hi; simpa using this) h.calm h.nd' hi (by rw [h.N, h.sc]; exact e2)
    (fun s' H C cl fp => hT _ _ (h.blk s' H s C cl fp)) (fun s' H C cl fp => hF _ _ (h.blk s' H s C cl fp)) (fun s' H C cl fp => hE _ _ (h.blk s' H s C cl fp)) (fun v => fset_ok e5 v)
  rw [hown] at q
  exact q
mutual
theorem mE_ok : ∀ (e : MP.E) (c : Cf) (t : Bool) (x : Expr) (X : Cx) (Wx : WX), CxOk X G Wx Fs c → mE e c t x = true → Sd X G (WOf G Wx) t x (fun rho h => MP.ev Fs e rho h)
  | .var i, c, t, x, X, Wx, h, e => by
    unfold mE at e
    split at e
    · obtain ⟨h1, h2, h3, h4⟩ := h.vis e
      exact Sd.of rfl (sound_var h1 h2 h3 h4)
    · cases e
  | .con v, c, t, x, X, Wx, h, e => by
    unfold mE at e
    obtain ⟨h1, h2⟩ := con_ok (X := X) (G := G) (W := WOf G Wx) e
    exact Sd.of h2 h1
  | .glo k v, c, t, x, X, Wx, h, e => by
    unfold mE at e
    split at e
    · simp only [Bool.and_eq_true, List.any_eq_true, beq_iff_eq] at e
      obtain ⟨e1, ⟨y, v'⟩, e2, e3, e4⟩ := e
      simp only at e3 e4
      subst e3
      rw [flatEq_ok e4] at e2
      obtain ⟨h1, h2⟩ := h.gl e1
      obtain ⟨u, vv, k1, k2, k3⟩ := h.t.con _ _ e2
      exact Sd.of rfl (sound_tC (pe_glob h1 k1 k2 h2) k3)
    · cases e
  | .bin o a b, c, t, x, X, Wx, h, e => by
    unfold mE at e
    split at e
    · simp only [Bool.and_eq_true] at e
      obtain ⟨⟨e1, e2⟩, e3⟩ := e
      obtain ⟨r, k1, k2⟩ := bin_ok h.K e1
      exact Sd.of rfl (sound_bin k1 k2 (mE_ok a c false _ X Wx h e2) (mE_ok b c false _ X Wx h e3))
    · cases e
  | .cmp o a b, c, t, x, X, Wx, h, e => by
    unfold mE at e
    split at e
    · simp only [Bool.and_eq_true] at e
      obtain ⟨⟨⟨e1, e2⟩, e3⟩, e4⟩ := e
      obtain ⟨r, k1, k2⟩ := cop_ok h.K h.room.units e1
      cases t with
      | false => exact sound_cmp k1 k2 (mE_ok a c false _ X Wx h e3) (mE_ok b c false _ X Wx h e4) (mark_ok e2)
      | true => exact t_cmp k1 k2 (mE_ok a c false _ X Wx h e3) (mE_ok b c false _ X Wx h e4) (mark_ok e2)
    · cases e
  | .chn o o' a b d, c, t, x, X, Wx, h, e => by
    unfold mE at e
    split at e
    · simp only [Bool.and_eq_true] at e
      obtain ⟨⟨⟨⟨⟨e1, e2⟩, e3⟩, e4⟩, e5⟩, e6⟩ := e
      obtain ⟨r, k1, k2⟩ := cop_ok h.K h.room.units e1
      obtain ⟨r', k1', k2'⟩ := cop_ok h.K h.room.units e2
      have q1 := mE_ok a c false _ X Wx h e4
      have q2 := mE_ok b c false _ X Wx h e5
      have q3 := mE_ok d c false _ X Wx h e6
      cases t with
      | false => exact sound_chn k2 k2' (pe_chain k1 k1' q1 q2 q3 (by show behindInMarks _ _ = false; exact mark_ok e3))
      | true => exact t_chn k2 k2' (pt_chain k1 k1' q1 q2 q3 (by show behindInMarks _ _ = false; exact mark_ok e3))
    · cases e
  | .bop conj es, c, t, x, X, Wx, h, e => by
    unfold mE at e
    split at e
    · simp only [Bool.and_eq_true, Bool.not_eq_true', List.isEmpty_eq_false_iff] at e
      obtain ⟨⟨e1, e2⟩, e3⟩ := e
      rw [bop_is e1]
      have q := mBs_ok es c t _ X Wx h e3 conj e2
      cases t with
      | false => exact (q _).1 rfl
      | true => exact ((q _).2 rfl).pt
    · cases e
  | .not a, c, t, x, X, Wx, h, e => by
    unfold mE at e
    split at e
    · have q := mE_ok a c t _ X Wx h e
      cases t with
      | false => exact sound_not q
      | true => exact t_not q
    · cases e
  | .neg a, c, t, x, X, Wx, h, e => by
    unfold mE at e
    split at e
    · exact Sd.of rfl (sound_neg (mE_ok a c false _ X Wx h e))
    · cases e
  | .ite d a b, c, t, x, X, Wx, h, e => by
    unfold mE at e
    split at e
    · simp only [Bool.and_eq_true, Bool.not_eq_true'] at e
      obtain ⟨⟨⟨e1, e2⟩, e3⟩, e4⟩ := e
      subst e1
      exact sound_ite (mE_ok d c true _ X Wx h e2) (mE_ok a c false _ X Wx h e3) (mE_ok b c false _ X Wx h e4)
    · cases e
  | .idx a b, c, t, x, X, Wx, h, e => by
    unfold mE at e
    split at e
    · simp only [Bool.and_eq_true] at e
      obtain ⟨⟨e1, e2⟩, e3⟩ := e
      exact Sd.of rfl (sound_idx (notSlice_ok e1) (mE_ok a c false _ X Wx h e2) (mE_ok b c false _ X Wx h e3) h.K)
    · cases e
  | .slc k a lo hi, c, t, x, X, Wx, h, e => by
    unfold mE at e
    split at e
    · split at e
      · exact Sd.of rfl (sound_slc .all (by simp) h.K (mE_ok a c false _ X Wx h e) (sound_po0 (fa := fun rho h => MP.ev Fs lo rho h)) (sound_po0 (fa := fun rho h => MP.ev Fs hi rho h)))
      · simp only [Bool.and_eq_true] at e
        exact Sd.of rfl (sound_slc .lo (by simp) h.K (mE_ok a c false _ X Wx h e.1) (sound_po1 (mE_ok lo c false _ X Wx h e.2)) (sound_po0 (fa := fun rho h => MP.ev Fs hi rho h)))
      · simp only [Bool.and_eq_true] at e
        exact Sd.of rfl (sound_slc .hi (by simp) h.K (mE_ok a c false _ X Wx h e.1) (sound_po0 (fa := fun rho h => MP.ev Fs lo rho h)) (sound_po1 (mE_ok hi c false _ X Wx h e.2)))
      · simp only [Bool.and_eq_true] at e
        exact Sd.of rfl (sound_slc .both (by simp) h.K (mE_ok a c false _ X Wx h e.1.1) (sound_po1 (mE_ok lo c false _ X Wx h e.1.2)) (sound_po1 (mE_ok hi c false _ X Wx h e.2)))
      · exact Sd.of rfl (sound_rev h.K (mE_ok a c false _ X Wx h e) (fun rho h => MP.ev Fs lo rho h) (fun rho h => MP.ev Fs hi rho h))
      · cases e
    · cases e
  | .tup es, c, t, x, X, Wx, h, e => by
    unfold mE at e
    split at e
    · simp only [Bool.and_eq_true] at e
      exact Sd.of rfl (sound_tup (mEs_ok es c _ X Wx h e.2 e.1))
    · cases e
  | .lst es, c, t, x, X, Wx, h, e => by
    unfold mE at e
    split at e
    · simp only [Bool.and_eq_true] at e
      exact Sd.of rfl (sound_lst (mEs_ok es c _ X Wx h e.2 e.1))
    · cases e
  | .lstR es, c, t, x, X, Wx, h, e => by
    unfold mE at e
    split at e
    · simp only [Bool.and_eq_true] at e
      exact Sd.of rfl (sound_lstR (mEs_ok es c _ X Wx h e.2 e.1))
    · cases e
  | .dic _ _, c, t, x, X, Wx, h, e => by
    unfold mE at e
    cases e
  | .blt f es, c, t, x, X, Wx, h, e => by
    unfold mE at e
    split at e
    · simp only [Bool.and_eq_true, Bool.not_eq_true', List.isEmpty_eq_false_iff, beq_iff_eq] at e
      obtain ⟨⟨⟨⟨⟨e1, e2⟩, e3⟩, e4⟩, e5⟩, e6⟩ := e
      subst e2
      obtain ⟨k1, k2, k3⟩ := h.fr e3
      have q := mEs_ok es c _ X Wx h e6 e4
      rename_i n p xs pos
      cases xs with
      | nil => exact absurd rfl e5
      | cons y ys => exact Sd.of rfl (blt_ok h.K h.calm e1 k1 k2 k3 e4 q)
    · cases e
  | .isi ty a, c, t, x, X, Wx, h, e => by
    unfold mE at e
    split at e
    · simp only [Bool.and_eq_true, Bool.not_eq_true', beq_iff_eq] at e
      obtain ⟨⟨⟨⟨e1, e2⟩, e3⟩, e4⟩, e5⟩ := e
      subst e1
      obtain ⟨k1, k2, k3⟩ := h.fr e2
      have q := mE_ok a c false _ X Wx h e4
      cases ty with
      | cls cl =>
        simp only [Bool.and_eq_true, List.any_eq_true, beq_iff_eq] at e5
        obtain ⟨e6, ⟨cl', y⟩, e7, e8, e9⟩ := e5
        simp only at e8 e9
        subst e8 e9
        obtain ⟨j1, j2⟩ := h.gl e6
        obtain ⟨j3, j4⟩ := h.t.isc _ _ e7
        exact Sd.of rfl (sound_isiC h.K rfl (h.t.clo _) j4 k1 k2 e3 j1 j3 j2 q)
      | _ =>
        simp only [tyName, Bool.and_eq_true, beq_iff_eq] at e5
        obtain ⟨e6, e7⟩ := e5
        subst e6
        obtain ⟨j1, j2, j3⟩ := h.fr e7
        exact Sd.of rfl (sound_isi h.K rfl k1 k2 e3 j1 j2 rfl (by decide) j3 q)
    · cases e
  | .call k p es, c, t, x, X, Wx, h, e => by
    unfold mE at e
    split at e
    · simp only [Bool.and_eq_true] at e
      obtain ⟨⟨⟨e1, e2⟩, e3⟩, e4⟩ := e
      obtain ⟨k1, k2⟩ := h.gl e1
      obtain ⟨lv, C, hr⟩ := callB_ok h e2
      have q := mEs_ok es c _ X Wx h e4 e3
      rename_i n px xs pos
      cases xs with
      | nil =>
        cases es with
        | nil => exact Sd.of rfl (sound_call0 (p := p) C hr h.tk k1 k2)
        | cons _ _ => unfold mEs at e4; cases e4
      | cons y ys => exact Sd.of rfl (sound_call (p := p) C hr h.tk k1 k2 e3 q)
    · cases e
  | .callK k p pat es fs, c, t, x, X, Wx, h, e => by
    unfold mE at e
    split at e
    · simp only [Bool.and_eq_true] at e
      obtain ⟨⟨⟨⟨⟨⟨e1, e2⟩, e3⟩, e4⟩, e5⟩, e6⟩, e7⟩ := e
      obtain ⟨k1, k2⟩ := h.gl e1
      obtain ⟨lv, C, hr⟩ := callKB_ok h e2
      have q := mEs_ok es c _ X Wx h e6 e4
      have qk := mKs_ok fs c _ X Wx h e7
      rename_i n px xs kws pos
      cases xs with
      | nil => cases e5
      | cons y ys =>
        have l1 := mEs_len es c _ e6
        exact Sd.of rfl (sound_callK (p := p) C hr h.tk k1 k2 e4 e3 rfl (fun rho h xs h' z => (evs_len es rho h xs h' z).trans l1) (fun rho h xs h' z => (evs_len fs rho h xs h' z).trans (mKs_len fs c kws e7 e3)) q qk)
    · cases e
  | .new k cl p es, c, t, x, X, Wx, h, e => by
    unfold mE at e
    split at e
    · simp only [Bool.and_eq_true] at e
      obtain ⟨⟨⟨e1, e2⟩, e3⟩, e4⟩ := e
      obtain ⟨k1, k2⟩ := h.gl e1
      obtain ⟨lv, C, hr⟩ := newB_ok h e2
      have q := mEs_ok es c _ X Wx h e4 e3
      rename_i n px xs pos
      cases xs with
      | nil =>
        cases es with
        | nil => exact Sd.of rfl (sound_new0 (p := p) C hr h.tk k1 k2)
        | cons _ _ => unfold mEs at e4; cases e4
      | cons y ys => exact Sd.of rfl (sound_new (p := p) C hr h.tk k1 k2 e3 q)
    · cases e
  | .meth k cl p a es, c, t, x, X, Wx, h, e => by
    unfold mE at e
    split at e
    · simp only [Bool.and_eq_true, decide_eq_true_eq] at e
      obtain ⟨⟨⟨⟨⟨⟨e1, e2⟩, e3⟩, e4⟩, e5⟩, e6⟩, e7⟩ := e
      obtain ⟨lv, C, hr⟩ := methB_ok h e5
      replace hr := hr.mono (Nat.le_succ _)
      have q0 := mE_ok a c false _ X Wx h e6
      have q := mEs_ok es c _ X Wx h e7 e3
      rename_i o m ap xs ps
      cases xs with
      | nil =>
        cases es with
        | nil => exact Sd.of rfl (sound_meth0 (p := p) C hr h.tk e1 e2 q0)
        | cons _ _ => unfold mEs at e7; cases e7
      | cons y ys => exact Sd.of rfl (sound_meth (p := p) C hr h.tk e1 e2 e3 e4 q0 q)
    · cases e
  | .oeq n k cl a b, c, t, x, X, Wx, h, e => by
    unfold mE at e
    split at e
    · split at e
      · simp only [Bool.and_eq_true] at e
        obtain ⟨⟨e1, e2⟩, e3⟩ := e
        obtain ⟨lv, C, hr⟩ := methB_ok h e1
        have q1 := mE_ok a c false _ X Wx h e2
        have q2 := mE_ok b c false _ X Wx h e3
        cases t with
        | false => exact sound_oeq (n := true) C (h.t.clo cl) hr q1 q2 (nobehind _ (by decide) (by decide))
        | true => exact t_oeq (n := true) C (h.t.clo cl) hr q1 q2 (nobehind _ (by decide) (by decide))
      · simp only [Bool.and_eq_true] at e
        obtain ⟨⟨e1, e2⟩, e3⟩ := e
        obtain ⟨lv, C, hr⟩ := methB_ok h e1
        have q1 := mE_ok a c false _ X Wx h e2
        have q2 := mE_ok b c false _ X Wx h e3
        cases t with
        | false => exact sound_oeq (n := false) C (h.t.clo cl) hr q1 q2 (nobehind _ (by decide) (by decide))
        | true => exact t_oeq (n := false) C (h.t.clo cl) hr q1 q2 (nobehind _ (by decide) (by decide))
      · cases e
    · cases e
  | .olen k cl a, c, t, x, X, Wx, h, e => by
    unfold mE at e
    split at e
    · simp only [Bool.and_eq_true, Bool.not_eq_true', beq_iff_eq] at e
      obtain ⟨⟨⟨⟨e1, e2⟩, e3⟩, e4⟩, e5⟩ := e
      subst e1
      obtain ⟨k1, k2, k3⟩ := h.fr e2
      obtain ⟨lv, C, hr⟩ := methB_ok h e4
      exact Sd.of rfl (sound_olen C hr k1 k2 e3 (mE_ok a c false _ X Wx h e5))
    · cases e
  | .fld a f, c, t, x, X, Wx, h, e => by
    unfold mE at e
    split at e
    · simp only [Bool.and_eq_true, List.any_eq_true, beq_iff_eq] at e
      obtain ⟨⟨e1, ⟨f', y⟩, e2, e3, e4⟩, e5⟩ := e
      simp only at e3 e4
      subst e3 e4
      obtain ⟨k1, k2⟩ := h.t.fld _ _ e2
      exact Sd.of rfl (sound_fld k1 e1 (fun c => (h.t.clo c).cls) k2 (mE_ok a c false _ X Wx h e5))
    · cases e
  | .comp live elt tg own ik ia ib ifs, c, t, x, X, Wx, h, e => by
    unfold mE at e
    split at e
    · simp only [Bool.and_eq_true, decide_eq_true_eq] at e
      obtain ⟨⟨⟨⟨⟨⟨⟨e1, e2⟩, e3⟩, e4⟩, e5⟩, e6⟩, e7⟩, e8⟩ := e
      subst e1
      rename_i y tx it fx s pos
      have hown : (own.map fun i => (c.N.getD i default, i)).map (·.2) = own := by
        rw [List.map_map]
        exact List.map_id' _
      have key := comp_ok h (elt := elt) (tg := tg) (own := own) (live := live) (ifs := ifs) (x := y) (s := s) (tx := tx) (it := it) (fx := fx) (pos := pos) e2 e3 e5
        (fun X Wx h => mT_ok tg _ _ X Wx h e4) (fun X Wx h => mE_ok elt _ false _ X Wx h e6) (fs := fun rho h => MP.srcE ik (fun h1 => MP.ev Fs ia rho h1) (fun h1 => MP.ev Fs ib rho h1) h) ?_ ?_
      · exact Sd.of rfl key
      · cases ik with
        | seq => exact i_seq (fb := fun rho h => MP.ev Fs ib rho h) h.K (mE_ok ia c false _ X Wx h e7)
        | rng1 =>
          simp only at e7
          split at e7
          · simp only [Bool.and_eq_true, Bool.not_eq_true', beq_iff_eq] at e7
            obtain ⟨⟨⟨e10, e11⟩, e12⟩, e13⟩ := e7
            subst e10
            obtain ⟨k1, k2, k3⟩ := h.fr e11
            exact i_rng1 (fb := fun rho h => MP.ev Fs ib rho h) k1 k2 e12 (mE_ok ia c false _ X Wx h e13)
          · cases e7
        | rng2 =>
          simp only at e7
          split at e7
          · simp only [Bool.and_eq_true, Bool.not_eq_true', beq_iff_eq] at e7
            obtain ⟨⟨⟨⟨⟨e10, e11⟩, e12⟩, e13⟩, e14⟩, e15⟩ := e7
            subst e10
            obtain ⟨k1, k2, k3⟩ := h.fr e11
            exact i_rng2 k1 k2 e12 e13 (mE_ok ia c false _ X Wx h e14) (mE_ok ib c false _ X Wx h e15)
          · cases e7
        | enm =>
          simp only at e7
          split at e7
          · simp only [Bool.and_eq_true, Bool.not_eq_true', beq_iff_eq] at e7
            obtain ⟨⟨⟨⟨e10, e11⟩, e12⟩, e13⟩, e14⟩ := e7
            subst e10
            obtain ⟨k1, k2, k3⟩ := h.fr e11
            cases tx <;> first | (cases e12; done) | skip
            exact i_enm (fb := fun rho h => MP.ev Fs ib rho h) h.K k1 k2 e13 (mE_ok ia c false _ X Wx h e14)
          · cases e7
        | zip =>
          simp only at e7
          split at e7
          · simp only [Bool.and_eq_true, Bool.not_eq_true', beq_iff_eq] at e7
            obtain ⟨⟨⟨⟨⟨⟨e10, e11⟩, e12⟩, e13⟩, e14⟩, e15⟩, e16⟩ := e7
            subst e10
            obtain ⟨k1, k2, k3⟩ := h.fr e11
            cases tx <;> first | (cases e12; done) | skip
            exact i_zip h.K k1 k2 e13 e14 (mE_ok ia c false _ X Wx h e15) (mE_ok ib c false _ X Wx h e16)
          · cases e7
      · intro X Wx h
        split at e8
        · exact pts_nil2
        · exact pts_one2 (mE_ok _ _ true _ X Wx h e8)
        · cases e8
    · cases e
  | .oIdx i d, c, t, x, X, Wx, h, e => by
    unfold mE at e
    split at e
    · simp only [Bool.and_eq_true] at e
      obtain ⟨⟨e1, e2⟩, e3⟩ := e
      exact Sd.of rfl (sound_oIdx (h.vis e1) h.K (notSlice_ok e2) (mE_ok d c false _ X Wx h e3))
    · cases e
  | .oDix i d, c, t, x, X, Wx, h, e => by
    unfold mE at e
    split at e
    · simp only [Bool.and_eq_true] at e
      obtain ⟨⟨e1, e2⟩, e3⟩ := e
      exact Sd.of rfl (sound_oDix (h.vis e1) h.u1 (notSlice_no e2) (mE_ok d c false _ X Wx h e3))
    · cases e
  | .oGet i k d, c, t, x, X, Wx, h, e => by
    unfold mE at e
    split at e
    · simp only [Bool.and_eq_true, Bool.not_eq_true', beq_iff_eq] at e
      obtain ⟨⟨⟨⟨⟨⟨e1, e2⟩, e3⟩, e4⟩, e5⟩, e6⟩, e7⟩ := e
      subst e1
      exact Sd.of rfl (sound_oGet (m2_of (by simpa using e3) e4 e5) (h.vis e2) h.u1 (mE_ok k c false _ X Wx h e6) (mE_ok d c false _ X Wx h e7))
    · cases e
  | .oLen i, c, t, x, X, Wx, h, e => by
    unfold mE at e
    split at e
    · simp only [Bool.and_eq_true, beq_iff_eq] at e
      obtain ⟨⟨e1, e2⟩, e3⟩ := e
      subst e1
      obtain ⟨k1, k2, k3⟩ := h.fr e2
      exact Sd.of rfl (sound_oLen (h.vis e3) h.K k1 k2)
    · cases e
  | .oIn n k i, c, t, x, X, Wx, h, e => by
    unfold mE at e
    split at e
    · simp only [Bool.and_eq_true, Bool.not_eq_true'] at e
      obtain ⟨e0, e⟩ := e
      subst e0
      split at e
      · simp only [Bool.and_eq_true] at e
        exact sound_oIn (n := true) (h.vis e.1) h.u1 (mE_ok k c false _ X Wx h e.2) rfl
      · simp only [Bool.and_eq_true] at e
        exact sound_oIn (n := false) (h.vis e.1) h.u1 (mE_ok k c false _ X Wx h e.2) rfl
      · cases e
    · cases e
  | .app a d, c, t, x, X, Wx, h, e => by
    unfold mE at e
    split at e
    · simp only [Bool.and_eq_true, Bool.not_eq_true', beq_iff_eq] at e
      obtain ⟨⟨⟨⟨⟨e1, e2⟩, e3⟩, e4⟩, e5⟩, e6⟩ := e
      subst e1
      exact Sd.of rfl (sound_app h.K e2 (by simpa using e3) e4 (mE_ok a c false _ X Wx h e5) (mE_ok d c false _ X Wx h e6))
    · cases e
  | .exR a d, c, t, x, X, Wx, h, e => by
    unfold mE at e
    split at e
    · simp only [Bool.and_eq_true, Bool.not_eq_true', beq_iff_eq] at e
      obtain ⟨⟨⟨⟨⟨e1, e2⟩, e3⟩, e4⟩, e5⟩, e6⟩ := e
      subst e1
      exact Sd.of rfl (sound_exR h.K e2 (by simpa using e3) e4 (mE_ok a c false _ X Wx h e5) (mE_ok d c false _ X Wx h e6))
    · cases e
  | .addR a b, c, t, x, X, Wx, h, e => by
    unfold mE at e
    split at e
    · rename_i op q _
      simp only [Bool.and_eq_true] at e
      obtain ⟨⟨e1, e2⟩, e3⟩ := e
      cases op <;> first | (cases e1; done) | skip
      exact Sd.of rfl (sound_addR (mE_ok a c false _ X Wx h e2) (mE_ok b c false _ X Wx h e3))
    · cases e
  | .srtL _ d, c, t, x, X, Wx, h, e => by
    unfold mE at e
    split at e
    · simp only [Bool.and_eq_true, Bool.not_eq_true', beq_iff_eq] at e
      obtain ⟨⟨⟨⟨⟨⟨⟨e1, e2⟩, e3⟩, e4⟩, e5⟩, e6⟩, e7⟩, e8⟩ := e
      subst e1 e2
      obtain ⟨h1, h2, h3⟩ := h.fr e4
      obtain ⟨y, L, hd, hb⟩ := lotB_ok e7
      obtain ⟨P, l1, l2, cc, l3, l4⟩ := h.lam e6
      refine Sd.of rfl (sound_srt h.K L h1 h2 (h.t.free _ (by simpa using e5)) h.room e3 l1 l2 l4 l3 (hd _) hb (mE_ok d c false _ X Wx h e8))
    · cases e
theorem mEs_ok : ∀ (es : List MP.E) (c : Cf) (xs : List Expr) (X : Cx) (Wx : WX), CxOk X G Wx Fs c → mEs es c xs = true → noStar xs = true → PA X xs (TAv G (WOf G Wx) (fun rho h => MP.evs Fs es rho h))
  | [], c, xs, X, Wx, h, e, hs => by
    unfold mEs at e
    cases xs with
    | nil => exact sound_nil
    | cons _ _ => cases e
  | d :: es, c, xs, X, Wx, h, e, hs => by
    unfold mEs at e
    split at e
    · simp only [Bool.and_eq_true] at e
      obtain ⟨h1, h2⟩ := noStar_cons hs
      exact sound_cons h1 (mE_ok d c false _ X Wx h e.1) (mEs_ok es c _ X Wx h e.2 h2)
    · cases e
theorem mKs_ok : ∀ (es : List MP.E) (c : Cf) (xs : List Keyword) (X : Cx) (Wx : WX), CxOk X G Wx Fs c → mKs es c xs = true → PK X xs (TAv G (WOf G Wx) (fun rho h => MP.evs Fs es rho h))
  | [], c, xs, X, Wx, h, e => by
    unfold mKs at e
    cases xs with
    | nil => exact sound_knil
    | cons _ _ => cases e
  | d :: es, c, xs, X, Wx, h, e => by
    unfold mKs at e
    split at e
    · simp only [Bool.and_eq_true] at e
      exact sound_kcons (mE_ok d c false _ X Wx h e.1) (mKs_ok es c _ X Wx h e.2)
    · cases e
theorem mBs_ok : ∀ (es : List MP.E) (c : Cf) (t : Bool) (xs : List Expr) (X : Cx) (Wx : WX), CxOk X G Wx Fs c → mBs es c t xs = true → ∀ (conj : Bool), xs ≠ [] → ∀ pos, (t = false → PE X (.BoolOp (bopOf conj) xs pos) (TEv G (WOf G Wx) (fun rho h => MP.evB Fs conj es rho h))) ∧ (t = true → PW X (.BoolOp (bopOf conj) xs pos) (TTv G (WOf G Wx) (fun rho h => MP.evB Fs conj es rho h)))
  | [], c, t, xs, X, Wx, h, e, conj, ne, pos => by
    unfold mBs at e
    cases xs with
    | nil => exact absurd rfl ne
    | cons _ _ => cases e
  | d :: es, c, t, xs, X, Wx, h, e, conj, ne, pos => by
    unfold mBs at e
    split at e
    · rename_i y ys
      simp only [Bool.and_eq_true] at e
      have q := mE_ok d c t _ X Wx h e.1
      cases ys with
      | nil =>
        cases es with
        | cons _ _ => have e2 := e.2; unfold mBs at e2; cases e2
        | nil =>
          refine ⟨fun z => ?_, fun z => ?_⟩
          · subst z
            exact sound_bop1 q
          · subst z
            exact w_bop1 q
      | cons z zs =>
        have r := mBs_ok es c t _ X Wx h e.2 conj (by simp) pos
        refine ⟨fun z => ?_, fun z => ?_⟩
        · have r1 := r.1 z
          subst z
          exact sound_bopC q r1
        · have r1 := r.2 z
          subst z
          exact w_bopC q r1
    · cases e
end
end
end MPS
end

section
set_option Elab.async false
set_option linter.all false
set_option maxRecDepth 100000
set_option maxHeartbeats 4000000
set_option autoImplicit false
namespace MPS
open PySem PySem.Spec PyProof.Rows L2
/-! ### statements against the small language -/
def mIt (ik : MP.IK) (ia ib : MP.E) (c : Cf) (tx it : Expr) : Bool := match ik with
  | .seq => mE ia c false it
  | .rng1 => (match it with
    | .Call (.Name n _) [p] [] _ => (n == "range") && frB c n && !isStar p && mE ia c false p
    | _ => false)
  | .rng2 => (match it with
    | .Call (.Name n _) [p, q] [] _ => (n == "range") && frB c n && !isStar p && !isStar q && mE ia c false p && mE ib c false q
    | _ => false)
  | .enm => (match it with
    | .Call (.Name n _) [p] [] _ => (n == "enumerate") && frB c n && isTup2 tx && !isStar p && mE ia c false p
    | _ => false)
  | .zip => (match it with
    | .Call (.Name n _) [p, q] [] _ => (n == "zip") && frB c n && isTup2 tx && !isStar p && !isStar q && mE ia c false p && mE ib c false q
    | _ => false)
/-- what is made for a slot -/
def mO (e : MP.E) (c : Cf) (x : Expr) : Bool := match e, x with
  | .lst es, .List xs _ => noStar xs && mEs es c xs
  | .blt .list [a], .Call (.Name n _) [p] [] _ => (n == "list") && frB c n && !isStar p && mE a c false p
  | .dic false [], .Dict [] [] _ => true
  | .dic false [k, v], .Dict [some p] [q] _ => mE k c false p && mE v c false q
  | _, _ => false
def mP : List (Nat × Bool × MP.E) → Cf → List Expr → Bool
  | [], _, xs => xs.isEmpty
  | (_, b, e) :: l, c, xs => (match xs with
    | x :: xs => !isStar x && (match b with
      | true => mO e c x
      | false => mE e c false x) && mP l c xs
    | [] => false)
def mN : List Nat → Cf → List Expr → Bool
  | [], _, xs => xs.isEmpty
  | i :: l, c, xs => (match xs with
    | .Name y _ :: xs => setB c i y && mN l c xs
    | _ => false)
def locB (c : Cf) (i : Nat) (y : Str) : Bool := decide (c.N[i]? = some y) && decide (c.sc.names.lookup y = some .local)
/-- the swapped stores: two or three names -/
def mSw : List Nat → Cf → List Expr → List Str → Bool
  | [i, j], c, [.Name x _, .Name y _], [x', y'] => decide (x = x') && decide (y = y') && decide (i ≠ j) && locB c i x && locB c j y
  | [i, j, k], c, [.Name x _, .Name y _, .Name z _], [x', y', z'] => decide (x = x') && decide (y = y') && decide (z = z') && decide (i ≠ j) && decide (i ≠ k) && decide (j ≠ k) && locB c i x && locB c j y && locB c k z
  | _, _, _, _ => false
mutual
def mS : MP.S → Cf → Stmt → Bool
  | .asg t e, c, st => (match st with
    | .Assign [.Name y py] x _ => (match t with
      | .nm i => setB c i y && mE e c false x && (match x with
        | .ListComp _ _ _ _ => true
        | _ => !isCompE x)
      | .tp _ => false)
    | .Assign [.Tuple ts _ _] x _ => !isCompE x && !isTupE x && mE e c false x && (match t with
      | .tp l => mTs l c ts
      | .nm _ => false)
    | _ => false)
  | .par l, c, st => (match st with
    | .Assign [.Tuple ts _ _] (.Tuple vs _ _) _ => decide (l.length ≤ 1000) && mP l c vs && (match swB ts vs c.sc with
      | none => false
      | some none => mN (l.map (·.1)) c ts
      | some (some ns) => mSw (l.map (·.1)) c ts ns)
    | _ => false)
  | .own i e, c, st => (match st with
    | .Assign [.Name y _] x _ => setB c i y && !isCompE x && mO e c x
    | _ => false)
  | .app i e, c, st => (match st with
    | .Expr (.Call (.Attribute (.Name y _) m ap) [p] [] ps) _ => (m == "append") && visB c i y && (ap.endLine == ps.line) && !isStar p && mE e c false p
    | _ => false)
  | .ext i e, c, st => (match st with
    | .Expr (.Call (.Attribute (.Name y _) m ap) [p] [] ps) _ => (m == "extend") && visB c i y && (ap.endLine == ps.line) && !isStar p && mE e c false p
    | _ => false)
  | .setI i k e, c, st => (match st with
    | .Assign [.Subscript (.Name y _) q _] x _ => visB c i y && !isCompE x && mE k c false q && mE e c false x
    | _ => false)
  | .exp e, c, st => (match st with
    | .Expr x _ => !isCompE x && mE e c false x
    | _ => false)
  | .setF a f e, c, st => (match st with
    | .Assign [.Attribute o y _] x _ => !isCompE x && c.T.fld.any (fun q => q.1 == f && q.2 == y) && mE a c false o && mE e c false x
    | _ => false)
  | .frz _, _, _ => false
  | .ifs e a b, c, st => (match st with
    | .If p xs ys _ => mE e c true p && mL a c xs && mL b c ys
    | _ => false)
  | .for t ik ia ib _ b, c, st => (match st with
    | .For tx it xs [] _ => mT t c tx && notSet it && mIt ik ia ib c tx it && mL b c xs
    | _ => false)
  | .whl _ e _ b, c, st => (match st with
    | .While p xs [] _ => mE e c true p && mL b c xs
    | _ => false)
  | .ret e, c, st => (match st with
    | .Return (some x) _ => mE e c false x
    | _ => false)
  | .retN, _, st => (match st with
    | .Return none _ => true
    | _ => false)
  | .cont, _, st => (match st with
    | .Continue _ => true
    | _ => false)
  | .never, _, _ => true
  | .pass, _, st => (match st with
    | .Expr (.Constant (.str _) _ _) _ => true
    | _ => false)
  | .rai _ _, _, _ => false
  | .aug i o e, c, st => (match st with
    | .AugAssign (.Name y _) op x _ => setB c i y && mE e c false x && (match o, op with
      | .add, .Add => true
      | .sub, .Sub => true
      | _, _ => false)
    | _ => false)
def mL : List MP.S → Cf → List Stmt → Bool
  | [], _, sts => sts.isEmpty
  | s :: ss, c, sts => (match s with
    | .frz _ => mL ss c sts
    | _ => (match sts with
      | st :: sts => mS s c st && mL ss c sts
      | [] => false))
end
section
variable {G : Gc} {Fs : List MP.Fn}
theorem mIt_ok {ik : MP.IK} {ia ib : MP.E} {c : Cf} {tx it : Expr} {X : Cx} {Wx : WX} (h : CxOk X G Wx Fs c) (e7 : mIt ik ia ib c tx it = true) : PI X tx it (TIv G (WOf G Wx) (fun rho h => MP.srcE ik (fun h1 => MP.ev Fs ia rho h1) (fun h1 => MP.ev Fs ib rho h1) h)) := by
  cases ik with
  | seq => exact i_seq (fb := fun rho h => MP.ev Fs ib rho h) h.K (mE_ok ia c false _ X Wx h e7)
  | rng1 =>
    simp only [mIt] at e7
    split at e7
    · simp only [Bool.and_eq_true, Bool.not_eq_true', beq_iff_eq] at e7
      obtain ⟨⟨⟨e10, e11⟩, e12⟩, e13⟩ := e7
      subst e10
      obtain ⟨k1, k2, k3⟩ := h.fr e11
      exact i_rng1 (fb := fun rho h => MP.ev Fs ib rho h) k1 k2 e12 (mE_ok ia c false _ X Wx h e13)
    · cases e7
  | rng2 =>
    simp only [mIt] at e7
    split at e7
    · simp only [Bool.and_eq_true, Bool.not_eq_true', beq_iff_eq] at e7
      obtain ⟨⟨⟨⟨⟨e10, e11⟩, e12⟩, e13⟩, e14⟩, e15⟩ := e7
      subst e10
      obtain ⟨k1, k2, k3⟩ := h.fr e11
      exact i_rng2 k1 k2 e12 e13 (mE_ok ia c false _ X Wx h e14) (mE_ok ib c false _ X Wx h e15)
    · cases e7
  | enm =>
    simp only [mIt] at e7
    split at e7
    · simp only [Bool.and_eq_true, Bool.not_eq_true', beq_iff_eq] at e7
      obtain ⟨⟨⟨⟨e10, e11⟩, e12⟩, e13⟩, e14⟩ := e7
      subst e10
      obtain ⟨k1, k2, k3⟩ := h.fr e11
      cases tx <;> first | (cases e12; done) | skip
      exact i_enm (fb := fun rho h => MP.ev Fs ib rho h) h.K k1 k2 e13 (mE_ok ia c false _ X Wx h e14)
    · cases e7
  | zip =>
    simp only [mIt] at e7
    split at e7
    · simp only [Bool.and_eq_true, Bool.not_eq_true', beq_iff_eq] at e7
      obtain ⟨⟨⟨⟨⟨⟨e10, e11⟩, e12⟩, e13⟩, e14⟩, e15⟩, e16⟩ := e7
      subst e10
      obtain ⟨k1, k2, k3⟩ := h.fr e11
      cases tx <;> first | (cases e12; done) | skip
      exact i_zip h.K k1 k2 e13 e14 (mE_ok ia c false _ X Wx h e15) (mE_ok ib c false _ X Wx h e16)
    · cases e7
theorem mO_ok {e : MP.E} {c : Cf} {x : Expr} {X : Cx} {Wx : WX} (h : CxOk X G Wx Fs c) (q : mO e c x = true) : PE X x (TWv G (WOf G Wx) (fun rho h => MP.evO Fs e rho h)) := by
  unfold mO at q
  split at q
  · simp only [Bool.and_eq_true] at q
    exact o_lst (mEs_ok _ c _ X Wx h q.2 q.1)
  · simp only [Bool.and_eq_true, Bool.not_eq_true', beq_iff_eq] at q
    obtain ⟨⟨⟨e1, e2⟩, e3⟩, e4⟩ := q
    subst e1
    obtain ⟨k1, k2, k3⟩ := h.fr e2
    have hr := call_list_of (X := X)
    rw [h.K] at hr
    exact o_list h.K k1 k2 (pe_callTy hr k1 k2 rfl (pa_one e3 (mE_ok _ c false _ X Wx h e4)) (by decide) k3 (starEach_cons e3) (by rfl))
  · exact o_dic0
  · simp only [Bool.and_eq_true] at q
    exact o_dic1 (mE_ok _ c false _ X Wx h q.1) (mE_ok _ c false _ X Wx h q.2)
  · cases q
theorem mP_ok : ∀ (l : List (Nat × Bool × MP.E)) (c : Cf) (xs : List Expr) (X : Cx) (Wx : WX), CxOk X G Wx Fs c → mP l c xs = true → PL X G (WOf G Wx) xs (l.map (·.1)) (fun rho h => MP.evPar Fs rho l h)
  | [], c, xs, X, Wx, h, e => by
    unfold mP at e
    cases xs with
    | nil => exact pl_nil
    | cons _ _ => cases e
  | (i, b, d) :: l, c, xs, X, Wx, h, e => by
    unfold mP at e
    split at e
    · simp only [Bool.and_eq_true, Bool.not_eq_true'] at e
      obtain ⟨⟨e1, e2⟩, e3⟩ := e
      have q := mP_ok l c _ X Wx h e3
      cases b with
      | true => exact pl_own e1 (mO_ok h e2) q
      | false => exact pl_val e1 (mE_ok d c false _ X Wx h e2) q
    · cases e
theorem mN_ok : ∀ (l : List Nat) (c : Cf) (xs : List Expr) (X : Cx) (Wx : WX), CxOk X G Wx Fs c → mN l c xs = true → NmsOk X xs l
  | [], c, xs, X, Wx, h, e => by
    unfold mN at e
    cases xs with
    | nil => exact nms_nil
    | cons _ _ => cases e
  | i :: l, c, xs, X, Wx, h, e => by
    unfold mN at e
    split at e
    · simp only [Bool.and_eq_true] at e
      obtain ⟨h1, h2, h3⟩ := h.set e.1
      exact nms_cons h.nd' h1 h2 h3 (mN_ok l c _ X Wx h e.2)
    · cases e
theorem loc_ok {c : Cf} {i : Nat} {y : Str} {X : Cx} {Wx : WX} (h : CxOk X G Wx Fs c) (e : locB c i y = true) : X.N[i]? = some y ∧ X.env.scope.names.lookup y = some .local := by
  unfold locB at e
  simp only [Bool.and_eq_true, decide_eq_true_eq] at e
  exact ⟨by rw [h.N]; exact e.1, by rw [h.sc]; exact e.2⟩
theorem foldl_len {l : List (Nat × Bool × MP.E)} {c : Cf} {xs : List Expr} (e : mP l c xs = true) : xs.length = l.length := by
  induction l generalizing xs with
  | nil =>
    unfold mP at e
    cases xs with
    | nil => rfl
    | cons _ _ => cases e
  | cons d l ih =>
    obtain ⟨i, b, d⟩ := d
    unfold mP at e
    split at e
    · simp only [Bool.and_eq_true] at e
      exact congrArg Nat.succ (ih e.2)
    · cases e
theorem par_ok {l : List (Nat × Bool × MP.E)} {c : Cf} {ts vs : List Expr} {k1 k2 : Nat} {p1 p2 pos : Pos} {X : Cx} {Wx : WX} (h : CxOk X G Wx Fs c) (hk : c.sc.kind = .function) (hz : l.length ≤ 1000) (e1 : mP l c vs = true) (e2 : (match swB ts vs c.sc with
      | none => false
      | some none => mN (l.map (·.1)) c ts
      | some (some ns) => mSw (l.map (·.1)) c ts ns) = true) :
    PS X (.Assign [.Tuple ts k1 p1] (.Tuple vs k2 p2) pos) (TSv G (WOf G Wx) (fun rho h => MP.SR.ofR (MP.evPar Fs rho l h) rho fun vs h1 => .nx (MP.setAll vs rho) h1)) := by
  have hk' : X.env.scope.kind = .function := by rw [h.sc]; exact hk
  have q := mP_ok l c vs X Wx h e1
  have hl := foldl_len e1
  split at e2
  · cases e2
  · rename_i es
    have sw := swB_ok (k1 := k1) (k2 := k2) (p1 := p1) (p2 := p2) hk' (by rw [h.sc]; exact es)
    exact s_parT h.K h.calm sw (mN_ok _ c _ X Wx h e2) (by rw [List.length_map]; exact hz) q
  · rename_i ns es
    have sw := swB_ok (k1 := k1) (k2 := k2) (p1 := p1) (p2 := p2) hk' (by rw [h.sc]; exact es)
    generalize hm : l.map (·.1) = is at e2 q
    have hlen : is.length = l.length := by rw [← hm, List.length_map]
    unfold mSw at e2
    split at e2
    · simp only [Bool.and_eq_true, decide_eq_true_eq] at e2
      obtain ⟨⟨⟨⟨a1, a2⟩, a3⟩, a4⟩, a5⟩ := e2
      subst a1 a2
      obtain ⟨b1, b2⟩ := loc_ok h a4
      obtain ⟨b3, b4⟩ := loc_ok h a5
      match vs, hl, q, sw with
      | [va, vb], _, q, sw => exact s_par2 h.calm h.nd' b1 b3 a3 b2 b4 sw q
      | [], z, _, _ => rw [← hlen] at z; simp at z
      | [_], z, _, _ => rw [← hlen] at z; simp at z
      | _ :: _ :: _ :: _, z, _, _ => rw [← hlen] at z; simp at z
    · simp only [Bool.and_eq_true, decide_eq_true_eq] at e2
      obtain ⟨⟨⟨⟨⟨⟨⟨⟨a1, a2⟩, a3⟩, a4⟩, a5⟩, a6⟩, a7⟩, a8⟩, a9⟩ := e2
      subst a1 a2 a3
      obtain ⟨b1, b2⟩ := loc_ok h a7
      obtain ⟨b3, b4⟩ := loc_ok h a8
      obtain ⟨b5, b6⟩ := loc_ok h a9
      match vs, hl, q, sw with
      | [va, vb, vc], _, q, sw => exact s_par3 h.calm h.nd' b1 b3 b5 a4 a5 a6 b2 b4 b6 sw q
      | [], z, _, _ => rw [← hlen] at z; simp at z
      | [_], z, _, _ => rw [← hlen] at z; simp at z
      | [_, _], z, _, _ => rw [← hlen] at z; simp at z
      | _ :: _ :: _ :: _ :: _, z, _, _ => rw [← hlen] at z; simp at z
    · cases e2
end
end MPS
end

section
set_option Elab.async false
set_option linter.all false
set_option maxRecDepth 100000
set_option maxHeartbeats 4000000
set_option autoImplicit false
namespace MPS
open PySem PySem.Spec PyProof.Rows L2
section
variable {G : Gc} {Fs : List MP.Fn}
theorem sw_any {elt : Expr} {gs : List Comprehension} {scope : Scope} {pos py : Pos} {y : Str} {l : Nat} {env : Env} :
    swapsWith (.ListComp elt gs scope pos) (some (.Name y py)) l env = pure (env.blockKind == .function && env.kindOf y == some .local && py.line == pos.line && !(scope.names.any fun (n, k) => n == y && (k == .local || k == .cell))) := rfl
theorem s_set2 {X : Cx} {W : EW} {e : Expr} {fe : Ef} {i : Nat} {x : Str} {vpos pos : Pos} (hN : X.N.Nodup) (hi : X.N[i]? = some x) (hx : L2.Loc X.env.scope x) (hf : X.fn x = true ∨ X.env.scope.names.lookup x = some .local) (hs : swapsWith e (some (.Name x vpos)) pos.line X.env = pure false) (he : PE X e (TEv G W fe)) :
    PS X (.Assign [.Name x vpos] e pos) (TSv G W (fun rho h => MP.SR.ofR (fe rho h) rho fun v h1 => MP.SR.ofO (MP.setT (.nm i) v rho) fun r => .nx r h1)) :=
  s_setLc (ps_set hN hi hx he hs hf) fun _ _ _ h => h
theorem asg_lc {e : MP.E} {c : Cf} {i : Nat} {y : Str} {py pos vp : Pos} {elt : Expr} {gs : List Comprehension} {s : Scope} {X : Cx} {Wx : WX} (h : CxOk X G Wx Fs c) (hk : c.sc.kind = .function) (e1 : setB c i y = true) (e2 : mE e c false (.ListComp elt gs s vp) = true) :
    PS X (.Assign [.Name y py] (.ListComp elt gs s vp) pos) (TSv G (WOf G Wx) (fun rho h => MP.SR.ofR (MP.ev Fs e rho h) rho fun v h1 => MP.SR.ofO (MP.setT (.nm i) v rho) fun r => .nx r h1)) := by
  obtain ⟨h1, h2, h3⟩ := h.set e1
  have hk' : X.env.scope.kind = .function := by rw [h.sc]; exact hk
  have q := mE_ok e c false _ X Wx h e2
  cases hb : (X.env.blockKind == .function && X.env.kindOf y == some .local && py.line == vp.line && !(s.names.any fun (n, k) => n == y && (k == .local || k == .cell))) with
  | false => exact s_set2 h.nd' h1 h2 h3 (by rw [sw_any, hb]) q
  | true =>
    simp only [Bool.and_eq_true, Bool.not_eq_true', beq_iff_eq] at hb
    obtain ⟨⟨⟨b1, b2⟩, b3⟩, b4⟩ := hb
    cases e with
    | comp live el tg own ik ia ib ifs =>
      unfold mE at e2
      split at e2
      · rename_i x1 y1 tx it fx z s1 pos1 heq
        injection heq with a1 a2 a3 a4
        subst a1 a2 a3 a4
        simp only [Bool.and_eq_true, decide_eq_true_eq] at e2
        obtain ⟨⟨⟨⟨⟨⟨⟨e1', e2⟩, e3⟩, e4⟩, e5⟩, e6⟩, e7⟩, e8⟩ := e2
        subst e1'
        have hown : (own.map fun i => (c.N.getD i default, i)).map (·.2) = own := by
          rw [List.map_map]
          exact List.map_id' _
        have hF : ∀ (X : Cx) (Wx : WX), CxOk X G Wx Fs (c.blk s) → PTs X fx (TTv G (WOf G Wx) (fun rho h => MP.evB Fs true ifs rho h)) := by
          intro X Wx h
          split at e8
          · exact pts_nil2
          · exact pts_one2 (mE_ok _ _ true _ X Wx h e8)
          · cases e8
        have lc := ps_setLc (i := i) (spos := pos) (pos := vp) (py := py) h.calm h.nd' h1 b2 (by rw [sw_any]; simp [b1, b2, b3, b4]) (mIt_ok (Fs := Fs) (ik := ik) (ia := ia) (ib := ib) h (by cases ik <;> exact e7)) (blkOk_by (by rw [h.N, h.sc]; exact e2))
          (fun s' H C cl fp => mT_ok tg _ _ _ _ (h.blk s' H s C cl fp) e4) (fun s' H C cl fp => hF _ _ (h.blk s' H s C cl fp)) (fun s' H C cl fp => mE_ok el _ false _ _ _ (h.blk s' H s C cl fp) e6) (fun v => fset_ok e5 v)
        rw [hown] at lc
        exact s_setLc lc fun σ H Q hh => comp_tLc (live := live) (fun i hi => by have := List.all_eq_true.mp e3 i hi; simpa using this) σ H Q hh
      · cases e2
    | _ => unfold mE at e2; first | (cases e2; done) | (simp [conB] at e2; done) | (exact absurd e2 (by simp))
mutual
theorem mS_ok : ∀ (s : MP.S) (c : Cf) (st : Stmt) (X : Cx) (Wx : WX), CxOk X G Wx Fs c → c.sc.kind = .function → PassesOwn (model X.prog X.w) X.A X.env X.xe → mS s c st = true → PS X st (TSv G (WOf G Wx) (fun rho h => MP.exS Fs s rho h))
  | .asg t d, c, st, X, Wx, h, hk, hp, e => by
    unfold mS at e
    split at e
    · split at e
      · simp only [Bool.and_eq_true] at e
        obtain ⟨⟨e1, e2⟩, e3⟩ := e
        obtain ⟨h1, h2, h3⟩ := h.set e1
        split at e3
        · exact asg_lc h hk e1 e2
        · exact s_set h.nd' h1 h2 h3 (by simpa using e3) (mE_ok d c false _ X Wx h e2)
      · cases e
    · simp only [Bool.and_eq_true, Bool.not_eq_true'] at e
      obtain ⟨⟨⟨e1, e2⟩, e3⟩, e4⟩ := e
      split at e4
      · obtain ⟨h1, h2, h3⟩ := mTs_ok _ c _ X Wx h e4
        exact s_asgT e1 e2 (mE_ok d c false _ X Wx h e3) (T_tp h.K h.calm h2 h3 h1)
      · cases e4
    · cases e
  | .par l, c, st, X, Wx, h, hk, hp, e => by
    unfold mS at e
    split at e
    · simp only [Bool.and_eq_true, decide_eq_true_eq] at e
      obtain ⟨⟨e1, e2⟩, e3⟩ := e
      exact par_ok h hk e1 e2 e3
    · cases e
  | .own i d, c, st, X, Wx, h, hk, hp, e => by
    unfold mS at e
    split at e
    · simp only [Bool.and_eq_true, Bool.not_eq_true'] at e
      obtain ⟨⟨e1, e2⟩, e3⟩ := e
      obtain ⟨h1, h2, h3⟩ := h.set e1
      exact s_own h.nd' h1 h2 h3 e2 (mO_ok h e3)
    · cases e
  | .app i d, c, st, X, Wx, h, hk, hp, e => by
    unfold mS at e
    split at e
    · simp only [Bool.and_eq_true, Bool.not_eq_true', beq_iff_eq] at e
      obtain ⟨⟨⟨⟨e1, e2⟩, e3⟩, e4⟩, e5⟩ := e
      subst e1
      exact s_app (h.vis e2) (by simpa using e3) e4 (mE_ok d c false _ X Wx h e5)
    · cases e
  | .ext i d, c, st, X, Wx, h, hk, hp, e => by
    unfold mS at e
    split at e
    · simp only [Bool.and_eq_true, Bool.not_eq_true', beq_iff_eq] at e
      obtain ⟨⟨⟨⟨e1, e2⟩, e3⟩, e4⟩, e5⟩ := e
      subst e1
      exact s_ext (h.vis e2) (by simpa using e3) e4 (mE_ok d c false _ X Wx h e5)
    · cases e
  | .setI i k d, c, st, X, Wx, h, hk, hp, e => by
    unfold mS at e
    split at e
    · simp only [Bool.and_eq_true, Bool.not_eq_true'] at e
      obtain ⟨⟨⟨e1, e2⟩, e3⟩, e4⟩ := e
      exact s_setI (h.vis e1) h.u1 e2 (mE_ok k c false _ X Wx h e3) (mE_ok d c false _ X Wx h e4)
    · cases e
  | .exp d, c, st, X, Wx, h, hk, hp, e => by
    unfold mS at e
    split at e
    · simp only [Bool.and_eq_true, Bool.not_eq_true'] at e
      exact s_exp e.1 (mE_ok d c false _ X Wx h e.2)
    · cases e
  | .setF a f d, c, st, X, Wx, h, hk, hp, e => by
    unfold mS at e
    split at e
    · simp only [Bool.and_eq_true, Bool.not_eq_true', List.any_eq_true, beq_iff_eq] at e
      obtain ⟨⟨⟨e1, ⟨f', y⟩, e2, e3, e4⟩, e5⟩, e6⟩ := e
      simp only at e3 e4
      subst e3 e4
      obtain ⟨k1, k2⟩ := h.t.fld _ _ e2
      exact s_setF h.K k1 (fun c => (h.t.clo c).cls) k2 e1 (mE_ok a c false _ X Wx h e5) (mE_ok d c false _ X Wx h e6)
    · cases e
  | .frz _, c, st, X, Wx, h, hk, hp, e => by
    unfold mS at e
    cases e
  | .ifs d a b, c, st, X, Wx, h, hk, hp, e => by
    unfold mS at e
    split at e
    · simp only [Bool.and_eq_true] at e
      obtain ⟨⟨e1, e2⟩, e3⟩ := e
      exact s_if (mE_ok d c true _ X Wx h e1) (mL_ok a c _ X Wx h hk hp e2) (mL_ok b c _ X Wx h hk hp e3)
    · cases e
  | .for t ik ia ib ks b, c, st, X, Wx, h, hk, hp, e => by
    unfold mS at e
    split at e
    · simp only [Bool.and_eq_true] at e
      obtain ⟨⟨⟨e1, e2⟩, e3⟩, e4⟩ := e
      exact s_for hp h.calm (mIt_ok h e3) (mT_ok t c _ X Wx h e1) (mL_ok b c _ X Wx h hk hp e4) (fun v => fset_ok e2 v)
    · cases e
  | .whl n d ks b, c, st, X, Wx, h, hk, hp, e => by
    unfold mS at e
    split at e
    · simp only [Bool.and_eq_true] at e
      exact s_while hp (mE_ok d c true _ X Wx h e.1) (mL_ok b c _ X Wx h hk hp e.2)
    · cases e
  | .ret d, c, st, X, Wx, h, hk, hp, e => by
    unfold mS at e
    split at e
    · exact s_ret (mE_ok d c false _ X Wx h e)
    · cases e
  | .retN, c, st, X, Wx, h, hk, hp, e => by
    unfold mS at e
    split at e
    · exact s_retN
    · cases e
  | .cont, c, st, X, Wx, h, hk, hp, e => by
    unfold mS at e
    split at e
    · exact s_cont
    · cases e
  | .never, c, st, X, Wx, h, hk, hp, e => s_never
  | .pass, c, st, X, Wx, h, hk, hp, e => by
    unfold mS at e
    split at e
    · exact s_doc
    · cases e
  | .rai _ _, c, st, X, Wx, h, hk, hp, e => by
    unfold mS at e
    cases e
  | .aug i o d, c, st, X, Wx, h, hk, hp, e => by
    unfold mS at e
    split at e
    · simp only [Bool.and_eq_true] at e
      obtain ⟨⟨e1, e2⟩, e3⟩ := e
      obtain ⟨h1, h2, h3⟩ := h.set e1
      split at e3
      · exact s_aug (op := .add) rfl h.nd' h1 h2 h3 (mE_ok d c false _ X Wx h e2)
      · exact s_aug (op := .sub) rfl h.nd' h1 h2 h3 (mE_ok d c false _ X Wx h e2)
      · cases e3
    · cases e
theorem mL_ok : ∀ (ss : List MP.S) (c : Cf) (sts : List Stmt) (X : Cx) (Wx : WX), CxOk X G Wx Fs c → c.sc.kind = .function → PassesOwn (model X.prog X.w) X.A X.env X.xe → mL ss c sts = true → PSs X sts (TSv G (WOf G Wx) (fun rho h => MP.exL Fs ss rho h))
  | [], c, sts, X, Wx, h, hk, hp, e => by
    unfold mL at e
    cases sts with
    | nil => exact s_nil
    | cons _ _ => cases e
  | s :: ss, c, sts, X, Wx, h, hk, hp, e => by
    unfold mL at e
    split at e
    · exact s_frz (mL_ok ss c sts X Wx h hk hp e)
    · split at e
      · simp only [Bool.and_eq_true] at e
        exact s_cons (mS_ok s c _ X Wx h hk hp e.1) (mL_ok ss c _ X Wx h hk hp e.2)
      · cases e
end
end
end MPS
end

section
set_option Elab.async false
set_option linter.all false
set_option maxRecDepth 100000
set_option maxHeartbeats 4000000
set_option autoImplicit false
namespace MPS
open PySem PySem.Spec PyProof.Rows L2
/-! ### a def keeps its promise -/
theorem start_good {G : Gc} {w : Wd} {σ : L2.St} {H : Hp} {args : List MP.MV} {vs : List V} {N : List Str} (g : Good G w σ H) (r : VRs G w.m w.F args vs) (hl : args.length ≤ N.length) :
    Good G ⟨w.m, w.m, w.F, H, args.map MP.SV.val ++ List.replicate (N.length - args.length) MP.SV.none, fun _ => none, w.m, w.F, w.h⟩ (L2.start N vs) H := by
  have nown : ∀ (i : Nat) (o : MP.O), (args.map MP.SV.val ++ List.replicate (N.length - args.length) MP.SV.none)[i]? = some (.own o) → False := fun i o e => by
    by_cases q : i < args.length
    · rw [List.getElem?_append_left (by rw [List.length_map]; exact q), List.getElem?_map] at e
      cases ea : args[i]? with
      | none => rw [ea] at e; cases e
      | some v => rw [ea] at e; cases e
    · rw [List.getElem?_append_right (by rw [List.length_map]; omega)] at e
      rw [List.getElem?_replicate] at e
      split at e <;> cases e
  refine ⟨g.fro, g.len, g.nod, g.obj, g.map, (fun a o e => by cases e), ⟨?_, fun i v e => ?_, fun i o e => (nown i o e).elim, fun i j o o' a e => (nown i o e).elim⟩, Pre.refl _, Same.refl _, fun a o _ _ e => e, fun a h => .inl h, fun a h => absurd rfl h, fun a h => .inl h, g.tab.to (fun a h => (g.tab.at h).2.2.1) (fun a h => rfl)⟩
  · show (args.map MP.SV.val ++ List.replicate (N.length - args.length) MP.SV.none).length = (L2.start N vs).length
    unfold L2.start
    rw [List.length_append, List.length_append, List.length_map, List.length_map, List.length_replicate, List.length_replicate, r.length]
  · have e : (args.map MP.SV.val ++ List.replicate (N.length - args.length) MP.SV.none)[i]? = some (.val v) := e
    by_cases q : i < args.length
    · rw [List.getElem?_append_left (by rw [List.length_map]; exact q), List.getElem?_map] at e
      cases ea : args[i]? with
      | none => rw [ea] at e; cases e
      | some u =>
        rw [ea] at e
        cases e
        obtain ⟨x, h1, h2⟩ := r.get ea
        refine ⟨x, ?_, h2⟩
        unfold L2.start
        rw [List.getElem?_append_left (by rw [List.length_map, ← r.length]; exact q), List.getElem?_map, h1]
        rfl
    · rw [List.getElem?_append_right (by rw [List.length_map]; omega)] at e
      rw [List.getElem?_replicate] at e
      split at e <;> cases e
/-- the def's code object has a table for its lambda -/
def LamAt (G : Gc) (base : Heap) (mg : Str → Option Value) (qual : Str) (fd : FuncData) (P : Addr) : Prop := (P, qual ++ ".<locals>." ++ "<lambda>") ∈ G.T ∧ (∀ p ∈ G.T, p.1 = P → p.2 = qual ++ ".<locals>." ++ "<lambda>") ∧ ∃ cc, fd.code = .ref cc ∧ LamX.TabB base mg cc P
theorem def_ok {P : Program} {w : World} {K : PySem.W.Frag} {mg : Str → Option Value} {base : Heap} {x qual : Str} {params : Arguments} {body : List Stmt} {scope : Scope} {dvs : List V} {kws : List (Str × V)} {f : Addr} {fd : FuncData} {G : Gc} {Fs : List MP.Fn} {T : Tb} {N ps : List Str} {k : Nat} {b : List MP.S} {lam : Bool}
    (F : FunD K x qual params body scope dvs kws f fd) (S : C8.scC N ps scope = true) (hK : K = G.K) (hm : mL b ⟨N, scope, none, k, T, lam⟩ body = true) (hlam : lam = true → ∃ P, LamAt G base mg qual fd P) (tok : ∀ X : Cx, X.prog = P → X.w = w → X.K = K → X.mg = mg → X.base = base → TOk X G Fs T) :
    FnOk P w K mg base (L2.CX P w) (k + 1) f fd ps (spOf G (MP.runDef Fs ps.length N.length b)) := by
  have S' := C8.fnScope_by S
  have hpl : ps.length ≤ N.length := by have := congrArg List.length S'.pre; rw [List.length_take] at this; omega
  obtain ⟨oc, od, dV, kV, doc, pm, an, cdv, ct, osl, rfl, lk, hcd, _, _⟩ := F.ex
  refine fn_of lk hcd S' (fun vs H Q E h => ?_) (fun A outer s H vs Q E hr h => ?_)
  · obtain ⟨w, σ, args, g, r, q⟩ := h
    unfold MP.runDef at q
    split at q
    · rename_i hl
      rw [← r.length, hl]
    · exact q.elim
  · refine ⟨TSv G (WOf G (fun cls d _ H => E cls d H)) (fun rho h => MP.exL Fs b rho h), ?_, ?_⟩
    · refine mL_ok b ⟨N, scope, none, k, T, lam⟩ body _ _ ⟨rfl, S'.nd, rfl, fun _ _ => rfl, rfl, hK, hr, takes_of rfl rfl rfl rfl, tok _ rfl rfl rfl rfl rfl, fun e => by obtain ⟨P, h1, h2, cc, h3, h4⟩ := hlam e; exact ⟨P, h1, h2, cc, h3, h4⟩⟩ S'.kind (passes_of (X := cxOf (L2.CX P w) P w K mg base N qual scope f cdv A outer s H E) rfl) hm
    · obtain ⟨w0, σ, args, g, r, q⟩ := h
      replace q : EPost G (VR G) w0 σ (if args.length = ps.length then (match MP.exL Fs b (args.map .val ++ List.replicate (N.length - ps.length) .none) w0.h with
        | .nx _ h1 => .ok .non h1
        | .rt v h1 => .ok v h1
        | .ex e _ h1 => .ex e h1
        | _ => .bad) else .bad) Q (fun e w H => ∀ cls d, ExR G w.m w.F H e cls d → E cls d H) := q
      split at q
      · rename_i hl
        have g2 := start_good (N := N) g r (by omega)
        refine ⟨_, g2, ?_⟩
        show SPost G _ (MP.exL Fs b (args.map MP.SV.val ++ List.replicate (N.length - args.length) MP.SV.none) w0.h) _ _
        rw [hl]
        cases ex : MP.exL Fs b (args.map .val ++ List.replicate (N.length - ps.length) .none) w0.h with
        | nx rho h1 =>
          rw [ex] at q
          intro U m F σ' H' p s' gk
          obtain ⟨gb, pr, sF⟩ := g.back gk rfl rfl rfl rfl
          exact q m F H' .non pr sF gb .non
        | rt v h1 =>
          rw [ex] at q
          intro rho U m F σ' H' x p s' gk rv
          obtain ⟨gb, pr, sF⟩ := g.back gk rfl rfl rfl rfl
          exact q m F H' x pr sF gb rv
        | ct rho h1 =>
          rw [ex] at q
          exact q.elim
        | ex e rho h1 =>
          rw [ex] at q
          intro U m F σ' H' p s' gk cls d xr
          obtain ⟨gb, pr, sF⟩ := g.back gk rfl rfl rfl rfl
          exact q m F H' pr sF gb cls d xr
        | bad =>
          rw [ex] at q
          exact q.elim
      · exact q.elim
end MPS
end

section
set_option Elab.async false
set_option linter.all false
set_option maxRecDepth 100000
set_option maxHeartbeats 4000000
set_option autoImplicit false
namespace MPS
open PySem PySem.Spec PyProof.Rows L2
/-! ### the head's Hook, with what is asked of classes -/
def clsX (K : PySem.W.Frag) (x : Str) : Bool :=
  He.eqO (PySem.W.findIn K (.ref (He.ga K x)) "__class__") (some (some (.builtin "object.__class__"))) && (He.eqO (PySem.W.specialIn K (.builtin "object.__class__") "__get__") (some (some (.builtin "getset_descriptor.__get__"))) &&
    (decide (PySem.W.takesIn K (.builtin "object.__class__") = some true) && (decide (PySem.W.mroIn K (He.ga K x) (.type "object") = some true) && (He.eqO (PySem.W.findIn K (.ref (He.ga K x)) "__ne__") (some (some (.builtin "object.__ne__"))) &&
      decide (PySem.W.kitOne K (.ref (He.ga K x)) (.ref (He.ga K x)) = some true)))))
abbrev AlM : Type := He.AlD × Bool
def obsM (fa : List He.Fa) (fn : List He.DefD) (xs : List Str) (K : PySem.W.Frag) : AlM := (He.obsD fa fn K, xs.all (clsX K))
def valM (fn : List He.DefD) : AlM := (He.valD fn, true)
def obsMG (n : Nat) (fa : List He.Fa) (fn : List He.DefD) (xs : List Str) (g : Addr → Option Obj) : AlM := obsM fa fn xs (He.frG g (He.asD g n))
def hookM (n : Nat) (fa : List He.Fa) (fn : List He.DefD) (xs : List Str) : PySem.W.Hook where
  α := AlM
  obs := fun s => obsMG n fa fn xs s.heap.get?
  val := fun _ => valM fn
  says := fun _ h => ∃ K : PySem.W.Frag, K.In h ∧ He.SaysD fa fn K ∧ xs.all (clsX K) = true
  of := fun _ _ e => ⟨_, He.frG_in, congrArg (fun z : AlM => z.1) e, congrArg (fun z : AlM => z.2) e⟩
  keeps := fun _ _ _ ⟨K, hK, c⟩ k => ⟨K, PySem.W.Frag.In.keeps hK k, c⟩
theorem obsMG_eq {n : Nat} {fa : List He.Fa} {fn : List He.DefD} {xs : List Str} {g : Addr → Option Obj} {s : Shared} (h : ∀ a, g a = s.heap.get? a) : obsMG n fa fn xs g = (hookM n fa fn xs).obs s := by
  have e : g = s.heap.get? := funext h
  rw [e] <;> rfl
/-! ### names of fields, classes -/
def fldName (l : List Str) (n : Nat) : Str := (l[n]?).getD ⟨(List.replicate (n + 100) 97).toArray⟩
def shortB (l : List Str) : Bool := decide l.Nodup && l.all fun s => decide (s.cps.size < 100)
theorem fld_long {l : List Str} {n : Nat} (h : l.length ≤ n) : (fldName l n).cps.size = n + 100 := by
  unfold fldName
  rw [List.getElem?_eq_none h]
  simp
theorem fld_in {l : List Str} {n : Nat} (h : n < l.length) : fldName l n = l[n] := by
  unfold fldName
  rw [List.getElem?_eq_getElem h]
  rfl
theorem fld_inj {l : List Str} (h : shortB l = true) : ∀ a b, fldName l a = fldName l b → a = b := by
  unfold shortB at h
  simp only [Bool.and_eq_true, decide_eq_true_eq, List.all_eq_true] at h
  obtain ⟨nd, sh⟩ := h
  intro a b e
  by_cases ha : a < l.length <;> by_cases hb : b < l.length
  · rw [fld_in ha, fld_in hb] at e
    exact (List.getElem_inj nd).mp e
  · have e2 : (fldName l a).cps.size = (fldName l b).cps.size := by rw [e]
    rw [fld_in ha, fld_long (Nat.le_of_not_lt hb)] at e2
    have := sh _ (List.getElem_mem ha)
    omega
  · have e2 : (fldName l a).cps.size = (fldName l b).cps.size := by rw [e]
    rw [fld_in hb, fld_long (Nat.le_of_not_lt ha)] at e2
    have := sh _ (List.getElem_mem hb)
    omega
  · have e2 : (fldName l a).cps.size = (fldName l b).cps.size := by rw [e]
    rw [fld_long (Nat.le_of_not_lt ha), fld_long (Nat.le_of_not_lt hb)] at e2
    omega
theorem fld_ne {l : List Str} {m : Str} (h : decide (m ∉ l) && decide (m.cps.size < 100) = true) (f : Nat) : fldName l f ≠ m := by
  simp only [Bool.and_eq_true, decide_eq_true_eq] at h
  intro e
  by_cases hf : f < l.length
  · rw [fld_in hf] at e
    exact h.1 (e ▸ List.getElem_mem hf)
  · have e2 : (fldName l f).cps.size = m.cps.size := by rw [e]
    rw [fld_long (Nat.le_of_not_lt hf)] at e2
    omega
def gcOf (K : PySem.W.Frag) (cl : List Str) (l : List Str) (exs : List Str) (tt : List (Addr × Str)) (h : shortB l = true) : Gc := ⟨K, fun n => He.ga K ((cl[n]?).getD (cl.headD "")), fldName l, fun n => He.ga K ((exs[n]?).getD ""), tt, fld_inj h⟩
theorem gc_mem {cl : List Str} (hc : cl ≠ []) (n : Nat) : (cl[n]?).getD (cl.headD "") ∈ cl := by
  cases e : cl[n]? with
  | some x => exact List.mem_of_getElem? e
  | none =>
    cases cl with
    | nil => exact absurd rfl hc
    | cons x xs => exact List.mem_cons_self
theorem clo_of {X : Cx} {K : PySem.W.Frag} {cl l exs : List Str} {tt : List (Addr × Str)} {h : shortB l = true} (hc : cl ≠ []) (hK : X.K = K) (c1 : ∀ x ∈ cl, Cls K (He.ga K x)) (c2 : cl.all (clsX K) = true) (c : Nat) : ClsOk X (gcOf K cl l exs tt h) c := by
  have m := gc_mem hc c
  have c2 := List.all_eq_true.mp c2 _ m
  unfold clsX at c2
  obtain ⟨a1, a2⟩ := He.ba c2
  obtain ⟨b1, b2⟩ := He.ba a2
  obtain ⟨d1, d2⟩ := He.ba b2
  obtain ⟨e1, e2⟩ := He.ba d2
  obtain ⟨f1, f2⟩ := He.ba e2
  rw [← hK] at c1 a1 b1 d1 e1 f1
  refine ⟨?_, ?_, ?_, ?_, ?_, ?_⟩
  · show Cls X.K (He.ga K _)
    rw [← hK]
    exact c1 _ m
  · show PySem.W.findIn X.K (.ref (He.ga K _)) _ = _
    rw [← hK]
    exact He.eqO_ok a1
  · exact He.eqO_ok b1
  · exact of_decide_eq_true d1
  · show PySem.W.mroIn X.K (He.ga K _) _ = _
    rw [← hK]
    exact of_decide_eq_true e1
  · show PySem.W.findIn X.K (.ref (He.ga K _)) _ = _
    rw [← hK]
    exact He.eqO_ok f1
/-! ### def by def -/
structure St (P : Program) (w : World) (K : PySem.W.Frag) (mg : Str → Option Value) (base : Heap) (G : Gc) (Fs : List MP.Fn) (T : Tb) : Prop where
  ok : ∀ X : Cx, X.prog = P → X.w = w → X.K = K → X.mg = mg → X.base = base → TOk X G Fs T
  b1 : ∀ q ∈ T.call, q.1 < Fs.length
  b2 : ∀ q ∈ T.new, q.1 < Fs.length
  b3 : ∀ q ∈ T.meth, q.1 < Fs.length
  b4 : ∀ q ∈ T.callK, q.1 < Fs.length
section
variable {P : Program} {w : World} {K : PySem.W.Frag} {mg : Str → Option Value} {base : Heap} {G : Gc} {Fs : List MP.Fn} {T : Tb} {x qual m : Str} {params : Arguments} {body : List Stmt} {scope : Scope} {kws : List (Str × V)} {f : Addr} {fd : FuncData} {N ps : List Str} {k c : Nat} {b : List MP.S}
theorem getD_app {fn : MP.Fn} {k : Nat} (h : k < Fs.length) : (Fs ++ [fn]).getD k MP.badF = Fs.getD k MP.badF := by
  simp only [List.getD_eq_getElem?_getD, List.getElem?_append_left h]
theorem getD_new {fn : MP.Fn} : (Fs ++ [fn]).getD Fs.length MP.badF = fn := by
  simp only [List.getD_eq_getElem?_getD, List.getElem?_append_right (Nat.le_refl _), Nat.sub_self]
  rfl
theorem TOk.wide {X : Cx} {fn : MP.Fn} (h : TOk X G Fs T) (b1 : ∀ q ∈ T.call, q.1 < Fs.length) (b2 : ∀ q ∈ T.new, q.1 < Fs.length) (b3 : ∀ q ∈ T.meth, q.1 < Fs.length) (b4 : ∀ q ∈ T.callK, q.1 < Fs.length) : TOk X G (Fs ++ [fn]) T :=
  ⟨h.con, fun k x lv m => by rw [getD_app (b1 _ m)]; exact h.call k x lv m, fun k c x lv m => by rw [getD_app (b2 _ m)]; exact h.new k c x lv m, fun k c x lv m => by rw [getD_app (b3 _ m)]; exact h.meth k c x lv m, h.fld, h.clo, h.isc, h.free, fun k x n ks pat lv m => by rw [getD_app (b4 _ m)]; exact h.callK k x n ks pat lv m⟩
theorem St.skip (h : St P w K mg base G Fs T) (fn : MP.Fn) : St P w K mg base G (Fs ++ [fn]) T :=
  ⟨fun X e1 e2 e3 e4 e5 => (h.ok X e1 e2 e3 e4 e5).wide h.b1 h.b2 h.b3 h.b4, fun q hq => by have := h.b1 q hq; simp; omega, fun q hq => by have := h.b2 q hq; simp; omega, fun q hq => by have := h.b3 q hq; simp; omega, fun q hq => by have := h.b4 q hq; simp; omega⟩
theorem St.pushC {fn : MP.Fn} {lv : Nat} (h : St P w K mg base G Fs T) (hC : ∀ X : Cx, X.prog = P → X.w = w → X.K = K → X.mg = mg → X.base = base → CallOk X G lv x fn) : St P w K mg base G (Fs ++ [fn]) { T with call := (Fs.length, x, lv) :: T.call } := by
  have h2 := h.skip fn
  refine ⟨fun X e1 e2 e3 e4 e5 => ?_, fun q hq => ?_, h2.b2, h2.b3, h2.b4⟩
  · have t := h2.ok X e1 e2 e3 e4 e5
    refine ⟨t.con, fun k y lv' m => ?_, t.new, t.meth, t.fld, t.clo, t.isc, t.free, t.callK⟩
    rcases List.mem_cons.mp m with e | m
    · cases e
      rw [getD_new]
      exact hC X e1 e2 e3 e4 e5
    · exact t.call k y lv' m
  · rcases List.mem_cons.mp hq with e | m
    · rw [e]
      simp
    · exact h2.b1 q m
theorem St.pushN {fn : MP.Fn} {lv : Nat} (h : St P w K mg base G Fs T) (hC : ∀ X : Cx, X.prog = P → X.w = w → X.K = K → X.mg = mg → X.base = base → MkOk X G lv c x fn) : St P w K mg base G (Fs ++ [fn]) { T with new := (Fs.length, c, x, lv) :: T.new } := by
  have h2 := h.skip fn
  refine ⟨fun X e1 e2 e3 e4 e5 => ?_, h2.b1, fun q hq => ?_, h2.b3, h2.b4⟩
  · have t := h2.ok X e1 e2 e3 e4 e5
    refine ⟨t.con, t.call, fun k c' y lv' m => ?_, t.meth, t.fld, t.clo, t.isc, t.free, t.callK⟩
    rcases List.mem_cons.mp m with e | m
    · cases e
      rw [getD_new]
      exact hC X e1 e2 e3 e4 e5
    · exact t.new k c' y lv' m
  · rcases List.mem_cons.mp hq with e | m
    · rw [e]
      simp
    · exact h2.b2 q m
theorem St.pushM {fn : MP.Fn} {lv : Nat} (h : St P w K mg base G Fs T) (hC : ∀ X : Cx, X.prog = P → X.w = w → X.K = K → X.mg = mg → X.base = base → MethOk X G lv c m fn) : St P w K mg base G (Fs ++ [fn]) { T with meth := (Fs.length, c, m, lv) :: T.meth } := by
  have h2 := h.skip fn
  refine ⟨fun X e1 e2 e3 e4 e5 => ?_, h2.b1, h2.b2, fun q hq => ?_, h2.b4⟩
  · have t := h2.ok X e1 e2 e3 e4 e5
    refine ⟨t.con, t.call, t.new, fun k c' y lv' m => ?_, t.fld, t.clo, t.isc, t.free, t.callK⟩
    rcases List.mem_cons.mp m with e | m
    · cases e
      rw [getD_new]
      exact hC X e1 e2 e3 e4 e5
    · exact t.meth k c' y lv' m
  · rcases List.mem_cons.mp hq with e | m
    · rw [e]
      simp
    · exact h2.b3 q m
/-- a call with keywords of a def that is there -/
theorem St.addK {fn : MP.Fn} {lv n j : Nat} {ks : List Str} {pat : List MP.Pa} {g : List Value → List Value → List Value} {gV : List V → List V → List V} (h : St P w K mg base G Fs T) (hj : j < Fs.length) (ej : Fs.getD j MP.badF = fn) (O : FnOk P w K mg base (L2.CX P w) lv f fd ps (spOf G fn)) (gm : mg x = some (.ref f)) (kp : PySem.W.keepIn K (.ref f) = true) (hb : KBn K fd ps n ks g gV)
    (hi : ∀ (m : List Addr) (F : Hp) (as bs args : List MP.MV) (vs zs : List V), VRs G m F as vs → VRs G m F bs zs → as.length = n → bs.length = ks.length → MP.pickP pat (as ++ bs) = some args → VRs G m F args (gV vs zs)) :
    St P w K mg base G Fs { T with callK := (j, x, n, ks, pat, lv) :: T.callK } := by
  refine ⟨fun X e1 e2 e3 e4 e5 => ?_, h.b1, h.b2, h.b3, fun q hq => ?_⟩
  · have t := h.ok X e1 e2 e3 e4 e5
    refine ⟨t.con, t.call, t.new, t.meth, t.fld, t.clo, t.isc, t.free, fun k y n' ks' pat' lv' m => ?_⟩
    rcases List.mem_cons.mp m with e | m
    · cases e
      rw [ej]
      subst e1 e2 e3 e4 e5
      exact ⟨f, fd, ps, g, gV, O, gm, kp, hb, hi⟩
    · exact t.callK _ _ _ _ _ _ m
  · rcases List.mem_cons.mp hq with e | m
    · rw [e]
      exact hj
    · exact h.b4 q m
/-- a def of the module -/
theorem St.stepC {dvs : List V} (h : St P w K mg base G Fs T) (F : FunD K x qual params body scope dvs kws f fd) (S : C8.scC N ps scope = true) (hK : K = G.K) (hm : mL b ⟨N, scope, none, k, T, false⟩ body = true) (gm : mg x = some (.ref f)) (hb : Binds K fd ps []) :
    St P w K mg base G (Fs ++ [MP.runDef Fs ps.length N.length b]) { T with call := (Fs.length, x, k + 1) :: T.call } := by
  have O := def_ok (P := P) (w := w) (mg := mg) (base := base) F S hK hm (fun e => by cases e) h.ok
  have kp := F.kp
  refine h.pushC fun X e1 e2 e3 e4 e5 => ?_
  subst e1 e2 e3 e4 e5
  exact ⟨f, fd, ps, _, [], [], O, gm, kp, hb, .nil, fun vs H Q E h => by rw [List.append_nil]; exact h⟩
/-- .. with a lambda in it -/
theorem St.stepL {dvs : List V} {lam : Bool} (h : St P w K mg base G Fs T) (F : FunD K x qual params body scope dvs kws f fd) (S : C8.scC N ps scope = true) (hK : K = G.K) (hm : mL b ⟨N, scope, none, k, T, lam⟩ body = true) (hlam : lam = true → ∃ P, LamAt G base mg qual fd P) (gm : mg x = some (.ref f)) (hb : Binds K fd ps []) :
    St P w K mg base G (Fs ++ [MP.runDef Fs ps.length N.length b]) { T with call := (Fs.length, x, k + 1) :: T.call } := by
  have O := def_ok (P := P) (w := w) (mg := mg) (base := base) F S hK hm hlam h.ok
  have kp := F.kp
  refine h.pushC fun X e1 e2 e3 e4 e5 => ?_
  subst e1 e2 e3 e4 e5
  exact ⟨f, fd, ps, _, [], [], O, gm, kp, hb, .nil, fun vs H Q E h => by rw [List.append_nil]; exact h⟩
/-- .. with a value put in behind -/
theorem St.stepD {dvs : List V} {vs0 : List V} {ms : List MP.MV} {ds : List Value} (h : St P w K mg base G Fs T) (F : FunD K x qual params body scope dvs kws f fd) (S : C8.scC N ps scope = true) (hK : K = G.K) (hm : mL b ⟨N, scope, none, k, T, false⟩ body = true) (gm : mg x = some (.ref f)) (hv : Vals vs0 ds) (hb : Binds K fd ps ds)
    (hr : ∀ m F, VRs G m F ms vs0) :
    St P w K mg base G (Fs ++ [fun args hp => MP.runDef Fs ps.length N.length b (args ++ ms) hp]) { T with call := (Fs.length, x, k + 1) :: T.call } := by
  have O := def_ok (P := P) (w := w) (mg := mg) (base := base) F S hK hm (fun e => by cases e) h.ok
  have kp := F.kp
  refine h.pushC fun X e1 e2 e3 e4 e5 => ?_
  subst e1 e2 e3 e4 e5
  refine ⟨f, fd, ps, _, vs0, ds, O, gm, kp, hb, hv, fun vs H Q E h => ?_⟩
  obtain ⟨w, σ, args, g, r, q⟩ := h
  exact ⟨w, σ, args ++ ms, g, r.append (hr _ _), q⟩
theorem St.stepM {dvs : List V} (h : St P w K mg base G Fs T) (F : FunD K x qual params body scope dvs kws f fd) (S : C8.scC N ps scope = true) (hK : K = G.K) (hm : mL b ⟨N, scope, none, k, T, false⟩ body = true) (M : Meth K (G.C c) m f) (hc : Cls K (G.C c)) (nof : ∀ f, G.fn f ≠ m) (hb : Binds K fd ps []) :
    St P w K mg base G (Fs ++ [MP.runDef Fs ps.length N.length b]) { T with meth := (Fs.length, c, m, k + 1) :: T.meth } := by
  have O := def_ok (P := P) (w := w) (mg := mg) (base := base) F S hK hm (fun e => by cases e) h.ok
  refine h.pushM fun X e1 e2 e3 e4 e5 => ?_
  subst e1 e2 e3 e4 e5
  exact ⟨⟨f, fd, ps, _, [], [], O, M, hb, .nil, fun vs H Q E h => by rw [List.append_nil]; exact h⟩, hc, nof⟩
theorem St.stepN {dvs : List V} {y : Str} (h : St P w K mg base G Fs T) (F : FunD K y qual params body scope dvs kws f fd) (S : C8.scC N ps scope = true) (hK : K = G.K) (hm : mL b ⟨N, scope, none, k, T, false⟩ body = true) (M : Mk K (G.C c) f) (gm : mg x = some (.ref (G.C c))) (hb : Binds K fd ps []) :
    St P w K mg base G (Fs ++ [MP.runDef Fs ps.length N.length b]) { T with new := (Fs.length, c, x, k + 1) :: T.new } := by
  have O := def_ok (P := P) (w := w) (mg := mg) (base := base) F S hK hm (fun e => by cases e) h.ok
  refine h.pushN fun X e1 e2 e3 e4 e5 => ?_
  subst e1 e2 e3 e4 e5
  exact ⟨f, fd, ps, _, [], [], O, M, gm, hb, .nil, fun vs H Q E h => by rw [List.append_nil]; exact h⟩
/-- at first -/
theorem St.start {cl l exs fr : List Str} {tt : List (Addr × Str)} {con : List (Str × MP.MV)} {fl : List (Nat × Str)} {cs : List (Nat × Str)} {hs : shortB l = true} (hc : cl ≠ []) (c1 : ∀ x ∈ cl, Cls K (He.ga K x)) (c2 : cl.all (clsX K) = true)
    (h1 : ∀ x v, (x, v) ∈ con → ∃ u vv, mg x = some u ∧ RelV vv u ∧ ∀ m F, VR (gcOf K cl l exs tt hs) m F v vv) (h2 : ∀ f x, (f, x) ∈ fl → fldName l f = x) (h3 : ∀ f x, (f, x) ∈ fl → ∀ y ∈ cl, NoAttr K (He.ga K y) x)
    (h4 : ∀ c x, (c, x) ∈ cs → (cl[c]?).getD (cl.headD "") = x ∧ mg x = some (.ref (He.ga K x))) (h5 : ∀ x ∈ fr, mg x = none) : St P w K mg base (gcOf K cl l exs tt hs) [] ⟨con, [], [], [], fl, cs, fr, []⟩ := by
  refine ⟨fun X e1 e2 e3 e4 e5 => ?_, fun q h => (by cases h), fun q h => (by cases h), fun q h => (by cases h), fun q h => (by cases h)⟩
  subst e1 e2 e4 e5
  refine ⟨h1, fun _ _ _ h => (by cases h), fun _ _ _ _ h => (by cases h), fun _ _ _ _ h => (by cases h), fun f x h => ⟨h2 f x h, fun c => ?_⟩, clo_of hc e3 c1 c2, fun c x h => ?_, h5, fun _ _ _ _ _ _ h => (by cases h)⟩
  · show NoAttr X.K (He.ga K _) x
    rw [e3]
    exact h3 f x h _ (gc_mem hc c)
  · obtain ⟨a1, a2⟩ := h4 c x h
    show X.mg x = some (.ref (He.ga K ((cl[c]?).getD (cl.headD "")))) ∧ PySem.W.kitOne X.K (.ref (He.ga K ((cl[c]?).getD (cl.headD "")))) (.ref (He.ga K ((cl[c]?).getD (cl.headD "")))) = some true
    have c3 := List.all_eq_true.mp c2 _ (gc_mem hc c)
    rw [a1] at c3 ⊢
    refine ⟨a2, ?_⟩
    unfold clsX at c3
    rw [e3]
    exact of_decide_eq_true (He.ba (He.ba (He.ba (He.ba (He.ba c3).2).2).2).2).2
/-- what leaves a def, in whatever world -/
def CXW (P : Program) : CXT := fun outer H s E u s' => ∃ w, L2.CX P w outer H s E u s'
theorem fn_cxw {sp : Sp} (F : FnOk P w K mg base (L2.CX P w) k f fd ps sp) : FnOk P w K mg base (CXW P) k f fd ps sp := by
  refine ⟨F.len, fun A outer s H args us vs Q E hr e0 hb r h => codeAny_mono (F.run A outer s H args us vs Q E hr e0 hb r h) fun r s' hq => ?_⟩
  cases r with
  | error e => exact ⟨w, hq⟩
  | ok fl => cases fl <;> exact hq
/-- the law's own def: what the walk's end asks -/
theorem law_sp {Fn : MP.Fn} {H : Hp} {a : Addr} {ns : List Int} (hT : ∀ p ∈ G.T, H p.1 = some (.tbl #[])) (hS : SqL G.K H a (ns.map V.int)) (h : ∃ hp, Fn [.rol (ns.map MP.MV.int)] [] = .ok (.bl true) hp) : spOf G Fn [.ref a] H (fun v _ => v = .bl true) fun _ _ _ => False := by
  obtain ⟨F, eF⟩ : ∃ F : Hp, F = fun b => if b ∈ G.tabs then none else H b := ⟨_, rfl⟩
  have fT : ∀ b, b ∈ G.tabs → F b = none := fun b hb => by rw [eF]; exact if_pos hb
  have fN : ∀ b, b ∉ G.tabs → F b = H b := fun b hb => by rw [eF]; exact if_neg hb
  have hSame : Same F H := fun b o e => by
    by_cases hb : b ∈ G.tabs
    · rw [fT b hb] at e
      cases e
    · rw [fN b hb] at e
      exact e
  have hS' : SqL G.K F a (ns.map V.int) := by
    have nt : (∀ ps, H a ≠ some (.tbl ps)) → a ∉ G.tabs := fun h z => by
      obtain ⟨q, hq, rfl⟩ := List.mem_map.mp z
      exact h _ (hT q hq)
    rcases hS with (h | ⟨o, h⟩) | h
    · exact .inl (.inl (by rw [fN a (nt fun ps z => by rw [h] at z; cases z)]; exact h))
    · exact .inl (.inr ⟨o, by rw [fN a (nt fun ps z => by rw [h] at z; cases z)]; exact h⟩)
    · exact .inr h
  refine ⟨Wd.bare F H, [], [.rol (ns.map MP.MV.int)], ⟨hSame, rfl, .nil, fun i o a h => by simp [Wd.bare] at h, fun a h => by simp [Wd.bare] at h, fun a o h => by simp [Wd.bare] at h, ⟨rfl, fun i v h => by simp [Wd.bare] at h, fun i v h => by simp [Wd.bare] at h, fun i j o o' a h => by simp [Wd.bare] at h⟩,
    Pre.refl _, Same.refl _, fun _ _ _ _ h => h, fun a h => by simp [Wd.bare] at h, fun a h => by simp [Wd.bare] at h, fun a h => .inl h, fun p hp => ⟨⟨#[], hT p hp, True.intro, fun pos cv hc => by simp [codeAmong] at hc⟩, fT _ (List.mem_map.mpr ⟨p, hp, rfl⟩), by simp [Wd.bare], rfl⟩⟩, .cons (.rol hS' (VRs.ofInts ns)) .nil, ?_⟩
  obtain ⟨hp, e⟩ := h
  show EPost G (VR G) (Wd.bare F H) [] (Fn [.rol (ns.map MP.MV.int)] []) _ _
  rw [e]
  intro m F H' x p s g r
  cases r
  rfl
end
end MPS
end

section
set_option Elab.async false
set_option linter.all false
set_option maxRecDepth 100000
set_option maxHeartbeats 4000000
set_option autoImplicit false
namespace MPS
open PySem PySem.Spec PyProof.Rows L2
/-! ### the end with tables -/
def qLam (x : Str) : Str := x ++ ".<locals>." ++ "<lambda>"
def tabsOf (K : PySem.W.Frag) (tf : List He.Defn) : List (Addr × Str) := tf.map fun p => ((He.cT K p).2, qLam p.1)
def exL (cl : List Str) (tf : List He.Defn) (K : PySem.W.Frag) : Bool := cl.all (clsX K) && decide (tf.map fun p => (He.cT K p).2).Nodup
theorem exL_cl {cl : List Str} {tf : List He.Defn} {K : PySem.W.Frag} (h : exL cl tf K = true) : cl.all (clsX K) = true := (He.ba h).1
theorem exL_nd {cl : List Str} {tf : List He.Defn} {K : PySem.W.Frag} (h : exL cl tf K = true) : (tf.map fun p => (He.cT K p).2).Nodup := of_decide_eq_true (He.ba h).2
theorem tabs_one {K : PySem.W.Frag} : ∀ {tf : List He.Defn}, (tf.map fun p => (He.cT K p).2).Nodup → ∀ {d : He.Defn}, d ∈ tf → ∀ p ∈ tabsOf K tf, p.1 = (He.cT K d).2 → p.2 = qLam d.1
  | [], _, d, hd, _, _, _ => by cases hd
  | t :: tf, nd, d, hd, p, hp, e => by
    have nd' := List.nodup_cons.mp nd
    have hp : p ∈ ((He.cT K t).2, qLam t.1) :: tabsOf K tf := hp
    rcases List.mem_cons.mp hd with rfl | hd <;> rcases List.mem_cons.mp hp with rfl | hp
    · rfl
    · exfalso
      obtain ⟨q, hq, rfl⟩ := List.mem_map.mp hp
      exact nd'.1 (List.mem_map.mpr ⟨q, hq, e⟩)
    · exfalso
      exact nd'.1 (List.mem_map.mpr ⟨d, hd, e.symm⟩)
    · exact tabs_one nd'.2 hd p hp e
theorem lam_at {K : PySem.W.Frag} {mg : Str → Option Value} {base : Heap} {G : Gc} {tf : List He.Defn} {x y : Str} {params : Arguments} {body : List Stmt} {scope : Scope} {dvs : List V} {kws : List (Str × V)} {fd : FuncData} (hG : G.T = tabsOf K tf) (nd : (tf.map fun p => (He.cT K p).2).Nodup) (hd : (x, none) ∈ tf)
    (D : FunD K y x params body scope dvs kws (He.fAd K (x, none)) fd) (TB : ∀ p ∈ tf.map (He.cT K), LamX.TabB base mg p.1 p.2) : ∃ P, LamAt G base mg x fd P := by
  obtain ⟨oc, od, dV, kV, doc, pm, an, cdv, ct, osl, e1, lk, hcd, _, _⟩ := D.ex
  obtain ⟨c, rfl⟩ := He.codeIn_ref hcd
  have e2 : fd.code = .ref c := by rw [e1]
  have e3 := He.codeOf_eq lk e2
  refine ⟨(He.cT K (x, none)).2, ?_, fun p hp hpe => ?_, c, e2, ?_⟩
  · rw [hG]
    exact List.mem_map.mpr ⟨_, hd, rfl⟩
  · rw [hG] at hp
    exact tabs_one nd hd p hp hpe
  · have := TB _ (List.mem_map.mpr ⟨_, hd, rfl⟩)
    rw [show (He.cT K (x, none)).1 = c from e3] at this
    exact this
end MPS
end

section
set_option Elab.async false
set_option linter.all false
set_option maxRecDepth 100000
/-! P0: the program, in the small language (printed by gen.py). -/
namespace MP
def fnAt (Fs : List Fn) (k : Nat) : Fn := Fs.getD k badF
def F0 : List Fn := []
/-- is_number(thing, least, most); slots thing, least, most -/
def b_is_number : List S := [.ret (.bop true [.isi .int (.var 0), .not (.isi .bool (.var 0)), .chn .le .le (.var 1) (.var 0) (.var 2)])]
def f_is_number : Fn := runDef F0 3 3 b_is_number
def F1 : List Fn := F0 ++ [f_is_number]
/-- is_lot(thing, least, most); slots thing, least, most, one, other -/
def b_is_lot : List S := [.ifs (.bop false [.not (.isi .tuple (.var 0)), .not (.blt .all [.comp false (.call 0 false [.var 3, .var 1, .var 2]) (.nm 3) [3] .seq (.var 0) (.con .non) []])]) [.ret (.con (.bl false))] [], .ret (.blt .all [.comp false (.cmp .lt (.var 3) (.var 4)) (.tp [.nm 3, .nm 4]) [3, 4] .zip (.var 0) (.slc .lo (.var 0) (.con (.int 1)) (.con .non)) []])]
@[simp] theorem g1_0 : fnAt F1 0 = f_is_number := rfl
def f_is_lot : Fn := runDef F1 3 5 b_is_lot
def F2 : List Fn := F1 ++ [f_is_lot]
/-- is_edition(thing, number); slots thing, number, base, taking, leaving, one -/
def b_is_edition : List S := [.ifs (.bop false [.not (.isi .tuple (.var 0)), .cmp .ne (.blt .len [.var 0]) (.con (.int 3)), .not (.call 0 false [.idx (.var 0) (.con (.int 0)), .con (.int 0), .bin .sub (.var 1) (.con (.int 1))])]) [.ret (.con (.bl false))] [], .asg (.tp [.nm 2, .nm 3, .nm 4]) (.var 0), .ifs (.bop false [.not (.call 1 false [.var 3, .con (.int 1), .bin .sub (.var 1) (.con (.int 1))]), .not (.call 1 false [.var 4, .con (.int 1), .bin .sub (.var 1) (.con (.int 1))])]) [.ret (.con (.bl false))] [], .ret (.bop true [.cmp .notin (.var 2) (.bin .add (.var 3) (.var 4)), .not (.blt .any [.comp false (.cmp .isin (.var 5) (.var 4)) (.nm 5) [5] .seq (.var 3) (.con .non) []])])]
@[simp] theorem g2_0 : fnAt F2 0 = f_is_number := rfl
@[simp] theorem g2_1 : fnAt F2 1 = f_is_lot := rfl
def f_is_edition : Fn := runDef F2 2 6 b_is_edition
def F3 : List Fn := F2 ++ [f_is_edition]
/-- is_text(thing); slots thing -/
def b_is_text : List S := [.ret (.bop true [.isi .str (.var 0), .cmp .le (.blt .len [.var 0]) (.glo 0 (.int 60)), .cmp .notin (.con (.str [10])) (.var 0)])]
def f_is_text : Fn := runDef F3 1 1 b_is_text
def F4 : List Fn := F3 ++ [f_is_text]
/-- is_row(thing, many); slots thing, many -/
def b_is_row : List S := [.ifs (.bop false [.not (.isi .tuple (.var 0)), .cmp .ne (.blt .len [.var 0]) (.con (.int 3)), .not (.call 0 false [.idx (.var 0) (.con (.int 0)), .con (.int 1), .var 1])]) [.ret (.con (.bl false))] [], .ret (.bop true [.call 1 false [.idx (.var 0) (.con (.int 1)), .bin .add (.idx (.var 0) (.con (.int 0))) (.con (.int 1)), .var 1], .call 3 false [.idx (.var 0) (.con (.int 2))]])]
@[simp] theorem g4_0 : fnAt F4 0 = f_is_number := rfl
@[simp] theorem g4_1 : fnAt F4 1 = f_is_lot := rfl
@[simp] theorem g4_3 : fnAt F4 3 = f_is_text := rfl
def f_is_row : Fn := runDef F4 2 2 b_is_row
def F5 : List Fn := F4 ++ [f_is_row]
/-- check_weave(editions, rows); slots editions, rows, at, edition, row -/
def b_check_weave : List S := [.ifs (.not (.isi .list (.var 0))) [.never] [], .for (.tp [.nm 2, .nm 3]) .enm (.var 0) (.con .non) [2, 3] [.ifs (.bop false [.cmp .eq (.var 2) (.glo 0 (.int 9)), .not (.call 2 false [.var 3, .bin .add (.var 2) (.con (.int 1))])]) [.never] []], .ifs (.not (.isi .list (.var 1))) [.never] [], .for (.tp [.nm 2, .nm 4]) .enm (.var 1) (.con .non) [4] [.ifs (.bop false [.cmp .eq (.var 2) (.glo 0 (.int 200)), .not (.call 4 false [.var 4, .blt .len [.var 0]])]) [.never] []]]
@[simp] theorem g5_2 : fnAt F5 2 = f_is_edition := rfl
@[simp] theorem g5_4 : fnAt F5 4 = f_is_row := rfl
def f_check_weave : Fn := runDef F5 2 5 b_check_weave
def F6 : List Fn := F5 ++ [f_check_weave]
/-- Weave.__init__(self, editions, rows); slots self, editions, rows -/
def b_Weave_init : List S := [.exp (.call 5 false [.var 1, .var 2]), .setF (.var 0) 0 (.blt .list [.var 1]), .setF (.var 0) 1 (.blt .list [.var 2])]
@[simp] theorem g6_5 : fnAt F6 5 = f_check_weave := rfl
def f_Weave_init : Fn := runDef F6 3 3 b_Weave_init
def F7 : List Fn := F6 ++ [f_Weave_init]
/-- Weave.__len__(self); slots self -/
def b_Weave_len : List S := [.ret (.blt .len [.fld (.var 0) 0])]
def f_Weave_len : Fn := runDef F7 1 1 b_Weave_len
def F8 : List Fn := F7 ++ [f_Weave_len]
/-- Weave.__eq__(self, other); slots self, other -/
def b_Weave_eq : List S := [.ifs (.not (.isi (.cls 0) (.var 1))) [.ret (.con (.bl false))] [], .ret (.bop true [.cmp .eq (.fld (.var 0) 0) (.fld (.var 1) 0), .cmp .eq (.fld (.var 0) 1) (.fld (.var 1) 1)])]
def f_Weave_eq : Fn := runDef F8 2 2 b_Weave_eq
def F9 : List Fn := F8 ++ [f_Weave_eq]
/-- Weave.editions(self); slots self -/
def b_Weave_editions : List S := [.ret (.blt .listR [.fld (.var 0) 0])]
def f_Weave_editions : Fn := runDef F9 1 1 b_Weave_editions
def F10 : List Fn := F9 ++ [f_Weave_editions]
/-- Weave.rows(self); slots self -/
def b_Weave_rows : List S := [.ret (.blt .listR [.fld (.var 0) 1])]
def f_Weave_rows : Fn := runDef F10 1 1 b_Weave_rows
def F11 : List Fn := F10 ++ [f_Weave_rows]
/-- check_number(weave, number, least); slots weave, number, least -/
def b_check_number : List S := [.ifs (.not (.call 0 false [.var 1, .var 2, .blt .len [.fld (.var 0) 0]])) [.never] []]
@[simp] theorem g11_0 : fnAt F11 0 = f_is_number := rfl
def f_check_number : Fn := runDef F11 3 3 b_check_number
def F12 : List Fn := F11 ++ [f_check_number]
/-- check_lot(weave, lot); slots weave, lot -/
def b_check_lot : List S := [.ifs (.not (.call 1 false [.var 1, .con (.int 1), .blt .len [.fld (.var 0) 0]])) [.never] []]
@[simp] theorem g12_1 : fnAt F12 1 = f_is_lot := rfl
def f_check_lot : Fn := runDef F12 2 2 b_check_lot
def F13 : List Fn := F12 ++ [f_check_lot]
/-- lot_from(editions, number); slots editions, number, said, one, other, base, taking, leaving -/
def b_lot_from : List S := [.par [(2, true, .dic false [.var 1, .con (.bl true)]), (3, false, .var 1)], .whl 12 (.cmp .gt (.var 3) (.con (.int 0))) [5, 6, 7, 4] [.asg (.tp [.nm 5, .nm 6, .nm 7]) (.idx (.var 0) (.bin .sub (.var 3) (.con (.int 1)))), .for (.nm 4) .seq (.bin .add (.tup [.var 5]) (.var 6)) (.con .non) [4] [.setI 2 (.var 4) (.oGet 2 (.var 4) (.con (.bl true)))], .for (.nm 4) .seq (.var 7) (.con .non) [] [.setI 2 (.var 4) (.oGet 2 (.var 4) (.con (.bl false)))], .asg (.nm 3) (.var 5)], .ret (.blt .tuple [.comp false (.var 3) (.nm 3) [3] .rng2 (.con (.int 1)) (.bin .add (.var 1) (.con (.int 1))) [.oGet 2 (.var 3) (.con (.bl false))]])]
def f_lot_from : Fn := runDef F13 2 8 b_lot_from
def F14 : List Fn := F13 ++ [f_lot_from]
/-- is_told(row, lot); slots row, lot, one -/
def b_is_told : List S := [.ret (.bop true [.cmp .isin (.idx (.var 0) (.con (.int 0))) (.var 1), .not (.blt .any [.comp false (.cmp .isin (.var 2) (.var 1)) (.nm 2) [2] .seq (.idx (.var 0) (.con (.int 1))) (.con .non) []])])]
def f_is_told : Fn := runDef F14 2 3 b_is_told
def F15 : List Fn := F14 ++ [f_is_told]
/-- check_number'(weave, number, least); slots weave, number, least -/
def f_check_number_d : Fn := fun args h => runDef F15 3 3 b_check_number (args ++ [.int 1]) h
def F16 : List Fn := F15 ++ [f_check_number_d]
/-- lot_of(weave, number); slots weave, number -/
def b_lot_of : List S := [.exp (.call 15 false [.var 0, .var 1]), .ret (.call 13 false [.fld (.var 0) 0, .var 1])]
@[simp] theorem g16_15 : fnAt F16 15 = f_check_number_d := rfl
@[simp] theorem g16_13 : fnAt F16 13 = f_lot_from := rfl
def f_lot_of : Fn := runDef F16 2 2 b_lot_of
def F17 : List Fn := F16 ++ [f_lot_of]
/-- told_rows(weave, lot); slots weave, lot, row -/
def b_told_rows : List S := [.ret (.comp false (.var 2) (.nm 2) [2] .seq (.fld (.var 0) 1) (.con .non) [.call 14 false [.var 2, .var 1]])]
@[simp] theorem g17_14 : fnAt F17 14 = f_is_told := rfl
def f_told_rows : Fn := runDef F17 2 3 b_told_rows
def F18 : List Fn := F17 ++ [f_told_rows]
/-- told(weave, lot); slots weave, lot, owner, strikers, text -/
def b_told : List S := [.exp (.call 12 false [.var 0, .var 1]), .ret (.comp true (.var 4) (.tp [.nm 2, .nm 3, .nm 4]) [2, 3, 4] .seq (.call 17 false [.var 0, .var 1]) (.con .non) [])]
@[simp] theorem g18_12 : fnAt F18 12 = f_check_lot := rfl
@[simp] theorem g18_17 : fnAt F18 17 = f_told_rows := rfl
def f_told : Fn := runDef F18 2 5 b_told
def F19 : List Fn := F18 ++ [f_told]
/-- brought(weave, lot); slots weave, lot, owner, strikers, text -/
def b_brought : List S := [.exp (.call 12 false [.var 0, .var 1]), .ret (.comp true (.tup [.var 4, .var 2]) (.tp [.nm 2, .nm 3, .nm 4]) [2, 3, 4] .seq (.call 17 false [.var 0, .var 1]) (.con .non) [])]
@[simp] theorem g19_12 : fnAt F19 12 = f_check_lot := rfl
@[simp] theorem g19_17 : fnAt F19 17 = f_told_rows := rfl
def f_brought : Fn := runDef F19 2 5 b_brought
def F20 : List Fn := F19 ++ [f_brought]
/-- struck(weave, lot); slots weave, lot, found, owner, strikers, text, some, one -/
def b_struck : List S := [.exp (.call 12 false [.var 0, .var 1]), .asg (.nm 2) (.lstR []), .for (.tp [.nm 3, .nm 4, .nm 5]) .seq (.fld (.var 0) 1) (.con .non) [3, 4, 5, 6] [.asg (.nm 6) (.blt .tuple [.comp false (.var 7) (.nm 7) [7] .seq (.var 4) (.con .non) [.cmp .isin (.var 7) (.var 1)]]), .ifs (.bop true [.cmp .isin (.var 3) (.var 1), .cmp .ne (.var 6) (.tup [])]) [.exp (.app (.var 2) (.tup [.var 5, .var 3, .var 6]))] []], .ret (.var 2)]
@[simp] theorem g20_12 : fnAt F20 12 = f_check_lot := rfl
def f_struck : Fn := runDef F20 2 8 b_struck
def F21 : List Fn := F20 ++ [f_struck]
/-- base_of(weave, base); slots weave, base -/
def b_base_of : List S := [.ret (.ite (.cmp .is (.var 1) (.con .non)) (.blt .len [.fld (.var 0) 0]) (.var 1))]
def f_base_of : Fn := runDef F21 2 2 b_base_of
def F22 : List Fn := F21 ++ [f_base_of]
/-- asked_edition(weave, base, taking, leaving); slots weave, base, taking, leaving -/
def b_asked_edition : List S := [.ret (.tup [.call 21 false [.var 0, .var 1], .blt .tuple [.var 2], .blt .tuple [.var 3]])]
@[simp] theorem g22_21 : fnAt F22 21 = f_base_of := rfl
def f_asked_edition : Fn := runDef F22 4 4 b_asked_edition
def F23 : List Fn := F22 ++ [f_asked_edition]
/-- ground_lot(weave, edition); slots weave, edition -/
def b_ground_lot : List S := [.ret (.slc .hi (.call 13 false [.bin .add (.fld (.var 0) 0) (.lst [.var 1]), .bin .add (.blt .len [.fld (.var 0) 0]) (.con (.int 1))]) (.con .non) (.neg (.con (.int 1))))]
@[simp] theorem g23_13 : fnAt F23 13 = f_lot_from := rfl
def f_ground_lot : Fn := runDef F23 2 2 b_ground_lot
def F24 : List Fn := F23 ++ [f_ground_lot]
/-- many_changed(before, after, lot); slots before, after, lot, row, number, spot, many, old -/
def b_many_changed : List S := [.par [(4, false, .blt .len [.fld (.var 1) 0]), (5, false, .con (.int 0)), (6, false, .con (.int 0))], .for (.nm 3) .seq (.fld (.var 1) 1) (.con .non) [3, 7] [.ifs (.cmp .eq (.idx (.var 3) (.con (.int 0))) (.var 4)) [.aug 6 .add (.con (.int 1))] [.ifs (.cmp .eq (.var 5) (.blt .len [.fld (.var 0) 1])) [.ret (.con .non)] [.asg (.nm 7) (.idx (.fld (.var 0) 1) (.var 5)), .ifs (.cmp .ne (.var 3) (.var 7)) [.ifs (.bop false [.cmp .ne (.var 3) (.tup [.idx (.var 7) (.con (.int 0)), .bin .add (.idx (.var 7) (.con (.int 1))) (.tup [.var 4]), .idx (.var 7) (.con (.int 2))]), .cmp .notin (.var 7) (.call 17 false [.var 0, .var 2])]) [.ret (.con .non)] [], .aug 6 .add (.con (.int 1))] [], .aug 5 .add (.con (.int 1))]]], .ret (.ite (.cmp .eq (.var 5) (.blt .len [.fld (.var 0) 1])) (.var 6) (.con .non))]
@[simp] theorem g24_17 : fnAt F24 17 = f_told_rows := rfl
def f_many_changed : Fn := runDef F24 3 8 b_many_changed
def F25 : List Fn := F24 ++ [f_many_changed]
/-- Woven.__init__(self, after, heights); slots self, after, heights, line -/
def b_Woven_init : List S := [.setF (.var 0) 2 (.var 1), .setF (.var 0) 3 (.comp false (.blt .list [.var 3]) (.nm 3) [3] .seq (.var 2) (.con .non) [])]
def f_Woven_init : Fn := runDef F25 3 4 b_Woven_init
def F26 : List Fn := F25 ++ [f_Woven_init]
/-- steps_of(ground, text, heights); slots ground, text, heights, at, spot, found, ahead, behind, stays -/
def b_steps_of : List S := [.par [(3, false, .blt .len [.var 0]), (4, false, .blt .len [.var 1]), (5, true, .lst []), (6, false, .con (.int 0))], .whl 100 (.bop false [.cmp .gt (.var 3) (.con (.int 0)), .cmp .gt (.var 4) (.con (.int 0))]) [] [.ifs (.bop true [.cmp .gt (.var 3) (.con (.int 0)), .cmp .eq (.idx (.idx (.var 2) (.var 3)) (.var 4)) (.bin .add (.idx (.idx (.var 2) (.bin .sub (.var 3) (.con (.int 1)))) (.var 4)) (.con (.int 1)))]) [.app 5 (.tup [.var 6, .con (.bl false)]), .par [(3, false, .bin .sub (.var 3) (.con (.int 1))), (6, false, .con (.int 0))]] [.ifs (.bop true [.cmp .gt (.var 4) (.con (.int 0)), .cmp .eq (.idx (.idx (.var 2) (.var 3)) (.var 4)) (.bin .add (.idx (.idx (.var 2) (.var 3)) (.bin .sub (.var 4) (.con (.int 1)))) (.con (.int 1)))]) [.par [(4, false, .bin .sub (.var 4) (.con (.int 1))), (6, false, .bin .add (.var 6) (.con (.int 1)))]] [.app 5 (.tup [.var 6, .con (.bl true)]), .par [(3, false, .bin .sub (.var 3) (.con (.int 1))), (4, false, .bin .sub (.var 4) (.con (.int 1))), (6, false, .con (.int 0))]]]], .frz 5, .ret (.tup [.slc .rev (.comp false (.var 7) (.tp [.nm 7, .nm 8]) [7, 8] .seq (.var 5) (.con .non) []) (.con .non) (.con .non), .slc .rev (.comp false (.var 8) (.tp [.nm 7, .nm 8]) [7, 8] .seq (.var 5) (.con .non) []) (.con .non) (.con .non), .var 6])]
def f_steps_of : Fn := runDef F26 3 9 b_steps_of
def F27 : List Fn := F26 ++ [f_steps_of]
/-- check_two(weave, one, other); slots weave, one, other -/
def b_check_two : List S := [.exp (.call 15 false [.var 0, .var 1]), .exp (.call 15 false [.var 0, .var 2])]
@[simp] theorem g27_15 : fnAt F27 15 = f_check_number_d := rfl
def f_check_two : Fn := runDef F27 3 3 b_check_two
def F28 : List Fn := F27 ++ [f_check_two]
/-- joined(weave, one, other); slots weave, one, other, mine, more, number -/
def b_joined : List S := [.exp (.call 27 false [.var 0, .var 1, .var 2]), .ifs (.cmp .eq (.blt .len [.fld (.var 0) 0]) (.glo 0 (.int 9))) [.never] [], .asg (.nm 3) (.call 13 false [.fld (.var 0) 0, .var 1]), .asg (.nm 4) (.blt .tuple [.comp false (.var 5) (.nm 5) [5] .seq (.call 13 false [.fld (.var 0) 0, .var 2]) (.con .non) [.cmp .notin (.var 5) (.var 3)]]), .ret (.new 6 0 true [.bin .add (.fld (.var 0) 0) (.lst [.tup [.var 1, .var 4, .tup []]]), .fld (.var 0) 1])]
@[simp] theorem g28_27 : fnAt F28 27 = f_check_two := rfl
@[simp] theorem g28_13 : fnAt F28 13 = f_lot_from := rfl
@[simp] theorem g28_6 : fnAt F28 6 = f_Weave_init := rfl
def f_joined : Fn := runDef F28 3 6 b_joined
def F29 : List Fn := F28 ++ [f_joined]
/-- clashes(weave, one, other); slots weave, one, other, lots, row, mine, theirs, found, parts, held, part, lot, holds, number -/
def b_clashes : List S := [.exp (.call 27 false [.var 0, .var 1, .var 2]), .par [(5, false, .call 13 false [.fld (.var 0) 0, .var 1]), (6, false, .call 13 false [.fld (.var 0) 0, .var 2])], .asg (.nm 3) (.lst [.blt .tuple [.comp false (.var 13) (.nm 13) [13] .seq (.var 5) (.con .non) [.cmp .isin (.var 13) (.var 6)]], .var 5, .var 6]), .par [(7, true, .lst []), (8, false, .tup [.lstR [], .lstR [], .lstR []])], .for (.nm 4) .seq (.fld (.var 0) 1) (.con .non) [4, 9, 10, 12] [.asg (.nm 9) (.comp false (.call 14 false [.var 4, .var 11]) (.nm 11) [11] .seq (.var 3) (.con .non) []), .ifs (.blt .all [.var 9]) [.app 7 (.var 8), .asg (.nm 8) (.tup [.lstR [], .lstR [], .lstR []])] [.for (.tp [.nm 10, .nm 12]) .zip (.var 8) (.var 9) [10, 12] [.exp (.exR (.var 10) (.ite (.var 12) (.lst [.idx (.var 4) (.con (.int 2))]) (.lst [])))]]], .app 7 (.var 8), .frz 7, .ret (.comp false (.var 10) (.nm 10) [10] .seq (.var 7) (.con .non) [.bop true [.cmp .ne (.idx (.var 10) (.con (.int 0))) (.idx (.var 10) (.con (.int 1))), .cmp .ne (.idx (.var 10) (.con (.int 0))) (.idx (.var 10) (.con (.int 2))), .cmp .ne (.idx (.var 10) (.con (.int 1))) (.idx (.var 10) (.con (.int 2)))]])]
@[simp] theorem g29_27 : fnAt F29 27 = f_check_two := rfl
@[simp] theorem g29_13 : fnAt F29 13 = f_lot_from := rfl
@[simp] theorem g29_14 : fnAt F29 14 = f_is_told := rfl
def f_clashes : Fn := runDef F29 3 14 b_clashes
def F30 : List Fn := F29 ++ [f_clashes]
/-- less(number, gone); slots number, gone -/
def b_less : List S := [.ret (.ite (.cmp .gt (.var 0) (.var 1)) (.bin .sub (.var 0) (.con (.int 1))) (.var 0))]
def f_less : Fn := runDef F30 2 2 b_less
def F31 : List Fn := F30 ++ [f_less]
/-- lot_less(lot, gone); slots lot, gone, one -/
def b_lot_less : List S := [.ret (.blt .tuple [.comp false (.call 30 false [.var 2, .var 1]) (.nm 2) [2] .seq (.var 0) (.con .non) [.cmp .ne (.var 2) (.var 1)]])]
@[simp] theorem g31_30 : fnAt F31 30 = f_less := rfl
def f_lot_less : Fn := runDef F31 2 3 b_lot_less
def F32 : List Fn := F31 ++ [f_lot_less]
/-- cut(weave, number); slots weave, number, editions, rows, at, owner, strikers, text, base, taking, leaving -/
def b_cut : List S := [.exp (.call 15 false [.var 0, .var 1]), .ifs (.blt .any [.comp false (.cmp .isin (.var 1) (.bin .add (.bin .add (.tup [.var 8]) (.var 9)) (.var 10))) (.tp [.nm 8, .nm 9, .nm 10]) [8, 9, 10] .seq (.fld (.var 0) 0) (.con .non) []]) [.never] [], .own 2 (.lst []), .for (.tp [.nm 4, .tp [.nm 8, .nm 9, .nm 10]]) .enm (.fld (.var 0) 0) (.con .non) [4, 8, 9, 10] [.ifs (.cmp .ne (.bin .add (.var 4) (.con (.int 1))) (.var 1)) [.app 2 (.tup [.call 30 false [.var 8, .var 1], .call 31 false [.var 9, .var 1], .call 31 false [.var 10, .var 1]])] []], .own 3 (.lst []), .for (.tp [.nm 5, .nm 6, .nm 7]) .seq (.fld (.var 0) 1) (.con .non) [5, 6, 7] [.ifs (.cmp .ne (.var 5) (.var 1)) [.app 3 (.tup [.call 30 false [.var 5, .var 1], .call 31 false [.var 6, .var 1], .var 7])] []], .frz 2, .frz 3, .ret (.new 6 0 true [.var 2, .var 3])]
@[simp] theorem g32_15 : fnAt F32 15 = f_check_number_d := rfl
@[simp] theorem g32_30 : fnAt F32 30 = f_less := rfl
@[simp] theorem g32_31 : fnAt F32 31 = f_lot_less := rfl
@[simp] theorem g32_6 : fnAt F32 6 = f_Weave_init := rfl
def f_cut : Fn := runDef F32 2 11 b_cut
def F33 : List Fn := F32 ++ [f_cut]
/-- numbers_in(words); slots words, word -/
def b_numbers_in : List S := [.ifs (.not (.blt .all [.comp false (.bop true [.cmp .eq (.blt .len [.var 1]) (.con (.int 1)), .cmp .isin (.var 1) (.glo 0 (.str [49, 50, 51, 52, 53, 54, 55, 56, 57]))]) (.nm 1) [1] .seq (.var 0) (.con .non) []])) [.ret (.con .non)] [], .ret (.blt .tuple [.comp false (.blt .int [.var 1]) (.nm 1) [1] .seq (.var 0) (.con .non) []])]
def f_numbers_in : Fn := runDef F33 1 2 b_numbers_in
def F34 : List Fn := F33 ++ [f_numbers_in]
/-- Reading.__init__(self); slots self -/
def b_Reading_init : List S := [.setF (.var 0) 0 (.lst []), .setF (.var 0) 1 (.lst []), .setF (.var 0) 7 (.con .non), .setF (.var 0) 8 (.lst []), .setF (.var 0) 9 (.con (.bl false))]
def f_Reading_init : Fn := runDef F34 1 1 b_Reading_init
def F35 : List Fn := F34 ++ [f_Reading_init]
/-- Reading.take_text(self, told); slots self, told, row, one -/
def b_Reading_take_text : List S := [.ifs (.bop false [.cmp .is (.fld (.var 0) 7) (.con .non), .cmp .eq (.blt .len [.fld (.var 0) 1]) (.glo 0 (.int 200))]) [.ret (.con (.bl false))] [], .asg (.nm 2) (.tup [.fld (.var 0) 7, .blt .tuple [.blt .sorted [.comp false (.var 3) (.nm 3) [3] .seq (.fld (.var 0) 8) (.con .non) [.cmp .gt (.var 3) (.fld (.var 0) 7)]]], .slc .lo (.var 1) (.con (.int 1)) (.con .non)]), .ifs (.not (.call 4 false [.var 2, .blt .len [.fld (.var 0) 0]])) [.ret (.con (.bl false))] [], .exp (.app (.fld (.var 0) 1) (.var 2)), .ret (.con (.bl true))]
@[simp] theorem g35_4 : fnAt F35 4 = f_is_row := rfl
def f_Reading_take_text : Fn := runDef F35 2 4 b_Reading_take_text
def F36 : List Fn := F35 ++ [f_Reading_take_text]
/-- Reading.take_mark(self, told); slots self, told, number, opened, one -/
def b_Reading_take_mark : List S := [.asg (.nm 2) (.call 33 false [.lst [.slc .lo (.var 1) (.con (.int 1)) (.con .non)]]), .ifs (.bop false [.cmp .is (.var 2) (.con .non), .cmp .gt (.idx (.var 2) (.con (.int 0))) (.blt .len [.fld (.var 0) 0])]) [.ret (.con (.bl false))] [], .asg (.nm 3) (.bin .add (.fld (.var 0) 8) (.ite (.cmp .is (.fld (.var 0) 7) (.con .non)) (.lst []) (.lst [.fld (.var 0) 7]))), .ifs (.cmp .eq (.idx (.var 1) (.con (.int 0))) (.con (.str [46]))) [.ifs (.cmp .notin (.idx (.var 2) (.con (.int 0))) (.var 3)) [.ret (.con (.bl false))] [], .setF (.var 0) 8 (.comp false (.var 4) (.nm 4) [4] .seq (.fld (.var 0) 8) (.con .non) [.cmp .ne (.var 4) (.idx (.var 2) (.con (.int 0)))]), .setF (.var 0) 7 (.ite (.cmp .eq (.fld (.var 0) 7) (.idx (.var 2) (.con (.int 0)))) (.con .non) (.fld (.var 0) 7)), .ret (.con (.bl true))] [], .ifs (.bop false [.cmp .isin (.idx (.var 2) (.con (.int 0))) (.var 3), .bop true [.cmp .eq (.idx (.var 1) (.con (.int 0))) (.con (.str [43])), .cmp .isnot (.fld (.var 0) 7) (.con .non)]]) [.ret (.con (.bl false))] [], .ifs (.cmp .eq (.idx (.var 1) (.con (.int 0))) (.con (.str [43]))) [.setF (.var 0) 7 (.idx (.var 2) (.con (.int 0)))] [.exp (.app (.fld (.var 0) 8) (.idx (.var 2) (.con (.int 0))))], .ret (.con (.bl true))]
@[simp] theorem g36_33 : fnAt F36 33 = f_numbers_in := rfl
def f_Reading_take_mark : Fn := runDef F36 2 5 b_Reading_take_mark
def F37 : List Fn := F36 ++ [f_Reading_take_mark]
/-- Store.__init__(self); slots self -/
def b_Store_init : List S := [.setF (.var 0) 4 (.new 6 0 true [.lst [], .lst []]), .setF (.var 0) 5 (.lst []), .setF (.var 0) 6 (.lst [])]
@[simp] theorem g37_6 : fnAt F37 6 = f_Weave_init := rfl
def f_Store_init : Fn := runDef F37 1 1 b_Store_init
def F38 : List Fn := F37 ++ [f_Store_init]
/-- Store.weave(self); slots self -/
def b_Store_weave : List S := [.ret (.new 6 0 true [.fld (.fld (.var 0) 4) 0, .fld (.fld (.var 0) 4) 1])]
@[simp] theorem g38_6 : fnAt F38 6 = f_Weave_init := rfl
def f_Store_weave : Fn := runDef F38 1 1 b_Store_weave
def F39 : List Fn := F38 ++ [f_Store_weave]
/-- Store.text(self, number); slots self, number, row -/
def b_Store_text : List S := [.ret (.comp false (.idx (.var 2) (.con (.int 2))) (.nm 2) [2] .seq (.call 17 false [.fld (.var 0) 4, .call 16 false [.fld (.var 0) 4, .var 1]]) (.con .non) [])]
@[simp] theorem g39_17 : fnAt F39 17 = f_told_rows := rfl
@[simp] theorem g39_16 : fnAt F39 16 = f_lot_of := rfl
def f_Store_text : Fn := runDef F39 2 3 b_Store_text
def F40 : List Fn := F39 ++ [f_Store_text]
/-- Store.log(self); slots self -/
def b_Store_log : List S := [.ret (.blt .list [.fld (.var 0) 6])]
def f_Store_log : Fn := runDef F40 1 1 b_Store_log
def F41 : List Fn := F40 ++ [f_Store_log]
/-- Store.deeds(self); slots self -/
def b_Store_deeds : List S := [.ret (.blt .len [.fld (.var 0) 5])]
def f_Store_deeds : Fn := runDef F41 1 1 b_Store_deeds
def F42 : List Fn := F41 ++ [f_Store_deeds]
def PF : List Fn := F42
end MP
end

section
set_option Elab.async false
set_option linter.all false
set_option maxRecDepth 100000
/-! the defs of law_k01_whole_told, in the small language (printed by gen.py). -/
namespace MP.k01
/-- _law_draw(_law_cell, _law_k, _law_many); slots _law_cell, _law_k, _law_many, _law_primes -/
def b__law_draw : List S := [.asg (.nm 3) (.tup [.con (.int 1000003), .con (.int 1000033), .con (.int 1000037), .con (.int 1000039), .con (.int 1000081), .con (.int 1000099), .con (.int 1000117), .con (.int 1000121), .con (.int 1000133), .con (.int 1000151), .con (.int 1000159), .con (.int 1000171), .con (.int 1000183), .con (.int 1000187), .con (.int 1000193), .con (.int 1000199)]), .ret (.bin .mod (.bin .mod (.bin .add (.bin .mul (.var 0) (.con (.int 48271))) (.bin .mul (.var 1) (.con (.int 69621)))) (.idx (.var 3) (.bin .mod (.var 1) (.con (.int 16))))) (.var 2))]
def f__law_draw : Fn := runDef PF 3 4 b__law_draw
def F43 : List Fn := PF ++ [f__law_draw]
/-- _law_cell_at(_law_script, _law_k); slots _law_script, _law_k -/
def b__law_cell_at : List S := [.ifs (.cmp .lt (.var 1) (.blt .len [.var 0])) [.ret (.blt .abs [.idx (.var 0) (.var 1)])] [], .ret (.call 42 false [.bin .add (.blt .abs [.blt .sum [.var 0]]) (.bin .mul (.con (.int 7919)) (.var 1)), .var 1, .con (.int 999983)])]
@[simp] theorem g43_42 : fnAt F43 42 = f__law_draw := rfl
def f__law_cell_at : Fn := runDef F43 2 2 b__law_cell_at
def F44 : List Fn := F43 ++ [f__law_cell_at]
/-- _law_digits(_law_script, _law_at, _law_many, _law_root); slots _law_script, _law_at, _law_many, _law_root, _law_left, _law_turn, _law_cell, _law_found, _law_blend, _law_more -/
def b__law_digits : List S := [.par [(6, false, .call 43 false [.var 0, .var 1]), (7, true, .lst [])], .asg (.nm 4) (.bin .sub (.var 6) (.bin .pow (.con (.int 10)) (.con (.int 18)))), .for (.nm 5) .rng1 (.var 2) (.con .non) [5, 8, 9] [.ifs (.cmp .ge (.var 6) (.bin .pow (.con (.int 10)) (.con (.int 18)))) [.app 7 (.bin .mod (.var 4) (.var 3)), .asg (.nm 4) (.bin .fdv (.var 4) (.var 3))] [.asg (.nm 8) (.call 42 false [.bin .mul (.bin .add (.var 6) (.bin .mul (.con (.int 977)) (.var 5))) (.bin .add (.bin .add (.var 6) (.bin .mul (.con (.int 31)) (.var 5))) (.con (.int 5))), .bin .add (.bin .mod (.var 5) (.con (.int 9))) (.con (.int 1)), .con (.int 999983)]), .asg (.nm 9) (.call 42 false [.bin .add (.bin .mul (.bin .add (.var 6) (.bin .mul (.con (.int 31)) (.var 5))) (.bin .add (.var 6) (.con (.int 7)))) (.bin .mul (.con (.int 977)) (.var 5)), .bin .add (.bin .mod (.var 5) (.con (.int 7))) (.con (.int 2)), .con (.int 1000003)]), .app 7 (.bin .mod (.bin .add (.bin .mul (.var 8) (.con (.int 1000003))) (.var 9)) (.var 3))]], .frz 7, .ret (.var 7)]
@[simp] theorem g44_43 : fnAt F44 43 = f__law_cell_at := rfl
@[simp] theorem g44_42 : fnAt F44 42 = f__law_draw := rfl
def f__law_digits : Fn := runDef F44 4 10 b__law_digits
def F45 : List Fn := F44 ++ [f__law_digits]
/-- _law_some(_law_draw_here, _law_many); slots _law_draw_here, _law_many, _law_one -/
def b__law_some : List S := [.ret (.blt .tuple [.comp false (.var 2) (.nm 2) [2] .rng2 (.con (.int 1)) (.bin .add (.var 1) (.con (.int 1))) [.cmp .eq (.bin .band (.bin .shr (.var 0) (.var 2)) (.con (.int 1))) (.con (.int 1))]])]
def f__law_some : Fn := runDef F45 2 3 b__law_some
def F46 : List Fn := F45 ++ [f__law_some]
/-- _law_editions(_law_script, _law_at, _law_many); slots _law_script, _law_at, _law_many, _law_found, _law_turn, _law_draw_here, _law_root, _law_takes, _law_leaves, _law_one -/
def b__law_editions : List S := [.own 3 (.lst []), .for (.tp [.nm 4, .nm 5]) .enm (.call 44 false [.var 0, .var 1, .var 2, .bin .add (.bin .pow (.con (.int 10)) (.con (.int 9))) (.con (.int 7))]) (.con .non) [4, 5, 6, 7, 8] [.asg (.nm 6) (.ite (.cmp .eq (.bin .mod (.var 5) (.con (.int 3))) (.con (.int 0))) (.var 4) (.bin .mod (.bin .fdv (.var 5) (.con (.int 3))) (.bin .add (.var 4) (.con (.int 1))))), .asg (.nm 7) (.comp false (.var 9) (.nm 9) [9] .seq (.call 45 false [.bin .fdv (.var 5) (.con (.int 31)), .var 4]) (.con .non) [.bop true [.cmp .ne (.var 9) (.var 6), .cmp .eq (.bin .mod (.bin .fdv (.var 5) (.con (.int 7))) (.con (.int 2))) (.con (.int 0))]]), .asg (.nm 8) (.comp false (.var 9) (.nm 9) [9] .seq (.call 45 false [.bin .fdv (.var 5) (.con (.int 3001)), .var 4]) (.con .non) [.bop true [.cmp .notin (.var 9) (.bin .add (.var 7) (.lst [.var 6])), .cmp .eq (.bin .mod (.bin .fdv (.var 5) (.con (.int 5))) (.con (.int 2))) (.con (.int 0))]]), .app 3 (.tup [.var 6, .blt .tuple [.var 7], .blt .tuple [.var 8]])], .frz 3, .ret (.var 3)]
@[simp] theorem g46_44 : fnAt F46 44 = f__law_digits := rfl
@[simp] theorem g46_45 : fnAt F46 45 = f__law_some := rfl
def f__law_editions : Fn := runDef F46 3 10 b__law_editions
def F47 : List Fn := F46 ++ [f__law_editions]
/-- _law_words(); slots  -/
def b__law_words : List S := [.ret (.lst [.con (.str [97]), .con (.str [98]), .con (.str []), .con (.str [124]), .con (.str [43, 49]), .con (.str [101, 100, 105, 116, 105, 111, 110, 32, 49, 32, 102, 114, 111, 109, 32, 48]), .con (.str [46]), .con (.str [97, 32, 98]), .con (.str [32]), .con (.str [45])])]
def f__law_words : Fn := runDef F47 0 0 b__law_words
def F48 : List Fn := F47 ++ [f__law_words]
/-- _law_rows(_law_script, _law_at, _law_many, _law_size); slots _law_script, _law_at, _law_many, _law_size, _law_found, _law_draw_here, _law_owner, _law_strikers, _law_one -/
def b__law_rows : List S := [.own 4 (.lst []), .for (.nm 5) .seq (.call 44 false [.var 0, .var 1, .ite (.cmp .gt (.var 2) (.con (.int 0))) (.var 3) (.con (.int 0)), .bin .add (.bin .pow (.con (.int 10)) (.con (.int 9))) (.con (.int 7))]) (.con .non) [5, 6, 7] [.asg (.nm 6) (.bin .add (.con (.int 1)) (.bin .mod (.var 5) (.var 2))), .asg (.nm 7) (.blt .tuple [.comp false (.var 8) (.nm 8) [8] .seq (.call 45 false [.bin .mod (.bin .fdv (.var 5) (.con (.int 11))) (.con (.int 1024)), .var 2]) (.con .non) [.bop true [.cmp .gt (.var 8) (.var 6), .cmp .gt (.bin .mod (.bin .fdv (.var 5) (.con (.int 13))) (.con (.int 3))) (.con (.int 0))]]]), .app 4 (.tup [.var 6, .var 7, .idx (.call 47 false []) (.bin .mod (.bin .fdv (.var 5) (.con (.int 17))) (.ite (.cmp .eq (.bin .mod (.bin .fdv (.var 5) (.con (.int 19))) (.con (.int 3))) (.con (.int 0))) (.con (.int 10)) (.con (.int 3))))])], .frz 4, .ret (.var 4)]
@[simp] theorem g48_44 : fnAt F48 44 = f__law_digits := rfl
@[simp] theorem g48_45 : fnAt F48 45 = f__law_some := rfl
@[simp] theorem g48_47 : fnAt F48 47 = f__law_words := rfl
def f__law_rows : Fn := runDef F48 4 9 b__law_rows
def F49 : List Fn := F48 ++ [f__law_rows]
/-- _law_spoken(_law_edition); slots _law_edition -/
def b__law_spoken : List S := [.ret (.bin .add (.bin .add (.tup [.idx (.var 0) (.con (.int 0))]) (.idx (.var 0) (.con (.int 1)))) (.idx (.var 0) (.con (.int 2))))]
def f__law_spoken : Fn := runDef F49 1 1 b__law_spoken
def F50 : List Fn := F49 ++ [f__law_spoken]
/-- _law_lot(_law_editions_here, _law_number); slots _law_editions_here, _law_number, _law_one, _law_line, _law_inside, _law_voices, _law_other -/
def b__law_lot : List S := [.par [(3, true, .lst [.var 1]), (4, true, .lst [.var 1])], .whl 12 (.cmp .gt (.idx (.idx (.var 0) (.bin .sub (.oIdx 3 (.neg (.con (.int 1)))) (.con (.int 1)))) (.con (.int 0))) (.con (.int 0))) [] [.app 3 (.idx (.idx (.var 0) (.bin .sub (.oIdx 3 (.neg (.con (.int 1)))) (.con (.int 1)))) (.con (.int 0)))], .frz 3, .for (.nm 2) .rng2 (.con (.int 1)) (.var 1) [2, 5] [.asg (.nm 5) (.comp false (.idx (.var 0) (.bin .sub (.var 6) (.con (.int 1)))) (.nm 6) [6] .seq (.var 3) (.con .non) [.cmp .isin (.var 2) (.call 49 false [.idx (.var 0) (.bin .sub (.var 6) (.con (.int 1)))])]), .ifs (.bop true [.cmp .ne (.var 5) (.lst []), .cmp .notin (.var 2) (.idx (.idx (.var 5) (.con (.int 0))) (.con (.int 2)))]) [.app 4 (.var 2)] []], .frz 4, .ret (.blt .tuple [.blt .sorted [.var 4]])]
@[simp] theorem g50_49 : fnAt F50 49 = f__law_spoken := rfl
def f__law_lot : Fn := runDef F50 2 7 b__law_lot
def F51 : List Fn := F50 ++ [f__law_lot]
/-- _law_is_told(_law_row, _law_lot_here); slots _law_row, _law_lot_here, _law_one -/
def b__law_is_told : List S := [.ret (.bop true [.cmp .isin (.idx (.var 0) (.con (.int 0))) (.var 1), .cmp .eq (.comp false (.var 2) (.nm 2) [2] .seq (.idx (.var 0) (.con (.int 1))) (.con .non) [.cmp .isin (.var 2) (.var 1)]) (.lst [])])]
def f__law_is_told : Fn := runDef F51 2 3 b__law_is_told
def F52 : List Fn := F51 ++ [f__law_is_told]
/-- _law_right(_law_weave, _law_rows_here, _law_lot_here); slots _law_weave, _law_rows_here, _law_lot_here, _law_seen, _law_gone, _law_row, _law_one -/
def b__law_right : List S := [.asg (.nm 3) (.comp false (.var 5) (.nm 5) [5] .seq (.var 1) (.con .non) [.call 51 false [.var 5, .var 2]]), .asg (.nm 4) (.comp false (.var 5) (.nm 5) [5] .seq (.var 1) (.con .non) [.bop true [.cmp .isin (.idx (.var 5) (.con (.int 0))) (.var 2), .not (.call 51 false [.var 5, .var 2])]]), .ifs (.bop false [.cmp .ne (.call 18 false [.var 0, .var 2]) (.comp false (.idx (.var 5) (.con (.int 2))) (.nm 5) [5] .seq (.var 3) (.con .non) []), .cmp .ne (.call 19 false [.var 0, .var 2]) (.comp false (.tup [.idx (.var 5) (.con (.int 2)), .idx (.var 5) (.con (.int 0))]) (.nm 5) [5] .seq (.var 3) (.con .non) [])]) [.ret (.con (.bl false))] [], .ret (.cmp .eq (.call 20 false [.var 0, .var 2]) (.comp false (.tup [.idx (.var 5) (.con (.int 2)), .idx (.var 5) (.con (.int 0)), .blt .tuple [.comp false (.var 6) (.nm 6) [6] .seq (.idx (.var 5) (.con (.int 1))) (.con .non) [.cmp .isin (.var 6) (.var 2)]]]) (.nm 5) [5] .seq (.var 4) (.con .non) []))]
@[simp] theorem g52_51 : fnAt F52 51 = f__law_is_told := rfl
@[simp] theorem g52_18 : fnAt F52 18 = f_told := rfl
@[simp] theorem g52_19 : fnAt F52 19 = f_brought := rfl
@[simp] theorem g52_20 : fnAt F52 20 = f_struck := rfl
def f__law_right : Fn := runDef F52 3 7 b__law_right
def F53 : List Fn := F52 ++ [f__law_right]
/-- law(_law_script); slots _law_script, _law_by, _law_weave, _law_draws, _law_editions_here, _law_rows_here, _law_some_here, _law_lots, _law_lot_here, _law_handed, _law_given, _law_number, _law_one, _law_draw_here -/
def b_law : List S := [.asg (.nm 0) (.slc .hi (.var 0) (.con .non) (.con (.int 63))), .for (.nm 1) .rng1 (.blt .max [.con (.int 1), .blt .min [.con (.int 10), .blt .len [.var 0]]]) (.con .non) [1, 3, 4, 5, 9, 10, 2, 6, 7, 8] [.asg (.nm 3) (.call 44 false [.var 0, .bin .add (.var 1) (.con (.int 2)), .con (.int 6), .con (.int 1000003)]), .asg (.nm 4) (.call 46 false [.var 0, .var 1, .bin .mod (.idx (.var 3) (.con (.int 0))) (.con (.int 10))]), .asg (.nm 5) (.call 48 false [.var 0, .bin .add (.var 1) (.con (.int 1)), .blt .len [.var 4], .bin .mod (.idx (.var 3) (.con (.int 1))) (.con (.int 17))]), .par [(9, false, .blt .listR [.var 4]), (10, false, .blt .listR [.var 5])], .asg (.nm 2) (.new 6 0 false [.var 9, .var 10]), .ifs (.bop false [.cmp .ne (.var 9) (.var 4), .cmp .ne (.var 10) (.var 5), .cmp .ne (.meth 9 0 false (.var 2) []) (.var 4), .cmp .ne (.meth 10 0 false (.var 2) []) (.var 5)]) [.ret (.con (.bl false))] [], .exp (.app (.var 9) (.con (.str [120]))), .exp (.app (.var 10) (.con (.str [120]))), .for (.nm 6) .seq (.tup [.meth 9 0 false (.var 2) [], .meth 10 0 false (.var 2) [], .call 18 false [.var 2, .tup []], .call 19 false [.var 2, .tup []], .call 20 false [.var 2, .tup []]]) (.con .non) [6] [.exp (.app (.var 6) (.con (.str [120])))], .ifs (.bop false [.cmp .ne (.olen 7 0 (.var 2)) (.blt .len [.var 4]), .oeq true 8 0 (.var 2) (.new 6 0 false [.var 4, .var 5])]) [.ret (.con (.bl false))] [], .ifs (.bop true [.cmp .lt (.blt .len [.var 4]) (.con (.int 9)), .oeq false 8 0 (.var 2) (.new 6 0 false [.bin .add (.var 4) (.lst [.tup [.con (.int 0), .tup [], .tup []]]), .var 5])]) [.ret (.con (.bl false))] [], .ifs (.bop true [.oeq false 8 0 (.var 2) (.new 6 0 false [.var 4, .slc .lo (.var 5) (.con (.int 1)) (.con .non)]), .cmp .ne (.var 5) (.lst [])]) [.ret (.con (.bl false))] [], .asg (.nm 7) (.comp false (.call 50 false [.var 4, .bin .add (.var 11) (.con (.int 1))]) (.nm 11) [11] .rng1 (.blt .len [.var 4]) (.con .non) []), .ifs (.cmp .ne (.comp false (.call 16 false [.var 2, .bin .add (.var 11) (.con (.int 1))]) (.nm 11) [11] .rng1 (.blt .len [.var 4]) (.con .non) []) (.var 7)) [.ret (.con (.bl false))] [], .for (.nm 8) .seq (.bin .add (.bin .add (.var 7) (.comp false (.call 45 false [.var 13, .blt .len [.var 4]]) (.nm 13) [13] .seq (.var 3) (.con .non) [])) (.lst [.tup []])) (.con .non) [8] [.ifs (.not (.call 52 false [.var 2, .var 5, .var 8])) [.ret (.con (.bl false))] []]], .asg (.nm 2) (.new 6 0 false [.lst [.tup [.con (.int 0), .tup [], .tup []], .tup [.con (.int 1), .tup [], .tup []], .tup [.con (.int 1), .tup [.con (.int 2)], .tup []], .tup [.con (.int 3), .tup [], .tup [.con (.int 2)]], .tup [.con (.int 4), .tup [.con (.int 2)], .tup [.con (.int 1)]]], .lst [.tup [.con (.int 2), .tup [], .con (.str [120])]]]), .ret (.cmp .eq (.comp false (.call 16 false [.var 2, .var 12]) (.nm 12) [12] .seq (.tup [.con (.int 3), .con (.int 4), .con (.int 5)]) (.con .non) []) (.lst [.tup [.con (.int 1), .con (.int 2), .con (.int 3)], .tup [.con (.int 1), .con (.int 3), .con (.int 4)], .tup [.con (.int 2), .con (.int 3), .con (.int 4), .con (.int 5)]]))]
@[simp] theorem g53_44 : fnAt F53 44 = f__law_digits := rfl
@[simp] theorem g53_46 : fnAt F53 46 = f__law_editions := rfl
@[simp] theorem g53_48 : fnAt F53 48 = f__law_rows := rfl
@[simp] theorem g53_6 : fnAt F53 6 = f_Weave_init := rfl
@[simp] theorem g53_9 : fnAt F53 9 = f_Weave_editions := rfl
@[simp] theorem g53_10 : fnAt F53 10 = f_Weave_rows := rfl
@[simp] theorem g53_18 : fnAt F53 18 = f_told := rfl
@[simp] theorem g53_19 : fnAt F53 19 = f_brought := rfl
@[simp] theorem g53_20 : fnAt F53 20 = f_struck := rfl
@[simp] theorem g53_7 : fnAt F53 7 = f_Weave_len := rfl
@[simp] theorem g53_8 : fnAt F53 8 = f_Weave_eq := rfl
@[simp] theorem g53_50 : fnAt F53 50 = f__law_lot := rfl
@[simp] theorem g53_16 : fnAt F53 16 = f_lot_of := rfl
@[simp] theorem g53_45 : fnAt F53 45 = f__law_some := rfl
@[simp] theorem g53_52 : fnAt F53 52 = f__law_right := rfl
def f_law : Fn := runDef F53 1 14 b_law
def F54 : List Fn := F53 ++ [f_law]
end MP.k01
end

section
set_option Elab.async false
set_option linter.all false
set_option maxRecDepth 100000
/-! the defs of law_k05_whole_joined, in the small language (printed by gen.py). -/
namespace MP.k05
open MP.k01
/-- _law_text(_law_rows_here, _law_lot_here); slots _law_rows_here, _law_lot_here, _law_row -/
def b__law_text : List S := [.ret (.comp false (.idx (.var 2) (.con (.int 2))) (.nm 2) [2] .seq (.var 0) (.con .non) [.call 51 false [.var 2, .var 1]])]
@[simp] theorem g52_51 : fnAt MP.k01.F52 51 = f__law_is_told := rfl
def f__law_text : Fn := runDef MP.k01.F52 2 3 b__law_text
def F53 : List Fn := MP.k01.F52 ++ [f__law_text]
/-- _law_clashes(_law_rows_here, _law_lots); slots _law_rows_here, _law_lots, _law_common, _law_end, _law_found, _law_begin, _law_parts, _law_at, _law_row, _law_lot_here -/
def b__law_clashes : List S := [.par [(4, true, .lst []), (5, false, .con (.int 0))], .asg (.nm 2) (.comp false (.var 7) (.tp [.nm 7, .nm 8]) [7, 8] .enm (.var 0) (.con .non) [.blt .all [.comp false (.call 51 false [.var 8, .var 9]) (.nm 9) [9] .seq (.var 1) (.con .non) []]]), .for (.nm 3) .seq (.bin .add (.var 2) (.lst [.blt .len [.var 0]])) (.con .non) [3, 6] [.asg (.nm 6) (.comp false (.call 52 false [.slc .both (.var 0) (.var 5) (.var 3), .var 9]) (.nm 9) [9] .seq (.var 1) (.con .non) []), .ifs (.bop true [.cmp .ne (.idx (.var 6) (.con (.int 0))) (.idx (.var 6) (.con (.int 1))), .cmp .ne (.idx (.var 6) (.con (.int 0))) (.idx (.var 6) (.con (.int 2))), .cmp .ne (.idx (.var 6) (.con (.int 1))) (.idx (.var 6) (.con (.int 2)))]) [.app 4 (.tup [.idx (.var 6) (.con (.int 0)), .idx (.var 6) (.con (.int 1)), .idx (.var 6) (.con (.int 2))])] [], .asg (.nm 5) (.bin .add (.var 3) (.con (.int 1)))], .frz 4, .ret (.var 4)]
@[simp] theorem g53_51 : fnAt F53 51 = f__law_is_told := rfl
@[simp] theorem g53_52 : fnAt F53 52 = f__law_text := rfl
def f__law_clashes : Fn := runDef F53 2 10 b__law_clashes
def F54 : List Fn := F53 ++ [f__law_clashes]
/-- law(_law_script); slots _law_script, _law_by, _law_weave, _law_draws, _law_editions_here, _law_rows_here, _law_one, _law_other, _law_both, _law_more, _law_ground, _law_back, _law_part, _law_mine, _law_theirs, _law_due, _law_answer, _law_number -/
def b_law : List S := [.asg (.nm 0) (.slc .hi (.var 0) (.con .non) (.con (.int 63))), .for (.nm 1) .rng1 (.blt .max [.con (.int 1), .blt .min [.con (.int 8), .blt .len [.var 0]]]) (.con .non) [1, 3, 4, 5, 2, 6, 7, 13, 14, 8, 9, 10, 15, 16, 11, 12] [.asg (.nm 3) (.call 44 false [.var 0, .bin .add (.var 1) (.con (.int 2)), .con (.int 4), .con (.int 1000003)]), .asg (.nm 4) (.call 46 false [.var 0, .var 1, .bin .add (.con (.int 1)) (.bin .mod (.idx (.var 3) (.con (.int 0))) (.con (.int 8)))]), .asg (.nm 5) (.call 48 false [.var 0, .bin .add (.var 1) (.con (.int 1)), .blt .len [.var 4], .bin .mod (.idx (.var 3) (.con (.int 1))) (.con (.int 17))]), .asg (.nm 2) (.new 6 0 true [.var 4, .var 5]), .for (.nm 6) .rng2 (.con (.int 1)) (.bin .add (.blt .len [.var 4]) (.con (.int 1))) [6, 7, 13, 14, 8, 9, 10, 15, 16, 11, 12] [.asg (.nm 7) (.bin .add (.con (.int 1)) (.bin .mod (.bin .add (.idx (.var 3) (.con (.int 2))) (.bin .mul (.var 6) (.idx (.var 3) (.con (.int 3))))) (.blt .len [.var 4]))), .par [(13, false, .call 50 false [.var 4, .var 6]), (14, false, .call 50 false [.var 4, .var 7])], .asg (.nm 8) (.call 28 false [.var 2, .var 6, .var 7]), .asg (.nm 9) (.blt .tuple [.comp false (.var 17) (.nm 17) [17] .seq (.var 14) (.con .non) [.cmp .notin (.var 17) (.var 13)]]), .ifs (.bop false [.cmp .ne (.meth 9 0 false (.var 8) []) (.bin .add (.var 4) (.lst [.tup [.var 6, .var 9, .tup []]])), .cmp .ne (.meth 10 0 false (.var 8) []) (.var 5)]) [.ret (.con (.bl false))] [], .ifs (.cmp .ne (.meth 9 0 false (.var 2) []) (.var 4)) [.ret (.con (.bl false))] [], .asg (.nm 10) (.blt .tuple [.comp false (.var 17) (.nm 17) [17] .seq (.var 13) (.con .non) [.cmp .isin (.var 17) (.var 14)]]), .par [(15, false, .call 53 false [.var 5, .lst [.var 10, .var 13, .var 14]]), (16, false, .call 29 false [.var 2, .var 6, .var 7])], .asg (.nm 11) (.comp false (.tup [.idx (.var 12) (.con (.int 0)), .idx (.var 12) (.con (.int 2)), .idx (.var 12) (.con (.int 1))]) (.nm 12) [12] .seq (.var 15) (.con .non) []), .ifs (.bop false [.cmp .ne (.var 16) (.var 15), .cmp .ne (.call 29 false [.var 2, .var 7, .var 6]) (.var 11)]) [.ret (.con (.bl false))] [], .for (.nm 12) .seq (.var 16) (.con .non) [12] [.exp (.app (.idx (.var 12) (.con (.int 0))) (.con (.str [120])))], .ifs (.bop false [.cmp .ne (.call 29 false [.var 2, .var 6, .var 7]) (.var 15), .cmp .ne (.call 29 false [.var 2, .var 6, .var 6]) (.lst [])]) [.ret (.con (.bl false))] []]], .asg (.nm 2) (.new 6 0 true [.lst [.tup [.con (.int 0), .tup [], .tup []], .tup [.con (.int 1), .tup [], .tup []], .tup [.con (.int 1), .tup [], .tup []]], .lst [.tup [.con (.int 1), .tup [.con (.int 2)], .con (.str [97])], .tup [.con (.int 2), .tup [], .con (.str [98])], .tup [.con (.int 3), .tup [], .con (.str [99])], .tup [.con (.int 1), .tup [], .con (.str [100])]]]), .ret (.bop true [.cmp .eq (.call 29 false [.var 2, .con (.int 2), .con (.int 3)]) (.lst [.tup [.lst [.con (.str [97])], .lst [.con (.str [98])], .lst [.con (.str [97]), .con (.str [99])]]]), .cmp .eq (.call 16 false [.call 28 false [.var 2, .con (.int 2), .con (.int 3)], .con (.int 4)]) (.tup [.con (.int 1), .con (.int 2), .con (.int 3), .con (.int 4)])])]
@[simp] theorem g54_44 : fnAt F54 44 = f__law_digits := rfl
@[simp] theorem g54_46 : fnAt F54 46 = f__law_editions := rfl
@[simp] theorem g54_48 : fnAt F54 48 = f__law_rows := rfl
@[simp] theorem g54_6 : fnAt F54 6 = f_Weave_init := rfl
@[simp] theorem g54_50 : fnAt F54 50 = f__law_lot := rfl
@[simp] theorem g54_28 : fnAt F54 28 = f_joined := rfl
@[simp] theorem g54_9 : fnAt F54 9 = f_Weave_editions := rfl
@[simp] theorem g54_10 : fnAt F54 10 = f_Weave_rows := rfl
@[simp] theorem g54_53 : fnAt F54 53 = f__law_clashes := rfl
@[simp] theorem g54_29 : fnAt F54 29 = f_clashes := rfl
@[simp] theorem g54_16 : fnAt F54 16 = f_lot_of := rfl
def f_law : Fn := runDef F54 1 18 b_law
def F55 : List Fn := F54 ++ [f_law]
end MP.k05
end

section
set_option Elab.async false
set_option linter.all false
set_option maxRecDepth 100000
/-! the defs of law_k04_whole_apart, in the small language (printed by gen.py). -/
namespace MP.k04
open MP.k01
/-- _law_is_told(_law_row, _law_lot); slots _law_row, _law_lot, _law_one -/
def b__law_is_told : List S := [.ret (.bop true [.cmp .isin (.idx (.var 0) (.con (.int 0))) (.var 1), .cmp .eq (.comp false (.var 2) (.nm 2) [2] .seq (.idx (.var 0) (.con (.int 1))) (.con .non) [.cmp .isin (.var 2) (.var 1)]) (.lst [])])]
def f__law_is_told : Fn := runDef MP.k01.F49 2 3 b__law_is_told
def F50 : List Fn := MP.k01.F49 ++ [f__law_is_told]
/-- _law_text(_law_rows_here, _law_lot); slots _law_rows_here, _law_lot, _law_row -/
def b__law_text : List S := [.ret (.comp false (.idx (.var 2) (.con (.int 2))) (.nm 2) [2] .seq (.var 0) (.con .non) [.call 49 false [.var 2, .var 1]])]
@[simp] theorem g50_49 : fnAt F50 49 = f__law_is_told := rfl
def f__law_text : Fn := runDef F50 2 3 b__law_text
def F51 : List Fn := F50 ++ [f__law_text]
/-- _law_lots(_law_many); slots _law_many, _law_found, _law_number, _law_lot -/
def b__law_lots : List S := [.asg (.nm 1) (.lst [.tup []]), .for (.nm 2) .rng2 (.con (.int 1)) (.bin .add (.var 0) (.con (.int 1))) [2] [.asg (.nm 1) (.bin .add (.var 1) (.comp false (.bin .add (.var 3) (.tup [.var 2])) (.nm 3) [3] .seq (.var 1) (.con .non) []))], .ret (.srtL 0 (.var 1))]
def f__law_lots : Fn := runDef F51 1 4 b__law_lots
def F52 : List Fn := F51 ++ [f__law_lots]
/-- _law_other(_law_rows_here, _law_drawn, _law_number, _law_many); slots _law_rows_here, _law_drawn, _law_number, _law_many, _law_at, _law_kind, _law_owner, _law_strikers, _law_text_here, _law_fewer -/
def b__law_other : List S := [.ifs (.bop false [.cmp .eq (.var 0) (.lst []), .cmp .eq (.bin .mod (.var 2) (.con (.int 7))) (.con (.int 0))]) [.ret (.var 1)] [], .par [(4, false, .bin .mod (.bin .fdv (.var 2) (.con (.int 7))) (.blt .len [.var 0])), (5, false, .bin .mod (.bin .fdv (.var 2) (.con (.int 31))) (.con (.int 6)))], .asg (.tp [.nm 6, .nm 7, .nm 8]) (.idx (.var 0) (.var 4)), .ifs (.cmp .eq (.var 5) (.con (.int 0))) [.ret (.bin .add (.bin .add (.slc .hi (.var 0) (.con .non) (.var 4)) (.slc .lo (.var 0) (.bin .add (.var 4) (.con (.int 1))) (.con .non))) (.lst [.idx (.var 0) (.var 4)]))] [], .ifs (.cmp .eq (.var 5) (.con (.int 1))) [.ret (.bin .add (.bin .add (.slc .hi (.var 0) (.con .non) (.var 4)) (.lst [.tup [.var 6, .slc .lo (.var 7) (.con (.int 1)) (.con .non), .var 8]])) (.slc .lo (.var 0) (.bin .add (.var 4) (.con (.int 1))) (.con .non)))] [], .ifs (.cmp .eq (.var 5) (.con (.int 2))) [.ret (.bin .add (.bin .add (.slc .hi (.var 0) (.con .non) (.var 4)) (.lst [.tup [.var 6, .var 7, .bin .add (.var 8) (.con (.str [98]))]])) (.slc .lo (.var 0) (.bin .add (.var 4) (.con (.int 1))) (.con .non)))] [], .ifs (.bop true [.cmp .eq (.var 5) (.con (.int 3)), .cmp .lt (.var 6) (.var 3), .cmp .notin (.var 3) (.var 7)]) [.ret (.bin .add (.bin .add (.slc .hi (.var 0) (.con .non) (.var 4)) (.lst [.tup [.var 6, .bin .add (.var 7) (.tup [.var 3]), .var 8]])) (.slc .lo (.var 0) (.bin .add (.var 4) (.con (.int 1))) (.con .non)))] [], .ifs (.bop true [.cmp .eq (.var 5) (.con (.int 4)), .cmp .ne (.var 7) (.tup [])]) [.asg (.nm 9) (.ite (.cmp .eq (.blt .len [.var 7]) (.bin .sub (.var 3) (.var 6))) (.tup [.var 6, .tup [], .var 8]) (.tup [.var 6, .slc .hi (.var 7) (.con .non) (.neg (.con (.int 1))), .var 8])), .ret (.bin .add (.bin .add (.slc .hi (.var 0) (.con .non) (.var 4)) (.lst [.var 9])) (.slc .lo (.var 0) (.bin .add (.var 4) (.con (.int 1))) (.con .non)))] [], .ret (.bin .add (.bin .add (.slc .hi (.var 0) (.con .non) (.var 4)) (.slc .rev (.slc .both (.var 0) (.var 4) (.bin .add (.var 4) (.con (.int 2)))) (.con .non) (.con .non))) (.slc .lo (.var 0) (.bin .add (.var 4) (.con (.int 2))) (.con .non)))]
def f__law_other : Fn := runDef F52 4 10 b__law_other
def F53 : List Fn := F52 ++ [f__law_other]
/-- all_lots(many); slots many, found, number, lot -/
def b_all_lots : List S := [.asg (.nm 1) (.lst [.tup []]), .for (.nm 2) .rng2 (.con (.int 1)) (.bin .add (.var 0) (.con (.int 1))) [2] [.asg (.nm 1) (.bin .add (.var 1) (.comp false (.bin .add (.var 3) (.tup [.var 2])) (.nm 3) [3] .seq (.var 1) (.con .non) []))], .ret (.srtL 0 (.var 1))]
def f_all_lots : Fn := runDef F53 1 4 b_all_lots
def F54 : List Fn := F53 ++ [f_all_lots]
/-- apart(one, other); slots one, other, lot, row -/
def b_apart : List S := [.ifs (.cmp .ne (.blt .len [.fld (.var 0) 0]) (.blt .len [.fld (.var 1) 0])) [.never] [], .for (.nm 2) .seq (.call 53 false [.blt .len [.fld (.var 0) 0]]) (.con .non) [2] [.ifs (.cmp .ne (.comp false (.idx (.var 3) (.con (.int 2))) (.nm 3) [3] .seq (.call 17 false [.var 0, .var 2]) (.con .non) []) (.comp false (.idx (.var 3) (.con (.int 2))) (.nm 3) [3] .seq (.call 17 false [.var 1, .var 2]) (.con .non) [])) [.ret (.var 2)] []], .ret (.con .non)]
@[simp] theorem g54_53 : fnAt F54 53 = f_all_lots := rfl
@[simp] theorem g54_17 : fnAt F54 17 = f_told_rows := rfl
def f_apart : Fn := runDef F54 2 4 b_apart
def F55 : List Fn := F54 ++ [f_apart]
/-- law(_law_script); slots _law_script, _law_by, _law_draws, _law_many, _law_one, _law_other_here, _law_weaves, _law_some_here, _law_due, _law_lot -/
def b_law : List S := [.asg (.nm 0) (.slc .hi (.var 0) (.con .non) (.con (.int 63))), .for (.nm 1) .rng1 (.blt .max [.con (.int 1), .blt .min [.con (.int 8), .blt .len [.var 0]]]) (.con .non) [1, 2, 3, 4, 5, 6, 7, 8] [.asg (.nm 2) (.call 44 false [.var 0, .bin .add (.var 1) (.con (.int 2)), .con (.int 6), .con (.int 1000003)]), .asg (.nm 3) (.bin .mod (.idx (.var 2) (.con (.int 0))) (.con (.int 8))), .asg (.nm 4) (.call 48 false [.var 0, .bin .add (.var 1) (.con (.int 1)), .var 3, .bin .mod (.idx (.var 2) (.con (.int 1))) (.con (.int 9))]), .asg (.nm 5) (.call 52 false [.var 4, .call 48 false [.var 0, .bin .add (.var 1) (.con (.int 4)), .var 3, .bin .mod (.idx (.var 2) (.con (.int 1))) (.con (.int 9))], .idx (.var 2) (.con (.int 2)), .var 3]), .asg (.nm 6) (.lst [.new 6 0 true [.call 46 false [.var 0, .var 1, .var 3], .var 4], .new 6 0 true [.call 46 false [.var 0, .bin .add (.var 1) (.con (.int 3)), .var 3], .var 5]]), .asg (.nm 7) (.comp false (.var 9) (.nm 9) [9] .seq (.call 51 false [.var 3]) (.con .non) [.cmp .ne (.call 50 false [.var 4, .var 9]) (.call 50 false [.var 5, .var 9])]), .asg (.nm 8) (.ite (.cmp .ne (.var 7) (.lst [])) (.idx (.var 7) (.con (.int 0))) (.con .non)), .ifs (.bop false [.cmp .ne (.call 54 false [.idx (.var 6) (.con (.int 0)), .idx (.var 6) (.con (.int 1))]) (.var 8), .cmp .ne (.call 54 false [.idx (.var 6) (.con (.int 1)), .idx (.var 6) (.con (.int 0))]) (.var 8)]) [.ret (.con (.bl false))] [], .ifs (.cmp .isnot (.call 54 false [.idx (.var 6) (.con (.int 0)), .idx (.var 6) (.con (.int 0))]) (.con .non)) [.ret (.con (.bl false))] []], .par [(4, false, .lst [.tup [.con (.int 1), .tup [], .con (.str [97])], .tup [.con (.int 2), .tup [], .con (.str [98])]]), (5, false, .lst [.tup [.con (.int 2), .tup [], .con (.str [98])], .tup [.con (.int 1), .tup [], .con (.str [97])]])], .ret (.cmp .eq (.call 54 false [.new 6 0 true [.bin .mul (.lst [.tup [.con (.int 0), .tup [], .tup []]]) (.con (.int 2)), .var 4], .new 6 0 true [.bin .mul (.lst [.tup [.con (.int 0), .tup [], .tup []]]) (.con (.int 2)), .var 5]]) (.tup [.con (.int 1), .con (.int 2)]))]
@[simp] theorem g55_44 : fnAt F55 44 = f__law_digits := rfl
@[simp] theorem g55_48 : fnAt F55 48 = f__law_rows := rfl
@[simp] theorem g55_52 : fnAt F55 52 = f__law_other := rfl
@[simp] theorem g55_6 : fnAt F55 6 = f_Weave_init := rfl
@[simp] theorem g55_46 : fnAt F55 46 = f__law_editions := rfl
@[simp] theorem g55_51 : fnAt F55 51 = f__law_lots := rfl
@[simp] theorem g55_50 : fnAt F55 50 = f__law_text := rfl
@[simp] theorem g55_54 : fnAt F55 54 = f_apart := rfl
def f_law : Fn := runDef F55 1 10 b_law
def F56 : List Fn := F55 ++ [f_law]
end MP.k04
end

section
set_option Elab.async false
set_option linter.all false
set_option maxRecDepth 100000
set_option maxHeartbeats 1000000
namespace MP
/-! ### M1: evaluating -/
theorem bind_ok {α β : Type} (a : α) (h : List O) (f : α → List O → R β) : (R.ok a h).bind f = f a h := rfl
theorem of_some {α : Type} (a : α) (h : List O) : R.of (some a) h = .ok a h := rfl
theorem ofR_ok {α : Type} (a : α) (h : List O) (rho : List SV) (f : α → List O → SR) : SR.ofR (.ok a h) rho f = f a h := rfl
theorem ofO_some {α : Type} (a : α) (f : α → SR) : SR.ofO (some a) f = f a := rfl
theorem optR_some {α β : Type} (a : α) (f : α → R β) : optR (some a) f = f a := rfl
theorem noex_ok {α : Type} (a : α) (h : List O) : (R.ok a h).noex = .ok a h := rfl
theorem seq_nx (rho : List SV) (h : List O) (f : List SV → List O → SR) : (SR.nx rho h).seq f = f rho h := rfl
theorem seq_rt (v : MV) (h : List O) (f : List SV → List O → SR) : (SR.rt v h).seq f = .rt v h := rfl
theorem turn_nx (rho : List SV) (h : List O) (f : List SV → List O → SR) : (SR.nx rho h).turn f = f rho h := rfl
theorem turn_rt (v : MV) (h : List O) (f : List SV → List O → SR) : (SR.rt v h).turn f = .rt v h := rfl
theorem test_t (a b : SR) : SR.test (.bl true) a b = a := rfl
theorem test_f (a b : SR) : SR.test (.bl false) a b = b := rfl
theorem getV_0 (s : MV) (l : List SV) : getV (.val s :: l) 0 = some s := rfl
theorem getO_0 (s : O) (l : List SV) : getO (.own s :: l) 0 = some s := rfl
theorem getV_s (s : SV) (l : List SV) (i : Nat) : getV (s :: l) (i + 1) = getV l i := rfl
theorem getO_s (s : SV) (l : List SV) (i : Nat) : getO (s :: l) (i + 1) = getO l i := rfl
theorem go_t (f : List O → R MV) (h : List O) : compGo f (.bl true) h = (f h).bind fun y h6 => .ok (some y) h6 := rfl
theorem go_f (f : List O → R MV) (h : List O) : compGo f (.bl false) h = .ok none h := rfl
/-! the operators -/
theorem add_i (i j : Int) (h : List O) : binV h .add (.int i) (.int j) = some (.int (i + j)) := rfl
theorem sub_i (i j : Int) (h : List O) : binV h .sub (.int i) (.int j) = some (.int (i - j)) := rfl
theorem mul_r (i j : Int) (h : List O) (hj : -(2 ^ 64) < j ∧ j < 2 ^ 64) : binV h .mul (.int i) (.int j) = some (.int (i * j)) := by
  show (if mulOk i j = true then some (MV.int (i * j)) else none) = _
  rw [if_pos]
  unfold mulOk
  simp only [Bool.or_eq_true, decide_eq_true_eq]
  exact .inr hj
theorem mul_l (i j : Int) (h : List O) (hj : -(2 ^ 64) < i ∧ i < 2 ^ 64) : binV h .mul (.int i) (.int j) = some (.int (i * j)) := by
  show (if mulOk i j = true then some (MV.int (i * j)) else none) = _
  rw [if_pos]
  unfold mulOk
  simp only [Bool.or_eq_true, decide_eq_true_eq]
  exact .inl hj
theorem mod_i (i j : Int) (h : List O) (hj : 0 < j) : binV h .mod (.int i) (.int j) = some (.int (i % j)) := if_pos hj
theorem fdv_i (i j : Int) (h : List O) (hj : 0 < j ∧ j < 1073741824) : binV h .fdv (.int i) (.int j) = some (.int (i / j)) := if_pos hj
theorem lt_i (i j : Int) (h : List O) : cmpV h .lt (.int i) (.int j) = some (decide (i < j)) := rfl
theorem le_i (i j : Int) (h : List O) : cmpV h .le (.int i) (.int j) = some (decide (i ≤ j)) := rfl
theorem gt_i (i j : Int) (h : List O) : cmpV h .gt (.int i) (.int j) = some (decide (j < i)) := rfl
theorem ge_i (i j : Int) (h : List O) : cmpV h .ge (.int i) (.int j) = some (decide (j ≤ i)) := rfl
theorem eq_i (i j : Int) (h : List O) : cmpV h .eq (.int i) (.int j) = some (i == j) := rfl
theorem ne_i (i j : Int) (h : List O) : cmpV h .ne (.int i) (.int j) = some (!(i == j)) := rfl
/-! ### walked things that stay as they are -/
def Src.items : Src → Option (List MV)
  | .fz l => some l
  | .live _ => none
  | .enm s => s.items.map fun l => l.zipIdx.map fun p => .tup [.int p.2, p.1]
  | .zip s t => s.items.bind fun l => t.items.map fun k => (l.zip k).map fun p => .tup [p.1, p.2]
theorem items_at : ∀ (s : Src) (l : List MV) (h : List O), s.items = some l → s.len h = l.length ∧ ∀ i, s.at h i = some l[i]?
  | .fz k, l, h, e => by
    cases e
    exact ⟨rfl, fun i => rfl⟩
  | .live _, l, h, e => by cases e
  | .enm s, l, h, e => by
    obtain ⟨k, e1, rfl⟩ := Option.map_eq_some_iff.mp e
    obtain ⟨h1, h2⟩ := items_at s k h e1
    refine ⟨by simp [Src.len, h1], fun i => ?_⟩
    simp only [Src.at, h2]
    cases e2 : k[i]? with
    | none => simp [e2]
    | some v => simp [e2]
  | .zip s t, l, h, e => by
    obtain ⟨k, e1, e⟩ := Option.bind_eq_some_iff.mp e
    obtain ⟨m, e2, rfl⟩ := Option.map_eq_some_iff.mp e
    obtain ⟨h1, h2⟩ := items_at s k h e1
    obtain ⟨h3, h4⟩ := items_at t m h e2
    refine ⟨by simp [Src.len, h1, h3], fun i => ?_⟩
    simp only [Src.at, h2, h4]
    cases e3 : k[i]? with
    | none =>
      have : (k.zip m)[i]? = none := by
        rw [List.getElem?_eq_none_iff] at e3 ⊢
        rw [List.length_zip]
        omega
      simp [this]
    | some v =>
      cases e4 : m[i]? with
      | none =>
        have : (k.zip m)[i]? = none := by
          rw [List.getElem?_eq_none_iff] at e4 ⊢
          rw [List.length_zip]
          omega
        simp [this]
      | some w =>
        have : (k.zip m)[i]? = some (v, w) := by rw [List.getElem?_zip_eq_some]; exact ⟨e3, e4⟩
        simp [this]
/-- a comprehension over items -/
def compL (step : MV → List O → R (Option MV)) : List MV → List O → R (List MV)
  | [], h => .ok [] h
  | x :: xs, h => (step x h).noex.bind fun o h1 => (compL step xs h1).bind fun ys h2 => compAdd o ys h2
theorem comp_items {s : Src} {l : List MV} (step : MV → List O → R (Option MV)) (e : s.items = some l) (h : List O) : compLoop s step (s.len h + 1) 0 h = compL step l h := by
  have gen : ∀ (n i : Nat) (h : List O), n = l.length - i → i ≤ l.length → compLoop s step (n + 1) i h = compL step (l.drop i) h := by
    intro n
    induction n with
    | zero =>
      intro i h hn hi
      have : i = l.length := by omega
      subst this
      rw [List.drop_length]
      unfold compLoop
      rw [(items_at s l h e).2]
      simp [compL]
    | succ n ih =>
      intro i h hn hi
      have hl : i < l.length := by omega
      rw [List.drop_eq_getElem_cons hl]
      unfold compLoop
      rw [(items_at s l h e).2, List.getElem?_eq_getElem hl]
      show _ = (step l[i] h).noex.bind fun o h1 => (compL step (l.drop (i + 1)) h1).bind fun ys h2 => compAdd o ys h2
      simp only
      congr 1
      funext o h1
      rw [ih (i + 1) h1 (by omega) (by omega)]
  rw [(items_at s l h e).1]
  exact gen l.length 0 h (by omega) (by omega)
/-- where every turn is told, and the heap stays -/
theorem compL_map {step : MV → List O → R (Option MV)} {g : MV → Option MV} {h : List O} : ∀ (l : List MV), (∀ x ∈ l, step x h = .ok (g x) h) → compL step l h = .ok (l.filterMap g) h
  | [], _ => rfl
  | x :: xs, hs => by
    unfold compL
    rw [hs x List.mem_cons_self, noex_ok, bind_ok, compL_map xs fun y hy => hs y (List.mem_cons_of_mem _ hy), bind_ok]
    cases e : g x <;> simp [compAdd, e]
/-- a loop over items -/
def forL (step : MV → List SV → List O → SR) : List MV → List SV → List O → SR
  | [], rho, h => .nx rho h
  | x :: xs, rho, h => (step x rho h).turn fun r h1 => forL step xs r h1
theorem for_items {s : Src} {l : List MV} (step : MV → List SV → List O → SR) (e : s.items = some l) (rho : List SV) (h : List O) : forLoop s step (s.len h + 1) 0 rho h = forL step l rho h := by
  have gen : ∀ (n i : Nat) (rho : List SV) (h : List O), n = l.length - i → i ≤ l.length → forLoop s step (n + 1) i rho h = forL step (l.drop i) rho h := by
    intro n
    induction n with
    | zero =>
      intro i rho h hn hi
      have : i = l.length := by omega
      subst this
      rw [List.drop_length]
      unfold forLoop
      rw [(items_at s l h e).2]
      simp [forL]
    | succ n ih =>
      intro i rho h hn hi
      have hl : i < l.length := by omega
      rw [List.drop_eq_getElem_cons hl]
      unfold forLoop
      rw [(items_at s l h e).2, List.getElem?_eq_getElem hl]
      show _ = (step l[i] rho h).turn fun r h1 => forL step (l.drop (i + 1)) r h1
      simp only
      congr 1
      funext r h1
      rw [ih (i + 1) r h1 (by omega) (by omega)]
  rw [(items_at s l h e).1]
  exact gen l.length 0 rho h (by omega) (by omega)
/-- a comprehension as it stands in the text, told turn by turn; the heap stays -/
theorem comp_told {Fs : List Fn} {elt : E} {tg : T} {own : List Nat} {ik : IK} {ia ib : E} {ifs : List E} {rho : List SV} {h : List O} {s : Src} {l : List MV} (g : MV → Option MV)
    (e1 : srcE ik (fun h1 => ev Fs ia rho h1) (fun h1 => ev Fs ib rho h1) h = .ok s h) (e2 : s.items = some l)
    (e3 : ∀ x ∈ l, compStep tg (wipe rho own) (fun r h4 => evB Fs true ifs r h4) (fun r h4 => ev Fs elt r h4) x h = .ok (g x) h) (hz : l.length ≤ LIM) :
    ev Fs (.comp false elt tg own ik ia ib ifs) rho h = .ok (.lst (l.filterMap g)) h := by
  show (srcE ik (fun h1 => ev Fs ia rho h1) (fun h1 => ev Fs ib rho h1) h).bind (fun src h3 => (compLoop src (compStep tg (wipe rho own) (fun r h4 => evB Fs true ifs r h4) (fun r h4 => ev Fs elt r h4)) (src.len h3 + 1) 0 h3).bind fun ys h7 => compEnd false ys h7) = _
  rw [e1, bind_ok, comp_items _ e2, compL_map l e3, bind_ok]
  unfold compEnd
  rw [if_pos (Nat.le_trans (List.length_filterMap_le _ _) hz)]
end MP
end

section
set_option Elab.async false
set_option linter.all false
set_option maxRecDepth 100000
set_option maxHeartbeats 1000000
namespace MP
/-! ### M2: step by step -/
/-! what comes behind is looked at when it is its turn -/
theorem bind_congr {α β : Type} {r r' : R α} {f : α → List O → R β} (e : r = r') : r.bind f = r'.bind f := by rw [e]
theorem seq_congr {r r' : SR} {f : List SV → List O → SR} (e : r = r') : r.seq f = r'.seq f := by rw [e]
theorem turn_congr {r r' : SR} {f : List SV → List O → SR} (e : r = r') : r.turn f = r'.turn f := by rw [e]
theorem ofR_congr {α : Type} {r r' : R α} {rho : List SV} {f : α → List O → SR} (e : r = r') : SR.ofR r rho f = SR.ofR r' rho f := by rw [e]
theorem ofO_congr {α : Type} {r r' : Option α} {f : α → SR} (e : r = r') : SR.ofO r f = SR.ofO r' f := by rw [e]
theorem optR_congr {α β : Type} {r r' : Option α} {f : α → R β} (e : r = r') : optR r f = optR r' f := by rw [e]
theorem test_congr {v v' : MV} {a b : SR} (e : v = v') : SR.test v a b = SR.test v' a b := by rw [e]
section
variable (Fs : List Fn) (rho : List SV) (h : List O)
@[simp] theorem ev_var (i : Nat) : ev Fs (.var i) rho h = R.of (getV rho i) h := (rfl)
@[simp] theorem ev_con (v : MV) : ev Fs (.con v) rho h = .ok v h := (rfl)
@[simp] theorem ev_glo (k : Nat) (v : MV) : ev Fs (.glo k v) rho h = .ok v h := (rfl)
@[simp] theorem ev_bin (o : Bop) (a b : E) : ev Fs (.bin o a b) rho h = (ev Fs a rho h).bind fun x h1 => (ev Fs b rho h1).bind fun y h2 => R.of (binV h2 o x y) h2 := (rfl)
@[simp] theorem ev_cmp (o : Cop) (a b : E) : ev Fs (.cmp o a b) rho h = (ev Fs a rho h).bind fun x h1 => (ev Fs b rho h1).bind fun y h2 => R.of ((cmpV h2 o x y).map .bl) h2 := (rfl)
def chnR (p : Cop) (y : MV) (c : List O → R MV) (k : Bool) (h3 : List O) : R MV := match k with
  | true => (c h3).bind fun z h4 => R.of ((cmpV h4 p y z).map .bl) h4
  | false => .ok (.bl false) h3
@[simp] theorem chnR_t (p : Cop) (y : MV) (c : List O → R MV) (h3 : List O) : chnR p y c true h3 = (c h3).bind fun z h4 => R.of ((cmpV h4 p y z).map .bl) h4 := (rfl)
@[simp] theorem chnR_f (p : Cop) (y : MV) (c : List O → R MV) (h3 : List O) : chnR p y c false h3 = .ok (.bl false) h3 := (rfl)
@[simp] theorem ev_chn (o p : Cop) (a b c : E) : ev Fs (.chn o p a b c) rho h = (ev Fs a rho h).bind fun x h1 => (ev Fs b rho h1).bind fun y h2 => (R.of (cmpV h2 o x y) h2).bind fun k h3 => chnR p y (fun h3 => ev Fs c rho h3) k h3 := by
  show ((ev Fs a rho h).bind fun x h1 => (ev Fs b rho h1).bind fun y h2 => (R.of (cmpV h2 o x y) h2).bind fun k h3 => _) = _
  congr 1
@[simp] theorem ev_bop (c : Bool) (es : List E) : ev Fs (.bop c es) rho h = evB Fs c es rho h := (rfl)
def notR (x : MV) (h1 : List O) : R MV := match x with
  | .bl b => .ok (.bl (!b)) h1
  | _ => .bad
@[simp] theorem notR_b (b : Bool) (h1 : List O) : notR (.bl b) h1 = .ok (.bl (!b)) h1 := (rfl)
@[simp] theorem ev_not (a : E) : ev Fs (.not a) rho h = (ev Fs a rho h).bind notR := (rfl)
def negR (x : MV) (h1 : List O) : R MV := match x with
  | .int b => .ok (.int (-b)) h1
  | _ => .bad
@[simp] theorem negR_i (b : Int) (h1 : List O) : negR (.int b) h1 = .ok (.int (-b)) h1 := (rfl)
@[simp] theorem ev_neg (a : E) : ev Fs (.neg a) rho h = (ev Fs a rho h).bind negR := (rfl)
def iteR (a b : List O → R MV) (x : MV) (h1 : List O) : R MV := match x with
  | .bl true => a h1
  | .bl false => b h1
  | _ => .bad
@[simp] theorem iteR_t (a b : List O → R MV) (h1 : List O) : iteR a b (.bl true) h1 = a h1 := (rfl)
@[simp] theorem iteR_f (a b : List O → R MV) (h1 : List O) : iteR a b (.bl false) h1 = b h1 := (rfl)
@[simp] theorem ev_ite (c a b : E) : ev Fs (.ite c a b) rho h = (ev Fs c rho h).bind (iteR (fun h1 => ev Fs a rho h1) (fun h1 => ev Fs b rho h1)) := (rfl)
def idxR (x y : MV) (h2 : List O) : R MV := match y with
  | .int i => (match x with
    | .str s => if s.length ≤ LIM then R.of ((atI s i).map fun c => .str [c]) h2 else .bad
    | x => R.of ((lookS h2 x).bind fun l => atI l i) h2)
  | _ => .bad
@[simp] theorem ev_idx (a b : E) : ev Fs (.idx a b) rho h = (ev Fs a rho h).bind fun x h1 => (ev Fs b rho h1).bind fun y h2 => idxR x y h2 := (rfl)
@[simp] theorem idx_tup (l : List MV) (i : Int) (h2 : List O) : idxR (.tup l) (.int i) h2 = R.of (atI l i) h2 := (rfl)
@[simp] theorem idx_lst (l : List MV) (i : Int) (h2 : List O) : idxR (.lst l) (.int i) h2 = R.of (atI l i) h2 := (rfl)
def tupR (xs : List MV) (h1 : List O) : R MV := if xs.length ≤ LIM then .ok (.tup xs) h1 else .bad
@[simp] theorem tupR_ok (xs : List MV) (h1 : List O) (hz : xs.length ≤ 1000000) : tupR xs h1 = .ok (.tup xs) h1 := if_pos hz
@[simp] theorem ev_tup (es : List E) : ev Fs (.tup es) rho h = (evs Fs es rho h).bind tupR := (rfl)
def lstR (xs : List MV) (h1 : List O) : R MV := if xs.length ≤ LIM then .ok (.lst xs) h1 else .bad
@[simp] theorem lstR_ok (xs : List MV) (h1 : List O) (hz : xs.length ≤ 1000000) : lstR xs h1 = .ok (.lst xs) h1 := if_pos hz
@[simp] theorem ev_lst (es : List E) : ev Fs (.lst es) rho h = (evs Fs es rho h).bind lstR := (rfl)
@[simp] theorem ev_blt (f : Blt) (es : List E) : ev Fs (.blt f es) rho h = (evs Fs es rho h).bind fun xs h1 => bltV f xs h1 := (rfl)
@[simp] theorem ev_isi (t : Ty) (a : E) : ev Fs (.isi t a) rho h = (ev Fs a rho h).bind fun x h1 => R.of ((isiV h1 t x).map .bl) h1 := (rfl)
@[simp] theorem ev_call (k : Nat) (es : List E) : ev Fs (.call k false es) rho h = (evs Fs es rho h).bind fun xs h1 => fnAt Fs k xs h1 := (rfl)
@[simp] theorem ev_meth (k c : Nat) (a : E) (es : List E) : ev Fs (.meth k c false a es) rho h = (ev Fs a rho h).bind fun x h1 => if clsOf h1 x = some c then (evs Fs es rho h1).bind fun xs h2 => fnAt Fs k (x :: xs) h2 else .bad := (rfl)
@[simp] theorem ev_fld (a : E) (f : Nat) : ev Fs (.fld a f) rho h = (ev Fs a rho h).bind fun x h1 => R.of (fldV h1 x f) h1 := (rfl)
@[simp] theorem evs_nil : evs Fs [] rho h = .ok [] h := (rfl)
@[simp] theorem evs_cons (e : E) (es : List E) : evs Fs (e :: es) rho h = (ev Fs e rho h).bind fun x h1 => (evs Fs es rho h1).bind fun xs h2 => .ok (x :: xs) h2 := (rfl)
@[simp] theorem evB_nil (c : Bool) : evB Fs c [] rho h = .ok (.bl c) h := (rfl)
def bopR (c : Bool) (f : List O → R MV) (x : MV) (h1 : List O) : R MV := match x with
  | .bl b => if b = c then f h1 else .ok (.bl b) h1
  | _ => .bad
theorem bopR_b (c b : Bool) (f : List O → R MV) (h1 : List O) : bopR c f (.bl b) h1 = if b = c then f h1 else .ok (.bl b) h1 := rfl
@[simp] theorem evB_cons (c : Bool) (e : E) (es : List E) : evB Fs c (e :: es) rho h = (ev Fs e rho h).bind (bopR c (fun h1 => evB Fs c es rho h1)) := (rfl)
@[simp] theorem exL_nil : exL Fs [] rho h = .nx rho h := (rfl)
@[simp] theorem exL_cons (s : S) (ss : List S) : exL Fs (s :: ss) rho h = (exS Fs s rho h).seq fun r h1 => exL Fs ss r h1 := (rfl)
@[simp] theorem exS_asg (t : T) (e : E) : exS Fs (.asg t e) rho h = SR.ofR (ev Fs e rho h) rho fun v h1 => SR.ofO (setT t v rho) fun r => .nx r h1 := (rfl)
@[simp] theorem exS_par (l : List (Nat × Bool × E)) : exS Fs (.par l) rho h = SR.ofR (evPar Fs rho l h) rho fun vs h1 => .nx (setAll vs rho) h1 := (rfl)
@[simp] theorem exS_own (i : Nat) (e : E) : exS Fs (.own i e) rho h = SR.ofR (evO Fs e rho h) rho fun o h1 => .nx (rho.set i (.own o)) h1 := (rfl)
@[simp] theorem exS_app (i : Nat) (e : E) : exS Fs (.app i e) rho h = SR.ofO (getL rho i) fun l => SR.ofR (ev Fs e rho h) rho fun v h1 => SR.ofO (appOwn l v) fun u => .nx (rho.set i (.own u)) h1 := (rfl)
@[simp] theorem exS_frz (i : Nat) : exS Fs (.frz i) rho h = SR.ofO (getO rho i) fun o => SR.ofO (frzO o) fun v => .nx (rho.set i (.val v)) h := (rfl)
@[simp] theorem exS_ifs (c : E) (a b : List S) : exS Fs (.ifs c a b) rho h = SR.ofR (ev Fs c rho h) rho fun v h1 => SR.test v (exL Fs a rho h1) (exL Fs b rho h1) := (rfl)
@[simp] theorem exS_ret (e : E) : exS Fs (.ret e) rho h = SR.ofR (ev Fs e rho h) rho fun v h1 => .rt v h1 := (rfl)
@[simp] theorem exS_retN : exS Fs .retN rho h = .rt .non h := (rfl)
@[simp] theorem exS_exp (e : E) : exS Fs (.exp e) rho h = SR.ofR (ev Fs e rho h) rho fun _ h1 => .nx rho h1 := (rfl)
theorem exS_for (t : T) (ik : IK) (ia ib : E) (ks : List Nat) (b : List S) : exS Fs (.for t ik ia ib ks b) rho h = SR.ofR (srcE ik (fun h1 => ev Fs ia rho h1) (fun h1 => ev Fs ib rho h1) h) rho fun src h2 =>
      (forLoop src (fun x r h => SR.ofO (setT t x (wipe r ks)) fun r1 => exL Fs b r1 h) (src.len h2 + 1) 0 rho h2).seq fun r h => .nx (wipe r ks) h := rfl
/-- a loop over items, as it stands in the text -/
theorem for_told {t : T} {ik : IK} {ia ib : E} {ks : List Nat} {b : List S} {s : Src} {l : List MV} (e1 : srcE ik (fun h1 => ev Fs ia rho h1) (fun h1 => ev Fs ib rho h1) h = .ok s h) (e2 : s.items = some l) :
    exS Fs (.for t ik ia ib ks b) rho h = (forL (fun x r h => SR.ofO (setT t x (wipe r ks)) fun r1 => exL Fs b r1 h) l rho h).seq fun r h => .nx (wipe r ks) h := by
  rw [exS_for, e1, ofR_ok, for_items _ e2]
end
/-- the end of a def -/
def endR (r : SR) : R MV := match r with
  | .nx _ h1 => .ok .non h1
  | .rt v h1 => .ok v h1
  | .ex e _ h1 => .ex e h1
  | _ => .bad
@[simp] theorem endR_rt (v : MV) (h : List O) : endR (.rt v h) = .ok v h := (rfl)
@[simp] theorem endR_nx (r : List SV) (h : List O) : endR (.nx r h) = .ok .non h := (rfl)
theorem run_def (Fs : List Fn) (np ns : Nat) (body : List S) (args : List MV) (h : List O) (hl : args.length = np) : runDef Fs np ns body args h = endR (exL Fs body (args.map .val ++ List.replicate (ns - np) .none) h) := by
  unfold runDef
  rw [if_pos hl]
  unfold endR
  cases exL Fs body (args.map .val ++ List.replicate (ns - np) .none) h <;> rfl
@[simp] theorem of_some' {α : Type} (a : α) (h : List O) : R.of (some a) h = .ok a h := (rfl)
@[simp] theorem bind_ok' {α β : Type} (a : α) (h : List O) (f : α → List O → R β) : (R.ok a h).bind f = f a h := (rfl)
@[simp] theorem ofR_ok' {α : Type} (a : α) (h : List O) (rho : List SV) (f : α → List O → SR) : SR.ofR (.ok a h) rho f = f a h := (rfl)
@[simp] theorem ofO_some' {α : Type} (a : α) (f : α → SR) : SR.ofO (some a) f = f a := (rfl)
@[simp] theorem optR_some' {α β : Type} (a : α) (f : α → R β) : optR (some a) f = f a := (rfl)
@[simp] theorem seq_nx' (rho : List SV) (h : List O) (f : List SV → List O → SR) : (SR.nx rho h).seq f = f rho h := (rfl)
@[simp] theorem seq_rt' (v : MV) (h : List O) (f : List SV → List O → SR) : (SR.rt v h).seq f = .rt v h := (rfl)
@[simp] theorem turn_nx' (rho : List SV) (h : List O) (f : List SV → List O → SR) : (SR.nx rho h).turn f = f rho h := (rfl)
@[simp] theorem turn_rt' (v : MV) (h : List O) (f : List SV → List O → SR) : (SR.rt v h).turn f = .rt v h := (rfl)
@[simp] theorem test_t' (a b : SR) : SR.test (.bl true) a b = a := (rfl)
@[simp] theorem test_f' (a b : SR) : SR.test (.bl false) a b = b := (rfl)
@[simp] theorem getV_0' (s : MV) (l : List SV) : getV (.val s :: l) 0 = some s := (rfl)
@[simp] theorem getV_s' (s : SV) (l : List SV) (i : Nat) : getV (s :: l) (i + 1) = getV l i := (rfl)
@[simp] theorem getO_0' (s : O) (l : List SV) : getO (.own s :: l) 0 = some s := (rfl)
@[simp] theorem getO_s' (s : SV) (l : List SV) (i : Nat) : getO (s :: l) (i + 1) = getO l i := (rfl)
@[simp] theorem getL_0' (s : List MV) (l : List SV) : getL (.own (.lst s) :: l) 0 = some s := (rfl)
@[simp] theorem getL_s' (s : SV) (l : List SV) (i : Nat) : getL (s :: l) (i + 1) = getL l i := (rfl)
@[simp] theorem frz_lst (l : List MV) : frzO (.lst l) = some (.lst l) := (rfl)
@[simp] theorem setT_nm (i : Nat) (v : MV) (rho : List SV) : setT (.nm i) v rho = some (rho.set i (.val v)) := (rfl)
@[simp] theorem go_t' (f : List O → R MV) (h : List O) : compGo f (.bl true) h = (f h).bind fun y h6 => .ok (some y) h6 := (rfl)
@[simp] theorem go_f' (f : List O → R MV) (h : List O) : compGo f (.bl false) h = .ok none h := (rfl)
@[simp] theorem add_i' (i j : Int) (h : List O) : binV h .add (.int i) (.int j) = some (.int (i + j)) := (rfl)
@[simp] theorem sub_i' (i j : Int) (h : List O) : binV h .sub (.int i) (.int j) = some (.int (i - j)) := (rfl)
@[simp] theorem lt_i' (i j : Int) (h : List O) : cmpV h .lt (.int i) (.int j) = some (decide (i < j)) := (rfl)
@[simp] theorem le_i' (i j : Int) (h : List O) : cmpV h .le (.int i) (.int j) = some (decide (i ≤ j)) := (rfl)
@[simp] theorem gt_i' (i j : Int) (h : List O) : cmpV h .gt (.int i) (.int j) = some (decide (j < i)) := (rfl)
@[simp] theorem ge_i' (i j : Int) (h : List O) : cmpV h .ge (.int i) (.int j) = some (decide (j ≤ i)) := (rfl)
@[simp] theorem eq_i' (i j : Int) (h : List O) : cmpV h .eq (.int i) (.int j) = some (i == j) := (rfl)
@[simp] theorem ne_i' (i j : Int) (h : List O) : cmpV h .ne (.int i) (.int j) = some (!(i == j)) := (rfl)
@[simp] theorem setAll_nil (rho : List SV) : setAll [] rho = rho := (rfl)
@[simp] theorem setAll_cons (i : Nat) (v : SV) (r : List (Nat × SV)) (rho : List SV) : setAll ((i, v) :: r) rho = setAll r (rho.set i v) := (rfl)
@[simp] theorem wipe_nil (rho : List SV) : wipe rho [] = rho := (rfl)
@[simp] theorem wipe_cons (rho : List SV) (k : Nat) (ks : List Nat) : wipe rho (k :: ks) = (wipe rho ks).set k .none := (rfl)
theorem pow_i (i j : Int) (h : List O) (hj : 0 ≤ j ∧ j ≤ 1000000 ∧ i.natAbs < 2 ^ 64) : binV h .pow (.int i) (.int j) = some (.int (i ^ j.toNat)) := if_pos hj
/-- a loop's law, by what holds between its turns -/
theorem for_inv {Fs : List Fn} {t : T} {ks : List Nat} {b : List S} (P : Nat → List SV → List O → Prop) : ∀ (l : List MV) (i : Nat) (rho : List SV) (h : List O), P i (wipe rho ks) h →
    (∀ (j : Nat) (x : MV) (r : List SV) (h : List O), l[j]? = some x → P (i + j) r h → ∃ r1, setT t x r = some r1 ∧ ∃ r2 h2, (exL Fs b r1 h = .nx r2 h2 ∨ exL Fs b r1 h = .ct r2 h2) ∧ P (i + j + 1) (wipe r2 ks) h2) →
    ∃ r' h', forL (fun x r h => SR.ofO (setT t x (wipe r ks)) fun r1 => exL Fs b r1 h) l rho h = .nx r' h' ∧ P (i + l.length) (wipe r' ks) h'
  | [], i, rho, h, h0, _ => ⟨rho, h, rfl, h0⟩
  | x :: xs, i, rho, h, h0, hs => by
    obtain ⟨r1, e1, r2, h2, e2, p2⟩ := hs 0 x _ h rfl h0
    obtain ⟨r', h', e3, p3⟩ := for_inv P xs (i + 1) r2 h2 p2 fun j y r hh ey pj => by
      have := hs (j + 1) y r hh (by simpa using ey) (by rw [show i + (j + 1) = i + 1 + j by omega]; exact pj)
      rw [show i + (j + 1) + 1 = i + 1 + j + 1 by omega] at this
      exact this
    refine ⟨r', h', ?_, by rw [List.length_cons, show i + (xs.length + 1) = i + 1 + xs.length by omega]; exact p3⟩
    show (SR.ofO (setT t x (wipe rho ks)) fun r1 => exL Fs b r1 h).turn (fun r h1 => forL _ xs r h1) = _
    rw [e1, ofO_some]
    rcases e2 with e2 | e2 <;> rw [e2] <;> exact e3
theorem rangeV_len : ∀ (n : Nat) (lo : Int), (rangeV lo n).length = n
  | 0, _ => rfl
  | n + 1, lo => congrArg Nat.succ (rangeV_len n (lo + 1))
theorem rangeV_at : ∀ (n : Nat) (lo : Int) (j : Nat) (x : MV), (rangeV lo n)[j]? = some x → x = .int (lo + j) ∧ j < n
  | 0, lo, j, x, e => by simp [rangeV] at e
  | n + 1, lo, 0, x, e => by
    simp [rangeV] at e
    exact ⟨by rw [← e]; simp, by omega⟩
  | n + 1, lo, j + 1, x, e => by
    obtain ⟨h1, h2⟩ := rangeV_at n (lo + 1) j x (by simpa [rangeV] using e)
    refine ⟨?_, by omega⟩
    rw [h1]
    congr 1
    omega
end MP
end

section
set_option Elab.async false
set_option linter.all false
set_option maxRecDepth 100000
set_option maxHeartbeats 1000000
namespace MP
/-! ### N1: tools for evaluating with typed things -/
theorem le_lim (n : Nat) : (n ≤ LIM) = (n ≤ 1000000) := rfl
theorem lt_lim (n : Nat) : (n < LIM) = (n < 1000000) := rfl
@[simp] theorem filt_lim {α : Type} {l : List α} {p : α → Bool} {n : Nat} (h : l.length ≤ n) : (l.filter p).length ≤ n := Nat.le_trans (List.length_filter_le p l) h
@[simp] theorem noex_ok' {α : Type} (a : α) (h : List O) : (R.ok a h).noex = .ok a h := (rfl)
def bopK (c b : Bool) (r : R MV) (h : List O) : R MV := if b = c then r else .ok (.bl b) h
@[simp] theorem bopR_k (c b : Bool) (f : List O → R MV) (h : List O) : bopR c f (.bl b) h = bopK c b (f h) h := (rfl)
@[simp] theorem bopK_and (b b2 : Bool) (h : List O) : bopK true b (.ok (.bl b2) h) h = .ok (.bl (b && b2)) h := by cases b <;> rfl
@[simp] theorem bopK_or (b b2 : Bool) (h : List O) : bopK false b (.ok (.bl b2) h) h = .ok (.bl (b || b2)) h := by cases b <;> rfl
@[simp] theorem bopK_tt (r : R MV) (h1 : List O) : bopK true true r h1 = r := (rfl)
@[simp] theorem bopK_tf (r : R MV) (h1 : List O) : bopK true false r h1 = .ok (.bl false) h1 := (rfl)
@[simp] theorem bopK_ff (r : R MV) (h1 : List O) : bopK false false r h1 = r := (rfl)
@[simp] theorem bopK_ft (r : R MV) (h1 : List O) : bopK false true r h1 = .ok (.bl true) h1 := (rfl)
@[simp high] theorem bopR_tt (f : List O → R MV) (h1 : List O) : bopR true f (.bl true) h1 = f h1 := (rfl)
@[simp high] theorem bopR_tf (f : List O → R MV) (h1 : List O) : bopR true f (.bl false) h1 = .ok (.bl false) h1 := (rfl)
@[simp high] theorem bopR_ff (f : List O → R MV) (h1 : List O) : bopR false f (.bl false) h1 = f h1 := (rfl)
@[simp high] theorem bopR_ft (f : List O → R MV) (h1 : List O) : bopR false f (.bl true) h1 = .ok (.bl true) h1 := (rfl)
@[simp] theorem chnR_c (p : Cop) (y z : MV) (k b : Bool) (h3 : List O) (e : cmpV h3 p y z = some b) : chnR p y (fun h => .ok z h) k h3 = .ok (.bl (k && b)) h3 := by
  cases k
  · rfl
  · simp [e]
theorem test_b (b : Bool) (x y : SR) : SR.test (.bl b) x y = if b = true then x else y := by cases b <;> rfl
/-! comprehensions -/
def compR (Fs : List Fn) (live : Bool) (elt : E) (tg : T) (ifs : List E) (rho : List SV) (src : Src) (h3 : List O) : R MV :=
  (compLoop src (compStep tg rho (fun r h4 => evB Fs true ifs r h4) (fun r h4 => ev Fs elt r h4)) (src.len h3 + 1) 0 h3).bind fun ys h7 => compEnd live ys h7
@[simp] theorem ev_comp (Fs : List Fn) (live : Bool) (elt : E) (tg : T) (own : List Nat) (ik : IK) (ia ib : E) (ifs : List E) (rho : List SV) (h : List O) : ev Fs (.comp live elt tg own ik ia ib ifs) rho h = (srcE ik (fun h1 => ev Fs ia rho h1) (fun h1 => ev Fs ib rho h1) h).bind fun src h3 => compR Fs live elt tg ifs (wipe rho own) src h3 := (rfl)
@[simp] theorem srcE_seq (ra rb : List O → R MV) (h : List O) : srcE .seq ra rb h = (ra h).bind fun x h1 => R.of (srcV h1 x) h1 := (rfl)
@[simp] theorem srcE_rng1 (ra rb : List O → R MV) (h : List O) : srcE .rng1 ra rb h = (ra h).bind fun x h1 => R.of (rng1V x) h1 := (rfl)
@[simp] theorem srcE_rng2 (ra rb : List O → R MV) (h : List O) : srcE .rng2 ra rb h = (ra h).bind fun x h1 => (rb h1).bind fun y h2 => R.of (rng2V x y) h2 := (rfl)
@[simp] theorem srcE_enm (ra rb : List O → R MV) (h : List O) : srcE .enm ra rb h = (ra h).bind fun x h1 => R.of (enmV h1 x) h1 := (rfl)
@[simp] theorem srcE_zip (ra rb : List O → R MV) (h : List O) : srcE .zip ra rb h = (ra h).bind fun x h1 => (rb h1).bind fun y h2 => R.of (zipV h2 x y) h2 := (rfl)
@[simp] theorem srcV_tup (h : List O) (l : List MV) : srcV h (.tup l) = some (.fz l) := (rfl)
@[simp] theorem srcV_lst (h : List O) (l : List MV) : srcV h (.lst l) = some (.fz l) := (rfl)
@[simp] theorem enmV_lst (h : List O) (l : List MV) : enmV h (.lst l) = some (.enm (.fz l)) := (rfl)
@[simp] theorem zipV_tup (h : List O) (l k : List MV) : zipV h (.tup l) (.tup k) = some (.zip (.fz l) (.fz k)) := (rfl)
@[simp] theorem zipV_lst (h : List O) (l k : List MV) : zipV h (.lst l) (.lst k) = some (.zip (.fz l) (.fz k)) := (rfl)
@[simp] theorem comp_fz (Fs : List Fn) (live : Bool) (elt : E) (tg : T) (ifs : List E) (rho : List SV) (l : List MV) (h : List O) : compR Fs live elt tg ifs rho (.fz l) h = (compL (compStep tg rho (fun r h4 => evB Fs true ifs r h4) (fun r h4 => ev Fs elt r h4)) l h).bind fun ys h7 => compEnd live ys h7 := by
  unfold compR
  rw [comp_items _ rfl h]
/-- items with their numbers -/
def numd {α : Type} : Int → List α → List (Int × α)
  | _, [] => []
  | i, x :: xs => (i, x) :: numd (i + 1) xs
theorem numd_map {α β : Type} (f : α → β) : ∀ (l : List α) (i : Int), numd i (l.map f) = (numd i l).map fun p => (p.1, f p.2)
  | [], _ => rfl
  | x :: xs, i => by simp [numd, numd_map f xs]
def encN {α : Type} (f : α → MV) (p : Int × α) : MV := .tup [.int p.1, f p.2]
theorem zipIdx_numd {α : Type} : ∀ (l : List α) (n : Nat), (l.zipIdx n).map (fun p => ((p.2 : Int), p.1)) = numd n l
  | [], _ => rfl
  | x :: xs, n => by
    have := zipIdx_numd xs (n + 1)
    simp only [List.zipIdx_cons, List.map_cons, numd, this]
    rfl
theorem enm_items {α : Type} (f : α → MV) (l : List α) : (Src.enm (.fz (l.map f))).items = some ((numd 0 l).map (encN f)) := by
  have h1 : (Src.enm (.fz (l.map f))).items = some ((l.map f).zipIdx.map fun p => MV.tup [.int p.2, p.1]) := rfl
  rw [h1]
  congr 1
  have h2 : ((l.map f).zipIdx.map fun p => MV.tup [.int p.2, p.1]) = (((l.map f).zipIdx 0).map (fun p => ((p.2 : Int), p.1))).map fun p => MV.tup [.int p.1, p.2] := by
    rw [List.map_map]
    rfl
  rw [h2, zipIdx_numd, numd_map, List.map_map]
  rfl
@[simp] theorem comp_enm {α : Type} (f : α → MV) (Fs : List Fn) (live : Bool) (elt : E) (tg : T) (ifs : List E) (rho : List SV) (l : List α) (h : List O) : compR Fs live elt tg ifs rho (.enm (.fz (l.map f))) h = (compL (compStep tg rho (fun r h4 => evB Fs true ifs r h4) (fun r h4 => ev Fs elt r h4)) ((numd 0 l).map (encN f)) h).bind fun ys h7 => compEnd live ys h7 := by
  unfold compR
  rw [comp_items _ (enm_items f l) h]
def encZ {α β : Type} (f : α → MV) (g : β → MV) (p : α × β) : MV := .tup [f p.1, g p.2]
theorem zip_items {α β : Type} (f : α → MV) (g : β → MV) (l : List α) (k : List β) : (Src.zip (.fz (l.map f)) (.fz (k.map g))).items = some ((l.zip k).map (encZ f g)) := by
  have h1 : (Src.zip (.fz (l.map f)) (.fz (k.map g))).items = some (((l.map f).zip (k.map g)).map fun p => MV.tup [p.1, p.2]) := rfl
  rw [h1, List.zip_map, List.map_map]
  rfl
@[simp] theorem comp_zip {α β : Type} (f : α → MV) (g : β → MV) (Fs : List Fn) (live : Bool) (elt : E) (tg : T) (ifs : List E) (rho : List SV) (l : List α) (k : List β) (h : List O) : compR Fs live elt tg ifs rho (.zip (.fz (l.map f)) (.fz (k.map g))) h = (compL (compStep tg rho (fun r h4 => evB Fs true ifs r h4) (fun r h4 => ev Fs elt r h4)) ((l.zip k).map (encZ f g)) h).bind fun ys h7 => compEnd live ys h7 := by
  unfold compR
  rw [comp_items _ (zip_items f g l k) h]
/-- a comprehension over typed items -/
def compT {α : Type} (f : α → List O → R (Option MV)) : List α → List O → R (List MV)
  | [], h => .ok [] h
  | x :: xs, h => (f x h).noex.bind fun o h1 => (compT f xs h1).bind fun ys h2 => compAdd o ys h2
@[simp] theorem compL_T {α : Type} (e : α → MV) (step : MV → List O → R (Option MV)) : ∀ (l : List α) (h : List O), compL step (l.map e) h = compT (fun x h => step (e x) h) l h
  | [], _ => rfl
  | x :: xs, h => by
    show (step (e x) h).noex.bind (fun o h1 => (compL step (xs.map e) h1).bind fun ys h2 => compAdd o ys h2) = (step (e x) h).noex.bind fun o h1 => (compT _ xs h1).bind fun ys h2 => compAdd o ys h2
    congr 1
    funext o h1
    rw [compL_T e step xs h1]
@[simp] theorem compT_some {α : Type} (f : α → MV) : ∀ (l : List α) (h : List O), compT (fun x h => .ok (some (f x)) h) l h = .ok (l.map f) h
  | [], _ => rfl
  | x :: xs, h => by
    have := compT_some f xs h
    simp [compT, this, compAdd]
@[simp] theorem compT_go {α : Type} (p : α → Bool) (f : α → MV) : ∀ (l : List α) (h : List O), compT (fun x h => compGo (fun h6 => .ok (f x) h6) (.bl (p x)) h) l h = .ok ((l.filter p).map f) h
  | [], _ => rfl
  | x :: xs, h => by
    have := compT_go p f xs h
    simp only [compT]
    cases e : p x <;> simp [this, compAdd, e]
theorem compT_mem {α : Type} {f : α → List O → R (Option MV)} {p : α → Bool} {g : α → MV} {h : List O} : ∀ (l : List α), (∀ x ∈ l, f x h = .ok (if p x then some (g x) else none) h) → compT f l h = .ok ((l.filter p).map g) h
  | [], _ => rfl
  | x :: xs, hs => by
    have h1 := hs x List.mem_cons_self
    have := compT_mem xs fun y hy => hs y (List.mem_cons_of_mem _ hy)
    simp only [compT]
    rw [h1]
    cases e : p x <;> simp [this, compAdd, e]
theorem compT_all {α : Type} {f : α → List O → R (Option MV)} {g : α → MV} {h : List O} : ∀ (l : List α), (∀ x ∈ l, f x h = .ok (some (g x)) h) → compT f l h = .ok (l.map g) h
  | [], _ => rfl
  | x :: xs, hs => by
    have h1 := hs x List.mem_cons_self
    have := compT_all xs fun y hy => hs y (List.mem_cons_of_mem _ hy)
    simp only [compT]
    rw [h1]
    simp [this, compAdd]
@[simp] theorem compStep_ (tg : T) (rho : List SV) (ft fe : List SV → List O → R MV) (x : MV) (h : List O) : compStep tg rho ft fe x h = (R.of (setT tg x rho) h).bind fun r h4 => (ft r h4).bind fun b h5 => compGo (fun h6 => fe r h6) b h5 := (rfl)
@[simp] theorem compEnd_f (ys : List MV) (h : List O) (hz : ys.length ≤ 1000000) : compEnd false ys h = .ok (.lst ys) h := if_pos hz
@[simp] theorem compEnd_t (ys : List MV) (h : List O) (hz : ys.length ≤ 1000000) : compEnd true ys h = .ok (.ref h.length) (h ++ [.lst ys]) := if_pos hz
@[simp] theorem setT_tp (ts : List T) (l : List MV) (rho : List SV) : setT (.tp ts) (.tup l) rho = setTs ts l rho := (rfl)
@[simp] theorem setTs_nil (rho : List SV) : setTs [] [] rho = some rho := (rfl)
@[simp] theorem setTs_cons (t : T) (ts : List T) (v : MV) (vs : List MV) (rho : List SV) : setTs (t :: ts) (v :: vs) rho = (setT t v rho).bind fun r => setTs ts vs r := (rfl)
@[simp] theorem encN_ {α : Type} (f : α → MV) (p : Int × α) : encN f p = .tup [.int p.1, f p.2] := (rfl)
@[simp] theorem encZ_ {α β : Type} (f : α → MV) (g : β → MV) (p : α × β) : encZ f g p = .tup [f p.1, g p.2] := (rfl)
/-! all, any -/
theorem boolsOf_map : ∀ ns : List Bool, boolsOf (ns.map MV.bl) = some ns
  | [] => rfl
  | n :: ns => by simp [boolsOf, boolsOf_map ns]
theorem boolsOf_mapf {α : Type} (f : α → Bool) (l : List α) : boolsOf (l.map fun x => MV.bl (f x)) = some (l.map f) := by
  rw [← boolsOf_map, List.map_map]
  rfl
theorem intsOf_mapf {α : Type} (f : α → Int) : ∀ (l : List α), intsOf (l.map fun x => MV.int (f x)) = some (l.map f)
  | [] => rfl
  | x :: xs => by simp [intsOf, intsOf_mapf f xs]
@[simp] theorem all_map {α : Type} (f : α → Bool) (l : List α) (h : List O) : bltV .all [.lst (l.map fun x => .bl (f x))] h = .ok (.bl (l.all f)) h := by
  show optR ((lookL h (.lst (l.map fun x => .bl (f x)))).bind boolsOf) (fun bs => R.ok (MV.bl (bs.all id)) h) = _
  simp [lookL, boolsOf_mapf, Function.comp_def]
@[simp] theorem any_map {α : Type} (f : α → Bool) (l : List α) (h : List O) : bltV .any [.lst (l.map fun x => .bl (f x))] h = .ok (.bl (l.any f)) h := by
  show optR ((lookL h (.lst (l.map fun x => .bl (f x)))).bind boolsOf) (fun bs => R.ok (MV.bl (bs.any id)) h) = _
  simp [lookL, boolsOf_mapf, Function.comp_def]
@[simp] theorem len_lst (l : List MV) (h : List O) : bltV .len [.lst l] h = .ok (.int l.length) h := (rfl)
@[simp] theorem len_tup (l : List MV) (h : List O) : bltV .len [.tup l] h = .ok (.int l.length) h := (rfl)
@[simp] theorem abs_int (i : Int) (h : List O) : bltV .abs [.int i] h = .ok (.int (if i < 0 then -i else i)) h := (rfl)
@[simp] theorem tuple_lst (l : List MV) (h : List O) : bltV .tuple [.lst l] h = .ok (.tup l) h := (rfl)
@[simp] theorem tuple_tup (l : List MV) (h : List O) : bltV .tuple [.tup l] h = .ok (.tup l) h := (rfl)
@[simp] theorem list_lst (l : List MV) (h : List O) : bltV .list [.lst l] h = .ok (.lst l) h := (rfl)
@[simp] theorem listR_lst (l : List MV) (h : List O) : bltV .listR [.lst l] h = .ok (.ref h.length) (h ++ [.lst l]) := (rfl)
@[simp] theorem max2 (i j : Int) (h : List O) : bltV .max [.int i, .int j] h = .ok (.int (if j > i then j else i)) h := (rfl)
@[simp] theorem min2 (i j : Int) (h : List O) : bltV .min [.int i, .int j] h = .ok (.int (if j < i then j else i)) h := (rfl)
theorem len_str (s : List Nat) (h : List O) (hz : s.length ≤ 1000000) : bltV .len [.str s] h = .ok (.int s.length) h := if_pos hz
@[simp] theorem isi_int_i (h : List O) (i : Int) : isiV h .int (.int i) = some true := (rfl)
@[simp] theorem isi_bool_i (h : List O) (i : Int) : isiV h .bool (.int i) = some false := (rfl)
@[simp] theorem isi_tuple_t (h : List O) (i : List MV) : isiV h .tuple (.tup i) = some true := (rfl)
@[simp] theorem isi_str_s (h : List O) (i : List Nat) : isiV h .str (.str i) = some true := (rfl)
@[simp] theorem isi_list_l (h : List O) (i : List MV) : isiV h .list (.lst i) = some true := (rfl)
@[simp] theorem evPar_nil (Fs : List Fn) (rho : List SV) (h : List O) : evPar Fs rho [] h = .ok [] h := (rfl)
@[simp] theorem evPar_cons (Fs : List Fn) (rho : List SV) (i : Nat) (b : Bool) (e : E) (r : List (Nat × Bool × E)) (h : List O) : evPar Fs rho ((i, b, e) :: r) h = (evSV Fs b e rho h).bind fun v h1 => (evPar Fs rho r h1).bind fun vs h2 => .ok ((i, v) :: vs) h2 := (rfl)
@[simp] theorem evSV_t (Fs : List Fn) (rho : List SV) (e : E) (h : List O) : evSV Fs true e rho h = (evO Fs e rho h).bind fun o h1 => .ok (.own o) h1 := (rfl)
@[simp] theorem evSV_f (Fs : List Fn) (rho : List SV) (e : E) (h : List O) : evSV Fs false e rho h = (ev Fs e rho h).bind fun v h1 => .ok (.val v) h1 := (rfl)
def olstR (xs : List MV) (h1 : List O) : R O := if xs.length ≤ LIM then .ok (.lst xs) h1 else .bad
@[simp] theorem olstR_ok (xs : List MV) (h1 : List O) (hz : xs.length ≤ 1000000) : olstR xs h1 = .ok (.lst xs) h1 := if_pos hz
@[simp] theorem evO_lst (Fs : List Fn) (rho : List SV) (es : List E) (h : List O) : evO Fs (.lst es) rho h = (evs Fs es rho h).bind olstR := (rfl)
@[simp] theorem evO_dic1 (Fs : List Fn) (rho : List SV) (k v : E) (h : List O) : evO Fs (.dic false [k, v]) rho h = (ev Fs k rho h).bind fun x h1 => (ev Fs v rho h1).bind fun y h2 => if keyM x then .ok (.dic false [(x, y)]) h2 else .bad := (rfl)
/-! numbers in a row -/
def rngI (lo : Int) : Nat → List Int
  | 0 => []
  | n + 1 => lo :: rngI (lo + 1) n
theorem rangeV_map : ∀ (n : Nat) (lo : Int), rangeV lo n = (rngI lo n).map .int
  | 0, _ => rfl
  | n + 1, lo => by simp [rangeV, rngI, rangeV_map n (lo + 1)]
theorem rngI_mem : ∀ (n : Nat) (lo x : Int), x ∈ rngI lo n ↔ lo ≤ x ∧ x < lo + n
  | 0, lo, x => by
    constructor
    · intro h
      cases h
    · intro h
      omega
  | n + 1, lo, x => by
    simp only [rngI, List.mem_cons, rngI_mem n (lo + 1) x]
    omega
@[simp] theorem rngI_len : ∀ (n : Nat) (lo : Int), (rngI lo n).length = n
  | 0, _ => rfl
  | n + 1, lo => congrArg Nat.succ (rngI_len n (lo + 1))
theorem rngI_rise : ∀ (n : Nat) (lo : Int), (rngI lo n).Pairwise (· < ·)
  | 0, _ => .nil
  | n + 1, lo => .cons (fun x hx => by have := (rngI_mem n (lo + 1) x).mp hx; omega) (rngI_rise n (lo + 1))
theorem rng1_t (j : Int) (hj : -1000000 < j ∧ j < 1000000) : rng1V (.int j) = some (.fz ((rngI 0 j.toNat).map .int)) := by
  rw [← rangeV_map]
  exact if_pos hj
theorem rng2_t (i j : Int) (hj : (-1000000 < i ∧ i < 1000000) ∧ -1000000 < j ∧ j < 1000000) : rng2V (.int i) (.int j) = some (.fz ((rngI i (j - i).toNat).map .int)) := by
  rw [← rangeV_map]
  exact if_pos hj
theorem shr_i (i j : Int) (h : List O) (hj : 0 ≤ j) : binV h .shr (.int i) (.int j) = some (.int (i / 2 ^ j.toNat)) := if_pos hj
theorem band_i (i : Int) (h : List O) (hj : 0 ≤ i) : binV h .band (.int i) (.int 1) = some (.int (i % 2)) := if_pos hj
/-! in -/
theorem inM_ints (x : Int) : ∀ l : List Int, inM (.int x) (l.map .int) = decide (x ∈ l)
  | [] => rfl
  | y :: l => by
    have ih := inM_ints x l
    unfold inM at ih ⊢
    rw [List.map_cons, List.any_cons, ih]
    by_cases h : y = x
    · subst h
      simp [eqM]
    · have h2 : ¬ x = y := fun z => h z.symm
      simp [eqM, h, h2]
theorem flat_ints : ∀ l : List Int, (l.map MV.int).all flatM = true
  | [] => rfl
  | _ :: l => by simp [flatM]
theorem inV_lst (x : Int) (l : List Int) (h : List O) : inV h (.int x) (.lst (l.map .int)) = some (decide (x ∈ l)) := by
  show inSeq h (.int x) (.lst (l.map .int)) = _
  unfold inSeq
  simp only [lookS, lookL]
  rw [if_pos (by simp [flatM, flat_ints]), inM_ints]
theorem inV_tup (x : Int) (l : List Int) (h : List O) : inV h (.int x) (.tup (l.map .int)) = some (decide (x ∈ l)) := by
  show inSeq h (.int x) (.tup (l.map .int)) = _
  unfold inSeq
  simp only [lookS]
  rw [if_pos (by simp [flatM, flat_ints]), inM_ints]
@[simp] theorem in_lst (x : Int) (l : List Int) (h : List O) : cmpV h .isin (.int x) (.lst (l.map .int)) = some (decide (x ∈ l)) := inV_lst x l h
@[simp] theorem in_tup (x : Int) (l : List Int) (h : List O) : cmpV h .isin (.int x) (.tup (l.map .int)) = some (decide (x ∈ l)) := inV_tup x l h
@[simp] theorem nin_lst (x : Int) (l : List Int) (h : List O) : cmpV h .notin (.int x) (.lst (l.map .int)) = some (!decide (x ∈ l)) := by
  show (inV h (.int x) (.lst (l.map .int))).map not = _
  rw [inV_lst]
  rfl
@[simp] theorem nin_tup (x : Int) (l : List Int) (h : List O) : cmpV h .notin (.int x) (.tup (l.map .int)) = some (!decide (x ∈ l)) := by
  show (inV h (.int x) (.tup (l.map .int))).map not = _
  rw [inV_tup]
  rfl
theorem add_lst (a b : List MV) (h : List O) (hz : a.length + b.length ≤ 1000000) : binV h .add (.lst a) (.lst b) = some (.lst (a ++ b)) := by
  show (match lookL h (.lst a), lookL h (.lst b) with
    | some l, some k => if l.length + k.length ≤ LIM then some (MV.lst (l ++ k)) else none
    | _, _ => none) = _
  exact if_pos hz
theorem add_tup (a b : List MV) (h : List O) (hz : a.length + b.length ≤ 1000000) : binV h .add (.tup a) (.tup b) = some (.tup (a ++ b)) := if_pos hz
theorem app_own (l : List MV) (v : MV) (hz : l.length < 1000000) : appOwn l v = some (.lst (l ++ [v])) := if_pos hz
/-! places -/
theorem atI_nat {α : Type} (l : List α) (i : Int) (h : 0 ≤ i) : atI l i = l[i.toNat]? := by
  unfold atI ixN
  rw [if_pos h]
  by_cases h2 : i < l.length
  · rw [if_pos h2]
    rfl
  · rw [if_neg h2, List.getElem?_eq_none (by omega)]
    rfl
theorem atI_m1 {α : Type} (l : List α) (x : α) : atI (l ++ [x]) (-1) = some x := by
  unfold atI ixN
  rw [if_neg (by omega), if_pos (by simp; omega), List.length_append]
  show (l ++ [x])[(-1 + ((l.length + 1 : Nat) : Int)).toNat]? = some x
  rw [show (-1 + ((l.length + 1 : Nat) : Int)).toNat = l.length by omega]
  simp
@[simp] theorem atI_0 {α : Type} (a : α) (l : List α) : atI (a :: l) 0 = some a := by rw [atI_nat _ _ (by omega)]; rfl
@[simp] theorem atI_1 {α : Type} (a b : α) (l : List α) : atI (a :: b :: l) 1 = some b := by rw [atI_nat _ _ (by omega)]; rfl
@[simp] theorem atI_2 {α : Type} (a b c : α) (l : List α) : atI (a :: b :: c :: l) 2 = some c := by rw [atI_nat _ _ (by omega)]; rfl
@[simp] theorem atI_3 {α : Type} (a b c d : α) (l : List α) : atI (a :: b :: c :: d :: l) 3 = some d := by rw [atI_nat _ _ (by omega)]; rfl
@[simp] theorem atI_4 {α : Type} (a b c d e : α) (l : List α) : atI (a :: b :: c :: d :: e :: l) 4 = some e := by rw [atI_nat _ _ (by omega)]; rfl
@[simp] theorem atI_5 {α : Type} (a b c d e f : α) (l : List α) : atI (a :: b :: c :: d :: e :: f :: l) 5 = some f := by rw [atI_nat _ _ (by omega)]; rfl
@[simp] theorem cut_lo {α : Type} (l : List α) (n : Int) (h : 0 ≤ n) : cut l (some n) none = l.drop n.toNat := by
  unfold cut
  have : sIx l.length l.length none = l.length := rfl
  have h2 : sIx l.length 0 (some n) = min n.toNat l.length := if_neg (by omega)
  rw [this, h2]
  by_cases h3 : n.toNat ≤ l.length
  · rw [Nat.min_eq_left h3]
    exact List.take_of_length_le (by rw [List.length_drop]; omega)
  · rw [Nat.min_eq_right (by omega), List.drop_eq_nil_of_le (Nat.le_refl _), List.drop_eq_nil_of_le (by omega)]
    simp
@[simp] theorem cut_hi {α : Type} (l : List α) (n : Int) (h : 0 ≤ n) : cut l none (some n) = l.take n.toNat := by
  unfold cut
  have h1 : sIx l.length 0 none = 0 := rfl
  have h2 : sIx l.length l.length (some n) = min n.toNat l.length := if_neg (by omega)
  rw [h1, h2, List.drop_zero, Nat.sub_zero]
  by_cases h3 : n.toNat ≤ l.length
  · rw [Nat.min_eq_left h3]
  · rw [Nat.min_eq_right (by omega), List.take_of_length_le (Nat.le_refl _), List.take_of_length_le (by omega)]
@[simp] theorem cut_both {α : Type} (l : List α) (n m : Int) (h : 0 ≤ n) (h' : 0 ≤ m) : cut l (some n) (some m) = (l.drop n.toNat).take (m.toNat - n.toNat) := by
  unfold cut
  have h1 : sIx l.length 0 (some n) = min n.toNat l.length := if_neg (by omega)
  have h2 : sIx l.length l.length (some m) = min m.toNat l.length := if_neg (by omega)
  rw [h1, h2]
  by_cases h3 : n.toNat ≤ l.length
  · rw [Nat.min_eq_left h3]
    by_cases h4 : m.toNat ≤ l.length
    · rw [Nat.min_eq_left h4]
    · rw [Nat.min_eq_right (by omega), List.take_of_length_le (by rw [List.length_drop]; omega), List.take_of_length_le (by rw [List.length_drop]; omega)]
  · rw [Nat.min_eq_right (by omega : l.length ≤ n.toNat), List.drop_eq_nil_of_le (Nat.le_refl _), List.drop_eq_nil_of_le (by omega)]
    simp
theorem cut_m1 {α : Type} (l : List α) : cut l none (some (-1)) = l.dropLast := by
  unfold cut
  have h1 : sIx l.length 0 none = 0 := rfl
  have h2 : sIx l.length l.length (some (-1)) = (-1 + (l.length : Int)).toNat := by
    show (if (-1 : Int) < 0 then ((-1 : Int) + (l.length : Int)).toNat else min (-1 : Int).toNat l.length) = _
    rw [if_pos (by omega)]
  rw [h1, h2, List.drop_zero, Nat.sub_zero, List.dropLast_eq_take]
  congr 1
  omega
@[simp] theorem optP_f (r : List O → R MV) (h : List O) : optP false r h = .ok none h := (rfl)
def optQ (x : MV) (h1 : List O) : R (Option Int) := match x with
  | .int i => .ok (some i) h1
  | _ => .bad
@[simp] theorem optQ_i (i : Int) (h : List O) : optQ (.int i) h = .ok (some i) h := (rfl)
@[simp] theorem optP_t (r : List O → R MV) (h : List O) : optP true r h = (r h).bind optQ := (rfl)
@[simp] theorem hasLo_all : SK.all.hasLo = false := (rfl)
@[simp] theorem hasLo_lo : SK.lo.hasLo = true := (rfl)
@[simp] theorem hasLo_hi : SK.hi.hasLo = false := (rfl)
@[simp] theorem hasLo_both : SK.both.hasLo = true := (rfl)
@[simp] theorem hasLo_rev : SK.rev.hasLo = false := (rfl)
@[simp] theorem hasHi_all : SK.all.hasHi = false := (rfl)
@[simp] theorem hasHi_lo : SK.lo.hasHi = false := (rfl)
@[simp] theorem hasHi_hi : SK.hi.hasHi = true := (rfl)
@[simp] theorem hasHi_both : SK.both.hasHi = true := (rfl)
@[simp] theorem hasHi_rev : SK.rev.hasHi = false := (rfl)
@[simp] theorem ev_slc (Fs : List Fn) (rho : List SV) (h : List O) (k : SK) (a lo hi : E) : ev Fs (.slc k a lo hi) rho h = (ev Fs a rho h).bind fun x h1 => (optP k.hasLo (fun h2 => ev Fs lo rho h2) h1).bind fun l h2 => (optP k.hasHi (fun h3 => ev Fs hi rho h3) h2).bind fun u h3 => R.of (slcV h3 k x l u) h3 := (rfl)
@[simp] theorem slcV_rev (h : List O) (l : List MV) (lo hi : Option Int) : slcV h .rev (.lst l) lo hi = some (.lst l.reverse) := (rfl)
@[simp] theorem slcV_lo_t (h : List O) (l : List MV) (lo hi : Option Int) : slcV h .lo (.tup l) lo hi = some (.tup (cut l lo hi)) := (rfl)
@[simp] theorem slcV_hi_t (h : List O) (l : List MV) (lo hi : Option Int) : slcV h .hi (.tup l) lo hi = some (.tup (cut l lo hi)) := (rfl)
@[simp] theorem slcV_lo_l (h : List O) (l : List MV) (lo hi : Option Int) : slcV h .lo (.lst l) lo hi = some (.lst (cut l lo hi)) := (rfl)
@[simp] theorem slcV_hi_l (h : List O) (l : List MV) (lo hi : Option Int) : slcV h .hi (.lst l) lo hi = some (.lst (cut l lo hi)) := (rfl)
@[simp] theorem slcV_both_l (h : List O) (l : List MV) (lo hi : Option Int) : slcV h .both (.lst l) lo hi = some (.lst (cut l lo hi)) := (rfl)
@[simp] theorem slcV_both_t (h : List O) (l : List MV) (lo hi : Option Int) : slcV h .both (.tup l) lo hi = some (.tup (cut l lo hi)) := (rfl)
@[simp] theorem slcV_hi_r (h : List O) (l : List MV) (lo hi : Option Int) : slcV h .hi (.rol l) lo hi = some (.lst (cut l lo hi)) := (rfl)
/-! loops -/
def wipeN (ks : List Nat) : SR → SR
  | .nx r h => .nx (wipe r ks) h
  | .ct r h => .nx (wipe r ks) h
  | r => r
@[simp] theorem wipeN_nx (ks : List Nat) (r : List SV) (h : List O) : wipeN ks (.nx r h) = .nx (wipe r ks) h := (rfl)
@[simp] theorem wipeN_ct (ks : List Nat) (r : List SV) (h : List O) : wipeN ks (.ct r h) = .nx (wipe r ks) h := (rfl)
@[simp] theorem wipeN_rt (ks : List Nat) (v : MV) (h : List O) : wipeN ks (.rt v h) = .rt v h := (rfl)
/-- the step of a loop over typed items -/
def stepF (Fs : List Fn) (t : T) (ks : List Nat) (b : List S) (v : MV) (rho : List SV) (h : List O) : SR := wipeN ks (SR.ofO (setT t v rho) fun r1 => exL Fs b r1 h)
theorem stepF_ (Fs : List Fn) (t : T) (ks : List Nat) (b : List S) (v : MV) (rho : List SV) (h : List O) : stepF Fs t ks b v rho h = wipeN ks (SR.ofO (setT t v rho) fun r1 => exL Fs b r1 h) := rfl
/-- all turns, the loop's own names empty between -/
def loopF (Fs : List Fn) (t : T) (ks : List Nat) (b : List S) : List MV → List SV → List O → SR
  | [], rho, h => .nx rho h
  | x :: xs, rho, h => (stepF Fs t ks b x rho h).seq fun r h1 => loopF Fs t ks b xs r h1
theorem forL_loopF (Fs : List Fn) (t : T) (ks : List Nat) (b : List S) : ∀ (l : List MV) (rho : List SV) (h : List O),
    (forL (fun x r h => SR.ofO (setT t x (wipe r ks)) fun r1 => exL Fs b r1 h) l rho h).seq (fun r h => .nx (wipe r ks) h) = loopF Fs t ks b l (wipe rho ks) h
  | [], rho, h => rfl
  | x :: xs, rho, h => by
    have ih := forL_loopF Fs t ks b xs
    simp only [forL, loopF, stepF]
    cases SR.ofO (setT t x (wipe rho ks)) fun r1 => exL Fs b r1 h with
    | nx r h1 => exact ih r h1
    | ct r h1 => exact ih r h1
    | rt v h1 => rfl
    | ex e r h1 => rfl
    | bad => rfl
def forR (Fs : List Fn) (t : T) (ks : List Nat) (b : List S) (rho : List SV) (src : Src) (h2 : List O) : SR :=
  (forLoop src (fun x r h => SR.ofO (setT t x (wipe r ks)) fun r1 => exL Fs b r1 h) (src.len h2 + 1) 0 rho h2).seq fun r h => .nx (wipe r ks) h
@[simp] theorem exS_for' (Fs : List Fn) (rho : List SV) (h : List O) (t : T) (ik : IK) (ia ib : E) (ks : List Nat) (b : List S) : exS Fs (.for t ik ia ib ks b) rho h = SR.ofR (srcE ik (fun h1 => ev Fs ia rho h1) (fun h1 => ev Fs ib rho h1) h) rho fun src h2 => forR Fs t ks b rho src h2 := (rfl)
@[simp] theorem for_fz (Fs : List Fn) (t : T) (ks : List Nat) (b : List S) (l : List MV) (rho : List SV) (h : List O) : forR Fs t ks b rho (.fz l) h = loopF Fs t ks b l (wipe rho ks) h := by
  unfold forR
  rw [for_items (l := l) _ rfl, forL_loopF]
@[simp] theorem for_enm {α : Type} (f : α → MV) (Fs : List Fn) (t : T) (ks : List Nat) (b : List S) (l : List α) (rho : List SV) (h : List O) : forR Fs t ks b rho (.enm (.fz (l.map f))) h = loopF Fs t ks b ((numd 0 l).map (encN f)) (wipe rho ks) h := by
  unfold forR
  rw [for_items _ (enm_items f l), forL_loopF]
@[simp] theorem for_zip {α β : Type} (f : α → MV) (g : β → MV) (Fs : List Fn) (t : T) (ks : List Nat) (b : List S) (l : List α) (k : List β) (rho : List SV) (h : List O) : forR Fs t ks b rho (.zip (.fz (l.map f)) (.fz (k.map g))) h = loopF Fs t ks b ((l.zip k).map (encZ f g)) (wipe rho ks) h := by
  unfold forR
  rw [for_items _ (zip_items f g l k), forL_loopF]
theorem endR_seq {r r' : SR} {f : List SV → List O → SR} {z : R MV} (h : r = r') (h2 : endR (r'.seq f) = z) : endR (r.seq f) = z := h ▸ h2
theorem nx_seq {r r' : SR} {f : List SV → List O → SR} {z : SR} (h : r = r') (h2 : r'.seq f = z) : r.seq f = z := h ▸ h2
/-- a loop as a fold -/
theorem loop_fold {α σ : Type} {Fs : List Fn} {t : T} {ks : List Nat} {b : List S} {h : List O} (enc : α → MV) (st : σ → List SV) (g : σ → α → σ) (P : σ → List α → Prop) : ∀ (l : List α) (s : σ), P s l →
    (∀ s x xs, P s (x :: xs) → stepF Fs t ks b (enc x) (st s) h = .nx (st (g s x)) h ∧ P (g s x) xs) → loopF Fs t ks b (l.map enc) (st s) h = .nx (st (l.foldl g s)) h
  | [], s, _, _ => rfl
  | x :: xs, s, hp, hs => by
    obtain ⟨h1, h2⟩ := hs s x xs hp
    show (stepF Fs t ks b (enc x) (st s) h).seq (fun r h1 => loopF Fs t ks b (xs.map enc) r h1) = _
    rw [h1]
    exact loop_fold enc st g P xs (g s x) h2 hs
/-- a loop, by what holds between its turns -/
theorem loop_ex {α σ : Type} {Fs : List Fn} {t : T} {ks : List Nat} {b : List S} {h : List O} (enc : α → MV) (st : σ → List SV) (P : σ → List α → Prop) : ∀ (l : List α) (s : σ), P s l →
    (∀ s x xs, P s (x :: xs) → ∃ s', stepF Fs t ks b (enc x) (st s) h = .nx (st s') h ∧ P s' xs) → ∃ s', loopF Fs t ks b (l.map enc) (st s) h = .nx (st s') h ∧ P s' []
  | [], s, hp, _ => ⟨s, rfl, hp⟩
  | x :: xs, s, hp, hs => by
    obtain ⟨s1, h1, h2⟩ := hs s x xs hp
    obtain ⟨s', h3, h4⟩ := loop_ex enc st P xs s1 h2 hs
    refine ⟨s', ?_, h4⟩
    show (stepF Fs t ks b (enc x) (st s) h).seq (fun r h1 => loopF Fs t ks b (xs.map enc) r h1) = _
    rw [h1]
    exact h3
/-- a loop that only looks, and ends the def at the first item that is not right -/
theorem loop_look {α : Type} {Fs : List Fn} {t : T} {ks : List Nat} {b : List S} {h : List O} {rho : List SV} (enc : α → MV) (p : α → Bool) (v : MV) : ∀ (l : List α),
    (∀ x ∈ l, stepF Fs t ks b (enc x) rho h = if p x then .nx rho h else .rt v h) → loopF Fs t ks b (l.map enc) rho h = if l.all p then .nx rho h else .rt v h
  | [], _ => rfl
  | x :: xs, hs => by
    have h1 := hs x List.mem_cons_self
    have h2 := loop_look enc p v xs fun y hy => hs y (List.mem_cons_of_mem _ hy)
    show (stepF Fs t ks b (enc x) rho h).seq (fun r h1 => loopF Fs t ks b (xs.map enc) r h1) = _
    rw [h1]
    cases e : p x with
    | true => simp [h2, e]
    | false => simp [e]
theorem loop_ex' {α σ : Type} {Fs : List Fn} {t : T} {ks : List Nat} {b : List S} {h : List O} {enc : α → MV} {l : List α} {rho : List SV} {r : SR} (hr : loopF Fs t ks b (l.map enc) rho h = r) (st : σ → List SV) (P : σ → List α → Prop) (s : σ) (e : rho = st s) (hp : P s l)
    (hs : ∀ s x xs, P s (x :: xs) → ∃ s', stepF Fs t ks b (enc x) (st s) h = .nx (st s') h ∧ P s' xs) : ∃ s', r = .nx (st s') h ∧ P s' [] := by
  subst e
  rw [← hr]
  exact loop_ex enc st P l s hp hs
theorem loop_fold' {α σ : Type} {Fs : List Fn} {t : T} {ks : List Nat} {b : List S} {h : List O} {enc : α → MV} {l : List α} {rho : List SV} {r : SR} (hr : loopF Fs t ks b (l.map enc) rho h = r) (st : σ → List SV) (g : σ → α → σ) (P : σ → List α → Prop) (s : σ) (e : rho = st s) (hp : P s l)
    (hs : ∀ s x xs, P s (x :: xs) → stepF Fs t ks b (enc x) (st s) h = .nx (st (g s x)) h ∧ P (g s x) xs) : r = .nx (st (l.foldl g s)) h := by
  subst e
  rw [← hr]
  exact loop_fold enc st g P l s hp hs
theorem loop_look' {α : Type} {Fs : List Fn} {t : T} {ks : List Nat} {b : List S} {h : List O} {enc : α → MV} {l : List α} {rho : List SV} {r : SR} (hr : loopF Fs t ks b (l.map enc) rho h = r) (p : α → Bool) (v : MV)
    (hs : ∀ x ∈ l, stepF Fs t ks b (enc x) rho h = if p x then .nx rho h else .rt v h) : r = if l.all p then .nx rho h else .rt v h := by
  rw [← hr]
  exact loop_look enc p v l hs
/-- a loop that changes the heap -/
theorem loop_exH {α σ : Type} {Fs : List Fn} {t : T} {ks : List Nat} {b : List S} (enc : α → MV) (st : σ → List SV) (hp : σ → List O) (P : σ → List α → Prop) : ∀ (l : List α) (s : σ), P s l →
    (∀ s x xs, P s (x :: xs) → ∃ s', stepF Fs t ks b (enc x) (st s) (hp s) = .nx (st s') (hp s') ∧ P s' xs) → ∃ s', loopF Fs t ks b (l.map enc) (st s) (hp s) = .nx (st s') (hp s') ∧ P s' []
  | [], s, hp, _ => ⟨s, rfl, hp⟩
  | x :: xs, s, p, hs => by
    obtain ⟨s1, h1, h2⟩ := hs s x xs p
    obtain ⟨s', h3, h4⟩ := loop_exH enc st hp P xs s1 h2 hs
    refine ⟨s', ?_, h4⟩
    show (stepF Fs t ks b (enc x) (st s) (hp s)).seq (fun r h1 => loopF Fs t ks b (xs.map enc) r h1) = _
    rw [h1]
    exact h3
theorem loop_exH' {α σ : Type} {Fs : List Fn} {t : T} {ks : List Nat} {b : List S} {h : List O} {enc : α → MV} {l : List α} {rho : List SV} {r : SR} (hr : loopF Fs t ks b (l.map enc) rho h = r) (st : σ → List SV) (hp : σ → List O) (P : σ → List α → Prop) (s : σ) (e : rho = st s) (e' : h = hp s) (p : P s l)
    (hs : ∀ s x xs, P s (x :: xs) → ∃ s', stepF Fs t ks b (enc x) (st s) (hp s) = .nx (st s') (hp s') ∧ P s' xs) : ∃ s', r = .nx (st s') (hp s') ∧ P s' [] := by
  subst e
  subst e'
  rw [← hr]
  exact loop_exH enc st hp P l s p hs
theorem loop_foldH' {α σ : Type} {Fs : List Fn} {t : T} {ks : List Nat} {b : List S} {h : List O} {enc : α → MV} {l : List α} {rho : List SV} {r : SR} (hr : loopF Fs t ks b (l.map enc) rho h = r) (st : σ → List SV) (hp : σ → List O) (g : σ → α → σ) (P : σ → List α → Prop) (s : σ) (e : rho = st s) (e' : h = hp s) (p : P s l)
    (hs : ∀ s x xs, P s (x :: xs) → stepF Fs t ks b (enc x) (st s) (hp s) = .nx (st (g s x)) (hp (g s x)) ∧ P (g s x) xs) : r = .nx (st (l.foldl g s)) (hp (l.foldl g s)) := by
  subst e
  subst e'
  rw [← hr]
  clear hr
  induction l generalizing s with
  | nil => rfl
  | cons x xs ih =>
    obtain ⟨h1, h2⟩ := hs s x xs p
    show (stepF Fs t ks b (enc x) (st s) (hp s)).seq (fun r h1 => loopF Fs t ks b (xs.map enc) r h1) = _
    rw [h1]
    exact ih _ h2
/-! the heap -/
@[simp] theorem ev_app (Fs : List Fn) (rho : List SV) (h : List O) (a e : E) : ev Fs (.app a e) rho h = (ev Fs a rho h).bind fun x h1 => optR (refL h1 x) fun i => (ev Fs e rho h1).bind fun y h2 => appV i y h2 := (rfl)
theorem refL_at {h : List O} {a : Nat} {l : List MV} (e : h[a]? = some (.lst l)) : refL h (.ref a) = some a := by
  show (match h[a]? with
    | some (.lst _) => some a
    | _ => none) = _
  rw [e]
theorem appV_at {h : List O} {a : Nat} {l : List MV} (e : h[a]? = some (.lst l)) (y : MV) (hz : l.length < 1000000) : appV a y h = .ok .non (h.set a (.lst (l ++ [y]))) := by
  unfold appV
  rw [e]
  exact if_pos hz
@[simp] theorem refL_top (h : List O) (l : List MV) : refL (h ++ [.lst l]) (.ref h.length) = some h.length := refL_at (l := l) (by simp)
theorem appV_top (h : List O) (l : List MV) (y : MV) (hz : l.length < 1000000) : appV h.length y (h ++ [.lst l]) = .ok .non (h ++ [.lst (l ++ [y])]) := by
  rw [appV_at (l := l) (by simp) y hz]
  simp
@[simp] theorem ev_lstR (Fs : List Fn) (rho : List SV) (h : List O) (es : List E) : ev Fs (.lstR es) rho h = (evs Fs es rho h).bind fun xs h1 => if xs.length ≤ LIM then .ok (.ref h1.length) (h1 ++ [.lst xs]) else .bad := (rfl)
/-! plain things: == -/
def Pl (n : Nat) (v : MV) : Prop := ∀ g m, n ≤ m → snapG g m v = some v
theorem pl_int (i : Int) : Pl 0 (.int i) := fun g m _ => by cases m <;> rfl
theorem pl_non : Pl 0 .non := fun g m _ => by cases m <;> rfl
theorem pl_bl (i : Bool) : Pl 0 (.bl i) := fun g m _ => by cases m <;> rfl
def okS (s : List Nat) : Prop := s.all (fun c => decide (c < 1114112)) = true
theorem pl_str (s : List Nat) (h : okS s) : Pl 0 (.str s) := fun g m _ => by cases m <;> exact if_pos h
theorem snaps_pl (g : Nat → Option MV) (m : Nat) : ∀ l : List MV, (∀ v ∈ l, snapG g m v = some v) → snapG.snapsG (snapG g m) l = some l
  | [], _ => rfl
  | v :: vs, h => by
    have h1 := h v List.mem_cons_self
    have h2 := snaps_pl g m vs fun w hw => h w (List.mem_cons_of_mem _ hw)
    simp [snapG.snapsG, h1, h2]
theorem pl_tup {n : Nat} {l : List MV} (h : ∀ v ∈ l, Pl n v) : Pl (n + 1) (.tup l) := fun g m hm => by
  obtain ⟨m, rfl⟩ : ∃ k, m = k + 1 := ⟨m - 1, by omega⟩
  show (snapG.snapsG (snapG g m) l).map MV.tup = _
  rw [snaps_pl g m l fun v hv => h v hv g m (by omega)]
  rfl
theorem pl_lst {n : Nat} {l : List MV} (h : ∀ v ∈ l, Pl n v) : Pl (n + 1) (.lst l) := fun g m hm => by
  obtain ⟨m, rfl⟩ : ∃ k, m = k + 1 := ⟨m - 1, by omega⟩
  show (snapG.snapsG (snapG g m) l).map MV.lst = _
  rw [snaps_pl g m l fun v hv => h v hv g m (by omega)]
  rfl
theorem pl_up {n k : Nat} {v : MV} (h : Pl n v) (hk : n ≤ k) : Pl k v := fun g m hm => h g m (by omega)
theorem snap_pl {n : Nat} {v : MV} (h : Pl n v) (hn : n ≤ 6) (hp : List O) : snap hp v = some v := h _ 6 hn
theorem snap_ref {hp : List O} {a : Nat} {l : List MV} (e : hp[a]? = some (.lst l)) (h : ∀ v ∈ l, Pl 6 v) : snap hp (.ref a) = some (.lst l) := by
  show snapR hp 3 a = _
  unfold snapR
  rw [e]
  show (snapG.snapsG (snapG (snapR hp 2) 6) l).map MV.lst = _
  rw [snaps_pl _ 6 l fun v hv => h v hv _ 6 (Nat.le_refl _)]
  rfl
theorem cmp_eq {h : List O} {x y u v : MV} (h1 : snap h x = some u) (h2 : snap h y = some v) : cmpV h .eq x y = some (eqM u v) := by
  show (match snap h x, snap h y with
    | some u, some v => some (eqM u v)
    | _, _ => none) = _
  rw [h1, h2]
theorem cmp_ne {h : List O} {x y u v : MV} (h1 : snap h x = some u) (h2 : snap h y = some v) : cmpV h .ne x y = some (!eqM u v) := by
  show (match snap h x, snap h y with
    | some u, some v => some (!eqM u v)
    | _, _ => none) = _
  rw [h1, h2]
/-- an encoding that == sees through -/
def EqOk {α : Type} [DecidableEq α] (f : α → MV) : Prop := ∀ a b, eqM (f a) (f b) = decide (a = b)
theorem eqok_int : EqOk MV.int := fun a b => rfl
theorem eqok_str : EqOk MV.str := fun a b => by
  show (a == b) = _
  rw [Bool.eq_iff_iff]
  simp
theorem eqok_bl : EqOk MV.bl := fun a b => by cases a <;> cases b <;> rfl
theorem eqMs_map {α : Type} [DecidableEq α] {f : α → MV} (hf : EqOk f) : ∀ (a b : List α), eqMs (a.map f) (b.map f) = decide (a = b)
  | [], [] => rfl
  | [], y :: ys => rfl
  | x :: xs, [] => rfl
  | x :: xs, y :: ys => by
    have := eqMs_map hf xs ys
    simp only [List.map_cons, eqMs, this, hf x y]
    rw [Bool.eq_iff_iff]
    simp
theorem eqok_lst {α : Type} [DecidableEq α] {f : α → MV} (hf : EqOk f) : EqOk fun a : List α => .lst (a.map f) := fun a b => by
  show eqMs _ _ = _
  exact eqMs_map hf a b
theorem eqok_tup {α : Type} [DecidableEq α] {f : α → MV} (hf : EqOk f) : EqOk fun a : List α => .tup (a.map f) := fun a b => by
  show eqMs _ _ = _
  exact eqMs_map hf a b
theorem eqok_pair {α β : Type} [DecidableEq α] [DecidableEq β] {f : α → MV} {g : β → MV} (hf : EqOk f) (hg : EqOk g) : EqOk fun a : α × β => .tup [f a.1, g a.2] := fun a b => by
  show eqMs [_, _] [_, _] = _
  simp only [eqMs, hf a.1 b.1, hg a.2 b.2]
  rw [Bool.eq_iff_iff]
  cases a; cases b
  simp
theorem eqok_trip {α β γ : Type} [DecidableEq α] [DecidableEq β] [DecidableEq γ] {f : α → MV} {g : β → MV} {k : γ → MV} (hf : EqOk f) (hg : EqOk g) (hk : EqOk k) : EqOk fun a : α × β × γ => .tup [f a.1, g a.2.1, k a.2.2] := fun a b => by
  show eqMs [_, _, _] [_, _, _] = _
  simp only [eqMs, hf a.1 b.1, hg a.2.1 b.2.1, hk a.2.2 b.2.2]
  rw [Bool.eq_iff_iff]
  obtain ⟨a1, a2, a3⟩ := a
  obtain ⟨b1, b2, b3⟩ := b
  simp
end MP
end

section
set_option Elab.async false
set_option linter.all false
set_option maxRecDepth 100000
set_option maxHeartbeats 1000000
/-! ### C1: what the laws draw -/
namespace MP.k01
theorem lim_le {n : Nat} (h : n ≤ 1000000) : n ≤ LIM := h
theorem draw_ok (c k m : Int) (h : List O) (hm : 0 < m) (hk : 0 ≤ k) : ∃ p : Int, f__law_draw [.int c, .int k, .int m] h = .ok (.int p) h ∧ 0 ≤ p ∧ p < m := by
  have hk1 : 0 ≤ k % 16 := Int.emod_nonneg _ (by decide)
  have hk2 : k % 16 < 16 := Int.emod_lt_of_pos _ (by decide)
  obtain ⟨q, hq, hq0⟩ : ∃ q : Int, atI [MV.int 1000003, MV.int 1000033, MV.int 1000037, MV.int 1000039, MV.int 1000081, MV.int 1000099, MV.int 1000117, MV.int 1000121, MV.int 1000133, MV.int 1000151, MV.int 1000159, MV.int 1000171, MV.int 1000183, MV.int 1000187, MV.int 1000193, MV.int 1000199] (k % 16) = some (.int q) ∧ 0 < q := by
    have : k % 16 = 0 ∨ k % 16 = 1 ∨ k % 16 = 2 ∨ k % 16 = 3 ∨ k % 16 = 4 ∨ k % 16 = 5 ∨ k % 16 = 6 ∨ k % 16 = 7 ∨ k % 16 = 8 ∨ k % 16 = 9 ∨ k % 16 = 10 ∨ k % 16 = 11 ∨ k % 16 = 12 ∨ k % 16 = 13 ∨ k % 16 = 14 ∨ k % 16 = 15 := by omega
    rcases this with e | e | e | e | e | e | e | e | e | e | e | e | e | e | e | e <;> rw [e] <;> exact ⟨_, rfl, by decide⟩
  refine ⟨(c * 48271 + k * 69621) % q % m, ?_, Int.emod_nonneg _ (by omega), Int.emod_lt_of_pos _ hm⟩
  unfold f__law_draw b__law_draw
  refine (run_def _ _ _ _ _ _ rfl).trans ?_
  simp [ev_tup, LIM, mul_r, mod_i, hq, hq0, hm]
end MP.k01
namespace MP
theorem intsOf_map : ∀ ns : List Int, intsOf (ns.map MV.int) = some ns
  | [] => rfl
  | n :: ns => by simp [intsOf, intsOf_map ns]
theorem sum_ints (ns : List Int) (h : List O) : bltV .sum [.lst (ns.map .int)] h = .ok (.int ns.sum) h := by
  show optR ((lookL h (.lst (ns.map .int))).bind intsOf) (fun ns => R.ok (MV.int ns.sum) h) = _
  simp [lookL, intsOf_map]
theorem atI_map {f : Int → MV} {ns : List Int} {k : Int} (h0 : 0 ≤ k) (h1 : k < ns.length) : ∃ n, atI (ns.map f) k = some (f n) := by
  refine ⟨ns[k.toNat]'(by omega), ?_⟩
  unfold atI ixN
  simp only [List.length_map]
  rw [if_pos h0, if_pos h1]
  have : k.toNat < ns.length := by omega
  simp [this]
/-- a lot: rising numbers from one to another -/
def IsLot (lo hi : Int) (l : List Int) : Prop := l.Pairwise (· < ·) ∧ ∀ x ∈ l, lo ≤ x ∧ x ≤ hi
theorem isLot_filter {lo hi : Int} {l : List Int} (h : IsLot lo hi l) (p : Int → Bool) : IsLot lo hi (l.filter p) := ⟨h.1.filter p, fun x hx => h.2 x (List.mem_filter.mp hx).1⟩
theorem isLot_rng (lo : Int) (n : Nat) : IsLot lo (lo + n - 1) (rngI lo n) := ⟨rngI_rise n lo, fun x hx => by have := (rngI_mem n lo x).mp hx; omega⟩
theorem lot_len {hi : Int} {l : List Int} (h : IsLot 1 hi l) (h0 : 0 ≤ hi) : (l.length : Int) ≤ hi := by
  have gen : ∀ (l : List Int) (lo : Int), l.Pairwise (· < ·) → (∀ x ∈ l, lo ≤ x ∧ x ≤ hi) → lo ≤ hi + 1 → (l.length : Int) ≤ hi + 1 - lo := by
    intro l
    induction l with
    | nil =>
      intro lo _ _ h
      simp
      omega
    | cons x xs ih =>
      intro lo hp hb h
      cases hp with
      | cons h1 h2 =>
        have hx := hb x List.mem_cons_self
        have := ih (x + 1) h2 (fun y hy => ⟨by have := h1 y hy; omega, (hb y (List.mem_cons_of_mem _ hy)).2⟩) (by omega)
        rw [List.length_cons]
        omega
  have := gen l 1 h.1 h.2 (by omega)
  omega
abbrev Ed := Int × List Int × List Int
def encE (e : Ed) : MV := .tup [.int e.1, .tup (e.2.1.map .int), .tup (e.2.2.map .int)]
structure OkEd (n : Int) (e : Ed) : Prop where
  b0 : 0 ≤ e.1
  b1 : e.1 ≤ n - 1
  t : IsLot 1 (n - 1) e.2.1
  l : IsLot 1 (n - 1) e.2.2
  bt : e.1 ∉ e.2.1
  bl : e.1 ∉ e.2.2
  tl : ∀ x ∈ e.2.1, x ∉ e.2.2
namespace k01
theorem cell_ok (ns : List Int) (k : Int) (h : List O) (hk : 0 ≤ k) : ∃ p : Int, f__law_cell_at [.lst (ns.map .int), .int k] h = .ok (.int p) h ∧ 0 ≤ p := by
  by_cases hl : k < ns.length
  · obtain ⟨n, hn⟩ := atI_map (f := MV.int) hk hl
    refine ⟨if n < 0 then -n else n, ?_, by split <;> omega⟩
    unfold f__law_cell_at b__law_cell_at
    refine (run_def _ _ _ _ _ _ rfl).trans ?_
    simp [hl, hn]
  · obtain ⟨p, hp, hp0, _⟩ := draw_ok ((if ns.sum < 0 then -ns.sum else ns.sum) + 7919 * k) k 999983 h (by decide) hk
    refine ⟨p, ?_, hp0⟩
    unfold f__law_cell_at b__law_cell_at
    refine (run_def _ _ _ _ _ _ rfl).trans ?_
    simp [hl, sum_ints, mul_l, hp]
/-- numbers below a root -/
def Below (root : Int) (l : List MV) : Prop := ∀ v ∈ l, ∃ p : Int, v = .int p ∧ 0 ≤ p ∧ p < root
theorem digits_ok (ns : List Int) (at_ many root : Int) (h : List O) (ha : 0 ≤ at_) (hm0 : 0 ≤ many) (hm : many < 1000) (hr : 0 < root) (hr2 : root < 1073741824) :
    ∃ l : List Int, f__law_digits [.lst (ns.map .int), .int at_, .int many, .int root] h = .ok (.lst (l.map .int)) h ∧ (l.length : Int) = many ∧ ∀ p ∈ l, 0 ≤ p ∧ p < root := by
  obtain ⟨c, hc, hc0⟩ := cell_ok ns at_ h ha
  have p18 : ∀ h, binV h .pow (.int 10) (.int 18) = some (.int 1000000000000000000) := fun h => pow_i 10 18 h (by decide)
  unfold f__law_digits b__law_digits
  simp [run_def, hc, p18, rng1_t many (by omega)]
  generalize hlp : loopF _ _ _ _ _ _ _ = r
  obtain ⟨⟨left, acc⟩, rfl, hp⟩ := loop_ex' hlp (fun s : Int × List Int => [.val (.lst (ns.map .int)), .val (.int at_), .val (.int many), .val (.int root), .val (.int s.1), .none, .val (.int c), .own (.lst (s.2.map .int)), .none, .none])
    (fun s xs => (s.2.length + xs.length : Int) = many ∧ (∀ p ∈ s.2, 0 ≤ p ∧ p < root) ∧ ∀ x ∈ xs, (0 : Int) ≤ x ∧ x < 1000) (c - 1000000000000000000, []) rfl ⟨by simp; omega, by simp, fun x hx => by have := (rngI_mem _ _ _).mp hx; omega⟩ (by
      rintro ⟨left, acc⟩ x xs ⟨h1, h2, h3⟩
      have hx := h3 x List.mem_cons_self
      have hxs : ∀ y ∈ xs, (0 : Int) ≤ y ∧ y < 1000 := fun y hy => h3 y (List.mem_cons_of_mem _ hy)
      simp only [List.length_cons] at h1
      have hacc : (acc.map MV.int).length < 1000000 := by rw [List.length_map]; omega
      have bel : ∀ p : Int, 0 ≤ p → p < root → ∀ q ∈ acc ++ [p], 0 ≤ q ∧ q < root := fun p h4 h5 q hq => by
        rcases List.mem_append.mp hq with hq | hq
        · exact h2 q hq
        · rw [List.mem_singleton.mp hq]
          exact ⟨h4, h5⟩
      by_cases hb : 1000000000000000000 ≤ c
      · refine ⟨(left / root, acc ++ [left % root]), ?_, by simp; omega, bel _ (Int.emod_nonneg _ (by omega)) (Int.emod_lt_of_pos _ hr), hxs⟩
        simp [stepF_, hb, p18, mod_i, hr, app_own _ _ hacc, fdv_i, hr2]
      · obtain ⟨p, hp, hp0, _⟩ := draw_ok ((c + 977 * x) * (c + 31 * x + 5)) (x % 9 + 1) 999983 h (by decide) (by omega)
        obtain ⟨q, hq, hq0, _⟩ := draw_ok ((c + 31 * x) * (c + 7) + 977 * x) (x % 7 + 2) 1000003 h (by decide) (by omega)
        have m1 : ∀ h, binV h .mul (.int (c + 977 * x)) (.int (c + 31 * x + 5)) = some (.int ((c + 977 * x) * (c + 31 * x + 5))) := fun h => mul_l _ _ _ (by omega)
        have m2 : ∀ h, binV h .mul (.int (c + 31 * x)) (.int (c + 7)) = some (.int ((c + 31 * x) * (c + 7))) := fun h => mul_l _ _ _ (by omega)
        refine ⟨(left, acc ++ [(p * 1000003 + q) % root]), ?_, by simp; omega, bel _ (Int.emod_nonneg _ (by omega)) (Int.emod_lt_of_pos _ hr), hxs⟩
        simp [stepF_, hb, p18, mod_i, hr, app_own _ _ hacc, mul_l, mul_r, m1, m2, hp, hq])
  refine ⟨acc, by simp, ?_, hp.2.1⟩
  have := hp.1
  simpa using this
end k01
end MP
end

section
set_option Elab.async false
set_option linter.all false
set_option maxRecDepth 100000
set_option maxHeartbeats 1000000
/-! ### C2: editions and rows by cells -/
namespace MP
def OkEds (es : List Ed) : Prop := ∀ (i : Nat) (e : Ed), es[i]? = some e → OkEd ((i : Int) + 1) e
theorem OkEds.nil : OkEds [] := fun i e h => by simp at h
theorem OkEds.snoc {es : List Ed} {e : Ed} (h : OkEds es) (he : OkEd ((es.length : Int) + 1) e) : OkEds (es ++ [e]) := fun i x hx => by
  by_cases hi : i < es.length
  · rw [List.getElem?_append_left hi] at hx
    exact h i x hx
  · have h1 := (List.getElem?_eq_some_iff.mp hx).1
    simp at h1
    have : i = es.length := by omega
    subst this
    simp at hx
    rw [← hx]
    exact he
@[simp] theorem encE_ (e : Ed) : encE e = .tup [.int e.1, .tup (e.2.1.map .int), .tup (e.2.2.map .int)] := (rfl)
abbrev Str := List Nat
abbrev Row := Int × List Int × Str
def encR (r : Row) : MV := .tup [.int r.1, .tup (r.2.1.map .int), .str r.2.2]
@[simp] theorem encR_ (r : Row) : encR r = .tup [.int r.1, .tup (r.2.1.map .int), .str r.2.2] := (rfl)
def okT (s : Str) : Prop := s.length ≤ 60 ∧ 10 ∉ s ∧ okS s
structure OkRow (n : Int) (r : Row) : Prop where
  o0 : 1 ≤ r.1
  o1 : r.1 ≤ n
  s : IsLot (r.1 + 1) n r.2.1
  t : okT r.2.2
def OkRows (n : Int) (rs : List Row) : Prop := ∀ r ∈ rs, OkRow n r
theorem isLot_sub {lo lo' hi : Int} {l : List Int} (h : IsLot lo hi l) (p : Int → Bool) (hp : ∀ x, p x = true → lo' ≤ x) : IsLot lo' hi (l.filter p) := ⟨h.1.filter p, fun x hx => ⟨hp x (List.mem_filter.mp hx).2, (h.2 x (List.mem_filter.mp hx).1).2⟩⟩
namespace k01
theorem some_ok (d many : Int) (h : List O) (hd : 0 ≤ d) (hm0 : 0 ≤ many) (hm : many < 1000) : ∃ l : List Int, f__law_some [.int d, .int many] h = .ok (.tup (l.map .int)) h ∧ IsLot 1 many l := by
  unfold f__law_some b__law_some
  have e1 : ∀ x : Int, 1 ≤ x → ∀ h, binV h .shr (.int d) (.int x) = some (.int (d / 2 ^ x.toNat)) := fun x hx h => shr_i d x h (by omega)
  have e2 : ∀ x : Int, ∀ h, binV h .band (.int (d / 2 ^ x.toNat)) (.int 1) = some (.int (d / 2 ^ x.toNat % 2)) := fun x h => band_i _ h (Int.ediv_nonneg hd (Int.pow_nonneg (by decide)))
  have hz : ((rngI 1 many.toNat).filter fun x => d / 2 ^ x.toNat % 2 == 1).length ≤ 1000000 := filt_lim (by rw [rngI_len]; omega)
  simp [run_def, rng2_t 1 (many + 1) (by omega)]
  rw [compT_mem (p := fun x => d / 2 ^ x.toNat % 2 == 1) (g := MV.int) _ fun x hx => by
    have hx := (rngI_mem _ _ _).mp hx
    simp only [e1 x hx.1, e2 x, R.of, R.bind, eq_i', Option.map]
    cases d / 2 ^ x.toNat % 2 == 1 <;> rfl]
  simp [hz]
  have q := isLot_filter (isLot_rng 1 many.toNat) fun x => d / 2 ^ x.toNat % 2 == 1
  exact ⟨_, rfl, q.1, fun x hx => by have := q.2 x hx; omega⟩
theorem editions_ok (ns : List Int) (at_ many : Int) (h : List O) (ha : 0 ≤ at_) (hm0 : 0 ≤ many) (hm : many < 100) :
    ∃ es : List Ed, f__law_editions [.lst (ns.map .int), .int at_, .int many] h = .ok (.lst (es.map encE)) h ∧ (es.length : Int) = many ∧ OkEds es := by
  obtain ⟨dg, hd, hdl, hdb⟩ := digits_ok ns at_ many 1000000007 h ha hm0 (by omega) (by decide) (by decide)
  have p9 : ∀ h, binV h .pow (.int 10) (.int 9) = some (.int 1000000000) := fun h => pow_i 10 9 h (by decide)
  unfold f__law_editions b__law_editions
  simp [run_def, p9, hd]
  generalize hlp : loopF _ _ _ _ _ _ _ = r
  obtain ⟨es, rfl, ds, h1, h2, h3, h4⟩ := loop_ex' hlp (fun s : List Ed => [.val (.lst (ns.map .int)), .val (.int at_), .val (.int many), .own (.lst (s.map encE)), .none, .none, .none, .none, .none, .none])
    (fun s xs => ∃ ds, xs = numd s.length ds ∧ (∀ d ∈ ds, (0 : Int) ≤ d) ∧ (s.length + ds.length : Int) = many ∧ OkEds s) [] rfl ⟨dg, rfl, fun d hd => (hdb d hd).1, by simp; omega, .nil⟩ (by
      rintro es ⟨j', d'⟩ xs ⟨ds, h1, h2, h3, h4⟩
      cases ds with
      | nil => cases h1
      | cons d ds =>
        simp only [numd, List.cons.injEq, Prod.mk.injEq] at h1
        obtain ⟨⟨rfl, rfl⟩, rfl⟩ := h1
        have d0 := h2 d' List.mem_cons_self
        simp only [List.length_cons] at h3
        obtain ⟨j, hj⟩ : ∃ j, (es.length : Int) = j := ⟨_, rfl⟩
        rw [hj] at h3
        have j0 : 0 ≤ j := by omega
        obtain ⟨root, hroot, r0, r1⟩ : ∃ root : Int, (if (d' % 3 == 0) = true then j else d' / 3 % (j + 1)) = root ∧ 0 ≤ root ∧ root ≤ j := by
          cases d' % 3 == 0 with
          | true => exact ⟨j, rfl, by omega, by omega⟩
          | false => exact ⟨_, rfl, Int.emod_nonneg _ (by omega), by have := Int.emod_lt_of_pos (d' / 3) (show (0 : Int) < j + 1 by omega); simp; omega⟩
        obtain ⟨tk, htk, ltk⟩ := some_ok (d' / 31) j h (Int.ediv_nonneg d0 (by decide)) (by omega) (by omega)
        obtain ⟨lv, hlv, llv⟩ := some_ok (d' / 3001) j h (Int.ediv_nonneg d0 (by decide)) (by omega) (by omega)
        have lt1 := lot_len ltk (by omega)
        have lt2 := lot_len llv (by omega)
        have lt1' : tk.length ≤ 1000000 := by omega
        have lt2' : lv.length ≤ 1000000 := by omega
        generalize hc7 : (d' / 7 % 2 == 0) = c7
        generalize hc5 : (d' / 5 % 2 == 0) = c5
        have ltk2 : IsLot 1 j (tk.filter fun x => !(x == root) && c7) := isLot_filter ltk _
        have ntk2 : root ∉ tk.filter fun x => !(x == root) && c7 := fun z => by
          have := (List.mem_filter.mp z).2
          simp at this
        generalize htk2 : (tk.filter fun x => !(x == root) && c7) = tk2 at ltk2 ntk2
        have lt3 := lot_len ltk2 (by omega)
        have ad : ∀ (h : List O), binV h .add (.lst (tk2.map .int)) (.lst [.int root]) = some (.lst ((tk2 ++ [root]).map .int)) := fun h => by
          rw [add_lst _ _ h (by simp; omega), List.map_append]
          rfl
        have llv2 : IsLot 1 j (lv.filter fun x => !decide (x ∈ tk2 ++ [root]) && c5) := isLot_filter llv _
        have nlv2 : ∀ x ∈ lv.filter fun x => !decide (x ∈ tk2 ++ [root]) && c5, x ∉ tk2 ++ [root] := fun x z => by
          have := (List.mem_filter.mp z).2
          simp only [Bool.and_eq_true, Bool.not_eq_true', decide_eq_false_iff_not] at this
          exact this.1
        generalize hno : tk2 ++ [root] = no at ad nlv2 llv2
        generalize hlv2 : (lv.filter fun x => !decide (x ∈ no) && c5) = lv2 at nlv2 llv2
        have je : j + 1 - 1 = j := by omega
        have e5 : OkEd (j + 1) (root, tk2, lv2) := ⟨r0, by rw [je]; exact r1, by rw [je]; exact ltk2, by rw [je]; exact llv2, ntk2, fun z => nlv2 _ z (by rw [← hno]; simp), fun x hx z => nlv2 _ z (by rw [← hno]; simp [hx])⟩
        refine ⟨es ++ [(root, tk2, lv2)], ?_, ds, by simp [hj], fun d hd => h2 d (List.mem_cons_of_mem _ hd), by simp; omega, h4.snoc (by rw [hj]; exact e5)⟩
        have hz : (es.map encE).length < 1000000 := by rw [List.length_map]; omega
        have lt4 := lot_len llv2 (by omega)
        have hz3 : tk2.length ≤ 1000000 := by omega
        have hz4 : lv2.length ≤ 1000000 := by omega
        have hjp : 0 < j + 1 := by omega
        have hif : ∀ h, iteR (fun h1 => R.ok (.int j) h1) (fun h1 => R.ok (.int (d' / 3 % (j + 1))) h1) (.bl (d' % 3 == 0)) h = .ok (.int root) h := fun h => by
          rw [← hroot]
          cases d' % 3 == 0 <;> rfl
        clear hlp hdb hd hdl p9 hroot
        simp [stepF_, mod_i, fdv_i, hjp, hj, hif, htk, hlv, hc7, hc5, lt1', lt2', htk2, ad, hlv2, hz3, hz4, app_own _ _ hz])
  refine ⟨es, by simp, ?_, h4⟩
  cases ds with
  | nil => simpa using h3
  | cons => cases h1
def wordsL : List Str := [[97], [98], [], [124], [43, 49], [101, 100, 105, 116, 105, 111, 110, 32, 49, 32, 102, 114, 111, 109, 32, 48], [46], [97, 32, 98], [32], [45]]
theorem words_ok (h : List O) : f__law_words [] h = .ok (.lst (wordsL.map .str)) h := by
  unfold f__law_words b__law_words wordsL
  simp [run_def]
theorem wordsL_ok : ∀ s ∈ wordsL, okT s := by
  unfold wordsL okT okS
  decide
theorem word_at (i : Int) (h0 : 0 ≤ i) (h1 : i < 10) : ∃ s, atI (wordsL.map MV.str) i = some (.str s) ∧ s ∈ wordsL := by
  rw [atI_nat _ _ h0, List.getElem?_map]
  have hl : i.toNat < wordsL.length := by
    show i.toNat < 10
    omega
  rw [List.getElem?_eq_getElem hl]
  exact ⟨_, rfl, List.getElem_mem hl⟩
theorem rows_ok (ns : List Int) (at_ many size : Int) (h : List O) (ha : 0 ≤ at_) (hm0 : 0 ≤ many) (hm : many < 100) (hs0 : 0 ≤ size) (hs : size < 100) :
    ∃ rs : List Row, f__law_rows [.lst (ns.map .int), .int at_, .int many, .int size] h = .ok (.lst (rs.map encR)) h ∧ (rs.length : Int) = (if many > 0 then size else 0) ∧ (∀ r ∈ rs, OkRow many r ∧ r.2.2 ∈ wordsL) := by
  obtain ⟨dg, hd, hdl, hdb⟩ := digits_ok ns at_ (if many > 0 then size else 0) 1000000007 h ha (by split <;> omega) (by split <;> omega) (by decide) (by decide)
  have p9 : ∀ h, binV h .pow (.int 10) (.int 9) = some (.int 1000000000) := fun h => pow_i 10 9 h (by decide)
  have hif : ∀ h, iteR (fun h1 => R.ok (.int size) h1) (fun h1 => R.ok (.int 0) h1) (.bl (decide (0 < many))) h = .ok (.int (if many > 0 then size else 0)) h := fun h => by
    by_cases hq : 0 < many <;> simp [hq]
  have hdm : (dg.length : Int) > 0 → 0 < many := fun z => by
    rw [hdl] at z
    split at z <;> omega
  unfold f__law_rows b__law_rows
  simp [run_def, p9, hd, hif]
  generalize hlp : loopF _ _ _ _ _ _ _ = r
  obtain ⟨rs, rfl, h1, h2, h3, h4⟩ := loop_ex' hlp (fun s : List Row => [.val (.lst (ns.map .int)), .val (.int at_), .val (.int many), .val (.int size), .own (.lst (s.map encR)), .none, .none, .none, .none])
    (fun s xs => (s.length + xs.length : Int) = dg.length ∧ (∀ x ∈ xs, (0 : Int) ≤ x) ∧ (xs.length > 0 → 0 < many) ∧ ∀ r ∈ s, OkRow many r ∧ r.2.2 ∈ wordsL) [] rfl ⟨by simp, fun d hd => (hdb d hd).1, fun z => hdm (by omega), by simp⟩ (by
      rintro rs d xs ⟨h1, h2, h3, h4⟩
      have hmp := h3 (by simp)
      have d0 := h2 d List.mem_cons_self
      simp only [List.length_cons] at h1
      have o0 : 0 ≤ d % many := Int.emod_nonneg _ (by omega)
      have o1 : d % many < many := Int.emod_lt_of_pos _ hmp
      generalize how : 1 + d % many = ow
      obtain ⟨st, hst, lst⟩ := some_ok (d / 11 % 1024) many h (Int.emod_nonneg _ (by decide)) (by omega) (by omega)
      have lt1 := lot_len lst (by omega)
      have lt1' : st.length ≤ 1000000 := by omega
      generalize hc13 : decide (0 < d / 13 % 3) = c13
      have lst2 : IsLot (ow + 1) many (st.filter fun x => decide (ow < x) && c13) := isLot_sub lst _ fun x hx => by simp at hx; omega
      have hz0 : (st.filter fun x => decide (ow < x) && c13).length ≤ 1000000 := filt_lim lt1'
      generalize hst2 : (st.filter fun x => decide (ow < x) && c13) = st2 at lst2 hz0
      obtain ⟨q, hq, q0, q1⟩ : ∃ q : Int, (∀ h, iteR (fun h1 => R.ok (.int 10) h1) (fun h1 => R.ok (.int 3) h1) (.bl (d / 19 % 3 == 0)) h = .ok (.int q) h) ∧ 0 < q ∧ q ≤ 10 := by
        cases d / 19 % 3 == 0
        · exact ⟨3, fun h => rfl, by decide, by decide⟩
        · exact ⟨10, fun h => rfl, by decide, by decide⟩
      obtain ⟨w, hw, hwm⟩ := word_at (d / 17 % q) (Int.emod_nonneg _ (by omega)) (by have := Int.emod_lt_of_pos (d / 17) q0; omega)
      have hz : (rs.map encR).length < 1000000 := by rw [List.length_map]; split at hdl <;> omega
      refine ⟨rs ++ [(ow, st2, w)], ?_, by simp; omega, fun x hx => h2 x (List.mem_cons_of_mem _ hx), fun _ => hmp, fun r hr => ?_⟩
      · simp [stepF_, mod_i, fdv_i, hmp, how, hst, hc13, lt1', hst2, hz0, words_ok, hq, q0, hw, app_own _ _ hz]
      · rcases List.mem_append.mp hr with hr | hr
        · exact h4 r hr
        · rw [List.mem_singleton.mp hr]
          exact ⟨⟨by show 1 ≤ ow; omega, by show ow ≤ many; omega, lst2, wordsL_ok w hwm⟩, hwm⟩)
  refine ⟨rs, by simp, ?_, fun a b c hr => h4 (a, b, c) hr⟩
  rw [← hdl]
  simpa using h1
end k01
end MP
end

section
set_option Elab.async false
set_option linter.all false
set_option maxRecDepth 100000
set_option maxHeartbeats 1000000
/-! ### N2: lists on top of a heap -/
namespace MP
/-! lists on top of a heap -/
def appAt (o : Option O) (h L : List O) (i : Nat) (y : MV) : R MV := match o with
  | some (.lst l) => if l.length < LIM then .ok .non (h ++ L.set i (.lst (l ++ [y]))) else .bad
  | _ => .bad
def refAt (o : Option O) (a : Nat) : Option Nat := match o with
  | some (.lst _) => some a
  | _ => none
@[simp] theorem appAt_ok (l : List MV) (h L : List O) (i : Nat) (y : MV) (hz : l.length < 1000000) : appAt (some (.lst l)) h L i y = .ok .non (h ++ L.set i (.lst (l ++ [y]))) := if_pos hz
@[simp] theorem refAt_ok (l : List MV) (a : Nat) : refAt (some (.lst l)) a = some a := (rfl)
@[simp] theorem appV_app (h L : List O) (i : Nat) (y : MV) : appV (h.length + i) y (h ++ L) = appAt L[i]? h L i y := by
  unfold appV appAt
  rw [List.getElem?_append_right (by omega), show h.length + i - h.length = i by omega]
  have hs : ∀ o, (h ++ L).set (h.length + i) o = h ++ L.set i o := fun o => by
    rw [List.set_append_right _ _ (by omega), show h.length + i - h.length = i by omega]
  cases L[i]? with
  | none => rfl
  | some o => cases o <;> simp [hs]
@[simp] theorem appV_app0 (h L : List O) (y : MV) : appV h.length y (h ++ L) = appAt L[0]? h L 0 y := appV_app h L 0 y
@[simp] theorem refL_app (h L : List O) (i : Nat) : refL (h ++ L) (.ref (h.length + i)) = refAt L[i]? (h.length + i) := by
  unfold refL refAt
  (simp only [List.getElem?_append_right (Nat.le_add_right _ _), show h.length + i - h.length = i by omega]) <;> rfl
@[simp] theorem refL_app0 (h L : List O) : refL (h ++ L) (.ref h.length) = refAt L[0]? h.length := refL_app h L 0
@[simp] theorem loopF_cons (Fs : List Fn) (t : T) (ks : List Nat) (b : List S) (x : MV) (xs : List MV) (rho : List SV) (h : List O) : loopF Fs t ks b (x :: xs) rho h = (stepF Fs t ks b x rho h).seq fun r h1 => loopF Fs t ks b xs r h1 := (rfl)
@[simp] theorem loopF_nil (Fs : List Fn) (t : T) (ks : List Nat) (b : List S) (rho : List SV) (h : List O) : loopF Fs t ks b [] rho h = .nx rho h := (rfl)
@[simp] theorem compL_cons (step : MV → List O → R (Option MV)) (x : MV) (xs : List MV) (h : List O) : compL step (x :: xs) h = (step x h).noex.bind fun o h1 => (compL step xs h1).bind fun ys h2 => compAdd o ys h2 := (rfl)
@[simp] theorem compL_nil (step : MV → List O → R (Option MV)) (h : List O) : compL step [] h = .ok [] h := (rfl)
@[simp] theorem compAdd_s (y : MV) (ys : List MV) (h : List O) : compAdd (some y) ys h = .ok (y :: ys) h := (rfl)
@[simp] theorem compAdd_n (ys : List MV) (h : List O) : compAdd none ys h = .ok ys h := (rfl)
theorem isLot_nil (lo hi : Int) : IsLot lo hi [] := ⟨.nil, fun x hx => by cases hx⟩
/-! lists on top of a heap, once more -/
def extAt (o : Option O) (h L : List O) (i : Nat) (k : Option (List MV)) : R MV := match o with
  | some (.lst l) => optR k fun k => if l.length + k.length ≤ LIM then .ok .non (h ++ L.set i (.lst (l ++ k))) else .bad
  | _ => .bad
@[simp] theorem extAt_ok (l k : List MV) (h L : List O) (i : Nat) (hz : l.length + k.length ≤ 1000000) : extAt (some (.lst l)) h L i (some k) = .ok .non (h ++ L.set i (.lst (l ++ k))) := if_pos hz
theorem set_app (h L : List O) (i : Nat) (o : O) : (h ++ L).set (h.length + i) o = h ++ L.set i o := by
  rw [List.set_append_right _ _ (by omega), show h.length + i - h.length = i by omega]
theorem get_app (h L : List O) (i : Nat) : (h ++ L)[h.length + i]? = L[i]? := by
  rw [List.getElem?_append_right (by omega), show h.length + i - h.length = i by omega]
@[simp] theorem extV_app (h L : List O) (i : Nat) (l : List MV) : extV (h.length + i) (.lst l) (h ++ L) = extAt L[i]? h L i (some l) := by
  unfold extV extAt
  rw [get_app]
  have hl : lookL (h ++ L) (.lst l) = some l := rfl
  rw [hl]
  cases L[i]? with
  | none => rfl
  | some o => cases o <;> simp [set_app]
@[simp] theorem extV_app0 (h L : List O) (l : List MV) : extV h.length (.lst l) (h ++ L) = extAt L[0]? h L 0 (some l) := extV_app h L 0 l
@[simp] theorem ev_exR (Fs : List Fn) (rho : List SV) (h : List O) (a e : E) : ev Fs (.exR a e) rho h = (ev Fs a rho h).bind fun x h1 => optR (refL h1 x) fun i => (ev Fs e rho h1).bind fun y h2 => extV i y h2 := (rfl)
@[simp] theorem zipV_tl (h : List O) (l k : List MV) : zipV h (.tup l) (.lst k) = some (.zip (.fz l) (.fz k)) := (rfl)
theorem zip_items' (l k : List MV) : (Src.zip (.fz l) (.fz k)).items = some ((l.zip k).map fun p => MV.tup [p.1, p.2]) := rfl
theorem for_zip' (Fs : List Fn) (t : T) (ks : List Nat) (b : List S) (l k : List MV) (rho : List SV) (h : List O) : forR Fs t ks b rho (.zip (.fz l) (.fz k)) h = loopF Fs t ks b ((l.zip k).map fun p => MV.tup [p.1, p.2]) (wipe rho ks) h := by
  unfold forR
  rw [for_items _ (zip_items' l k), forL_loopF]
end MP
end

section
set_option Elab.async false
set_option linter.all false
set_option maxRecDepth 100000
set_option maxHeartbeats 1000000
/-! ### Q1: the program's looks -/
namespace MP
@[simp] theorem is_number_ok (x lo hi : Int) (h : List O) : f_is_number [.int x, .int lo, .int hi] h = .ok (.bl (decide (lo ≤ x) && decide (x ≤ hi))) h := by
  unfold f_is_number b_is_number
  simp [run_def]
def isLotB (l : List Int) (lo hi : Int) : Bool := l.all (fun x => decide (lo ≤ x) && decide (x ≤ hi)) && (l.zip (l.drop 1)).all fun p => decide (p.1 < p.2)
theorem is_lot_ok (l : List Int) (lo hi : Int) (h : List O) (hz : l.length ≤ 1000000) : f_is_lot [.tup (l.map .int), .int lo, .int hi] h = .ok (.bl (isLotB l lo hi)) h := by
  unfold f_is_lot b_is_lot isLotB
  have hz2 : (l.zip l.tail).length ≤ 1000000 := by rw [List.length_zip]; omega
  have hd : (l.map MV.int).drop 1 = (l.drop 1).map MV.int := by rw [List.map_drop]
  cases hb : l.all (fun x => decide (lo ≤ x) && decide (x ≤ hi)) with
  | false => simp [run_def, hz, hb]
  | true =>
    simp [run_def, hz, hb]
    rw [← List.drop_one, hd, comp_zip]
    simp [hz2, -List.length_zip]
theorem zip_rise : ∀ l : List Int, l.Pairwise (· < ·) → ((l.zip (l.drop 1)).all fun p => decide (p.1 < p.2)) = true
  | [], _ => rfl
  | [x], _ => rfl
  | x :: y :: l, h => by
    cases h with
    | cons h1 h2 =>
      have := zip_rise (y :: l) h2
      simp only [List.drop_succ_cons, List.drop_zero, List.zip_cons_cons, List.all_cons] at this ⊢
      rw [this, Bool.and_true]
      exact decide_eq_true (h1 y List.mem_cons_self)
theorem rise_zip : ∀ l : List Int, ((l.zip (l.drop 1)).all fun p => decide (p.1 < p.2)) = true → l.Pairwise (· < ·)
  | [], _ => .nil
  | [x], _ => .cons (by simp) .nil
  | x :: y :: l, h => by
    simp only [List.drop_succ_cons, List.drop_zero, List.zip_cons_cons, List.all_cons, Bool.and_eq_true, decide_eq_true_eq] at h
    have ih := rise_zip (y :: l) (by simpa using h.2)
    refine .cons (fun z hz => ?_) ih
    rcases List.mem_cons.mp hz with rfl | hz
    · exact h.1
    · cases ih with
      | cons h1 _ => have := h1 z hz; omega
theorem isLotB_iff (l : List Int) (lo hi : Int) : isLotB l lo hi = true ↔ IsLot lo hi l := by
  unfold isLotB IsLot
  rw [Bool.and_eq_true]
  constructor
  · rintro ⟨h1, h2⟩
    refine ⟨rise_zip l h2, fun x hx => ?_⟩
    have := List.all_eq_true.mp h1 x hx
    simpa using this
  · rintro ⟨h1, h2⟩
    exact ⟨List.all_eq_true.mpr fun x hx => by simpa using h2 x hx, zip_rise l h1⟩
theorem lot_len2 {lo hi : Int} {l : List Int} (h : IsLot lo hi l) (h0 : 1 ≤ lo) (h1 : hi ≤ 1000) : l.length ≤ 1000 := by
  have := lot_len (hi := 1000) (l := l) ⟨h.1, fun x hx => by have := h.2 x hx; omega⟩ (by omega)
  omega
theorem is_lot_t {l : List Int} {lo hi : Int} (h : List O) (hl : IsLot lo hi l) (h0 : 1 ≤ lo) (h1 : hi ≤ 1000) : f_is_lot [.tup (l.map .int), .int lo, .int hi] h = .ok (.bl true) h := by
  rw [is_lot_ok l lo hi h (by have := lot_len2 hl h0 h1; omega), (isLotB_iff l lo hi).mpr hl]
theorem is_edition_t {e : Ed} {n : Int} (h : List O) (he : OkEd n e) (hn : n ≤ 1000) : f_is_edition [encE e, .int n] h = .ok (.bl true) h := by
  obtain ⟨b, tk, lv⟩ := e
  have hb0 := he.b0
  have hb1 := he.b1
  have lt1 := lot_len2 he.t (by omega) (by omega)
  have lt2 := lot_len2 he.l (by omega) (by omega)
  have hbt := he.bt
  have hbl := he.bl
  simp only [] at hb0 hb1 lt1 lt2 hbt hbl
  have e1 := is_lot_t h he.t (by omega) (by omega)
  have e2 := is_lot_t h he.l (by omega) (by omega)
  simp only [] at e1 e2
  have e3 : ∀ h, binV h .add (.tup (tk.map .int)) (.tup (lv.map .int)) = some (.tup ((tk ++ lv).map .int)) := fun h => by
    rw [add_tup _ _ h (by simp; omega), List.map_append]
  have e4 : (tk.any fun x => decide (x ∈ lv)) = false := by
    rw [List.any_eq_false]
    intro x hx
    have := he.tl x hx
    simpa using this
  have hz : tk.length ≤ 1000000 := by omega
  have e5 : ¬ b ∈ tk ++ lv := by
    rw [List.mem_append]
    exact fun z => z.elim hbt hbl
  have e6 := fun h => nin_tup b (tk ++ lv) h
  rw [decide_eq_false e5] at e6
  unfold f_is_edition b_is_edition
  simp [run_def, hb0, hb1, e1, e2, e3, e4, hz, e6, -List.map_append]
theorem is_text_t {s : Str} (h : List O) (hs : okT s) : f_is_text [.str s] h = .ok (.bl true) h := by
  obtain ⟨h1, h2, h3⟩ := hs
  have e1 := len_str s h (by omega)
  have e2 : cmpV h .notin (.str [10]) (.str s) = some true := by
    show (inV h (.str [10]) (.str s)).map not = _
    have : inV h (.str [10]) (.str s) = some (decide (10 ∈ s)) := rfl
    rw [this, decide_eq_false h2]
    rfl
  have e3 : ((s.length : Int) ≤ 60) = True := by simp; omega
  unfold f_is_text b_is_text
  simp [run_def, e1, e2, e3]
theorem is_row_t {r : Row} {n : Int} (h : List O) (hr : OkRow n r) (hn : n ≤ 1000) : f_is_row [encR r, .int n] h = .ok (.bl true) h := by
  obtain ⟨o, st, t⟩ := r
  have h0 := hr.o0
  have h1 := hr.o1
  simp only [] at h0 h1
  have e1 := is_lot_t h hr.s (by show 1 ≤ o + 1; omega) hn
  have e2 := is_text_t h hr.t
  simp only [] at e1 e2
  unfold f_is_row b_is_row
  simp [run_def, h0, h1, e1, e2]
theorem numd_mem {α : Type} : ∀ (l : List α) (i : Int) (p : Int × α), p ∈ numd i l → ∃ k : Nat, l[k]? = some p.2 ∧ p.1 = i + k
  | [], _, _, h => by cases h
  | x :: xs, i, p, h => by
    rcases List.mem_cons.mp h with rfl | h
    · exact ⟨0, rfl, by simp⟩
    · obtain ⟨k, h1, h2⟩ := numd_mem xs (i + 1) p h
      exact ⟨k + 1, by simpa using h1, by rw [h2]; omega⟩
theorem check_weave_t {es : List Ed} {rs : List Row} (h : List O) (he : OkEds es) (hr : OkRows es.length rs) (hn : es.length ≤ 9) (hm : rs.length ≤ 200) : f_check_weave [.lst (es.map encE), .lst (rs.map encR)] h = .ok .non h := by
  unfold f_check_weave b_check_weave
  simp [run_def]
  generalize hlp : loopF _ _ _ _ _ _ _ = r
  have e1 := loop_look' hlp (fun _ => true) .non fun p hp => by
    obtain ⟨k, h1, h2⟩ := numd_mem _ _ _ hp
    obtain ⟨i, e⟩ := p
    have hk := (List.getElem?_eq_some_iff.mp h1).1
    simp only [] at h1 h2
    have e1 := is_edition_t h (he k e h1) (by omega)
    have e2 : i = (k : Int) := by omega
    subst e2
    have e3 : ((k : Int) == 9) = false := by simp; omega
    simp [stepF_, e1, e3, -encE_]
  subst e1
  simp
  generalize hlp : loopF _ _ _ _ _ _ _ = r
  obtain ⟨s2, rfl, h2⟩ := loop_ex' hlp (fun s : SV => [.val (.lst (es.map encE)), .val (.lst (rs.map encR)), s, .none, .none]) (fun s xs => ∀ p ∈ xs, p ∈ numd 0 rs) .none rfl (fun p hp => hp) (by
    rintro s ⟨i, e⟩ xs hp
    obtain ⟨k, h1, h2⟩ := numd_mem _ _ _ (hp _ List.mem_cons_self)
    have hk := (List.getElem?_eq_some_iff.mp h1).1
    simp only [] at h1 h2
    have e1 := is_row_t h (hr e (List.mem_of_getElem? h1)) (by omega)
    have e2 : i = (k : Int) := by omega
    subst e2
    have e3 : ((k : Int) == 200) = false := by simp; omega
    exact ⟨.val (.int k), by simp [stepF_, e1, e3, -encR_], fun p h => hp p (List.mem_cons_of_mem _ h)⟩)
  simp
end MP
end

section
set_option Elab.async false
set_option linter.all false
set_option maxRecDepth 100000
set_option maxHeartbeats 1000000
/-! ### Q2: while loops, dicts, lots -/
namespace MP
def whlR (Fs : List Fn) (c : E) (ks : List Nat) (b : List S) (n : Nat) (rho : List SV) (h : List O) : SR :=
  (whileLoop (fun r h => ev Fs c r h) (fun r h => exL Fs b (wipe r ks) h) n rho h).seq fun r h => .nx (wipe r ks) h
@[simp] theorem exS_whl (Fs : List Fn) (rho : List SV) (h : List O) (n : Nat) (c : E) (ks : List Nat) (b : List S) : exS Fs (.whl n c ks b) rho h = whlR Fs c ks b n rho h := (rfl)
theorem while_ex {σ : Type} {Fs : List Fn} {c : E} {ks : List Nat} {b : List S} {h : List O} (st : σ → List SV) (P : σ → Prop) (m : σ → Nat) (cond : σ → Bool)
    (hs : ∀ s, P s → cond s = true → ∃ s' rho', exL Fs b (st s) h = .nx rho' h ∧ wipe rho' ks = st s' ∧ ev Fs c rho' h = .ok (.bl (cond s')) h ∧ P s' ∧ m s' < m s) :
    ∀ (n : Nat) (s : σ) (rho : List SV), P s → m s < n → wipe rho ks = st s → ev Fs c rho h = .ok (.bl (cond s)) h → ∃ s', whlR Fs c ks b n rho h = .nx (st s') h ∧ P s' ∧ cond s' = false
  | 0, s, rho, _, hm, _, _ => by omega
  | n + 1, s, rho, hp, hm, hw, hc => by
    unfold whlR whileLoop
    rw [hc, ofR_ok]
    cases hb : cond s with
    | false => exact ⟨s, by rw [test_f, seq_nx, hw], hp, hb⟩
    | true =>
      obtain ⟨s', rho', e1, e2, e3, e4, e5⟩ := hs s hp hb
      obtain ⟨s2, f1, f2, f3⟩ := while_ex st P m cond hs n s' rho' e4 (by omega) e2 e3
      refine ⟨s2, ?_, f2, f3⟩
      rw [test_t, hw, e1, turn_nx]
      exact f1
theorem while_ex' {σ : Type} {Fs : List Fn} {c : E} {ks : List Nat} {b : List S} {h : List O} {n : Nat} {rho : List SV} {r : SR} (hr : whlR Fs c ks b n rho h = r) (st : σ → List SV) (P : σ → Prop) (m : σ → Nat) (cond : σ → Bool) (s : σ) (hp : P s) (hm : m s < n) (hw : wipe rho ks = st s) (hc : ev Fs c rho h = .ok (.bl (cond s)) h)
    (hs : ∀ s, P s → cond s = true → ∃ s' rho', exL Fs b (st s) h = .nx rho' h ∧ wipe rho' ks = st s' ∧ ev Fs c rho' h = .ok (.bl (cond s')) h ∧ P s' ∧ m s' < m s) :
    ∃ s', r = .nx (st s') h ∧ P s' ∧ cond s' = false := by
  rw [← hr]
  exact while_ex st P m cond hs n s rho hp hm hw hc
/-! dicts of numbers and truths -/
abbrev Dic := List (Int × Bool)
def encD (d : Dic) : List (MV × MV) := d.map fun p => (.int p.1, .bl p.2)
def lookD (d : Dic) (x : Int) : Option Bool := (d.find? fun p => decide (p.1 = x)).map (·.2)
def putT (d : Dic) (x : Int) (b : Bool) : Dic := if (d.any fun p => decide (p.1 = x)) = true then d.map (fun p => if decide (p.1 = x) = true then (p.1, b) else p) else d ++ [(x, b)]
theorem getD_enc (d : Dic) (x : Int) : getD (encD d) (.int x) = (lookD d x).map .bl := by
  unfold getD lookD encD
  rw [List.find?_map, Option.map_map, Option.map_map]
  rfl
theorem putD_enc (d : Dic) (x : Int) (b : Bool) : putD (encD d) (.int x) (.bl b) = encD (putT d x b) := by
  unfold putD putT
  have h1 : ((encD d).any fun p => keyEq p.1 (.int x)) = d.any fun p => decide (p.1 = x) := by
    unfold encD
    rw [List.any_map]
    rfl
  rw [h1]
  cases hb : d.any fun p => decide (p.1 = x) with
  | false => simp [encD]
  | true =>
    simp only [encD, if_true, List.map_map]
    refine List.map_congr_left fun p _ => ?_
    by_cases hp : p.1 = x
    · simp [keyEq, hp]
    · simp [keyEq, hp]
theorem look_cons (p : Int × Bool) (d : Dic) (y : Int) : lookD (p :: d) y = if p.1 = y then some p.2 else lookD d y := by
  unfold lookD
  rw [List.find?_cons]
  by_cases h : p.1 = y <;> simp [h]
theorem look_map (x : Int) (b : Bool) (y : Int) : ∀ d : Dic, lookD (d.map fun p => if decide (p.1 = x) = true then (p.1, b) else p) y = if x = y then (lookD d y).map (fun _ => b) else lookD d y
  | [] => by unfold lookD; simp
  | p :: d => by
    rw [List.map_cons, look_cons, look_map x b y d, look_cons]
    by_cases h1 : p.1 = x
    · by_cases h2 : x = y
      · simp [h1, h2]
      · simp [h1, h2]
    · by_cases h2 : x = y
      · have : ¬ p.1 = y := fun z => h1 (h2 ▸ z)
        simp [h1, h2, this]
      · simp [h1, h2]
theorem look_any (x : Int) : ∀ d : Dic, (d.any fun p => decide (p.1 = x)) = (lookD d x).isSome
  | [] => rfl
  | p :: d => by
    rw [look_cons, List.any_cons, look_any x d]
    by_cases h : p.1 = x <;> simp [h]
theorem look_snoc (x : Int) (b : Bool) (y : Int) : ∀ d : Dic, lookD (d ++ [(x, b)]) y = (lookD d y).or (if x = y then some b else none)
  | [] => by rw [List.nil_append, look_cons]; rfl
  | p :: d => by
    rw [List.cons_append, look_cons, look_snoc x b y d, look_cons]
    by_cases h : p.1 = y <;> simp [h]
theorem look_put (d : Dic) (x : Int) (b : Bool) (y : Int) : lookD (putT d x b) y = if x = y then some b else lookD d y := by
  unfold putT
  rw [look_any]
  cases hb : lookD d x with
  | none =>
    simp only [Option.isSome_none, Bool.false_eq_true, if_false]
    rw [look_snoc]
    by_cases hxy : x = y
    · subst hxy
      simp [hb]
    · simp [hxy]
  | some v =>
    simp only [Option.isSome_some, if_true]
    rw [look_map]
    by_cases hxy : x = y
    · subst hxy
      simp [hb]
    · simp [hxy]
theorem put_len (d : Dic) (x : Int) (b : Bool) : (putT d x b).length ≤ d.length + 1 := by
  unfold putT
  split <;> simp
theorem getK_own (kvs : List (MV × MV)) (l : List SV) : getK (.own (.dic false kvs) :: l) 0 = some kvs := rfl
@[simp] theorem getK_0' (s : List (MV × MV)) (l : List SV) : getK (.own (.dic false s) :: l) 0 = some s := (rfl)
@[simp] theorem getK_s' (s : SV) (l : List SV) (i : Nat) : getK (s :: l) (i + 1) = getK l i := (rfl)
@[simp] theorem ev_oGet (Fs : List Fn) (rho : List SV) (h : List O) (i : Nat) (k d : E) : ev Fs (.oGet i k d) rho h = optR (getK rho i) fun kvs => (ev Fs k rho h).bind fun x h1 => (ev Fs d rho h1).bind fun y h2 => oGetV kvs x y h2 := (rfl)
@[simp] theorem oGet_d (d : Dic) (x : Int) (b : Bool) (h : List O) : oGetV (encD d) (.int x) (.bl b) h = .ok (.bl ((lookD d x).getD b)) h := by
  show R.ok ((getD (encD d) (.int x)).getD (.bl b)) h = _
  rw [getD_enc]
  cases lookD d x <;> rfl
@[simp] theorem exS_setI (Fs : List Fn) (rho : List SV) (h : List O) (i : Nat) (k e : E) : exS Fs (.setI i k e) rho h = SR.ofR (ev Fs e rho h) rho fun v h1 => SR.ofO (getK rho i) fun l => SR.ofR (ev Fs k rho h1) rho fun x h2 => SR.ofO (setOwn l x v) fun u => .nx (rho.set i (.own u)) h2 := (rfl)
theorem setOwn_d (d : Dic) (x : Int) (b : Bool) (hz : d.length < 1000000) : setOwn (encD d) (.int x) (.bl b) = some (.dic false (encD (putT d x b))) := by
  rw [← putD_enc]
  exact if_pos (by
    have : (encD d).length < LIM := by
      unfold encD
      rw [List.length_map]
      exact hz
    simp [keyM, this])
/-- said by all of them, if not said before -/
def sayT (b : Bool) (d : Dic) (x : Int) : Dic := putT d x ((lookD d x).getD b)
theorem look_say (b : Bool) : ∀ (xs : List Int) (d : Dic) (y : Int), lookD (xs.foldl (sayT b) d) y = (lookD d y).or (if y ∈ xs then some b else none)
  | [], d, y => by simp
  | x :: xs, d, y => by
    rw [List.foldl_cons, look_say b xs, sayT, look_put]
    by_cases hxy : x = y
    · subst hxy
      cases lookD d x <;> simp
    · have : ¬ y = x := fun z => hxy z.symm
      rw [if_neg hxy]
      simp [this]
theorem say_len (b : Bool) : ∀ (xs : List Int) (d : Dic), (xs.foldl (sayT b) d).length ≤ d.length + xs.length
  | [], d => by simp
  | x :: xs, d => by
    have h1 := say_len b xs (sayT b d x)
    have h2 : (sayT b d x).length ≤ d.length + 1 := put_len d x _
    rw [List.foldl_cons, List.length_cons]
    omega
/-- what an edition says of a number -/
def speak (e : Ed) (x : Int) : Option Bool := if x = e.1 ∨ x ∈ e.2.1 then some true else if x ∈ e.2.2 then some false else none
/-- an edition by its number -/
def edAt (es : List Ed) (n : Int) : Option Ed := if 1 ≤ n then es[(n - 1).toNat]? else none
/-- the line of an edition -/
def lineF (es : List Ed) : Nat → Int → List Ed
  | 0, _ => []
  | k + 1, n => match edAt es n with
    | some e => e :: lineF es k e.1
    | none => []
def saidL (l : List Ed) (x : Int) : Option Bool := l.findSome? fun e => speak e x
def saidOf (es : List Ed) (n x : Int) : Bool := decide (x = n) || saidL (lineF es n.toNat n) x == some true
def lotOf (es : List Ed) (n : Int) : List Int := (rngI 1 n.toNat).filter (saidOf es n)
theorem OkEds.at {es : List Ed} (h : OkEds es) {n : Int} (h1 : 1 ≤ n) (h2 : n ≤ es.length) : ∃ e, edAt es n = some e ∧ OkEd n e := by
  unfold edAt
  rw [if_pos h1]
  have hl : (n - 1).toNat < es.length := by omega
  rw [List.getElem?_eq_getElem hl]
  refine ⟨_, rfl, ?_⟩
  have := h _ _ (List.getElem?_eq_getElem hl)
  rw [show (((n - 1).toNat : Nat) : Int) + 1 = n by omega] at this
  exact this
theorem edAt_atI {es : List Ed} {n : Int} {e : Ed} (h : edAt es n = some e) : atI (es.map encE) (n - 1) = some (encE e) ∧ 1 ≤ n ∧ n ≤ es.length := by
  unfold edAt at h
  split at h
  · next h1 =>
    rw [atI_nat _ _ (by omega), List.getElem?_map, h]
    have := (List.getElem?_eq_some_iff.mp h).1
    exact ⟨rfl, h1, by omega⟩
  · cases h
theorem lineF_enough {es : List Ed} (h : OkEds es) : ∀ (k : Nat) (n : Int), n ≤ k → n ≤ es.length → lineF es k n = lineF es n.toNat n
  | 0, n, hk, _ => by
    rw [show n.toNat = 0 by omega]
  | k + 1, n, hk, hn => by
    by_cases h1 : 1 ≤ n
    · obtain ⟨e, he, ok⟩ := h.at h1 hn
      obtain ⟨m, hm⟩ : ∃ m, n.toNat = m + 1 := ⟨n.toNat - 1, by omega⟩
      rw [hm]
      have b1 := ok.b1
      simp only [lineF, he]
      rw [lineF_enough h k e.1 (by omega) (by omega), lineF_enough h m e.1 (by omega) (by omega)]
    · have : edAt es n = none := by unfold edAt; rw [if_neg h1]
      rw [show n.toNat = 0 by omega]
      simp only [lineF, this]
theorem line_next {es : List Ed} (h : OkEds es) {n : Int} {e : Ed} (he : edAt es n = some e) : lineF es n.toNat n = e :: lineF es e.1.toNat e.1 := by
  obtain ⟨_, h1, h2⟩ := edAt_atI he
  obtain ⟨e', he', ok⟩ := h.at h1 h2
  rw [he] at he'
  cases he'
  have b1 := ok.b1
  obtain ⟨m, hm⟩ : ∃ m, n.toNat = m + 1 := ⟨n.toNat - 1, by omega⟩
  rw [hm]
  simp only [lineF, he]
  rw [lineF_enough h m e.1 (by omega) (by omega)]
theorem lot_from_ok {es : List Ed} {n : Int} (h : List O) (ok : OkEds es) (h1 : 1 ≤ n) (h2 : n ≤ es.length) (h3 : es.length ≤ 10) : f_lot_from [.lst (es.map encE), .int n] h = .ok (.tup ((lotOf es n).map .int)) h := by
  unfold f_lot_from b_lot_from
  have hd : [(MV.int n, MV.bl true)] = encD [(n, true)] := rfl
  simp [run_def, keyM, hd]
  generalize hlp : whlR _ _ _ _ _ _ _ = r
  obtain ⟨⟨one, d⟩, rfl, ⟨p1, p2, p3, p4⟩, p5⟩ := while_ex' hlp (fun s : Int × Dic => [.val (.lst (es.map encE)), .val (.int n), .own (.dic false (encD s.2)), .val (.int s.1), .none, .none, .none, .none])
    (fun s => 0 ≤ s.1 ∧ s.1 ≤ n ∧ (s.2.length : Int) ≤ 1 + (n - s.1) * 2001 ∧ ∀ y, (lookD s.2 y).or (saidL (lineF es s.1.toNat s.1) y) = (if y = n then some true else none).or (saidL (lineF es n.toNat n) y)) (fun s => s.1.toNat) (fun s => decide (0 < s.1)) (n, [(n, true)])
    ⟨by omega, by simp, by simp, fun y => by
      by_cases hy : y = n
      · simp [lookD, hy]
      · have : ¬ n = y := fun z => hy z.symm
        simp [lookD, hy, this]⟩ (by simp; omega) rfl (by simp) (by
    rintro ⟨one, d⟩ ⟨p1, p2, p3, p4⟩ hc
    simp only [decide_eq_true_eq] at hc p1 p2 p3 p4
    obtain ⟨e, he, oe⟩ := ok.at (n := one) (by omega) (by omega)
    obtain ⟨hix, _, _⟩ := edAt_atI he
    rw [line_next ok he] at p4
    obtain ⟨b, tk, lv⟩ := e
    have b0 := oe.b0
    have b1 := oe.b1
    have lt1 := lot_len2 oe.t (by omega) (by omega)
    have lt2 := lot_len2 oe.l (by omega) (by omega)
    simp only [] at b0 b1 lt1 lt2 p4 
    obtain ⟨bt, hbt⟩ : ∃ bt, b :: tk = bt := ⟨_, rfl⟩
    have hbl : bt.length = tk.length + 1 := by rw [← hbt]; rfl
    have ad : ∀ h, binV h .add (.tup [.int b]) (.tup (tk.map .int)) = some (.tup (bt.map .int)) := fun h => by
      rw [← hbt]
      exact add_tup _ _ h (by simp; omega)
    have hd1 : d.length ≤ 30000 := by omega
    refine ⟨(b, lv.foldl (sayT false) (bt.foldl (sayT true) d)), [.val (.lst (es.map encE)), .val (.int n), .own (.dic false (encD (lv.foldl (sayT false) (bt.foldl (sayT true) d)))), .val (.int b), (lv.foldl (fun (sd : SV × Dic) x => (SV.val (.int x), sayT false sd.2 x)) (.none, bt.foldl (sayT true) d)).1, .val (.int b), .val (.tup (tk.map .int)), .val (.tup (lv.map .int))], ?_, rfl, by simp, ⟨b0, by omega, ?_, fun y => ?_⟩, by simp only []; omega⟩
    · simp [hix, ad]
      generalize hlp : loopF _ _ _ _ _ _ _ = r
      have e1 := loop_fold' hlp (fun d : Dic => [.val (.lst (es.map encE)), .val (.int n), .own (.dic false (encD d)), .val (.int one), .none, .val (.int b), .val (.tup (tk.map .int)), .val (.tup (lv.map .int))]) (sayT true) (fun d xs => d.length + xs.length ≤ 40000) d rfl (by omega) (by
        intro d x xs hp
        simp only [List.length_cons] at hp
        have hz := setOwn_d d x ((lookD d x).getD true) (by omega)
        have hl := put_len d x ((lookD d x).getD true)
        exact ⟨by simp [stepF_, hz, sayT], by unfold sayT; omega⟩)
      subst e1
      have hl1 := say_len true bt d
      generalize hd2 : bt.foldl (sayT true) d = d2
      rw [hd2] at hl1
      simp
      generalize hlp : loopF _ _ _ _ _ _ _ = r
      have e1 := loop_fold' hlp (fun sd : SV × Dic => [.val (.lst (es.map encE)), .val (.int n), .own (.dic false (encD sd.2)), .val (.int one), sd.1, .val (.int b), .val (.tup (tk.map .int)), .val (.tup (lv.map .int))]) (fun sd x => (.val (.int x), sayT false sd.2 x)) (fun sd xs => sd.2.length + xs.length ≤ 40000) (.none, d2) rfl (by simp only []; omega) (by
        rintro ⟨s, d⟩ x xs hp
        simp only [List.length_cons] at hp
        have hz := setOwn_d d x ((lookD d x).getD false) (by omega)
        have hl := put_len d x ((lookD d x).getD false)
        exact ⟨by simp [stepF_, hz, sayT], by unfold sayT; simp only []; omega⟩)
      subst e1
      have e2 : ∀ (xs : List Int) (s : SV) (d : Dic), (xs.foldl (fun (sd : SV × Dic) x => (SV.val (.int x), sayT false sd.2 x)) (s, d)).2 = xs.foldl (sayT false) d := by
        intro xs
        induction xs with
        | nil => intro s d; rfl
        | cons x xs ih => intro s d; exact ih _ _
      simp [e2 lv .none d2]
    · have hl1 := say_len true bt d
      have hl2 := say_len false lv (bt.foldl (sayT true) d)
      simp only []
      omega
    · rw [← p4 y]
      simp only []
      rw [look_say, look_say]
      simp only [saidL, List.findSome?_cons, speak]
      rw [← hbt]
      simp only [List.mem_cons]
      cases lookD d y with
      | some v => rfl
      | none =>
        by_cases h1 : y = b ∨ y ∈ tk
        · simp [h1]
        · by_cases h2 : y ∈ lv
          · simp [h1, h2]
          · simp [h1, h2])
  simp only [decide_eq_false_iff_not] at p5 p1 p2 p3 p4
  have h0 : one = 0 := by omega
  subst h0
  have hln : lineF es (0 : Int).toNat 0 = [] := rfl
  rw [hln] at p4
  have hz : ((rngI 1 n.toNat).filter (saidOf es n)).length ≤ 1000000 := filt_lim (by rw [rngI_len]; omega)
  have hf : (fun x => (lookD d x).getD false) = saidOf es n := by
    funext x
    have := p4 x
    simp only [saidL, List.findSome?_nil, Option.or_none] at this
    rw [this]
    unfold saidOf
    by_cases hx : x = n
    · simp [hx]
    · simp only [hx, if_false, decide_false, Bool.false_or, Option.none_or]
      show (saidL _ x).getD false = _
      cases saidL (lineF es n.toNat n) x with
      | none => rfl
      | some b => cases b <;> rfl
  simp [rng2_t 1 (n + 1) (by omega), hf, hz, lotOf]
end MP
end

section
set_option Elab.async false
set_option linter.all false
set_option maxRecDepth 100000
set_option maxHeartbeats 1000000
/-! ### Q3: weaves, what is told -/
namespace MP
structure WvAt (h : List O) (v : MV) (es : List Ed) (rs : List Row) : Prop where
  c : clsOf h v = some 0
  f0 : fldV h v 0 = some (.lst (es.map encE))
  f1 : fldV h v 1 = some (.lst (rs.map encR))
def isToldB (r : Row) (l : List Int) : Bool := decide (r.1 ∈ l) && !(r.2.1.any fun x => decide (x ∈ l))
theorem is_told_ok (r : Row) (l : List Int) (h : List O) (hz : r.2.1.length ≤ 1000000) : f_is_told [encR r, .tup (l.map .int)] h = .ok (.bl (isToldB r l)) h := by
  unfold f_is_told b_is_told isToldB
  simp [run_def, hz]
theorem check_lot_t {h : List O} {v : MV} {es : List Ed} {rs : List Row} {l : List Int} (w : WvAt h v es rs) (hl : IsLot 1 es.length l) (hz : es.length ≤ 1000) : f_check_lot [v, .tup (l.map .int)] h = .ok .non h := by
  unfold f_check_lot b_check_lot
  have := is_lot_t h hl (by omega) (by omega)
  simp [run_def, w.f0, this]
theorem check_number_t {h : List O} {v : MV} {es : List Ed} {rs : List Row} {lo n : Int} (w : WvAt h v es rs) (h0 : lo ≤ n) (h1 : n ≤ es.length) : f_check_number [v, .int n, .int lo] h = .ok .non h := by
  unfold f_check_number b_check_number
  simp [run_def, w.f0, h0, h1]
theorem check_number_dt {h : List O} {v : MV} {es : List Ed} {rs : List Row} {n : Int} (w : WvAt h v es rs) (h0 : 1 ≤ n) (h1 : n ≤ es.length) : f_check_number_d [v, .int n] h = .ok .non h := check_number_t w h0 h1
theorem lot_of_t {h : List O} {v : MV} {es : List Ed} {rs : List Row} {n : Int} (w : WvAt h v es rs) (ok : OkEds es) (h0 : 1 ≤ n) (h1 : n ≤ es.length) (h3 : es.length ≤ 10) : f_lot_of [v, .int n] h = .ok (.tup ((lotOf es n).map .int)) h := by
  unfold f_lot_of b_lot_of
  simp [run_def, w.f0, check_number_dt w h0 h1, lot_from_ok h ok h0 h1 h3]
theorem okRow_len {n : Int} {r : Row} (h : OkRow n r) (hn : n ≤ 1000) : r.2.1.length ≤ 1000 := lot_len2 h.s (by have := h.o0; omega) hn
theorem told_rows_t {h : List O} {v : MV} {es : List Ed} {rs : List Row} {l : List Int} (w : WvAt h v es rs) (ok : OkRows es.length rs) (hn : es.length ≤ 1000) (hz : rs.length ≤ 1000000) : f_told_rows [v, .tup (l.map .int)] h = .ok (.lst ((rs.filter fun r => isToldB r l).map encR)) h := by
  unfold f_told_rows b_told_rows
  simp [run_def, w.f1]
  rw [compT_mem (p := fun r => isToldB r l) (g := encR) _ fun r hr => by
    have := is_told_ok r l h (by have := okRow_len (ok r hr) (by omega); omega)
    simp only [encR_] at this
    simp [this]
    cases isToldB r l <;> rfl]
  simp [hz]
def textOf (rs : List Row) (l : List Int) : List Str := (rs.filter fun r => isToldB r l).map fun r => r.2.2
theorem told_t {h : List O} {v : MV} {es : List Ed} {rs : List Row} {l : List Int} (w : WvAt h v es rs) (ok : OkRows es.length rs) (hl : IsLot 1 es.length l) (hn : es.length ≤ 1000) (hz : rs.length ≤ 1000000) : f_told [v, .tup (l.map .int)] h = .ok (.ref h.length) (h ++ [.lst ((textOf rs l).map .str)]) := by
  unfold f_told b_told
  simp [run_def, check_lot_t w hl hn, told_rows_t w ok hn hz, hz, textOf]
def broughtOf (rs : List Row) (l : List Int) : List (Str × Int) := (rs.filter fun r => isToldB r l).map fun r => (r.2.2, r.1)
def encB (p : Str × Int) : MV := .tup [.str p.1, .int p.2]
theorem brought_t {h : List O} {v : MV} {es : List Ed} {rs : List Row} {l : List Int} (w : WvAt h v es rs) (ok : OkRows es.length rs) (hl : IsLot 1 es.length l) (hn : es.length ≤ 1000) (hz : rs.length ≤ 1000000) : f_brought [v, .tup (l.map .int)] h = .ok (.ref h.length) (h ++ [.lst ((broughtOf rs l).map encB)]) := by
  unfold f_brought b_brought
  simp [run_def, check_lot_t w hl hn, told_rows_t w ok hn hz, hz, broughtOf]
  exact fun a b c _ _ => rfl
def encS (p : Str × Int × List Int) : MV := .tup [.str p.1, .int p.2.1, .tup (p.2.2.map .int)]
def struckF (l : List Int) (r : Row) : Option (Str × Int × List Int) := if decide (r.1 ∈ l) && (!(r.2.1.filter fun x => decide (x ∈ l)).isEmpty) then some (r.2.2, r.1, r.2.1.filter fun x => decide (x ∈ l)) else none
def struckOf (rs : List Row) (l : List Int) : List (Str × Int × List Int) := rs.filterMap (struckF l)
theorem getElem?_mono {α : Type} {h k : List α} {a : Nat} {x : α} (e : h[a]? = some x) : (h ++ k)[a]? = some x := by
  rw [List.getElem?_append_left (List.getElem?_eq_some_iff.mp e).1]
  exact e
theorem WvAt.mono {h k : List O} {v : MV} {es : List Ed} {rs : List Row} (w : WvAt h v es rs) : WvAt (h ++ k) v es rs := by
  obtain ⟨c, f0, f1⟩ := w
  cases v with
  | obj c fs => exact ⟨c, f0, f1⟩
  | ref a =>
    cases ha : h[a]? with
    | none => simp [clsOf, ha] at c
    | some o => 
      have ha' := getElem?_mono (k := k) ha
      refine ⟨?_, ?_, ?_⟩
      · simp only [clsOf, ha, ha'] at c ⊢
        exact c
      · simp only [fldV, ha, ha'] at f0 ⊢
        exact f0
      · simp only [fldV, ha, ha'] at f1 ⊢
        exact f1
  | _ => cases c
theorem struck_t {h : List O} {v : MV} {es : List Ed} {rs : List Row} {l : List Int} (w : WvAt h v es rs) (ok : OkRows es.length rs) (hl : IsLot 1 es.length l) (hn : es.length ≤ 1000) (hz : rs.length ≤ 100000) : f_struck [v, .tup (l.map .int)] h = .ok (.ref h.length) (h ++ [.lst ((struckOf rs l).map encS)]) := by
  have hl0 : (LIM : Nat) = 1000000 := rfl
  unfold f_struck b_struck
  simp [run_def, check_lot_t w hl hn, w.mono.f1]
  generalize hlp : loopF _ _ _ _ _ _ _ = r
  obtain ⟨acc, rfl, p1, p2⟩ := loop_exH' hlp (fun acc : List (Str × Int × List Int) => [.val v, .val (.tup (l.map .int)), .val (.ref h.length), .none, .none, .none, .none, .none]) (fun acc => h ++ [.lst (acc.map encS)])
    (fun acc xs => (acc.length + xs.length ≤ 100000 ∧ ∀ x ∈ xs, x ∈ rs) ∧ acc ++ xs.filterMap (struckF l) = struckOf rs l) [] rfl rfl ⟨⟨by simpa using hz, fun x hx => hx⟩, rfl⟩ (by
    rintro acc ⟨o, st, t⟩ xs ⟨⟨p1, p2⟩, p3⟩
    have hr := okRow_len (ok _ (p2 _ List.mem_cons_self)) (by omega)
    simp only [List.length_cons] at p1 hr
    have hz1 : st.length ≤ 1000000 := by omega
    have hz2 : (st.filter fun x => decide (x ∈ l)).length ≤ 1000000 := filt_lim hz1
    have p2' : ∀ x ∈ xs, x ∈ rs := fun x hx => p2 x (List.mem_cons_of_mem _ hx)
    have hz3 := fun y => appV_top h (acc.map encS) y (by rw [List.length_map]; omega)
    have hsf : struckF l (o, st, t) = if decide (o ∈ l) && (!(st.filter fun x => decide (x ∈ l)).isEmpty) then some (t, o, st.filter fun x => decide (x ∈ l)) else none := rfl
    rw [List.filterMap_cons, hsf] at p3
    generalize hso : (st.filter fun x => decide (x ∈ l)) = so at p3 hz2
    have hne : ∀ h, cmpV h .ne (.tup (so.map .int)) (.tup []) = some (!so.isEmpty) := fun h => by
      rw [cmp_ne (snap_pl (n := 1) (pl_tup fun v hv => by
        obtain ⟨x, _, rfl⟩ := List.mem_map.mp hv
        exact pl_int x) (by decide) h) (snap_pl (n := 1) (pl_tup (l := []) fun v hv => by cases hv) (by decide) h)]
      cases so <;> rfl
    cases hc1 : decide (o ∈ l) with
    | false => 
      rw [hc1] at p3
      refine ⟨acc, ?_, ⟨by omega, p2'⟩, by simpa using p3⟩
      simp [stepF_, hz1, hso, hz2, hc1, hne, ev_lstR]
    | true =>
      rw [hc1] at p3
      cases hc2 : so.isEmpty with
      | true =>
        rw [hc2] at p3
        refine ⟨acc, ?_, ⟨by omega, p2'⟩, by simpa using p3⟩
        simp [stepF_, hz1, hso, hz2, hc1, hc2, hne, -List.isEmpty_iff]
      | false =>
        rw [hc2] at p3
        refine ⟨acc ++ [(t, o, so)], ?_, ⟨by simp; omega, p2'⟩, by simpa using p3⟩
        simp [stepF_, hz1, hso, hz2, hc1, hc2, hne, hz3, encS, -List.isEmpty_iff])
  simp at p2
  simp [p2]
end MP
end

section
set_option Elab.async false
set_option linter.all false
set_option maxRecDepth 100000
set_option maxHeartbeats 1000000
/-! ### Q4: lists that stand in the heap; weaves made, weaves held against one another -/
namespace MP
def LA (h : List O) (x : MV) (l : List MV) : Prop := x = .lst l ∨ ∃ a, x = .ref a ∧ h[a]? = some (.lst l)
def Src.is (s : Src) (h : List O) (l : List MV) : Prop := s.len h = l.length ∧ ∀ i, s.at h i = some l[i]?
theorem LA.lst (h : List O) (l : List MV) : LA h (.lst l) l := .inl rfl
theorem LA.ref {h : List O} {a : Nat} {l : List MV} (e : h[a]? = some (.lst l)) : LA h (.ref a) l := .inr ⟨a, rfl, e⟩
theorem LA.mono {h k : List O} {x : MV} {l : List MV} (w : LA h x l) : LA (h ++ k) x l := by
  rcases w with rfl | ⟨a, rfl, e⟩
  · exact .inl rfl
  · exact .inr ⟨a, rfl, getElem?_mono e⟩
theorem LA.set {h : List O} {x : MV} {l : List MV} {a c : Nat} {fs fs' : List (Nat × MV)} (w : LA h x l) (e : h[a]? = some (.ins c fs)) : LA (h.set a (.ins c fs')) x l := by
  rcases w with rfl | ⟨b, rfl, e'⟩
  · exact .inl rfl
  · refine .inr ⟨b, rfl, ?_⟩
    have : a ≠ b := fun z => by
      subst z
      rw [e] at e'
      cases e'
    rw [List.getElem?_set_ne this]
    exact e'
theorem LA.isi {h : List O} {x : MV} {l : List MV} (w : LA h x l) : isiV h .list x = some true := by
  rcases w with rfl | ⟨a, rfl, e⟩
  · rfl
  · simp [isiV, e]
theorem LA.lookL {h : List O} {x : MV} {l : List MV} (w : LA h x l) : lookL h x = some l := by
  rcases w with rfl | ⟨a, rfl, e⟩
  · rfl
  · simp [MP.lookL, e]
theorem LA.lookS {h : List O} {x : MV} {l : List MV} (w : LA h x l) : lookS h x = some l := by
  rcases w with rfl | ⟨a, rfl, e⟩
  · rfl
  · simp [MP.lookS, MP.lookL, e]
theorem LA.len {h : List O} {x : MV} {l : List MV} (w : LA h x l) : bltV .len [x] h = .ok (.int l.length) h := by
  have := w.lookS
  rcases w with rfl | ⟨a, rfl, e⟩
  · rfl
  · show optR (MP.lookS h (.ref a)) (fun l => R.ok (MV.int l.length) h) = _
    rw [this]
    rfl
theorem LA.list {h : List O} {x : MV} {l : List MV} (w : LA h x l) : bltV .list [x] h = .ok (.lst l) h := by
  show optR (MP.lookS h x) (fun l => R.ok (MV.lst l) h) = _
  rw [w.lookS]
  rfl
theorem LA.listR {h : List O} {x : MV} {l : List MV} (w : LA h x l) : bltV .listR [x] h = .ok (.ref h.length) (h ++ [.lst l]) := by
  show optR (MP.lookS h x) (fun l => R.ok (MV.ref h.length) (h ++ [O.lst l])) = _
  rw [w.lookS]
  rfl
theorem LA.src {h : List O} {x : MV} {l : List MV} (w : LA h x l) : ∃ s, srcV h x = some s ∧ s.is h l := by
  rcases w with rfl | ⟨a, rfl, e⟩
  · exact ⟨_, rfl, rfl, fun i => rfl⟩
  · refine ⟨.live a, by simp [srcV, e], by simp [Src.len, e], fun i => by simp [Src.at, e]⟩
theorem LA.enm {α : Type} {f : α → MV} {h : List O} {x : MV} {l : List α} (w : LA h x (l.map f)) : ∃ s, enmV h x = some s ∧ s.is h ((numd 0 l).map (encN f)) := by
  obtain ⟨s, e, e1, e2⟩ := w.src
  refine ⟨.enm s, ?_, ?_⟩
  · have : isTup x = false := by rcases w with rfl | ⟨a, rfl, _⟩ <;> rfl
    unfold enmV
    rw [this, e]
    rfl
  · have h1 := items_at _ _ h (enm_items f l)
    refine ⟨?_, fun i => ?_⟩
    · rw [← h1.1]
      exact e1
    · rw [← h1.2 i]
      simp only [Src.at, e2]
theorem LA.snap {h : List O} {x : MV} {l : List MV} (w : LA h x l) (hp : ∀ v ∈ l, Pl 5 v) : snap h x = some (.lst l) := by
  rcases w with rfl | ⟨a, rfl, e⟩
  · exact snap_pl (n := 6) (pl_lst hp) (by decide) h
  · exact snap_ref e fun v hv => pl_up (hp v hv) (by decide)
theorem LA.eq {α : Type} [DecidableEq α] {f : α → MV} {h : List O} {x y : MV} {a b : List α} (hf : EqOk f) (wx : LA h x (a.map f)) (wy : LA h y (b.map f)) (pa : ∀ v ∈ a, Pl 5 (f v)) (pb : ∀ v ∈ b, Pl 5 (f v)) : cmpV h .eq x y = some (decide (a = b)) := by
  rw [cmp_eq (wx.snap fun v hv => by
    obtain ⟨u, hu, rfl⟩ := List.mem_map.mp hv
    exact pa u hu) (wy.snap fun v hv => by
    obtain ⟨u, hu, rfl⟩ := List.mem_map.mp hv
    exact pb u hu)]
  congr 1
  exact eqok_lst hf a b
theorem LA.ne {α : Type} [DecidableEq α] {f : α → MV} {h : List O} {x y : MV} {a b : List α} (hf : EqOk f) (wx : LA h x (a.map f)) (wy : LA h y (b.map f)) (pa : ∀ v ∈ a, Pl 5 (f v)) (pb : ∀ v ∈ b, Pl 5 (f v)) : cmpV h .ne x y = some (!decide (a = b)) := by
  rw [cmp_ne (wx.snap fun v hv => by
    obtain ⟨u, hu, rfl⟩ := List.mem_map.mp hv
    exact pa u hu) (wy.snap fun v hv => by
    obtain ⟨u, hu, rfl⟩ := List.mem_map.mp hv
    exact pb u hu)]
  congr 2
  exact eqok_lst hf a b
/-! loops over what stands -/
def KeepL (Fs : List Fn) (t : T) (ks : List Nat) (b : List S) (h : List O) : List MV → List SV → Prop
  | [], _ => True
  | x :: xs, rho => ∃ rho', stepF Fs t ks b x rho h = .nx rho' h ∧ KeepL Fs t ks b h xs rho'
theorem forR_keep {Fs : List Fn} {t : T} {ks : List Nat} {b : List S} {h : List O} {s : Src} {l : List MV} {rho : List SV} (hs : s.is h l) (k : KeepL Fs t ks b h l (wipe rho ks)) : forR Fs t ks b rho s h = loopF Fs t ks b l (wipe rho ks) h := by
  unfold forR
  have gen : ∀ (n i : Nat) (rho : List SV), n = l.length - i → i ≤ l.length → KeepL Fs t ks b h (l.drop i) (wipe rho ks) →
      (forLoop s (fun x r h => SR.ofO (setT t x (wipe r ks)) fun r1 => exL Fs b r1 h) (n + 1) i rho h).seq (fun r h => .nx (wipe r ks) h) = loopF Fs t ks b (l.drop i) (wipe rho ks) h := by
    intro n
    induction n with
    | zero =>
      intro i rho hn hi _
      have : i = l.length := by omega
      subst this
      rw [List.drop_length]
      unfold forLoop
      rw [hs.2]
      simp [loopF]
    | succ n ih =>
      intro i rho hn hi k
      have hl : i < l.length := by omega
      rw [List.drop_eq_getElem_cons hl] at k ⊢
      obtain ⟨rho', e1, k⟩ := k
      unfold forLoop
      rw [hs.2, List.getElem?_eq_getElem hl]
      show (SR.turn (SR.ofO (setT t l[i] (wipe rho ks)) fun r1 => exL Fs b r1 h) fun r1 h1 => forLoop s _ (n + 1) (i + 1) r1 h1).seq (fun r h => .nx (wipe r ks) h) = (stepF Fs t ks b l[i] (wipe rho ks) h).seq fun r h1 => loopF Fs t ks b (l.drop (i + 1)) r h1
      rw [e1, seq_nx]
      unfold stepF at e1
      cases e2 : SR.ofO (setT t l[i] (wipe rho ks)) fun r1 => exL Fs b r1 h with
      | nx r h1 =>
        rw [e2] at e1
        cases e1
        exact ih (i + 1) r (by omega) (by omega) k
      | ct r h1 =>
        rw [e2] at e1
        cases e1
        exact ih (i + 1) r (by omega) (by omega) k
      | rt v h1 =>
        rw [e2] at e1
        cases e1
      | ex e r h1 =>
        rw [e2] at e1
        cases e1
      | bad =>
        rw [e2] at e1
        cases e1
  have := gen l.length 0 rho (by omega) (by omega) k
  rw [List.drop_zero, ← hs.1] at this
  exact this
theorem for_ex {α σ : Type} {Fs : List Fn} {t : T} {ks : List Nat} {b : List S} {h : List O} {enc : α → MV} {l : List α} {rho : List SV} {r : SR} {src : Src} (hr : forR Fs t ks b rho src h = r) (hs0 : src.is h (l.map enc)) (st : σ → List SV) (P : σ → List α → Prop) (s : σ) (e : wipe rho ks = st s) (hp : P s l)
    (hs : ∀ s x xs, P s (x :: xs) → ∃ s', stepF Fs t ks b (enc x) (st s) h = .nx (st s') h ∧ P s' xs) : ∃ s', r = .nx (st s') h ∧ P s' [] := by
  have hk : ∀ (l : List α) (s : σ), P s l → KeepL Fs t ks b h (l.map enc) (st s) := by
    intro l
    induction l with
    | nil => intro s _; trivial
    | cons x xs ih =>
      intro s hp
      obtain ⟨s', h1, h2⟩ := hs s x xs hp
      exact ⟨_, h1, ih s' h2⟩
  rw [← hr, forR_keep hs0 (by rw [e]; exact hk l s hp), e]
  exact loop_ex enc st P l s hp hs
theorem check_weave_L {es : List Ed} {rs : List Row} {h : List O} {x y : MV} (lx : LA h x (es.map encE)) (ly : LA h y (rs.map encR)) (he : OkEds es) (hr : OkRows es.length rs) (hn : es.length ≤ 9) (hm : rs.length ≤ 200) : f_check_weave [x, y] h = .ok .non h := by
  obtain ⟨s1, e1, i1⟩ := lx.enm
  obtain ⟨s2, e2, i2⟩ := ly.enm
  unfold f_check_weave b_check_weave
  simp [run_def, lx.isi, e1]
  generalize hlp : forR _ _ _ _ _ _ _ = r
  obtain ⟨_, rfl, _⟩ := for_ex hlp i1 (fun s : Unit => [.val x, .val y, .none, .none, .none]) (fun s xs => ∀ p ∈ xs, p ∈ numd 0 es) () rfl (fun p hp => hp) (by
    rintro s ⟨i, e⟩ xs hp
    obtain ⟨k, h1, h2⟩ := numd_mem _ _ _ (hp _ List.mem_cons_self)
    have hk := (List.getElem?_eq_some_iff.mp h1).1
    simp only [] at h1 h2
    have e1 := is_edition_t h (he k e h1) (by omega)
    have e2 : i = (k : Int) := by omega
    subst e2
    have e3 : ((k : Int) == 9) = false := by simp; omega
    exact ⟨(), by simp [stepF_, e1, e3, -encE_], fun p h => hp p (List.mem_cons_of_mem _ h)⟩)
  simp [ly.isi, e2]
  generalize hlp : forR _ _ _ _ _ _ _ = r
  obtain ⟨s2, rfl, h2⟩ := for_ex hlp i2 (fun s : SV => [.val x, .val y, s, .none, .none]) (fun s xs => ∀ p ∈ xs, p ∈ numd 0 rs) .none rfl (fun p hp => hp) (by
    rintro s ⟨i, e⟩ xs hp
    obtain ⟨k, h1, h2⟩ := numd_mem _ _ _ (hp _ List.mem_cons_self)
    have hk := (List.getElem?_eq_some_iff.mp h1).1
    simp only [] at h1 h2
    have e1 := is_row_t h (hr e (List.mem_of_getElem? h1)) (by omega)
    have e2 : i = (k : Int) := by omega
    subst e2
    have e3 : ((k : Int) == 200) = false := by simp; omega
    have e4 := lx.len
    rw [List.length_map] at e4
    exact ⟨.val (.int k), by simp [stepF_, e1, e3, e4, -encR_], fun p h => hp p (List.mem_cons_of_mem _ h)⟩)
  simp
@[simp] theorem exS_setF (Fs : List Fn) (rho : List SV) (h : List O) (a : E) (f : Nat) (e : E) : exS Fs (.setF a f e) rho h = SR.ofR (ev Fs e rho h) rho fun v h1 => SR.ofR (ev Fs a rho h1) rho fun x h2 => SR.ofO (setFld f x v h2) fun h3 => .nx rho h3 := (rfl)
theorem setFld_at {h : List O} {a c : Nat} {fs : List (Nat × MV)} (e : h[a]? = some (.ins c fs)) (f : Nat) (v : MV) (hz : fs.length < 900) : setFld f (.ref a) v h = some (h.set a (.ins c (putF f v fs))) := by
  unfold setFld
  simp only [e]
  exact if_pos hz
/-- a weave as it stands in the heap -/
def wvO (es : List Ed) (rs : List Row) : O := .ins 0 [(0, .lst (es.map encE)), (1, .lst (rs.map encR))]
theorem init_ok {es : List Ed} {rs : List Row} {h : List O} {x y : MV} {a : Nat} (ea : h[a]? = some (.ins 0 [])) (lx : LA h x (es.map encE)) (ly : LA h y (rs.map encR)) (he : OkEds es) (hr : OkRows es.length rs) (hn : es.length ≤ 9) (hm : rs.length ≤ 200) : f_Weave_init [.ref a, x, y] h = .ok .non (h.set a (wvO es rs)) := by
  unfold f_Weave_init b_Weave_init
  have h1 := check_weave_L lx ly he hr hn hm
  have h2 := fun v => setFld_at ea 0 v (by decide)
  have hl : a < h.length := (List.getElem?_eq_some_iff.mp ea).1
  have h3 : ∀ v w, setFld 1 (.ref a) w (h.set a (.ins 0 (putF 0 v []))) = some (h.set a (.ins 0 [(0, v), (1, w)])) := fun v w => by
    rw [setFld_at (c := 0) (fs := putF 0 v []) (List.getElem?_set_self hl) 1 w (by simp [putF]), List.set_set]
    rfl
  have h4 : ∀ v, LA (h.set a (.ins 0 (putF 0 v []))) y (rs.map encR) := fun v => ly.set ea
  simp [run_def, h1, h2, h3, lx.list, (h4 _).list, wvO]
@[simp] theorem ev_new (Fs : List Fn) (rho : List SV) (h : List O) (k c : Nat) (p : Bool) (es : List E) : ev Fs (.new k c p es) rho h = (evs Fs es rho h).bind fun xs h1 => newFn (fnAt Fs k) c p xs h1 := (rfl)
def newR (a : Nat) (v : MV) (h1 : List O) : R MV := match v with
  | .non => .ok (.ref a) h1
  | _ => .bad
theorem newFn_f (f : Fn) (c : Nat) (args : List MV) (h : List O) : newFn f c false args h = (f (.ref h.length :: args) (h ++ [.ins c []])).bind (newR h.length) := rfl
theorem new_ok {es : List Ed} {rs : List Row} {h : List O} {x y : MV} (lx : LA h x (es.map encE)) (ly : LA h y (rs.map encR)) (he : OkEds es) (hr : OkRows es.length rs) (hn : es.length ≤ 9) (hm : rs.length ≤ 200) : newFn f_Weave_init 0 false [x, y] h = .ok (.ref h.length) (h ++ [wvO es rs]) := by
  rw [newFn_f, init_ok (by simp) lx.mono ly.mono he hr hn hm, bind_ok]
  simp [newR]
theorem WvAt.top (h k : List O) (es : List Ed) (rs : List Row) : WvAt (h ++ wvO es rs :: k) (.ref h.length) es rs := by
  refine ⟨?_, ?_, ?_⟩ <;> simp [clsOf, fldV, wvO, lookF]
theorem WvAt.at {h : List O} {a : Nat} {es : List Ed} {rs : List Row} (e : h[a]? = some (wvO es rs)) : WvAt h (.ref a) es rs := by
  refine ⟨?_, ?_, ?_⟩ <;> simp [clsOf, fldV, wvO, lookF, e]
@[simp] theorem ev_oeq (Fs : List Fn) (rho : List SV) (h : List O) (n : Bool) (k c : Nat) (a b : E) : ev Fs (.oeq n k c a b) rho h = (ev Fs a rho h).bind fun x h1 => (ev Fs b rho h1).bind fun y h2 => oeqV (fnAt Fs k) n c x y h2 := (rfl)
@[simp] theorem ev_olen (Fs : List Fn) (rho : List SV) (h : List O) (k c : Nat) (a : E) : ev Fs (.olen k c a) rho h = (ev Fs a rho h).bind fun x h1 => olenV (fnAt Fs k) c x h1 := (rfl)
theorem pl_ints (l : List Int) : ∀ v ∈ l.map MV.int, Pl 0 v := fun v hv => by
  obtain ⟨x, _, rfl⟩ := List.mem_map.mp hv
  exact pl_int x
theorem pl_lot (l : List Int) : Pl 1 (.tup (l.map .int)) := pl_tup (pl_ints l)
theorem pl_E (e : Ed) : Pl 2 (encE e) := pl_tup fun v hv => by
  simp at hv
  rcases hv with rfl | rfl | rfl
  · exact pl_up (pl_int _) (by decide)
  · exact pl_lot _
  · exact pl_lot _
theorem pl_R {r : Row} (h : okS r.2.2) : Pl 2 (encR r) := pl_tup fun v hv => by
  simp at hv
  rcases hv with rfl | rfl | rfl
  · exact pl_up (pl_int _) (by decide)
  · exact pl_lot _
  · exact pl_up (pl_str _ h) (by decide)
theorem eqok_lot : EqOk fun l : List Int => .tup (l.map .int) := eqok_tup eqok_int
theorem eqok_E : EqOk encE := eqok_trip eqok_int eqok_lot eqok_lot
theorem eqok_R : EqOk encR := eqok_trip eqok_int eqok_lot eqok_str
theorem OkRows.okS {n : Int} {rs : List Row} (h : OkRows n rs) : ∀ r ∈ rs, okS r.2.2 := fun r hr => (h r hr).t.2.2
theorem eq_ok {h : List O} {v w : MV} {es es' : List Ed} {rs rs' : List Row} (wv : WvAt h v es rs) (ww : WvAt h w es' rs') (hr : ∀ r ∈ rs, okS r.2.2) (hr' : ∀ r ∈ rs', okS r.2.2) : f_Weave_eq [v, w] h = .ok (.bl (decide (es = es') && decide (rs = rs'))) h := by
  unfold f_Weave_eq b_Weave_eq
  have h1 : isiV h (.cls 0) w = some true := by
    have : isiV h (.cls 0) w = if clsOf h w = some 0 then some true else none := by
      have := ww.c
      cases w <;> simp [clsOf] at this ⊢ <;> simp [isiV, clsOf, this]
    rw [this, if_pos ww.c]
  have h2 := LA.eq (h := h) eqok_E (.lst h (es.map encE)) (.lst h (es'.map encE)) (fun e _ => pl_up (pl_E e) (by decide)) (fun e _ => pl_up (pl_E e) (by decide))
  have h3 := LA.eq (h := h) eqok_R (.lst h (rs.map encR)) (.lst h (rs'.map encR)) (fun e he => pl_up (pl_R (hr e he)) (by decide)) (fun e he => pl_up (pl_R (hr' e he)) (by decide))
  simp [run_def, h1, wv.f0, wv.f1, ww.f0, ww.f1, h2, h3]
theorem oeq_ok {h : List O} {v w : MV} {es es' : List Ed} {rs rs' : List Row} (n : Bool) (wv : WvAt h v es rs) (ww : WvAt h w es' rs') (hr : ∀ r ∈ rs, okS r.2.2) (hr' : ∀ r ∈ rs', okS r.2.2) : oeqV f_Weave_eq n 0 v w h = .ok (.bl (if n then !(decide (es = es') && decide (rs = rs')) else (decide (es = es') && decide (rs = rs')))) h := by
  unfold oeqV
  rw [if_pos ⟨wv.c, ww.c⟩, eq_ok wv ww hr hr']
theorem olen_ok {h : List O} {v : MV} {es : List Ed} {rs : List Row} (wv : WvAt h v es rs) (hn : es.length ≤ 1000) : olenV f_Weave_len 0 v h = .ok (.int es.length) h := by
  unfold olenV
  rw [if_pos wv.c]
  have : f_Weave_len [v] h = .ok (.int es.length) h := by
    unfold f_Weave_len b_Weave_len
    simp [run_def, wv.f0]
  rw [this]
  exact if_pos ⟨by omega, by show (es.length : Int) ≤ 1000000; omega⟩
theorem editions_m {h : List O} {v : MV} {es : List Ed} {rs : List Row} (wv : WvAt h v es rs) : f_Weave_editions [v] h = .ok (.ref h.length) (h ++ [.lst (es.map encE)]) := by
  unfold f_Weave_editions b_Weave_editions
  simp [run_def, wv.f0]
theorem rows_m {h : List O} {v : MV} {es : List Ed} {rs : List Row} (wv : WvAt h v es rs) : f_Weave_rows [v] h = .ok (.ref h.length) (h ++ [.lst (rs.map encR)]) := by
  unfold f_Weave_rows b_Weave_rows
  simp [run_def, wv.f1]
end MP
end

section
set_option Elab.async false
set_option linter.all false
set_option maxRecDepth 100000
set_option maxHeartbeats 1000000
/-! ### R1: lots by own look -/
namespace MP
@[simp] theorem ev_oIdx (Fs : List Fn) (rho : List SV) (h : List O) (i : Nat) (e : E) : ev Fs (.oIdx i e) rho h = optR (getO rho i) fun o => (ev Fs e rho h).bind fun y h1 => oIdxV o y h1 := (rfl)
@[simp] theorem oIdxV_l (l : List MV) (j : Int) (h : List O) : oIdxV (.lst l) (.int j) h = R.of (atI l j) h := (rfl)
theorem sorted_ints (l : List Int) (h : List O) : bltV .sorted [.lst (l.map .int)] h = .ok (.lst ((sortI l).map .int)) h := by
  show optR ((lookL h (.lst (l.map .int))).bind intsOf) (fun ns => R.ok (MV.lst ((sortI ns).map .int)) h) = _
  simp [lookL, intsOf_map]
theorem ins_last (x : Int) : ∀ l : List Int, (∀ y ∈ l, y < x) → insI x l = l ++ [x]
  | [], _ => rfl
  | y :: l, h => by
    have h1 := h y List.mem_cons_self
    have h2 := ins_last x l fun z hz => h z (List.mem_cons_of_mem _ hz)
    unfold insI
    rw [if_neg (by omega), h2]
    rfl
theorem sort_sorted : ∀ l : List Int, l.Pairwise (· < ·) → sortI l = l
  | [], _ => rfl
  | x :: l, h => by
    cases h with
    | cons h1 h2 =>
      unfold sortI
      rw [sort_sorted l h2]
      cases l with
      | nil => rfl
      | cons y l =>
        unfold insI
        rw [if_pos (by have := h1 y List.mem_cons_self; omega)]
theorem rngI_snoc : ∀ (n : Nat) (lo : Int), rngI lo (n + 1) = rngI lo n ++ [lo + n]
  | 0, lo => by simp [rngI]
  | n + 1, lo => by
    have := rngI_snoc n (lo + 1)
    rw [rngI, this, rngI, List.cons_append]
    congr 3
    omega
/-- of what an edition speaks -/
def spk (e : Ed) : List Int := e.1 :: (e.2.1 ++ e.2.2)
theorem said_voices {es : List Ed} {x : Int} : ∀ (l : List Ed), (∀ e ∈ l, ∃ n, OkEd n e) → (saidL l x = some true ↔ ∃ e, (l.filter fun e => decide (x ∈ spk e)).head? = some e ∧ x ∉ e.2.2)
  | [], _ => by simp [saidL]
  | e :: l, h => by
    have ih := said_voices (es := es) (x := x) l fun e he => h e (List.mem_cons_of_mem _ he)
    obtain ⟨n, ok⟩ := h e List.mem_cons_self
    unfold saidL at ih ⊢
    rw [List.findSome?_cons, List.filter_cons]
    unfold speak spk at *
    by_cases h1 : x = e.1 ∨ x ∈ e.2.1
    · have h2 : x ∉ e.2.2 := by
        rcases h1 with h1 | h1
        · rw [h1]
          exact ok.bl
        · exact ok.tl x h1
      have h3 : x ∈ e.1 :: (e.2.1 ++ e.2.2) := by
        rcases h1 with h1 | h1 <;> simp [h1]
      simp [h1, h3, h2]
    · by_cases h2 : x ∈ e.2.2
      · have h3 : x ∈ e.1 :: (e.2.1 ++ e.2.2) := by simp [h2]
        simp [h1, h2, h3]
      · have h3 : ¬ x ∈ e.1 :: (e.2.1 ++ e.2.2) := by
          simp only [List.mem_cons, List.mem_append]
          rintro (z | z | z)
          · exact h1 (.inl z)
          · exact h1 (.inr z)
          · exact h2 z
        simp only [h1, h2, h3, if_false, decide_false, Bool.false_eq_true]
        exact ih
theorem lineF_ok {es : List Ed} (h : OkEds es) : ∀ (k : Nat) (n : Int), ∀ e ∈ lineF es k n, ∃ n, OkEd n e
  | 0, n, e, he => by cases he
  | k + 1, n, e, he => by
    unfold lineF at he
    cases ha : edAt es n with
    | none =>
      rw [ha] at he
      cases he
    | some e' =>
      rw [ha] at he
      rcases List.mem_cons.mp he with rfl | he
      · obtain ⟨_, h1, h2⟩ := edAt_atI ha
        obtain ⟨e2, h3, h4⟩ := h.at h1 h2
        rw [ha] at h3
        cases h3
        exact ⟨_, h4⟩
      · exact lineF_ok h k _ e he
namespace k01
theorem spoken_ok (e : Ed) (h : List O) (h1 : e.2.1.length ≤ 1000) (h2 : e.2.2.length ≤ 1000) : f__law_spoken [encE e] h = .ok (.tup ((spk e).map .int)) h := by
  obtain ⟨b, tk, lv⟩ := e
  simp only [] at h1 h2
  unfold f__law_spoken b__law_spoken
  have e1 : ∀ h, binV h .add (.tup [.int b]) (.tup (tk.map .int)) = some (.tup (.int b :: tk.map .int)) := fun h => add_tup _ _ h (by simp; omega)
  have e2 : ∀ h, binV h .add (.tup (.int b :: tk.map .int)) (.tup (lv.map .int)) = some (.tup (.int b :: (tk.map .int ++ lv.map .int))) := fun h => add_tup _ _ h (by simp; omega)
  simp [run_def, e1, e2, spk]
theorem lot_ok {es : List Ed} {n : Int} (h : List O) (ok : OkEds es) (h1 : 1 ≤ n) (h2 : n ≤ es.length) (h3 : es.length ≤ 10) : f__law_lot [.lst (es.map encE), .int n] h = .ok (.tup ((lotOf es n).map .int)) h := by
  obtain ⟨e0, he0, ok0⟩ := ok.at h1 h2
  obtain ⟨hix0, _, _⟩ := edAt_atI he0
  have hns : [MV.int n] = ([] : List (Int × Ed)).map (fun p => MV.int p.1) ++ [MV.int n] := rfl
  have hm0 : atI [MV.int n] (-1) = some (.int n) := atI_m1 [] _
  unfold f__law_lot b__law_lot
  simp [run_def]
  generalize hlp : whlR _ _ _ _ _ _ _ = r
  obtain ⟨⟨pre, one, e⟩, rfl, ⟨p1, p2, p3, p4, p5⟩, p6⟩ := while_ex' hlp (fun s : List (Int × Ed) × Int × Ed => [.val (.lst (es.map encE)), .val (.int n), .none, .own (.lst (s.1.map (fun p => MV.int p.1) ++ [.int s.2.1])), .own (.lst [.int n]), .none, .none])
    (fun s => 1 ≤ s.2.1 ∧ (s.1.length : Int) + s.2.1 ≤ n ∧ edAt es s.2.1 = some s.2.2 ∧ (∀ p ∈ s.1, edAt es p.1 = some p.2) ∧ s.1.map (·.2) ++ lineF es s.2.1.toNat s.2.1 = lineF es n.toNat n) (fun s => s.2.1.toNat) (fun s => decide (0 < s.2.2.1)) ([], n, e0)
    ⟨h1, by simp, he0, by simp, rfl⟩ (by simp only []; omega) rfl (by simp [hm0, hix0]) (by
    rintro ⟨pre, one, e⟩ ⟨p1, p2, p3, p4, p5⟩ hc
    simp only [decide_eq_true_eq] at hc p1 p2 p3 p4 p5
    obtain ⟨hix, _, q2⟩ := edAt_atI p3
    obtain ⟨e', he', oe⟩ := ok.at (n := one) (by omega) (by omega)
    rw [p3] at he'
    cases he'
    have b1 := oe.b1
    obtain ⟨e2, he2, oe2⟩ := ok.at (n := e.1) (by omega) (by omega)
    obtain ⟨hix2, _, _⟩ := edAt_atI he2
    have hm := atI_m1 (pre.map fun p => MV.int p.1) (.int one)
    have hm2 := atI_m1 (pre.map (fun p => MV.int p.1) ++ [.int one]) (.int e.1)
    have hz : (pre.map (fun p : Int × Ed => MV.int p.1) ++ [MV.int one]).length < 1000000 := by simp; omega
    rw [line_next ok p3] at p5
    refine ⟨(pre ++ [(one, e)], e.1, e2), [.val (.lst (es.map encE)), .val (.int n), .none, .own (.lst ((pre.map (fun p => MV.int p.1) ++ [.int one]) ++ [.int e.1])), .own (.lst [.int n]), .none, .none], ?_, by simp, ?_, ⟨by simp only []; omega, by simp; omega, he2, fun p hp => ?_, by simpa using p5⟩, by simp only []; omega⟩
    · simp [hm, hix, app_own _ _ hz, -List.append_assoc]
    · simp [hm2, hix2, -List.append_assoc]
    · rcases List.mem_append.mp hp with hp | hp
      · exact p4 p hp
      · rw [List.mem_singleton.mp hp]
        exact p3)
  simp only [decide_eq_false_iff_not] at p6 p1 p2 p3 p4 p5
  obtain ⟨_, _, q2⟩ := edAt_atI p3
  obtain ⟨e', he', oe⟩ := ok.at (n := one) (by omega) (by omega)
  rw [p3] at he'
  cases he'
  have b0 := oe.b0
  rw [line_next ok p3, show e.1 = 0 by omega] at p5
  -- the line
  obtain ⟨ln, hln, hle, hll⟩ : ∃ ln : List (Int × Ed), pre.map (fun p => MV.int p.1) ++ [.int one] = ln.map (fun p => MV.int p.1) ∧ (∀ p ∈ ln, edAt es p.1 = some p.2) ∧ ln.map (·.2) = lineF es n.toNat n := ⟨pre ++ [(one, e)], by simp, fun p hp => by
    rcases List.mem_append.mp hp with hp | hp
    · exact p4 p hp
    · rw [List.mem_singleton.mp hp]
      exact p3, by rw [← p5]; simp [lineF]⟩
  have hlz : ln.length ≤ 1000 := by
    have := congrArg List.length hln
    simp at this
    omega
  simp [hln, rng2_t 1 n (by omega)]
  generalize hlp : loopF _ _ _ _ _ _ _ = r
  have e1 := loop_fold' hlp (fun acc : List Int => [.val (.lst (es.map encE)), .val (.int n), .none, .val (.lst (ln.map fun p => MV.int p.1)), .own (.lst ((n :: acc).map .int)), .none, .none])
    (fun acc x => if (saidL (lineF es n.toNat n) x == some true) = true then acc ++ [x] else acc) (fun acc xs => acc.length + xs.length ≤ 10) [] rfl (by simp; omega) (by
      intro acc x xs hp
      simp only [List.length_cons] at hp
      have hz : ((n :: acc).map MV.int).length < 1000000 := by simp; omega
      have hlz' : ln.length ≤ 1000000 := by omega
      obtain ⟨vs, hvs⟩ : ∃ vs, (lineF es n.toNat n).filter (fun e => decide (x ∈ spk e)) = vs := ⟨_, rfl⟩
      have hvm : ((ln.filter fun p => decide (x ∈ spk p.2)).map fun p => encE p.2) = vs.map encE := by
        rw [← hvs, ← hll, List.filter_map, List.map_map]
        rfl
      have hpl : ∀ e : Ed, Pl 2 (encE e) := fun e => pl_tup fun v hv => by
        simp at hv
        rcases hv with rfl | rfl | rfl
        · exact pl_up (pl_int _) (by decide)
        · exact pl_tup fun v hv => by
            obtain ⟨x, _, rfl⟩ := List.mem_map.mp hv
            exact pl_int x
        · exact pl_tup fun v hv => by
            obtain ⟨x, _, rfl⟩ := List.mem_map.mp hv
            exact pl_int x
      have hne : ∀ h, cmpV h .ne (.lst (vs.map encE)) (.lst []) = some (!vs.isEmpty) := fun h => by
        rw [cmp_ne (snap_pl (n := 3) (pl_lst fun v hv => by
          obtain ⟨x, _, rfl⟩ := List.mem_map.mp hv
          exact hpl x) (by decide) h) (snap_pl (n := 1) (pl_lst (l := []) fun v hv => by cases hv) (by decide) h)]
        cases vs <;> rfl
      have hsv := said_voices (es := es) (x := x) (lineF es n.toNat n) (lineF_ok ok _ _)
      rw [hvs] at hsv
      have hvz : vs.length ≤ 1000000 := by
        rw [← hvs, ← hll]
        refine filt_lim ?_
        rw [List.length_map]
        omega
      refine ⟨?_, by split
                     · simp; omega
                     · omega⟩
      have happ : ∀ v, appOwn (MV.int n :: acc.map .int) v = some (.lst (MV.int n :: acc.map .int ++ [v])) := fun v => app_own _ v (by simp; omega)
      simp [stepF_]
      rw [compT_mem (p := fun p : Int × Ed => decide (x ∈ spk p.2)) (g := fun p => encE p.2) ln fun p hp => by
        obtain ⟨hix, h5, h6⟩ := edAt_atI (hle p hp)
        obtain ⟨e', he', oe'⟩ := ok.at (n := p.1) h5 h6
        rw [hle p hp] at he'
        cases he'
        have hsp := spoken_ok p.2 h (lot_len2 oe'.t (by omega) (by omega)) (lot_len2 oe'.l (by omega) (by omega))
        simp only [encE_] at hix hsp
        by_cases hxs : x ∈ spk p.2 <;> simp [hix, hsp, hxs]]
      rw [hvm]
      cases vs with
      | nil =>
        have hb : (saidL (lineF es n.toNat n) x == some true) = false := by
          rw [Bool.eq_false_iff]
          intro z
          obtain ⟨e, h7, _⟩ := hsv.mp (by simpa using z)
          cases h7
        simp at hne hb
        simp [hne, hb]
      | cons e vs =>
        simp at hne hvz
        by_cases hx : x ∈ e.2.2
        · have hb : ¬ saidL (lineF es n.toNat n) x = some true := by
            intro z
            obtain ⟨e, h7, h8⟩ := hsv.mp z
            cases h7
            exact h8 hx
          simp [hne, hvz, hb, hx]
        · have hb : saidL (lineF es n.toNat n) x = some true := hsv.mpr ⟨e, rfl, hx⟩
          simp [hne, hvz, hb, hx, happ])
  subst e1
  simp
  have hfold : ∀ (xs acc : List Int) (p : Int → Bool), xs.foldl (fun acc x => if p x = true then acc ++ [x] else acc) acc = acc ++ xs.filter p := by
    intro xs
    induction xs with
    | nil => intro acc p; simp
    | cons x xs ih =>
      intro acc p
      rw [List.foldl_cons, ih, List.filter_cons]
      cases p x <;> simp
  have hf := hfold (rngI 1 (n.toNat - 1)) [] (fun x => saidL (lineF es n.toNat n) x == some true)
  simp only [beq_iff_eq, List.nil_append] at hf
  rw [hf]
  have hs := sorted_ints (n :: (rngI 1 (n.toNat - 1)).filter fun x => saidL (lineF es n.toNat n) x == some true) h
  have hp := (rngI_rise (n.toNat - 1) 1).filter fun x => saidL (lineF es n.toNat n) x == some true
  have hl : ∀ y ∈ (rngI 1 (n.toNat - 1)).filter fun x => saidL (lineF es n.toNat n) x == some true, y < n := fun y hy => by
    have := (rngI_mem _ _ _).mp (List.mem_filter.mp hy).1
    omega
  have hsort : sortI (n :: (rngI 1 (n.toNat - 1)).filter fun x => saidL (lineF es n.toNat n) x == some true) = lotOf es n := by
    show insI n (sortI _) = _
    rw [sort_sorted _ hp, ins_last n _ hl]
    unfold lotOf
    obtain ⟨m, hm⟩ : ∃ m, n.toNat = m + 1 := ⟨n.toNat - 1, by omega⟩
    rw [hm, rngI_snoc, List.filter_append, Nat.add_sub_cancel]
    congr 1
    · refine List.filter_congr fun x hx => ?_
      have := (rngI_mem _ _ _).mp hx
      unfold saidOf
      have hne : ¬ x = n := by omega
      simp [hne, hm]
    · have : (1 : Int) + m = n := by omega
      rw [this]
      simp [saidOf]
  rw [hsort] at hs
  simp only [List.map_cons] at hs
  simp [hs]
end k01
end MP
end

section
set_option Elab.async false
set_option linter.all false
set_option maxRecDepth 100000
set_option maxHeartbeats 1000000
/-! ### R2: what is told, by own look -/
namespace MP
theorem isToldB_eq (o : Int) (st : List Int) (t : Str) (l : List Int) : (decide (o ∈ l) && decide ((st.filter fun x => decide (x ∈ l)) = [])) = isToldB (o, st, t) l := by
  unfold isToldB
  congr 1
  rw [Bool.eq_iff_iff]
  simp [List.filter_eq_nil_iff]
theorem struckOf_eq (l : List Int) : ∀ rs : List Row, struckOf rs l = (rs.filter fun r => decide (r.1 ∈ l) && !isToldB r l).map fun r => (r.2.2, r.1, r.2.1.filter fun x => decide (x ∈ l))
  | [] => rfl
  | r :: rs => by
    have ih := struckOf_eq l rs
    unfold struckOf at ih ⊢
    rw [List.filterMap_cons, ih, List.filter_cons]
    have hs : struckF l r = if (decide (r.1 ∈ l) && !isToldB r l) = true then some (r.2.2, r.1, r.2.1.filter fun x => decide (x ∈ l)) else none := by
      unfold struckF
      have : (decide (r.1 ∈ l) && !(r.2.1.filter fun x => decide (x ∈ l)).isEmpty) = (decide (r.1 ∈ l) && !isToldB r l) := by
        rw [← isToldB_eq r.1 r.2.1 r.2.2 l]
        cases decide (r.1 ∈ l) with
        | false => rfl
        | true =>
          cases r.2.1.filter fun x => decide (x ∈ l) <;> rfl
      rw [this]
    rw [hs]
    cases (decide (r.1 ∈ l) && !isToldB r l) <;> rfl
theorem eqok_B : EqOk encB := eqok_pair eqok_str eqok_int
theorem eqok_S : EqOk encS := eqok_trip eqok_str eqok_int eqok_lot
theorem pl_B {p : Str × Int} (h : okS p.1) : Pl 1 (encB p) := pl_tup fun v hv => by
  simp at hv
  rcases hv with rfl | rfl
  · exact pl_str _ h
  · exact pl_int _
theorem pl_S {p : Str × Int × List Int} (h : okS p.1) : Pl 2 (encS p) := pl_tup fun v hv => by
  simp at hv
  rcases hv with rfl | rfl | rfl
  · exact pl_up (pl_str _ h) (by decide)
  · exact pl_up (pl_int _) (by decide)
  · exact pl_lot _
namespace k01
theorem lis_told_ok (r : Row) (l : List Int) (h : List O) (hz : r.2.1.length ≤ 1000000) : f__law_is_told [encR r, .tup (l.map .int)] h = .ok (.bl (isToldB r l)) h := by
  obtain ⟨o, st, t⟩ := r
  simp only [] at hz
  have he : ∀ h, cmpV h .eq (.lst ((st.filter fun x => decide (x ∈ l)).map .int)) (.lst []) = some (decide ((st.filter fun x => decide (x ∈ l)) = [])) := fun h => LA.eq eqok_int (.lst h _) (.lst h (([] : List Int).map .int)) (fun v _ => pl_up (pl_int v) (by decide)) (fun v hv => by cases hv)
  unfold f__law_is_told b__law_is_told
  simp [run_def, hz, he, -List.filter_eq_nil_iff]
  exact isToldB_eq o st t l
theorem right_ok {h : List O} {v : MV} {es : List Ed} {rs : List Row} {l : List Int} (w : ∀ k, WvAt (h ++ k) v es rs) (ok : OkRows es.length rs) (hl : IsLot 1 es.length l) (hn : es.length ≤ 9) (hz : rs.length ≤ 200) : ∃ k, f__law_right [v, .lst (rs.map encR), .tup (l.map .int)] h = .ok (.bl true) (h ++ k) := by
  have hz1 : rs.length ≤ 1000000 := by omega
  have ht := told_t (w []) ok hl (by omega) hz1
  rw [List.append_nil] at ht
  have hb := brought_t (w [.lst ((textOf rs l).map .str)]) ok hl (by omega) hz1
  have hs := struck_t (w [.lst ((textOf rs l).map .str), .lst ((broughtOf rs l).map encB)]) ok hl (by omega) (by omega)
  have e1 : ((textOf rs l).map MV.str) = (rs.filter fun r => isToldB r l).map fun r => MV.str r.2.2 := by unfold textOf; rw [List.map_map]; rfl
  have e2 : ((broughtOf rs l).map encB) = (rs.filter fun r => isToldB r l).map fun r => MV.tup [.str r.2.2, .int r.1] := by unfold broughtOf; rw [List.map_map]; rfl
  have e3 : ((struckOf rs l).map encS) = (rs.filter fun r => decide (r.1 ∈ l) && !isToldB r l).map fun r => MV.tup [.str r.2.2, .int r.1, .tup ((r.2.1.filter fun x => decide (x ∈ l)).map .int)] := by rw [struckOf_eq, List.map_map]; rfl
  have n1 : ∀ k, cmpV (h ++ (.lst ((textOf rs l).map .str)) :: k) .ne (.ref h.length) (.lst ((textOf rs l).map .str)) = some false := fun k => by
    have := LA.ne (a := textOf rs l) (b := textOf rs l) (h := h ++ (.lst ((textOf rs l).map .str)) :: k) eqok_str (.ref (a := h.length) (by simp)) (.lst _ ((textOf rs l).map .str)) (fun v hv => ?_) (fun v hv => ?_)
    · simpa using this
    all_goals
      obtain ⟨r, hr, rfl⟩ := List.mem_map.mp hv
      exact pl_up (pl_str _ (ok.okS r (List.mem_filter.mp hr).1)) (by decide)
  have n2 : ∀ a k, cmpV (h ++ a :: (.lst ((broughtOf rs l).map encB)) :: k) .ne (.ref (h.length + 1)) (.lst ((broughtOf rs l).map encB)) = some false := fun a k => by
    have := LA.ne (a := broughtOf rs l) (b := broughtOf rs l) (h := h ++ a :: (.lst ((broughtOf rs l).map encB)) :: k) eqok_B (.ref (a := h.length + 1) (by simp)) (.lst _ ((broughtOf rs l).map encB)) (fun v hv => ?_) (fun v hv => ?_)
    · simpa using this
    all_goals
      obtain ⟨r, hr, rfl⟩ := List.mem_map.mp hv
      exact pl_up (pl_B (ok.okS r (List.mem_filter.mp hr).1)) (by decide)
  have n3 : ∀ a b k, cmpV (h ++ a :: b :: (.lst ((struckOf rs l).map encS)) :: k) .eq (.ref (h.length + 2)) (.lst ((struckOf rs l).map encS)) = some true := fun a b k => by
    have := LA.eq (a := struckOf rs l) (b := struckOf rs l) (h := h ++ a :: b :: (.lst ((struckOf rs l).map encS)) :: k) eqok_S (.ref (a := h.length + 2) (by simp)) (.lst _ ((struckOf rs l).map encS)) (fun v hv => ?_) (fun v hv => ?_)
    · simpa using this
    all_goals
      rw [struckOf_eq] at hv
      obtain ⟨r, hr, rfl⟩ := List.mem_map.mp hv
      exact pl_up (pl_S (ok.okS r (List.mem_filter.mp hr).1)) (by decide)
  rw [e1] at ht hb hs n1
  rw [e2] at hb hs n2
  rw [e3] at hs n3
  refine ⟨[.lst ((rs.filter fun r => isToldB r l).map fun r => MV.str r.2.2), .lst ((rs.filter fun r => isToldB r l).map fun r => MV.tup [.str r.2.2, .int r.1]), .lst ((rs.filter fun r => decide (r.1 ∈ l) && !isToldB r l).map fun r => MV.tup [.str r.2.2, .int r.1, .tup ((r.2.1.filter fun x => decide (x ∈ l)).map .int)])], ?_⟩
  have hit : ∀ r ∈ rs, ∀ h, f__law_is_told [encR r, .tup (l.map .int)] h = .ok (.bl (isToldB r l)) h := fun r hr h => lis_told_ok r l h (by have := okRow_len (ok r hr) (by omega); omega)
  unfold f__law_right b__law_right
  simp [run_def]
  rw [compT_mem (p := fun r : Row => isToldB r l) (g := encR) rs fun r hr => by
    have := hit r hr h
    simp only [encR_] at this
    by_cases hq : isToldB r l = true <;> simp [this, hq]]
  simp [hz1]
  rw [compT_mem (p := fun r : Row => decide (r.1 ∈ l) && !isToldB r l) (g := encR) rs fun r hr => by
    have := hit r hr h
    simp only [encR_] at this
    by_cases hq : r.1 ∈ l <;> by_cases hq2 : isToldB r l = true <;> simp [this, hq, hq2]]
  simp [hz1, ht, n1, hb, n2, hs]
  rw [compT_all (g := fun r : Row => MV.tup [.str r.2.2, .int r.1, .tup ((r.2.1.filter fun x => decide (x ∈ l)).map .int)]) _ fun r hr => by
    have := okRow_len (ok r (List.mem_filter.mp hr).1) (by omega)
    have h9 : r.2.1.length ≤ 1000000 := by omega
    simp [h9]]
  simp [hz1, n3]
end k01
end MP
end

section
set_option Elab.async false
set_option linter.all false
set_option maxRecDepth 100000
set_option maxHeartbeats 1000000
/-! ### R3: the law k01 -/
namespace MP
namespace k01
def ls0 : S := .asg (.nm 3) (.call 44 false [.var 0, .bin .add (.var 1) (.con (.int 2)), .con (.int 6), .con (.int 1000003)])
def ls1 : S := .asg (.nm 4) (.call 46 false [.var 0, .var 1, .bin .mod (.idx (.var 3) (.con (.int 0))) (.con (.int 10))])
def ls2 : S := .asg (.nm 5) (.call 48 false [.var 0, .bin .add (.var 1) (.con (.int 1)), .blt .len [.var 4], .bin .mod (.idx (.var 3) (.con (.int 1))) (.con (.int 17))])
def ls3 : S := .par [(9, false, .blt .listR [.var 4]), (10, false, .blt .listR [.var 5])]
def ls4 : S := .asg (.nm 2) (.new 6 0 false [.var 9, .var 10])
def ls5 : S := .ifs (.bop false [.cmp .ne (.var 9) (.var 4), .cmp .ne (.var 10) (.var 5), .cmp .ne (.meth 9 0 false (.var 2) []) (.var 4), .cmp .ne (.meth 10 0 false (.var 2) []) (.var 5)]) [.ret (.con (.bl false))] []
def ls6 : S := .exp (.app (.var 9) (.con (.str [120])))
def ls7 : S := .exp (.app (.var 10) (.con (.str [120])))
def ls8 : S := .for (.nm 6) .seq (.tup [.meth 9 0 false (.var 2) [], .meth 10 0 false (.var 2) [], .call 18 false [.var 2, .tup []], .call 19 false [.var 2, .tup []], .call 20 false [.var 2, .tup []]]) (.con .non) [6] [.exp (.app (.var 6) (.con (.str [120])))]
def ls9 : S := .ifs (.bop false [.cmp .ne (.olen 7 0 (.var 2)) (.blt .len [.var 4]), .oeq true 8 0 (.var 2) (.new 6 0 false [.var 4, .var 5])]) [.ret (.con (.bl false))] []
def ls10 : S := .ifs (.bop true [.cmp .lt (.blt .len [.var 4]) (.con (.int 9)), .oeq false 8 0 (.var 2) (.new 6 0 false [.bin .add (.var 4) (.lst [.tup [.con (.int 0), .tup [], .tup []]]), .var 5])]) [.ret (.con (.bl false))] []
def ls11 : S := .ifs (.bop true [.oeq false 8 0 (.var 2) (.new 6 0 false [.var 4, .slc .lo (.var 5) (.con (.int 1)) (.con .non)]), .cmp .ne (.var 5) (.lst [])]) [.ret (.con (.bl false))] []
def ls12 : S := .asg (.nm 7) (.comp false (.call 50 false [.var 4, .bin .add (.var 11) (.con (.int 1))]) (.nm 11) [11] .rng1 (.blt .len [.var 4]) (.con .non) [])
def ls13 : S := .ifs (.cmp .ne (.comp false (.call 16 false [.var 2, .bin .add (.var 11) (.con (.int 1))]) (.nm 11) [11] .rng1 (.blt .len [.var 4]) (.con .non) []) (.var 7)) [.ret (.con (.bl false))] []
def ls14 : S := .for (.nm 8) .seq (.bin .add (.bin .add (.var 7) (.comp false (.call 45 false [.var 13, .blt .len [.var 4]]) (.nm 13) [13] .seq (.var 3) (.con .non) [])) (.lst [.tup []])) (.con .non) [8] [.ifs (.not (.call 52 false [.var 2, .var 5, .var 8])) [.ret (.con (.bl false))] []]
def lB : List S := [ls0, ls1, ls2, ls3, ls4, ls5, ls6, ls7, ls8, ls9, ls10, ls11, ls12, ls13, ls14]
def st14 (ns : List Int) (by_ : SV) (wv dg es rs : SV) (lots hd gv : SV) : List SV := [.val (.lst (ns.map .int)), by_, wv, dg, es, rs, .none, lots, .none, hd, gv, .none, .none, .none]
abbrev ED (es : List Ed) : MV := .lst (es.map encE)
abbrev RW (rs : List Row) : MV := .lst (rs.map encR)
theorem s0_ok (ns : List Int) (x : Int) (h : List O) (hx : 0 ≤ x) : ∃ d0 d1 d2 d3 d4 d5 : Int, exS F53 ls0 (st14 ns (.val (.int x)) .none .none .none .none .none .none .none) h = .nx (st14 ns (.val (.int x)) .none (.val (.lst [.int d0, .int d1, .int d2, .int d3, .int d4, .int d5])) .none .none .none .none .none) h ∧ (0 ≤ d0 ∧ 0 ≤ d1) ∧ 0 ≤ d2 ∧ 0 ≤ d3 ∧ 0 ≤ d4 ∧ 0 ≤ d5 := by
  obtain ⟨l, h1, h2, h3⟩ := digits_ok ns (x + 2) 6 1000003 h (by omega) (by decide) (by decide) (by decide) (by decide)
  match l, h2 with
  | [d0, d1, d2, d3, d4, d5], _ =>
    simp at h1 h3
    exact ⟨d0, d1, d2, d3, d4, d5, by unfold ls0 st14; simp [h1], ⟨h3.1.1, h3.2.1.1⟩, h3.2.2.1.1, h3.2.2.2.1.1, h3.2.2.2.2.1.1, h3.2.2.2.2.2.1⟩
section
variable (ns : List Int) (x d0 d1 d2 d3 d4 d5 : Int)
abbrev DG (d0 d1 d2 d3 d4 d5 : Int) : SV := .val (.lst [.int d0, .int d1, .int d2, .int d3, .int d4, .int d5])
theorem s1_ok (h : List O) (hx : 0 ≤ x) (hd : 0 ≤ d0) : ∃ es : List Ed, exS F53 ls1 (st14 ns (.val (.int x)) .none (DG d0 d1 d2 d3 d4 d5) .none .none .none .none .none) h = .nx (st14 ns (.val (.int x)) .none (DG d0 d1 d2 d3 d4 d5) (.val (ED es)) .none .none .none .none) h ∧ es.length ≤ 9 ∧ OkEds es := by
  obtain ⟨es, h1, h2, h3⟩ := editions_ok ns x (d0 % 10) h hx (Int.emod_nonneg _ (by decide)) (by have := Int.emod_lt_of_pos d0 (show (0 : Int) < 10 by decide); omega)
  exact ⟨es, by unfold ls1 st14 DG; simp [h1, mod_i], by have := Int.emod_lt_of_pos d0 (show (0 : Int) < 10 by decide); omega, h3⟩
theorem s2_ok (h : List O) (es : List Ed) (hx : 0 ≤ x) (hd : 0 ≤ d1) (hn : es.length ≤ 9) : ∃ rs : List Row, exS F53 ls2 (st14 ns (.val (.int x)) .none (DG d0 d1 d2 d3 d4 d5) (.val (ED es)) .none .none .none .none) h = .nx (st14 ns (.val (.int x)) .none (DG d0 d1 d2 d3 d4 d5) (.val (ED es)) (.val (RW rs)) .none .none .none) h ∧ rs.length ≤ 16 ∧ OkRows es.length rs := by
  have hm := Int.emod_lt_of_pos d1 (show (0 : Int) < 17 by decide)
  have hm0 := Int.emod_nonneg d1 (show (17 : Int) ≠ 0 by decide)
  obtain ⟨rs, h1, h2, h3⟩ := rows_ok ns (x + 1) es.length (d1 % 17) h (by omega) (by omega) (by omega) hm0 (by omega)
  exact ⟨rs, by unfold ls2 st14 DG; simp [h1, mod_i], by split at h2 <;> omega, fun r hr => (h3 r hr).1⟩
theorem s3_ok (h : List O) (es : List Ed) (rs : List Row) : exS F53 ls3 (st14 ns (.val (.int x)) .none (DG d0 d1 d2 d3 d4 d5) (.val (ED es)) (.val (RW rs)) .none .none .none) h = .nx (st14 ns (.val (.int x)) .none (DG d0 d1 d2 d3 d4 d5) (.val (ED es)) (.val (RW rs)) .none (.val (.ref h.length)) (.val (.ref (h.length + 1)))) (h ++ [.lst (es.map encE), .lst (rs.map encR)]) := by
  unfold ls3 st14
  simp
theorem s4_ok (h : List O) (es : List Ed) (rs : List Row) (he : OkEds es) (hr : OkRows es.length rs) (hn : es.length ≤ 9) (hm : rs.length ≤ 16) : exS F53 ls4 (st14 ns (.val (.int x)) .none (DG d0 d1 d2 d3 d4 d5) (.val (ED es)) (.val (RW rs)) .none (.val (.ref h.length)) (.val (.ref (h.length + 1)))) (h ++ [.lst (es.map encE), .lst (rs.map encR)]) = .nx (st14 ns (.val (.int x)) (.val (.ref (h.length + 2))) (DG d0 d1 d2 d3 d4 d5) (.val (ED es)) (.val (RW rs)) .none (.val (.ref h.length)) (.val (.ref (h.length + 1)))) (h ++ [.lst (es.map encE), .lst (rs.map encR), wvO es rs]) := by
  have := new_ok (h := h ++ [.lst (es.map encE), .lst (rs.map encR)]) (x := .ref h.length) (y := .ref (h.length + 1)) (es := es) (rs := rs) (.ref (by simp)) (.ref (by simp)) he hr hn (by omega)
  simp at this
  unfold ls4 st14
  simp [this]
theorem s5_ok {h : List O} {v v9 v10 : MV} {es : List Ed} {rs : List Row} (w : WvAt h v es rs) (l9 : LA h v9 (es.map encE)) (l10 : LA h v10 (rs.map encR)) (hr : OkRows es.length rs) :
    exS F53 ls5 (st14 ns (.val (.int x)) (.val v) (DG d0 d1 d2 d3 d4 d5) (.val (ED es)) (.val (RW rs)) .none (.val v9) (.val v10)) h = .nx (st14 ns (.val (.int x)) (.val v) (DG d0 d1 d2 d3 d4 d5) (.val (ED es)) (.val (RW rs)) .none (.val v9) (.val v10)) (h ++ [.lst (es.map encE), .lst (rs.map encR)]) := by
  have pe : ∀ e ∈ es, Pl 5 (encE e) := fun e _ => pl_up (pl_E e) (by decide)
  have pr : ∀ e ∈ rs, Pl 5 (encR e) := fun e he => pl_up (pl_R (hr.okS e he)) (by decide)
  have h1 := LA.ne eqok_E l9 (.lst h (es.map encE)) pe pe
  have h2 := LA.ne eqok_R l10 (.lst h (rs.map encR)) pr pr
  have h3 := LA.ne (h := h ++ [.lst (es.map encE)]) (x := .ref h.length) eqok_E (.ref (by simp)) (.lst _ (es.map encE)) pe pe
  have h4 := LA.ne (h := h ++ [.lst (es.map encE), .lst (rs.map encR)]) (x := .ref (h.length + 1)) eqok_R (.ref (by simp)) (.lst _ (rs.map encR)) pr pr
  have h5 := editions_m w
  have h6 := rows_m (w.mono (k := [.lst (es.map encE)]))
  simp at h1 h2 h3 h4 h6
  unfold ls5 st14
  simp [h1, h2, h3, h4, h5, h6, w.c, (w.mono (k := [.lst (es.map encE)])).c]
theorem s67_ok (h k : List O) (v v9 v10 : SV) (es : List Ed) (rs : List Row) (hn : es.length ≤ 9) (hm : rs.length ≤ 16) : exL F53 [ls6, ls7] (st14 ns (.val (.int x)) v (DG d0 d1 d2 d3 d4 d5) (.val (ED es)) (.val (RW rs)) .none (.val (.ref h.length)) (.val (.ref (h.length + 1)))) (h ++ .lst (es.map encE) :: .lst (rs.map encR) :: k) = .nx (st14 ns (.val (.int x)) v (DG d0 d1 d2 d3 d4 d5) (.val (ED es)) (.val (RW rs)) .none (.val (.ref h.length)) (.val (.ref (h.length + 1)))) (h ++ .lst (es.map encE ++ [.str [120]]) :: .lst (rs.map encR ++ [.str [120]]) :: k) := by
  have h1 : es.length < 1000000 := by omega
  have h2 : rs.length < 1000000 := by omega
  unfold ls6 ls7 st14
  simp [h1, h2]
theorem s8_ok {h : List O} {v : MV} {v9 v10 : SV} {es : List Ed} {rs : List Row} (w : WvAt h v es rs) (hr : OkRows es.length rs) (hn : es.length ≤ 9) (hm : rs.length ≤ 16) : ∃ k,
    exS F53 ls8 (st14 ns (.val (.int x)) (.val v) (DG d0 d1 d2 d3 d4 d5) (.val (ED es)) (.val (RW rs)) .none v9 v10) h = .nx (st14 ns (.val (.int x)) (.val v) (DG d0 d1 d2 d3 d4 d5) (.val (ED es)) (.val (RW rs)) .none v9 v10) (h ++ k) := by
  have h5 := editions_m w
  have h6 := rows_m (w.mono (k := [.lst (es.map encE)]))
  have h7 := told_t (l := []) (w.mono (k := [.lst (es.map encE), .lst (rs.map encR)])) hr (isLot_nil _ _) (by omega) (by omega)
  have h8 := brought_t (l := []) (w.mono (k := [.lst (es.map encE), .lst (rs.map encR), .lst ((textOf rs []).map .str)])) hr (isLot_nil _ _) (by omega) (by omega)
  have h9 := struck_t (l := []) (w.mono (k := [.lst (es.map encE), .lst (rs.map encR), .lst ((textOf rs []).map .str), .lst ((broughtOf rs []).map encB)])) hr (isLot_nil _ _) (by omega) (by omega)
  simp at h6 h7 h8 h9
  have e1 : es.length < 1000000 := by omega
  have e2 : rs.length < 1000000 := by omega
  have e3 : (textOf rs []).length < 1000000 := by
    unfold textOf
    rw [List.length_map]
    have := List.length_filter_le (fun r => isToldB r []) rs
    omega
  have e4 : (broughtOf rs []).length < 1000000 := by
    unfold broughtOf
    rw [List.length_map]
    have := List.length_filter_le (fun r => isToldB r []) rs
    omega
  have e5 : (struckOf rs []).length < 1000000 := by
    unfold struckOf
    have := List.length_filterMap_le (struckF []) rs
    omega
  unfold ls8 st14
  simp [h5, h6, h7, h8, h9, w.c, (w.mono (k := [.lst (es.map encE)])).c, stepF_, e1, e2, e3, e4, e5]
theorem s9_ok {h : List O} {v : MV} {v9 v10 : SV} {es : List Ed} {rs : List Row} (w : WvAt h v es rs) (he : OkEds es) (hr : OkRows es.length rs) (hn : es.length ≤ 9) (hm : rs.length ≤ 16) :
    exS F53 ls9 (st14 ns (.val (.int x)) (.val v) (DG d0 d1 d2 d3 d4 d5) (.val (ED es)) (.val (RW rs)) .none v9 v10) h = .nx (st14 ns (.val (.int x)) (.val v) (DG d0 d1 d2 d3 d4 d5) (.val (ED es)) (.val (RW rs)) .none v9 v10) (h ++ [wvO es rs]) := by
  have h1 := olen_ok w (by omega)
  have h2 := new_ok (.lst h (es.map encE)) (.lst h (rs.map encR)) he hr hn (by omega)
  have h3 := oeq_ok true (w.mono (k := [wvO es rs])) (.top h [] es rs) hr.okS hr.okS
  simp at h3
  unfold ls9 st14
  simp [h1, h2, h3]
theorem okE0 (n : Int) (hn : 1 ≤ n) : OkEd n (0, [], []) := ⟨by simp, by simp; omega, isLot_nil _ _, isLot_nil _ _, by simp, by simp, by simp⟩
theorem _root_.MP.OkRows.up {n m : Int} {rs : List Row} (h : OkRows n rs) (hm : n ≤ m) : OkRows m rs := fun r hr => by
  have := h r hr
  exact ⟨this.o0, by have := this.o1; omega, ⟨this.s.1, fun x hx => by have := this.s.2 x hx; omega⟩, this.t⟩
theorem s10_ok {h : List O} {v : MV} {v9 v10 : SV} {es : List Ed} {rs : List Row} (w : WvAt h v es rs) (he : OkEds es) (hr : OkRows es.length rs) (hn : es.length ≤ 9) (hm : rs.length ≤ 16) : ∃ k,
    exS F53 ls10 (st14 ns (.val (.int x)) (.val v) (DG d0 d1 d2 d3 d4 d5) (.val (ED es)) (.val (RW rs)) .none v9 v10) h = .nx (st14 ns (.val (.int x)) (.val v) (DG d0 d1 d2 d3 d4 d5) (.val (ED es)) (.val (RW rs)) .none v9 v10) (h ++ k) := by
  by_cases hl : es.length < 9
  · have hl' : (es.length : Int) < 9 := by omega
    have h2 := new_ok (h := h) (x := .lst (es.map encE ++ [encE (0, [], [])])) (es := es ++ [(0, [], [])]) (.inl (by simp)) (.lst h (rs.map encR)) (he.snoc (okE0 _ (by omega))) (hr.up (by simp; omega)) (by simp; omega) (by omega)
    have h3 := oeq_ok false (w.mono (k := [wvO (es ++ [(0, [], [])]) rs])) (.top h [] (es ++ [(0, [], [])]) rs) hr.okS hr.okS
    have h4 := add_lst (es.map encE) [encE (0, [], [])] h (by simp; omega)
    simp at h2 h3 h4
    refine ⟨[wvO (es ++ [(0, [], [])]) rs], ?_⟩
    unfold ls10 st14
    simp [h2, h3, h4, hl']
  · have hl' : ¬ (es.length : Int) < 9 := by omega
    refine ⟨[], ?_⟩
    unfold ls10 st14
    simp [hl']
theorem s11_ok {h : List O} {v : MV} {v9 v10 : SV} {es : List Ed} {rs : List Row} (w : WvAt h v es rs) (he : OkEds es) (hr : OkRows es.length rs) (hn : es.length ≤ 9) (hm : rs.length ≤ 16) : ∃ k,
    exS F53 ls11 (st14 ns (.val (.int x)) (.val v) (DG d0 d1 d2 d3 d4 d5) (.val (ED es)) (.val (RW rs)) .none v9 v10) h = .nx (st14 ns (.val (.int x)) (.val v) (DG d0 d1 d2 d3 d4 d5) (.val (ED es)) (.val (RW rs)) .none v9 v10) (h ++ k) := by
  have hr' : OkRows es.length (rs.drop 1) := fun r hx => hr r (List.mem_of_mem_drop hx)
  have h2 := new_ok (h := h) (y := .lst (cut (rs.map encR) (some 1) none)) (rs := rs.drop 1) (.lst h (es.map encE)) (.inl (by simp)) he hr' hn (by simp; omega)
  have h3 := oeq_ok false (w.mono (k := [wvO es (rs.drop 1)])) (.top h [] es (rs.drop 1)) hr.okS hr'.okS
  have h5 := LA.ne (h := h ++ [wvO es (rs.drop 1)]) eqok_R (.lst _ (rs.map encR)) (.lst _ (([] : List Row).map encR)) (fun e he => pl_up (pl_R (hr.okS e he)) (by decide)) (fun e he => by cases he)
  refine ⟨[wvO es (rs.drop 1)], ?_⟩
  unfold ls11 st14
  simp at h2 h3 h5
  cases rs with
  | nil =>
    simp at h2 h3 h5
    simp [h2, h3, h5, RW]
  | cons r rs =>
    have hne : ¬ r :: rs = rs := fun z => by
      have := congrArg List.length z
      simp at this
    simp [hne] at h2 h3 h5
    simp [h2, h3, h5, RW]
def lotsL (es : List Ed) : List (List Int) := (rngI 0 es.length).map fun i => lotOf es (i + 1)
abbrev encL (l : List Int) : MV := .tup (l.map .int)
theorem lotOf_lot {es : List Ed} {n : Int} (h1 : n ≤ es.length) : IsLot 1 es.length (lotOf es n) := ⟨(rngI_rise _ _).filter _, fun x hx => by
  have := (rngI_mem _ _ _).mp (List.mem_filter.mp hx).1
  omega⟩
theorem lotsL_map (es : List Ed) : (lotsL es).map encL = (rngI 0 es.length).map fun i => MV.tup ((lotOf es (i + 1)).map .int) := by
  unfold lotsL
  rw [List.map_map]
  rfl
theorem s12_ok (h : List O) (v v9 v10 : SV) {es : List Ed} (rs : List Row) (he : OkEds es) (hn : es.length ≤ 9) :
    exS F53 ls12 (st14 ns (.val (.int x)) v (DG d0 d1 d2 d3 d4 d5) (.val (ED es)) (.val (RW rs)) .none v9 v10) h = .nx (st14 ns (.val (.int x)) v (DG d0 d1 d2 d3 d4 d5) (.val (ED es)) (.val (RW rs)) (.val (.lst ((lotsL es).map encL))) v9 v10) h := by
  rw [lotsL_map]
  have hz : es.length ≤ 1000000 := by omega
  unfold ls12 st14
  simp [rng1_t es.length (by omega)]
  rw [compT_all (g := fun i : Int => MV.tup ((lotOf es (i + 1)).map .int)) _ fun i hi => by
    have := (rngI_mem _ _ _).mp hi
    simp [lot_ok h he (n := i + 1) (by omega) (by omega) (by omega)]]
  simp [hz]
theorem pl_L (l : List Int) : Pl 5 (encL l) := pl_up (pl_lot l) (by decide)
theorem s13_ok {h : List O} {v : MV} (v9 v10 : SV) {es : List Ed} {rs : List Row} (w : WvAt h v es rs) (he : OkEds es) (hn : es.length ≤ 9) :
    exS F53 ls13 (st14 ns (.val (.int x)) (.val v) (DG d0 d1 d2 d3 d4 d5) (.val (ED es)) (.val (RW rs)) (.val (.lst ((lotsL es).map encL))) v9 v10) h = .nx (st14 ns (.val (.int x)) (.val v) (DG d0 d1 d2 d3 d4 d5) (.val (ED es)) (.val (RW rs)) (.val (.lst ((lotsL es).map encL))) v9 v10) h := by
  have hne := LA.ne (h := h) eqok_lot (.lst _ ((lotsL es).map encL)) (.lst _ ((lotsL es).map encL)) (fun l _ => pl_L l) (fun l _ => pl_L l)
  have hz : es.length ≤ 1000000 := by omega
  unfold ls13 st14
  simp [rng1_t es.length (by omega)]
  rw [compT_all (g := fun i : Int => MV.tup ((lotOf es (i + 1)).map .int)) _ fun i hi => by
    have := (rngI_mem _ _ _).mp hi
    simp [lot_of_t w he (n := i + 1) (by omega) (by omega) (by omega)]]
  rw [lotsL_map] at hne ⊢
  simp at hne
  simp [hz, hne]
theorem s14_ok {h : List O} {v : MV} (v9 v10 : SV) {es : List Ed} {rs : List Row} (w : WvAt h v es rs) (he : OkEds es) (hr : OkRows es.length rs) (hn : es.length ≤ 9) (hm : rs.length ≤ 16) (hd : (0 ≤ d0 ∧ 0 ≤ d1) ∧ 0 ≤ d2 ∧ 0 ≤ d3 ∧ 0 ≤ d4 ∧ 0 ≤ d5) : ∃ k,
    exS F53 ls14 (st14 ns (.val (.int x)) (.val v) (DG d0 d1 d2 d3 d4 d5) (.val (ED es)) (.val (RW rs)) (.val (.lst ((lotsL es).map encL))) v9 v10) h = .nx (st14 ns (.val (.int x)) (.val v) (DG d0 d1 d2 d3 d4 d5) (.val (ED es)) (.val (RW rs)) (.val (.lst ((lotsL es).map encL))) v9 v10) (h ++ k) := by
  obtain ⟨⟨hd0, hd1⟩, hd2, hd3, hd4, hd5⟩ := hd
  obtain ⟨m0, e0, i0⟩ := some_ok d0 es.length h hd0 (by omega) (by omega)
  obtain ⟨m1, e1, i1⟩ := some_ok d1 es.length h hd1 (by omega) (by omega)
  obtain ⟨m2, e2, i2⟩ := some_ok d2 es.length h hd2 (by omega) (by omega)
  obtain ⟨m3, e3, i3⟩ := some_ok d3 es.length h hd3 (by omega) (by omega)
  obtain ⟨m4, e4, i4⟩ := some_ok d4 es.length h hd4 (by omega) (by omega)
  obtain ⟨m5, e5, i5⟩ := some_ok d5 es.length h hd5 (by omega) (by omega)
  obtain ⟨l0, hl0⟩ : ∃ l0, lotsL es = l0 := ⟨_, rfl⟩
  obtain ⟨l1, hl1⟩ : ∃ l1, l0 ++ [m0, m1, m2, m3, m4, m5] = l1 := ⟨_, rfl⟩
  obtain ⟨ls, hls⟩ : ∃ ls, l1 ++ [[]] = ls := ⟨_, rfl⟩
  have hlz : l0.length ≤ 9 := by
    rw [← hl0]
    unfold lotsL
    simpa using hn
  have a1 : ∀ h, binV h .add (.lst (l0.map encL)) (.lst [encL m0, encL m1, encL m2, encL m3, encL m4, encL m5]) = some (.lst (l1.map encL)) := fun h => by
    rw [add_lst _ _ h (by simp; omega), ← hl1, List.map_append]
    rfl
  have a2 : ∀ h, binV h .add (.lst (l1.map encL)) (.lst [.tup []]) = some (.lst (ls.map encL)) := fun h => by
    rw [add_lst _ _ h (by rw [← hl1]; simp; omega), ← hls, List.map_append]
    rfl
  have hlot : ∀ l ∈ ls, IsLot 1 es.length l := fun l hl => by
    rw [← hls, ← hl1, ← hl0] at hl
    rcases List.mem_append.mp hl with hl | hl
    · rcases List.mem_append.mp hl with hl | hl
      · obtain ⟨i, hi, rfl⟩ := List.mem_map.mp hl
        have := (rngI_mem _ _ _).mp hi
        exact lotOf_lot (by omega)
      · simp at hl
        rcases hl with rfl | rfl | rfl | rfl | rfl | rfl <;> assumption
    · rw [List.mem_singleton.mp hl]
      exact isLot_nil _ _
  rw [hl0]
  unfold ls14 st14 DG
  simp [e0, e1, e2, e3, e4, e5, a1, a2]
  generalize hlp : loopF _ _ _ _ _ _ _ = r
  obtain ⟨k, rfl, _⟩ := loop_exH' hlp (fun _ : List O => [.val (.lst (ns.map .int)), .val (.int x), .val v, .val (.lst [.int d0, .int d1, .int d2, .int d3, .int d4, .int d5]), .val (ED es), .val (RW rs), .none, .val (.lst (l0.map encL)), .none, v9, v10, .none, .none, .none]) (fun k => h ++ k)
    (fun _ xs => ∀ l ∈ xs, l ∈ ls) [] rfl (by simp) (fun l hl => hl) (by
      intro k l xs hl
      obtain ⟨k', e⟩ := right_ok (h := h ++ k) (v := v) (fun k' => by rw [List.append_assoc]; exact w.mono) hr (hlot l (hl l List.mem_cons_self)) hn (by omega)
      refine ⟨k ++ k', ?_, fun m hm => hl m (List.mem_cons_of_mem _ hm)⟩
      simp [stepF_, e])
  exact ⟨k, by simp⟩
end
end k01
end MP
end

section
set_option Elab.async false
set_option linter.all false
set_option maxRecDepth 100000
set_option maxHeartbeats 1000000
/-! ### R4: the law k01, whole -/
namespace MP
theorem exL_step {Fs : List Fn} {s : S} {ss : List S} {rho rho' : List SV} {h h' : List O} (e : exS Fs s rho h = .nx rho' h') : exL Fs (s :: ss) rho h = exL Fs ss rho' h' := by
  rw [exL_cons, e, seq_nx]
theorem exL_app (Fs : List Fn) : ∀ (l m : List S) (rho : List SV) (h : List O), exL Fs (l ++ m) rho h = (exL Fs l rho h).seq fun r h1 => exL Fs m r h1
  | [], m, rho, h => rfl
  | s :: ss, m, rho, h => by
    have ih := exL_app Fs ss m
    rw [List.cons_append, exL_cons, exL_cons]
    cases exS Fs s rho h with
    | nx r h1 => exact ih r h1
    | _ => rfl
/-- whether an edition is as it ought to be -/
def okEB (n : Int) (e : Ed) : Bool := decide (0 ≤ e.1) && decide (e.1 ≤ n - 1) && isLotB e.2.1 1 (n - 1) && isLotB e.2.2 1 (n - 1) && !decide (e.1 ∈ e.2.1) && !decide (e.1 ∈ e.2.2) && e.2.1.all fun x => !decide (x ∈ e.2.2)
theorem okEB_ok {n : Int} {e : Ed} (h : okEB n e = true) : OkEd n e := by
  unfold okEB at h
  simp only [Bool.and_eq_true, decide_eq_true_eq, Bool.not_eq_true', decide_eq_false_iff_not, List.all_eq_true] at h
  obtain ⟨⟨⟨⟨⟨⟨h1, h2⟩, h3⟩, h4⟩, h5⟩, h6⟩, h7⟩ := h
  exact ⟨h1, h2, (isLotB_iff _ _ _).mp h3, (isLotB_iff _ _ _).mp h4, h5, h6, h7⟩
def okEsB (es : List Ed) : Bool := (es.zipIdx.all fun p => okEB (p.2 + 1) p.1)
theorem okEsB_ok {es : List Ed} (h : okEsB es = true) : OkEds es := fun i e he => okEB_ok (by
  unfold okEsB at h
  refine List.all_eq_true.mp h (e, i) ?_
  rw [List.mem_iff_getElem?]
  refine ⟨i, ?_⟩
  rw [List.getElem?_zipIdx, he]
  simp)
namespace k01
theorem body_ok (ns : List Int) (x : Int) (h : List O) (hx : 0 ≤ x) : ∃ k, stepF F53 (.nm 1) [1, 3, 4, 5, 9, 10, 2, 6, 7, 8] lB (.int x) (st14 ns .none .none .none .none .none .none .none .none) h = .nx (st14 ns .none .none .none .none .none .none .none .none) (h ++ k) := by
  obtain ⟨d0, d1, d2, d3, d4, d5, e0, hd⟩ := s0_ok ns x h hx
  obtain ⟨es, e1, hn, he⟩ := s1_ok ns x d0 d1 d2 d3 d4 d5 h hx hd.1.1
  obtain ⟨rs, e2, hm, hr⟩ := s2_ok ns x d0 d1 d2 d3 d4 d5 h es hx hd.1.2 hn
  have e3 := s3_ok ns x d0 d1 d2 d3 d4 d5 h es rs
  have e4 := s4_ok ns x d0 d1 d2 d3 d4 d5 h es rs he hr hn hm
  have w0 : WvAt (h ++ [.lst (es.map encE), .lst (rs.map encR), wvO es rs]) (.ref (h.length + 2)) es rs := .at (by simp)
  have e5 := s5_ok ns x d0 d1 d2 d3 d4 d5 w0 (.ref (a := h.length) (by simp)) (.ref (a := h.length + 1) (by simp)) hr
  have e67 := s67_ok ns x d0 d1 d2 d3 d4 d5 h (wvO es rs :: [.lst (es.map encE), .lst (rs.map encR)]) (.val (.ref (h.length + 2))) .none .none es rs hn hm
  obtain ⟨h7, hh7⟩ : ∃ h7, h ++ .lst (es.map encE ++ [.str [120]]) :: .lst (rs.map encR ++ [.str [120]]) :: wvO es rs :: [.lst (es.map encE), .lst (rs.map encR)] = h7 := ⟨_, rfl⟩
  have w7 : WvAt h7 (.ref (h.length + 2)) es rs := .at (by rw [← hh7]; simp)
  rw [hh7] at e67
  obtain ⟨k8, e8⟩ := s8_ok ns x d0 d1 d2 d3 d4 d5 (v9 := .val (.ref h.length)) (v10 := .val (.ref (h.length + 1))) w7 hr hn hm
  have w8 := w7.mono (k := k8)
  have e9 := s9_ok ns x d0 d1 d2 d3 d4 d5 (v9 := .val (.ref h.length)) (v10 := .val (.ref (h.length + 1))) w8 he hr hn hm
  have w9 := w8.mono (k := [wvO es rs])
  obtain ⟨k10, e10⟩ := s10_ok ns x d0 d1 d2 d3 d4 d5 (v9 := .val (.ref h.length)) (v10 := .val (.ref (h.length + 1))) w9 he hr hn hm
  have w10 := w9.mono (k := k10)
  obtain ⟨k11, e11⟩ := s11_ok ns x d0 d1 d2 d3 d4 d5 (v9 := .val (.ref h.length)) (v10 := .val (.ref (h.length + 1))) w10 he hr hn hm
  have w11 := w10.mono (k := k11)
  have e12 := s12_ok ns x d0 d1 d2 d3 d4 d5 (h7 ++ k8 ++ [wvO es rs] ++ k10 ++ k11) (.val (.ref (h.length + 2))) (.val (.ref h.length)) (.val (.ref (h.length + 1))) rs he hn
  have e13 := s13_ok ns x d0 d1 d2 d3 d4 d5 (.val (.ref h.length)) (.val (.ref (h.length + 1))) w11 he hn
  obtain ⟨k14, e14⟩ := s14_ok ns x d0 d1 d2 d3 d4 d5 (.val (.ref h.length)) (.val (.ref (h.length + 1))) w11 he hr hn hm hd
  have hset : setT (.nm 1) (.int x) (st14 ns .none .none .none .none .none .none .none .none) = some (st14 ns (.val (.int x)) .none .none .none .none .none .none .none) := rfl
  have e5' : exS F53 ls5 (st14 ns (.val (.int x)) (.val (.ref (h.length + 2))) (DG d0 d1 d2 d3 d4 d5) (.val (ED es)) (.val (RW rs)) .none (.val (.ref h.length)) (.val (.ref (h.length + 1)))) (h ++ [.lst (es.map encE), .lst (rs.map encR), wvO es rs]) = .nx (st14 ns (.val (.int x)) (.val (.ref (h.length + 2))) (DG d0 d1 d2 d3 d4 d5) (.val (ED es)) (.val (RW rs)) .none (.val (.ref h.length)) (.val (.ref (h.length + 1)))) (h ++ .lst (es.map encE) :: .lst (rs.map encR) :: wvO es rs :: [.lst (es.map encE), .lst (rs.map encR)]) := by
    rw [e5, List.append_assoc]
    rfl
  refine ⟨.lst (es.map encE ++ [.str [120]]) :: .lst (rs.map encR ++ [.str [120]]) :: wvO es rs :: .lst (es.map encE) :: .lst (rs.map encR) :: (k8 ++ [wvO es rs] ++ k10 ++ k11 ++ k14), ?_⟩
  rw [stepF_, hset, ofO_some]
  have hl : lB = ls0 :: ls1 :: ls2 :: ls3 :: ls4 :: ls5 :: ([ls6, ls7] ++ [ls8, ls9, ls10, ls11, ls12, ls13, ls14]) := rfl
  rw [hl, exL_step e0, exL_step e1, exL_step e2, exL_step e3, exL_step e4, exL_step e5', exL_app, e67, seq_nx, exL_step e8, exL_step e9, exL_step e10, exL_step e11, exL_step e12, exL_step e13, exL_step e14, exL_nil, wipeN_nx, ← hh7]
  have hw : ∀ v1 v2 v3 v4 v5 v6 v7 v8 : SV, wipe (st14 ns v1 v2 v3 v4 v5 v6 v7 v8) [1, 3, 4, 5, 9, 10, 2, 6, 7, 8] = st14 ns .none .none .none .none .none .none .none .none := fun _ _ _ _ _ _ _ _ => rfl
  rw [hw]
  simp
def endE : List Ed := [(0, [], []), (1, [], []), (1, [2], []), (3, [], [2]), (4, [2], [1])]
theorem endE_ok : OkEds endE := okEsB_ok (by decide)
theorem endR_ok : OkRows (endE.length : Int) [((2 : Int), ([] : List Int), ([120] : Str))] := fun r hr => by
  rw [List.mem_singleton.mp hr]
  exact ⟨by decide, by decide, isLot_nil _ _, by decide, by decide, rfl⟩
theorem law_ok (ns : List Int) (hns : ns.length ≤ 63) : ∃ hp, f_law [.rol (ns.map .int)] [] = .ok (.bl true) hp := by
  have hbl : b_law = .asg (.nm 0) (.slc .hi (.var 0) (.con .non) (.con (.int 63))) :: .for (.nm 1) .rng1 (.blt .max [.con (.int 1), .blt .min [.con (.int 10), .blt .len [.var 0]]]) (.con .non) [1, 3, 4, 5, 9, 10, 2, 6, 7, 8] lB :: b_law.drop 2 := rfl
  have hcut : (ns.map MV.int).take 63 = ns.map MV.int := List.take_of_length_le (by rw [List.length_map]; exact hns)
  have hm : ∃ m : Int, (if (if (ns.length : Int) < 10 then (ns.length : Int) else 10) > 1 then (if (ns.length : Int) < 10 then (ns.length : Int) else 10) else 1) = m ∧ 0 ≤ m ∧ m ≤ 10 := ⟨_, rfl, by split <;> split <;> omega, by split <;> split <;> omega⟩
  obtain ⟨m, hm, hm0, hm1⟩ := hm
  unfold f_law
  rw [hbl]
  simp only [gt_iff_lt] at hm
  simp [run_def, hcut, hm, rng1_t m (by omega)]
  generalize hlp : loopF _ _ _ _ _ _ _ = r
  obtain ⟨h1, rfl, _⟩ := loop_exH' hlp (fun _ : List O => st14 ns .none .none .none .none .none .none .none .none) (fun h => h) (fun _ xs => ∀ y ∈ xs, (0 : Int) ≤ y) [] rfl rfl (fun y hy => ((rngI_mem _ _ _).mp hy).1) (by
    intro h y xs hy
    obtain ⟨k, e⟩ := body_ok ns y h (hy y List.mem_cons_self)
    exact ⟨h ++ k, e, fun z hz => hy z (List.mem_cons_of_mem _ hz)⟩)
  have hnew := new_ok (h := h1) (.lst h1 (endE.map encE)) (.lst h1 ([((2 : Int), ([] : List Int), ([120] : Str))].map encR)) endE_ok endR_ok (by decide) (by decide)
  have w : WvAt (h1 ++ [wvO endE [((2 : Int), ([] : List Int), ([120] : Str))]]) (.ref h1.length) endE [((2 : Int), ([] : List Int), ([120] : Str))] := .top h1 [] _ _
  have l3 := lot_of_t (n := 3) w endE_ok (by decide) (by decide) (by decide)
  have l4 := lot_of_t (n := 4) w endE_ok (by decide) (by decide) (by decide)
  have l5 := lot_of_t (n := 5) w endE_ok (by decide) (by decide) (by decide)
  rw [show lotOf endE 3 = [1, 2, 3] by decide] at l3
  rw [show lotOf endE 4 = [1, 3, 4] by decide] at l4
  rw [show lotOf endE 5 = [2, 3, 4, 5] by decide] at l5
  have heq := LA.eq (h := h1 ++ [wvO endE [((2 : Int), ([] : List Int), ([120] : Str))]]) eqok_lot (.lst _ ([[1, 2, 3], [1, 3, 4], [2, 3, 4, 5]].map encL)) (.lst _ ([[1, 2, 3], [1, 3, 4], [2, 3, 4, 5]].map encL)) (fun l _ => pl_L l) (fun l _ => pl_L l)
  refine ⟨h1 ++ [wvO endE [((2 : Int), ([] : List Int), ([120] : Str))]], ?_⟩
  obtain ⟨W, hW⟩ : ∃ W, wvO endE [((2 : Int), ([] : List Int), ([120] : Str))] = W := ⟨_, rfl⟩
  rw [hW] at hnew l3 l4 l5 heq ⊢
  unfold endE at hnew
  simp [encL] at hnew l3 l4 l5 heq
  unfold b_law st14
  simp [hnew, l3, l4, l5, heq]
end k01
end MP
end

section
set_option Elab.async false
set_option linter.all false
set_option maxRecDepth 100000
set_option maxHeartbeats 1000000
/-! ### Q5: weaves that nobody changes; joined, clashes -/
namespace MP
/-- a weave as a value -/
def wvV (es : List Ed) (rs : List Row) : MV := .obj 0 [(0, .lst (es.map encE)), (1, .lst (rs.map encR))]
theorem WvAt.val (h : List O) (es : List Ed) (rs : List Row) : WvAt h (wvV es rs) es rs := ⟨rfl, rfl, rfl⟩
theorem noRef_ints : ∀ l : List Int, noRefs (l.map .int) = true
  | [] => rfl
  | _ :: l => by simp [noRefs, noRef, noRef_ints l]
theorem noRef_E (e : Ed) : noRef (encE e) = true := by simp [noRef, noRefs, noRef_ints]
theorem noRef_R (e : Row) : noRef (encR e) = true := by simp [noRef, noRefs, noRef_ints]
theorem noRefs_map {α : Type} {f : α → MV} (hf : ∀ x, noRef (f x) = true) : ∀ l : List α, noRefs (l.map f) = true
  | [] => rfl
  | x :: l => by simp [noRefs, hf x, noRefs_map hf l]
theorem newFn_t (f : Fn) (c : Nat) (args : List MV) (h h1 : List O) (hn : noRefs args = true) (e : f (.ref 0 :: args) [.ins c []] = .ok .non h1) : newFn f c true args h = frzAt c h1 h := by
  show (if noRefs args then (match f (.ref 0 :: args) [.ins c []] with
    | .ok v h1 => (match v with
      | .non => frzAt c h1 h
      | _ => .bad)
    | .ex e _ => (match e.arg with
      | none => .ex e h
      | some (_, v) => if noRef v then .ex e h else .bad)
    | .bad => .bad) else .bad) = _
  rw [hn, e]
  rfl
theorem new_pure {es : List Ed} {rs : List Row} (h : List O) (he : OkEds es) (hr : OkRows es.length rs) (hn : es.length ≤ 9) (hm : rs.length ≤ 200) : newFn f_Weave_init 0 true [.lst (es.map encE), .lst (rs.map encR)] h = .ok (wvV es rs) h := by
  have e := init_ok (h := [.ins 0 []]) (a := 0) rfl (.lst _ (es.map encE)) (.lst _ (rs.map encR)) he hr hn hm
  rw [newFn_t _ _ _ _ _ (by simp only [noRefs, noRef, noRefs_map noRef_E, noRefs_map noRef_R, Bool.and_self]) e]
  show (if (noRefF [(0, .lst (es.map encE)), (1, .lst (rs.map encR))] && decide (0 = 0)) = true then R.ok (MV.obj 0 [(0, .lst (es.map encE)), (1, .lst (rs.map encR))]) h else .bad) = _
  rw [if_pos (by simp only [noRefF, noRef, noRefs_map noRef_E, noRefs_map noRef_R]; rfl)]
  rfl
/-! joined -/
def moreOf (es : List Ed) (one other : Int) : List Int := (lotOf es other).filter fun x => !decide (x ∈ lotOf es one)
theorem lotOf_lot' {es : List Ed} {n m : Int} (h1 : n ≤ m) : IsLot 1 m (lotOf es n) := ⟨(rngI_rise _ _).filter _, fun x hx => by
  have := (rngI_mem _ _ _).mp (List.mem_filter.mp hx).1
  omega⟩
theorem self_lot {es : List Ed} {n : Int} (h : 1 ≤ n) : n ∈ lotOf es n := List.mem_filter.mpr ⟨(rngI_mem _ _ _).mpr (by omega), by simp [saidOf]⟩
theorem joined_ed {es : List Ed} {one other : Int} (h1 : 1 ≤ one) (h2 : one ≤ es.length) (h4 : other ≤ es.length) : OkEd ((es.length : Int) + 1) (one, moreOf es one other, []) where
  b0 := by show 0 ≤ one; omega
  b1 := by show one ≤ (es.length : Int) + 1 - 1; omega
  t := isLot_filter (lotOf_lot' (by omega)) _
  l := ⟨.nil, fun x hx => by cases hx⟩
  bt := fun z => by
    have := (List.mem_filter.mp z).2
    simp [self_lot h1] at this
  bl := by simp
  tl := by simp
theorem check_two_t {h : List O} {v : MV} {es : List Ed} {rs : List Row} {one other : Int} (w : WvAt h v es rs) (h1 : 1 ≤ one) (h2 : one ≤ es.length) (h3 : 1 ≤ other) (h4 : other ≤ es.length) : f_check_two [v, .int one, .int other] h = .ok .non h := by
  unfold f_check_two b_check_two
  simp [run_def, check_number_dt w h1 h2, check_number_dt w h3 h4]
theorem joined_ok {h : List O} {v : MV} {es : List Ed} {rs : List Row} {one other : Int} (w : WvAt h v es rs) (he : OkEds es) (hr : OkRows es.length rs) (hn : es.length ≤ 8) (hm : rs.length ≤ 200) (h1 : 1 ≤ one) (h2 : one ≤ es.length) (h3 : 1 ≤ other) (h4 : other ≤ es.length) :
    f_joined [v, .int one, .int other] h = .ok (wvV (es ++ [(one, moreOf es one other, [])]) rs) h := by
  have e1 := lot_from_ok h he h1 h2 (by omega)
  have e2 := lot_from_ok h he h3 h4 (by omega)
  have e3 : ((es.length : Int) == 9) = false := by simp; omega
  have hz : (lotOf es other).length ≤ 1000000 := by have := lot_len2 (lotOf_lot' (es := es) (n := other) (Int.le_refl _)) (by omega) (by omega); omega
  have e4 := add_lst (es.map encE) [encE (one, moreOf es one other, [])] h (by simp; omega)
  have e5 := new_pure (es := es ++ [(one, moreOf es one other, [])]) (rs := rs) h (he.snoc (joined_ed h1 h2 h4)) (fun r hx => by
    have := hr r hx
    exact ⟨this.o0, by have := this.o1; simp; omega, ⟨this.s.1, fun x hx => by have := this.s.2 x hx; simp; omega⟩, this.t⟩) (by simp; omega) hm
  unfold f_joined b_joined
  simp at e4 e5
  unfold moreOf at e4 e5 ⊢
  simp [run_def, w.f0, w.f1, check_two_t w h1 h2 h3 h4, e1, e2, e3, hz]
  simp [e4, e5, w.f1]
/-! clashes: the parts of rows -/
abbrev T3 := List Str × List Str × List Str
def addIf (b : Bool) (s : Str) (l : List Str) : List Str := l ++ (if b = true then [s] else [])
abbrev P3 := Row → Bool × Bool × Bool
def addT (p : P3) (c : T3) (r : Row) : T3 := (addIf (p r).1 r.2.2 c.1, addIf (p r).2.1 r.2.2 c.2.1, addIf (p r).2.2 r.2.2 c.2.2)
def allP (p : P3) (r : Row) : Bool := (p r).1 && ((p r).2.1 && (p r).2.2)
def e3 : T3 := ([], [], [])
def segs (p : P3) : T3 → List Row → List T3
  | c, [] => [c]
  | c, r :: rs => if allP p r = true then c :: segs p e3 rs else segs p (addT p c r) rs
def unlike (t : T3) : Bool := !decide (t.1 = t.2.1) && (!decide (t.1 = t.2.2) && !decide (t.2.1 = t.2.2))
def clashL (p : P3) (rs : List Row) : List T3 := (segs p e3 rs).filter unlike
def textP (q : Row → Bool) (rs : List Row) : List Str := (rs.filter q).map fun r => r.2.2
def t3 (p : P3) (rs : List Row) : T3 := (textP (fun r => (p r).1) rs, textP (fun r => (p r).2.1) rs, textP (fun r => (p r).2.2) rs)
def endsP (p : P3) : Nat → List Row → List Nat
  | o, [] => [o]
  | o, r :: rs => if allP p r = true then o :: endsP p (o + 1) rs else endsP p (o + 1) rs
def lawSegs (p : P3) (full : List Row) : Nat → List Nat → List T3
  | _, [] => []
  | b, e :: es => t3 p ((full.drop b).take (e - b)) :: lawSegs p full (e + 1) es
theorem textP_snoc (q : Row → Bool) (rs : List Row) (r : Row) : textP q (rs ++ [r]) = addIf (q r) r.2.2 (textP q rs) := by
  unfold textP addIf
  rw [List.filter_append, List.map_append]
  congr 1
  cases h : q r <;> simp [h]
theorem t3_snoc (p : P3) (rs : List Row) (r : Row) : t3 p (rs ++ [r]) = addT p (t3 p rs) r := by
  unfold t3 addT
  rw [textP_snoc, textP_snoc, textP_snoc]
theorem law_segs (p : P3) (full : List Row) : ∀ (rs pre mid : List Row), full = pre ++ mid ++ rs → lawSegs p full pre.length (endsP p (pre.length + mid.length) rs) = segs p (t3 p mid) rs
  | [], pre, mid, e => by
    subst e
    simp [endsP, lawSegs, segs]
  | r :: rs, pre, mid, e => by
    unfold endsP segs
    cases hq : allP p r with
    | true =>
      simp only [if_true]
      have ih := law_segs p full rs (pre ++ mid ++ [r]) [] (by rw [e]; simp)
      simp only [List.length_append, List.length_cons, List.length_nil, Nat.add_zero] at ih
      unfold lawSegs
      rw [show pre.length + mid.length + 1 = pre.length + mid.length + (0 + 1) by omega] 
      rw [ih]
      congr 1
      subst e
      simp
    | false =>
      simp only [Bool.false_eq_true, if_false]
      have ih := law_segs p full rs pre (mid ++ [r]) (by rw [e]; simp)
      rw [t3_snoc] at ih
      rw [← ih]
      simp [Nat.add_assoc]
def swap3 (t : T3) : T3 := (t.1, t.2.2, t.2.1)
theorem segs_swap (p q : P3) (rs : List Row) (h : ∀ r ∈ rs, (q r).1 = (p r).1 ∧ (q r).2.1 = (p r).2.2 ∧ (q r).2.2 = (p r).2.1) : ∀ c, segs q (swap3 c) rs = (segs p c rs).map swap3 := by
  induction rs with
  | nil => intro c; rfl
  | cons r rs ih =>
    intro c
    have ih := ih fun r hr => h r (List.mem_cons_of_mem _ hr)
    obtain ⟨h1, h2, h3⟩ := h r List.mem_cons_self
    unfold segs
    have ha : allP q r = allP p r := by
      unfold allP
      rw [h1, h2, h3]
      cases (p r).2.1 <;> cases (p r).2.2 <;> rfl
    rw [ha]
    cases allP p r with
    | true =>
      simp only [if_true, List.map_cons]
      rw [← ih e3]
      rfl
    | false =>
      simp only [Bool.false_eq_true, if_false]
      rw [← ih]
      congr 1
      unfold addT swap3
      rw [h1, h2, h3]
theorem unlike_swap (t : T3) : unlike (swap3 t) = unlike t := by
  obtain ⟨a, b, c⟩ := t
  unfold unlike swap3
  simp only []
  have : decide (c = b) = decide (b = c) := by
    by_cases h : b = c
    · simp [h]
    · have h2 : ¬ c = b := fun z => h z.symm
      simp [h, h2]
  rw [this]
  cases decide (a = c) <;> cases decide (a = b) <;> rfl
theorem clashL_swap (p q : P3) (rs : List Row) (h : ∀ r ∈ rs, (q r).1 = (p r).1 ∧ (q r).2.1 = (p r).2.2 ∧ (q r).2.2 = (p r).2.1) : clashL q rs = (clashL p rs).map swap3 := by
  unfold clashL
  have := segs_swap p q rs h e3
  rw [show swap3 e3 = e3 from rfl] at this
  rw [this, List.filter_map]
  congr 1
  refine List.filter_congr fun t _ => ?_
  exact unlike_swap t
theorem clashL_same (p : P3) (rs : List Row) (h : ∀ r ∈ rs, (p r).1 = (p r).2.1) : clashL p rs = [] := by
  have gen : ∀ (rs : List Row) (c : T3), (∀ r ∈ rs, (p r).1 = (p r).2.1) → c.1 = c.2.1 → ∀ t ∈ segs p c rs, t.1 = t.2.1 := by
    intro rs
    induction rs with
    | nil =>
      intro c _ hc t ht
      rw [List.mem_singleton.mp ht]
      exact hc
    | cons r rs ih =>
      intro c hr hc t ht
      have hr' := fun x hx => hr x (List.mem_cons_of_mem _ hx)
      unfold segs at ht
      cases hq : allP p r with
      | true =>
        rw [hq] at ht
        rcases List.mem_cons.mp ht with rfl | ht
        · exact hc
        · exact ih e3 hr' rfl t ht
      | false =>
        rw [hq] at ht
        refine ih _ hr' ?_ t ht
        show addIf _ _ _ = addIf _ _ _
        rw [hr r List.mem_cons_self, hc]
  unfold clashL
  rw [List.filter_eq_nil_iff]
  intro t ht
  have := gen rs e3 h rfl t ht
  unfold unlike
  simp [this]
end MP
end

section
set_option Elab.async false
set_option linter.all false
set_option maxRecDepth 100000
set_option maxHeartbeats 1000000
/-! ### Q6: clashes, as it runs -/
namespace MP
def refT (n : Nat) : MV := .tup [.ref n, .ref (n + 1), .ref (n + 2)]
@[simp] theorem lstR_nil (Fs : List Fn) (rho : List SV) (h : List O) : ev Fs (.lstR []) rho h = .ok (.ref h.length) (h ++ [.lst []]) := (rfl)
/-! the parts in the heap -/
def cellsT (t : T3) : List O := [.lst (t.1.map .str), .lst (t.2.1.map .str), .lst (t.2.2.map .str)]
def cellsL : List T3 → List O
  | [] => []
  | t :: ts => cellsT t ++ cellsL ts
theorem cellsL_app : ∀ a b : List T3, cellsL (a ++ b) = cellsL a ++ cellsL b
  | [], _ => rfl
  | t :: a, b => by simp [cellsL, cellsL_app a b]
theorem cellsL_len : ∀ a : List T3, (cellsL a).length = 3 * a.length
  | [] => rfl
  | t :: a => by
    simp [cellsL, cellsT, cellsL_len a]
    omega
def T3At (h : List O) (n : Nat) (t : T3) : Prop := h[n]? = some (.lst (t.1.map .str)) ∧ h[n + 1]? = some (.lst (t.2.1.map .str)) ∧ h[n + 2]? = some (.lst (t.2.2.map .str))
theorem cells_at (h k : List O) : ∀ (ts : List T3) (i : Nat) (t : T3), ts[i]? = some t → T3At (h ++ (cellsL ts ++ k)) (h.length + 3 * i) t
  | [], i, t, e => by simp at e
  | u :: ts, 0, t, e => by
    simp at e
    subst e
    refine ⟨?_, ?_, ?_⟩ <;> simp [cellsL, cellsT]
  | u :: ts, i + 1, t, e => by
    have := cells_at (h ++ cellsT u) k ts i t (by simpa using e)
    have hl : (h ++ cellsT u).length + 3 * i = h.length + 3 * (i + 1) := by
      simp [cellsT]
      omega
    rw [hl] at this
    simpa [cellsL, List.append_assoc] using this
def numdN {α : Type} : Nat → List α → List (Nat × α)
  | _, [] => []
  | i, x :: xs => (i, x) :: numdN (i + 1) xs
theorem numdN_snoc {α : Type} (x : α) : ∀ (l : List α) (i : Nat), numdN i (l ++ [x]) = numdN i l ++ [(i + l.length, x)]
  | [], i => rfl
  | y :: l, i => by
    simp [numdN, numdN_snoc x l (i + 1)]
    omega
theorem numdN_mem {α : Type} : ∀ (l : List α) (i : Nat) (p : Nat × α), p ∈ numdN i l → ∃ k, l[k]? = some p.2 ∧ p.1 = i + k
  | [], _, _, h => by cases h
  | x :: xs, i, p, h => by
    rcases List.mem_cons.mp h with rfl | h
    · exact ⟨0, rfl, rfl⟩
    · obtain ⟨k, h1, h2⟩ := numdN_mem xs (i + 1) p h
      exact ⟨k + 1, by simpa using h1, by omega⟩
theorem numdN_filt {α : Type} (q : α → Bool) : ∀ (l : List α) (i : Nat), ((numdN i l).filter fun p => q p.2).map (·.2) = l.filter q
  | [], _ => rfl
  | x :: xs, i => by
    have := numdN_filt q xs (i + 1)
    simp only [numdN, List.filter_cons]
    cases q x <;> simp [this]
@[simp] theorem numdN_len {α : Type} : ∀ (l : List α) (i : Nat), (numdN i l).length = l.length
  | [], _ => rfl
  | x :: xs, i => by simp [numdN, numdN_len xs]
def P3of (g m t : List Int) : P3 := fun r => (isToldB r g, isToldB r m, isToldB r t)
def stepG (p : P3) (s : List T3 × T3) (r : Row) : List T3 × T3 := if allP p r = true then (s.1 ++ [s.2], e3) else (s.1, addT p s.2 r)
theorem stepG_segs (p : P3) : ∀ (rs : List Row) (d : List T3) (c : T3), (rs.foldl (stepG p) (d, c)).1 ++ [(rs.foldl (stepG p) (d, c)).2] = d ++ segs p c rs
  | [], d, c => rfl
  | r :: rs, d, c => by
    rw [List.foldl_cons]
    unfold stepG segs
    cases allP p r with
    | true =>
      have := stepG_segs p rs (d ++ [c]) e3
      simp only [if_true]
      unfold stepG at this
      rw [this]
      simp
    | false =>
      have := stepG_segs p rs d (addT p c r)
      simp only [Bool.false_eq_true, if_false]
      unfold stepG at this
      rw [this]
/-- found, with n the first place -/
def foundV (n : Nat) (d : List T3) : List MV := (numdN 0 d).map fun p => refT (n + 3 * p.1)
theorem foundV_snoc (n : Nat) (d : List T3) (c : T3) : foundV n (d ++ [c]) = foundV n d ++ [refT (n + 3 * d.length)] := by
  unfold foundV
  rw [numdN_snoc, List.map_append, Nat.zero_add]
  rfl
theorem addIf_map (b : Bool) (s : Str) (l : List Str) : (addIf b s l).map MV.str = l.map .str ++ (if b = true then [.str s] else []) := by
  unfold addIf
  rw [List.map_append]
  cases b <;> rfl
theorem addIf_len (b : Bool) (s : Str) (l : List Str) : (addIf b s l).length ≤ l.length + 1 := by
  unfold addIf
  cases b <;> simp
def lenT (c : T3) : Nat := c.1.length + c.2.1.length + c.2.2.length
theorem addT_len (p : P3) (c : T3) (r : Row) : lenT (addT p c r) ≤ lenT c + 3 := by
  have h1 := addIf_len (p r).1 r.2.2 c.1
  have h2 := addIf_len (p r).2.1 r.2.2 c.2.1
  have h3 := addIf_len (p r).2.2 r.2.2 c.2.2
  unfold lenT addT
  simp only []
  omega
def okS3 (u : T3) : Prop := (∀ s ∈ u.1, okS s) ∧ (∀ s ∈ u.2.1, okS s) ∧ ∀ s ∈ u.2.2, okS s
theorem e3_ok : okS3 e3 := ⟨by simp [e3], by simp [e3], by simp [e3]⟩
theorem addIf_ok {b : Bool} {s : Str} {l : List Str} (hs : okS s) (hl : ∀ s ∈ l, okS s) : ∀ x ∈ addIf b s l, okS x := fun x hx => by
  unfold addIf at hx
  rcases List.mem_append.mp hx with hx | hx
  · exact hl x hx
  · cases b with
    | true =>
      simp at hx
      rw [hx]
      exact hs
    | false => simp at hx
theorem segs_ok (p : P3) : ∀ (rs : List Row) (_ : ∀ r ∈ rs, okS r.2.2) (c : T3), okS3 c → ∀ u ∈ segs p c rs, okS3 u
  | [], _, c, hc, u, hu => by
    rw [List.mem_singleton.mp hu]
    exact hc
  | r :: rs, hr, c, hc, u, hu => by
    have hr' := fun x hx => hr x (List.mem_cons_of_mem _ hx)
    have h0 := hr r List.mem_cons_self
    unfold segs at hu
    split at hu
    · rcases List.mem_cons.mp hu with rfl | hu
      · exact hc
      · exact segs_ok p rs hr' e3 e3_ok u hu
    · exact segs_ok p rs hr' _ ⟨addIf_ok h0 hc.1, addIf_ok h0 hc.2.1, addIf_ok h0 hc.2.2⟩ u hu
def clashOf (es : List Ed) (rs : List Row) (one other : Int) : List T3 := clashL (P3of ((lotOf es one).filter fun x => decide (x ∈ lotOf es other)) (lotOf es one) (lotOf es other)) rs
theorem clashes_ok {h : List O} {v : MV} {es : List Ed} {rs : List Row} {one other : Int} (w : ∀ k, WvAt (h ++ k) v es rs) (he : OkEds es) (hr : OkRows es.length rs) (hn : es.length ≤ 9) (hm : rs.length ≤ 200) (h1 : 1 ≤ one) (h2 : one ≤ es.length) (h3 : 1 ≤ other) (h4 : other ≤ es.length) :
    ∃ (l : List (Nat × T3)) (k : List O), f_clashes [v, .int one, .int other] h = .ok (.lst (l.map fun p => refT p.1)) (h ++ k) ∧ l.map (·.2) = clashOf es rs one other ∧ ∀ p ∈ l, h.length ≤ p.1 ∧ T3At (h ++ k) p.1 p.2 := by
  have w0 := w []
  rw [List.append_nil] at w0
  have l1 := lot_from_ok h he h1 h2 (by omega)
  have l2 := lot_from_ok h he h3 h4 (by omega)
  have hz : (lotOf es one).length ≤ 1000000 := by have := lot_len2 (lotOf_lot' (es := es) (n := one) (Int.le_refl _)) (by omega) (by omega); omega
  obtain ⟨m, hm'⟩ : ∃ m, lotOf es one = m := ⟨_, rfl⟩
  obtain ⟨t, ht'⟩ : ∃ t, lotOf es other = t := ⟨_, rfl⟩
  obtain ⟨g, hg'⟩ : ∃ g, (m.filter fun x => decide (x ∈ t)) = g := ⟨_, rfl⟩
  have hgz : g.length ≤ 1000000 := by
    rw [← hg', ← hm']
    exact filt_lim hz
  unfold clashOf
  rw [hm', ht', hg']
  rw [hm'] at l1 hz
  rw [ht'] at l2
  unfold f_clashes b_clashes
  simp [run_def, check_two_t w0 h1 h2 h3 h4, l1, l2, w0.f0, hz, hg', hgz, (w _).f1]
  generalize hlp : loopF _ _ _ _ _ _ _ = r
  have e1 := loop_foldH' hlp (fun s : List T3 × T3 => [.val v, .val (.int one), .val (.int other), .val (.lst [.tup (g.map .int), .tup (m.map .int), .tup (t.map .int)]), .none, .val (.tup (m.map .int)), .val (.tup (t.map .int)), .own (.lst (foundV h.length s.1)), .val (refT (h.length + 3 * s.1.length)), .none, .none, .none, .none, .none])
    (fun s => h ++ cellsL (s.1 ++ [s.2])) (stepG (P3of g m t)) (fun s xs => s.1.length + xs.length ≤ 200 ∧ lenT s.2 + 3 * xs.length ≤ 600 ∧ ∀ x ∈ xs, x ∈ rs) ([], e3) rfl rfl ⟨by simpa using hm, by simp [lenT, e3]; omega, fun x hx => hx⟩ (by
      rintro ⟨d, c⟩ ⟨o, st, tx⟩ xs ⟨p1, p2, p3⟩
      have hr1 := okRow_len (hr _ (p3 _ List.mem_cons_self)) (by omega)
      simp only [List.length_cons] at p1 p2 hr1
      have itg := fun H => is_told_ok (o, st, tx) g H (by show st.length ≤ _; omega)
      have itm := fun H => is_told_ok (o, st, tx) m H (by show st.length ≤ _; omega)
      have itt := fun H => is_told_ok (o, st, tx) t H (by show st.length ≤ _; omega)
      simp only [encR_] at itg itm itt
      have hP : P3of g m t (o, st, tx) = (isToldB (o, st, tx) g, isToldB (o, st, tx) m, isToldB (o, st, tx) t) := rfl
      have hA : allP (P3of g m t) (o, st, tx) = (isToldB (o, st, tx) g && (isToldB (o, st, tx) m && isToldB (o, st, tx) t)) := rfl
      have ha3 : ∀ (a b c : Bool) (H : List O), bltV .all [.lst [.bl a, .bl b, .bl c]] H = .ok (.bl (a && (b && c))) H := fun a b c H => by cases a <;> cases b <;> cases c <;> rfl
      have hlt := addT_len (P3of g m t) c (o, st, tx)
      obtain ⟨h', hh'⟩ : ∃ h', h ++ cellsL d = h' := ⟨_, rfl⟩
      have hl' : h.length + 3 * d.length = h'.length := by rw [← hh', List.length_append, cellsL_len]
      have hhp : h ++ cellsL (d ++ [c]) = h' ++ cellsT c := by rw [← hh', cellsL_app]; simp [cellsL]
      unfold stepG
      rw [hA]
      generalize isToldB (o, st, tx) g = b0 at itg hP ⊢
      generalize isToldB (o, st, tx) m = b1 at itm hP ⊢
      generalize isToldB (o, st, tx) t = b2 at itt hP ⊢
      simp only []
      rw [hhp, hl']
      cases hb : (b0 && (b1 && b2)) with
      | true =>
        refine ⟨?_, by simp; omega, by simp [lenT, e3]; omega, fun x hx => p3 x (List.mem_cons_of_mem _ hx)⟩
        have hfl : (foundV h.length d).length < 1000000 := by unfold foundV; simp; omega
        have hh2 : h ++ cellsL ((d ++ [c]) ++ [e3]) = h' ++ (cellsT c ++ [.lst [], .lst [], .lst []]) := by rw [← hh', cellsL_app, cellsL_app]; simp [cellsL, cellsT, e3]
        have hl2 : h.length + 3 * (d.length + 1) = h'.length + 3 := by omega
        simp only [if_true]
        rw [hh2, foundV_snoc, hl', List.length_append, List.length_cons, List.length_nil, Nat.zero_add, hl2]
        simp [stepF_, itg, itm, itt, ha3, hb, app_own _ _ hfl, cellsT, refT]
      | false =>
        refine ⟨?_, by simp; omega, by simp; omega, fun x hx => p3 x (List.mem_cons_of_mem _ hx)⟩
        have hh2 : h ++ cellsL (d ++ [addT (P3of g m t) c (o, st, tx)]) = h' ++ cellsT (addT (P3of g m t) c (o, st, tx)) := by rw [← hh', cellsL_app]; simp [cellsL]
        simp only [Bool.false_eq_true, if_false]
        rw [hh2, hl']
        obtain ⟨c1, c2, c3⟩ := c
        simp only [lenT] at p2
        have z1 : c1.length + 1 ≤ 1000000 := by omega
        have z2 : c2.length + 1 ≤ 1000000 := by omega
        have z3 : c3.length + 1 ≤ 1000000 := by omega
        have y1 : c1.length ≤ 1000000 := by omega
        have y2 : c2.length ≤ 1000000 := by omega
        have y3 : c3.length ≤ 1000000 := by omega
        simp only [cellsT, addT, addIf_map, hP]
        cases b0 <;> cases b1 <;> cases b2 <;> first
          | (cases hb; done)
          | simp [stepF_, itg, itm, itt, ha3, refT, for_zip', z1, z2, z3, y1, y2, y3])
  subst e1
  have hs := stepG_segs (P3of g m t) rs [] e3
  rw [List.nil_append] at hs
  generalize hq : rs.foldl (stepG (P3of g m t)) ([], e3) = q at hs
  obtain ⟨d, c⟩ := q
  simp only [] at hs
  have hdl : d.length < 1000000 := by
    have gen : ∀ (rs : List Row) (d : List T3) (c : T3), (rs.foldl (stepG (P3of g m t)) (d, c)).1.length ≤ d.length + rs.length := by
      intro rs
      induction rs with
      | nil => intro d c; simp
      | cons r rs ih =>
        intro d c
        rw [List.foldl_cons]
        unfold stepG
        cases allP (P3of g m t) r with
        | true =>
          have := ih (d ++ [c]) e3
          unfold stepG at this
          simp only [if_true]
          simp at this
          simp
          omega
        | false =>
          have := ih d (addT (P3of g m t) c r)
          unfold stepG at this
          simp only [Bool.false_eq_true, if_false]
          simp
          omega
    have := gen rs [] e3
    rw [hq] at this
    simp at this
    omega
  obtain ⟨S, hS⟩ : ∃ S, d ++ [c] = S := ⟨_, rfl⟩
  have hSl : S.length ≤ 1000000 := by rw [← hS]; simp; omega
  have hfl : (foundV h.length d).length < 1000000 := by unfold foundV; simpa using hdl
  have hf2 : foundV h.length d ++ [refT (h.length + 3 * d.length)] = foundV h.length S := by rw [← hS, foundV_snoc]
  rw [hS] at hs
  have hco : cellsL (d ++ [c]) = cellsL S := by rw [hS]
  simp only []
  rw [hco]
  have happ := app_own (foundV h.length d) (refT (h.length + 3 * d.length)) hfl
  rw [hf2] at happ
  have hok : ∀ u ∈ S, okS3 u := fun u hu => by
    rw [hs] at hu
    exact segs_ok (P3of g m t) rs (fun r hr' => hr.okS r hr') e3 e3_ok u hu
  simp [happ]
  show ∃ l k, endR ((SR.ofR ((compL _ ((numdN 0 S).map fun p => refT (h.length + 3 * p.1)) _).bind _) _ _).seq _) = _ ∧ _
  have hne : ∀ (a b : Nat) (x y : List Str), (∀ s ∈ x, okS s) → (∀ s ∈ y, okS s) → (h ++ cellsL S)[a]? = some (.lst (x.map .str)) → (h ++ cellsL S)[b]? = some (.lst (y.map .str)) → cmpV (h ++ cellsL S) .ne (.ref a) (.ref b) = some (!decide (x = y)) := fun a b x y ox oy ea eb =>
    LA.ne eqok_str (.ref ea) (.ref eb) (fun s hs => pl_up (pl_str s (ox s hs)) (by decide)) (fun s hs => pl_up (pl_str s (oy s hs)) (by decide))
  simp
  rw [compT_mem (p := fun p : Nat × T3 => unlike p.2) (g := fun p => refT (h.length + 3 * p.1)) _ fun p hp => by
    obtain ⟨k, hk1, hk2⟩ := numdN_mem _ _ _ hp
    have hat := cells_at h [] S k p.2 hk1
    rw [List.append_nil, show k = p.1 by omega] at hat
    obtain ⟨a1, a2, a3⟩ := hat
    obtain ⟨o1, o2, o3⟩ := hok _ (List.mem_of_getElem? hk1)
    have n1 := hne _ _ _ _ o1 o2 a1 a2
    have n2 := hne _ _ _ _ o1 o3 a1 a3
    have n3 := hne _ _ _ _ o2 o3 a2 a3
    simp [refT, n1, n2, n3]
    unfold unlike
    cases decide (p.2.1 = p.2.2.1) <;> cases decide (p.2.1 = p.2.2.2) <;> cases decide (p.2.2.1 = p.2.2.2) <;> rfl]
  have hz9 : ((numdN 0 S).filter fun p => unlike p.2).length ≤ 1000000 := filt_lim (by simpa using hSl)
  simp [hz9]
  refine ⟨((numdN 0 S).filter fun p => unlike p.2).map fun p => (h.length + 3 * p.1, p.2), cellsL S, ⟨by rw [List.map_map]; rfl, rfl⟩, ?_, ?_⟩
  · rw [List.map_map]
    show ((numdN 0 S).filter fun p => unlike p.2).map (fun p => p.2) = _
    rw [numdN_filt, hs]
    rfl
  · intro n a b c hp
    obtain ⟨p, hp, e⟩ := List.mem_map.mp hp
    have hp := (List.mem_filter.mp hp).1
    obtain ⟨k, hk1, hk2⟩ := numdN_mem _ _ _ hp
    have hat := cells_at h [] S k p.2 hk1
    rw [List.append_nil, show k = p.1 by omega] at hat
    have e1 : h.length + 3 * p.1 = n := congrArg Prod.fst e
    have e2 : p.2 = (a, b, c) := congrArg Prod.snd e
    rw [e1, e2] at hat
    exact ⟨by omega, hat⟩
end MP
end

section
set_option Elab.async false
set_option linter.all false
set_option maxRecDepth 100000
set_option maxHeartbeats 1000000
/-! ### R5: clashes by own look -/
namespace MP
def encT3 (t : T3) : MV := .tup [.lst (t.1.map .str), .lst (t.2.1.map .str), .lst (t.2.2.map .str)]
theorem ends_eq (p : P3) : ∀ (rs : List Row) (o : Nat), ((numd (o : Int) rs).filter fun q => allP p q.2).map (·.1) ++ [((o + rs.length : Nat) : Int)] = (endsP p o rs).map fun n : Nat => (n : Int)
  | [], o => rfl
  | r :: rs, o => by
    have ih := ends_eq p rs (o + 1)
    have e1 : ((o + 1 : Nat) : Int) = (o : Int) + 1 := by omega
    have e2 : o + 1 + rs.length = o + (r :: rs).length := by simp; omega
    rw [e1, e2] at ih
    simp only [numd, List.filter_cons, endsP]
    cases allP p r with
    | true =>
      simp only [if_true, List.map_cons, List.cons_append]
      rw [ih]
    | false =>
      simp only [Bool.false_eq_true, if_false]
      exact ih
theorem numd_len {α : Type} : ∀ (l : List α) (i : Int), (numd i l).length = l.length
  | [], _ => rfl
  | x :: xs, i => by simp [numd, numd_len xs]
theorem endsP_len (p : P3) : ∀ (rs : List Row) (o : Nat), (endsP p o rs).length ≤ rs.length + 1
  | [], o => by simp [endsP]
  | r :: rs, o => by
    have := endsP_len p rs (o + 1)
    unfold endsP
    split <;> simp <;> omega
def stepL (p : P3) (rs : List Row) (s : List T3 × Nat) (e : Nat) : List T3 × Nat := (if unlike (t3 p ((rs.drop s.2).take (e - s.2))) = true then s.1 ++ [t3 p ((rs.drop s.2).take (e - s.2))] else s.1, e + 1)
theorem stepL_segs (p : P3) (rs : List Row) : ∀ (E : List Nat) (d : List T3) (b : Nat), (E.foldl (stepL p rs) (d, b)).1 = d ++ (lawSegs p rs b E).filter unlike
  | [], d, b => by simp [lawSegs]
  | e :: E, d, b => by
    rw [List.foldl_cons]
    have ih := stepL_segs p rs E (stepL p rs (d, b) e).1 (e + 1)
    have hs : stepL p rs (d, b) e = ((stepL p rs (d, b) e).1, e + 1) := rfl
    rw [hs, ih]
    rw [show lawSegs p rs b (e :: E) = t3 p ((rs.drop b).take (e - b)) :: lawSegs p rs (e + 1) E from rfl, List.filter_cons]
    unfold stepL
    simp only []
    split <;> simp
theorem textP_ok {q : Row → Bool} {rs : List Row} (h : ∀ r ∈ rs, okS r.2.2) : ∀ s ∈ textP q rs, okS s := fun s hs => by
  obtain ⟨r, hr, rfl⟩ := List.mem_map.mp hs
  exact h r (List.mem_filter.mp hr).1
theorem ne_strs {x y : List Str} (H : List O) (ox : ∀ s ∈ x, okS s) (oy : ∀ s ∈ y, okS s) : cmpV H .ne (.lst (x.map .str)) (.lst (y.map .str)) = some (!decide (x = y)) :=
  LA.ne eqok_str (.lst H _) (.lst H _) (fun s hs => pl_up (pl_str s (ox s hs)) (by decide)) (fun s hs => pl_up (pl_str s (oy s hs)) (by decide))
namespace k05
open MP.k01
theorem text_ok {n : Int} {rs : List Row} (l : List Int) (h : List O) (ok : OkRows n rs) (hn : n ≤ 1000) (hz : rs.length ≤ 1000000) : f__law_text [.lst (rs.map encR), .tup (l.map .int)] h = .ok (.lst ((textP (fun r => isToldB r l) rs).map .str)) h := by
  unfold f__law_text b__law_text
  simp [run_def]
  rw [compT_mem (p := fun r : Row => isToldB r l) (g := fun r => .str r.2.2) rs fun r hr => by
    have := lis_told_ok r l h (by have := okRow_len (ok r hr) hn; omega)
    simp only [encR_] at this
    by_cases hq : isToldB r l = true <;> simp [this, hq]]
  simp [hz, textP]
theorem lclashes_ok {n : Int} {rs : List Row} (g m t : List Int) (h : List O) (ok : OkRows n rs) (hn : n ≤ 1000) (hz : rs.length ≤ 200) : f__law_clashes [.lst (rs.map encR), .lst [.tup (g.map .int), .tup (m.map .int), .tup (t.map .int)]] h = .ok (.lst ((clashL (P3of g m t) rs).map encT3)) h := by
  have hz1 : rs.length ≤ 1000000 := by omega
  have ha3 : ∀ (a b c : Bool) (H : List O), bltV .all [.lst [.bl a, .bl b, .bl c]] H = .ok (.bl (a && (b && c))) H := fun a b c H => by cases a <;> cases b <;> cases c <;> rfl
  unfold f__law_clashes b__law_clashes
  simp [run_def]
  rw [compT_mem (p := fun q : Int × Row => allP (P3of g m t) q.2) (g := fun q => .int q.1) _ fun q hq => by
    obtain ⟨k, h1, h2⟩ := numd_mem _ _ _ hq
    have hr := okRow_len (ok _ (List.mem_of_getElem? h1)) hn
    have itg := lis_told_ok q.2 g h (by omega)
    have itm := lis_told_ok q.2 m h (by omega)
    have itt := lis_told_ok q.2 t h (by omega)
    simp only [encR_] at itg itm itt
    simp [itg, itm, itt, ha3]
    show compGo _ (.bl (allP (P3of g m t) q.2)) h = _
    cases allP (P3of g m t) q.2 <;> rfl]
  obtain ⟨E, hE⟩ : ∃ E, endsP (P3of g m t) 0 rs = E := ⟨_, rfl⟩
  have he := ends_eq (P3of g m t) rs 0
  rw [hE] at he
  have hel := endsP_len (P3of g m t) rs 0
  rw [hE] at hel
  have hcz : ((numd 0 rs).filter fun q => allP (P3of g m t) q.2).length ≤ 1000000 := filt_lim (by rw [numd_len]; exact hz1)
  have hcz2 : ((numd 0 rs).filter fun q => allP (P3of g m t) q.2).length ≤ rs.length := by
    have := List.length_filter_le (fun q : Int × Row => allP (P3of g m t) q.2) (numd 0 rs)
    rw [numd_len] at this
    exact this
  have had : ∀ H, binV H .add (.lst (((numd 0 rs).filter fun q => allP (P3of g m t) q.2).map fun q => .int q.1)) (.lst [.int rs.length]) = some (.lst (E.map fun n : Nat => .int (n : Int))) := fun H => by
    rw [add_lst _ _ H (by simp; omega)]
    have := congrArg (List.map MV.int) he
    simp only [List.map_append, List.map_map, List.map_cons, List.map_nil, Nat.zero_add] at this
    congr 2
  simp [hcz, had]
  generalize hlp : loopF _ _ _ _ _ _ _ = r
  have e1 := loop_fold' hlp (fun s : List T3 × Nat => [.val (.lst (rs.map encR)), .val (.lst [.tup (g.map .int), .tup (m.map .int), .tup (t.map .int)]), .val (.lst (((numd 0 rs).filter fun q => allP (P3of g m t) q.2).map fun q => .int q.1)), .none, .own (.lst (s.1.map encT3)), .val (.int s.2), .none, .none, .none, .none])
    (stepL (P3of g m t) rs) (fun s xs => s.1.length + xs.length ≤ 1000) ([], 0) rfl (by simp; omega) (by
      rintro ⟨d, b⟩ e xs hp
      simp only [List.length_cons] at hp
      have hok : OkRows n ((rs.drop b).take (e - b)) := fun r hr => ok r (List.mem_of_mem_drop (List.mem_of_mem_take hr))
      have hzz : ((rs.drop b).take (e - b)).length ≤ 1000000 := by simp; omega
      have htg := fun H => text_ok g H hok hn hzz
      have htm := fun H => text_ok m H hok hn hzz
      have htt := fun H => text_ok t H hok hn hzz
      simp only [List.map_take, List.map_drop] at htg htm htt
      have hT : t3 (P3of g m t) ((rs.drop b).take (e - b)) = (textP (fun r => isToldB r g) ((rs.drop b).take (e - b)), textP (fun r => isToldB r m) ((rs.drop b).take (e - b)), textP (fun r => isToldB r t) ((rs.drop b).take (e - b))) := rfl
      have o1 := textP_ok (q := fun r => isToldB r g) hok.okS
      have o2 := textP_ok (q := fun r => isToldB r m) hok.okS
      have o3 := textP_ok (q := fun r => isToldB r t) hok.okS
      unfold stepL
      simp only []
      rw [hT]
      generalize textP (fun r => isToldB r g) ((rs.drop b).take (e - b)) = T1 at *
      generalize textP (fun r => isToldB r m) ((rs.drop b).take (e - b)) = T2 at *
      generalize textP (fun r => isToldB r t) ((rs.drop b).take (e - b)) = T4 at *
      refine ⟨?_, by
        split
        · simp
          omega
        · omega⟩
      have n1 := fun H => ne_strs H o1 o2
      have n2 := fun H => ne_strs H o1 o3
      have n3 := fun H => ne_strs H o2 o3
      have hfl : (d.map encT3).length < 1000000 := by simp; omega
      unfold unlike
      simp only []
      generalize decide (T1 = T2) = c1 at *
      generalize decide (T1 = T4) = c2 at *
      generalize decide (T2 = T4) = c3 at *
      cases c1 <;> cases c2 <;> cases c3 <;> simp [stepF_, htg, htm, htt, n1, n2, n3, app_own _ _ hfl, encT3])
  subst e1
  have hf := stepL_segs (P3of g m t) rs E [] 0
  have hl := law_segs (P3of g m t) rs rs [] [] rfl
  simp only [List.length_nil, Nat.add_zero] at hl
  rw [hE] at hl
  rw [hl] at hf
  simp [hf]
  rfl
end k05
end MP
end

section
set_option Elab.async false
set_option linter.all false
set_option maxRecDepth 100000
set_option maxHeartbeats 1000000
/-! ### R6: the law k05 -/
namespace MP
theorem segs_len (p : P3) : ∀ (rs : List Row) (c : T3), ∀ u ∈ segs p c rs, u.1.length ≤ c.1.length + rs.length
  | [], c, u, hu => by
    rw [List.mem_singleton.mp hu]
    simp
  | r :: rs, c, u, hu => by
    unfold segs at hu
    rw [List.length_cons]
    split at hu
    · rcases List.mem_cons.mp hu with rfl | hu
      · omega
      · have := segs_len p rs e3 u hu
        simp [e3] at this
        omega
    · have := segs_len p rs _ u hu
      have h2 := addIf_len (p r).1 r.2.2 c.1
      simp only [addT] at this
      omega
theorem T3At.mono {h k : List O} {n : Nat} {t : T3} (a : T3At h n t) : T3At (h ++ k) n t := ⟨getElem?_mono a.1, getElem?_mono a.2.1, getElem?_mono a.2.2⟩
theorem eqok_T : EqOk encT3 := eqok_trip (eqok_lst eqok_str) (eqok_lst eqok_str) (eqok_lst eqok_str)
theorem pl_strs {l : List Str} (h : ∀ s ∈ l, okS s) : Pl 1 (.lst (l.map .str)) := pl_lst fun v hv => by
  obtain ⟨s, hs, rfl⟩ := List.mem_map.mp hv
  exact pl_str s (h s hs)
theorem pl_T {t : T3} (h : okS3 t) : Pl 2 (encT3 t) := pl_tup fun v hv => by
  simp at hv
  rcases hv with rfl | rfl | rfl
  · exact pl_strs h.1
  · exact pl_strs h.2.1
  · exact pl_strs h.2.2
theorem snapR_at {h : List O} {a : Nat} {l : List Str} (n : Nat) (e : h[a]? = some (.lst (l.map .str))) (hl : ∀ s ∈ l, okS s) : snapR h (n + 1) a = some (.lst (l.map .str)) := by
  unfold snapR
  rw [e]
  show (snapG.snapsG (snapG (snapR h n) 6) (l.map .str)).map MV.lst = _
  rw [snaps_pl _ 6 _ fun v hv => by
    obtain ⟨s, hs, rfl⟩ := List.mem_map.mp hv
    exact pl_str s (hl s hs) _ 6 (by decide)]
  rfl
theorem snap_T {h : List O} : ∀ (l : List (Nat × T3)), (∀ p ∈ l, T3At h p.1 p.2) → (∀ p ∈ l, okS3 p.2) → snap h (.lst (l.map fun p => refT p.1)) = some (.lst (l.map fun p => encT3 p.2)) := by
  intro l ha ho
  show (snapG.snapsG (snapG (snapR h 3) 5) (l.map fun p => refT p.1)).map MV.lst = _
  have : snapG.snapsG (snapG (snapR h 3) 5) (l.map fun p => refT p.1) = some (l.map fun p => encT3 p.2) := by
    induction l with
    | nil => rfl
    | cons p l ih =>
      have h1 := ha p List.mem_cons_self
      have h2 := ho p List.mem_cons_self
      have ih := ih (fun q hq => ha q (List.mem_cons_of_mem _ hq)) (fun q hq => ho q (List.mem_cons_of_mem _ hq))
      have e : snapG (snapR h 3) 5 (refT p.1) = some (encT3 p.2) := by
        show (snapG.snapsG (snapG (snapR h 3) 4) [.ref p.1, .ref (p.1 + 1), .ref (p.1 + 2)]).map MV.tup = _
        have g1 : snapG (snapR h 3) 4 (.ref p.1) = snapR h 3 p.1 := rfl
        have g2 : snapG (snapR h 3) 4 (.ref (p.1 + 1)) = snapR h 3 (p.1 + 1) := rfl
        have g3 : snapG (snapR h 3) 4 (.ref (p.1 + 2)) = snapR h 3 (p.1 + 2) := rfl
        simp only [snapG.snapsG, g1, g2, g3, snapR_at 2 h1.1 h2.1, snapR_at 2 h1.2.1 h2.2.1, snapR_at 2 h1.2.2 h2.2.2]
        rfl
      simp only [List.map_cons, snapG.snapsG, e, ih]
  rw [this]
  rfl
theorem ne_T {h : List O} {l : List (Nat × T3)} {D : List T3} (ha : ∀ p ∈ l, T3At h p.1 p.2) (ho : ∀ p ∈ l, okS3 p.2) (hD : ∀ t ∈ D, okS3 t) : cmpV h .ne (.lst (l.map fun p => refT p.1)) (.lst (D.map encT3)) = some (!decide (l.map (·.2) = D)) := by
  rw [cmp_ne (snap_T l ha ho) (snap_pl (n := 3) (pl_lst fun v hv => by
    obtain ⟨t, ht, rfl⟩ := List.mem_map.mp hv
    exact pl_T (hD t ht)) (by decide) h)]
  congr 2
  have := eqok_lst eqok_T (l.map (·.2)) D
  rw [← this]
  simp only [List.map_map]
  rfl
theorem eq_T {h : List O} {l : List (Nat × T3)} {D : List T3} (ha : ∀ p ∈ l, T3At h p.1 p.2) (ho : ∀ p ∈ l, okS3 p.2) (hD : ∀ t ∈ D, okS3 t) : cmpV h .eq (.lst (l.map fun p => refT p.1)) (.lst (D.map encT3)) = some (decide (l.map (·.2) = D)) := by
  rw [cmp_eq (snap_T l ha ho) (snap_pl (n := 3) (pl_lst fun v hv => by
    obtain ⟨t, ht, rfl⟩ := List.mem_map.mp hv
    exact pl_T (hD t ht)) (by decide) h)]
  congr 1
  have := eqok_lst eqok_T (l.map (·.2)) D
  rw [← this]
  simp only [List.map_map]
  rfl
theorem clashL_ok {p : P3} {rs : List Row} (h : ∀ r ∈ rs, okS r.2.2) : ∀ t ∈ clashL p rs, okS3 t := fun t ht => segs_ok p rs h e3 e3_ok t (List.mem_filter.mp ht).1
theorem isToldB_set {l l' : List Int} (h : ∀ x, x ∈ l ↔ x ∈ l') (r : Row) : isToldB r l = isToldB r l' := by
  unfold isToldB
  have h1 : ∀ x, decide (x ∈ l) = decide (x ∈ l') := fun x => by
    by_cases hx : x ∈ l
    · simp [hx, (h x).mp hx]
    · have : ¬ x ∈ l' := fun z => hx ((h x).mpr z)
      simp [hx, this]
  rw [h1 r.1]
  congr 3
  funext x
  exact h1 x
theorem clashOf_back (es : List Ed) (rs : List Row) (a b : Int) : clashOf es rs b a = (clashOf es rs a b).map swap3 := by
  unfold clashOf
  refine clashL_swap _ _ rs fun r _ => ⟨isToldB_set (fun x => ?_) r, rfl, rfl⟩
  simp only [List.mem_filter, decide_eq_true_eq]
  exact ⟨fun h => ⟨h.2, h.1⟩, fun h => ⟨h.2, h.1⟩⟩
theorem clashOf_self (es : List Ed) (rs : List Row) (a : Int) : clashOf es rs a a = [] := by
  unfold clashOf
  refine clashL_same _ rs fun r _ => isToldB_set (fun x => ?_) r
  simp only [List.mem_filter, decide_eq_true_eq]
  exact ⟨fun h => h.1, fun h => ⟨h, h⟩⟩
namespace k05
open MP.k01
def lt0 : S := .asg (.nm 7) (.bin .add (.con (.int 1)) (.bin .mod (.bin .add (.idx (.var 3) (.con (.int 2))) (.bin .mul (.var 6) (.idx (.var 3) (.con (.int 3))))) (.blt .len [.var 4])))
def lt1 : S := .par [(13, false, .call 50 false [.var 4, .var 6]), (14, false, .call 50 false [.var 4, .var 7])]
def lt2 : S := .asg (.nm 8) (.call 28 false [.var 2, .var 6, .var 7])
def lt3 : S := .asg (.nm 9) (.blt .tuple [.comp false (.var 17) (.nm 17) [17] .seq (.var 14) (.con .non) [.cmp .notin (.var 17) (.var 13)]])
def lt4 : S := .ifs (.bop false [.cmp .ne (.meth 9 0 false (.var 8) []) (.bin .add (.var 4) (.lst [.tup [.var 6, .var 9, .tup []]])), .cmp .ne (.meth 10 0 false (.var 8) []) (.var 5)]) [.ret (.con (.bl false))] []
def lt5 : S := .ifs (.cmp .ne (.meth 9 0 false (.var 2) []) (.var 4)) [.ret (.con (.bl false))] []
def lt6 : S := .asg (.nm 10) (.blt .tuple [.comp false (.var 17) (.nm 17) [17] .seq (.var 13) (.con .non) [.cmp .isin (.var 17) (.var 14)]])
def lt7 : S := .par [(15, false, .call 53 false [.var 5, .lst [.var 10, .var 13, .var 14]]), (16, false, .call 29 false [.var 2, .var 6, .var 7])]
def lt8 : S := .asg (.nm 11) (.comp false (.tup [.idx (.var 12) (.con (.int 0)), .idx (.var 12) (.con (.int 2)), .idx (.var 12) (.con (.int 1))]) (.nm 12) [12] .seq (.var 15) (.con .non) [])
def lt9 : S := .ifs (.bop false [.cmp .ne (.var 16) (.var 15), .cmp .ne (.call 29 false [.var 2, .var 7, .var 6]) (.var 11)]) [.ret (.con (.bl false))] []
def lt10 : S := .for (.nm 12) .seq (.var 16) (.con .non) [12] [.exp (.app (.idx (.var 12) (.con (.int 0))) (.con (.str [120])))]
def lt11 : S := .ifs (.bop false [.cmp .ne (.call 29 false [.var 2, .var 6, .var 7]) (.var 15), .cmp .ne (.call 29 false [.var 2, .var 6, .var 6]) (.lst [])]) [.ret (.con (.bl false))] []
def lI : List S := [lt0, lt1, lt2, lt3, lt4, lt5, lt6, lt7, lt8, lt9, lt10, lt11]
def ls0 : S := .asg (.nm 3) (.call 44 false [.var 0, .bin .add (.var 1) (.con (.int 2)), .con (.int 4), .con (.int 1000003)])
def ls1 : S := .asg (.nm 4) (.call 46 false [.var 0, .var 1, .bin .add (.con (.int 1)) (.bin .mod (.idx (.var 3) (.con (.int 0))) (.con (.int 8)))])
def ls2 : S := .asg (.nm 5) (.call 48 false [.var 0, .bin .add (.var 1) (.con (.int 1)), .blt .len [.var 4], .bin .mod (.idx (.var 3) (.con (.int 1))) (.con (.int 17))])
def ls3 : S := .asg (.nm 2) (.new 6 0 true [.var 4, .var 5])
def ls4 : S := .for (.nm 6) .rng2 (.con (.int 1)) (.bin .add (.blt .len [.var 4]) (.con (.int 1))) [6, 7, 13, 14, 8, 9, 10, 15, 16, 11, 12] lI
def lB : List S := [ls0, ls1, ls2, ls3, ls4]
def st18 (ns : List Int) (by_ wv dg es rs one other both more ground back mine theirs due ans : SV) : List SV := [.val (.lst (ns.map .int)), by_, wv, dg, es, rs, one, other, both, more, ground, back, .none, mine, theirs, due, ans, .none]
abbrev L18 (l : List Int) : SV := .val (.tup (l.map .int))
section
variable (ns : List Int) (bx x d0 d1 d2 d3 : Int) (es : List Ed) (rs : List Row)
abbrev D4 (d0 d1 d2 d3 : Int) : SV := .val (.lst [.int d0, .int d1, .int d2, .int d3])
abbrev s18 (one other both more ground back mine theirs due ans : SV) : List SV := st18 ns (.val (.int bx)) (.val (wvV es rs)) (D4 d0 d1 d2 d3) (.val (.lst (es.map encE))) (.val (.lst (rs.map encR))) one other both more ground back mine theirs due ans
variable (he : OkEds es) (hr : OkRows es.length rs) (hn : es.length ≤ 8) (hm : rs.length ≤ 16) (h1 : 1 ≤ x) (h2 : x ≤ es.length)
variable (oth : Int) (h3 : 1 ≤ oth) (h4 : oth ≤ es.length)
include hn h1 h2 in
theorem t0_ok (h : List O) (ho : oth = 1 + (d2 + x * d3) % es.length) : exS F54 lt0 (s18 ns bx d0 d1 d2 d3 es rs (.val (.int x)) .none .none .none .none .none .none .none .none .none) h = .nx (s18 ns bx d0 d1 d2 d3 es rs (.val (.int x)) (.val (.int oth)) .none .none .none .none .none .none .none .none) h := by
  have m1 := fun H => mul_l x d3 H (by omega)
  have hp : 0 < es.length := by omega
  unfold lt0 s18 st18
  simp [m1, mod_i, hp, ho]
include he hn h1 h2 h3 h4 in
theorem t1_ok (h : List O) : exS F54 lt1 (s18 ns bx d0 d1 d2 d3 es rs (.val (.int x)) (.val (.int oth)) .none .none .none .none .none .none .none .none) h = .nx (s18 ns bx d0 d1 d2 d3 es rs (.val (.int x)) (.val (.int oth)) .none .none .none .none (L18 (lotOf es x)) (L18 (lotOf es oth)) .none .none) h := by
  have e1 := fun H => lot_ok H he h1 h2 (by omega)
  have e2 := fun H => lot_ok H he h3 h4 (by omega)
  unfold lt1 s18 st18
  simp [e1, e2]
include he hr hn hm h1 h2 h3 h4 in
theorem t2_ok (h : List O) : exS F54 lt2 (s18 ns bx d0 d1 d2 d3 es rs (.val (.int x)) (.val (.int oth)) .none .none .none .none (L18 (lotOf es x)) (L18 (lotOf es oth)) .none .none) h = .nx (s18 ns bx d0 d1 d2 d3 es rs (.val (.int x)) (.val (.int oth)) (.val (wvV (es ++ [(x, moreOf es x oth, [])]) rs)) .none .none .none (L18 (lotOf es x)) (L18 (lotOf es oth)) .none .none) h := by
  have e1 := fun H => joined_ok (.val H es rs) he hr hn (by omega) h1 h2 h3 h4
  unfold lt2 s18 st18
  simp [e1]
theorem lot_z {es : List Ed} {x : Int} (hn : es.length ≤ 8) (h2 : x ≤ es.length) : (lotOf es x).length ≤ 1000000 := by
  have := lot_len2 (lotOf_lot' (es := es) (n := x) (Int.le_refl _)) (by omega) (by omega)
  omega
include hn h4 in
theorem t3_ok (h : List O) (both : SV) : exS F54 lt3 (s18 ns bx d0 d1 d2 d3 es rs (.val (.int x)) (.val (.int oth)) both .none .none .none (L18 (lotOf es x)) (L18 (lotOf es oth)) .none .none) h = .nx (s18 ns bx d0 d1 d2 d3 es rs (.val (.int x)) (.val (.int oth)) both (L18 (moreOf es x oth)) .none .none (L18 (lotOf es x)) (L18 (lotOf es oth)) .none .none) h := by
  have hz := lot_z (x := oth) hn h4
  unfold lt3 s18 st18
  simp [hz, moreOf]
include hr hn in
theorem t4_ok (h : List O) (one other mine theirs : SV) (mo : List Int) : exS F54 lt4 (s18 ns bx d0 d1 d2 d3 es rs (.val (.int x)) other (.val (wvV (es ++ [(x, mo, [])]) rs)) (L18 mo) .none .none mine theirs .none .none) h = .nx (s18 ns bx d0 d1 d2 d3 es rs (.val (.int x)) other (.val (wvV (es ++ [(x, mo, [])]) rs)) (L18 mo) .none .none mine theirs .none .none) (h ++ [.lst ((es ++ [(x, mo, [])]).map encE), .lst (rs.map encR)]) := by
  obtain ⟨fs, hfs⟩ : ∃ fs, es ++ [(x, mo, [])] = fs := ⟨_, rfl⟩
  have a1 : ∀ H, binV H .add (.lst (es.map encE)) (.lst [.tup [.int x, .tup (mo.map .int), .tup []]]) = some (.lst (fs.map encE)) := fun H => by
    rw [add_lst _ _ H (by simp; omega), ← hfs]
    simp
  have e1 := editions_m (.val h fs rs)
  have e2 := rows_m (.val (h ++ [.lst (fs.map encE)]) fs rs)
  have n1 := LA.ne (h := h ++ [.lst (fs.map encE)]) (x := .ref h.length) (a := fs) (b := fs) eqok_E (.ref (by simp)) (.lst _ _) (fun e _ => pl_up (pl_E e) (by decide)) (fun e _ => pl_up (pl_E e) (by decide))
  have n2 := LA.ne (h := h ++ [.lst (fs.map encE), .lst (rs.map encR)]) (x := .ref (h.length + 1)) (a := rs) (b := rs) eqok_R (.ref (by simp)) (.lst _ _) (fun e he => pl_up (pl_R (hr.okS e he)) (by decide)) (fun e he => pl_up (pl_R (hr.okS e he)) (by decide))
  rw [hfs]
  have c1 : ∀ H, clsOf H (wvV fs rs) = some 0 := fun H => rfl
  simp at e2 n1 n2
  unfold lt4 s18 st18
  simp [a1, e1, e2, n1, n2, c1]
theorem t5_ok (h : List O) (one other both more mine theirs : SV) : exS F54 lt5 (s18 ns bx d0 d1 d2 d3 es rs one other both more .none .none mine theirs .none .none) h = .nx (s18 ns bx d0 d1 d2 d3 es rs one other both more .none .none mine theirs .none .none) (h ++ [.lst (es.map encE)]) := by
  have e1 := editions_m (.val h es rs)
  have n1 := LA.ne (h := h ++ [.lst (es.map encE)]) (x := .ref h.length) (a := es) (b := es) eqok_E (.ref (by simp)) (.lst _ _) (fun e _ => pl_up (pl_E e) (by decide)) (fun e _ => pl_up (pl_E e) (by decide))
  have c1 : ∀ H, clsOf H (wvV es rs) = some 0 := fun H => rfl
  simp at n1
  unfold lt5 s18 st18
  simp [e1, n1, c1]
include hn h2 in
theorem t6_ok (h : List O) (one other both more : SV) (th : List Int) : exS F54 lt6 (s18 ns bx d0 d1 d2 d3 es rs one other both more .none .none (L18 (lotOf es x)) (L18 th) .none .none) h = .nx (s18 ns bx d0 d1 d2 d3 es rs one other both more (L18 ((lotOf es x).filter fun y => decide (y ∈ th))) .none (L18 (lotOf es x)) (L18 th) .none .none) h := by
  have hz := lot_z (x := x) hn h2
  unfold lt6 s18 st18
  simp [hz]
include he hr hn hm h1 h2 h3 h4 in
theorem t7_ok (h : List O) (both more : SV) : ∃ (l : List (Nat × T3)) (k : List O), exS F54 lt7 (s18 ns bx d0 d1 d2 d3 es rs (.val (.int x)) (.val (.int oth)) both more (L18 ((lotOf es x).filter fun y => decide (y ∈ lotOf es oth))) .none (L18 (lotOf es x)) (L18 (lotOf es oth)) .none .none) h = .nx (s18 ns bx d0 d1 d2 d3 es rs (.val (.int x)) (.val (.int oth)) both more (L18 ((lotOf es x).filter fun y => decide (y ∈ lotOf es oth))) .none (L18 (lotOf es x)) (L18 (lotOf es oth)) (.val (.lst ((clashOf es rs x oth).map encT3))) (.val (.lst (l.map fun p => refT p.1)))) (h ++ k) ∧
    l.map (·.2) = clashOf es rs x oth ∧ ∀ p ∈ l, h.length ≤ p.1 ∧ T3At (h ++ k) p.1 p.2 := by
  obtain ⟨l, k, e1, e2, e3⟩ := clashes_ok (h := h) (v := wvV es rs) (fun k => .val _ es rs) he hr (by omega) (by omega) h1 h2 h3 h4
  have e4 := lclashes_ok ((lotOf es x).filter fun y => decide (y ∈ lotOf es oth)) (lotOf es x) (lotOf es oth) h hr (by omega) (by omega)
  refine ⟨l, k, ?_, e2, e3⟩
  unfold lt7 s18 st18 clashOf
  simp [e1, e4]
theorem t8_ok (h : List O) (one other both more ground mine theirs ans : SV) (D : List T3) (hz : D.length ≤ 1000) : exS F54 lt8 (s18 ns bx d0 d1 d2 d3 es rs one other both more ground .none mine theirs (.val (.lst (D.map encT3))) ans) h = .nx (s18 ns bx d0 d1 d2 d3 es rs one other both more ground (.val (.lst ((D.map swap3).map encT3))) mine theirs (.val (.lst (D.map encT3))) ans) h := by
  have hz1 : D.length ≤ 1000000 := by omega
  unfold lt8 s18 st18
  simp [encT3, hz1]
  exact fun a b c _ => ⟨rfl, rfl, rfl⟩
include he hr hn hm h1 h2 h3 h4 in
theorem t9_ok (H : List O) (both more ground mine theirs : SV) (l : List (Nat × T3)) (hl : l.map (·.2) = clashOf es rs x oth) (ha : ∀ p ∈ l, T3At H p.1 p.2) : ∃ k,
    exS F54 lt9 (s18 ns bx d0 d1 d2 d3 es rs (.val (.int x)) (.val (.int oth)) both more ground (.val (.lst (((clashOf es rs x oth).map swap3).map encT3))) mine theirs (.val (.lst ((clashOf es rs x oth).map encT3))) (.val (.lst (l.map fun p => refT p.1)))) H = .nx (s18 ns bx d0 d1 d2 d3 es rs (.val (.int x)) (.val (.int oth)) both more ground (.val (.lst (((clashOf es rs x oth).map swap3).map encT3))) mine theirs (.val (.lst ((clashOf es rs x oth).map encT3))) (.val (.lst (l.map fun p => refT p.1)))) (H ++ k) := by
  have hD : ∀ t ∈ clashOf es rs x oth, okS3 t := clashL_ok hr.okS
  have ho : ∀ p ∈ l, okS3 p.2 := fun p hp => hD p.2 (by rw [← hl]; exact List.mem_map_of_mem hp)
  have n1 := ne_T ha ho hD
  rw [hl, decide_eq_true rfl] at n1
  obtain ⟨l', k, e1, e2, e3⟩ := clashes_ok (h := H) (v := wvV es rs) (fun k => .val _ es rs) he hr (by omega) (by omega) h3 h4 h1 h2
  have hD' : ∀ t ∈ clashOf es rs oth x, okS3 t := clashL_ok hr.okS
  have ho' : ∀ p ∈ l', okS3 p.2 := fun p hp => hD' p.2 (by rw [← e2]; exact List.mem_map_of_mem hp)
  have n2 := ne_T (fun p hp => (e3 p hp).2) ho' hD'
  rw [e2, decide_eq_true rfl, clashOf_back] at n2
  refine ⟨k, ?_⟩
  generalize (clashOf es rs x oth).map swap3 = B at n2 ⊢
  unfold lt9 s18 st18
  simp [n1, e1, n2]
theorem t10_ok (h0 K : List O) (one other both more ground back mine theirs due : SV) (l : List (Nat × T3)) (hz : l.length ≤ 1000) (ha : ∀ p ∈ l, h0.length ≤ p.1 ∧ T3At (h0 ++ K) p.1 p.2 ∧ p.2.1.length ≤ 1000) : ∃ K',
    exS F54 lt10 (s18 ns bx d0 d1 d2 d3 es rs one other both more ground back mine theirs due (.val (.lst (l.map fun p => refT p.1)))) (h0 ++ K) = .nx (s18 ns bx d0 d1 d2 d3 es rs one other both more ground back mine theirs due (.val (.lst (l.map fun p => refT p.1)))) (h0 ++ K') := by
  unfold lt10 s18 st18
  simp
  generalize hlp : loopF _ _ _ _ _ _ _ = r
  obtain ⟨K', rfl, _⟩ := loop_exH' hlp (fun _ : List O => s18 ns bx d0 d1 d2 d3 es rs one other both more ground back mine theirs due (.val (.lst (l.map fun p => refT p.1)))) (fun K => h0 ++ K)
    (fun K xs => ∀ p ∈ xs, h0.length ≤ p.1 ∧ ∃ m, (h0 ++ K)[p.1]? = some (.lst m) ∧ m.length + xs.length ≤ 900000) K rfl rfl (fun p hp => by
      obtain ⟨a1, a2, a3⟩ := ha p hp
      exact ⟨a1, _, a2.1, by rw [List.length_map]; omega⟩) (by
      intro K p xs hp
      obtain ⟨a1, m, a2, a3⟩ := hp p List.mem_cons_self
      simp only [List.length_cons] at a3
      obtain ⟨i, hi⟩ : ∃ i, p.1 = h0.length + i := ⟨p.1 - h0.length, by omega⟩
      rw [hi, get_app] at a2
      refine ⟨K.set i (.lst (m ++ [.str [120]])), ?_, fun q hq => ?_⟩
      · have hz : m.length < 1000000 := by omega
        unfold s18 st18
        simp [stepF_, refT, hi, a2, hz]
      · obtain ⟨b1, m', b2, b3⟩ := hp q (List.mem_cons_of_mem _ hq)
        simp only [List.length_cons] at b3
        refine ⟨b1, ?_⟩
        obtain ⟨j, hj⟩ : ∃ j, q.1 = h0.length + j := ⟨q.1 - h0.length, by omega⟩
        rw [hj, get_app] at b2 ⊢
        by_cases hij : i = j
        · subst hij
          rw [a2] at b2
          cases b2
          refine ⟨m ++ [.str [120]], ?_, by simp; omega⟩
          rw [List.getElem?_set_self (List.getElem?_eq_some_iff.mp a2).1]
        · exact ⟨m', by rw [List.getElem?_set_ne hij]; exact b2, by omega⟩)
  exact ⟨K', rfl⟩
include he hr hn hm h1 h2 h3 h4 in
theorem t11_ok (H : List O) (both more ground back mine theirs ans : SV) : ∃ k,
    exS F54 lt11 (s18 ns bx d0 d1 d2 d3 es rs (.val (.int x)) (.val (.int oth)) both more ground back mine theirs (.val (.lst ((clashOf es rs x oth).map encT3))) ans) H = .nx (s18 ns bx d0 d1 d2 d3 es rs (.val (.int x)) (.val (.int oth)) both more ground back mine theirs (.val (.lst ((clashOf es rs x oth).map encT3))) ans) (H ++ k) := by
  obtain ⟨l1, k1, e1, e2, e3⟩ := clashes_ok (h := H) (v := wvV es rs) (fun k => .val _ es rs) he hr (by omega) (by omega) h1 h2 h3 h4
  obtain ⟨l2, k2, f1, f2, f3⟩ := clashes_ok (h := H ++ k1) (v := wvV es rs) (fun k => .val _ es rs) he hr (by omega) (by omega) h1 h2 h1 h2
  have hD : ∀ t ∈ clashOf es rs x oth, okS3 t := clashL_ok hr.okS
  have ho : ∀ p ∈ l1, okS3 p.2 := fun p hp => hD p.2 (by rw [← e2]; exact List.mem_map_of_mem hp)
  have n1 := ne_T (fun p hp => (e3 p hp).2) ho hD
  rw [e2, decide_eq_true rfl] at n1
  have hD' : ∀ t ∈ clashOf es rs x x, okS3 t := clashL_ok hr.okS
  have ho' : ∀ p ∈ l2, okS3 p.2 := fun p hp => hD' p.2 (by rw [← f2]; exact List.mem_map_of_mem hp)
  have n2 := ne_T (D := clashOf es rs x x) (fun p hp => (f3 p hp).2) ho' hD'
  rw [f2, decide_eq_true rfl, clashOf_self] at n2
  simp only [List.append_assoc, List.map_nil] at f1 n2
  refine ⟨k1 ++ k2, ?_⟩
  unfold lt11 s18 st18
  simp [e1, n1, f1, n2]
end
theorem clash_bound {es : List Ed} {rs : List Row} {a b : Int} (t : T3) (h : t ∈ clashOf es rs a b) : t.1.length ≤ rs.length := by
  have := segs_len _ rs e3 t (List.mem_filter.mp h).1
  simpa [e3] using this
theorem segs_many (p : P3) : ∀ (rs : List Row) (c : T3), (segs p c rs).length ≤ rs.length + 1
  | [], c => by simp [segs]
  | r :: rs, c => by
    unfold segs
    split
    · have := segs_many p rs e3
      simp
      omega
    · have := segs_many p rs (addT p c r)
      simp
      omega
theorem clash_many (es : List Ed) (rs : List Row) (a b : Int) : (clashOf es rs a b).length ≤ rs.length + 1 := Nat.le_trans (List.length_filter_le _ _) (segs_many _ rs e3)
theorem inner_ok (ns : List Int) (bx x d0 d1 d2 d3 : Int) (es : List Ed) (rs : List Row) (he : OkEds es) (hr : OkRows es.length rs) (hn : es.length ≤ 8) (hm : rs.length ≤ 16) (h1 : 1 ≤ x) (h2 : x ≤ es.length) (h : List O) :
    ∃ k, stepF F54 (.nm 6) [6, 7, 13, 14, 8, 9, 10, 15, 16, 11, 12] lI (.int x) (s18 ns bx d0 d1 d2 d3 es rs .none .none .none .none .none .none .none .none .none .none) h = .nx (s18 ns bx d0 d1 d2 d3 es rs .none .none .none .none .none .none .none .none .none .none) (h ++ k) := by
  have hp : (0 : Int) < es.length := by omega
  obtain ⟨oth, ho⟩ : ∃ oth : Int, oth = 1 + (d2 + x * d3) % es.length := ⟨_, rfl⟩
  have h3 : 1 ≤ oth := by have := Int.emod_nonneg (d2 + x * d3) (show (es.length : Int) ≠ 0 by omega); omega
  have h4 : oth ≤ es.length := by have := Int.emod_lt_of_pos (d2 + x * d3) hp; omega
  have e0 := t0_ok ns bx x d0 d1 d2 d3 es rs hn h1 h2 oth h ho
  have e1 := t1_ok ns bx x d0 d1 d2 d3 es rs he hn h1 h2 oth h3 h4 h
  have e2 := t2_ok ns bx x d0 d1 d2 d3 es rs he hr hn hm h1 h2 oth h3 h4 h
  have e3 := t3_ok ns bx x d0 d1 d2 d3 es rs hn oth h4 h (.val (wvV (es ++ [(x, moreOf es x oth, [])]) rs))
  have e4 := t4_ok ns bx x d0 d1 d2 d3 es rs hr hn h .none (.val (.int oth)) (L18 (lotOf es x)) (L18 (lotOf es oth)) (moreOf es x oth)
  obtain ⟨B, hB⟩ : ∃ B, SV.val (wvV (es ++ [(x, moreOf es x oth, [])]) rs) = B := ⟨_, rfl⟩
  rw [hB] at e2 e3 e4
  obtain ⟨H4, hH4⟩ : ∃ H4, h ++ [O.lst ((es ++ [(x, moreOf es x oth, [])]).map encE), .lst (rs.map encR)] = H4 := ⟨_, rfl⟩
  have e5 := t5_ok ns bx d0 d1 d2 d3 es rs H4 (.val (.int x)) (.val (.int oth)) B (L18 (moreOf es x oth)) (L18 (lotOf es x)) (L18 (lotOf es oth))
  obtain ⟨H5, hH5⟩ : ∃ H5, H4 ++ [O.lst (es.map encE)] = H5 := ⟨_, rfl⟩
  have e6 := t6_ok ns bx x d0 d1 d2 d3 es rs hn h2 H5 (.val (.int x)) (.val (.int oth)) B (L18 (moreOf es x oth)) (lotOf es oth)
  obtain ⟨l, k7, e7, l1, l2⟩ := t7_ok ns bx x d0 d1 d2 d3 es rs he hr hn hm h1 h2 oth h3 h4 H5 B (L18 (moreOf es x oth))
  have hcm := clash_many es rs x oth
  have e8 := t8_ok ns bx d0 d1 d2 d3 es rs (H5 ++ k7) (.val (.int x)) (.val (.int oth)) B (L18 (moreOf es x oth)) (L18 ((lotOf es x).filter fun y => decide (y ∈ lotOf es oth))) (L18 (lotOf es x)) (L18 (lotOf es oth)) (.val (.lst (l.map fun p => refT p.1))) (clashOf es rs x oth) (by omega)
  obtain ⟨k9, e9⟩ := t9_ok ns bx x d0 d1 d2 d3 es rs he hr hn hm h1 h2 oth h3 h4 (H5 ++ k7) B (L18 (moreOf es x oth)) (L18 ((lotOf es x).filter fun y => decide (y ∈ lotOf es oth))) (L18 (lotOf es x)) (L18 (lotOf es oth)) l l1 (fun p hp => (l2 p hp).2)
  have hlz : l.length = (clashOf es rs x oth).length := by rw [← l1, List.length_map]
  obtain ⟨K, e10⟩ := t10_ok ns bx d0 d1 d2 d3 es rs H5 (k7 ++ k9) (.val (.int x)) (.val (.int oth)) B (L18 (moreOf es x oth)) (L18 ((lotOf es x).filter fun y => decide (y ∈ lotOf es oth))) (.val (.lst (((clashOf es rs x oth).map swap3).map encT3))) (L18 (lotOf es x)) (L18 (lotOf es oth)) (.val (.lst ((clashOf es rs x oth).map encT3))) l (by omega) (fun p hp => by
    obtain ⟨a1, a2⟩ := l2 p hp
    refine ⟨a1, ?_, ?_⟩
    · rw [← List.append_assoc]
      exact a2.mono
    · have := clash_bound (es := es) (rs := rs) (a := x) (b := oth) p.2 (by rw [← l1]; exact List.mem_map_of_mem hp)
      omega)
  obtain ⟨k11, e11⟩ := t11_ok ns bx x d0 d1 d2 d3 es rs he hr hn hm h1 h2 oth h3 h4 (H5 ++ K) B (L18 (moreOf es x oth)) (L18 ((lotOf es x).filter fun y => decide (y ∈ lotOf es oth))) (.val (.lst (((clashOf es rs x oth).map swap3).map encT3))) (L18 (lotOf es x)) (L18 (lotOf es oth)) (.val (.lst (l.map fun p => refT p.1)))
  have hset : setT (.nm 6) (.int x) (s18 ns bx d0 d1 d2 d3 es rs .none .none .none .none .none .none .none .none .none .none) = some (s18 ns bx d0 d1 d2 d3 es rs (.val (.int x)) .none .none .none .none .none .none .none .none .none) := rfl
  have hw : ∀ v1 v2 v3 v4 v5 v6 v7 v8 v9 v10 : SV, wipe (s18 ns bx d0 d1 d2 d3 es rs v1 v2 v3 v4 v5 v6 v7 v8 v9 v10) [6, 7, 13, 14, 8, 9, 10, 15, 16, 11, 12] = s18 ns bx d0 d1 d2 d3 es rs .none .none .none .none .none .none .none .none .none .none := fun _ _ _ _ _ _ _ _ _ _ => rfl
  rw [hH4] at e4
  rw [hH5] at e5
  rw [List.append_assoc] at e9
  refine ⟨O.lst ((es ++ [(x, moreOf es x oth, [])]).map encE) :: .lst (rs.map encR) :: .lst (es.map encE) :: (K ++ k11), ?_⟩
  rw [stepF_, hset, ofO_some]
  have hl : lI = [lt0, lt1, lt2, lt3, lt4, lt5, lt6, lt7, lt8, lt9, lt10, lt11] := rfl
  rw [hl, exL_step e0, exL_step e1, exL_step e2, exL_step e3, exL_step e4, exL_step e5, exL_step e6, exL_step e7, exL_step e8, exL_step e9, exL_step e10, exL_step e11, exL_nil, wipeN_nx, hw, ← hH5, ← hH4]
  simp
theorem body_ok (ns : List Int) (x : Int) (h : List O) (hx : 0 ≤ x) : ∃ k, stepF F54 (.nm 1) [1, 3, 4, 5, 2, 6, 7, 13, 14, 8, 9, 10, 15, 16, 11, 12] lB (.int x) (st18 ns .none .none .none .none .none .none .none .none .none .none .none .none .none .none .none) h = .nx (st18 ns .none .none .none .none .none .none .none .none .none .none .none .none .none .none .none) (h ++ k) := by
  obtain ⟨dl, e0, dlen, dpos⟩ := digits_ok ns (x + 2) 4 1000003 h (by omega) (by decide) (by decide) (by decide) (by decide)
  match dl, dlen with
  | [d0, d1, d2, d3], _ =>
    have q0 : 0 ≤ d0 ∧ d0 < 1000003 := dpos d0 (by simp)
    have q1 : 0 ≤ d1 ∧ d1 < 1000003 := dpos d1 (by simp)
    have r0 := Int.emod_lt_of_pos d0 (show (0 : Int) < 8 by decide)
    have r0' := Int.emod_nonneg d0 (show (8 : Int) ≠ 0 by decide)
    have r1 := Int.emod_lt_of_pos d1 (show (0 : Int) < 17 by decide)
    have r1' := Int.emod_nonneg d1 (show (17 : Int) ≠ 0 by decide)
    obtain ⟨es, e1, he1, he⟩ := editions_ok ns x (1 + d0 % 8) h hx (by omega) (by omega)
    obtain ⟨rs, e2, he2, hrs⟩ := rows_ok ns (x + 1) es.length (d1 % 17) h (by omega) (by omega) (by omega) r1' (by omega)
    have hr : OkRows es.length rs := fun r hr => (hrs r hr).1
    have hn : es.length ≤ 8 := by omega
    have hm : rs.length ≤ 16 := by split at he2 <;> omega
    have e3 := new_pure (es := es) (rs := rs) h he hr (by omega) (by omega)
    obtain ⟨k, e4⟩ : ∃ k, exS F54 ls4 (s18 ns x d0 d1 d2 d3 es rs .none .none .none .none .none .none .none .none .none .none) h = .nx (s18 ns x d0 d1 d2 d3 es rs .none .none .none .none .none .none .none .none .none .none) (h ++ k) := by
      unfold ls4 s18 st18
      simp [rng2_t 1 (es.length + 1) (by omega)]
      generalize hlp : loopF _ _ _ _ _ _ _ = r
      obtain ⟨k, rfl, _⟩ := loop_exH' hlp (fun _ : List O => s18 ns x d0 d1 d2 d3 es rs .none .none .none .none .none .none .none .none .none .none) (fun k => h ++ k) (fun _ xs => ∀ y ∈ xs, (1 : Int) ≤ y ∧ y ≤ es.length) [] rfl (by simp) (fun y hy => by have := (rngI_mem _ _ _).mp hy; omega) (by
        intro k y xs hy
        obtain ⟨k', e⟩ := inner_ok ns x y d0 d1 d2 d3 es rs he hr hn hm (hy y List.mem_cons_self).1 (hy y List.mem_cons_self).2 (h ++ k)
        exact ⟨k ++ k', by rw [e, List.append_assoc], fun z hz => hy z (List.mem_cons_of_mem _ hz)⟩)
      exact ⟨k, rfl⟩
    refine ⟨k, ?_⟩
    have f0 : exS F54 ls0 (st18 ns (.val (.int x)) .none .none .none .none .none .none .none .none .none .none .none .none .none .none) h = .nx (st18 ns (.val (.int x)) .none (D4 d0 d1 d2 d3) .none .none .none .none .none .none .none .none .none .none .none .none) h := by
      simp at e0
      unfold ls0 st18
      simp [e0]
    have f1 : exS F54 ls1 (st18 ns (.val (.int x)) .none (D4 d0 d1 d2 d3) .none .none .none .none .none .none .none .none .none .none .none .none) h = .nx (st18 ns (.val (.int x)) .none (D4 d0 d1 d2 d3) (.val (.lst (es.map encE))) .none .none .none .none .none .none .none .none .none .none .none) h := by
      unfold ls1 st18 D4
      simp [mod_i, e1]
    have f2 : exS F54 ls2 (st18 ns (.val (.int x)) .none (D4 d0 d1 d2 d3) (.val (.lst (es.map encE))) .none .none .none .none .none .none .none .none .none .none .none) h = .nx (st18 ns (.val (.int x)) .none (D4 d0 d1 d2 d3) (.val (.lst (es.map encE))) (.val (.lst (rs.map encR))) .none .none .none .none .none .none .none .none .none .none) h := by
      unfold ls2 st18 D4
      simp [mod_i, e2]
    have f3 : exS F54 ls3 (st18 ns (.val (.int x)) .none (D4 d0 d1 d2 d3) (.val (.lst (es.map encE))) (.val (.lst (rs.map encR))) .none .none .none .none .none .none .none .none .none .none) h = .nx (s18 ns x d0 d1 d2 d3 es rs .none .none .none .none .none .none .none .none .none .none) h := by
      unfold ls3 s18 st18
      simp [e3]
    have hset : setT (.nm 1) (.int x) (st18 ns .none .none .none .none .none .none .none .none .none .none .none .none .none .none .none) = some (st18 ns (.val (.int x)) .none .none .none .none .none .none .none .none .none .none .none .none .none .none) := rfl
    have hl : lB = [ls0, ls1, ls2, ls3, ls4] := rfl
    rw [stepF_, hset, ofO_some, hl, exL_step f0, exL_step f1, exL_step f2, exL_step f3, exL_step e4, exL_nil, wipeN_nx]
    rfl
def zE : List Ed := [(0, [], []), (1, [], []), (1, [], [])]
def zR : List Row := [(1, [2], [97]), (2, [], [98]), (3, [], [99]), (1, [], [100])]
theorem zE_ok : OkEds zE := okEsB_ok (by decide)
def okRB (n : Int) (r : Row) : Bool := decide (1 ≤ r.1) && decide (r.1 ≤ n) && isLotB r.2.1 (r.1 + 1) n && decide (r.2.2.length ≤ 60) && !decide (10 ∈ r.2.2) && r.2.2.all fun c => decide (c < 1114112)
theorem okRB_ok {n : Int} {rs : List Row} (h : (rs.all fun r => okRB n r) = true) : OkRows n rs := fun r hr => by
  have h := List.all_eq_true.mp h r hr
  unfold okRB at h
  simp only [Bool.and_eq_true, decide_eq_true_eq, Bool.not_eq_true', decide_eq_false_iff_not] at h
  obtain ⟨⟨⟨⟨⟨g1, g2⟩, g3⟩, g4⟩, g5⟩, g6⟩ := h
  exact ⟨g1, g2, (isLotB_iff _ _ _).mp g3, g4, g5, g6⟩
theorem zR_ok : OkRows (zE.length : Int) zR := okRB_ok (by decide)
theorem law_ok (ns : List Int) (hns : ns.length ≤ 63) : ∃ hp, f_law [.rol (ns.map .int)] [] = .ok (.bl true) hp := by
  have hbl : b_law = .asg (.nm 0) (.slc .hi (.var 0) (.con .non) (.con (.int 63))) :: .for (.nm 1) .rng1 (.blt .max [.con (.int 1), .blt .min [.con (.int 8), .blt .len [.var 0]]]) (.con .non) [1, 3, 4, 5, 2, 6, 7, 13, 14, 8, 9, 10, 15, 16, 11, 12] lB :: b_law.drop 2 := rfl
  have hcut : (ns.map MV.int).take 63 = ns.map MV.int := List.take_of_length_le (by rw [List.length_map]; exact hns)
  have hm : ∃ m : Int, (if (if (ns.length : Int) < 8 then (ns.length : Int) else 8) > 1 then (if (ns.length : Int) < 8 then (ns.length : Int) else 8) else 1) = m ∧ 0 ≤ m ∧ m ≤ 10 := ⟨_, rfl, by split <;> split <;> omega, by split <;> split <;> omega⟩
  obtain ⟨m, hm, hm0, hm1⟩ := hm
  unfold f_law
  rw [hbl]
  simp only [gt_iff_lt] at hm
  simp [run_def, hcut, hm, rng1_t m (by omega)]
  generalize hlp : loopF _ _ _ _ _ _ _ = r
  obtain ⟨h1, rfl, _⟩ := loop_exH' hlp (fun _ : List O => st18 ns .none .none .none .none .none .none .none .none .none .none .none .none .none .none .none) (fun h => h) (fun _ xs => ∀ y ∈ xs, (0 : Int) ≤ y) [] rfl rfl (fun y hy => ((rngI_mem _ _ _).mp hy).1) (by
    intro h y xs hy
    obtain ⟨k, e⟩ := body_ok ns y h (hy y List.mem_cons_self)
    exact ⟨h ++ k, e, fun z hz => hy z (List.mem_cons_of_mem _ hz)⟩)
  have e1 := new_pure (es := zE) (rs := zR) h1 zE_ok zR_ok (by decide) (by decide)
  obtain ⟨l, k, e2, e3, e4⟩ := clashes_ok (h := h1) (v := wvV zE zR) (one := 2) (other := 3) (fun k => .val _ zE zR) zE_ok zR_ok (by decide) (by decide) (by decide) (by decide) (by decide) (by decide)
  have hD : ∀ t ∈ clashOf zE zR 2 3, okS3 t := clashL_ok zR_ok.okS
  have ho : ∀ p ∈ l, okS3 p.2 := fun p hp => hD p.2 (by rw [← e3]; exact List.mem_map_of_mem hp)
  have n1 := eq_T (fun p hp => (e4 p hp).2) ho hD
  rw [e3, decide_eq_true rfl, show clashOf zE zR 2 3 = [([[97]], [[98]], [[97], [99]])] by decide] at n1
  have e5 := joined_ok (h := h1 ++ k) (one := 2) (other := 3) (.val _ zE zR) zE_ok zR_ok (by decide) (by decide) (by decide) (by decide) (by decide) (by decide)
  have e6 := lot_of_t (h := h1 ++ k) (n := 4) (.val _ (zE ++ [(2, moreOf zE 2 3, [])]) zR) (okEsB_ok (by decide)) (by decide) (by decide) (by decide)
  rw [show lotOf (zE ++ [(2, moreOf zE 2 3, [])]) 4 = [1, 2, 3, 4] by decide] at e6
  have n2 := cmp_eq (h := h1 ++ k) (snap_pl (pl_lot [1, 2, 3, 4]) (by decide) _) (snap_pl (pl_lot [1, 2, 3, 4]) (by decide) _)
  rw [eqok_lot] at n2
  refine ⟨h1 ++ k, ?_⟩
  obtain ⟨W, hW⟩ : ∃ W, wvV zE zR = W := ⟨_, rfl⟩
  obtain ⟨W2, hW2⟩ : ∃ W, wvV (zE ++ [(2, moreOf zE 2 3, [])]) zR = W := ⟨_, rfl⟩
  rw [hW2] at e5 e6
  rw [hW] at e1 e2 e5
  unfold zE zR at e1
  simp [encT3] at e1 n1 e6 n2
  unfold b_law st18
  simp [e1, e2, n1, e5, e6, n2]
end k05
end MP
end

section
set_option Elab.async false
set_option linter.all false
set_option maxRecDepth 100000
set_option maxHeartbeats 1000000
/-! ### S1: all lots, what parts two weaves (k04) -/
namespace MP
open MP.k01 (encL)
/-- the lots of so many, as they grow -/
def growL (s : List (List Int)) (x : Int) : List (List Int) := s ++ s.map (· ++ [x])
def lotsN (n : Int) : List (List Int) := (rngI 1 n.toNat).foldl growL [[]]
def lotsS (n : Int) : List (List Int) := sortLots (lotsN n)
theorem growL_len (s : List (List Int)) (x : Int) : (growL s x).length = 2 * s.length := by
  unfold growL
  rw [List.length_append, List.length_map]
  omega
theorem lotsOf_map : ∀ ls : List (List Int), lotsOf (ls.map encL) = some ls
  | [] => rfl
  | l :: ls => by
    show (intsOf (l.map .int)).bind (fun ns => (lotsOf (ls.map encL)).map (ns :: ·)) = _
    rw [intsOf_map, lotsOf_map ls]
    rfl
theorem srtV_lots (ls : List (List Int)) (h : List O) (hz : ls.length ≤ 1000000) : srtV (.lst (ls.map encL)) h = .ok (.lst ((sortLots ls).map encL)) h := by
  unfold srtV
  have : lookL h (.lst (ls.map encL)) = some (ls.map encL) := rfl
  rw [this]
  show optR (lotsOf (ls.map encL)) _ = _
  rw [lotsOf_map]
  exact if_pos hz
@[simp] theorem ev_srtL (Fs : List Fn) (rho : List SV) (h : List O) (t : Nat) (e : E) : ev Fs (.srtL t e) rho h = (ev Fs e rho h).bind fun x h1 => srtV x h1 := (rfl)
theorem sortLots_mem (ls : List (List Int)) (l : List Int) : l ∈ sortLots ls ↔ l ∈ ls := (List.mergeSort_perm ls lotLe).mem_iff
theorem lotsN_mem : ∀ (n : Nat) (l : List Int), l ∈ lotsN n → l.length ≤ n := by
  intro n
  unfold lotsN
  rw [Int.toNat_natCast]
  have gen : ∀ (xs : List Int) (s : List (List Int)) (k : Nat), (∀ l ∈ s, l.length ≤ k) → ∀ l ∈ xs.foldl growL s, l.length ≤ k + xs.length := by
    intro xs
    induction xs with
    | nil => intro s k h l hl; exact h l hl
    | cons x xs ih =>
      intro s k h l hl
      have := ih (growL s x) (k + 1) (fun l hl => by
        unfold growL at hl
        rcases List.mem_append.mp hl with hl | hl
        · have := h l hl; omega
        · obtain ⟨u, hu, rfl⟩ := List.mem_map.mp hl
          have := h u hu
          simp
          omega) l hl
      simp only [List.length_cons]
      omega
  intro l hl
  have := gen (rngI 1 n) [[]] 0 (by simp) l hl
  rw [rngI_len] at this
  omega
theorem lotsN_len {n : Int} (h0 : 0 ≤ n) (h1 : n ≤ 9) : (lotsN n).length ≤ 1000000 := by
  have gen : ∀ (xs : List Int) (s : List (List Int)), (xs.foldl growL s).length = s.length * 2 ^ xs.length := by
    intro xs
    induction xs with
    | nil => intro s; simp
    | cons x xs ih =>
      intro s
      rw [List.foldl_cons, ih, growL_len, List.length_cons, Nat.pow_succ, Nat.mul_comm 2, Nat.mul_assoc, Nat.mul_comm 2]
  unfold lotsN
  rw [gen, rngI_len]
  have : n.toNat ≤ 9 := by omega
  have := Nat.pow_le_pow_right (show 0 < 2 by decide) this
  simp
  omega
theorem lots_body {Fs : List Fn} {n : Int} (h : List O) (h0 : 0 ≤ n) (h1 : n ≤ 9) :
    endR (exL Fs [.asg (.nm 1) (.lst [.tup []]), .for (.nm 2) .rng2 (.con (.int 1)) (.bin .add (.var 0) (.con (.int 1))) [2] [.asg (.nm 1) (.bin .add (.var 1) (.comp false (.bin .add (.var 3) (.tup [.var 2])) (.nm 3) [3] .seq (.var 1) (.con .non) []))], .ret (.srtL 0 (.var 1))] [.val (.int n), .none, .none, .none] h) = .ok (.lst ((lotsS n).map encL)) h := by
  simp [rng2_t 1 (n + 1) (by omega)]
  generalize hlp : loopF _ _ _ _ _ _ _ = r
  have e1 := loop_fold' hlp (fun s : List (List Int) => [.val (.int n), .val (.lst (s.map encL)), .none, .none])
    growL (fun s xs => s.length * 2 ^ xs.length ≤ 512 ∧ (xs.length ≤ 9) ∧ ∀ l ∈ s, l.length + xs.length ≤ 9) [[]] rfl ⟨by
      rw [rngI_len]
      have : n.toNat ≤ 9 := by omega
      have := Nat.pow_le_pow_right (show 0 < 2 by decide) this
      simp
      omega, by rw [rngI_len]; omega, by simp; omega⟩ (by
      rintro s x xs ⟨p1, p2, p3⟩
      have hs : s.length ≤ 512 := Nat.le_trans (Nat.le_mul_of_pos_right _ (Nat.pow_pos (by decide))) p1
      have had : ∀ l ∈ s, ∀ H, binV H .add (encL l) (.tup [.int x]) = some (encL (l ++ [x])) := fun l hl H => by
        have := p3 l hl
        rw [add_tup _ _ H (by simp; simp at this; omega)]
        simp
      have had2 : ∀ H, binV H .add (.lst (s.map encL)) (.lst (s.map fun l => encL (l ++ [x]))) = some (.lst ((growL s x).map encL)) := fun H => by
        rw [add_lst _ _ H (by simp; omega)]
        unfold growL
        simp [Function.comp_def]
      refine ⟨?_, ?_, by simp at p2; omega, ?_⟩
      · simp only [stepF_]
        simp
        rw [compT_all (g := fun l => encL (l ++ [x])) _ fun l hl => by
          have := had l hl h
          simp only [encL] at this
          simp [this]]
        have had2' := had2 h
        simp only [encL] at had2'
        simp [had2', show s.length ≤ 1000000 by omega]
      · rw [growL_len]
        simp only [List.length_cons, Nat.pow_succ] at p1
        rw [Nat.mul_comm 2, Nat.mul_assoc, Nat.mul_comm 2]
        exact p1
      · intro l hl
        simp only [List.length_cons] at p3
        unfold growL at hl
        rcases List.mem_append.mp hl with hl | hl
        · have := p3 l hl; omega
        · obtain ⟨u, hu, rfl⟩ := List.mem_map.mp hl
          have := p3 u hu
          simp
          omega)
  subst e1
  have hl : ((rngI 1 n.toNat).foldl growL [[]]).length ≤ 1000000 := lotsN_len h0 h1
  have := srtV_lots _ h hl
  simp [this, lotsS, lotsN]
end MP
end

section
set_option Elab.async false
set_option linter.all false
set_option maxRecDepth 100000
set_option maxHeartbeats 1000000
/-! ### S2: the law k04 -/
namespace MP
/-- a loop that ends the def at the first item that is found -/
theorem loop_find {α : Type} {Fs : List Fn} {t : T} {ks : List Nat} {b : List S} {h : List O} {rho : List SV} (enc : α → MV) (p : α → Bool) (v : α → MV) : ∀ (l : List α),
    (∀ x ∈ l, stepF Fs t ks b (enc x) rho h = if p x then .rt (v x) h else .nx rho h) → loopF Fs t ks b (l.map enc) rho h = match l.find? p with
      | some x => .rt (v x) h
      | none => .nx rho h
  | [], _ => rfl
  | x :: xs, hs => by
    have h1 := hs x List.mem_cons_self
    have h2 := loop_find enc p v xs fun y hy => hs y (List.mem_cons_of_mem _ hy)
    show (stepF Fs t ks b (enc x) rho h).seq (fun r h1 => loopF Fs t ks b (xs.map enc) r h1) = _
    rw [h1]
    cases e : p x with
    | true => simp [e]
    | false => simp [h2, e]
theorem loop_find' {α : Type} {Fs : List Fn} {t : T} {ks : List Nat} {b : List S} {h : List O} {enc : α → MV} {l : List α} {rho : List SV} {r : SR} (hr : loopF Fs t ks b (l.map enc) rho h = r) (p : α → Bool) (v : α → MV)
    (hs : ∀ x ∈ l, stepF Fs t ks b (enc x) rho h = if p x then .rt (v x) h else .nx rho h) : r = match l.find? p with
      | some x => .rt (v x) h
      | none => .nx rho h := by
  rw [← hr]
  exact loop_find enc p v l hs
/-- whether a lot parts two lists of rows -/
def partsB (rs rs' : List Row) (l : List Int) : Bool := !decide (textOf rs l = textOf rs' l)
theorem partsB_comm (rs rs' : List Row) : partsB rs rs' = partsB rs' rs := funext fun l => by
  unfold partsB
  by_cases h : textOf rs l = textOf rs' l
  · simp [h]
  · have h2 : ¬ textOf rs' l = textOf rs l := fun z => h z.symm
    simp [h, h2]
def optL : Option (List Int) → MV
  | some l => .tup (l.map .int)
  | none => .non
theorem textOf_ok {rs : List Row} {l : List Int} (h : ∀ r ∈ rs, okS r.2.2) : ∀ s ∈ textOf rs l, okS s := fun s hs => by
  obtain ⟨r, hr, rfl⟩ := List.mem_map.mp hs
  exact h r (List.mem_filter.mp hr).1
namespace k04
open MP.k01
theorem all_lots_ok {n : Int} (h : List O) (h0 : 0 ≤ n) (h1 : n ≤ 9) : f_all_lots [.int n] h = .ok (.lst ((lotsS n).map encL)) h := by
  unfold f_all_lots
  exact (run_def _ _ _ _ _ _ rfl).trans (lots_body h h0 h1)
theorem llots_ok {n : Int} (h : List O) (h0 : 0 ≤ n) (h1 : n ≤ 9) : f__law_lots [.int n] h = .ok (.lst ((lotsS n).map encL)) h := by
  unfold f__law_lots
  exact (run_def _ _ _ _ _ _ rfl).trans (lots_body h h0 h1)
theorem lis_told_ok (r : Row) (l : List Int) (h : List O) (hz : r.2.1.length ≤ 1000000) : f__law_is_told [encR r, .tup (l.map .int)] h = .ok (.bl (isToldB r l)) h := MP.k01.lis_told_ok r l h hz
theorem ltext_ok {n : Int} {rs : List Row} (l : List Int) (h : List O) (ok : OkRows n rs) (hn : n ≤ 1000) (hz : rs.length ≤ 1000000) : f__law_text [.lst (rs.map encR), .tup (l.map .int)] h = .ok (.lst ((textOf rs l).map .str)) h := by
  unfold f__law_text b__law_text
  simp [run_def]
  rw [compT_mem (p := fun r : Row => isToldB r l) (g := fun r => .str r.2.2) rs fun r hr => by
    have := lis_told_ok r l h (by have := okRow_len (ok r hr) hn; omega)
    simp only [encR_] at this
    by_cases hq : isToldB r l = true <;> simp [this, hq]]
  simp [hz, textOf]
theorem apart_ok {h : List O} {v v' : MV} {es es' : List Ed} {rs rs' : List Row} (w : WvAt h v es rs) (w' : WvAt h v' es' rs') (ok : OkRows es.length rs) (ok' : OkRows es'.length rs') (hl : es'.length = es.length) (hn : es.length ≤ 9) (hm : rs.length ≤ 200) (hm' : rs'.length ≤ 200) :
    f_apart [v, v'] h = .ok (optL ((lotsS es.length).find? (partsB rs rs'))) h := by
  have ha := all_lots_ok (n := es.length) h (by omega) (by omega)
  have t1 := fun l => told_rows_t (l := l) w ok (by omega) (by omega)
  have t2 := fun l => told_rows_t (l := l) w' ok' (by omega) (by omega)
  unfold f_apart b_apart
  simp [run_def, w.f0, w'.f0, hl, ha]
  generalize hlp : loopF _ _ _ _ _ _ _ = r
  have e1 := loop_find' hlp (partsB rs rs') encL fun l hl => by
    have hz1 : (rs.filter fun r => isToldB r l).length ≤ 1000000 := filt_lim (by omega)
    have hz2 : (rs'.filter fun r => isToldB r l).length ≤ 1000000 := filt_lim (by omega)
    have hne := ne_strs (x := textOf rs l) (y := textOf rs' l) h (textOf_ok ok.okS) (textOf_ok ok'.okS)
    unfold partsB
    obtain ⟨b, hb⟩ : ∃ b, decide (textOf rs l = textOf rs' l) = b := ⟨_, rfl⟩
    rw [hb] at hne ⊢
    simp only [textOf, List.map_map, Function.comp_def] at hne
    simp [stepF_, t1, t2, hz1, hz2, hne]
    cases b <;> simp
  subst e1
  cases (lotsS es.length).find? (partsB rs rs') <;> simp [optL]
end k04
end MP
end

section
set_option Elab.async false
set_option linter.all false
set_option maxRecDepth 100000
set_option maxHeartbeats 1000000
/-! ### S3: other rows (k04) -/
namespace MP
theorem isLot_drop {lo hi : Int} {l : List Int} (h : IsLot lo hi l) (n : Nat) : IsLot lo hi (l.drop n) := ⟨h.1.sublist (List.drop_sublist n l), fun x hx => h.2 x (List.mem_of_mem_drop hx)⟩
theorem isLot_init {lo hi : Int} {l : List Int} (h : IsLot lo hi l) : IsLot lo hi l.dropLast := ⟨h.1.sublist (List.dropLast_sublist l), fun x hx => h.2 x (List.dropLast_subset l hx)⟩
theorem isLot_snoc {lo hi : Int} {l : List Int} (h : IsLot lo hi l) (hn : hi ∉ l) (hlo : lo ≤ hi) : IsLot lo hi (l ++ [hi]) := by
  refine ⟨List.pairwise_append.mpr ⟨h.1, List.pairwise_singleton _ _, fun x hx y hy => ?_⟩, fun x hx => ?_⟩
  · rw [List.mem_singleton.mp hy]
    have := (h.2 x hx).2
    have : x ≠ hi := fun z => hn (z ▸ hx)
    omega
  · rcases List.mem_append.mp hx with hx | hx
    · exact h.2 x hx
    · rw [List.mem_singleton.mp hx]
      omega
theorem okRow_with {n : Int} {o : Int} {st st' : List Int} {t t' : Str} (h : OkRow n (o, st, t)) (hs : IsLot (o + 1) n st') (ht : okT t') : OkRow n (o, st', t') := ⟨h.o0, h.o1, hs, ht⟩
theorem add_rows (a b : List Row) (h : List O) (hz : a.length + b.length ≤ 1000000) : binV h .add (.lst (a.map encR)) (.lst (b.map encR)) = some (.lst ((a ++ b).map encR)) := by
  rw [add_lst _ _ h (by simpa using hz), List.map_append]
theorem slc_hi_rows (l : List Row) (a : Int) (h : List O) (ha : 0 ≤ a) : slcV h .hi (.lst (l.map encR)) none (some a) = some (.lst ((l.take a.toNat).map encR)) := by
  rw [slcV_hi_l, cut_hi _ _ ha, List.map_take]
theorem slc_lo_rows (l : List Row) (a : Int) (h : List O) (ha : 0 ≤ a) : slcV h .lo (.lst (l.map encR)) (some a) none = some (.lst ((l.drop a.toNat).map encR)) := by
  rw [slcV_lo_l, cut_lo _ _ ha, List.map_drop]
theorem around {Fs : List Fn} {rho : List SV} {h : List O} {rs x : List Row} {a k : Int} {e : E} (g0 : getV rho 0 = some (.lst (rs.map encR))) (g4 : getV rho 4 = some (.int a)) (he : ev Fs e rho h = .ok (.lst (x.map encR)) h) (ha : 0 ≤ a) (hk : 0 ≤ k) (hz : rs.length ≤ 1000) (hx : x.length ≤ 1000) :
    ev Fs (.bin .add (.bin .add (.slc .hi (.var 0) (.con .non) (.var 4)) e) (.slc .lo (.var 0) (.bin .add (.var 4) (.con (.int k))) (.con .non))) rho h = .ok (.lst ((rs.take a.toNat ++ x ++ rs.drop (a + k).toNat).map encR)) h := by
  have e1 := slc_hi_rows rs a h ha
  have e2 := slc_lo_rows rs (a + k) h (by omega)
  have e3 := add_rows (rs.take a.toNat) x h (by rw [List.length_take]; omega)
  have e4 := add_rows (rs.take a.toNat ++ x) (rs.drop (a + k).toNat) h (by simp; omega)
  simp only [ev_bin, ev_slc, ev_var, ev_con, hasLo_hi, hasHi_hi, hasLo_lo, hasHi_lo, optP_f, optP_t, g0, g4, of_some', bind_ok', optQ_i, add_i', e1, e2, e3, e4, he]
theorem ifs_ret {Fs : List Fn} {c e : E} {rho : List SV} {h : List O} {b : Bool} (hc : ev Fs c rho h = .ok (.bl b) h) : exS Fs (.ifs c [.ret e] []) rho h = if b = true then SR.ofR (ev Fs e rho h) rho (fun v h1 => .rt v h1) else .nx rho h := by
  rw [exS_ifs, hc]
  cases b
  · simp
  · simp
    cases ev Fs e rho h <;> rfl
theorem exL_rt {Fs : List Fn} {s : S} {ss : List S} {rho : List SV} {h h' : List O} {v : MV} (e : exS Fs s rho h = .rt v h') : exL Fs (s :: ss) rho h = .rt v h' := by
  rw [exL_cons, e, seq_rt]
theorem okRows_app {n : Int} {a b : List Row} (ha : OkRows n a) (hb : OkRows n b) : OkRows n (a ++ b) := fun r hr => by
  rcases List.mem_append.mp hr with hr | hr
  · exact ha r hr
  · exact hb r hr
theorem okRows_one {n : Int} {r : Row} (h : OkRow n r) : OkRows n [r] := fun q hq => by
  rw [List.mem_singleton.mp hq]
  exact h
theorem okRows_take {n : Int} {a : List Row} (ha : OkRows n a) (k : Nat) : OkRows n (a.take k) := fun r hr => ha r (List.mem_of_mem_take hr)
theorem okRows_drop {n : Int} {a : List Row} (ha : OkRows n a) (k : Nat) : OkRows n (a.drop k) := fun r hr => ha r (List.mem_of_mem_drop hr)
namespace k04
open MP.k01
def os0 : S := .ifs (.bop false [.cmp .eq (.var 0) (.lst []), .cmp .eq (.bin .mod (.var 2) (.con (.int 7))) (.con (.int 0))]) [.ret (.var 1)] []
def os1 : S := .par [(4, false, .bin .mod (.bin .fdv (.var 2) (.con (.int 7))) (.blt .len [.var 0])), (5, false, .bin .mod (.bin .fdv (.var 2) (.con (.int 31))) (.con (.int 6)))]
def os2 : S := .asg (.tp [.nm 6, .nm 7, .nm 8]) (.idx (.var 0) (.var 4))
def os3 : S := .ifs (.cmp .eq (.var 5) (.con (.int 0))) [.ret (.bin .add (.bin .add (.slc .hi (.var 0) (.con .non) (.var 4)) (.slc .lo (.var 0) (.bin .add (.var 4) (.con (.int 1))) (.con .non))) (.lst [.idx (.var 0) (.var 4)]))] []
def os4 : S := .ifs (.cmp .eq (.var 5) (.con (.int 1))) [.ret (.bin .add (.bin .add (.slc .hi (.var 0) (.con .non) (.var 4)) (.lst [.tup [.var 6, .slc .lo (.var 7) (.con (.int 1)) (.con .non), .var 8]])) (.slc .lo (.var 0) (.bin .add (.var 4) (.con (.int 1))) (.con .non)))] []
def os5 : S := .ifs (.cmp .eq (.var 5) (.con (.int 2))) [.ret (.bin .add (.bin .add (.slc .hi (.var 0) (.con .non) (.var 4)) (.lst [.tup [.var 6, .var 7, .bin .add (.var 8) (.con (.str [98]))]])) (.slc .lo (.var 0) (.bin .add (.var 4) (.con (.int 1))) (.con .non)))] []
def os6 : S := .ifs (.bop true [.cmp .eq (.var 5) (.con (.int 3)), .cmp .lt (.var 6) (.var 3), .cmp .notin (.var 3) (.var 7)]) [.ret (.bin .add (.bin .add (.slc .hi (.var 0) (.con .non) (.var 4)) (.lst [.tup [.var 6, .bin .add (.var 7) (.tup [.var 3]), .var 8]])) (.slc .lo (.var 0) (.bin .add (.var 4) (.con (.int 1))) (.con .non)))] []
def os7 : S := .ifs (.bop true [.cmp .eq (.var 5) (.con (.int 4)), .cmp .ne (.var 7) (.tup [])]) [.asg (.nm 9) (.ite (.cmp .eq (.blt .len [.var 7]) (.bin .sub (.var 3) (.var 6))) (.tup [.var 6, .tup [], .var 8]) (.tup [.var 6, .slc .hi (.var 7) (.con .non) (.neg (.con (.int 1))), .var 8])), .ret (.bin .add (.bin .add (.slc .hi (.var 0) (.con .non) (.var 4)) (.lst [.var 9])) (.slc .lo (.var 0) (.bin .add (.var 4) (.con (.int 1))) (.con .non)))] []
def os8 : S := .ret (.bin .add (.bin .add (.slc .hi (.var 0) (.con .non) (.var 4)) (.slc .rev (.slc .both (.var 0) (.var 4) (.bin .add (.var 4) (.con (.int 2)))) (.con .non) (.con .non))) (.slc .lo (.var 0) (.bin .add (.var 4) (.con (.int 2))) (.con .non)))
def ls0 : S := .asg (.nm 2) (.call 44 false [.var 0, .bin .add (.var 1) (.con (.int 2)), .con (.int 6), .con (.int 1000003)])
def ls1 : S := .asg (.nm 3) (.bin .mod (.idx (.var 2) (.con (.int 0))) (.con (.int 8)))
def ls2 : S := .asg (.nm 4) (.call 48 false [.var 0, .bin .add (.var 1) (.con (.int 1)), .var 3, .bin .mod (.idx (.var 2) (.con (.int 1))) (.con (.int 9))])
def ls3 : S := .asg (.nm 5) (.call 52 false [.var 4, .call 48 false [.var 0, .bin .add (.var 1) (.con (.int 4)), .var 3, .bin .mod (.idx (.var 2) (.con (.int 1))) (.con (.int 9))], .idx (.var 2) (.con (.int 2)), .var 3])
def ls4 : S := .asg (.nm 6) (.lst [.new 6 0 true [.call 46 false [.var 0, .var 1, .var 3], .var 4], .new 6 0 true [.call 46 false [.var 0, .bin .add (.var 1) (.con (.int 3)), .var 3], .var 5]])
def ls5 : S := .asg (.nm 7) (.comp false (.var 9) (.nm 9) [9] .seq (.call 51 false [.var 3]) (.con .non) [.cmp .ne (.call 50 false [.var 4, .var 9]) (.call 50 false [.var 5, .var 9])])
def ls6 : S := .asg (.nm 8) (.ite (.cmp .ne (.var 7) (.lst [])) (.idx (.var 7) (.con (.int 0))) (.con .non))
def ls7 : S := .ifs (.bop false [.cmp .ne (.call 54 false [.idx (.var 6) (.con (.int 0)), .idx (.var 6) (.con (.int 1))]) (.var 8), .cmp .ne (.call 54 false [.idx (.var 6) (.con (.int 1)), .idx (.var 6) (.con (.int 0))]) (.var 8)]) [.ret (.con (.bl false))] []
def ls8 : S := .ifs (.cmp .isnot (.call 54 false [.idx (.var 6) (.con (.int 0)), .idx (.var 6) (.con (.int 0))]) (.con .non)) [.ret (.con (.bl false))] []
def lB : List S := [ls0, ls1, ls2, ls3, ls4, ls5, ls6, ls7, ls8]abbrev stO (rs dr : List Row) (num many : Int) (v4 v5 v6 v7 v8 v9 : SV) : List SV := [.val (.lst (rs.map encR)), .val (.lst (dr.map encR)), .val (.int num), .val (.int many), v4, v5, v6, v7, v8, v9]
theorem wordsL_short : ∀ s ∈ wordsL, s.length ≤ 20 := by
  unfold wordsL
  decide
theorem other_ok {rs dr : List Row} {num many : Int} (h : List O) (hr : ∀ r ∈ rs, OkRow many r ∧ r.2.2 ∈ wordsL) (hd : OkRows many dr) (h0 : 0 ≤ num) (hz : rs.length ≤ 50) (hzd : dr.length ≤ 100) (hm : many ≤ 9) :
    ∃ rs', f__law_other [.lst (rs.map encR), .lst (dr.map encR), .int num, .int many] h = .ok (.lst (rs'.map encR)) h ∧ OkRows many rs' ∧ rs'.length ≤ 200 := by
  have hrk : OkRows many rs := fun r hq => (hr r hq).1
  have hbl : b__law_other = [os0, os1, os2, os3, os4, os5, os6, os7, os8] := rfl
  have eqn : ∀ H, cmpV H .eq (.lst (rs.map encR)) (.lst []) = some (decide (rs = [])) := fun H => LA.eq (b := []) eqok_R (.lst H _) (.lst H _) (fun r hq => pl_up (pl_R (hrk.okS r hq)) (by decide)) (fun r hq => by cases hq)
  have start : f__law_other [.lst (rs.map encR), .lst (dr.map encR), .int num, .int many] h = endR (exL F52 [os0, os1, os2, os3, os4, os5, os6, os7, os8] (stO rs dr num many .none .none .none .none .none .none) h) := run_def _ _ _ _ _ _ rfl
  rw [start]
  have c0 : ev F52 (.bop false [.cmp .eq (.var 0) (.lst []), .cmp .eq (.bin .mod (.var 2) (.con (.int 7))) (.con (.int 0))]) (stO rs dr num many .none .none .none .none .none .none) h = .ok (.bl (decide (rs = []) || num % 7 == 0)) h := by
    simp [eqn, mod_i]
  have e0 := ifs_ret (e := .var 1) c0
  by_cases hb : (decide (rs = []) || num % 7 == 0) = true
  · rw [if_pos hb] at e0
    refine ⟨dr, ?_, hd, by omega⟩
    rw [exL_rt (show exS F52 os0 _ h = .rt (.lst (dr.map encR)) h from e0.trans (by simp))]
    rfl
  rw [if_neg hb] at e0
  rw [exL_step (s := os0) e0]
  have hne : rs ≠ [] := fun z => hb (by simp [z])
  have hpos : 0 < rs.length := List.length_pos_iff.mpr hne
  obtain ⟨a, ha⟩ : ∃ a, num / 7 % (rs.length : Int) = a := ⟨_, rfl⟩
  have a0 : 0 ≤ a := by rw [← ha]; exact Int.emod_nonneg _ (by omega)
  have a1 : a < rs.length := by rw [← ha]; exact Int.emod_lt_of_pos _ (by omega)
  obtain ⟨k, hk⟩ : ∃ k, num / 31 % 6 = k := ⟨_, rfl⟩
  have e1 : exS F52 os1 (stO rs dr num many .none .none .none .none .none .none) h = .nx (stO rs dr num many (.val (.int a)) (.val (.int k)) .none .none .none .none) h := by
    unfold os1 stO
    simp [fdv_i, mod_i, hk, ha, hpos]
  rw [exL_step e1]
  obtain ⟨⟨o, st, t⟩, hrow⟩ : ∃ r, rs[a.toNat]? = some r := ⟨rs[a.toNat]'(by omega), List.getElem?_eq_getElem (by omega)⟩
  have hok := hr _ (List.mem_of_getElem? hrow)
  have hat : atI (rs.map encR) a = some (encR (o, st, t)) := by rw [atI_nat _ _ a0, List.getElem?_map, hrow]; rfl
  have e2 : exS F52 os2 (stO rs dr num many (.val (.int a)) (.val (.int k)) .none .none .none .none) h = .nx (stO rs dr num many (.val (.int a)) (.val (.int k)) (.val (.int o)) (.val (.tup (st.map .int))) (.val (.str t)) .none) h := by
    unfold os2 stO
    simp [hat]
  rw [exL_step e2]
  obtain ⟨T, hT⟩ : ∃ T, T = stO rs dr num many (.val (.int a)) (.val (.int k)) (.val (.int o)) (.val (.tup (st.map .int))) (.val (.str t)) .none := ⟨_, rfl⟩
  have g0 : getV T 0 = some (.lst (rs.map encR)) := by rw [hT]; rfl
  have g4 : getV T 4 = some (.int a) := by rw [hT]; rfl
  have hl2 := lot_len2 hok.1.s (by have := hok.1.o0; simp only [] at this ⊢; omega) (by omega)
  simp only [] at hl2
  have okk := hok.1
  have sh := wordsL_short _ hok.2
  simp only [] at sh
  have done : ∀ x : List Row, OkRows many x → x.length ≤ 90 → ∀ k : Nat, OkRows many (rs.take a.toNat ++ x ++ rs.drop k) ∧ (rs.take a.toNat ++ x ++ rs.drop k).length ≤ 1000 := fun x hx hxl k => ⟨okRows_app (okRows_app (okRows_take hrk _) hx) (okRows_drop hrk _), by simp; omega⟩
  have fin : ∀ {ss : List S} {s : S} {x : List Row} {j : Nat}, exS F52 s T h = .rt (.lst ((rs.take a.toNat ++ x ++ rs.drop j).map encR)) h → OkRows many x → x.length ≤ 90 → ∃ rs', endR (exL F52 (s :: ss) T h) = .ok (.lst (rs'.map encR)) h ∧ OkRows many rs' ∧ rs'.length ≤ 200 := fun {ss s x j} e hx hxl => by
    refine ⟨rs.take a.toNat ++ x ++ rs.drop j, ?_, okRows_app (okRows_app (okRows_take hrk _) hx) (okRows_drop hrk _), by simp; omega⟩
    rw [exL_rt e]
    rfl
  rw [← hT]
  -- kind 0
  have c3 : ev F52 (.cmp .eq (.var 5) (.con (.int 0))) T h = .ok (.bl (k == 0)) h := by rw [hT]; simp
  have e3 := ifs_ret (e := .bin .add (.bin .add (.slc .hi (.var 0) (.con .non) (.var 4)) (.slc .lo (.var 0) (.bin .add (.var 4) (.con (.int 1))) (.con .non))) (.lst [.idx (.var 0) (.var 4)])) c3
  by_cases k0 : (k == 0) = true
  · rw [if_pos k0] at e3
    have h1 := slc_hi_rows rs a h a0
    have h2 := slc_lo_rows rs (a + 1) h (by omega)
    have h3 := add_rows (rs.take a.toNat) (rs.drop (a + 1).toNat) h (by simp; omega)
    have h4 := add_rows (rs.take a.toNat ++ rs.drop (a + 1).toNat) [(o, st, t)] h (by simp; omega)
    have h5 : ∀ H, idxR (.lst (rs.map encR)) (.int a) H = .ok (encR (o, st, t)) H := fun H => by rw [idx_lst, hat, of_some]
    refine ⟨rs.take a.toNat ++ rs.drop (a + 1).toNat ++ [(o, st, t)], ?_, okRows_app (okRows_app (okRows_take hrk _) (okRows_drop hrk _)) (okRows_one okk), by simp; omega⟩
    rw [exL_rt (s := os3) (e3.trans (by
      have h4' : binV h .add (.lst ((rs.take a.toNat ++ rs.drop (a + 1).toNat).map encR)) (.lst [encR (o, st, t)]) = some (.lst ((rs.take a.toNat ++ rs.drop (a + 1).toNat ++ [(o, st, t)]).map encR)) := h4
      simp only [ev_bin, ev_slc, ev_idx, ev_lst, ev_var, ev_con, evs_cons, evs_nil, hasLo_hi, hasHi_hi, hasLo_lo, hasHi_lo, optP_f, optP_t, g0, g4, of_some', bind_ok', optQ_i, add_i', h1, h2, h3, h5, lstR_ok _ _ (show [encR (o, st, t)].length ≤ 1000000 by simp), h4', ofR_ok']
      rfl))]
    rfl
  rw [if_neg k0] at e3
  rw [exL_step (s := os3) e3]
  -- kind 1
  have c4 : ev F52 (.cmp .eq (.var 5) (.con (.int 1))) T h = .ok (.bl (k == 1)) h := by rw [hT]; simp
  have x4 : ev F52 (.lst [.tup [.var 6, .slc .lo (.var 7) (.con (.int 1)) (.con .non), .var 8]]) T h = .ok (.lst ([(o, st.drop 1, t)].map encR)) h := by
    rw [hT]
    simp
  have e4 := ifs_ret (e := .bin .add (.bin .add (.slc .hi (.var 0) (.con .non) (.var 4)) (.lst [.tup [.var 6, .slc .lo (.var 7) (.con (.int 1)) (.con .non), .var 8]])) (.slc .lo (.var 0) (.bin .add (.var 4) (.con (.int 1))) (.con .non))) c4
  rw [around g0 g4 x4 a0 (by decide) (by omega) (by simp), ofR_ok] at e4
  by_cases k1 : (k == 1) = true
  · rw [if_pos k1] at e4
    exact fin (s := os4) e4 (okRows_one (okRow_with okk (isLot_drop okk.s 1) okk.t)) (by simp)
  rw [if_neg k1] at e4
  rw [exL_step (s := os4) e4]
  -- kind 2
  have c5 : ev F52 (.cmp .eq (.var 5) (.con (.int 2))) T h = .ok (.bl (k == 2)) h := by rw [hT]; simp
  have x5 : ev F52 (.lst [.tup [.var 6, .var 7, .bin .add (.var 8) (.con (.str [98]))]]) T h = .ok (.lst ([(o, st, t ++ [98])].map encR)) h := by
    have : ∀ H, binV H .add (.str t) (.str [98]) = some (.str (t ++ [98])) := fun H => if_pos (by show t.length + 1 ≤ 1000000; omega)
    rw [hT]
    simp [this]
  have e5 := ifs_ret (e := .bin .add (.bin .add (.slc .hi (.var 0) (.con .non) (.var 4)) (.lst [.tup [.var 6, .var 7, .bin .add (.var 8) (.con (.str [98]))]])) (.slc .lo (.var 0) (.bin .add (.var 4) (.con (.int 1))) (.con .non))) c5
  rw [around g0 g4 x5 a0 (by decide) (by omega) (by simp), ofR_ok] at e5
  by_cases k2 : (k == 2) = true
  · rw [if_pos k2] at e5
    have ht := okk.t
    simp only [] at ht
    refine fin (s := os5) e5 (okRows_one (okRow_with okk okk.s ⟨by simp; omega, ?_, ?_⟩)) (by simp)
    · simpa using ht.2.1
    · have := ht.2.2
      unfold okS at this ⊢
      simp only [List.all_append, this]
      decide
  rw [if_neg k2] at e5
  rw [exL_step (s := os5) e5]
  -- kind 3
  have c6 : ev F52 (.bop true [.cmp .eq (.var 5) (.con (.int 3)), .cmp .lt (.var 6) (.var 3), .cmp .notin (.var 3) (.var 7)]) T h = .ok (.bl (k == 3 && (decide (o < many) && !decide (many ∈ st)))) h := by rw [hT]; simp
  have x6 : ev F52 (.lst [.tup [.var 6, .bin .add (.var 7) (.tup [.var 3]), .var 8]]) T h = .ok (.lst ([(o, st ++ [many], t)].map encR)) h := by
    have : ∀ H, binV H .add (.tup (st.map .int)) (.tup [.int many]) = some (.tup ((st ++ [many]).map .int)) := fun H => by rw [add_tup _ _ H (by simp; omega)]; simp
    rw [hT]
    simp [this]
  have e6 := ifs_ret (e := .bin .add (.bin .add (.slc .hi (.var 0) (.con .non) (.var 4)) (.lst [.tup [.var 6, .bin .add (.var 7) (.tup [.var 3]), .var 8]])) (.slc .lo (.var 0) (.bin .add (.var 4) (.con (.int 1))) (.con .non))) c6
  rw [around g0 g4 x6 a0 (by decide) (by omega) (by simp), ofR_ok] at e6
  by_cases k3 : (k == 3 && (decide (o < many) && !decide (many ∈ st))) = true
  · rw [if_pos k3] at e6
    simp only [Bool.and_eq_true, decide_eq_true_eq, Bool.not_eq_true', decide_eq_false_iff_not] at k3
    have hs := okk.s
    simp only [] at hs
    exact fin (s := os6) e6 (okRows_one (okRow_with okk (isLot_snoc hs k3.2.2 (by omega)) okk.t)) (by simp)
  rw [if_neg k3] at e6
  rw [exL_step (s := os6) e6]
  -- kind 4
  have nes : ∀ H, cmpV H .ne (.tup (st.map .int)) (.tup []) = some (!decide (st = [])) := fun H => by
    rw [cmp_ne (snap_pl (pl_lot st) (by decide) H) (snap_pl (n := 1) (pl_tup (l := []) fun v hv => by cases hv) (by decide) H)]
    cases st <;> simp [eqM, eqMs]
  obtain ⟨b7, hb7⟩ : ∃ b, (k == 4 && !decide (st = [])) = b := ⟨_, rfl⟩
  have c7 : ev F52 (.bop true [.cmp .eq (.var 5) (.con (.int 4)), .cmp .ne (.var 7) (.tup [])]) T h = .ok (.bl b7) h := by rw [hT, ← hb7]; simp [nes]
  have fin7 : ∀ st2 : List Int, IsLot (o + 1) many st2 → ev F52 (.ite (.cmp .eq (.blt .len [.var 7]) (.bin .sub (.var 3) (.var 6))) (.tup [.var 6, .tup [], .var 8]) (.tup [.var 6, .slc .hi (.var 7) (.con .non) (.neg (.con (.int 1))), .var 8])) T h = .ok (encR (o, st2, t)) h → b7 = true → ∃ rs', endR (exL F52 [os7, os8] T h) = .ok (.lst (rs'.map encR)) h ∧ OkRows many rs' ∧ rs'.length ≤ 200 := fun st2 hs2 e7 hb => by
    obtain ⟨T9, hT9⟩ : ∃ T9, T9 = T.set 9 (.val (encR (o, st2, t))) := ⟨_, rfl⟩
    have g0' : getV T9 0 = some (.lst (rs.map encR)) := by rw [hT9, hT]; rfl
    have g4' : getV T9 4 = some (.int a) := by rw [hT9, hT]; rfl
    have x7 : ev F52 (.lst [.var 9]) T9 h = .ok (.lst ([(o, st2, t)].map encR)) h := by
      have g9 : getV T9 9 = some (encR (o, st2, t)) := by rw [hT9, hT]; rfl
      simp only [ev_lst, evs_cons, evs_nil, ev_var, g9, of_some', bind_ok']
      rfl
    have e8 := around (Fs := F52) g0' g4' x7 a0 (show (0 : Int) ≤ 1 by decide) (by omega) (by simp)
    refine fin (s := os7) (x := [(o, st2, t)]) (j := (a + 1).toNat) ?_ (okRows_one (okRow_with okk hs2 okk.t)) (by simp)
    · unfold os7
      rw [exS_ifs, c7, ofR_ok, hb, test_t, exL_cons, exS_asg, e7, ofR_ok, setT_nm, ofO_some, seq_nx, ← hT9, exL_cons, exS_ret, e8]
      rfl
  cases b7 with
  | true =>
    cases hq : ((st.length : Int) == many - o) with
    | true => exact fin7 [] (isLot_nil _ _) (by rw [hT]; simp [hq]) rfl
    | false =>
      have hs := okk.s
      simp only [] at hs
      exact fin7 st.dropLast (isLot_init hs) (by rw [hT]; simp [hq, cut_m1, List.map_dropLast]) rfl
  | false =>
    have e7 : exS F52 os7 T h = .nx T h := by
      unfold os7
      rw [exS_ifs, c7, ofR_ok, test_f, exL_nil]
    rw [exL_step e7]
    have x8 : ev F52 (.slc .rev (.slc .both (.var 0) (.var 4) (.bin .add (.var 4) (.con (.int 2)))) (.con .non) (.con .non)) T h = .ok (.lst ((((rs.drop a.toNat).take ((a + 2).toNat - a.toNat)).reverse).map encR)) h := by
      simp only [ev_bin, ev_slc, ev_var, ev_con, hasLo_both, hasHi_both, hasLo_rev, hasHi_rev, optP_f, optP_t, g0, g4, of_some', bind_ok', optQ_i, add_i', slcV_both_l, cut_both _ _ _ a0 (show 0 ≤ a + 2 by omega), slcV_rev, List.map_reverse, List.map_take, List.map_drop]
    have e8 := around (Fs := F52) g0 g4 x8 a0 (show (0 : Int) ≤ 2 by decide) (by omega) (by simp; omega)
    refine fin (s := os8) (x := ((rs.drop a.toNat).take ((a + 2).toNat - a.toNat)).reverse) (j := (a + 2).toNat) ?_ (fun r hq => hrk r (List.mem_of_mem_drop (List.mem_of_mem_take (List.mem_reverse.mp hq)))) (by simp; omega)
    unfold os8
    rw [exS_ret, e8]
    rfl
end k04
end MP
end

section
set_option Elab.async false
set_option linter.all false
set_option maxRecDepth 100000
set_option maxHeartbeats 1000000
/-! ### S4: the law k04 -/
namespace MP
theorem lots2 : lotsS 2 = [[], [1], [2], [1, 2]] := by
  unfold lotsS sortLots lotsN
  simp [rngI, growL, List.mergeSort, lotLe, List.merge]
  decide
theorem pl_optL (o : Option (List Int)) : Pl 1 (optL o) := by
  cases o with
  | none => exact pl_up (n := 0) (fun g m _ => by cases m <;> rfl) (by decide)
  | some l => exact pl_lot l
theorem ne_optL (o : Option (List Int)) (h : List O) : cmpV h .ne (optL o) (optL o) = some false := by
  rw [cmp_ne (snap_pl (pl_optL o) (by decide) h) (snap_pl (pl_optL o) (by decide) h)]
  cases o with
  | none => rfl
  | some l => simp [optL, eqM, (eqok_lot l l)]
theorem parts_self (rs : List Row) (ls : List (List Int)) : ls.find? (partsB rs rs) = none := by
  rw [List.find?_eq_none]
  intro l _
  simp [partsB]
namespace k04
open MP.k01
abbrev st10 (ns : List Int) (v1 v2 v3 v4 v5 v6 v7 v8 : SV) : List SV := [.val (.lst (ns.map .int)), v1, v2, v3, v4, v5, v6, v7, v8, .none]
theorem body_ok (ns : List Int) (x : Int) (h : List O) (hx : 0 ≤ x) : stepF F55 (.nm 1) [1, 2, 3, 4, 5, 6, 7, 8] lB (.int x) (st10 ns .none .none .none .none .none .none .none .none) h = .nx (st10 ns .none .none .none .none .none .none .none .none) h := by
  obtain ⟨dl, g1, g2, g3⟩ := digits_ok ns (x + 2) 6 1000003 h (by omega) (by decide) (by decide) (by decide) (by decide)
  obtain ⟨d0, d1, d2, d3, d4, d5, hdl⟩ : ∃ d0 d1 d2 d3 d4 d5 : Int, dl = [d0, d1, d2, d3, d4, d5] := by
    match dl, g2 with
    | [d0, d1, d2, d3, d4, d5], _ => exact ⟨_, _, _, _, _, _, rfl⟩
  subst hdl
  have p0 : 0 ≤ d0 := (g3 d0 (by simp)).1
  have p1 : 0 ≤ d1 := (g3 d1 (by simp)).1
  have p2 : 0 ≤ d2 := (g3 d2 (by simp)).1
  obtain ⟨n, hn⟩ : ∃ n, d0 % 8 = n := ⟨_, rfl⟩
  have n0 : 0 ≤ n := by rw [← hn]; exact Int.emod_nonneg _ (by decide)
  have n1 : n < 8 := by rw [← hn]; exact Int.emod_lt_of_pos _ (by decide)
  obtain ⟨q, hq⟩ : ∃ q, d1 % 9 = q := ⟨_, rfl⟩
  have q0 : 0 ≤ q := by rw [← hq]; exact Int.emod_nonneg _ (by decide)
  have q1 : q < 9 := by rw [← hq]; exact Int.emod_lt_of_pos _ (by decide)
  obtain ⟨rs, r1, r2, r3⟩ := rows_ok ns (x + 1) n q h (by omega) n0 (by omega) q0 (by omega)
  obtain ⟨dr, r4, r5, r6⟩ := rows_ok ns (x + 4) n q h (by omega) n0 (by omega) q0 (by omega)
  have rl : rs.length ≤ 9 := by split at r2 <;> omega
  have dl : dr.length ≤ 9 := by split at r5 <;> omega
  obtain ⟨rt, o1, o2, o3⟩ := other_ok (rs := rs) (dr := dr) (num := d2) (many := n) h r3 (fun r hr => (r6 r hr).1) p2 (by omega) (by omega) (by omega)
  obtain ⟨es, e1, e2, e3⟩ := editions_ok ns x n h hx n0 (by omega)
  obtain ⟨et, e4, e5, e6⟩ := editions_ok ns (x + 3) n h (by omega) n0 (by omega)
  have rk : OkRows es.length rs := fun r hr => by rw [e2]; exact (r3 r hr).1
  have tk : OkRows et.length rt := fun r hr => by rw [e5]; exact o2 r hr
  have w1 := new_pure h e3 rk (by omega) (by omega)
  have w2 := new_pure h e6 tk (by omega) o3
  have a1 := apart_ok (h := h) (.val h es rs) (.val h et rt) rk tk (by omega) (by omega) (by omega) (by omega)
  have a2 := apart_ok (h := h) (.val h et rt) (.val h es rs) tk rk (by omega) (by omega) (by omega) (by omega)
  have a3 := apart_ok (h := h) (.val h es rs) (.val h es rs) rk rk rfl (by omega) (by omega) (by omega)
  rw [parts_self] at a3
  rw [partsB_comm rt rs, e5] at a2
  rw [e2] at a1
  have ll := llots_ok (n := n) h n0 (by omega)
  have t1 := fun l => ltext_ok (n := n) (rs := rs) l h (fun r hr => (r3 r hr).1) (by omega) (by omega)
  have t2 := fun l => ltext_ok (n := n) (rs := rt) l h o2 (by omega) (by omega)
  obtain ⟨W1, hW1⟩ : ∃ W, wvV es rs = W := ⟨_, rfl⟩
  obtain ⟨W2, hW2⟩ : ∃ W, wvV et rt = W := ⟨_, rfl⟩
  rw [hW1] at w1 a1 a2 a3
  rw [hW2] at w2 a1 a2
  obtain ⟨F, hF⟩ : ∃ F, (lotsS n).filter (partsB rs rt) = F := ⟨_, rfl⟩
  have hfind : (lotsS n).find? (partsB rs rt) = F.head? := by rw [← hF, List.head?_filter]
  rw [hfind] at a1 a2
  have f0 : exS F55 ls0 (st10 ns (.val (.int x)) .none .none .none .none .none .none .none) h = .nx (st10 ns (.val (.int x)) (.val (.lst ([d0, d1, d2, d3, d4, d5].map .int))) .none .none .none .none .none .none) h := by
    unfold ls0 st10
    simp at g1
    simp [g1]
  have f1 : exS F55 ls1 (st10 ns (.val (.int x)) (.val (.lst ([d0, d1, d2, d3, d4, d5].map .int))) .none .none .none .none .none .none) h = .nx (st10 ns (.val (.int x)) (.val (.lst ([d0, d1, d2, d3, d4, d5].map .int))) (.val (.int n)) .none .none .none .none .none) h := by
    unfold ls1 st10
    simp [mod_i, hn]
  have f2 : exS F55 ls2 (st10 ns (.val (.int x)) (.val (.lst ([d0, d1, d2, d3, d4, d5].map .int))) (.val (.int n)) .none .none .none .none .none) h = .nx (st10 ns (.val (.int x)) (.val (.lst ([d0, d1, d2, d3, d4, d5].map .int))) (.val (.int n)) (.val (.lst (rs.map encR))) .none .none .none .none) h := by
    unfold ls2 st10
    simp [mod_i, hq, r1]
  have f3 : exS F55 ls3 (st10 ns (.val (.int x)) (.val (.lst ([d0, d1, d2, d3, d4, d5].map .int))) (.val (.int n)) (.val (.lst (rs.map encR))) .none .none .none .none) h = .nx (st10 ns (.val (.int x)) (.val (.lst ([d0, d1, d2, d3, d4, d5].map .int))) (.val (.int n)) (.val (.lst (rs.map encR))) (.val (.lst (rt.map encR))) .none .none .none) h := by
    unfold ls3 st10
    simp [mod_i, hq, r4, o1]
  have f4 : exS F55 ls4 (st10 ns (.val (.int x)) (.val (.lst ([d0, d1, d2, d3, d4, d5].map .int))) (.val (.int n)) (.val (.lst (rs.map encR))) (.val (.lst (rt.map encR))) .none .none .none) h = .nx (st10 ns (.val (.int x)) (.val (.lst ([d0, d1, d2, d3, d4, d5].map .int))) (.val (.int n)) (.val (.lst (rs.map encR))) (.val (.lst (rt.map encR))) (.val (.lst [W1, W2])) .none .none) h := by
    unfold ls4 st10
    simp [e1, e4, w1, w2]
  have f5 : exS F55 ls5 (st10 ns (.val (.int x)) (.val (.lst ([d0, d1, d2, d3, d4, d5].map .int))) (.val (.int n)) (.val (.lst (rs.map encR))) (.val (.lst (rt.map encR))) (.val (.lst [W1, W2])) .none .none) h = .nx (st10 ns (.val (.int x)) (.val (.lst ([d0, d1, d2, d3, d4, d5].map .int))) (.val (.int n)) (.val (.lst (rs.map encR))) (.val (.lst (rt.map encR))) (.val (.lst [W1, W2])) (.val (.lst (F.map encL))) .none) h := by
    have hz : F.length ≤ 1000000 := by
      rw [← hF]
      refine filt_lim ?_
      unfold lotsS sortLots
      rw [List.length_mergeSort]
      exact lotsN_len n0 (by omega)
    unfold ls5 st10
    simp [ll]
    rw [compT_mem (p := partsB rs rt) (g := encL) _ fun l hl => by
      have hne := ne_strs (x := textOf rs l) (y := textOf rt l) h (textOf_ok rk.okS) (textOf_ok tk.okS)
      simp [t1, t2, hne, partsB]
      by_cases hq : textOf rs l = textOf rt l <;> simp [hq]]
    simp [hF, hz]
  have f6 : exS F55 ls6 (st10 ns (.val (.int x)) (.val (.lst ([d0, d1, d2, d3, d4, d5].map .int))) (.val (.int n)) (.val (.lst (rs.map encR))) (.val (.lst (rt.map encR))) (.val (.lst [W1, W2])) (.val (.lst (F.map encL))) .none) h = .nx (st10 ns (.val (.int x)) (.val (.lst ([d0, d1, d2, d3, d4, d5].map .int))) (.val (.int n)) (.val (.lst (rs.map encR))) (.val (.lst (rt.map encR))) (.val (.lst [W1, W2])) (.val (.lst (F.map encL))) (.val (optL F.head?))) h := by
    have hne : cmpV h .ne (.lst (F.map encL)) (.lst []) = some (!decide (F = [])) := LA.ne (b := []) eqok_lot (.lst h _) (.lst h _) (fun l _ => pl_L l) (fun l _ => pl_L l)
    unfold ls6 st10
    cases F with
    | nil => simp at hne; simp [hne, optL]
    | cons l F => simp at hne; simp [hne, optL]
  have f7 : exS F55 ls7 (st10 ns (.val (.int x)) (.val (.lst ([d0, d1, d2, d3, d4, d5].map .int))) (.val (.int n)) (.val (.lst (rs.map encR))) (.val (.lst (rt.map encR))) (.val (.lst [W1, W2])) (.val (.lst (F.map encL))) (.val (optL F.head?))) h = .nx (st10 ns (.val (.int x)) (.val (.lst ([d0, d1, d2, d3, d4, d5].map .int))) (.val (.int n)) (.val (.lst (rs.map encR))) (.val (.lst (rt.map encR))) (.val (.lst [W1, W2])) (.val (.lst (F.map encL))) (.val (optL F.head?))) h := by
    unfold ls7 st10
    simp [a1, a2, ne_optL]
  have f8 : exS F55 ls8 (st10 ns (.val (.int x)) (.val (.lst ([d0, d1, d2, d3, d4, d5].map .int))) (.val (.int n)) (.val (.lst (rs.map encR))) (.val (.lst (rt.map encR))) (.val (.lst [W1, W2])) (.val (.lst (F.map encL))) (.val (optL F.head?))) h = .nx (st10 ns (.val (.int x)) (.val (.lst ([d0, d1, d2, d3, d4, d5].map .int))) (.val (.int n)) (.val (.lst (rs.map encR))) (.val (.lst (rt.map encR))) (.val (.lst [W1, W2])) (.val (.lst (F.map encL))) (.val (optL F.head?))) h := by
    have hin : ∀ H, cmpV H .isnot .non .non = some false := fun H => rfl
    unfold ls8 st10
    simp [a3, optL, hin]
  have hset : setT (.nm 1) (.int x) (st10 ns .none .none .none .none .none .none .none .none) = some (st10 ns (.val (.int x)) .none .none .none .none .none .none .none) := rfl
  have hl : lB = [ls0, ls1, ls2, ls3, ls4, ls5, ls6, ls7, ls8] := rfl
  rw [stepF_, hset, ofO_some, hl, exL_step f0, exL_step f1, exL_step f2, exL_step f3, exL_step f4, exL_step f5, exL_step f6, exL_step f7, exL_step f8, exL_nil, wipeN_nx]
  rfl
def zA : List Row := [(1, [], [97]), (2, [], [98])]
def zB : List Row := [(2, [], [98]), (1, [], [97])]
def zE : List Ed := [(0, [], []), (0, [], [])]
theorem law_ok (ns : List Int) (hns : ns.length ≤ 63) : ∃ hp, f_law [.rol (ns.map .int)] [] = .ok (.bl true) hp := by
  have hbl : b_law = .asg (.nm 0) (.slc .hi (.var 0) (.con .non) (.con (.int 63))) :: .for (.nm 1) .rng1 (.blt .max [.con (.int 1), .blt .min [.con (.int 8), .blt .len [.var 0]]]) (.con .non) [1, 2, 3, 4, 5, 6, 7, 8] lB :: b_law.drop 2 := rfl
  have hcut : (ns.map MV.int).take 63 = ns.map MV.int := List.take_of_length_le (by rw [List.length_map]; exact hns)
  have hm : ∃ m : Int, (if (if (ns.length : Int) < 8 then (ns.length : Int) else 8) > 1 then (if (ns.length : Int) < 8 then (ns.length : Int) else 8) else 1) = m ∧ 0 ≤ m ∧ m ≤ 10 := ⟨_, rfl, by split <;> split <;> omega, by split <;> split <;> omega⟩
  obtain ⟨m, hm, hm0, hm1⟩ := hm
  unfold f_law
  rw [hbl]
  simp only [gt_iff_lt] at hm
  simp [run_def, hcut, hm, rng1_t m (by omega)]
  generalize hlp : loopF _ _ _ _ _ _ _ = r
  obtain ⟨u, rfl, _⟩ := loop_ex' hlp (fun _ : Unit => st10 ns .none .none .none .none .none .none .none .none) (fun _ xs => ∀ y ∈ xs, (0 : Int) ≤ y) () rfl (fun y hy => ((rngI_mem _ _ _).mp hy).1) (by
    intro _ y xs hy
    exact ⟨(), body_ok ns y [] (hy y List.mem_cons_self), fun z hz => hy z (List.mem_cons_of_mem _ hz)⟩)
  have okE : OkEds zE := okEsB_ok (by decide)
  have okA : OkRows (zE.length : Int) zA := k05.okRB_ok (by decide)
  have okB : OkRows (zE.length : Int) zB := k05.okRB_ok (by decide)
  have w1 := new_pure (es := zE) (rs := zA) [] okE okA (by decide) (by decide)
  have w2 := new_pure (es := zE) (rs := zB) [] okE okB (by decide) (by decide)
  have a1 := apart_ok (h := []) (.val [] zE zA) (.val [] zE zB) okA okB rfl (by decide) (by decide) (by decide)
  rw [show ((zE.length : Nat) : Int) = 2 from rfl, lots2, show [[], [1], [2], [1, 2]].find? (partsB zA zB) = some [1, 2] by decide] at a1
  have n2 := cmp_eq (h := []) (snap_pl (pl_lot [1, 2]) (by decide) _) (snap_pl (pl_lot [1, 2]) (by decide) _)
  rw [eqok_lot] at n2
  have rp : ∀ v H, binV H .mul (.lst [v]) (.int 2) = some (.lst [v, v]) := fun v H => rfl
  refine ⟨[], ?_⟩
  obtain ⟨W1, hW1⟩ : ∃ W, wvV zE zA = W := ⟨_, rfl⟩
  obtain ⟨W2, hW2⟩ : ∃ W, wvV zE zB = W := ⟨_, rfl⟩
  rw [hW1] at w1 a1
  rw [hW2] at w2 a1
  unfold zE zA at w1
  unfold zE zB at w2
  simp [optL] at w1 w2 a1 n2
  unfold b_law st10
  simp [rp, w1, w2, a1, n2]
end k04
end MP
end

section
set_option Elab.async false
set_option linter.all false
set_option maxRecDepth 100000
set_option maxHeartbeats 0
/-! the glue of law_k04_whole_apart (printed by gen.py) -/
namespace MPS.k04
open PySem PySem.Spec PyProof.Rows L2 MPS
abbrev prog : Program := PySem.Challenge.pw_weavefile_k04_whole_apart
def top (i : Nat) : Stmt := prog.main.body.getD i (.Pass ⟨0, 0, 0, 0⟩)
abbrev st0 : Stmt := top 9
def dd0 : He.DefD := ⟨("is_number", none), "is_number", "is_number", defArgs st0, defBody st0, defScope st0, [], []⟩
abbrev st1 : Stmt := top 10
def dd1 : He.DefD := ⟨("is_lot", none), "is_lot", "is_lot", defArgs st1, defBody st1, defScope st1, [], []⟩
abbrev st2 : Stmt := top 11
def dd2 : He.DefD := ⟨("is_edition", none), "is_edition", "is_edition", defArgs st2, defBody st2, defScope st2, [], []⟩
abbrev st3 : Stmt := top 12
def dd3 : He.DefD := ⟨("is_text", none), "is_text", "is_text", defArgs st3, defBody st3, defScope st3, [], []⟩
abbrev st4 : Stmt := top 13
def dd4 : He.DefD := ⟨("is_row", none), "is_row", "is_row", defArgs st4, defBody st4, defScope st4, [], []⟩
abbrev st5 : Stmt := top 14
def dd5 : He.DefD := ⟨("check_weave", none), "check_weave", "check_weave", defArgs st5, defBody st5, defScope st5, [], []⟩
abbrev st6 : Stmt := inClass (top 15) 0
def dd6 : He.DefD := ⟨("Weave", some "__init__"), "__init__", "Weave.__init__", defArgs st6, defBody st6, defScope st6, [], []⟩
abbrev st7 : Stmt := top 17
def dd7 : He.DefD := ⟨("is_told", none), "is_told", "is_told", defArgs st7, defBody st7, defScope st7, [], []⟩
abbrev st8 : Stmt := top 18
def dd8 : He.DefD := ⟨("told_rows", none), "told_rows", "told_rows", defArgs st8, defBody st8, defScope st8, [], []⟩
abbrev st9 : Stmt := top 23
def dd9 : He.DefD := ⟨("_law_draw", none), "_law_draw", "_law_draw", defArgs st9, defBody st9, defScope st9, [], []⟩
abbrev st10 : Stmt := top 24
def dd10 : He.DefD := ⟨("_law_cell_at", none), "_law_cell_at", "_law_cell_at", defArgs st10, defBody st10, defScope st10, [], []⟩
abbrev st11 : Stmt := top 25
def dd11 : He.DefD := ⟨("_law_digits", none), "_law_digits", "_law_digits", defArgs st11, defBody st11, defScope st11, [], []⟩
abbrev st12 : Stmt := top 26
def dd12 : He.DefD := ⟨("_law_some", none), "_law_some", "_law_some", defArgs st12, defBody st12, defScope st12, [], []⟩
abbrev st13 : Stmt := top 27
def dd13 : He.DefD := ⟨("_law_editions", none), "_law_editions", "_law_editions", defArgs st13, defBody st13, defScope st13, [], []⟩
abbrev st14 : Stmt := top 28
def dd14 : He.DefD := ⟨("_law_words", none), "_law_words", "_law_words", defArgs st14, defBody st14, defScope st14, [], []⟩
abbrev st15 : Stmt := top 29
def dd15 : He.DefD := ⟨("_law_rows", none), "_law_rows", "_law_rows", defArgs st15, defBody st15, defScope st15, [], []⟩
abbrev st16 : Stmt := top 30
def dd16 : He.DefD := ⟨("_law_is_told", none), "_law_is_told", "_law_is_told", defArgs st16, defBody st16, defScope st16, [], []⟩
abbrev st17 : Stmt := top 31
def dd17 : He.DefD := ⟨("_law_text", none), "_law_text", "_law_text", defArgs st17, defBody st17, defScope st17, [], []⟩
abbrev st18 : Stmt := top 32
def dd18 : He.DefD := ⟨("_law_lots", none), "_law_lots", "_law_lots", defArgs st18, defBody st18, defScope st18, [], []⟩
abbrev st19 : Stmt := top 33
def dd19 : He.DefD := ⟨("_law_other", none), "_law_other", "_law_other", defArgs st19, defBody st19, defScope st19, [], []⟩
abbrev st20 : Stmt := top 20
def dd20 : He.DefD := ⟨("all_lots", none), "all_lots", "all_lots", defArgs st20, defBody st20, defScope st20, [], []⟩
abbrev st21 : Stmt := top 21
def dd21 : He.DefD := ⟨("apart", none), "apart", "apart", defArgs st21, defBody st21, defScope st21, [], []⟩
abbrev st22 : Stmt := top 34
def dd22 : He.DefD := ⟨("law", none), "law", "law", defArgs st22, defBody st22, defScope st22, [], []⟩
def fn : List He.DefD := [dd0, dd1, dd2, dd3, dd4, dd5, dd6, dd7, dd8, dd9, dd10, dd11, dd12, dd13, dd14, dd15, dd16, dd17, dd18, dd19, dd20, dd21, dd22]
def fa0 : List He.Fa := [.free "abs", .free "all", .free "any", .free "bool", .free "enumerate", .free "int", .free "isinstance", .free "len", .free "list", .free "max", .free "min", .free "range", .free "sorted", .free "str", .free "sum", .free "tuple", .free "zip", .int "MOST_EDITIONS" 9, .int "MOST_ROWS" 200, .int "LONGEST" 60, .glo "Weave", .cls "Weave", .mkr "Weave", .noat "Weave" "known", .noat "Weave" "line", .glo "is_number", .glo "is_lot", .glo "is_edition", .glo "is_text", .glo "is_row"]
def fa1 : List He.Fa := [.glo "check_weave", .glo "is_told", .glo "told_rows", .glo "_law_draw", .glo "_law_cell_at", .glo "_law_digits", .glo "_law_some", .glo "_law_editions", .glo "_law_words", .glo "_law_rows", .glo "_law_is_told", .glo "_law_text", .glo "_law_lots", .glo "_law_other", .glo "all_lots", .glo "apart", .glo "law"]
def fa : List He.Fa := fa0 ++ fa1
def nm0 : List PySem.Str := ["WeaveError", "BadEdition", "BadRow", "Unlike", "MOST_EDITIONS", "MOST_ROWS", "LONGEST", "is_number", "is_lot", "is_edition", "is_text", "is_row", "check_weave", "Weave", "is_told", "told_rows", "all_lots", "apart", "_law_draw", "_law_cell_at", "_law_digits", "_law_some", "_law_editions", "_law_words", "_law_rows", "_law_is_told", "_law_text", "_law_lots", "_law_other"]
def nm : List PySem.Str := nm0
def cl : List PySem.Str := ["Weave"]
def fl : List PySem.Str := ["known", "line", "after", "heights", "now", "before", "book", "brings", "strikes", "begun", "number", "row"]
abbrev R : PySem.W.OpenRow := PySem.W.OpenLaw.row PySem.Challenge.rw_weavefile_k04_whole_apart
def tf : List He.Defn := [("_law_lots", none), ("all_lots", none)]
abbrev hk : PySem.W.Hook := He.hookX 5 fa fn [] tf (exL cl tf)
def ob (s : PySem.W.SharedT) : He.AlX := He.obsX 5 fa fn [] tf (exL cl tf) (HandSHeadRun.getT s)
theorem ob_eq (s : PySem.W.SharedT) : ob s = hk.obs s.abs := He.obsX_eq (HandSHeadRun.getT_eq s)
theorem run (w : World) : HandSHeadRun.RunEq R (PySem.W.view R.prog [34]) hk ob 20000 nm w := by
  intro os
  kernel_rfl
theorem fls : shortB fl = true := by decide +kernel
theorem facts {P : Program} {w : World} {K : PySem.W.Frag} {h : Heap} {mg : Str → Option Value} {f : Addr} (X : K.In h) (G0 : h.Ns mainGlobals mg) (hfa : mg ("law" : Str) = some (.ref f)) (c : He.SaysD fa fn K) (cx : cl.all (clsX K) = true) (nd : (tf.map fun p => (He.cT K p).2).Nodup) :
    ∃ fd : FuncData, (∀ (s : Shared) (v : Value), BindsTo s fd ⟨[v], []⟩ [("_law_script", v)]) ∧ ∀ base : Heap, (∀ p ∈ tf.map (He.cT K), LamX.TabB base mg p.1 p.2) → FnOk P w K mg base (CXW P) 8 f fd ["_law_script"] (spOf (gcOf K cl fl [] (tabsOf K tf) fls) MP.k04.f_law) := by
  obtain ⟨fdL, DL⟩ := c.def_ 22 (d := dd22) rfl
  have e := hfa.symm.trans (He.glo_ok X G0 (c.fact 46 rfl))
  cases e
  have b := FunD.bindsA (ps := ["_law_script"]) DL fun _ _ _ _ _ _ us hl => match us, hl with | [_], _ => rfl
  refine ⟨fdL, fun s v => b s [v] rfl, fun base TB => ?_⟩
  have S0 : St P w K mg base (gcOf K cl fl [] (tabsOf K tf) fls) [] ⟨[("MOST_EDITIONS", .int 9), ("MOST_ROWS", .int 200), ("LONGEST", .int 60)], [], [], [], [(0, "known"), (1, "line")], [(0, "Weave")], ["abs", "all", "any", "bool", "enumerate", "int", "isinstance", "len", "list", "max", "min", "range", "sorted", "str", "sum", "tuple", "zip"], []⟩ := St.start (by decide)
    (fun x hx => by simp only [cl, List.mem_cons, List.not_mem_nil, or_false] at hx; subst hx <;> first | exact He.cls_ok (c.fact 21 rfl)) cx
    (fun x v hx => by
      simp only [List.mem_cons, Prod.mk.injEq, List.not_mem_nil, or_false] at hx
      rcases hx with ⟨rfl, rfl⟩ | ⟨rfl, rfl⟩ | ⟨rfl, rfl⟩
      · obtain ⟨t, e⟩ := He.int_ok X G0 (c.fact 17 rfl); exact ⟨_, .int 9, e, ⟨_, rfl⟩, fun _ _ => .int _⟩
      · obtain ⟨t, e⟩ := He.int_ok X G0 (c.fact 18 rfl); exact ⟨_, .int 200, e, ⟨_, rfl⟩, fun _ _ => .int _⟩
      · obtain ⟨t, e⟩ := He.int_ok X G0 (c.fact 19 rfl); exact ⟨_, .int 60, e, ⟨_, rfl⟩, fun _ _ => .int _⟩
      )
    (fun f x hx => by simp only [List.mem_cons, Prod.mk.injEq, List.not_mem_nil, or_false] at hx; rcases hx with ⟨rfl, rfl⟩ | ⟨rfl, rfl⟩ <;> rfl)
    (fun f x hx y hy => by
      simp only [List.mem_cons, Prod.mk.injEq, List.not_mem_nil, or_false] at hx
      simp only [cl, List.mem_cons, List.not_mem_nil, or_false] at hy
      rcases hx with ⟨rfl, rfl⟩ | ⟨rfl, rfl⟩ <;> subst hy
      · exact He.noat_ok (c.fact 23 rfl)
      · exact He.noat_ok (c.fact 24 rfl)
      )
    (fun n x hx => by
      simp only [List.mem_cons, Prod.mk.injEq, List.not_mem_nil, or_false] at hx
      rcases hx with ⟨rfl, rfl⟩
      · exact ⟨rfl, He.glo_ok X G0 (c.fact 20 rfl)⟩
      )
    (fun x hx => by
      simp only [List.mem_cons, List.not_mem_nil, or_false] at hx
      rcases hx with rfl | rfl | rfl | rfl | rfl | rfl | rfl | rfl | rfl | rfl | rfl | rfl | rfl | rfl | rfl | rfl | rfl
      · exact He.free_ok X G0 (c.fact 0 rfl)
      · exact He.free_ok X G0 (c.fact 1 rfl)
      · exact He.free_ok X G0 (c.fact 2 rfl)
      · exact He.free_ok X G0 (c.fact 3 rfl)
      · exact He.free_ok X G0 (c.fact 4 rfl)
      · exact He.free_ok X G0 (c.fact 5 rfl)
      · exact He.free_ok X G0 (c.fact 6 rfl)
      · exact He.free_ok X G0 (c.fact 7 rfl)
      · exact He.free_ok X G0 (c.fact 8 rfl)
      · exact He.free_ok X G0 (c.fact 9 rfl)
      · exact He.free_ok X G0 (c.fact 10 rfl)
      · exact He.free_ok X G0 (c.fact 11 rfl)
      · exact He.free_ok X G0 (c.fact 12 rfl)
      · exact He.free_ok X G0 (c.fact 13 rfl)
      · exact He.free_ok X G0 (c.fact 14 rfl)
      · exact He.free_ok X G0 (c.fact 15 rfl)
      · exact He.free_ok X G0 (c.fact 16 rfl)
      )
  obtain ⟨fd0, D0⟩ := c.def_ 0 (d := dd0) rfl
  have S1 := S0.stepC (N := ["thing", "least", "most"]) (ps := ["thing", "least", "most"]) (k := 1) (b := MP.b_is_number) D0 (by decide +kernel) rfl (by decide +kernel) (He.glo_ok X G0 (c.fact 25 rfl)) (FunD.bindsN D0 fun _ _ _ _ _ _ us hl => match us, hl with | [_, _, _], _ => rfl)
  obtain ⟨fd1, D1⟩ := c.def_ 1 (d := dd1) rfl
  have S2 := S1.stepC (N := ["thing", "least", "most", "one", "other"]) (ps := ["thing", "least", "most"]) (k := 2) (b := MP.b_is_lot) D1 (by decide +kernel) rfl (by decide +kernel) (He.glo_ok X G0 (c.fact 26 rfl)) (FunD.bindsN D1 fun _ _ _ _ _ _ us hl => match us, hl with | [_, _, _], _ => rfl)
  obtain ⟨fd2, D2⟩ := c.def_ 2 (d := dd2) rfl
  have S3 := S2.stepC (N := ["thing", "number", "base", "taking", "leaving", "one"]) (ps := ["thing", "number"]) (k := 3) (b := MP.b_is_edition) D2 (by decide +kernel) rfl (by decide +kernel) (He.glo_ok X G0 (c.fact 27 rfl)) (FunD.bindsN D2 fun _ _ _ _ _ _ us hl => match us, hl with | [_, _], _ => rfl)
  obtain ⟨fd3, D3⟩ := c.def_ 3 (d := dd3) rfl
  have S4 := S3.stepC (N := ["thing"]) (ps := ["thing"]) (k := 1) (b := MP.b_is_text) D3 (by decide +kernel) rfl (by decide +kernel) (He.glo_ok X G0 (c.fact 28 rfl)) (FunD.bindsN D3 fun _ _ _ _ _ _ us hl => match us, hl with | [_], _ => rfl)
  obtain ⟨fd4, D4⟩ := c.def_ 4 (d := dd4) rfl
  have S5 := S4.stepC (N := ["thing", "many"]) (ps := ["thing", "many"]) (k := 3) (b := MP.b_is_row) D4 (by decide +kernel) rfl (by decide +kernel) (He.glo_ok X G0 (c.fact 29 rfl)) (FunD.bindsN D4 fun _ _ _ _ _ _ us hl => match us, hl with | [_, _], _ => rfl)
  obtain ⟨fd5, D5⟩ := c.def_ 5 (d := dd5) rfl
  have S6 := S5.stepC (N := ["editions", "rows", "at", "edition", "row"]) (ps := ["editions", "rows"]) (k := 4) (b := MP.b_check_weave) D5 (by decide +kernel) rfl (by decide +kernel) (He.glo_ok X G0 (c.fact 30 rfl)) (FunD.bindsN D5 fun _ _ _ _ _ _ us hl => match us, hl with | [_, _], _ => rfl)
  obtain ⟨fd6, D6⟩ := c.def_ 6 (d := dd6) rfl
  have S7 := S6.stepN (c := 0) (x := "Weave") (N := ["self", "editions", "rows"]) (ps := ["self", "editions", "rows"]) (k := 5) (b := MP.b_Weave_init) D6 (by decide +kernel) rfl (by decide +kernel) (He.mkr_ok (c.fact 22 rfl)) (He.glo_ok X G0 (c.fact 20 rfl)) (FunD.bindsN D6 fun _ _ _ _ _ _ us hl => match us, hl with | [_, _, _], _ => rfl)
  have S8 := S7.skip MP.f_Weave_len
  have S9 := S8.skip MP.f_Weave_eq
  have S10 := S9.skip MP.f_Weave_editions
  have S11 := S10.skip MP.f_Weave_rows
  have S12 := S11.skip MP.f_check_number
  have S13 := S12.skip MP.f_check_lot
  have S14 := S13.skip MP.f_lot_from
  obtain ⟨fd14, D14⟩ := c.def_ 7 (d := dd7) rfl
  have S15 := S14.stepC (N := ["row", "lot", "one"]) (ps := ["row", "lot"]) (k := 1) (b := MP.b_is_told) D14 (by decide +kernel) rfl (by decide +kernel) (He.glo_ok X G0 (c.fact 31 rfl)) (FunD.bindsN D14 fun _ _ _ _ _ _ us hl => match us, hl with | [_, _], _ => rfl)
  have S16 := S15.skip MP.f_check_number_d
  have S17 := S16.skip MP.f_lot_of
  obtain ⟨fd17, D17⟩ := c.def_ 8 (d := dd8) rfl
  have S18 := S17.stepC (N := ["weave", "lot", "row"]) (ps := ["weave", "lot"]) (k := 2) (b := MP.b_told_rows) D17 (by decide +kernel) rfl (by decide +kernel) (He.glo_ok X G0 (c.fact 32 rfl)) (FunD.bindsN D17 fun _ _ _ _ _ _ us hl => match us, hl with | [_, _], _ => rfl)
  have S19 := S18.skip MP.f_told
  have S20 := S19.skip MP.f_brought
  have S21 := S20.skip MP.f_struck
  have S22 := S21.skip MP.f_base_of
  have S23 := S22.skip MP.f_asked_edition
  have S24 := S23.skip MP.f_ground_lot
  have S25 := S24.skip MP.f_many_changed
  have S26 := S25.skip MP.f_Woven_init
  have S27 := S26.skip MP.f_steps_of
  have S28 := S27.skip MP.f_check_two
  have S29 := S28.skip MP.f_joined
  have S30 := S29.skip MP.f_clashes
  have S31 := S30.skip MP.f_less
  have S32 := S31.skip MP.f_lot_less
  have S33 := S32.skip MP.f_cut
  have S34 := S33.skip MP.f_numbers_in
  have S35 := S34.skip MP.f_Reading_init
  have S36 := S35.skip MP.f_Reading_take_text
  have S37 := S36.skip MP.f_Reading_take_mark
  have S38 := S37.skip MP.f_Store_init
  have S39 := S38.skip MP.f_Store_weave
  have S40 := S39.skip MP.f_Store_text
  have S41 := S40.skip MP.f_Store_log
  have S42 := S41.skip MP.f_Store_deeds
  obtain ⟨fd42, D42⟩ := c.def_ 9 (d := dd9) rfl
  have S43 := S42.stepC (N := ["_law_cell", "_law_k", "_law_many", "_law_primes"]) (ps := ["_law_cell", "_law_k", "_law_many"]) (k := 1) (b := MP.k01.b__law_draw) D42 (by decide +kernel) rfl (by decide +kernel) (He.glo_ok X G0 (c.fact 33 rfl)) (FunD.bindsN D42 fun _ _ _ _ _ _ us hl => match us, hl with | [_, _, _], _ => rfl)
  obtain ⟨fd43, D43⟩ := c.def_ 10 (d := dd10) rfl
  have S44 := S43.stepC (N := ["_law_script", "_law_k"]) (ps := ["_law_script", "_law_k"]) (k := 2) (b := MP.k01.b__law_cell_at) D43 (by decide +kernel) rfl (by decide +kernel) (He.glo_ok X G0 (c.fact 34 rfl)) (FunD.bindsN D43 fun _ _ _ _ _ _ us hl => match us, hl with | [_, _], _ => rfl)
  obtain ⟨fd44, D44⟩ := c.def_ 11 (d := dd11) rfl
  have S45 := S44.stepC (N := ["_law_script", "_law_at", "_law_many", "_law_root", "_law_left", "_law_turn", "_law_cell", "_law_found", "_law_blend", "_law_more"]) (ps := ["_law_script", "_law_at", "_law_many", "_law_root"]) (k := 3) (b := MP.k01.b__law_digits) D44 (by decide +kernel) rfl (by decide +kernel) (He.glo_ok X G0 (c.fact 35 rfl)) (FunD.bindsN D44 fun _ _ _ _ _ _ us hl => match us, hl with | [_, _, _, _], _ => rfl)
  obtain ⟨fd45, D45⟩ := c.def_ 12 (d := dd12) rfl
  have S46 := S45.stepC (N := ["_law_draw_here", "_law_many", "_law_one"]) (ps := ["_law_draw_here", "_law_many"]) (k := 1) (b := MP.k01.b__law_some) D45 (by decide +kernel) rfl (by decide +kernel) (He.glo_ok X G0 (c.fact 36 rfl)) (FunD.bindsN D45 fun _ _ _ _ _ _ us hl => match us, hl with | [_, _], _ => rfl)
  obtain ⟨fd46, D46⟩ := c.def_ 13 (d := dd13) rfl
  have S47 := S46.stepC (N := ["_law_script", "_law_at", "_law_many", "_law_found", "_law_turn", "_law_draw_here", "_law_root", "_law_takes", "_law_leaves", "_law_one"]) (ps := ["_law_script", "_law_at", "_law_many"]) (k := 4) (b := MP.k01.b__law_editions) D46 (by decide +kernel) rfl (by decide +kernel) (He.glo_ok X G0 (c.fact 37 rfl)) (FunD.bindsN D46 fun _ _ _ _ _ _ us hl => match us, hl with | [_, _, _], _ => rfl)
  obtain ⟨fd47, D47⟩ := c.def_ 14 (d := dd14) rfl
  have S48 := S47.stepC (N := []) (ps := []) (k := 1) (b := MP.k01.b__law_words) D47 (by decide +kernel) rfl (by decide +kernel) (He.glo_ok X G0 (c.fact 38 rfl)) (FunD.bindsN D47 fun _ _ _ _ _ _ us hl => match us, hl with | [], _ => rfl)
  obtain ⟨fd48, D48⟩ := c.def_ 15 (d := dd15) rfl
  have S49 := S48.stepC (N := ["_law_script", "_law_at", "_law_many", "_law_size", "_law_found", "_law_draw_here", "_law_owner", "_law_strikers", "_law_one"]) (ps := ["_law_script", "_law_at", "_law_many", "_law_size"]) (k := 4) (b := MP.k01.b__law_rows) D48 (by decide +kernel) rfl (by decide +kernel) (He.glo_ok X G0 (c.fact 39 rfl)) (FunD.bindsN D48 fun _ _ _ _ _ _ us hl => match us, hl with | [_, _, _, _], _ => rfl)
  obtain ⟨fd49, D49⟩ := c.def_ 16 (d := dd16) rfl
  have S50 := S49.stepC (N := ["_law_row", "_law_lot", "_law_one"]) (ps := ["_law_row", "_law_lot"]) (k := 1) (b := MP.k04.b__law_is_told) D49 (by decide +kernel) rfl (by decide +kernel) (He.glo_ok X G0 (c.fact 40 rfl)) (FunD.bindsN D49 fun _ _ _ _ _ _ us hl => match us, hl with | [_, _], _ => rfl)
  obtain ⟨fd50, D50⟩ := c.def_ 17 (d := dd17) rfl
  have S51 := S50.stepC (N := ["_law_rows_here", "_law_lot", "_law_row"]) (ps := ["_law_rows_here", "_law_lot"]) (k := 2) (b := MP.k04.b__law_text) D50 (by decide +kernel) rfl (by decide +kernel) (He.glo_ok X G0 (c.fact 41 rfl)) (FunD.bindsN D50 fun _ _ _ _ _ _ us hl => match us, hl with | [_, _], _ => rfl)
  obtain ⟨fd51, D51⟩ := c.def_ 18 (d := dd18) rfl
  have S52 := S51.stepL (lam := true) (N := ["_law_many", "_law_found", "_law_number", "_law_lot"]) (ps := ["_law_many"]) (k := 1) (b := MP.k04.b__law_lots) D51 (by decide +kernel) rfl (by decide +kernel) (fun _ => lam_at (tf := tf) rfl nd (by decide) D51 TB) (He.glo_ok X G0 (c.fact 42 rfl)) (FunD.bindsN D51 fun _ _ _ _ _ _ us hl => match us, hl with | [_], _ => rfl)
  obtain ⟨fd52, D52⟩ := c.def_ 19 (d := dd19) rfl
  have S53 := S52.stepC (N := ["_law_rows_here", "_law_drawn", "_law_number", "_law_many", "_law_at", "_law_kind", "_law_owner", "_law_strikers", "_law_text_here", "_law_fewer"]) (ps := ["_law_rows_here", "_law_drawn", "_law_number", "_law_many"]) (k := 1) (b := MP.k04.b__law_other) D52 (by decide +kernel) rfl (by decide +kernel) (He.glo_ok X G0 (c.fact 43 rfl)) (FunD.bindsN D52 fun _ _ _ _ _ _ us hl => match us, hl with | [_, _, _, _], _ => rfl)
  obtain ⟨fd53, D53⟩ := c.def_ 20 (d := dd20) rfl
  have S54 := S53.stepL (lam := true) (N := ["many", "found", "number", "lot"]) (ps := ["many"]) (k := 1) (b := MP.k04.b_all_lots) D53 (by decide +kernel) rfl (by decide +kernel) (fun _ => lam_at (tf := tf) rfl nd (by decide) D53 TB) (He.glo_ok X G0 (c.fact 44 rfl)) (FunD.bindsN D53 fun _ _ _ _ _ _ us hl => match us, hl with | [_], _ => rfl)
  obtain ⟨fd54, D54⟩ := c.def_ 21 (d := dd21) rfl
  have S55 := S54.stepC (N := ["one", "other", "lot", "row"]) (ps := ["one", "other"]) (k := 3) (b := MP.k04.b_apart) D54 (by decide +kernel) rfl (by decide +kernel) (He.glo_ok X G0 (c.fact 45 rfl)) (FunD.bindsN D54 fun _ _ _ _ _ _ us hl => match us, hl with | [_, _], _ => rfl)
  exact fn_cxw (def_ok (lam := false) (N := ["_law_script", "_law_by", "_law_draws", "_law_many", "_law_one", "_law_other_here", "_law_weaves", "_law_some_here", "_law_due", "_law_lot"]) (ps := ["_law_script"]) (k := 7) (b := MP.k04.b_law) DL (by decide +kernel) rfl (by decide +kernel) (fun e => by cases e) S55.ok)
end MPS.k04
open PySem PySem.W PySem.Calls PyProof.Rows
theorem holds_of_k04 (level2 : ∀ ns : List Int, ns.length ≤ 63 → ∃ hp, MP.k04.f_law [.rol (ns.map MP.MV.int)] [] = .ok (.bl true) hp) : PySem.Challenge.rw_weavefile_k04_whole_apart.Holds := by
  w_on; o_law
  refine HandSHeadRun.head_any (r := OpenLaw.row PySem.Challenge.rw_weavefile_k04_whole_apart) (q := view (OpenLaw.row PySem.Challenge.rw_weavefile_k04_whole_apart).prog [34]) (H := MPS.k04.hk) (ob := MPS.k04.ob) (M := 20000) (loose := MPS.k04.nm) (d := HandSHeadRun.topDef (OpenLaw.row PySem.Challenge.rw_weavefile_k04_whole_apart).prog 34) (kwd := []) MPS.k04.ob_eq
    (by kernel_rfl) (fun s => by kernel_rfl) MPS.k04.run (by kernel_rfl) (by kernel_rfl) (by kernel_rfl) (by rfl) (by first | assumption | decide +kernel) (by decide +kernel) ⟨rfl, rfl, rfl, rfl, rfl, by decide +kernel⟩ ?hw ?hc
  case hw => w_witness2
  case hc =>
    refine LamX.walk_ofTsE (l := PySem.Challenge.rw_weavefile_k04_whole_apart) (n := 63) (k := 8) (x := "_law_script") (CX := fun _ => MPS.CXW (PySem.Challenge.rw_weavefile_k04_whole_apart).prog) rfl (by decide) (by kernel_rfl) ⟨rfl, by decide, by decide⟩ ?F ?hCX
    case hCX =>
      intro w0 H s e s' z
      obtain ⟨_, _, _, _, _, _, _, _, _, _, _, _, _, z⟩ := z
      exact z.elim
    case F =>
      intro w mg fa h Y G hmg0
      obtain ⟨K, KX, c⟩ := Y
      have hmg : mg ("law" : PySem.Str) = some (.ref fa) := by
        have e : (HandSHeadRun.topDef (OpenLaw.row PySem.Challenge.rw_weavefile_k04_whole_apart).prog 34).name = ("law" : PySem.Str) := by kernel_rfl
        rw [← e]
        exact hmg0
      obtain ⟨fd, hb, hF⟩ := MPS.k04.facts (P := (PySem.Challenge.rw_weavefile_k04_whole_apart).prog) (w := w) KX G hmg (He.SaysT.d c.t) (MPS.exL_cl c.more) (MPS.exL_nd c.more)
      exact ⟨K, KX, fd, MPS.k04.tf.map (He.cT K), MPS.spOf (MPS.gcOf K MPS.k04.cl MPS.k04.fl [] (MPS.tabsOf K MPS.k04.tf) MPS.k04.fls) MP.k04.f_law, fun p hp => by obtain ⟨q, hq, rfl⟩ := List.mem_map.mp hp; exact c.empty q hq, fun p hp => by obtain ⟨q, hq, rfl⟩ := List.mem_map.mp hp; exact c.out q hq,
        fun p hp => by obtain ⟨q, hq, rfl⟩ := List.mem_map.mp hp; exact PySem.W.codeHd_of_K KX (c.hd q hq), hb, fun H a ns hl _ hT hS => MPS.law_sp (fun p hp => by obtain ⟨q, hq, rfl⟩ := List.mem_map.mp (show p ∈ MPS.tabsOf K MPS.k04.tf from hp); exact hT _ (List.mem_map.mpr ⟨q, hq, rfl⟩)) hS (level2 ns hl), fun base _ _ hTB => hF base hTB⟩
end

theorem PySem.Challenge.cw_weavefile_k04_whole_apart_holds : PySem.Challenge.rw_weavefile_k04_whole_apart.Holds := by
  exact holds_of_k04 MP.k04.law_ok
