import PyProof.Rows.All
import Wide.All
import OpenK.AllK
import Wide.FinOn
import PyProof.P3Statements
import PyProof.ReprRoads
import HandS.ForMost
import HandS.ForExc
import HandS.Walk
import HandS.TupAny
import HandS.Deep
import HandS.IsInst
import HandS.Flow
import HandS.Zip
import HandS.SortInts
import HandS.Conv
import HandS.CallSlots
import HandS.Exc
import HandS.ExcInit
import HandS.ExcField
import HandS.ExcIs
import HandS.TryOnly
import HandS.Ends
import HandS.Words
import HandS.WordsExc
import KE.KExcIs
import HandS.TupLe
import KE.GoesMore
import KE.GoesZip
import PyProof.CallFns
import HandS.Rev
import HandS.Style
import KE.KUnpackStar
import PyProof.ReprBulk
import PyProof.FitsInt
import PySem.Challenge.RW_laterline_k42_told_lines_judged
set_option Elab.async false
set_option linter.all false
set_option maxRecDepth 100000
set_option maxHeartbeats 4000000
/-! A small Python of its own: values, heap, syntax, and what a text of it tells. -/
namespace Py
open PySem (PyData)

/-- values: what never changes is a tree, what may change is an address -/
inductive D where
  | non | bl (b : Bool) | int (i : Int) | str (s : List Nat) | tup (xs : List D) | ref (n : Nat) | fn (f : Nat)
  deriving Inhabited
/-- what stands at an address; fz: read alone -/
inductive O where
  | lst (xs : List D) (fz : Bool)
  | dct (kvs : List (D × D)) (fz : Bool)
  | dtt (kvs : List (D × D)) (fz : Bool)
  | ins (c : Nat) (fs : List (Nat × D))
  | exc (c : Nat) (fs : List (Nat × D))
  deriving Inhabited
abbrev Hh := List O
abbrev Sg := List (Option D)
/-- an exception in the air -/
structure Xc where
  cls : Nat
  fs : List (Nat × D)
inductive R (α : Type) where
  | ok (a : α) (h : Hh)
  | ex (x : Xc) (h : Hh)
  | bad
def R.of {α : Type} : Option (α × Hh) → R α
  | some (a, h) => .ok a h
  | none => .bad
def R.bind {α β : Type} (r : R α) (k : α → Hh → R β) : R β :=
  match r with
  | .ok a h => k a h
  | .ex x h => .ex x h
  | .bad => .bad
inductive RS where
  | nx (σ : Sg) (h : Hh) | rt (d : D) (h : Hh) | bk (σ : Sg) (h : Hh) | ct (σ : Sg) (h : Hh)
  | ex (x : Xc) (σ : Sg) (h : Hh)
  | bad
/-- an expression's value inside a statement -/
def R.thn {α : Type} (r : R α) (σ : Sg) (k : α → Hh → RS) : RS :=
  match r with
  | .ok a h => k a h
  | .ex x h => .ex x σ h
  | .bad => .bad
def RS.thn (r : RS) (k : Sg → Hh → RS) : RS :=
  match r with
  | .nx σ h => k σ h
  | .rt d h => .rt d h
  | .bk σ h => .bk σ h
  | .ct σ h => .ct σ h
  | .ex x σ h => .ex x σ h
  | .bad => .bad

structure Tb where
  glob : Nat → D
  /-- c is d or beneath it -/
  sub : Nat → Nat → Bool
  /-- how many classes -/
  ncl : Nat
  /-- beneath ValueError -/
  isVe : Nat → Bool
  /-- a known def -/
  fnk : Nat → Bool := fun _ => false
  /-- a class of exceptions -/
  exn : Nat → Bool := fun _ => false
  /-- a field of a class -/
  hasF : Nat → Nat → Bool := fun _ _ => false

/-! ### operators -/
inductive BO where | add | sub | mul | fdv | mod | pow deriving DecidableEq
inductive CO where | eq | ne | lt | le | gt | ge | is | isn | inn | nin deriving DecidableEq
inductive Ty where | int | bool | str | tup | lst | dct | ve | cls (c : Nat) deriving DecidableEq
inductive BI where
  | len | list | tuple | int | abs | min | max | sorted | all | str
  deriving DecidableEq
inductive BM where
  | append | extend | lpop
  deriving DecidableEq
def SZ : Nat := 1000000

def lexLt : List Int → List Int → Bool
  | [], [] => false
  | [], _ :: _ => true
  | _ :: _, [] => false
  | x :: xs, y :: ys => if x = y then lexLt xs ys else decide (x < y)
def allI : List D → Option (List Int)
  | [] => some []
  | .int i :: r => (allI r).map (i :: ·)
  | _ :: _ => none
def allB : List D → Option (List Bool)
  | [] => some []
  | .bl b :: r => (allB r).map (b :: ·)
  | _ :: _ => none

/-- as data; f: how deep -/
def toP (h : Hh) : Nat → D → Option PyData
  | _, .non => some .none
  | _, .bl b => some (.bool b)
  | _, .int i => some (.int i)
  | _, .str s => if (s.all fun c => decide (c < 0x110000)) = true then some (.str ⟨s.toArray⟩) else none
  | f + 1, .tup xs => ((xs.mapM (toP h f)).map PyData.tuple)
  | f + 1, .ref n => match h[n]? with
    | some (.lst xs _) => ((xs.mapM (toP h f)).map PyData.list)
    | _ => none
  | _, _ => none
def keyP : D → Option PyData
  | .int i => some (.int i)
  | .str s => if (s.all fun c => decide (c < 0x110000)) = true then some (.str ⟨s.toArray⟩) else none
  | _ => none
/-- as data, dicts among it -/
def toQ (h : Hh) : Nat → D → Option PyData
  | _, .non => some .none
  | _, .bl b => some (.bool b)
  | _, .int i => some (.int i)
  | _, .str s => if (s.all fun c => decide (c < 0x110000)) = true then some (.str ⟨s.toArray⟩) else none
  | f + 1, .tup xs => ((xs.mapM (toQ h f)).map PyData.tuple)
  | f + 1, .ref n => match h[n]? with
    | some (.lst xs _) => ((xs.mapM (toQ h f)).map PyData.list)
    | some (.dct kvs false) => match (kvs.map (·.1)).mapM keyP, (kvs.map (·.2)).mapM (toQ h f) with
      | some ks, some vs => some (.dict (ks.zip vs))
      | _, _ => none
    | _ => none
  | _, _ => none
def deepest : Nat := 24
def eqD (h : Hh) (a b : D) : Option Bool :=
  match a, b with
  | .int i, .int j => some (decide (i = j))
  | .str x, .str y => some (decide (x = y))
  | .bl x, .bl y => some (decide (x = y))
  | .non, .non => some true
  | .non, .int _ | .non, .str _ | .non, .bl _ | .int _, .non | .str _, .non | .bl _, .non => some false
  | .int _, .str _ | .str _, .int _ | .bl _, .str _ | .str _, .bl _ => some false
  | a, b => match toP h deepest a, toP h deepest b with
    | some p, some q => some (PyData.eqv p q)
    | _, _ => none

def ix (n : Nat) (i : Int) : Option Nat :=
  if 0 ≤ i then (if i < n then some i.toNat else none) else if -(n : Int) ≤ i then some (i + n).toNat else none
def cutIx (n dflt : Nat) : Option Int → Nat
  | none => dflt
  | some i => if 0 ≤ i then min i.toNat n else (i + n).toNat
def cut {α : Type} (xs : List α) (lo hi : Option Int) : List α :=
  (xs.drop (cutIx xs.length 0 lo)).take (cutIx xs.length xs.length hi - cutIx xs.length 0 lo)

abbrev VR := Option (D × Hh)
def newO (o : O) (h : Hh) : VR := some (.ref h.length, h ++ [o])

def binD : BO → D → D → Hh → VR
  | .add, .int i, .int j, h => some (.int (i + j), h)
  | .add, .str a, .str b, h => if a.length + b.length ≤ SZ then some (.str (a ++ b), h) else none
  | .add, .tup a, .tup b, h => if a.length + b.length ≤ SZ then some (.tup (a ++ b), h) else none
  | .add, .ref m, .ref n, h => match h[m]?, h[n]? with
    | some (.lst a false), some (.lst b false) => if a.length + b.length ≤ SZ then newO (.lst (a ++ b) false) h else none
    | _, _ => none
  | .sub, .int i, .int j, h => some (.int (i - j), h)
  | .mul, .int i, .int j, h => if (-(2 ^ 64) < i ∧ i < 2 ^ 64) ∨ (-(2 ^ 64) < j ∧ j < 2 ^ 64) then some (.int (i * j), h) else none
  | .mul, .ref m, .int k, h => match h[m]? with
    | some (.lst a false) => if -1000000 ≤ k ∧ k ≤ 1000000 ∧ a.length * k.toNat ≤ SZ then newO (.lst (List.replicate k.toNat a).flatten false) h else none
    | _ => none
  | .fdv, .int i, .int j, h => if 0 < j ∧ j < 1073741824 then some (.int (i / j), h) else none
  | .mod, .int i, .int j, h => if 0 < j then some (.int (i % j), h) else none
  | .pow, .int i, .int j, h => if 0 ≤ j ∧ j ≤ 1000000 ∧ i.natAbs < 2 ^ 64 then some (.int (i ^ j.toNat), h) else none
  | _, _, _, _ => none

def negD : D → Hh → VR
  | .int i, h => some (.int (-i), h)
  | _, _ => none
def ob {α : Type} : Option α → (α → VR) → VR
  | some a, k => k a
  | none, _ => none
def inL (h : Hh) (x : D) (xs : List D) : Option Bool :=
  match toP h deepest x, xs.mapM (toP h (deepest - 1)) with
  | some p, some qs => some (qs.any fun q => PyData.eqv q p)
  | _, _ => none
/-- a key of a dict -/
def isKey : D → Bool
  | .int _ => true
  | .str _ => true
  | _ => false
def keyEq : D → D → Bool
  | .int i, .int j => i == j
  | .str a, .str b => a == b
  | .tup [.int i, .int j], .tup [.int k, .int l] => i == k && j == l
  | _, _ => false
def look (kvs : List (D × D)) (k : D) : Option D := (kvs.find? fun p => keyEq p.1 k).map (·.2)
def putKV (kvs : List (D × D)) (k v : D) : List (D × D) :=
  if (kvs.any fun p => keyEq p.1 k) = true then kvs.map (fun p => if keyEq p.1 k = true then (p.1, v) else p) else kvs ++ [(k, v)]
def dropKV (kvs : List (D × D)) (k : D) : List (D × D) := kvs.filter fun p => !keyEq p.1 k

def flatD : D → Bool
  | .non | .bl _ | .int _ | .str _ => true
  | _ => false
/-- == of flat values -/
def eqF : D → D → Bool
  | .non, .non => true
  | .bl a, .bl b => a == b
  | .bl a, .int b => (if a then 1 else 0) == b
  | .int a, .bl b => a == (if b then 1 else 0)
  | .int a, .int b => a == b
  | .str a, .str b => a == b
  | _, _ => false
def inT (x : D) (xs : List D) : Option Bool := if flatD x && xs.all flatD then some (xs.any fun y => eqF y x) else none
def inD (x y : D) (h : Hh) : Option Bool :=
  match y with
  | .str s => match x with
    | .str [c] => some (decide (c ∈ s))
    | _ => none
  | .tup xs => inT x xs
  | .ref n => match h[n]? with
    | some (.lst xs _) => inL h x xs
    | some (.dct kvs false) => if isKey x then some (look kvs x).isSome else none
    | _ => none
  | _ => none
def isB (b : Bool) : D → Bool
  | .bl a => decide (a = b)
  | _ => false
def isNon : D → Bool
  | .non => true
  | _ => false
def cmpD : CO → D → D → Hh → VR
  | .eq, a, b, h => ob (eqD h a b) fun c => some (.bl c, h)
  | .ne, a, b, h => ob (eqD h a b) fun c => some (.bl (!c), h)
  | .lt, .int i, .int j, h => some (.bl (decide (i < j)), h)
  | .le, .int i, .int j, h => some (.bl (decide (i ≤ j)), h)
  | .gt, .int i, .int j, h => some (.bl (decide (j < i)), h)
  | .ge, .int i, .int j, h => some (.bl (decide (j ≤ i)), h)
  | .lt, .str a, .str b, h => some (.bl (decide (a < b)), h)
  | .le, .str a, .str b, h => some (.bl (!decide (b < a)), h)
  | .gt, .str a, .str b, h => some (.bl (decide (b < a)), h)
  | .ge, .str a, .str b, h => some (.bl (!decide (a < b)), h)
  | .lt, .tup a, .tup b, h => match allI a, allI b with
    | some x, some y => some (.bl (lexLt x y), h)
    | _, _ => none
  | .gt, .tup a, .tup b, h => match allI a, allI b with
    | some x, some y => some (.bl (lexLt y x), h)
    | _, _ => none
  | .is, .bl a, .bl b, h => some (.bl (decide (a = b)), h)
  | .isn, .bl a, .bl b, h => some (.bl (!decide (a = b)), h)
  | .is, a, .bl b, h => some (.bl (isB b a), h)
  | .isn, a, .bl b, h => some (.bl (!isB b a), h)
  | .is, a, .non, h => some (.bl (isNon a), h)
  | .isn, a, .non, h => some (.bl (!isNon a), h)
  | .inn, a, b, h => ob (inD a b h) fun c => some (.bl c, h)
  | .nin, a, b, h => ob (inD a b h) fun c => some (.bl (!c), h)
  | _, _, _, _ => none
def tru (h : Hh) : D → Option Bool
  | .non => some false
  | .bl b => some b
  | .int i => some (i != 0)
  | .str s => if s.length ≤ SZ then some (!s.isEmpty) else none
  | .tup xs => some (!xs.isEmpty)
  | .ref n => match h[n]? with
    | some (.lst xs _) => some (!xs.isEmpty)
    | _ => none
  | .fn _ => none
def ixD (a i : D) (h : Hh) : VR :=
  match a, i with
  | .tup xs, .int k => ob ((ix xs.length k).bind fun j => xs[j]?) fun v => some (v, h)
  | .str s, .int k => if s.length ≤ SZ then ob ((ix s.length k).bind fun j => s[j]?) fun c => some (.str [c], h) else none
  | .ref n, k => match h[n]? with
    | some (.lst xs _) => (match k with
      | .int k => ob ((ix xs.length k).bind fun j => xs[j]?) fun v => some (v, h)
      | _ => none)
    | some (.dct kvs false) => if isKey k then ob (look kvs k) fun v => some (v, h) else none
    | _ => none
  | _, _ => none
def slD (a : D) (lo hi : Option Int) (h : Hh) : VR :=
  match a with
  | .tup xs => some (.tup (cut xs lo hi), h)
  | .str s => if s.length ≤ SZ then some (.str (cut s lo hi), h) else none
  | .ref n => match h[n]? with
    | some (.lst xs _) => newO (.lst (cut xs lo hi) false) h
    | _ => none
  | _ => none
def isTy (T : Tb) (h : Hh) (d : D) (t : Ty) : Option Bool :=
  match t with
  | .cls c => if c < T.ncl then (match d with
    | .fn _ => none
    | .ref n => (match h[n]? with
      | some (.lst _ _) => some false
      | some (.dct _ _) => some false
      | some (.ins e _) => if e < T.ncl ∧ T.exn e = false then some (T.sub e c) else none
      | some (.exc e _) => if e < T.ncl ∧ T.exn e = true then some (T.sub e c) else none
      | _ => none)
    | _ => some false) else none
  | t => (match d with
    | .non => some false
    | .bl _ => some (t == .int || t == .bool)
    | .int _ => some (t == .int)
    | .str _ => some (t == .str)
    | .tup _ => some (t == .tup)
    | .ref n => (match h[n]? with
      | some (.lst _ _) => some (t == .lst)
      | some (.dct _ _) => some (t == .dct)
      | some (.ins e _) => if e < T.ncl ∧ T.exn e = false then some (t == .ve && T.isVe e) else none
      | some (.exc e _) => if e < T.ncl ∧ T.exn e = true then some (t == .ve && T.isVe e) else none
      | _ => none)
    | .fn _ => none)
def isTys (T : Tb) (h : Hh) (d : D) : List Ty → Option Bool
  | [] => some false
  | t :: ts => match isTy T h d t with
    | some true => some true
    | some false => isTys T h d ts
    | none => none
def seqOf (h : Hh) : D → Option (List D)
  | .tup xs => some xs
  | .ref n => match h[n]? with
    | some (.lst xs _) => some xs
    | _ => none
  | _ => none
def insI (x : Int) : List Int → List Int
  | [] => [x]
  | y :: ys => if x ≤ y then x :: y :: ys else y :: insI x ys
def sortI : List Int → List Int
  | [] => []
  | x :: xs => insI x (sortI xs)
def minL : List Int → Option Int
  | [] => none
  | x :: xs => some (xs.foldl (fun a b => if b < a then b else a) x)
def maxL : List Int → Option Int
  | [] => none
  | x :: xs => some (xs.foldl (fun a b => if b > a then b else a) x)
def biD : BI → List D → Hh → VR
  | .len, [.str s], h => if s.length ≤ SZ then some (.int s.length, h) else none
  | .len, [.tup xs], h => some (.int xs.length, h)
  | .len, [.ref n], h => match h[n]? with
    | some (.lst xs _) => some (.int xs.length, h)
    | _ => none
  | .list, [d], h => ob (seqOf h d) fun xs => newO (.lst xs false) h
  | .tuple, [d], h => ob (seqOf h d) fun xs => some (.tup xs, h)
  | .int, [.int i], h => some (.int i, h)
  | .int, [.bl b], h => some (.int (if b then 1 else 0), h)
  | .str, [.int i], h => if i.natAbs.log2 < 1920 then some (.str (PySem.Str.ofString (toString i)).cps.toList, h) else none
  | .abs, [.int i], h => some (.int (if i < 0 then -i else i), h)
  | .min, [.int i, .int j], h => some (.int (if j < i then j else i), h)
  | .max, [.int i, .int j], h => some (.int (if j > i then j else i), h)
  | .min, [.ref n], h => match h[n]? with
    | some (.lst xs _) => ob ((allI xs).bind minL) fun m => some (.int m, h)
    | _ => none
  | .max, [.ref n], h => match h[n]? with
    | some (.lst xs _) => ob ((allI xs).bind maxL) fun m => some (.int m, h)
    | _ => none
  | .all, [.ref n], h => match h[n]? with
    | some (.lst xs _) => ob (allB xs) fun bs => some (.bl (bs.all id), h)
    | _ => none
  | .sorted, [.ref n], h => match h[n]? with
    | some (.lst xs _) => ob (allI xs) fun ns => newO (.lst ((sortI ns).map .int) false) h
    | _ => none
  | _, _, _ => none
def bmD : BM → D → List D → Hh → VR
  | .append, .ref n, [x], h => match h[n]? with
    | some (.lst xs false) => if xs.length < SZ then some (.non, h.set n (.lst (xs ++ [x]) false)) else none
    | _ => none
  | .lpop, .ref n, [.int k], h => match h[n]? with
    | some (.lst xs false) => ob (ix xs.length k) fun j => ob xs[j]? fun v => some (v, h.set n (.lst (xs.eraseIdx j) false))
    | _ => none
  | .extend, .ref n, [.ref m], h => match h[n]?, h[m]? with
    | some (.lst xs false), some (.lst ys false) => if xs.length + ys.length < SZ then some (.non, h.set n (.lst (xs ++ ys) false)) else none
    | _, _ => none
  | _, _, _, _ => none
def setIx (o i v : D) (h : Hh) : Option Hh :=
  match o with
  | .ref n => match h[n]? with
    | some (.lst xs false) => (match i with
      | .int k => match ix xs.length k with
        | some j => some (h.set n (.lst (xs.set j v) false))
        | none => none
      | _ => none)
    | some (.dct kvs false) => if isKey i = true ∧ kvs.length < SZ then some (h.set n (.dct (putKV kvs i v) false)) else none
    | _ => none
  | _ => none
def reprQ (x : D) (h : Hh) : VR := match toQ h deepest x with
  | some p => if PyData.showable p = true ∧ p.shown.length ≤ SZ then some (.str p.shown.cps.toList, h) else none
  | none => none
def reprP (x : D) (h : Hh) : VR := match toP h deepest x with
  | some p => if PyData.showable p = true ∧ p.shown.length ≤ SZ then some (.str p.shown.cps.toList, h) else none
  | none => reprQ x h
def reprD (x : D) (h : Hh) : VR := match x with
  | .ref n => (match h[n]? with
    | some (.dct [] false) => some (.str [123, 125], h)
    | _ => reprP x h)
  | _ => reprP x h
def lookF (fs : List (Nat × D)) (f : Nat) : Option D := (fs.find? fun p => p.1 == f).map (·.2)
def putF (fs : List (Nat × D)) (f : Nat) (v : D) : List (Nat × D) :=
  match fs with
  | [] => [(f, v)]
  | p :: r => if p.1 == f then (f, v) :: r else p :: putF r f v

/-! ### syntax -/
mutual
inductive Tg where
  | nm (i : Nat)
  | tup (ts : Tgs)
inductive Tgs where
  | nil | cons (t : Tg) (ts : Tgs)
end
mutual
inductive E where
  | fld (a : E) (f : Nat)
  | fnv (f : Nat) | calll (i : Nat) (es : Es)
  | repr (a : E) | dct0 | dct1 (a b : E) | trev (a : E) | srev (a : E)
  | non | bl (b : Bool) | int (i : Int) | str (s : List Nat)
  | var (i : Nat) | glob (g : Nat)
  | bin (op : BO) (a b : E) | neg (a : E) | not (a : E)
  | and (a b : E) | or (a b : E)
  | cmp (op : CO) (a b : E) | chn (op op' : CO) (a b c : E)
  | ife (c a b : E)
  | tup (es : Es) | lst (es : Es)
  | ix (a i : E) | sl (a : E) (lo hi : Eo)
  | call (f : Nat) (es : Es)
  | bi (b : BI) (es : Es) | bm (b : BM) (o : E) (es : Es)
  | isi (a : E) (ts : List Ty)
  | lrng1 (a : E) | lrng2 (a b : E)
  | comp (el : E) (own : List Nat) (tg : Tg) (it : Wi) (cd : Eo)
inductive Es where
  | nil | cons (e : E) (es : Es)
inductive Eo where
  | none | some (e : E)
inductive Wi where
  | seq (e : E) | rng1 (e : E) | rng2 (a b : E) | enum (e : E) | zip (a b : E)
end
mutual
inductive S where
  | asg (t : Tg) (e : E)
  | asgc (i : Nat) (e : E)
  | asgs (ts : Tgs) (e : E)
  | setix (o i e : E)
  | swap (o i p j a b : E)
  | ex (e : E) | ret (e : E) | pass
  | iff (c : E) (a b : Ss)
  | forr (t : Tg) (it : Wi) (b : Ss)
  | raise0 (c : Nat) | raise1 (c f : Nat) (e : E)
  | tryk (b : Ss) (c i j : Nat)
  | never
inductive Ss where
  | nil | cons (s : S) (ss : Ss)
end

/-! ### what it tells -/
mutual
def Tg.put : Tg → D → Hh → Sg → Option Sg
  | .nm i, d, _, σ => some (σ.set i (some d))
  | .tup ts, d, h, σ => (seqOf h d).bind fun xs => Tgs.put ts xs h σ
def Tgs.put : Tgs → List D → Hh → Sg → Option Sg
  | .nil, [], _, σ => some σ
  | .cons t ts, x :: xs, h, σ => (Tg.put t x h σ).bind fun σ' => Tgs.put ts xs h σ'
  | _, _, _, _ => none
end
def wipe (σ : Sg) : List Nat → Sg
  | [] => σ
  | v :: vs => (wipe σ vs).set v none
/-- what a walk goes over: the items, and what must stand as it is meanwhile -/
structure Wk where
  items : List D
  gd : List (Nat × O)
open Classical in
noncomputable def Wk.ok (w : Wk) (h : Hh) : Bool := w.gd.all fun p => decide (h[p.1]? = some p.2)
def enumD : Nat → List D → List D
  | _, [] => []
  | k, x :: xs => .tup [.int (k : Int), x] :: enumD (k + 1) xs
def zipD : List D → List D → List D
  | x :: xs, y :: ys => .tup [x, y] :: zipD xs ys
  | _, _ => []
def gdOf (h : Hh) : D → List (Nat × O)
  | .ref n => match h[n]? with
    | some o => [(n, o)]
    | none => []
  | _ => []
def rngI (lo : Int) (n : Nat) : List D := (List.range n).map fun (k : Nat) => .int (lo + (k : Int))
def mkRng (i j : Int) (h : Hh) : R D :=
  if -1000000 ≤ i ∧ i ≤ 1000000 ∧ -1000000 ≤ j ∧ j ≤ 1000000 then R.of (newO (.lst (rngI i (j - i).toNat) false) h) else .bad
noncomputable def forL (w : Wk) (body : D → Sg → Hh → RS) : List D → Sg → Hh → RS
  | [], σ, h => if w.ok h then .nx σ h else .bad
  | x :: xs, σ, h => if w.ok h then
      (match body x σ h with
      | .nx σ' h' => forL w body xs σ' h'
      | .ct σ' h' => forL w body xs σ' h'
      | .bk σ' h' => .nx σ' h'
      | .rt d h' => .rt d h'
      | .ex x σ' h' => .ex x σ' h'
      | .bad => .bad)
    else .bad
/-- a comprehension: the new list stands at n -/
noncomputable def compL (w : Wk) (n : Nat) (el : D → Hh → R (Option D)) : List D → Hh → R Unit
  | [], h => if w.ok h then .ok () h else .bad
  | x :: xs, h => if w.ok h then
      (match el x h with
      | .ok (some v) h' => match h'[n]? with
        | some (.lst acc false) => if acc.length < SZ then compL w n el xs (h'.set n (.lst (acc ++ [v]) false)) else .bad
        | _ => .bad
      | .ok none h' => compL w n el xs h'
      | _ => .bad)
    else .bad

/-- an expression: as a value, and as a test -/
structure Den where
  v : Sg → Hh → R D
  t : Sg → Hh → R Bool
def truR (r : R D) : R Bool := r.bind fun x h => match tru h x with
  | some b => .ok b h
  | none => .bad
def Den.of (v : Sg → Hh → R D) : Den := ⟨v, fun σ h => truR (v σ h)⟩
abbrev Cl := Nat → List D → Hh → R D
noncomputable def compD (w : Wk) (n : Nat) (put : D → Hh → Option Sg) (cd : Sg → Hh → R Bool) (el : Sg → Hh → R D) (h : Hh) : R D :=
  (compL w n (fun x h => match put x h with
    | some σ' => (cd σ' h).bind fun b h => match b with
      | true => (el σ' h).bind fun v h => .ok (some v) h
      | false => .ok none h
    | none => .bad) w.items (h ++ [.lst [] false])).bind fun _ h' => .ok (.ref n) h'
def seqW (x : D) (h : Hh) : R Wk := match x with
  | .str s => .ok ⟨s.map fun c => .str [c], []⟩ h
  | x => match seqOf h x with
    | some xs => .ok ⟨xs, gdOf h x⟩ h
    | none => .bad
def rngW (x y : D) (h : Hh) : R Wk := match x, y with
  | .int i, .int j => if -1000000000 ≤ i ∧ i ≤ 1000000000 ∧ -1000000000 ≤ j ∧ j ≤ 1000000000 then .ok ⟨rngI i (j - i).toNat, []⟩ h else .bad
  | _, _ => .bad
def enumW (x : D) (h : Hh) : R Wk := match x with
  | .ref n => (match h[n]? with
    | some (.lst xs f) => .ok ⟨enumD 0 xs, [(n, .lst xs f)]⟩ h
    | _ => .bad)
  | .tup xs => .ok ⟨enumD 0 xs, []⟩ h
  | _ => .bad
def zipW (x y : D) (h : Hh) : R Wk := match x, y with
  | .tup xs, .tup ys => .ok ⟨zipD xs ys, []⟩ h
  | .ref m, .ref n => (match h[m]?, h[n]? with
    | some (.lst xs f), some (.lst ys g) => .ok ⟨zipD xs ys, [(m, .lst xs f), (n, .lst ys g)]⟩ h
    | _, _ => .bad)
  | .tup xs, .ref n => (match h[n]? with
    | some (.lst ys g) => .ok ⟨zipD xs ys, [(n, .lst ys g)]⟩ h
    | _ => .bad)
  | _, _ => .bad
def andR (x : D) (h : Hh) (k : Hh → R D) : R D := match x with
  | .bl true => k h
  | .bl false => .ok (.bl false) h
  | _ => .bad
def orR (x : D) (h : Hh) (k : Hh → R D) : R D := match x with
  | .bl true => .ok (.bl true) h
  | .bl false => k h
  | _ => .bad
def iteR {α : Type} (b : Bool) (x y : R α) : R α := match b with
  | true => x
  | false => y
def lrngR (x y : D) (h : Hh) : R D := match x, y with
  | .int i, .int j => mkRng i j h
  | _, _ => .bad
/-- a field of an instance, or of a caught exception -/
def fldR (T : Tb) (x : D) (f : Nat) (h : Hh) : R D := match x with
  | .ref n => (match h[n]? with
    | some (.exc c fs) => if c < T.ncl ∧ T.exn c = true ∧ T.hasF c f = true then (match lookF fs f with
      | some v => .ok v h
      | none => .bad) else .bad
    | _ => .bad)
  | _ => .bad
def varR (σ : Sg) (i : Nat) (h : Hh) : R D := match σ[i]? with
  | some (some d) => .ok d h
  | _ => .bad
/-- what a method is asked of: 1 a list, 2 a dict, 3 a text -/
def kd (x : D) (h : Hh) : Nat := match x with
  | .str _ => 3
  | .ref n => (match h[n]? with
    | some (.lst _ _) => 1
    | some (.dct _ _) => 2
    | _ => 0)
  | _ => 0
def bmK : BM → Nat
  | .append => 1 | .extend => 1 | .lpop => 1
def recvR (b : BM) (x : D) (h : Hh) (r : R D) : R D := if kd x h = bmK b then r else .bad
def intR (x : D) (h : Hh) : R (Option Int) := match x with
  | .int i => .ok (some i) h
  | _ => .bad
def fnR (T : Tb) (g : D) (k : Nat → R D) : R D := match g with
  | .fn f => if T.fnk f = true then k f else .bad
  | _ => .bad
def dct1R (n : Nat) (x y : D) (h : Hh) : R D := match h[n]? with
  | some (.dct [] false) => if isKey x = true then .ok (.ref n) (h.set n (.dct [(x, y)] false)) else .bad
  | _ => .bad
/-- tuple(reversed(x)) -/
def trevR (x : D) (h : Hh) : R D := match x with
  | .tup xs => .ok (.tup xs.reverse) h
  | _ => .bad
/-- x[::-1] -/
def srevR (x : D) (h : Hh) : R D := match x with
  | .ref n => (match h[n]? with
    | some (.lst xs _) => R.of (newO (.lst xs.reverse false) h)
    | _ => .bad)
  | _ => .bad
mutual
noncomputable def den (T : Tb) (C : Cl) : E → Den
  | .fld a f => .of fun σ h => ((den T C a).v σ h).bind fun x h => fldR T x f h
  | .fnv f => .of fun _ h => .ok (.fn f) h
  | .calll i es => .of fun σ h => (varR σ i h).bind fun g h => fnR T g fun f => (dens T C es σ h).bind fun xs h => C f xs h
  | .dct0 => .of fun _ h => R.of (newO (.dct [] false) h)
  | .dct1 a b => .of fun σ h => ((den T C a).v σ (h ++ [.dct [] false])).bind fun x h1 => ((den T C b).v σ h1).bind fun y h2 => dct1R h.length x y h2
  | .trev a => .of fun σ h => ((den T C a).v σ h).bind fun x h => trevR x h
  | .srev a => .of fun σ h => ((den T C a).v σ h).bind fun x h => srevR x h
  | .repr a => .of fun σ h => ((den T C a).v σ h).bind fun x h => R.of (reprD x h)
  | .non => .of fun _ h => .ok .non h
  | .bl b => .of fun _ h => .ok (.bl b) h
  | .int i => .of fun _ h => .ok (.int i) h
  | .str s => .of fun _ h => .ok (.str s) h
  | .var i => .of fun σ h => varR σ i h
  | .glob g => .of fun _ h => .ok (T.glob g) h
  | .bin op a b => .of fun σ h => ((den T C a).v σ h).bind fun x h => ((den T C b).v σ h).bind fun y h => R.of (binD op x y h)
  | .neg a => .of fun σ h => ((den T C a).v σ h).bind fun x h => R.of (negD x h)
  | .not a => ⟨fun σ h => ((den T C a).v σ h).bind fun x h => R.of (ob (tru h x) fun b => some (.bl (!b), h)), fun σ h => ((den T C a).t σ h).bind fun b h => .ok (!b) h⟩
  | .and a b => ⟨fun σ h => ((den T C a).v σ h).bind fun x h => andR x h fun h => (den T C b).v σ h, fun σ h => ((den T C a).t σ h).bind fun k h => iteR k ((den T C b).t σ h) (.ok false h)⟩
  | .or a b => ⟨fun σ h => ((den T C a).v σ h).bind fun x h => orR x h fun h => (den T C b).v σ h, fun σ h => ((den T C a).t σ h).bind fun k h => iteR k (.ok true h) ((den T C b).t σ h)⟩
  | .cmp op a b => .of fun σ h => ((den T C a).v σ h).bind fun x h => ((den T C b).v σ h).bind fun y h => R.of (cmpD op x y h)
  | .chn op op' a b c => .of fun σ h => ((den T C a).v σ h).bind fun x h => ((den T C b).v σ h).bind fun y h => (R.of (cmpD op x y h)).bind fun z h =>
      andR z h fun h => ((den T C c).v σ h).bind fun w h => R.of (cmpD op' y w h)
  | .ife c a b => ⟨fun σ h => ((den T C c).t σ h).bind fun k h => iteR k ((den T C a).v σ h) ((den T C b).v σ h), fun _ _ => .bad⟩
  | .tup es => .of fun σ h => (dens T C es σ h).bind fun xs h => if xs.length ≤ SZ then .ok (.tup xs) h else .bad
  | .lst es => .of fun σ h => (dens T C es σ h).bind fun xs h => if xs.length ≤ SZ then R.of (newO (.lst xs false) h) else .bad
  | .ix a i => .of fun σ h => ((den T C a).v σ h).bind fun x h => ((den T C i).v σ h).bind fun y h => R.of (ixD x y h)
  | .sl a lo hi => .of fun σ h => ((den T C a).v σ h).bind fun x h => (deno T C lo σ h).bind fun l h => (deno T C hi σ h).bind fun u h => R.of (slD x l u h)
  | .call f es => .of fun σ h => (dens T C es σ h).bind fun xs h => C f xs h
  | .bi b es => .of fun σ h => (dens T C es σ h).bind fun xs h => R.of (biD b xs h)
  | .bm b o es => .of fun σ h => ((den T C o).v σ h).bind fun x h => recvR b x h ((dens T C es σ h).bind fun xs h => R.of (bmD b x xs h))
  | .isi a ts => .of fun σ h => ((den T C a).v σ h).bind fun x h => R.of (ob (isTys T h x ts) fun b => some (.bl b, h))
  | .lrng1 a => .of fun σ h => ((den T C a).v σ h).bind fun x h => lrngR (.int 0) x h
  | .lrng2 a b => .of fun σ h => ((den T C a).v σ h).bind fun x h => ((den T C b).v σ h).bind fun y h => lrngR x y h
  | .comp el own tg it cd => .of fun σ h => (deni T C it σ h).bind fun w h => compD w h.length (fun x h => Tg.put tg x h (wipe σ own)) (denc T C cd) (den T C el).v h
noncomputable def dens (T : Tb) (C : Cl) : Es → Sg → Hh → R (List D)
  | .nil => fun _ h => .ok [] h
  | .cons e es => fun σ h => ((den T C e).v σ h).bind fun x h => (dens T C es σ h).bind fun xs h => .ok (x :: xs) h
/-- a part of a slice -/
noncomputable def deno (T : Tb) (C : Cl) : Eo → Sg → Hh → R (Option Int)
  | .none => fun _ h => .ok none h
  | .some e => fun σ h => ((den T C e).v σ h).bind fun x h => intR x h
/-- a condition, if there is one -/
noncomputable def denc (T : Tb) (C : Cl) : Eo → Sg → Hh → R Bool
  | .none => fun _ h => .ok true h
  | .some e => (den T C e).t
/-- what is walked -/
noncomputable def deni (T : Tb) (C : Cl) : Wi → Sg → Hh → R Wk
  | .seq e => fun σ h => ((den T C e).v σ h).bind fun x h => seqW x h
  | .rng1 e => fun σ h => ((den T C e).v σ h).bind fun x h => rngW (.int 0) x h
  | .rng2 a b => fun σ h => ((den T C a).v σ h).bind fun x h => ((den T C b).v σ h).bind fun y h => rngW x y h
  | .enum e => fun σ h => ((den T C e).v σ h).bind fun x h => enumW x h
  | .zip a b => fun σ h => ((den T C a).v σ h).bind fun x h => ((den T C b).v σ h).bind fun y h => zipW x y h
end
noncomputable abbrev ev (T : Tb) (C : Cl) (e : E) : Sg → Hh → R D := (den T C e).v
noncomputable abbrev tst (T : Tb) (C : Cl) (e : E) : Sg → Hh → R Bool := (den T C e).t
def putS (o : Option Sg) (h : Hh) : RS := match o with
  | some σ => .nx σ h
  | none => .bad
def putS' (o : Option Sg) (k : Sg → RS) : RS := match o with
  | some σ => k σ
  | none => .bad
def Tgs.len : Tgs → Nat
  | .nil => 0
  | .cons _ ts => ts.len + 1
/-- a, b, *c = x -/
def starS (ts : Tgs) (x : D) (h : Hh) (σ : Sg) : RS := match x with
  | .tup xs => if 0 < ts.len ∧ ts.len - 1 ≤ xs.length then putS (Tgs.put ts (xs.take (ts.len - 1) ++ [.ref h.length]) (h ++ [.lst (xs.drop (ts.len - 1)) false]) σ) (h ++ [.lst (xs.drop (ts.len - 1)) false]) else .bad
  | _ => .bad
def setS (o : Option Hh) (σ : Sg) : RS := match o with
  | some h => .nx σ h
  | none => .bad
def setS' (o : Option Hh) (k : Hh → RS) : RS := match o with
  | some h => k h
  | none => .bad
def iteS (b : Bool) (x y : RS) : RS := match b with
  | true => x
  | false => y
/-- except c as i: j = i -/
def keepS (T : Tb) (c i j : Nat) (r : RS) : RS := match r with
  | .ex x σ h => if x.cls < T.ncl ∧ c < T.ncl ∧ T.exn x.cls = true ∧ T.exn c = true then (if T.sub x.cls c = true then .nx (((σ.set i (some (.ref h.length))).set j (some (.ref h.length))).set i none) (h ++ [.exc x.cls x.fs]) else .ex x σ h) else .bad
  | r => r
mutual
noncomputable def exS (T : Tb) (C : Cl) : S → Sg → Hh → RS
  | .asg t e => fun σ h => (ev T C e σ h).thn σ fun x h => putS (Tg.put t x h σ) h
  | .asgc i e => fun σ h => (ev T C e σ h).thn σ fun x h => .nx (σ.set i (some x)) h
  | .asgs ts e => fun σ h => (ev T C e σ h).thn σ fun x h => starS ts x h σ
  | .setix o i e => fun σ h => (ev T C e σ h).thn σ fun v h => (ev T C o σ h).thn σ fun x h => (ev T C i σ h).thn σ fun k h => setS (setIx x k v h) σ
  | .swap o i p j a b => fun σ h => (ev T C a σ h).thn σ fun x h => (ev T C b σ h).thn σ fun y h => (ev T C o σ h).thn σ fun d h => (ev T C i σ h).thn σ fun k h => setS' (setIx d k x h) fun h => (ev T C p σ h).thn σ fun e h => (ev T C j σ h).thn σ fun l h => setS (setIx e l y h) σ
  | .ex e => fun σ h => (ev T C e σ h).thn σ fun _ h => .nx σ h
  | .ret e => fun σ h => (ev T C e σ h).thn σ fun x h => .rt x h
  | .pass => fun σ h => .nx σ h
  | .iff c a b => fun σ h => (tst T C c σ h).thn σ fun k h => iteS k (exSs T C a σ h) (exSs T C b σ h)
  | .forr t it b => fun σ h => (deni T C it σ h).thn σ fun w h => forL w (fun x σ h => putS' (Tg.put t x h σ) fun σ' => exSs T C b σ' h) w.items σ h
  | .raise0 c => fun σ h => .ex ⟨c, []⟩ σ h
  | .raise1 c f e => fun σ h => (ev T C e σ h).thn σ fun x h => .ex ⟨c, [(f, x)]⟩ σ h
  | .tryk b c i j => fun σ h => keepS T c i j (exSs T C b σ h)
  | .never => fun _ _ => .bad
noncomputable def exSs (T : Tb) (C : Cl) : Ss → Sg → Hh → RS
  | .nil => fun σ h => .nx σ h
  | .cons s ss => fun σ h => (exS T C s σ h).thn fun σ h => exSs T C ss σ h
end
/-- a def: how many slots, its parameters first -/
structure Df where
  par : Nat
  slots : Nat
  body : Ss
def start (n : Nat) (xs : List D) : Sg := xs.map some ++ List.replicate (n - xs.length) none
def RS.fin : RS → R D
  | .nx _ h => .ok .non h
  | .rt d h => .ok d h
  | .ex x _ h => .ex x h
  | _ => .bad
/-- a call, so deep at most -/
noncomputable def run (T : Tb) (P : Nat → Option Df) : Nat → Nat → List D → Hh → R D
  | 0, _, _, _ => .bad
  | k + 1, f, xs, h => match P f with
    | some d => if xs.length = d.par then (exSs T (run T P k) d.body (start d.slots xs) h).fin else .bad
    | none => .bad
end Py
/-! How the small Python's values and heap stand to the layer's. -/
namespace Py
open PySem L2

/-- what is fixed: the written part, the defs and classes by number, the fields' names -/
structure Cfg where
  K : PySem.W.Frag
  T : Tb
  fnA : Nat → Addr
  clA : Nat → Addr
  fnm : Nat → Str

mutual
inductive RD (G : Cfg) (μ : List Addr) (H : Hp) : D → V → Prop
  | non : RD G μ H .non .non
  | bl (b : Bool) : RD G μ H (.bl b) (.bl b)
  | int (i : Int) : RD G μ H (.int i) (.int i)
  | str (s : List Nat) : RD G μ H (.str s) (.str ⟨s.toArray⟩)
  | tup {a : Addr} {xs : List V} {ds : List D} : SqT G.K H a xs → RDs G μ H ds xs → RD G μ H (.tup ds) (.ref a)
  | ref {n : Nat} {a : Addr} : μ[n]? = some a → RD G μ H (.ref n) (.ref a)
  | fn (f : Nat) : RD G μ H (.fn f) (.ref (G.fnA f))
inductive RDs (G : Cfg) (μ : List Addr) (H : Hp) : List D → List V → Prop
  | nil : RDs G μ H [] []
  | cons {d : D} {v : V} {ds : List D} {vs : List V} : RD G μ H d v → RDs G μ H ds vs → RDs G μ H (d :: ds) (v :: vs)
end
/-- later states: addresses and tuples stay -/
structure Nx (G : Cfg) (μ : List Addr) (H : Hp) (μ' : List Addr) (H' : Hp) : Prop where
  pre : ∃ ν, μ' = μ ++ ν
  tup : ∀ a xs, SqT G.K H a xs → SqT G.K H' a xs
section
variable {G : Cfg} {μ μ' μ'' : List Addr} {H H' H'' : Hp}
theorem Nx.refl : Nx G μ H μ H := ⟨⟨[], by simp⟩, fun _ _ h => h⟩
theorem Nx.trans (a : Nx G μ H μ' H') (b : Nx G μ' H' μ'' H'') : Nx G μ H μ'' H'' := by
  obtain ⟨⟨ν, rfl⟩, ta⟩ := a
  obtain ⟨⟨κ, rfl⟩, tb⟩ := b
  exact ⟨⟨ν ++ κ, by simp⟩, fun x xs h => tb x xs (ta x xs h)⟩
theorem Nx.at (a : Nx G μ H μ' H') {n : Nat} {x : Addr} (h : μ[n]? = some x) : μ'[n]? = some x := by
  obtain ⟨⟨ν, rfl⟩, _⟩ := a
  rw [List.getElem?_append_left (List.getElem?_eq_some_iff.mp h).1]
  exact h
mutual
theorem RD.mono (nx : Nx G μ H μ' H') : ∀ {d : D} {v : V}, RD G μ H d v → RD G μ' H' d v
  | _, _, .non => .non
  | _, _, .bl b => .bl b
  | _, _, .int i => .int i
  | _, _, .str s => .str s
  | _, _, .tup h r => .tup (nx.tup _ _ h) (RDs.mono nx r)
  | _, _, .ref h => .ref (nx.at h)
  | _, _, .fn f => .fn f
theorem RDs.mono (nx : Nx G μ H μ' H') : ∀ {ds : List D} {vs : List V}, RDs G μ H ds vs → RDs G μ' H' ds vs
  | _, _, .nil => .nil
  | _, _, .cons h r => .cons (RD.mono nx h) (RDs.mono nx r)
end
theorem RDs.length : ∀ {ds : List D} {vs : List V}, RDs G μ H ds vs → ds.length = vs.length
  | _, _, .nil => rfl
  | _, _, .cons _ r => by simp [RDs.length r]
theorem RDs.get : ∀ {ds : List D} {vs : List V} {i : Nat} {d : D}, RDs G μ H ds vs → ds[i]? = some d → ∃ v, vs[i]? = some v ∧ RD G μ H d v
  | _, _, _, _, .nil, e => by simp at e
  | _, _, 0, _, .cons h _, e => by simp at e; subst e; exact ⟨_, rfl, h⟩
  | _, _, i + 1, d, .cons _ r, e => by
    obtain ⟨v, h1, h2⟩ := RDs.get (i := i) (d := d) r (by simpa using e)
    exact ⟨v, by simpa using h1, h2⟩
theorem RDs.append : ∀ {ds : List D} {vs : List V} {es : List D} {us : List V}, RDs G μ H ds vs → RDs G μ H es us → RDs G μ H (ds ++ es) (vs ++ us)
  | _, _, _, _, .nil, s => s
  | _, _, _, _, .cons h r, s => .cons h (RDs.append r s)
theorem RDs.take : ∀ {ds : List D} {vs : List V} (n : Nat), RDs G μ H ds vs → RDs G μ H (ds.take n) (vs.take n)
  | _, _, 0, _ => by simpa using RDs.nil
  | _, _, _ + 1, .nil => by simpa using RDs.nil
  | _, _, n + 1, .cons h r => .cons h (RDs.take n r)
theorem RDs.drop : ∀ {ds : List D} {vs : List V} (n : Nat), RDs G μ H ds vs → RDs G μ H (ds.drop n) (vs.drop n)
  | _, _, 0, r => r
  | _, _, _ + 1, .nil => by simpa using RDs.nil
  | _, _, n + 1, .cons _ r => by simpa using RDs.drop n r
theorem RDs.set : ∀ {ds : List D} {vs : List V} (n : Nat) {d : D} {v : V}, RD G μ H d v → RDs G μ H ds vs → RDs G μ H (ds.set n d) (vs.set n v)
  | _, _, _, _, _, _, .nil => .nil
  | _, _, 0, _, _, h, .cons _ r => .cons h r
  | _, _, n + 1, _, _, h, .cons g r => .cons g (RDs.set n h r)
theorem RDs.erase : ∀ {ds : List D} {vs : List V} (n : Nat), RDs G μ H ds vs → RDs G μ H (ds.eraseIdx n) (vs.eraseIdx n)
  | _, _, _, .nil => by simpa using RDs.nil
  | _, _, 0, .cons _ r => by simpa using r
  | _, _, n + 1, .cons g r => by simpa using RDs.cons g (RDs.erase n r)
theorem RDs.rep {ds : List D} {vs : List V} (r : RDs G μ H ds vs) : ∀ n : Nat, RDs G μ H (List.replicate n ds).flatten (List.replicate n vs).flatten
  | 0 => by simpa using RDs.nil
  | n + 1 => by simpa [List.replicate_succ] using RDs.append r (RDs.rep r n)
theorem RDs.ofInts : ∀ {ds : List D} {ns : List Int} {vs : List V}, allI ds = some ns → RDs G μ H ds vs → vs = ns.map V.int
  | [], ns, vs, e, r => by
    cases r
    simp only [allI, Option.some.injEq] at e
    subst e; rfl
  | d :: ds, ns, vs, e, r => by
    cases r with
    | cons h r =>
      cases d <;> try (simp [allI] at e; done)
      rename_i i
      simp only [allI, Option.map_eq_some_iff] at e
      obtain ⟨ms, e1, rfl⟩ := e
      cases h
      rw [RDs.ofInts e1 r]
      rfl
theorem RDs.ofBools : ∀ {ds : List D} {ns : List Bool} {vs : List V}, allB ds = some ns → RDs G μ H ds vs → vs = ns.map V.bl
  | [], ns, vs, e, r => by
    cases r
    simp only [allB, Option.some.injEq] at e
    subst e; rfl
  | d :: ds, ns, vs, e, r => by
    cases r with
    | cons h r =>
      cases d <;> try (simp [allB] at e; done)
      rename_i i
      simp only [allB, Option.map_eq_some_iff] at e
      obtain ⟨ms, e1, rfl⟩ := e
      cases h
      rw [RDs.ofBools e1 r]
      rfl
theorem RDs.allI (ns : List Int) : RDs G μ H (ns.map D.int) (ns.map V.int) := by
  induction ns with
  | nil => exact .nil
  | cons n ns ih => exact .cons (.int n) ih
end

/-- a list that is read alone -/
def FzL (K : PySem.W.Frag) (H : Hp) (a : Addr) (xs : List V) : Prop := (∃ o, H a = some (.frz o (.lst xs))) ∨ SqL K (fun _ => none) a xs
theorem FzL.sq {K : PySem.W.Frag} {H : Hp} {a : Addr} {xs : List V} (h : FzL K H a xs) : SqL K H a xs := by
  rcases h with ⟨o, h⟩ | h
  · exact .inl (.inr ⟨o, h⟩)
  · rcases h with (h | ⟨o, h⟩) | h
    · cases h
    · cases h
    · exact .inr h
def keyD : D → Option L2.Key
  | .int i => some (.inl i)
  | .str s => some (.inr ⟨s.toArray⟩)
  | _ => none
/-- the pairs of a dict -/
inductive RK (G : Cfg) (μ : List Addr) (H : Hp) : List (D × D) → List (L2.Key × V) → Prop
  | nil : RK G μ H [] []
  | cons {k d : D} {q : L2.Key} {v : V} {ks : List (D × D)} {qs : List (L2.Key × V)} : keyD k = some q → RD G μ H d v → RK G μ H ks qs → RK G μ H ((k, d) :: ks) ((q, v) :: qs)
/-- the fields -/
inductive RF (G : Cfg) (μ : List Addr) (H : Hp) : List (Nat × D) → List (Str × V) → Prop
  | nil : RF G μ H [] []
  | cons {f : Nat} {d : D} {v : V} {fs : List (Nat × D)} {qs : List (Str × V)} : RD G μ H d v → RF G μ H fs qs → RF G μ H ((f, d) :: fs) ((G.fnm f, v) :: qs)
section
variable {G : Cfg} {μ μ' μ'' : List Addr} {H H' H'' : Hp}
theorem RK.mono (nx : Nx G μ H μ' H') : ∀ {ks : List (D × D)} {qs : List (L2.Key × V)}, RK G μ H ks qs → RK G μ' H' ks qs
  | _, _, .nil => .nil
  | _, _, .cons e h r => .cons e (h.mono nx) (RK.mono nx r)
theorem RF.mono (nx : Nx G μ H μ' H') : ∀ {ks : List (Nat × D)} {qs : List (Str × V)}, RF G μ H ks qs → RF G μ' H' ks qs
  | _, _, .nil => .nil
  | _, _, .cons h r => .cons (h.mono nx) (RF.mono nx r)
end

/-- a caught exception at p: its class, its dict -/
def ExX (c : Value) (dd : Option Addr) (p : Addr) : HO := .ext fun hp => ∃ (ob : Obj) (fv : Array Value), hp.get? p = some ob ∧ Zc c dd ob ∧ ob.data = .fields fv
/-- an exception's fields -/
def RX' (G : Cfg) (μ : List Addr) (H : Hp) (fs : List (Nat × D)) (dd : Option Addr) : Prop := match dd with
    | none => fs = []
    | some d => ∃ qs, H d = some (.xd qs) ∧ RF G μ H fs qs
/-- what stands at an address -/
def RO (G : Cfg) (μ : List Addr) (H : Hp) : O → Addr → Prop
  | .lst ds fz, a => ∃ xs, RDs G μ H ds xs ∧ (if fz = true then FzL G.K H a xs else H a = some (.lst xs))
  | .dct ks fz, a => ∃ qs, RK G μ H ks qs ∧ (if fz = true then ∃ o, H a = some (.frz o (.dK qs)) else H a = some (.dK qs))
  | .dtt _ _, _ => False
  | .ins c fs, a => ∃ dx qs, RF G μ H fs qs ∧ H a = some (.ins (G.clA c) dx qs)
  | .exc c fs, a => ∃ dd, H a = some (ExX (.ref (G.clA c)) dd a) ∧ RX' G μ H fs dd
def live : O → Bool
  | .lst _ true => false
  | _ => true
structure Rel (G : Cfg) (μ : List Addr) (H : Hp) (h : Hh) : Prop where
  len : μ.length = h.length
  obj : ∀ (n : Nat) (o : O), h[n]? = some o → ∃ a, μ[n]? = some a ∧ RO G μ H o a
  sep : ∀ (n m : Nat) (o o' : O) (a : Addr), h[n]? = some o → h[m]? = some o' → live o = true → live o' = true → μ[n]? = some a → μ[m]? = some a → n = m
def RelS (G : Cfg) (μ : List Addr) (H : Hp) (σ : Sg) (τ : St) : Prop :=
  σ.length = τ.length ∧ ∀ (i : Nat) (d : D), σ[i]? = some (some d) → ∃ v, τ[i]? = some (some v) ∧ RD G μ H d v
/-- the exception in the air -/
def RX (G : Cfg) (μ : List Addr) (H : Hp) (x : Xc) (c : Value) (dd : Option Addr) : Prop :=
  c = .ref (G.clA x.cls) ∧ RX' G μ H x.fs dd
section
variable {G : Cfg} {μ μ' μ'' : List Addr} {H H' H'' : Hp} {h h' : Hh} {σ : Sg} {τ : St}
theorem RelS.mono (nx : Nx G μ H μ' H') (r : RelS G μ H σ τ) : RelS G μ' H' σ τ :=
  ⟨r.1, fun i d e => let ⟨v, h1, h2⟩ := r.2 i d e; ⟨v, h1, h2.mono nx⟩⟩
theorem RelS.set {d : D} {v : V} (r : RelS G μ H σ τ) (hd : RD G μ H d v) (i : Nat) : RelS G μ H (σ.set i (some d)) (τ.set i (some v)) := by
  refine ⟨by simp [r.1], fun j e q => ?_⟩
  by_cases hij : i = j
  · subst hij
    rw [List.getElem?_set_self'] at q ⊢
    cases hs : σ[i]? with
    | none => rw [hs] at q; simp at q
    | some z =>
      have hl : i < τ.length := by
        rw [← r.1]; exact (List.getElem?_eq_some_iff.mp hs).1
      rw [hs] at q
      simp at q
      subst q
      exact ⟨v, by simp [hl], hd⟩
  · rw [List.getElem?_set_ne hij] at q ⊢
    exact r.2 j e q
theorem RelS.unset (r : RelS G μ H σ τ) (i : Nat) : RelS G μ H (σ.set i none) (τ.set i none) := by
  refine ⟨by simp [r.1], fun j e q => ?_⟩
  by_cases hij : i = j
  · subst hij
    rw [List.getElem?_set_self'] at q
    cases hs : σ[i]? with
    | none => rw [hs] at q; simp at q
    | some z => rw [hs] at q; simp at q
  · rw [List.getElem?_set_ne hij] at q ⊢
    exact r.2 j e q
theorem RelS.wipe (r : RelS G μ H σ τ) : ∀ vs : List Nat, RelS G μ H (wipe σ vs) (L2.wipe τ vs)
  | [] => r
  | v :: vs => by
    unfold Py.wipe L2.wipe
    exact (RelS.wipe r vs).unset v

theorem sqT_upd {a p : Addr} {xs : List V} {o : HO} {K : PySem.W.Frag} (hp : ∀ zs, H p ≠ some (.tup zs)) (hf : ∀ ob zs, H p ≠ some (.frz ob (.tup zs))) (h : SqT K H a xs) : SqT K (upd H p o) a xs := by
  rcases h with (h | ⟨ob, h⟩) | h
  · refine .inl (.inl ?_)
    rw [upd_ne (fun (e : a = p) => hp xs (by rw [← e]; exact h))]
    exact h
  · refine .inl (.inr ⟨ob, ?_⟩)
    rw [upd_ne (fun (e : a = p) => hf ob xs (by rw [← e]; exact h))]
    exact h
  · exact .inr h
theorem Nx.upd {p : Addr} {o : HO} (hp : ∀ zs, H p ≠ some (.tup zs)) (hf : ∀ ob zs, H p ≠ some (.frz ob (.tup zs))) : Nx G μ H μ (upd H p o) := ⟨⟨[], by simp⟩, fun _ _ q => sqT_upd hp hf q⟩
theorem Nx.updN {p : Addr} {o : HO} (hp : H p = none) : Nx G μ H μ (L2.upd H p o) := Nx.upd (fun z e => by rw [hp] at e; cases e) (fun ob z e => by rw [hp] at e; cases e)
theorem Nx.push {p : Addr} {o : HO} (hp : H p = none) : Nx G μ H (μ ++ [p]) (L2.upd H p o) := ⟨⟨[p], rfl⟩, (Nx.updN (G := G) (μ := μ) hp).tup⟩
/-- what stands elsewhere stays -/
theorem RO.other {o : O} {a b : Addr} (nx : Nx G μ H μ' H') (e : ∀ c, c ≠ a → H' c = H c) (r : RO G μ H o b) (hb : live o = true → b ≠ a) (hf : ∀ ob xs, H a ≠ some (.frz ob (.lst xs))) (hx : ∀ qs, H a ≠ some (.xd qs)) : RO G μ' H' o b := by
  cases o with
  | lst ds fz =>
    obtain ⟨xs, rd, q⟩ := r
    refine ⟨xs, rd.mono nx, ?_⟩
    cases fz with
    | true =>
      simp only [if_true] at q ⊢
      rcases q with ⟨ob, q⟩ | q
      · exact .inl ⟨ob, by rw [e b (fun z => hf ob xs (z ▸ q))]; exact q⟩
      · exact .inr q
    | false =>
      simp only [Bool.false_eq_true, if_false] at q ⊢
      rw [e b (hb rfl)]; exact q
  | dct ks fz =>
    obtain ⟨qs, rk, q⟩ := r
    refine ⟨qs, rk.mono nx, ?_⟩
    rw [e b (hb (by cases fz <;> rfl))]
    exact q
  | dtt ks fz => exact r
  | ins c fs =>
    obtain ⟨dx, qs, rf, q⟩ := r
    exact ⟨dx, qs, rf.mono nx, by rw [e b (hb rfl)]; exact q⟩
  | exc c fs =>
    obtain ⟨dd, q, x⟩ := r
    refine ⟨dd, by rw [e b (hb rfl)]; exact q, ?_⟩
    cases dd with
    | none => exact x
    | some d =>
      obtain ⟨qs, hd, rf⟩ := x
      exact ⟨qs, by rw [e d (fun z => hx qs (z ▸ hd))]; exact hd, rf.mono nx⟩
theorem RO.tracked {o : O} {a : Addr} (hl : live o = true) (r : RO G μ H o a) : H a ≠ none := by
  cases o with
  | lst ds fz =>
    cases fz with
    | true => cases hl
    | false =>
      obtain ⟨xs, _, q⟩ := r
      simp only [Bool.false_eq_true, if_false] at q
      rw [q]; simp
  | dct ks fz =>
    obtain ⟨qs, _, q⟩ := r
    cases fz with
    | true => simp only [if_true] at q; obtain ⟨o, q⟩ := q; rw [q]; simp
    | false => simp only [Bool.false_eq_true, if_false] at q; rw [q]; simp
  | dtt ks fz => exact r.elim
  | ins c fs => obtain ⟨dx, qs, _, q⟩ := r; rw [q]; simp
  | exc c fs => obtain ⟨dd, q, _⟩ := r; rw [q]; simp
/-- a new thing that is no object of ours (a tuple) -/
theorem Rel.aux {p : Addr} {o : HO} (r : Rel G μ H h) (hp : H p = none) : Rel G μ (upd H p o) h :=
  ⟨r.len, fun n ob e => by
    obtain ⟨a, h1, h2⟩ := r.obj n ob e
    refine ⟨a, h1, h2.other (a := p) (Nx.updN hp) (fun c hc => upd_ne hc) (fun hl z => ?_) (fun ob xs z => by rw [hp] at z; cases z) fun qs z => by rw [hp] at z; cases z⟩
    exact h2.tracked hl (z ▸ hp), r.sep⟩
/-- a new object -/
theorem Rel.new {p : Addr} {o : O} {ho : HO} (r : Rel G μ H h) (hp : H p = none) (hl : live o = true) (ro : RO G (μ ++ [p]) (upd H p ho) o p) : Rel G (μ ++ [p]) (upd H p ho) (h ++ [o]) := by
  have hlen := r.len
  refine ⟨by simp [hlen], fun n ob e => ?_, fun n m ob ob' a e e' l l' q q' => ?_⟩
  · by_cases hn : n < h.length
    · rw [List.getElem?_append_left hn] at e
      obtain ⟨a, h1, h2⟩ := r.obj n ob e
      refine ⟨a, by rw [List.getElem?_append_left (by omega)]; exact h1, ?_⟩
      refine h2.other (a := p) (Nx.push hp) (fun c hc => upd_ne hc) (fun hl z => ?_) (fun ob xs z => by rw [hp] at z; cases z) fun qs z => by rw [hp] at z; cases z
      exact h2.tracked hl (z ▸ hp)
    · have hn' : n = h.length := by
        have := (List.getElem?_eq_some_iff.mp e).1
        simp at this; omega
      subst hn'
      simp at e
      subst e
      exact ⟨p, by rw [← hlen]; simp, ro⟩
  · have key : ∀ (n : Nat) (ob : O), (h ++ [o])[n]? = some ob → live ob = true → (μ ++ [p])[n]? = some a → (n < h.length ∧ h[n]? = some ob ∧ μ[n]? = some a ∧ a ≠ p) ∨ (n = h.length ∧ a = p) := by
      intro n ob e l q
      by_cases hn : n < h.length
      · rw [List.getElem?_append_left hn] at e
        rw [List.getElem?_append_left (by omega)] at q
        obtain ⟨b, h1, h2⟩ := r.obj n ob e
        rw [h1] at q; cases q
        exact .inl ⟨hn, e, h1, fun z => h2.tracked l (z ▸ hp)⟩
      · have hn' : n = h.length := by
          have := (List.getElem?_eq_some_iff.mp e).1
          simp at this; omega
        subst hn'
        rw [← hlen] at q
        simp at q
        exact .inr ⟨rfl, q.symm⟩
    rcases key n ob e l q with ⟨h1, h2, h3, h4⟩ | ⟨h1, h2⟩ <;> rcases key m ob' e' l' q' with ⟨k1, k2, k3, k4⟩ | ⟨k1, k2⟩
    · exact r.sep n m ob ob' a h2 k2 l l' h3 k3
    · exact absurd k2 h4
    · exact absurd h2 k4
    · omega
/-- an object is changed -/
theorem Rel.set {n : Nat} {a : Addr} {old o : O} {ho : HO} (r : Rel G μ H h) (e : h[n]? = some old) (ea : μ[n]? = some a) (hl : live old = true) (hl' : live o = true)
    (ht : ∀ zs, H a ≠ some (.tup zs)) (hf : ∀ ob u, H a ≠ some (.frz ob u)) (hx : ∀ qs, H a ≠ some (.xd qs)) (ro : RO G μ (upd H a ho) o a) : Rel G μ (upd H a ho) (h.set n o) := by
  have hn : n < h.length := (List.getElem?_eq_some_iff.mp e).1
  refine ⟨by simp [r.len], fun m ob q => ?_, fun i j oi oj b q q' l l' z z' => ?_⟩
  · by_cases hm : n = m
    · subst hm
      rw [List.getElem?_set_self hn] at q
      cases q
      exact ⟨a, ea, ro⟩
    · rw [List.getElem?_set_ne hm] at q
      obtain ⟨b, h1, h2⟩ := r.obj m ob q
      refine ⟨b, h1, h2.other (a := a) (Nx.upd ht fun ob zs => hf ob _) (fun c hc => upd_ne hc) (fun hlo z => ?_) (fun ob xs => hf ob _) hx⟩
      subst z
      exact hm (r.sep n m old ob b e q hl hlo ea h1)
  · have key : ∀ (i : Nat) (oi : O), (h.set n o)[i]? = some oi → live oi = true → ∃ o2, h[i]? = some o2 ∧ live o2 = true := by
      intro i oi q l
      by_cases hi : n = i
      · subst hi; exact ⟨old, e, hl⟩
      · rw [List.getElem?_set_ne hi] at q
        exact ⟨oi, q, l⟩
    obtain ⟨o1, e1, l1⟩ := key i oi q l
    obtain ⟨o2, e2, l2⟩ := key j oj q' l'
    exact r.sep i j o1 o2 b e1 e2 l1 l2 z z'
theorem Rel.lst {n : Nat} {a : Addr} {xs : List D} {fz : Bool} (r : Rel G μ H h) (e : h[n]? = some (.lst xs fz)) (ea : μ[n]? = some a) : ∃ vs, RDs G μ H xs vs ∧ SqL G.K H a vs := by
  obtain ⟨b, h1, vs, h2, h3⟩ := r.obj n _ e
  rw [h1] at ea; cases ea
  refine ⟨vs, h2, ?_⟩
  cases fz with
  | true => simp only [if_true] at h3; exact h3.sq
  | false => simp only [Bool.false_eq_true, if_false] at h3; exact SqL.of h3
theorem Rel.lstW {n : Nat} {a : Addr} {xs : List D} (r : Rel G μ H h) (e : h[n]? = some (.lst xs false)) (ea : μ[n]? = some a) : ∃ vs, RDs G μ H xs vs ∧ H a = some (.lst vs) := by
  obtain ⟨b, h1, vs, h2, h3⟩ := r.obj n _ e
  rw [h1] at ea; cases ea
  simp only [Bool.false_eq_true, if_false] at h3
  exact ⟨vs, h2, h3⟩
/-- a new list -/
theorem Rel.newL {p : Addr} {xs : List D} {vs : List V} (r : Rel G μ H h) (hp : H p = none) (rd : RDs G μ H xs vs) : Rel G (μ ++ [p]) (upd H p (.lst vs)) (h ++ [.lst xs false]) :=
  r.new hp rfl ⟨vs, rd.mono (Nx.push hp), by simp [upd_same]⟩
theorem Rel.newAt {p : Addr} (r : Rel G μ H h) : (μ ++ [p])[h.length]? = some p := by
  rw [← r.len]; simp
/-- a list is changed -/
theorem Rel.setL {n : Nat} {a : Addr} {old xs : List D} {vs : List V} (r : Rel G μ H h) (e : h[n]? = some (.lst old false)) (ea : μ[n]? = some a) (rd : RDs G μ H xs vs) :
    Rel G μ (upd H a (.lst vs)) (h.set n (.lst xs false)) ∧ Nx G μ H μ (upd H a (.lst vs)) := by
  obtain ⟨ws, _, hw⟩ := r.lstW e ea
  have ht : ∀ zs, H a ≠ some (.tup zs) := fun zs z => by rw [hw] at z; cases z
  have hf : ∀ ob u, H a ≠ some (.frz ob u) := fun ob u z => by rw [hw] at z; cases z
  have nx : Nx G μ H μ (upd H a (.lst vs)) := Nx.upd ht fun ob zs => hf ob _
  exact ⟨r.set e ea rfl rfl ht hf (fun qs z => by rw [hw] at z; cases z) ⟨vs, rd.mono nx, by simp [upd_same]⟩, nx⟩
theorem key_of {k : D} {v : V} {q : L2.Key} (e : keyD k = some q) (r : RD G μ H k v) : v = kV q := by
  cases r <;> (simp only [keyD, Option.some.injEq, reduceCtorEq] at e <;> subst e <;> rfl)
theorem isKey_of {k : D} (e : isKey k = true) : ∃ q, keyD k = some q := by
  cases k <;> first | exact ⟨_, rfl⟩ | cases e
theorem keyEq_of {k l : D} {q r : L2.Key} (e : keyD k = some q) (f : keyD l = some r) : keyEq k l = decide (q = r) := by
  cases k <;> simp only [keyD, Option.some.injEq, reduceCtorEq] at e <;> cases l <;> simp only [keyD, Option.some.injEq, reduceCtorEq] at f <;> subst e <;> subst f
  · rename_i i j
    simp only [keyEq, Sum.inl.injEq]
    by_cases h : i = j
    · subst h; simp
    · simp [h]
  · simp [keyEq]
  · simp [keyEq]
  · rename_i i j
    simp only [keyEq, Sum.inr.injEq]
    by_cases h : i = j
    · subst h; simp
    · simp [h]
theorem RK.keys : ∀ {ks : List (D × D)} {qs : List (L2.Key × V)}, RK G μ H ks qs → ∀ {k : D} {q : L2.Key}, keyD k = some q → (ks.any fun p => keyEq p.1 k) = (qs.any fun p => decide (p.1 = q))
  | _, _, .nil, _, _, _ => rfl
  | _, _, .cons e _ r, k, q, f => by
    rw [List.any_cons, List.any_cons, r.keys f, keyEq_of e f]
theorem RK.val : ∀ {ks : List (D × D)} {qs : List (L2.Key × V)}, RK G μ H ks qs → ∀ {k : D} {q : L2.Key}, keyD k = some q → (look ks k = none ∧ valV qs q = none) ∨ ∃ d v, look ks k = some d ∧ valV qs q = some v ∧ RD G μ H d v
  | _, _, .nil, _, _, _ => .inl ⟨rfl, rfl⟩
  | _, _, .cons (k := k') (d := d) (q := q') (v := v) (ks := ks) (qs := qs) e h r, k, q, f => by
    have ke := keyEq_of e f
    by_cases hq : q' = q
    · refine .inr ⟨d, v, ?_, valV_pos hq, h⟩
      rw [decide_eq_true hq] at ke
      simp only [look, List.find?_cons, ke, Option.map_some]
    · have ih := r.val f
      rw [decide_eq_false hq] at ke
      have e1 : look ((k', d) :: ks) k = look ks k := by simp only [look, List.find?_cons, ke]
      have e2 : valV ((q', v) :: qs) q = valV qs q := valV_neg hq
      rw [e1, e2]
      exact ih
theorem RK.app : ∀ {ks : List (D × D)} {qs : List (L2.Key × V)}, RK G μ H ks qs → ∀ {k d : D} {q : L2.Key} {v : V}, keyD k = some q → RD G μ H d v → RK G μ H (ks ++ [(k, d)]) (qs ++ [(q, v)])
  | _, _, .nil, _, _, _, _, e, h => .cons e h .nil
  | _, _, .cons e h r, _, _, _, _, f, g => .cons e h (r.app f g)
theorem RK.over : ∀ {ks : List (D × D)} {qs : List (L2.Key × V)}, RK G μ H ks qs → ∀ {k d : D} {q : L2.Key} {v : V}, keyD k = some q → RD G μ H d v → RK G μ H (ks.map fun p => if keyEq p.1 k = true then (p.1, d) else p) (qs.map fun p => if p.1 = q then (p.1, v) else p)
  | _, _, .nil, _, _, _, _, _, _ => .nil
  | _, _, .cons (q := q') e h r, k, d, q, v, f, g => by
    have ke := keyEq_of e f
    rw [List.map_cons, List.map_cons]
    by_cases hq : q' = q
    · rw [decide_eq_true hq] at ke
      simp only [ke, if_pos hq, if_true]
      exact .cons e g (r.over f g)
    · rw [decide_eq_false hq] at ke
      simp only [ke, if_neg hq, Bool.false_eq_true, if_false]
      exact .cons e h (r.over f g)
theorem RK.put {ks : List (D × D)} {qs : List (L2.Key × V)} {k d : D} {q : L2.Key} {v : V} (r : RK G μ H ks qs) (e : keyD k = some q) (h : RD G μ H d v) : RK G μ H (putKV ks k d) (putK qs q v) := by
  unfold putKV putK
  rw [r.keys e]
  split
  · exact r.over e h
  · exact r.app e h
theorem RK.length : ∀ {ks : List (D × D)} {qs : List (L2.Key × V)}, RK G μ H ks qs → ks.length = qs.length
  | _, _, .nil => rfl
  | _, _, .cons _ _ r => by simp [r.length]
theorem Rel.dct {n : Nat} {a : Addr} {ks : List (D × D)} (r : Rel G μ H h) (e : h[n]? = some (.dct ks false)) (ea : μ[n]? = some a) : ∃ qs, RK G μ H ks qs ∧ H a = some (.dK qs) := by
  obtain ⟨b, h1, qs, h2, h3⟩ := r.obj n _ e
  rw [h1] at ea; cases ea
  simp only [Bool.false_eq_true, if_false] at h3
  exact ⟨qs, h2, h3⟩
/-- a dict is changed -/
theorem Rel.setD {n : Nat} {a : Addr} {old ks : List (D × D)} {qs : List (L2.Key × V)} (r : Rel G μ H h) (e : h[n]? = some (.dct old false)) (ea : μ[n]? = some a) (rk : RK G μ H ks qs) :
    Rel G μ (upd H a (.dK qs)) (h.set n (.dct ks false)) ∧ Nx G μ H μ (upd H a (.dK qs)) := by
  obtain ⟨ws, _, hw⟩ := r.dct e ea
  have ht : ∀ zs, H a ≠ some (.tup zs) := fun zs z => by rw [hw] at z; cases z
  have hf : ∀ ob u, H a ≠ some (.frz ob u) := fun ob u z => by rw [hw] at z; cases z
  have nx : Nx G μ H μ (upd H a (.dK qs)) := Nx.upd ht fun ob zs => hf ob _
  exact ⟨r.set e ea rfl rfl ht hf (fun qs z => by rw [hw] at z; cases z) ⟨qs, rk.mono nx, by simp [upd_same]⟩, nx⟩
end

/-! ### what is wanted behind -/
section
variable {α β γ δ : Type}
abbrev RelA (α β : Type) := List Addr → Hp → α → β → Prop
def Post (G : Cfg) (rel : RelA α β) (W : WX) (τ : St) (Q : β → Hp → Prop) (μ : List Addr) (H : Hp) : R α → Prop
  | .ok a h' => ∀ μ' H' b, Nx G μ H μ' H' → Rel G μ' H' h' → rel μ' H' a b → Q b H'
  | .ex x h' => ∀ μ' H' c dd, Nx G μ H μ' H' → Rel G μ' H' h' → RX G μ' H' x c dd → W c dd τ H'
  | .bad => False
variable {G : Cfg} {rel : RelA α β} {rel' : RelA γ δ} {W : WX} {τ : St} {Q Q' : β → Hp → Prop} {Q1 : δ → Hp → Prop} {μ μ' : List Addr} {H H' : Hp}
theorem Post.imp {r : R α} (p : Post G rel W τ Q μ H r) (h : ∀ b H, Q b H → Q' b H) : Post G rel W τ Q' μ H r := by
  cases r with
  | ok a h' => exact fun μ' H' b nx r q => h b H' (p μ' H' b nx r q)
  | ex x h' => exact p
  | bad => exact p
theorem Post.later {r : R α} (p : Post G rel W τ Q μ H r) (nx : Nx G μ H μ' H') : Post G rel W τ Q μ' H' r := by
  cases r with
  | ok a h' => exact fun μ2 H2 b n2 r q => p μ2 H2 b (nx.trans n2) r q
  | ex x h' => exact fun μ2 H2 c dd n2 r q => p μ2 H2 c dd (nx.trans n2) r q
  | bad => exact p
theorem Post.bind {r : R γ} {k : γ → Hh → R α} (p : Post G rel W τ Q μ H (r.bind k)) :
    Post G rel' W τ (fun b H1 => ∃ a h1 μ1, Nx G μ H μ1 H1 ∧ Rel G μ1 H1 h1 ∧ rel' μ1 H1 a b ∧ Post G rel W τ Q μ1 H1 (k a h1)) μ H r := by
  cases r with
  | ok a h' => exact fun μ' H' b nx r q => ⟨a, h', μ', nx, r, q, Post.later p nx⟩
  | ex x h' => exact p
  | bad => exact p
/-- of a value's own operation -/
def PostV (G : Cfg) (rel : RelA α β) (Q : β → Hp → Prop) (μ : List Addr) (H : Hp) (r : Option (α × Hh)) : Prop :=
  ∃ a h', r = some (a, h') ∧ ∀ μ' H' b, Nx G μ H μ' H' → Rel G μ' H' h' → rel μ' H' a b → Q b H'
theorem Post.ofV {r : Option (α × Hh)} (p : Post G rel W τ Q μ H (R.of r)) : PostV G rel Q μ H r := by
  cases r with
  | none => exact p.elim
  | some z => obtain ⟨a, h'⟩ := z; exact ⟨a, h', rfl, p⟩
end
abbrev rB : RelA Bool Bool := fun _ _ a b => a = b
abbrev rOI : RelA (Option Int) (Option Int) := fun _ _ a b => a = b
def tG {α β : Type} (G : Cfg) (rel : RelA α β) (W : WX) (m : Sg → Hh → R α) : St → Hp → (β → Hp → Prop) → Prop := fun τ H Q =>
  ∃ μ σ h, RelS G μ H σ τ ∧ Rel G μ H h ∧ Post G rel W τ Q μ H (m σ h)
abbrev tE (G : Cfg) (W : WX) (m : Sg → Hh → R D) : TE := tG G (RD G) W m
abbrev tT (G : Cfg) (W : WX) (m : Sg → Hh → R Bool) : TT := tG G rB W m
abbrev tA (G : Cfg) (W : WX) (m : Sg → Hh → R (List D)) : TA := tG G (RDs G) W m
abbrev tO (G : Cfg) (W : WX) (m : Sg → Hh → R (Option Int)) : TO := tG G rOI W m
def PostS (G : Cfg) (W : WX) (D : Ends) (μ : List Addr) (H : Hp) : RS → Prop
  | .nx σ h' => ∀ μ' H' τ, Nx G μ H μ' H' → Rel G μ' H' h' → RelS G μ' H' σ τ → D.nx τ H'
  | .rt d h' => ∀ μ' H' v, Nx G μ H μ' H' → Rel G μ' H' h' → RD G μ' H' d v → D.rt v H'
  | .bk σ h' => ∀ μ' H' τ, Nx G μ H μ' H' → Rel G μ' H' h' → RelS G μ' H' σ τ → D.bk τ H'
  | .ct σ h' => ∀ μ' H' τ, Nx G μ H μ' H' → Rel G μ' H' h' → RelS G μ' H' σ τ → D.ct τ H'
  | .ex x σ h' => ∀ μ' H' τ c dd, Nx G μ H μ' H' → Rel G μ' H' h' → RelS G μ' H' σ τ → RX G μ' H' x c dd → W c dd τ H'
  | .bad => False
def tS (G : Cfg) (W : WX) (m : Sg → Hh → RS) : TS := fun D τ H => ∃ μ σ h, RelS G μ H σ τ ∧ Rel G μ H h ∧ PostS G W D μ H (m σ h)
section
variable {α β : Type} {G : Cfg} {W : WX} {D D' : Ends} {μ μ' : List Addr} {H H' : Hp} {τ : St} {σ : Sg} {rel : RelA α β}
theorem PostS.later {r : RS} (p : PostS G W D μ H r) (nx : Nx G μ H μ' H') : PostS G W D μ' H' r := by
  cases r with
  | nx σ h' => exact fun μ2 H2 τ n2 => p μ2 H2 τ (nx.trans n2)
  | rt d h' => exact fun μ2 H2 v n2 => p μ2 H2 v (nx.trans n2)
  | bk σ h' => exact fun μ2 H2 τ n2 => p μ2 H2 τ (nx.trans n2)
  | ct σ h' => exact fun μ2 H2 τ n2 => p μ2 H2 τ (nx.trans n2)
  | ex x σ h' => exact fun μ2 H2 τ c dd n2 => p μ2 H2 τ c dd (nx.trans n2)
  | bad => exact p
theorem PostS.thn {r : R α} {k : α → Hh → RS} (rs : RelS G μ H σ τ) (p : PostS G W D μ H (r.thn σ k)) :
    Post G rel W τ (fun b H1 => ∃ a h1 μ1, Nx G μ H μ1 H1 ∧ Rel G μ1 H1 h1 ∧ rel μ1 H1 a b ∧ PostS G W D μ1 H1 (k a h1)) μ H r := by
  cases r with
  | ok a h' => exact fun μ' H' b nx r q => ⟨a, h', μ', nx, r, q, PostS.later p nx⟩
  | ex x h' => exact fun μ' H' c dd nx r q => p μ' H' τ c dd nx r (rs.mono nx) q
  | bad => exact p
theorem PostS.seq {r : RS} {k : Sg → Hh → RS} (p : PostS G W D μ H (r.thn k)) :
    PostS G W { D with nx := fun τ H1 => ∃ σ h1 μ1, Nx G μ H μ1 H1 ∧ Rel G μ1 H1 h1 ∧ RelS G μ1 H1 σ τ ∧ PostS G W D μ1 H1 (k σ h1) } μ H r := by
  cases r with
  | nx σ h' => exact fun μ' H' τ nx r q => ⟨σ, h', μ', nx, r, q, PostS.later p nx⟩
  | rt d h' => exact p
  | bk σ h' => exact p
  | ct σ h' => exact p
  | ex x σ h' => exact p
  | bad => exact p
theorem PostS.imp {r : RS} (p : PostS G W D μ H r) (h1 : ∀ τ H, D.nx τ H → D'.nx τ H) (h2 : ∀ v H, D.rt v H → D'.rt v H) (h3 : ∀ τ H, D.bk τ H → D'.bk τ H) (h4 : ∀ τ H, D.ct τ H → D'.ct τ H) : PostS G W D' μ H r := by
  cases r with
  | nx σ h' => exact fun μ2 H2 τ n2 r q => h1 _ _ (p μ2 H2 τ n2 r q)
  | rt d h' => exact fun μ2 H2 v n2 r q => h2 _ _ (p μ2 H2 v n2 r q)
  | bk σ h' => exact fun μ2 H2 τ n2 r q => h3 _ _ (p μ2 H2 τ n2 r q)
  | ct σ h' => exact fun μ2 H2 τ n2 r q => h4 _ _ (p μ2 H2 τ n2 r q)
  | ex x σ h' => exact p
  | bad => exact p
end
section
variable {X : Cx}
theorem weakE {e : Expr} {t t' : TE} (h : PE X e t) (w : ∀ σ H Q, t' σ H Q → t σ H Q) : PE X e t' := ⟨fun pins s σ H Q I q => h.run pins s σ H Q I (w σ H Q q)⟩
theorem weakT {e : Expr} {t t' : TT} (h : PT X e t) (w : ∀ σ H Q, t' σ H Q → t σ H Q) : PT X e t' := ⟨fun pins s σ H Q I q => h.run pins s σ H Q I (w σ H Q q)⟩
theorem weakA {e : List Expr} {t t' : TA} (h : PA X e t) (w : ∀ σ H Q, t' σ H Q → t σ H Q) : PA X e t' := ⟨fun pos pins s σ H Q I q => h.run pos pins s σ H Q I (w σ H Q q)⟩
theorem weakO {e : Option Expr} {t t' : TO} (h : PO X e t) (w : ∀ σ H Q, t' σ H Q → t σ H Q) : PO X e t' := ⟨fun pins s σ H Q I q => h.run pins s σ H Q I (w σ H Q q)⟩
theorem weakTs {e : List Expr} {t t' : TT} (h : PTs X e t) (w : ∀ σ H Q, t' σ H Q → t σ H Q) : PTs X e t' := ⟨fun pins s σ H Q I q => h.run pins s σ H Q I (w σ H Q q)⟩
theorem weakS {e : Stmt} {t t' : TS} (h : PS X e t) (w : ∀ D σ H, t' D σ H → t D σ H) : PS X e t' := ⟨fun pins s σ H D I q => h.run pins s σ H D I (w D σ H q)⟩
theorem weakSs {e : List Stmt} {t t' : TS} (h : PSs X e t) (w : ∀ D σ H, t' D σ H → t D σ H) : PSs X e t' := ⟨fun pins s σ H D I q => h.run pins s σ H D I (w D σ H q)⟩
theorem weakG {e : Expr} {t t' : TG} (h : PG X e t) (w : ∀ v σ H Q, t' v σ H Q → t v σ H Q) : PG X e t' := ⟨fun pins s σ H v u Q I r q => h.run pins s σ H v u Q I r (w v σ H Q q)⟩
theorem weakGs {e : List Expr} {t t' : TGs} (h : PGs X e t) (w : ∀ v σ H Q, t' v σ H Q → t v σ H Q) : PGs X e t' := ⟨fun pins s σ H v u Q I r q => h.run pins s σ H v u Q I r (w v σ H Q q)⟩
theorem weakI {tg e : Expr} {t t' : TI} (h : PI X tg e t) (w : ∀ σ H Q, t' σ H Q → t σ H Q) : PI X tg e t' := ⟨fun pins s σ H Q I q => h.run pins s σ H Q I (w σ H Q q)⟩
theorem orG {e : Expr} {t t' : TG} (h : PG X e t) (h' : PG X e t') : PG X e (fun v σ H Q => t v σ H Q ∨ t' v σ H Q) := ⟨fun pins s σ H v u Q I r q => q.elim (h.run pins s σ H v u Q I r) (h'.run pins s σ H v u Q I r)⟩
end
end Py
/-! Exceptions that were caught and are kept as values. -/
namespace Py
open PySem L2 PySem.Spec PyProof.Rows
theorem exX_ok {P : Program} {w : World} {H : Hp} {hp : Heap} {p : Addr} {c : Value} {dd : Option Addr} {ob : Obj} {fv : Array Value} (e : hp.get? p = some ob) (z : Zc c dd ob) (f : ob.data = .fields fv) : ObjOk P w H hp p (ExX c dd p) :=
  ⟨⟨ob, fv, e, z, f⟩, ⟨ob, e⟩, fun _ _ ⟨u, g, q, r⟩ k => ⟨u, g, k u q, r⟩⟩
theorem exX_at {P : Program} {w : World} {H : Hp} {hp : Heap} {p : Addr} {c : Value} {dd : Option Addr} (K : HOk P w H hp) (e : H p = some (ExX c dd p)) : ∃ (ob : Obj) (fv : Array Value), hp.get? p = some ob ∧ Zc c dd ob ∧ ob.data = .fields fv := by
  have x : ObjOk P w H hp p (.ext fun hp => ∃ (ob : Obj) (fv : Array Value), hp.get? p = some ob ∧ Zc c dd ob ∧ ob.data = .fields fv) := K p _ e
  exact x.1
section
variable {X : Cx} {pins : List (Addr × Obj)} {σ : L2.St} {H : Hp} {s : Shared}
/-- a thing that was not there at the entry is told of from now on -/
theorem trackX {p : Addr} {ob : Obj} {fv : Array Value} {c : Value} {dd : Option Addr} (I : Inv X pins σ H s) (hp : s.heap.get? p = some ob) (hz : Zc c dd ob) (hd : ob.data = .fields fv) (hn : H p = none) (h0 : X.s_0.heap.get? p = none) (hL : p ≠ X.env.locals) (hP : ∀ q ∈ X.pn ++ pins, q.1 ≠ p) :
    Inv X pins σ (upd H p (ExX c dd p)) s := by
  have ne : ∀ {b : Addr} {o : HO}, H b = some o → b ≠ p := fun {b o} e z => by rw [z, hn] at e; cases e
  have n0 : ∀ {b : Addr} {o : Obj}, X.s_0.heap.get? b = some o → b ≠ p := fun {b o} e z => by rw [z, h0] at e; cases e
  have B := I.base
  exact {
    ok := I.ok
    os := I.os
    bare := I.bare
    base := {
      keep := B.keep
      slot := B.slot
      free := fun b o e n x => by rw [upd_ne (n0 e)]; exact B.free b o e n x
      there := B.there
      tups := fun b xs e => by
        have q := B.tups b xs e
        rw [upd_ne (ne q)]; exact q
      frzs := fun b o u e => by
        have q := B.frzs b o u e
        rw [upd_ne (ne q)]; exact q
      tbls := fun b ps e => by
        obtain ⟨m, q⟩ := B.tbls b ps e
        exact ⟨m, by rw [upd_ne (ne q)]; exact q⟩ }
    loc := I.loc
    cell := I.cell
    free := by rw [upd_ne (Ne.symm hL)]; exact I.free
    freeC := fun x k e => by
      have nk : k ≠ p := fun z => by
        obtain ⟨v, o, ho, hv⟩ := I.cell x k e
        rw [z, hp] at ho
        cases ho
        rw [hd] at hv
        cases hv
      rw [upd_ne nk]; exact I.freeC x k e
    pin := fun q hq => by
      obtain ⟨e1, e2, e3⟩ := I.pin q hq
      exact ⟨e1, by rw [upd_ne (hP q hq)]; exact e2, e3⟩
    hok := fun b o e => by
      by_cases hb : b = p
      · subst hb
        rw [upd_same] at e
        cases e
        exact exX_ok hp hz hd
      · rw [upd_ne hb] at e
        exact (I.hok b o e).stay (fun _ _ _ q => q) (fun k q => by rw [upd_ne (ne q)]; exact q) fun k xs q => by rw [upd_ne (ne q)]; exact q
    len := I.len }
end
/-- what 'except x as n: y = n' wishes of an exception of the body -/
def wKeep (K : PySem.W.Frag) (c : Value) (i j : Nat) (Wo : WX) (D : Ends) : WX := fun cls dd σ H =>
  ∃ b, PySem.W.exmOne K cls c = some b ∧ (b = true → ∀ p, H p = none → D.nx (((σ.set i (some (.ref p))).set j (some (.ref p))).set i none) (upd H p (ExX cls dd p))) ∧ (b = false → Wo cls dd σ H)
section
variable {X : Cx} {x n y : Str} {c : Value} {i j : Nat} {body : List Stmt} {np py pn' ps pos pos' : Pos} {tb : WX → TS} {Wo : WX}
theorem ps_tryKeep (hst : X.stack = X.env :: X.outer) (hfr : X.env.frame = some X.env.locals) (hex : X.ex = []) (nd : X.N.Nodup) (hi : X.N[i]? = some n) (hkn : X.env.kindOf n = some .local) (hj : X.N[j]? = some y) (hky : L2.Loc X.env.scope y) (hfy : X.fn y = true ∨ X.env.scope.names.lookup y = some .local) (hc : Names X x c) (tk : Takes X Wo)
    (hdn : (n == ("__debug__" : Str)) = false) (hcn : (n == ("__classdict__" : Str)) = false) (hsw : swapsWithSole [.Name y py] (.Name n pn') ps.line X.env = pure false)
    (hb : ∀ (W : WX) (pn : List (Addr × Obj)) (xe : Value → Shared → Prop), Takes (X.tr pn xe) W → PassesOwn (model X.prog X.w) X.A X.env xe → PSs (X.tr pn xe) body (tb W)) :
    PS X (.Try body [.ExceptHandler (some (.Name x np)) (some n) [.Assign [.Name y py] (.Name n pn') ps] pos'] [] [] pos) (fun D σ H => tb (wKeep X.K c i j Wo D) D σ H) := by
  refine ⟨fun pins s σ H D I h => ?_⟩
  have oX := I.ok
  have hA : X.A.frames = some (X.env :: X.outer) := by rw [oX.frames, hst]
  have hln : L2.Loc X.env.scope n := .inl hkn
  refine wpAny_Try_except ?_
  have run := (hb (wKeep X.K c i j Wo D) (X.pn ++ pins) (fun e s1 => wpAny (model X.prog X.w) X.A (noteFrame e X.env) (fun _ s2 => wpAny (model X.prog X.w) X.A (setFlight e none) (fun _ s3 =>
      wpAny (model X.prog X.w) X.A (handleBy e X.env [.ExceptHandler (some (.Name x np)) (some n) [.Assign [.Name y py] (.Name n pn') ps] pos']) (SP X pins D) X.xe s3) X.xe s2) X.xe s1) ?take PassesOwn.looking).run [] s σ H D (I.toTry _) h
  case take =>
    intro u s' z
    obtain ⟨p, B, sI, pins', τ, G, cls, dd, rfl, J', nb, up, sky, na, os, ag, b, hb1, yes, no⟩ := z
    have J : Inv X pins τ G sI := J'.ofTry oX
    rw [show (X.tr (X.pn ++ pins) _).stack = X.env :: X.outer from hst] at sky
    show wpAny (model X.prog X.w) X.A (noteFrame (.ref p) X.env) _ _ _
    refine Sky.land Zc.steady hA hfr sky fun g3 fl3 up3 => ?_
    have J3 : Inv X pins τ G { s' with heap := g3 } := J.landed nb fl3.1 (up.trans up3) os ag
    obtain ⟨o3, w3, e3, z3, d3⟩ := fl3.there
    have pf : p ∉ frs (X.env :: X.outer) := fun hm => by
      obtain ⟨_, o', e', hnf⟩ := fl3.2.2.1.mem hm
      rw [e3] at e'
      cases e'
      exact hnf _ d3
    have pL : p ≠ X.env.locals := fun q => pf (List.mem_filterMap.mpr ⟨X.env, List.mem_cons_self, by rw [hfr, q]⟩)
    have pF : p ∉ X.fs := fun hm => by
      obtain ⟨e, he, q⟩ := List.mem_filterMap.mp hm
      exact pf (List.mem_filterMap.mpr ⟨e, List.mem_cons_of_mem _ he, q⟩)
    have inB : ∀ {b : Addr} {o : Obj}, sI.heap.get? b = some o → b ≠ p := fun {b o} e q => by
      subst q
      have hnf : b ∉ frs X.stack := by rw [hst]; exact pf
      have := nb b o e hnf
      rw [fl3.2.1] at this
      cases this
    have p0 : X.s_0.heap.get? p = none := by
      cases q : X.s_0.heap.get? p with
      | none => rfl
      | some o =>
        obtain ⟨o', q'⟩ := J.base.there p o q (by rw [hex]; exact fun z => nomatch z)
        exact absurd rfl (inB q')
    have pP : ∀ q ∈ X.pn ++ pins, q.1 ≠ p := fun q hq => inB (J.pin q hq).1
    have S3 := J3.suite e3 d3 na pL pF
    refine wpAny_handleBy_cons (codeAny_handlers_test ?_) (by intro q; cases q)
    have LT : PySem.W.Looks (model X.prog X.w) g3 (typeOf (.ref p)) cls := fun A Q E s k q => wpAny_typeOf_ref (k _ _ e3) (by rw [z3.1]; exact q)
    have LM := PySem.W.exm_one (M := model X.prog X.w) J3.kIn LT hb1
    have tst : ∀ {Q : Value → Shared → Prop} {E : Value → Shared → Prop}, Q c { s' with heap := g3 } → wpAny (model X.prog X.w) (X.A.mark (some (.ref p))) (eval (.Name x np) X.env) Q E { s' with heap := g3 } := fun {Q E} q => by
      obtain ⟨hg, hdb, hm | ⟨hm, hv, hnn⟩⟩ := hc
      · exact ld_glob (X := X.suite p ((p, o3) :: (X.pn ++ pins))) S3 hg hm q hdb
      · exact ld_blt (X := X.suite p ((p, o3) :: (X.pn ++ pins))) S3 hg hm hv q hnn hdb
    refine tst (LM.here ?_)
    cases b with
    | true =>
      refine codeAny_handlers_suite_as (HandSPX.lands_againZ fl3 fun g4 fl4 up4 => ?_)
      have J4 : Inv X pins τ G { s' with heap := g4 } := J.landed nb fl4.1 ((up.trans up3).trans up4) os ag
      obtain ⟨o4, w4, e4, z4, d4⟩ := fl4.there
      have S4 := J4.suite e4 d4 na pL pF
      refine store_ok (X := X.suite p ((p, o4) :: (X.pn ++ pins))) (v := .ref p) S4 nd hi hln rfl (fun s5 S5 => ?_) (.inr hkn)
      have hv : PE (X.suite p ((p, o4) :: (X.pn ++ pins))) (.Name n pn') (tVar i) := pe_var (X := X.suite p ((p, o4) :: (X.pn ++ pins))) hi (.inl hkn) hdn hcn
      have hst2 : PS (X.suite p ((p, o4) :: (X.pn ++ pins))) (.Assign [.Name y py] (.Name n pn') ps) (tAsg (tVar i) (gName j)) := ps_asg (X := X.suite p ((p, o4) :: (X.pn ++ pins))) hv (pg_name (X := X.suite p ((p, o4) :: (X.pn ++ pins))) nd hj hky hfy) hsw rfl rfl
      have hi2 : i < τ.length := by rw [J.len]; exact (List.getElem?_eq_some_iff.mp hi).1
      refine wpAny_mono ((pss_one hst2).run [] s5 _ G { nx := fun τ' G' => τ' = ((τ.set i (some (.ref p))).set j (some (.ref p))) ∧ G' = G, rt := fun _ _ => False } S5 ⟨.ref p, by rw [List.getElem?_set_self hi2], rfl, rfl⟩) (fun f s6 q => ?_) fun _ _ z => False.elim z
      cases f with
      | next =>
        obtain ⟨τ6, G6, S6, rfl, rfl⟩ := q
        have pin := S6.pin (p, o4) (List.mem_append.mpr (.inl List.mem_cons_self))
        have J6 := trackX (c := cls) (dd := dd) (S6.unsuite oX) pin.1 z4 d4 na p0 pL pP
        exact gone_ok J6 nd hi hkn fun s7 J7 => ⟨_, _, J7, yes rfl p na⟩
      | brk =>
        obtain ⟨_, _, _, q⟩ := q
        exact q.elim
      | cont =>
        obtain ⟨_, _, _, q⟩ := q
        exact q.elim
      | ret u =>
        obtain ⟨_, _, _, _, _, q⟩ := q
        exact q.elim
    | false =>
      show wpAny _ X.A (handleBy (.ref p) X.env []) _ _ _
      refine wpAny_handleBy_nil ?_
      obtain ⟨k1, k2, k3, oe, vs, T, oT, us, he, hz, hd, h1, hr⟩ := id fl3
      unfold PySem.passOn
      refine wpAny_bind (wpAny_field he hd h1 ?_)
      rw [if_neg (show ¬ ((Value.ref T == Value.none) = true) from by simp)]
      have out : wpAny (model X.prog X.w) X.A (setFlight (.ref p) X.env.frame) (fun _ s4 => wpAny (model X.prog X.w) X.A (throw (.ref p) : Sem Flow) (SP X pins D) X.xe s4) X.xe { s' with heap := g3 } := by
        rw [hfr]
        refine HandSPX.setFlight_upZ fl3 fun g4 hh4 up4 => wpAny_throw (tk _ _ ?_)
        exact ⟨p, B, sI, pins, τ, G, cls, dd, rfl, J, nb, (up.trans up3).trans up4, .inr (.inr (by rw [hst]; exact hh4)), na, os, ag, no rfl⟩
      first
        | exact wpAny_bind (wpAny_pure (wpAny_bind out))
        | exact wpAny_bind out
  refine wpAny_mono run (fun f s1 q => ?_) fun e s1 z => z
  cases f with
  | next =>
    obtain ⟨τ, G, J, q⟩ := q
    exact wpAny_execs_nil ⟨τ, G, J.ofTry oX, q⟩
  | brk =>
    obtain ⟨τ, G, J, q⟩ := q
    exact ⟨τ, G, J.ofTry oX, q⟩
  | cont =>
    obtain ⟨τ, G, J, q⟩ := q
    exact ⟨τ, G, J.ofTry oX, q⟩
  | ret u =>
    obtain ⟨v, τ, G, J, r, q⟩ := q
    exact ⟨v, τ, G, J.ofTry oX, r, q⟩
end
end Py
/-! Defs that are called where no repr is under way. -/
namespace Py
open PySem L2 PySem.Spec PyProof.Rows
/-- as FnOk, where nothing guards -/
structure FnG (P : Program) (w : World) (K : PySem.W.Frag) (mg : Str → Option Value) (gr : Heap) (X : CXT) (k : Nat) (f : Addr) (fd : FuncData) (ps : List Str) (sp : Sp) : Prop where
  len : ∀ vs H Q E, sp vs H Q E → vs.length = ps.length
  run : ∀ (A : Around) (out : List Env) (s : Shared) (H : Hp) (ar : Args) (us : List Value) (vs : List V) (Q : VK) (E : XK), Room k A → A.guards = some [] → Env0 P w K mg gr A out s H → BindsTo s fd ar (ps.zip us) → Vals vs us → sp vs H Q E →
    codeAny (model P w) A (.call (.ref f) ar) (CR X out P w H s Q E) s
theorem FnG.of {P : Program} {w : World} {K : PySem.W.Frag} {mg : Str → Option Value} {gr : Heap} {X : CXT} {k : Nat} {f : Addr} {fd : FuncData} {ps : List Str} {sp : Sp} (F : FnOk P w K mg gr X k f fd ps sp) : FnG P w K mg gr X k f fd ps sp :=
  ⟨F.len, fun A out s H ar us vs Q E hr _ => F.run A out s H ar us vs Q E hr⟩
theorem FnG.imp {P : Program} {w : World} {K : PySem.W.Frag} {mg : Str → Option Value} {gr : Heap} {X : CXT} {k : Nat} {f : Addr} {fd : FuncData} {ps : List Str} {sp sp' : Sp} (F : FnG P w K mg gr X k f fd ps sp) (h : ∀ vs H Q E, sp' vs H Q E → sp vs H Q E) : FnG P w K mg gr X k f fd ps sp' :=
  ⟨fun vs H Q E q => F.len vs H Q E (h _ _ _ _ q), fun A out s H ar us vs Q E hr hg e0 hb hv q => F.run A out s H ar us vs Q E hr hg e0 hb hv (h _ _ _ _ q)⟩
/-- a def by its body -/
theorem fn_G {X : CXT} {P : Program} {w : World} {K : PySem.W.Frag} {mg : Str → Option Value} {gr : Heap} {k : Nat} {f : Addr} {nm qu : Str} {pr : Arguments} {bd : List Stmt} {sc : Scope} {dV kV doc pm cv ct oc : Value} {an od : Option Addr}
    {sl : Array (Option Value)} {N ps : List Str} {sp : Sp} (lk : K.lookup f = some ⟨oc, od, .func (PySem.W.fnOf nm qu pr bd sc dV kV doc pm an cv ct), sl⟩) (hcd : PySem.W.codeIn K cv qu = true) (S : FnScope N ps sc) (len : ∀ vs H Q E, sp vs H Q E → vs.length = ps.length)
    (hbd : ∀ (A : Around) (out : List Env) (s : Shared) (H : Hp) (vs : List V) (Q : VK) (E : XK), Room k (A.deeper (envOfC qu sc s.heap.objs.size f cv)) → (A.deeper (envOfC qu sc s.heap.objs.size f cv)).guards = some [] → sp vs H Q E →
      ∃ t, PSs (cxOf X P w K mg gr N qu sc f cv A out s H E) bd t ∧ t { nx := fun _ H' => Q .non H', rt := Q } (L2.start N vs) H) : FnG P w K mg gr X (k + 1) f (PySem.W.fnOf nm qu pr bd sc dV kV doc pm an cv ct) ps sp := by
  refine ⟨len, fun A out s H ar us vs Q E hr hgd e0 hb rv hsp => ?_⟩
  have st : ∀ b o, gr.get? b = some o → s.heap.get? b = some o := fun b o e => (e0.bs b o e).1
  have kx : K.In s.heap := e0.mod.kin.keeps st
  have nl : s.heap.NoLimit := e0.mod.nolimit.keeps st
  have kd : ∀ y ∈ ps.zip us, sc.names.lookup y.1 = some .local ∨ (sc.names.lookup y.1 = some .cell ∧ ((cellsFrom (s.heap.objs.size + 1) sc.names []).lookup y.1).isSome = true) := fun ⟨m, v⟩ hy =>
    (S.par m (List.of_mem_zip hy).1).imp id fun q => ⟨q, PySem.W.cellsFrom_some _ _ _ (.inl q)⟩
  refine codeAny_call_function hr.depth (kx _ _ lk) rfl S.co S.gen rfl (PySem.W.codeRec_of kx hcd) (hb _ _ _ _ ?_)
  refine wpAny_newFunctionEnv_cells S.kind kd fun ev he s1 x => ?_
  subst he
  refine ⟨nl.keeps x.toInCall.keep, codeAny_func ?_⟩
  obtain ⟨t, ht, q⟩ := hbd A out s H vs Q E (hr.deeper _) hgd hsp
  have J : Inv (cxOf X P w K mg gr N qu sc f cv A out s H E) [] (L2.start N vs) H s1 := inv_start S hr.hd e0 (len _ _ _ _ hsp) rv x
  refine wpAny_mono (ht.run [] s1 _ H _ J q) (fun fl s2 z => ?_) fun _ _ z => z
  cases fl with
  | ret u =>
    obtain ⟨v, τ, H2, J2, r2, q2⟩ := z
    exact ⟨v, H2, J2.os, J2.bare, J2.base, J2.hok, r2, q2⟩
  | next =>
    obtain ⟨τ, H2, J2, q2⟩ := z
    exact ⟨.non, H2, J2.os, J2.bare, J2.base, J2.hok, rfl, q2⟩
  | brk =>
    obtain ⟨_, _, _, z⟩ := z
    exact z.elim
  | cont =>
    obtain ⟨_, _, _, z⟩ := z
    exact z.elim
theorem Fun.okG {P : Program} {w : World} {K : PySem.W.Frag} {mg : Str → Option Value} {gr : Heap} {x qu : Str} {st : Stmt} {f : Addr} {fd : FuncData} {N ps : List Str} {k : Nat} {sp : Sp} (F : Fun K x qu st f fd) (S : FnScope N ps (defScope st)) (len : ∀ vs H Q E, sp vs H Q E → vs.length = ps.length)
    (hbd : ∀ (cv : Value) (A : Around) (out : List Env) (s : Shared) (H : Hp) (vs : List V) (Q : VK) (E : XK), Room k (A.deeper (envOfC qu (defScope st) s.heap.objs.size f cv)) → (A.deeper (envOfC qu (defScope st) s.heap.objs.size f cv)).guards = some [] → sp vs H Q E →
      ∃ t, PSs (cxOf (L2.CX P w) P w K mg gr N qu (defScope st) f cv A out s H E) (defBody st) t ∧ t { nx := fun _ H' => Q .non H', rt := Q } (L2.start N vs) H) : FnG P w K mg gr (L2.CX P w) (k + 1) f fd ps sp := by
  obtain ⟨oc, od, kV, doc, pm, an, cv, ct, sl, rfl, lk, hc⟩ := F.ex
  exact fn_G lk hc S len fun A out s H vs Q E hr hg q => hbd cv A out s H vs Q E hr hg q
section
variable {X : Cx} {XC : CXT} {k : Nat} {f : Addr} {fd : FuncData} {ps : List Str} {sp : Sp} {E : L2.St → XK} {x : Str} {p pos : Pos} {e : Expr} {es : List Expr} {t : TA} {dvs : List V} {ds : List Value}
theorem run_G {pins : List (Addr × Obj)} {τ : L2.St} {H : Hp} {s : Shared} {Q : VK} {us : List Value} {vs : List V} (F : FnG X.prog X.w X.K X.mg X.base XC k f fd ps sp) (hr : Room k X.A) (hgd : X.A.guards = some []) (hb : Binds X.K fd ps ds) (hd : Vals dvs ds) (hx : PassesAt XC X τ (E τ))
    (I : Inv X pins τ H s) (r : Vals vs us) (h : sp (vs ++ dvs) H Q (E τ)) : wpAny (model X.prog X.w) X.A (call (.ref f) us) (EP X pins τ Q) X.xe s := by
  have rr : Vals (vs ++ dvs) (us ++ ds) := r.append hd
  have hl : (us ++ ds).length = ps.length := by rw [← rr.length, F.len _ _ _ _ h]
  refine wpAny_call (codeAny_mono (F.run X.A X.stack s H ⟨us, []⟩ (us ++ ds) _ Q _ hr hgd I.env0 (hb s us I.kIn hl) rr h) fun rs s2 z => ?_)
  match rs, z with
  | .error v, z => exact hx pins H s v s2 I z
  | .ok (.ret u), z => exact I.after z
  | .ok .next, z => exact False.elim z
  | .ok .brk, z => exact False.elim z
  | .ok .cont, z => exact False.elim z
theorem pe_G (F : FnG X.prog X.w X.K X.mg X.base XC k f fd ps sp) (hr : Room k X.A) (hgd : X.A.guards = some []) (hg : Gl X x) (hm : X.mg x = some (.ref f)) (hk : PySem.W.keepIn X.K (.ref f) = true) (hb : Binds X.K fd ps ds) (hd : Vals dvs ds) (hx : ∀ τ, PassesAt XC X τ (E τ))
    (ha : PA X (e :: es) t) (hdb : (x == ("__debug__" : Str)) = false) (he : starEach (e :: es) X.env = (false, eval e X.env) :: starEach es X.env) (hpl : (backTo pos (starEach es X.env)).any (·.1) = false) :
    PE X (.Call (.Name x p) (e :: es) [] pos) (tCallSD sp dvs E t) :=
  ⟨fun pins s τ H Q I h => wpAny_Call_Name_kw (ld_glob I hg hm (PySem.W.callWith_K (h₀ := X.base) I.ok.mod.kin hk (thn (ha.run pos pins s τ H _ I h) fun us s1 ⟨vs, H1, I1, r, q⟩ => ⟨I1.kIn, run_G F hr hgd hb hd (hx τ) I1 r q⟩) he hpl) hdb)⟩
end
/-- the law is called -/
theorem lawG {P : Program} {w : World} {K : PySem.W.Frag} {mg mb : Str → Option Value} {X : CXT} {k : Nat} {fa a : Addr} {fd : FuncData} {x : Str} {sp : Sp} {s1 : Shared} {vs : List Value} {ns : List Int}
    (kx : K.In s1.heap) (hns : s1.heap.Ns mainGlobals mg) (hb : s1.heap.Ns builtinsNs mb) (hbb : ∀ x : Str, x ≠ "__name__" → mb x = bootBuiltins x) (nl : s1.heap.NoLimit) (hg : s1.gens = #[])
    (ha : s1.heap.get? a = some { cls := .type "list", data := .seq vs.toArray }) (hi : IntsAre vs ns) (hl : ns.length ≤ sizeLine) (hr : Room k callerA)
    (F : ∀ gr : Heap, K.In gr → gr.Ns mainGlobals mg → FnG P w K mg gr X k fa fd [x] sp) (hbi : ∀ (s : Shared) (u : Value), BindsTo s fd ⟨[u], []⟩ [(x, u)])
    (hsp : ∀ H : Hp, Only H → SqL K H a (ns.map V.int) → sp [.ref a] H (fun v _ => v = .bl true) fun _ _ _ => False) (hX : ∀ H e s', X [] H s1 (fun _ _ _ => False) e s' → False) :
    codeAny (model P w) callerA (.call (.ref fa) ⟨[.ref a], []⟩) (fun r s' => r = .ok (.ret (.bool true)) ∧ OldK s1.heap s'.heap ∧ s'.os = s1.os ∧ AllBare s'.gens) s1 := by
  have key : ∀ H : Hp, Only H → SqL K H a (ns.map V.int) → HOk P w H s1.heap → (∀ b o, H b = some o → b = a) → (∀ o, H a = some o → K.lookup a = none) →
      codeAny (model P w) callerA (.call (.ref fa) ⟨[.ref a], []⟩) (fun r s' => r = .ok (.ret (.bool true)) ∧ OldK s1.heap s'.heap ∧ s'.os = s1.os ∧ AllBare s'.gens) s1 := fun H hO hS hok hA hK => by
    have free : ∀ b o, s1.heap.get? b = some o → (∀ o', o = o' → b = a → False) → H b = none := fun b o e n => by
      cases q : H b with
      | none => rfl
      | some u => exact (n o rfl (hA b u q)).elim
    have nk : ∀ {b : Addr} {m : Str → Option Value}, s1.heap.Ns b m → (hidT s1.heap H).Ns b m := fun {b m} ⟨o, es, ep, e, d, r⟩ => ⟨o, es, ep, hidT_get e (free b o e fun _ _ z => by
      rw [z, ha] at e
      cases e
      cases (show Data.seq vs.toArray _ = Data.dict es ep from d)), d, r⟩
    have kb : K.In (hidT s1.heap H) := fun b o e => hidT_get (kx b o e) (by
      cases q : H b with
      | none => rfl
      | some u =>
        have z := hA b u q
        subst z
        rw [hK u q] at e
        cases e)
    have md : Mod K mg (hidT s1.heap H) := ⟨kb, nk hns, ⟨mb, nk hb, hbb⟩, nl.elim fun mc z => ⟨mc, nk z.1, z.2⟩⟩
    have e0 : Env0 P w K mg (hidT s1.heap H) callerA [] s1 H := ⟨rfl, md, fun b o e => of_hidT e, Nat.le_of_eq (hidT_size _ _), trivial, fun b z => (nomatch (show b ∈ ([] : List Addr) from z)), hok, .of_eq hg⟩
    refine codeAny_mono ((F _ kb (nk hns)).run callerA [] s1 H ⟨[.ref a], []⟩ [.ref a] [.ref a] _ _ hr rfl e0 (hbi s1 _) (.cons rfl .nil) (hsp H hO hS)) fun r s2 z => ?_
    match r, z with
    | .error v, z => exact (hX H v s2 z).elim
    | .ok .next, z => exact False.elim z
    | .ok .brk, z => exact False.elim z
    | .ok .cont, z => exact False.elim z
    | .ok (.ret u), z =>
      obtain ⟨v, H2, os, bare, un, hok2, rv, q⟩ := z
      subst q
      obtain rfl : u = Value.bool true := rv
      refine ⟨rfl, OldK.of_keep fun b o e => ?_, os, bare⟩
      rcases hO b with q | ⟨ob, xs, q⟩
      · exact un.keep b o e q (fun z => (nomatch (show b ∈ ([] : List Addr) from z))) fun z => nomatch z
      · have e1 := (hok b _ q).1
        have e2 := (hok2 b _ (un.frzs b ob _ q)).1
        rw [e] at e1
        cases e1
        exact e2
  have rv := vals_ints hi
  cases hk : K.lookup a with
  | some o =>
    have e := kx a o hk
    rw [ha] at e
    cases e
    exact key (fun _ => none) (fun _ => .inl rfl) (.inr ⟨_, vs.toArray, _, hk, rfl, rfl, rfl, by rw [List.size_toArray, hi.length]; exact hl, by simpa using rv⟩) (fun b u z => nomatch (show (none : Option HO) = some u from z)) (fun b o z => nomatch (show (none : Option HO) = some o from z)) fun o z => nomatch (show (none : Option HO) = some o from z)
  | none =>
    let Hs : Hp := fun b => if b = a then some (.frz { cls := .type "list", data := .seq vs.toArray } (.lst (ns.map V.int))) else none
    have yes : Hs a = some (.frz { cls := .type "list", data := .seq vs.toArray } (.lst (ns.map V.int))) := if_pos rfl
    have no : ∀ {b : Addr}, b ≠ a → Hs b = none := fun {b} h => if_neg h
    refine key Hs (fun b => ?_) (.inl (.inr ⟨_, yes⟩)) (fun b u z => ?_) (fun b o z => ?_) fun _ _ => hk
    · by_cases h : b = a
      · subst h; exact .inr ⟨_, _, yes⟩
      · exact .inl (no h)
    · by_cases h : b = a
      · subst h
        rw [yes] at z
        cases z
        exact ⟨ha, by rw [List.length_map]; exact hl, vs, _, rv, ha⟩
      · rw [no h] at z; cases z
    · by_cases h : b = a
      · exact h
      · rw [no h] at z; cases z
theorem walkG {l : PySem.W.OpenLaw} {n k : Nat} {q : Program} {loose : List Str} {XP : (Str → Option Value) → Heap → Prop} {YP : World → Heap → Prop} {d : DefRec} {K : Params → PySem.W.Frag} {XC : World → CXT} {sp : World → Sp} {x : Str} (hn : l.most = some n) (hn2 : n ≤ sizeLine) (hdf : d.params.defaults = []) (hr : Room k callerA)
    (hY : ∀ (w : World) (h : Heap), YP w h → (K w.params).In h)
    (F : ∀ (w : World) (mg : Str → Option Value) (fa : Addr) (h : Heap), (K w.params).In h → h.Ns mainGlobals mg → mg d.name = some (.ref fa) →
      ∃ fd : FuncData, (∀ (s : Shared) (u : Value), BindsTo s fd ⟨[u], []⟩ [(x, u)]) ∧ ∀ gr : Heap, (K w.params).In gr → gr.Ns mainGlobals mg → FnG l.prog w (K w.params) mg gr (XC w) k fa fd [x] (sp w))
    (hsp : ∀ (w : World) (H : Hp) (a : Addr) (ns : List Int), ns.length ≤ n → Only H → SqL (K w.params) H a (ns.map V.int) → sp w [.ref a] H (fun v _ => v = .bl true) fun _ _ _ => False)
    (hX : ∀ (w : World) (H : Hp) (s : Shared) (e : Value) (s' : Shared), XC w [] H s (fun _ _ _ => False) e s' → False) : PySem.W.WalkO q loose XP YP l.row.toRowW d [] (fun f vs => PySem.call f vs) :=
  Att.attach_call hn hdf fun w s0 s1 mg mb fa o pm cd doc a vs ns G Y _ _ _ hmg hob hint hlen hg => by
    have kx := hY w _ Y
    obtain ⟨fd, hb, hF⟩ := F w mg fa _ kx G.T.g hmg
    exact lawG kx G.T.g G.T.b G.T.builtins G.T.nolimit hg hob hint (Nat.le_trans hlen hn2) hr hF hb (fun H hO hS => hsp w H a ns hlen hO hS) fun H e s' => hX w H s1 e s'
end Py
/-! isinstance and fields of caught exceptions; exceptions made. -/
namespace Py
open PySem L2 PySem.Spec PyProof.Rows
/-- the class of a value: of a caught exception, too -/
inductive TyY (K : PySem.W.Frag) (H : Hp) : V → Value → Prop where
  | x {v : V} {t : Value} (h : TyX K H v t) : TyY K H v t
  | e {p C : Addr} (e : H p = some (ExX (.ref C) none p)) (c : ExcC K C) : TyY K H (.ref p) (.ref C)
  | ed {p C d : Addr} {fs : List (Str × V)} (e : H p = some (ExX (.ref C) (some d) p)) (ed : H d = some (.xd fs)) (c : ExcC K C) : TyY K H (.ref p) (.ref C)
section
variable {X : Cx} {pins : List (Addr × Obj)} {τ : L2.St} {H : Hp} {s : Shared}
theorem hasD_some {K : PySem.W.Frag} {C : Addr} (h : PySem.W.hasDictIn K C = true) : (PySem.W.clsIn K C).isSome = true := by
  obtain ⟨cd, hc, _⟩ := PySem.W.any_some h
  rw [hc]; rfl
theorem exX_inst {p C : Addr} {dd : Option Addr} (I : Inv X pins τ H s) (e : H p = some (ExX (.ref C) dd p)) (hd : ∀ d, dd = some d → ∃ fs, H d = some (.xd fs)) : ∃ ob od, PySem.W.InstAt s.heap p ob C od ∧ ∀ d, dd = some d → ∃ o, od = some o ∧ s.heap.get? d = some o := by
  obtain ⟨ob, fv, h1, ⟨z1, z2⟩, h3⟩ := exX_at I.hok e
  have no : PySem.W.notCls ob = true := by unfold PySem.W.notCls; rw [h3]
  cases dd with
  | none => exact ⟨ob, none, ⟨h1, z1, no, by rw [z2]; trivial⟩, fun d z => nomatch z⟩
  | some d =>
    obtain ⟨fs, q⟩ := hd d rfl
    obtain ⟨mA, ⟨o, es, ep, ho, hr⟩, _⟩ := (show ObjOk X.prog X.w H s.heap d (.xd fs) from I.hok d _ q)
    exact ⟨ob, some o, ⟨h1, z1, no, by rw [z2]; exact ho⟩, fun d' z => by cases z; exact ⟨o, rfl, ho⟩⟩
theorem kitY {x : V} {u t : Value} (I : Inv X pins τ H s) (rx : RelV x u) (ty : TyY X.K H x t) : ∃ P : Heap → Prop, PySem.W.KitX X.K u t P ∧ P s.heap ∧ u ≠ .builtin "__main__.__loader__#opaque" := by
  cases ty with
  | x h => exact kit_of I rx h
  | @e p C e c =>
    cases (show u = Value.ref p from rx)
    obtain ⟨ob, od, J, _⟩ := exX_inst I e fun d z => nomatch z
    exact ⟨_, PySem.W.kitx_exc (hasD_some c.hd) c.hg c.hk c.hs c.ha c.hn c.ht c.hm, J, fun z => nomatch z⟩
  | @ed p C d fs e ed c =>
    cases (show u = Value.ref p from rx)
    obtain ⟨ob, od, J, _⟩ := exX_inst I e fun d' z => by cases z; exact ⟨fs, ed⟩
    exact ⟨_, PySem.W.kitx_exc (hasD_some c.hd) c.hg c.hk c.hs c.ha c.hn c.ht c.hm, J, fun z => nomatch z⟩
def rIsY (K : PySem.W.Frag) : List V → Hp → VK → Prop := fun xs H Q => ∃ (x c : V) (t u : Value) (b : Bool), xs = [x, c] ∧ ClsV c u ∧ TyY K H x t ∧ PySem.W.kitOne K t u = some b ∧ Q (.bl b) H
def rIsYT (K : PySem.W.Frag) : List V → Hp → VK → Prop := fun xs H Q => ∃ (x : V) (tp : Addr) (cs : List V) (t : Value) (us : List Value) (b : Bool), xs = [x, .ref tp] ∧ H tp = some (.tup cs) ∧ Paired ClsV cs us ∧ TyY K H x t ∧ PySem.W.kitAny K t us = some b ∧ Q (.bl b) H
theorem call_isY : CallR X (.builtin "isinstance") (rIsY X.K) := by
  intro pins s τ H xs us Q I r ⟨x, c, t, u, b, e, k, ty, eq, q⟩
  subst e
  obtain ⟨u1, u2, rfl, r1, r2⟩ := vals2 r
  obtain rfl := k.eq r2
  obtain ⟨P, Z, p, hx⟩ := kitY I r1 ty
  exact PySem.W.kia_one Z I.kIn p eq hx fun tk => ⟨.bl b, H, I.tok tk, rfl, q⟩
theorem call_isYT : CallR X (.builtin "isinstance") (rIsYT X.K) := by
  intro pins s τ H xs us Q I r ⟨x, tp, cs, t, ws, b, e, hT, k, ty, eq, q⟩
  subst e
  obtain ⟨u1, u2, rfl, r1, r2⟩ := vals2 r
  cases (show u2 = Value.ref tp from r2)
  obtain ⟨P, Z, p, hx⟩ := kitY I r1 ty
  obtain ⟨_, its, rv, ⟨oc, od, dt, sl⟩, h1, h2, n, h3⟩ := (show ObjOk X.prog X.w H s.heap tp (.tup cs) from I.hok tp _ hT)
  obtain rfl := ClsV.all k rv
  simp only at h2 h3
  subst h2 h3
  exact PySem.W.kia_tup Z I.kIn p h1 eq hx fun tk => ⟨.bl b, H, I.tok tk, rfl, q⟩
/-- e.f of a caught exception -/
theorem getX {A : Around} {E : Value → Shared → Prop} {p C d : Addr} {fs : List (Str × V)} {f : Str} {v : V} {ex : Bool} {Q : Value → Shared → Prop} (I : Inv X pins τ H s) (T : XfC X.K C) (hno : PySem.W.findIn X.K (.ref C) f = some none) (e : H p = some (ExX (.ref C) (some d) p)) (ed : H d = some (.xd fs)) (l : fs.lookup f = some v)
    (h : ∀ u s', Inv X pins τ H s' → RelV v u → Q u s') : wpAny (model X.prog X.w) A (getAttr (.ref p) f ex) Q E s := by
  obtain ⟨ob, od, J, k⟩ := exX_inst I e fun d' z => by cases z; exact ⟨fs, ed⟩
  obtain ⟨o, rfl, ho⟩ := k d rfl
  obtain ⟨mA, hns, hr⟩ := (show ObjOk X.prog X.w H s.heap d (.xd fs) from I.hok d _ ed)
  obtain ⟨o', ho', hl⟩ := lookIn_ns hns
  rw [ho] at ho'
  cases ho'
  obtain ⟨u, hu, ru⟩ := RelO.some_of (v := v) (o := mA f) (by rw [← l]; exact hr f)
  exact HandSPX.exc_get I.kIn J T.ga T.gg T.exC (PySem.W.findObj_own T.hdC hno rfl (by rw [hl, hu])) (handed_of ru) (h u _ (I.tok _) ru)
/-- C(), C an own class without own __init__ -/
theorem pmk0 {C : Addr} {bmB : List Value} {B nI iI : String} {x : Str} {p pos : Pos} (F : ExcBaseFacts B nI iI bmB) (q : PySem.W.excIn X.K C bmB nI = true) (gC : X.mg x = some (.ref C)) (kC : PySem.W.keepIn X.K (.ref C) = true) (r : Raises X (.ref C)) (hg : Gl X x) (hdb : (x == ("__debug__" : Str)) = false) :
    PMk X (.Call (.Name x p) [] [] pos) (fun _ H Q => Q (.ref C) none H) := by
  intro pins s τ H Q I h
  refine wpAny_Call_Name_kw (ld_glob I hg gC (PySem.W.callWith_K0 I.kIn kC ?_) hdb)
  obtain ⟨bm, N, nm, qn, bs, hd, sn, sb, ab, co, dd, k0, k1, k2, k3, k5, mN, hC, hN, hni, T⟩ := exc_obj I.kIn q
  exact wpAny_call_exc_subT F T hC hN hni (fun h' e hm => mk_of I hm r h (I.hok.gone hm.new)) (Nat.zero_le _)
end
/-- what an __init__ that stores its argument promises -/
def spI (C : Addr) (f : Str) : Sp := fun vs H Q _ => ∃ (p : Addr) (y : V), vs = [.ref p, y] ∧ H p = some (exo p C none) ∧ ∀ d, H d = none → d ≠ p → Q .non (upd (upd H d (exd d [(f, y)])) p (exo p C (some d)))
theorem init_ok {P : Program} {w : World} {K : PySem.W.Frag} {mg : Str → Option Value} {gr : Heap} {x qu : Str} {st : Stmt} {fI C : Addr} {fd : FuncData} {a f : Str} {p1 p2 p3 p4 : Pos} (F : Fun K x qu st fI fd) (S : FnScope ["self", a] ["self", a] (defScope st)) (hb : defBody st = [.Assign [.Attribute (.Name "self" p1) f p2] (.Name a p3) p4]) (T : OexC K C) (hno : PySem.W.findIn K (.ref C) f = some none)
    (h1 : Vis (defScope st) "self") (h2 : Vis (defScope st) a) (h3 : (a == ("__debug__" : Str)) = false) (h4 : (a == ("__classdict__" : Str)) = false) : FnOk P w K mg gr CX0 1 fI fd ["self", a] (spI C f) := by
  refine F.ok (k := 0) S (fun vs H Q E ⟨p, y, e, _⟩ => by rw [e]; rfl) fun cv A out s H vs Q E hr ⟨p, y, e, ho, q⟩ => ?_
  subst e
  rw [hb]
  refine ⟨_, pss_one (ps_ost (pe_var (i := 0) rfl h1 (by decide) (by decide)) (pe_var (i := 1) rfl h2 h3 h4) (by rfl)), ?_⟩
  exact ⟨y, rfl, .ref p, rfl, p, C, rfl, T, hno, .inl ⟨ho, fun d hd hn => q d hd hn⟩⟩
end Py
namespace Py
open PySem L2
def opB : BO → Operator
  | .add => .Add | .sub => .Sub | .mul => .Mult | .fdv => .FloorDiv | .mod => .Mod | .pow => .Pow
def opC : CO → CmpOp
  | .eq => .Eq | .ne => .NotEq | .lt => .Lt | .le => .LtE | .gt => .Gt | .ge => .GtE | .is => .Is | .isn => .IsNot | .inn => .In | .nin => .NotIn
def rD2 (G : Cfg) (f : D → D → Hh → VR) : R2 := fun x y H Q => ∃ μ h d e, RD G μ H d x ∧ RD G μ H e y ∧ Rel G μ H h ∧ PostV G (RD G) Q μ H (f d e h)
theorem sz_le {n : Nat} (h : n ≤ SZ) : n ≤ sizeLine := Nat.le_trans h (by rw [sizeLine_eq]; decide)
theorem sz_lt {n : Nat} (h : n < SZ) : n < sizeLine := Nat.lt_of_lt_of_le h (by rw [sizeLine_eq]; decide)
section
variable {X : Cx} {G : Cfg} {μ : List Addr} {H : Hp} {h : Hh}
theorem str_app (a b : List Nat) : (⟨a.toArray⟩ : Str) ++ ⟨b.toArray⟩ = ⟨(a ++ b).toArray⟩ := by
  show (⟨a.toArray ++ b.toArray⟩ : Str) = _
  simp
theorem str_len (a : List Nat) : (⟨a.toArray⟩ : Str).length = a.length := by
  show a.toArray.size = a.length
  simp
theorem RD.ref_inv {n : Nat} {v : V} (r : RD G μ H (.ref n) v) : ∃ a, μ[n]? = some a ∧ v = .ref a := by
  cases r with | ref h => exact ⟨_, h, rfl⟩
theorem RD.tup_inv {ds : List D} {v : V} (r : RD G μ H (.tup ds) v) : ∃ a xs, v = .ref a ∧ SqT G.K H a xs ∧ RDs G μ H ds xs := by
  cases r with | tup h q => exact ⟨_, _, rfl, h, q⟩
theorem RD.newTup {p : Addr} {ds : List D} {vs : List V} (hp : H p = none) (r : RDs G μ H ds vs) : RD G μ (upd H p (.tup vs)) (.tup ds) (.ref p) :=
  .tup (SqT.of upd_same) (r.mono (Nx.updN hp))
theorem op_binD (hK : X.K = G.K) (op : BO) : OpR X (binaryOp (opB op)) (rD2 G (binD op)) := by
  intro pins s σ H x y v u Q I rx ry ⟨μ, h, d, e, rd, re, rel, a, h', eq, post⟩
  unfold binD at eq
  split at eq
  · -- int + int
    cases rd; cases re; cases eq
    exact op_add pins s σ H _ _ v u Q I rx ry ⟨_, _, rfl, rfl, post μ H _ Nx.refl rel (.int _)⟩
  · cases rd; cases re
    split at eq
    · rename_i hl
      cases eq
      refine op_add_str pins s σ H _ _ v u Q I rx ry ⟨_, _, rfl, rfl, sz_le (by rw [str_len, str_len]; exact hl), ?_⟩
      rw [str_app]
      exact post μ H _ Nx.refl rel (.str _)
    · cases eq
  · obtain ⟨p, xs, rfl, hp, rp⟩ := rd.tup_inv
    obtain ⟨q, ys, rfl, hq, rq⟩ := re.tup_inv
    split at eq
    · rename_i hl
      cases eq
      refine op_catA pins s σ H _ _ v u Q I rx ry ⟨p, q, xs, ys, rfl, rfl, by rw [hK]; exact hp, by rw [hK]; exact hq, sz_le (by rw [← rp.length, ← rq.length]; exact hl), fun e1 => ?_, fun _ e2 => ?_, fun _ _ z hz => ?_⟩
      · subst e1
        cases rp
        exact post μ H _ Nx.refl rel (.tup hq rq)
      · subst e2
        cases rq
        exact post μ H _ Nx.refl rel (by rw [List.append_nil]; exact .tup hp rp)
      · exact post μ _ _ (Nx.updN hz) (rel.aux hz) (.newTup hz (rp.append rq))
    · cases eq
  · obtain ⟨p, ep, rfl⟩ := rd.ref_inv
    obtain ⟨q, eqq, rfl⟩ := re.ref_inv
    split at eq
    · rename_i e1 e2
      split at eq
      · rename_i hl
        cases eq
        obtain ⟨xs, rxs, hx⟩ := rel.lstW e1 ep
        obtain ⟨ys, rys, hy⟩ := rel.lstW e2 eqq
        refine op_cat pins s σ H _ _ v u Q I rx ry ⟨p, q, xs, ys, rfl, rfl, hx, hy, sz_le (by rw [← rxs.length, ← rys.length]; exact hl), fun z hz => ?_⟩
        exact post _ _ _ (Nx.push hz) (rel.newL hz (rxs.append rys)) (.ref rel.newAt)
      · cases eq
    · cases eq
  · cases rd; cases re; cases eq
    exact op_sub pins s σ H _ _ v u Q I rx ry ⟨_, _, rfl, rfl, post μ H _ Nx.refl rel (.int _)⟩
  · cases rd; cases re
    split at eq
    · rename_i hc
      cases eq
      exact op_mul pins s σ H _ _ v u Q I rx ry ⟨_, _, rfl, rfl, hc, post μ H _ Nx.refl rel (.int _)⟩
    · cases eq
  · obtain ⟨p, ep, rfl⟩ := rd.ref_inv
    cases re
    split at eq
    · rename_i e1
      split at eq
      · rename_i hl
        cases eq
        obtain ⟨xs, rxs, hx⟩ := rel.lstW e1 ep
        refine op_rep pins s σ H _ _ v u Q I rx ry ⟨p, _, xs, rfl, rfl, hx, by omega, by omega, sz_le (by rw [← rxs.length]; exact hl.2.2), fun z hz => ?_⟩
        exact post _ _ _ (Nx.push hz) (rel.newL hz (rxs.rep _)) (.ref rel.newAt)
      · cases eq
    · cases eq
  · cases rd; cases re
    split at eq
    · rename_i hc
      cases eq
      exact op_fdiv pins s σ H _ _ v u Q I rx ry ⟨_, _, rfl, rfl, hc, post μ H _ Nx.refl rel (.int _)⟩
    · cases eq
  · cases rd; cases re
    split at eq
    · rename_i hc
      cases eq
      exact op_mod pins s σ H _ _ v u Q I rx ry ⟨_, _, rfl, rfl, hc, post μ H _ Nx.refl rel (.int _)⟩
    · cases eq
  · cases rd; cases re
    split at eq
    · rename_i hc
      cases eq
      exact op_pow pins s σ H _ _ v u Q I rx ry ⟨_, _, rfl, rfl, hc, post μ H _ Nx.refl rel (.int _)⟩
    · cases eq
  · cases eq

theorem canLay_str {s : List Nat} (e : (s.all fun c => decide (c < 0x110000)) = true) : PySem.PyData.canLay0 (.str ⟨s.toArray⟩) = true := by
  show PySem.PyData.strOk ⟨s.toArray⟩ = true
  unfold PySem.PyData.strOk
  simpa using e
theorem toPs_dp {g : D → Option PyData} {f : Nat} (hg : ∀ d v p, RD G μ H d v → g d = some p → Dp G.K H v p ∧ p.canLay0 = true ∧ p.depth ≤ f) :
    ∀ (ds : List D) (vs : List V) (ps : List PyData), RDs G μ H ds vs → ds.mapM g = some ps → DpAll G.K H vs ps ∧ PyData.canLayAll0 ps = true ∧ PyData.depthAll ps ≤ f
  | [], vs, ps, r, e => by
    cases r
    simp at e
    subst e
    exact ⟨.nil, rfl, Nat.zero_le _⟩
  | d :: ds, vs, ps, r, e => by
    cases r with
    | cons rd r =>
      simp only [List.mapM_cons, Option.pure_def, Option.bind_eq_bind, Option.bind_eq_some_iff, Option.some.injEq] at e
      obtain ⟨p, e1, qs, e2, rfl⟩ := e
      obtain ⟨h1, h2, h3⟩ := hg _ _ _ rd e1
      obtain ⟨k1, k2, k3⟩ := toPs_dp hg ds _ qs r e2
      refine ⟨.cons h1 k1, by simp [PyData.canLayAll0, h2, k2], ?_⟩
      simp only [PyData.depthAll]
      omega
theorem toP_dp (rel : Rel G μ H h) : ∀ (f : Nat) (d : D) (v : V) (p : PyData), RD G μ H d v → toP h f d = some p → Dp G.K H v p ∧ p.canLay0 = true ∧ p.depth ≤ f
  | f, .non, v, p, r, e => by
    cases r
    simp [toP] at e; subst e; exact ⟨.non, rfl, Nat.zero_le _⟩
  | f, .bl b, v, p, r, e => by
    cases r
    simp [toP] at e; subst e; exact ⟨.bl b, rfl, Nat.zero_le _⟩
  | f, .int i, v, p, r, e => by
    cases r
    simp [toP] at e; subst e; exact ⟨.int i, rfl, Nat.zero_le _⟩
  | f, .str s, v, p, r, e => by
    cases r
    unfold toP at e
    split at e
    · rename_i hs
      cases e
      exact ⟨.str _, canLay_str hs, Nat.zero_le _⟩
    · cases e
  | 0, .tup xs, v, p, r, e => by simp [toP] at e
  | f + 1, .tup xs, v, p, r, e => by
    obtain ⟨a, vs, rfl, hs, rs⟩ := r.tup_inv
    simp only [toP, Option.map_eq_some_iff] at e
    obtain ⟨ps, e1, rfl⟩ := e
    obtain ⟨k1, k2, k3⟩ := toPs_dp (toP_dp rel f) xs vs ps rs e1
    exact ⟨.tup hs k1, by simpa [PyData.canLay0] using k2, by simpa [PyData.depth] using k3⟩
  | 0, .ref n, v, p, r, e => by simp [toP] at e
  | f + 1, .ref n, v, p, r, e => by
    obtain ⟨a, ea, rfl⟩ := r.ref_inv
    simp only [toP] at e
    split at e
    · rename_i xs fz e0
      simp only [Option.map_eq_some_iff] at e
      obtain ⟨ps, e1, rfl⟩ := e
      obtain ⟨vs, rs, hs⟩ := rel.lst e0 ea
      obtain ⟨k1, k2, k3⟩ := toPs_dp (toP_dp rel f) xs vs ps rs e1
      exact ⟨.lst hs k1, by simpa [PyData.canLay0] using k2, by simpa [PyData.depth] using k3⟩
    · cases e
  | f, .fn g, v, p, r, e => by cases f <;> simp [toP] at e
theorem toP_shaped (rel : Rel G μ H h) {d : D} {v : V} {p : PyData} (r : RD G μ H d v) (e : toP h deepest d = some p) : Dp G.K H v p ∧ SeqAt.shaped p = true := by
  obtain ⟨h1, h2, h3⟩ := toP_dp rel _ d v p r e
  refine ⟨h1, ?_⟩
  unfold SeqAt.shaped
  rw [h2, Bool.true_and]
  exact decide_eq_true (Nat.le_trans h3 (by decide))
/-- == by values: two scalars, or data -/
theorem eqD_ok (hK : X.K = G.K) (hu : X.A.units + 64 < cLine) {pins : List (Addr × Obj)} {s : Shared} {σ : St} {H : Hp} {x y : V} {v u : Value} {Q : VK} {d e : D} {c : Bool} (neg : Bool) (I : Inv X pins σ H s) (rx : RelV x v) (ry : RelV y u)
    (rd : RD G μ H d x) (re : RD G μ H e y) (rel : Rel G μ H h) (eq : eqD h d e = some c) (q : Q (.bl (if neg then !c else c)) H) :
    wpAny (model X.prog X.w) X.A (compareOp (if neg then .NotEq else .Eq) v u) (EP X pins σ Q) X.xe s := by
  have scalar : scal x y = true → c = decide (x = y) → wpAny (model X.prog X.w) X.A (compareOp (if neg then .NotEq else .Eq) v u) (EP X pins σ Q) X.xe s := by
    intro hs hc
    subst hc
    cases neg with
    | true => exact op_ne pins s σ H x y v u Q I rx ry ⟨hs, q⟩
    | false => exact op_eq pins s σ H x y v u Q I rx ry ⟨hs, q⟩
  have deep : ∀ p r, toP h deepest d = some p → toP h deepest e = some r → c = PyData.eqv p r → wpAny (model X.prog X.w) X.A (compareOp (if neg then .NotEq else .Eq) v u) (EP X pins σ Q) X.xe s := by
    intro p r e1 e2 hc
    subst hc
    obtain ⟨d1, s1⟩ := toP_shaped rel rd e1
    obtain ⟨d2, s2⟩ := toP_shaped rel re e2
    rw [← hK] at d1 d2
    cases neg with
    | true => exact op_neD hu pins s σ H x y v u Q I rx ry ⟨p, r, d1, d2, s1, s2, q⟩
    | false => exact op_eqD hu pins s σ H x y v u Q I rx ry ⟨p, r, d1, d2, s1, s2, q⟩
  unfold eqD at eq
  split at eq
  · cases rd; cases re; cases eq
    exact scalar rfl (by simp)
  · cases rd; cases re; cases eq
    refine scalar rfl ?_
    rename_i a b
    rw [decide_eq_decide]
    constructor
    · rintro rfl; rfl
    · intro z
      simp only [V.str.injEq, Str.mk.injEq] at z
      simpa using z
  · cases rd; cases re; cases eq
    exact scalar rfl (by simp)
  · cases rd; cases re; cases eq
    exact scalar rfl (by simp)
  iterate 10 (· cases rd; cases re; cases eq; exact scalar rfl (by simp))
  · split at eq
    · rename_i e1 e2
      cases eq
      exact deep _ _ e1 e2 rfl
    · cases eq

theorem RD.flat {d : D} {v : V} (r : RD G μ H d v) (f : flatD d = true) : flatV v = true := by
  cases r <;> first | rfl | cases f
theorem RDs.flat : ∀ {ds : List D} {vs : List V}, RDs G μ H ds vs → ds.all flatD = true → vs.all flatV = true
  | _, _, .nil, _ => rfl
  | _, _, .cons r rs, f => by
    simp only [List.all_cons, Bool.and_eq_true] at f ⊢
    exact ⟨r.flat f.1, rs.flat f.2⟩
theorem eqF_ok {d e : D} {v u : V} (r : RD G μ H d v) (q : RD G μ H e u) (f : flatD d = true) (g : flatD e = true) : eqV v u = eqF d e := by
  cases r with
  | str a =>
    cases q with
    | str b =>
      show ((⟨a.toArray⟩ : Str) == ⟨b.toArray⟩) = (a == b)
      by_cases h : a = b
      · subst h; simp
      · have : (⟨a.toArray⟩ : Str) ≠ ⟨b.toArray⟩ := fun z => h (by simpa using z)
        rw [beq_eq_false_iff_ne.mpr this, beq_eq_false_iff_ne.mpr h]
    | _ => first | rfl | cases g
  | _ => first | (cases f; done) | (cases q <;> first | rfl | cases g)
theorem inV_ok {x : D} {w : V} (r : RD G μ H x w) (f : flatD x = true) : ∀ {ds : List D} {vs : List V}, RDs G μ H ds vs → ds.all flatD = true → inV w vs = ds.any fun y => eqF y x
  | _, _, .nil, _ => rfl
  | _, _, .cons q qs, g => by
    simp only [List.all_cons, Bool.and_eq_true] at g
    have ih := inV_ok r f qs g.2
    unfold inV at ih ⊢
    simp only [List.any_cons]
    rw [ih, eqF_ok q r g.1 f]
theorem inD_ok (hK : X.K = G.K) (hu : X.A.units + 65 < cLine) {pins : List (Addr × Obj)} {s : Shared} {σ : St} {H : Hp} {x y : V} {v u : Value} {Q : VK} {d e : D} {c : Bool} (neg : Bool) (I : Inv X pins σ H s) (rx : RelV x v) (ry : RelV y u)
    (rd : RD G μ H d x) (re : RD G μ H e y) (rel : Rel G μ H h) (eq : inD d e h = some c) (q : Q (.bl (if neg then !c else c)) H) :
    wpAny (model X.prog X.w) X.A (compareOp (if neg then .NotIn else .In) v u) (EP X pins σ Q) X.xe s := by
  unfold inD at eq
  split at eq
  · cases re
    split at eq
    · rename_i cc
      cases rd
      cases eq
      cases neg with
      | true => exact op_notIn_sign pins s σ H _ _ v u Q I rx ry ⟨cc, _, rfl, rfl, by simpa using q⟩
      | false => exact op_in_sign pins s σ H _ _ v u Q I rx ry ⟨cc, _, rfl, rfl, by simpa using q⟩
    · cases eq
  · obtain ⟨a, vs, rfl, hs, rs⟩ := re.tup_inv
    unfold inT at eq
    split at eq
    · rename_i hf
      rw [Bool.and_eq_true] at hf
      cases eq
      rw [← inV_ok rd hf.1 rs hf.2] at q
      cases neg with
      | true => exact op_notIn_seq pins s σ H _ _ v u Q I rx ry ⟨a, vs, rfl, .inr (by rw [hK]; exact hs), rd.flat hf.1, rs.flat hf.2, q⟩
      | false => exact op_in_seq pins s σ H _ _ v u Q I rx ry ⟨a, vs, rfl, .inr (by rw [hK]; exact hs), rd.flat hf.1, rs.flat hf.2, q⟩
    · cases eq
  · obtain ⟨a, ea, rfl⟩ := re.ref_inv
    split at eq
    · rename_i n xs fz e0
      unfold inL at eq
      split at eq
      · rename_i p qs e1 e2
        cases eq
        obtain ⟨d1, s1⟩ := toP_shaped rel rd e1
        obtain ⟨d2, s2⟩ := toP_shaped (p := .list qs) rel re (by
          show toP h (23 + 1) (.ref _) = _
          simp only [toP, e0]
          rw [show deepest - 1 = 23 from rfl] at e2
          rw [e2]; rfl)
        rw [← hK] at d1 d2
        cases neg with
        | true => exact op_notInD hu pins s σ H _ _ v u Q I rx ry ⟨p, qs, d1, d2, s1, s2, q⟩
        | false => exact op_inD hu pins s σ H _ _ v u Q I rx ry ⟨p, qs, d1, d2, s1, s2, q⟩
      · cases eq
    · rename_i kvs e0
      split at eq
      · rename_i hk
        cases eq
        obtain ⟨ky, ek⟩ := isKey_of hk
        obtain rfl := key_of ek rd
        obtain ⟨qs, rk, hq⟩ := rel.dct e0 ea
        obtain rfl : u = Value.ref a := ry
        have hi : (look kvs d).isSome = (valV qs ky).isSome := by
          rcases rk.val ek with ⟨z1, z2⟩ | ⟨d', v', z1, z2, _⟩ <;> rw [z1, z2] <;> rfl
        rw [hi] at q
        cases neg with
        | true => exact d_notIn (by omega) I (DGet.k hq) rx fun s' I' => ⟨.bl _, H, I', rfl, q⟩
        | false => exact d_in (by omega) I (DGet.k hq) rx fun s' I' => ⟨.bl _, H, I', rfl, q⟩
      · cases eq
    · cases eq
  · cases eq
theorem lexLt_eq : ∀ xs ys : List Int, HT.lexLt xs ys = lexLt xs ys
  | [], [] => rfl
  | [], _ :: _ => rfl
  | _ :: _, [] => rfl
  | x :: xs, y :: ys => by
    unfold HT.lexLt lexLt
    rw [lexLt_eq xs ys]
theorem beq_dec (a b : Int) : (a == b) = decide (a = b) := by
  by_cases q : a = b
  · rw [beq_iff_eq.mpr q, decide_eq_true q]
  · rw [beq_eq_false_iff_ne.mpr q, decide_eq_false q]
theorem lex_shift {e r : Nat → Bool} {z : Bool} : ∀ (k i : Nat), Ob.lexAt (fun j => e (j + 1)) (fun j => r (j + 1)) z i k = Ob.lexAt e r z (i + 1) k
  | 0, _ => rfl
  | k + 1, i => by rw [Ob.lexAt_succ, Ob.lexAt_succ, lex_shift k (i + 1)]
theorem lex_gt : ∀ (ns ms : List Int), Ob.lexAt (fun j => decide (ns.getD j 0 = ms.getD j 0)) (fun j => decide (ms.getD j 0 < ns.getD j 0)) (decide (ns.length > ms.length)) 0 (min ns.length ms.length) = lexLt ms ns
  | [], [] => rfl
  | [], _ :: _ => rfl
  | n :: ns, [] => by simp [Ob.lexAt, lexLt]
  | n :: ns, m :: ms => by
    have hm : min (n :: ns).length (m :: ms).length = min ns.length ms.length + 1 := by simp only [List.length_cons]; omega
    rw [hm, Ob.lexAt_succ, ← lex_shift, lexLt]
    have ih := lex_gt ns ms
    simp only [List.getD_cons_zero, List.getD_cons_succ, List.length_cons, gt_iff_lt, Nat.add_lt_add_iff_right] at ih ⊢
    by_cases q : n = m
    · subst q; simpa using ih
    · have q' : ¬ m = n := fun z => q z.symm
      simp [q, q']
/-- > of two tuples of ints -/
theorem gt_tups {Y : Cx} (room : Y.A.units < cLine) : OpR Y (compareOp .Gt) (fun x y H Q => ∃ (a b : Addr) (ns ms : List Int), x = .ref a ∧ y = .ref b ∧ SqT Y.K H a (ns.map V.int) ∧ SqT Y.K H b (ms.map V.int) ∧ Q (.bl (lexLt ms ns)) H) := by
  intro pins s σ H x y v u Q I rx ry ⟨a, b, ns, ms, ex, ey, sa, sb, q⟩
  subst ex ey
  cases rx
  cases ry
  obtain ⟨us, ra, ta, _⟩ := I.tuple sa
  obtain ⟨ws, rb, tb, _⟩ := I.tuple sb
  have ia : PyProof.Rows.IntsAre us ns := Vals.ints ra
  have ib : PyProof.Rows.IntsAre ws ms := Vals.ints rb
  have la : us.toArray.size = ns.length := List.size_toArray.trans ia.length
  have lb : ws.toArray.size = ms.length := List.size_toArray.trans ib.length
  have ga : ∀ j (hj : j < us.toArray.size), ∃ t, us.toArray[j] = .int (ns.getD j 0) t := fun j hj => PyProof.Rows.IntsAre.int_at ia _ _ (by simp at hj; simp [hj])
  have gb : ∀ j (hj : j < ws.toArray.size), ∃ t, ws.toArray[j] = .int (ms.getD j 0) t := fun j hj => PyProof.Rows.IntsAre.int_at ib _ _ (by simp at hj; simp [hj])
  have all := Ob.RcOp.tuples_gt (A := Y.A) (s := s) (e := fun j => decide (ns.getD j 0 = ms.getD j 0)) (r := fun j => decide (ms.getD j 0 < ns.getD j 0)) ta tb room
    (fun j ha hb => by
      obtain ⟨t, e1⟩ := ga j ha
      obtain ⟨t', e2⟩ := gb j hb
      have same : decide (ns.getD j 0 = ms.getD j 0) = (ns.getD j 0 == ms.getD j 0) := (beq_dec _ _).symm
      rw [e1, e2, same]
      exact SeqAt.EqAt.int_int _ _ _ _)
    (fun j ha hb _ => by
      obtain ⟨t, e1⟩ := ga j ha
      obtain ⟨t', e2⟩ := gb j hb
      rw [e1, e2]
      exact Ob.RcOp.gt_int _ _ _ _)
  rw [la, lb, lex_gt] at all
  exact all Y.prog Y.w Y.xe (EP Y pins σ Q) ⟨.bl _, H, I, rfl, q⟩
theorem isB_ok {d : D} {x : V} {v : Value} {b : Bool} (rd : RD G μ H d x) (rx : RelV x v) : plainIs v (.bool b) = true ∧ (v == Value.bool b) = isB b d := by
  cases rd with
  | non => cases (show v = Value.none from rx); exact ⟨rfl, rfl⟩
  | bl a =>
    cases (show v = Value.bool a from rx)
    refine ⟨rfl, ?_⟩
    cases a <;> cases b <;> rfl
  | int i => obtain ⟨t, rfl⟩ := rx; exact ⟨rfl, rfl⟩
  | str s => obtain ⟨t, rfl⟩ := rx; exact ⟨rfl, rfl⟩
  | tup _ _ => obtain rfl : v = Value.ref _ := rx; exact ⟨rfl, rfl⟩
  | ref _ => obtain rfl : v = Value.ref _ := rx; exact ⟨rfl, rfl⟩
  | fn f => obtain rfl : v = Value.ref _ := rx; exact ⟨rfl, rfl⟩
theorem op_cmpD (hK : X.K = G.K) (hu : X.A.units + 65 < cLine) (op : CO) : OpR X (compareOp (opC op)) (rD2 G (cmpD op)) := by
  intro pins s σ H x y v u Q I rx ry ⟨μ, h, d, e, rd, re, rel, a, h', eq, post⟩
  have ob1 : ∀ {o : Option Bool} {g : Bool → Bool}, (ob o fun c => some (D.bl (g c), h)) = some (a, h') → ∃ c, o = some c ∧ a = .bl (g c) ∧ h' = h := by
    intro o g z
    cases o with
    | none => cases z
    | some c => cases z; exact ⟨c, rfl, rfl, rfl⟩
  unfold cmpD at eq
  split at eq
  · obtain ⟨c, e1, rfl, rfl⟩ := ob1 (g := fun c => c) eq
    exact eqD_ok hK (by omega) false I rx ry rd re rel e1 (post μ H _ Nx.refl rel (.bl _))
  · obtain ⟨c, e1, rfl, rfl⟩ := ob1 (g := fun c => !c) eq
    exact eqD_ok hK (by omega) true I rx ry rd re rel e1 (post μ H _ Nx.refl rel (.bl _))
  · cases rd; cases re; cases eq
    exact op_lt pins s σ H _ _ v u Q I rx ry ⟨_, _, rfl, rfl, post μ H _ Nx.refl rel (.bl _)⟩
  · cases rd; cases re; cases eq
    exact op_le pins s σ H _ _ v u Q I rx ry ⟨_, _, rfl, rfl, post μ H _ Nx.refl rel (.bl _)⟩
  · cases rd; cases re; cases eq
    exact op_gt pins s σ H _ _ v u Q I rx ry ⟨_, _, rfl, rfl, post μ H _ Nx.refl rel (.bl _)⟩
  · cases rd; cases re; cases eq
    exact op_ge pins s σ H _ _ v u Q I rx ry ⟨_, _, rfl, rfl, post μ H _ Nx.refl rel (.bl _)⟩
  · cases rd; cases re; cases eq
    exact op_lt_str pins s σ H _ _ v u Q I rx ry ⟨_, _, rfl, rfl, by simpa using post μ H _ Nx.refl rel (.bl _)⟩
  · cases rd; cases re; cases eq
    exact op_le_str pins s σ H _ _ v u Q I rx ry ⟨_, _, rfl, rfl, by simpa using post μ H _ Nx.refl rel (.bl _)⟩
  · cases rd; cases re; cases eq
    exact op_gt_str pins s σ H _ _ v u Q I rx ry ⟨_, _, rfl, rfl, by simpa using post μ H _ Nx.refl rel (.bl _)⟩
  · cases rd; cases re; cases eq
    exact op_ge_str pins s σ H _ _ v u Q I rx ry ⟨_, _, rfl, rfl, by simpa using post μ H _ Nx.refl rel (.bl _)⟩
  · obtain ⟨p, xs, rfl, hp, rp⟩ := rd.tup_inv
    obtain ⟨q, ys, rfl, hq, rq⟩ := re.tup_inv
    split at eq
    · rename_i e1 e2
      cases eq
      have z1 := rp.ofInts e1
      have z2 := rq.ofInts e2
      subst z1 z2
      refine op_ltT (by omega) pins s σ H _ _ v u Q I rx ry ⟨p, q, _, _, rfl, rfl, by rw [hK]; exact hp, by rw [hK]; exact hq, ?_⟩
      rw [lexLt_eq]
      exact post μ H _ Nx.refl rel (.bl _)
    · cases eq
  · obtain ⟨p, xs, rfl, hp, rp⟩ := rd.tup_inv
    obtain ⟨q, ys, rfl, hq, rq⟩ := re.tup_inv
    split at eq
    · rename_i e1 e2
      cases eq
      have z1 := rp.ofInts e1
      have z2 := rq.ofInts e2
      subst z1 z2
      refine gt_tups (by omega) pins s σ H _ _ v u Q I rx ry ⟨p, q, _, _, rfl, rfl, by rw [hK]; exact hp, by rw [hK]; exact hq, ?_⟩
      exact post μ H _ Nx.refl rel (.bl _)
    · cases eq
  · cases rd; cases re; cases eq
    exact op_is_bl pins s σ H _ _ v u Q I rx ry ⟨_, _, rfl, rfl, post μ H _ Nx.refl rel (.bl _)⟩
  · cases rd; cases re; cases eq
    exact op_isnot_bl pins s σ H _ _ v u Q I rx ry ⟨_, _, rfl, rfl, post μ H _ Nx.refl rel (.bl _)⟩
  · cases re; cases eq
    obtain ⟨h1, h2⟩ := isB_ok (b := _) rd rx
    obtain rfl : u = Value.bool _ := ry
    exact wpAny_is_plain h1 (by rw [h2]; exact ⟨.bl _, H, I, rfl, post μ H _ Nx.refl rel (.bl _)⟩)
  · cases re; cases eq
    obtain ⟨h1, h2⟩ := isB_ok (b := _) rd rx
    obtain rfl : u = Value.bool _ := ry
    exact wpAny_isNot_plain h1 (by rw [h2]; exact ⟨.bl _, H, I, rfl, post μ H _ Nx.refl rel (.bl _)⟩)
  · cases re; cases eq
    refine op_isN pins s σ H _ _ v u Q I rx ry ⟨rfl, ?_⟩
    have : decide (x = V.non) = isNon d := by cases rd <;> rfl
    rw [this]
    exact post μ H _ Nx.refl rel (.bl _)
  · cases re; cases eq
    refine op_notN pins s σ H _ _ v u Q I rx ry ⟨rfl, ?_⟩
    have : (!decide (x = V.non)) = !isNon d := by cases rd <;> rfl
    rw [this]
    exact post μ H _ Nx.refl rel (.bl _)
  · obtain ⟨c, e1, rfl, rfl⟩ := ob1 (g := fun c => c) eq
    exact inD_ok hK hu false I rx ry rd re rel e1 (post μ H _ Nx.refl rel (.bl _))
  · obtain ⟨c, e1, rfl, rfl⟩ := ob1 (g := fun c => !c) eq
    exact inD_ok hK hu true I rx ry rd re rel e1 (post μ H _ Nx.refl rel (.bl _))
  · cases eq

theorem ix_eq (n : Nat) (i : Int) : ixN n i = ix n i := rfl
theorem cutIx_eq (n d : Nat) (o : Option Int) : HT.sIx n d o = cutIx n d o := by
  cases o with
  | none => rfl
  | some i =>
    show (if i < 0 then (i + (n : Int)).toNat else min i.toNat n) = (if 0 ≤ i then min i.toNat n else (i + n).toNat)
    by_cases h : 0 ≤ i
    · rw [if_pos h, if_neg (by omega)]
    · rw [if_neg h, if_pos (by omega)]
theorem RDs.cut {ds : List D} {vs : List V} (r : RDs G μ H ds vs) (lo hi : Option Int) : RDs G μ H (cut ds lo hi) (cutV vs lo hi) := by
  unfold Py.cut cutV
  rw [cutIx_eq, cutIx_eq, ← r.length]
  exact (r.drop _).take _
theorem ob_some {α : Type} {o : Option α} {k : α → VR} {z : D × Hh} (e : ob o k = some z) : ∃ a, o = some a ∧ k a = some z := by
  cases o with
  | none => cases e
  | some a => exact ⟨a, rfl, e⟩
theorem ix_ixD (hK : X.K = G.K) (hu : X.A.units + 65 < cLine) : IxR X (rD2 G ixD) := by
  intro value slice pins s σ H x y v u Q I rx ry ⟨μ, h, d, e, rd, re, rel, a, h', eq, post⟩ hsl
  unfold ixD at eq
  split at eq
  · obtain ⟨p, xs, rfl, hp, rp⟩ := rd.tup_inv
    cases re
    obtain ⟨z, e1, e2⟩ := ob_some eq
    cases e2
    rw [rp.length] at e1
    obtain ⟨j, ej, e3⟩ := Option.bind_eq_some_iff.mp e1
    obtain ⟨w, hw, rw'⟩ := rp.get e3
    exact ix_tup value slice pins s σ H _ _ v u Q I rx ry ⟨p, xs, _, w, rfl, rfl, by rw [hK]; exact hp, by unfold atI; rw [ix_eq, ej]; exact hw, post μ H _ Nx.refl rel rw'⟩ hsl
  · cases rd; cases re
    split at eq
    · rename_i hl
      obtain ⟨c, e1, e2⟩ := ob_some eq
      cases e2
      exact ix_str value slice pins s σ H _ _ v u Q I rx ry ⟨_, _, c, rfl, rfl, sz_le (by rw [str_len]; exact hl), by unfold atI; simpa [ix_eq] using e1, post μ H _ Nx.refl rel (.str _)⟩ hsl
    · cases eq
  · obtain ⟨p, ep, rfl⟩ := rd.ref_inv
    split at eq
    · rename_i e0
      split at eq
      · cases re
        obtain ⟨z, e1, e2⟩ := ob_some eq
        cases e2
        obtain ⟨xs, rxs, hx⟩ := rel.lst e0 ep
        rw [rxs.length] at e1
        obtain ⟨j, ej, e3⟩ := Option.bind_eq_some_iff.mp e1
        obtain ⟨w, hw, rw'⟩ := rxs.get e3
        exact ix_list value slice pins s σ H _ _ v u Q I rx ry ⟨p, xs, _, w, rfl, rfl, by rw [hK]; exact hx, by unfold atI; rw [ix_eq, ej]; exact hw, post μ H _ Nx.refl rel rw'⟩ hsl
      · cases eq
    · rename_i kvs e0
      split at eq
      · rename_i hk
        obtain ⟨z, e1, e2⟩ := ob_some eq
        cases e2
        obtain ⟨ky, ek⟩ := isKey_of hk
        obtain rfl := key_of ek re
        obtain ⟨qs, rk, hq⟩ := rel.dct e0 ep
        obtain rfl : v = Value.ref p := rx
        rcases rk.val ek with ⟨z1, z2⟩ | ⟨d', v', z1, z2, rd'⟩
        · rw [z1] at e1; cases e1
        · rw [z1] at e1; cases e1
          have g := DGet.k (k := ky) hq
          rw [z2] at g
          exact PyProof.Rows.tail_any (dict_typeIs I g) PySem.F.slot_dict_getitem.lookup (d_getItem (by omega) I g ry fun w' s' I' r' => ⟨v', H, I', r', post μ H _ Nx.refl rel rd'⟩) hsl
      · cases eq
    · cases eq
  · cases eq
def rSlD (G : Cfg) : V → Option Int → Option Int → Hp → VK → Prop := fun x lo hi H Q => ∃ μ h d, RD G μ H d x ∧ Rel G μ H h ∧ PostV G (RD G) Q μ H (slD d lo hi h)
theorem sl_slD (hK : X.K = G.K) : SlR X (rSlD G) := by
  intro pins s σ H x v vl vu lo hi sl Q I rx hs pl pu ⟨μ, h, d, rd, rel, a, h', eq, post⟩
  unfold slD at eq
  split at eq
  · obtain ⟨p, xs, rfl, hp, rp⟩ := rd.tup_inv
    cases eq
    refine sl_tupA pins s σ H _ v vl vu lo hi sl Q I rx hs pl pu ⟨p, xs, rfl, by rw [hK]; exact hp, fun hw => ?_, fun hw z hz => ?_⟩
    · refine post μ H _ Nx.refl rel (.tup hp ?_)
      have h2 := rp.cut lo hi
      unfold cutV at h2
      rw [hw.1, hw.2] at h2
      simpa using h2
    · exact post μ _ _ (Nx.updN hz) (rel.aux hz) (.newTup hz (rp.cut lo hi))
  · cases rd
    split at eq
    · rename_i hl
      cases eq
      refine sl_str pins s σ H _ v vl vu lo hi sl Q I rx hs pl pu ⟨_, rfl, sz_le (by rw [str_len]; exact hl), ?_⟩
      have e : ∀ ss : List Nat, cutS ⟨ss.toArray⟩ lo hi = ⟨(cut ss lo hi).toArray⟩ := fun ss => by
        unfold cutS Py.cut
        simp [str_len, cutIx_eq]
      rw [e]
      exact post μ H _ Nx.refl rel (.str _)
    · cases eq
  · obtain ⟨p, ep, rfl⟩ := rd.ref_inv
    split at eq
    · rename_i e0
      cases eq
      obtain ⟨xs, rxs, hx⟩ := rel.lst e0 ep
      refine sl_list pins s σ H _ v vl vu lo hi sl Q I rx hs pl pu ⟨p, xs, rfl, by rw [hK]; exact hx, fun z hz => ?_⟩
      exact post _ _ _ (Nx.push hz) (rel.newL hz (rxs.cut lo hi)) (.ref rel.newAt)
    · cases eq
  · cases eq

theorem tru_tru (hK : X.K = G.K) {d : D} {v : V} {b : Bool} (rel : Rel G μ H h) (rd : RD G μ H d v) (e : tru h d = some b) : TruV X.K v H b := by
  cases rd with
  | non => cases e; exact rfl
  | bl c => cases e; exact rfl
  | int i => cases e; exact rfl
  | str s =>
    simp only [tru] at e
    split at e
    case isFalse => cases e
    rename_i hz
    cases e
    refine ⟨sz_le (by rw [str_len]; exact hz), ?_⟩
    rw [str_len]
    cases s with
    | nil => rfl
    | cons c r =>
      show true = _
      symm
      rw [bne_iff_ne]
      simp only [List.length_cons]
      omega
  | tup hs rs =>
    cases e
    rename_i a xs ds
    refine .inr (.inl ⟨xs, by rw [hK]; exact hs, ?_⟩)
    cases rs <;> rfl
  | ref ea =>
    simp only [tru] at e
    split at e
    · rename_i e0
      cases e
      obtain ⟨xs, rxs, hx⟩ := rel.lst e0 ea
      refine .inl ⟨xs, by rw [hK]; exact hx, ?_⟩
      cases rxs <;> rfl
    · cases e
  | fn f => cases e

def rDs (G : Cfg) (f : List D → Hh → VR) : List V → Hp → VK → Prop := fun xs H Q => ∃ μ h ds, RDs G μ H ds xs ∧ Rel G μ H h ∧ PostV G (RD G) Q μ H (f ds h)
def biV : BI → Value
  | .len => .builtin "len" | .list => .type "list" | .tuple => .type "tuple" | .int => .type "int" | .abs => .builtin "abs"
  | .min => .builtin "min" | .max => .builtin "max" | .sorted => .builtin "sorted" | .all => .builtin "all" | .str => .type "str"
theorem RDs.one {d : D} {vs : List V} (r : RDs G μ H [d] vs) : ∃ v, vs = [v] ∧ RD G μ H d v := by
  cases r with | cons h r => cases r; exact ⟨_, rfl, h⟩
theorem RDs.two {d e : D} {vs : List V} (r : RDs G μ H [d, e] vs) : ∃ v u, vs = [v, u] ∧ RD G μ H d v ∧ RD G μ H e u := by
  cases r with | cons h r => cases r with | cons g r => cases r; exact ⟨_, _, rfl, h, g⟩
theorem seqOf_ok {d : D} {v : V} {xs : List D} (rel : Rel G μ H h) (rd : RD G μ H d v) (e : seqOf h d = some xs) : ∃ p vs, v = .ref p ∧ RDs G μ H xs vs ∧ ((SqL G.K H p vs ∧ ∃ n, d = .ref n) ∨ (SqT G.K H p vs ∧ d = .tup xs)) := by
  unfold seqOf at e
  split at e
  · obtain ⟨p, vs, rfl, hp, rp⟩ := rd.tup_inv
    cases e
    exact ⟨p, vs, rfl, rp, .inr ⟨hp, rfl⟩⟩
  · obtain ⟨p, ep, rfl⟩ := rd.ref_inv
    split at e
    · rename_i e0
      cases e
      obtain ⟨vs, rs, hs⟩ := rel.lst e0 ep
      exact ⟨p, vs, rfl, rs, .inl ⟨hs, _, rfl⟩⟩
    · cases e
  · cases e
theorem foldl_min (xs : List Int) : ∀ x, (xs.foldl (fun a b => if b < a then b else a) x) ∈ x :: xs ∧ ∀ y ∈ x :: xs, (xs.foldl (fun a b => if b < a then b else a) x) ≤ y := by
  induction xs with
  | nil => intro x; simp
  | cons z zs ih =>
    intro x
    simp only [List.foldl_cons]
    obtain ⟨h1, h2⟩ := ih (if z < x then z else x)
    by_cases hz : z < x
    · rw [if_pos hz] at h1 h2 ⊢
      refine ⟨List.mem_cons_of_mem _ h1, fun y hy => ?_⟩
      rcases List.mem_cons.mp hy with rfl | hy
      · exact Int.le_of_lt (Int.lt_of_le_of_lt (h2 z List.mem_cons_self) hz)
      · exact h2 y hy
    · rw [if_neg hz] at h1 h2 ⊢
      refine ⟨?_, fun y hy => ?_⟩
      · rcases List.mem_cons.mp h1 with h | h
        · rw [h]; exact List.mem_cons_self
        · exact List.mem_cons_of_mem _ (List.mem_cons_of_mem _ h)
      · rcases List.mem_cons.mp hy with rfl | hy
        · exact h2 y List.mem_cons_self
        · rcases List.mem_cons.mp hy with rfl | hy
          · exact Int.le_trans (h2 x List.mem_cons_self) (by omega)
          · exact h2 y (List.mem_cons_of_mem _ hy)
theorem foldl_max (xs : List Int) : ∀ x, (xs.foldl (fun a b => if b > a then b else a) x) ∈ x :: xs ∧ ∀ y ∈ x :: xs, y ≤ (xs.foldl (fun a b => if b > a then b else a) x) := by
  induction xs with
  | nil => intro x; simp
  | cons z zs ih =>
    intro x
    simp only [List.foldl_cons]
    obtain ⟨h1, h2⟩ := ih (if z > x then z else x)
    by_cases hz : z > x
    · rw [if_pos hz] at h1 h2 ⊢
      refine ⟨List.mem_cons_of_mem _ h1, fun y hy => ?_⟩
      rcases List.mem_cons.mp hy with rfl | hy
      · exact Int.le_of_lt (Int.lt_of_lt_of_le hz (h2 z List.mem_cons_self))
      · exact h2 y hy
    · rw [if_neg hz] at h1 h2 ⊢
      refine ⟨?_, fun y hy => ?_⟩
      · rcases List.mem_cons.mp h1 with h | h
        · rw [h]; exact List.mem_cons_self
        · exact List.mem_cons_of_mem _ (List.mem_cons_of_mem _ h)
      · rcases List.mem_cons.mp hy with rfl | hy
        · exact h2 y List.mem_cons_self
        · rcases List.mem_cons.mp hy with rfl | hy
          · exact Int.le_trans (by omega) (h2 x List.mem_cons_self)
          · exact h2 y (List.mem_cons_of_mem _ hy)
theorem minL_ok {ns : List Int} {m : Int} (e : minL ns = some m) : 0 < ns.length ∧ m ∈ ns ∧ ∀ y ∈ ns, m ≤ y := by
  cases ns with
  | nil => cases e
  | cons x xs => cases e; exact ⟨by simp, foldl_min xs x⟩
theorem maxL_ok {ns : List Int} {m : Int} (e : maxL ns = some m) : 0 < ns.length ∧ m ∈ ns ∧ ∀ y ∈ ns, y ≤ m := by
  cases ns with
  | nil => cases e
  | cons x xs => cases e; exact ⟨by simp, foldl_max xs x⟩
theorem insI_perm (x : Int) : ∀ ys : List Int, (insI x ys).Perm (x :: ys)
  | [] => List.Perm.refl _
  | y :: ys => by
    unfold insI
    split
    · exact List.Perm.refl _
    · exact ((insI_perm x ys).cons y).trans (List.Perm.swap x y ys)
theorem sortI_perm : ∀ xs : List Int, (sortI xs).Perm xs
  | [] => List.Perm.refl _
  | x :: xs => (insI_perm x _).trans ((sortI_perm xs).cons x)
theorem insI_sorted (x : Int) : ∀ ys : List Int, ys.Pairwise (· ≤ ·) → (insI x ys).Pairwise (· ≤ ·)
  | [], _ => by simp [insI]
  | y :: ys, h => by
    unfold insI
    have hy := (List.pairwise_cons.mp h)
    split
    · rename_i hxy
      refine List.pairwise_cons.mpr ⟨fun z hz => ?_, h⟩
      rcases List.mem_cons.mp hz with rfl | hz
      · exact hxy
      · exact Int.le_trans hxy (hy.1 z hz)
    · rename_i hxy
      refine List.pairwise_cons.mpr ⟨fun z hz => ?_, insI_sorted x ys hy.2⟩
      rcases List.mem_cons.mp ((insI_perm x ys).mem_iff.mp hz) with rfl | hz
      · omega
      · exact hy.1 z hz
theorem sortI_sorted : ∀ xs : List Int, (sortI xs).Pairwise (· ≤ ·)
  | [] => by simp [sortI]
  | x :: xs => insI_sorted x _ (sortI_sorted xs)
theorem sorted_one {xs ys : List Int} (p : xs.Perm ys) (h1 : xs.Pairwise (· ≤ ·)) (h2 : ys.Pairwise (· ≤ ·)) : xs = ys :=
  p.eq_of_pairwise (fun a b _ _ h k => Int.le_antisymm h k) h1 h2
theorem call_biD (hK : X.K = G.K) (hc : X.calm = true) (b : BI) : CallR X (biV b) (rDs G (biD b)) := by
  intro pins s σ H xs us Q I rv ⟨μ, h, ds, rds, rel, a, h', eq, post⟩
  unfold biD at eq
  split at eq
  · -- len str
    obtain ⟨v, rfl, rd⟩ := rds.one
    cases rd
    split at eq
    · rename_i hl
      cases eq
      refine call_len_str pins s σ H _ us Q I rv ⟨_, rfl, sz_le (by rw [str_len]; exact hl), ?_⟩
      rw [str_len]
      exact post μ H _ Nx.refl rel (.int _)
    · cases eq
  · obtain ⟨v, rfl, rd⟩ := rds.one
    obtain ⟨p, vs, rfl, hp, rp⟩ := rd.tup_inv
    cases eq
    refine call_len_seq pins s σ H _ us Q I rv ⟨p, vs, rfl, .inr (by rw [hK]; exact hp), ?_⟩
    rw [← rp.length]
    exact post μ H _ Nx.refl rel (.int _)
  · obtain ⟨v, rfl, rd⟩ := rds.one
    obtain ⟨p, ep, rfl⟩ := rd.ref_inv
    split at eq
    · rename_i e0
      cases eq
      obtain ⟨vs, rs, hs⟩ := rel.lst e0 ep
      refine call_len_seq pins s σ H _ us Q I rv ⟨p, vs, rfl, .inl (by rw [hK]; exact hs), ?_⟩
      rw [← rs.length]
      exact post μ H _ Nx.refl rel (.int _)
    · cases eq
  · -- list
    obtain ⟨v, rfl, rd⟩ := rds.one
    obtain ⟨ys, e1, e2⟩ := ob_some eq
    cases e2
    obtain ⟨p, vs, rfl, rs, hs⟩ := seqOf_ok rel rd e1
    refine call_list_of pins s σ H _ us Q I rv ⟨p, vs, rfl, ?_, fun z hz => post _ _ _ (Nx.push hz) (rel.newL hz rs) (.ref rel.newAt)⟩
    rw [hK]
    exact hs.imp (fun z => z.1) (fun z => z.1)
  · -- tuple
    obtain ⟨v, rfl, rd⟩ := rds.one
    obtain ⟨ys, e1, e2⟩ := ob_some eq
    cases e2
    obtain ⟨p, vs, rfl, rs, hs⟩ := seqOf_ok rel rd e1
    refine call_tuple_of pins s σ H _ us Q I rv ⟨p, vs, rfl, ?_⟩
    rw [hK]
    rcases hs with ⟨hs, _⟩ | ⟨hs, _⟩
    · exact .inl ⟨hs, fun z hz => post μ _ _ (Nx.updN hz) (rel.aux hz) (.newTup hz rs)⟩
    · exact .inr ⟨hs, post μ H _ Nx.refl rel (.tup hs rs)⟩
  · obtain ⟨v, rfl, rd⟩ := rds.one
    cases rd; cases eq
    exact call_int1 pins s σ H _ us Q I rv (.inl ⟨_, rfl, post μ H _ Nx.refl rel (.int _)⟩)
  · obtain ⟨v, rfl, rd⟩ := rds.one
    cases rd; cases eq
    exact call_int1 pins s σ H _ us Q I rv (.inr ⟨_, rfl, post μ H _ Nx.refl rel (.int _)⟩)
  · obtain ⟨v, rfl, rd⟩ := rds.one
    cases rd
    split at eq
    · rename_i hl
      cases eq
      refine call_str_int pins s σ H _ us Q I rv ⟨_, rfl, hl, ?_⟩
      have := post μ H (.str ⟨(PySem.Str.ofString (toString _)).cps.toList.toArray⟩) Nx.refl rel (.str _)
      simpa using this
    · cases eq
  · obtain ⟨v, rfl, rd⟩ := rds.one
    cases rd; cases eq
    exact call_abs pins s σ H _ us Q I rv ⟨_, rfl, post μ H _ Nx.refl rel (.int _)⟩
  · obtain ⟨v, u, rfl, rd, re⟩ := rds.two
    cases rd; cases re; cases eq
    exact call_min2 hc pins s σ H _ us Q I rv ⟨_, _, rfl, post μ H _ Nx.refl rel (.int _)⟩
  · obtain ⟨v, u, rfl, rd, re⟩ := rds.two
    cases rd; cases re; cases eq
    exact call_max2 hc pins s σ H _ us Q I rv ⟨_, _, rfl, post μ H _ Nx.refl rel (.int _)⟩
  · obtain ⟨v, rfl, rd⟩ := rds.one
    obtain ⟨p, ep, rfl⟩ := rd.ref_inv
    split at eq
    · rename_i e0
      obtain ⟨m, e1, e2⟩ := ob_some eq
      cases e2
      obtain ⟨ns, e3, e4⟩ := Option.bind_eq_some_iff.mp e1
      obtain ⟨vs, rs, hs⟩ := rel.lst e0 ep
      have z := rs.ofInts e3
      subst z
      obtain ⟨k1, k2, k3⟩ := minL_ok e4
      refine cr_min hc pins s σ H _ us Q I rv ⟨p, ns, rfl, by rw [hK]; exact hs, k1, fun m' hm hle => ?_⟩
      have : m' = m := Int.le_antisymm (hle m k2) (k3 m' hm)
      subst this
      exact post μ H _ Nx.refl rel (.int _)
    · cases eq
  · obtain ⟨v, rfl, rd⟩ := rds.one
    obtain ⟨p, ep, rfl⟩ := rd.ref_inv
    split at eq
    · rename_i e0
      obtain ⟨m, e1, e2⟩ := ob_some eq
      cases e2
      obtain ⟨ns, e3, e4⟩ := Option.bind_eq_some_iff.mp e1
      obtain ⟨vs, rs, hs⟩ := rel.lst e0 ep
      have z := rs.ofInts e3
      subst z
      obtain ⟨k1, k2, k3⟩ := maxL_ok e4
      refine cr_max hc pins s σ H _ us Q I rv ⟨p, ns, rfl, by rw [hK]; exact hs, k1, fun m' hm hle => ?_⟩
      have : m' = m := Int.le_antisymm (k3 m' hm) (hle m k2)
      subst this
      exact post μ H _ Nx.refl rel (.int _)
    · cases eq
  · obtain ⟨v, rfl, rd⟩ := rds.one
    obtain ⟨p, ep, rfl⟩ := rd.ref_inv
    split at eq
    · rename_i e0
      obtain ⟨bs, e1, e2⟩ := ob_some eq
      cases e2
      obtain ⟨vs, rs, hs⟩ := rel.lst e0 ep
      have z := rs.ofBools e1
      subst z
      exact cr_all hc pins s σ H _ us Q I rv ⟨p, bs, rfl, by rw [hK]; exact hs, post μ H _ Nx.refl rel (.bl _)⟩
    · cases eq
  · obtain ⟨v, rfl, rd⟩ := rds.one
    obtain ⟨p, ep, rfl⟩ := rd.ref_inv
    split at eq
    · rename_i e0
      obtain ⟨ns, e1, e2⟩ := ob_some eq
      cases e2
      obtain ⟨vs, rs, hs⟩ := rel.lst e0 ep
      have z := rs.ofInts e1
      subst z
      refine cr_sortedI pins s σ H _ us Q I rv ⟨p, ns, rfl, by rw [hK]; exact hs, fun ns' z hp hs' hz => ?_⟩
      have : ns' = sortI ns := sorted_one (hp.trans (sortI_perm ns).symm) hs' (sortI_sorted ns)
      subst this
      exact post _ _ _ (Nx.push hz) (rel.newL hz (RDs.allI _)) (.ref rel.newAt)
    · cases eq
  · cases eq
/-! ### methods of lists -/
def bmT : BM → String
  | .append => "list" | .extend => "list" | .lpop => "list"
def bmN : BM → Str
  | .append => "append" | .extend => "extend" | .lpop => "pop"
def bmI : BM → String
  | .append => "list.append" | .extend => "list.extend" | .lpop => "list.pop"
def rDm (G : Cfg) (f : D → List D → Hh → VR) : V → List V → Hp → VK → Prop := fun x xs H Q => ∃ μ h d ds, RD G μ H d x ∧ RDs G μ H ds xs ∧ Rel G μ H h ∧ PostV G (RD G) Q μ H (f d ds h)
theorem mt_bmD (hK : X.K = G.K) (b : BM) : MtR X (bmI b) (rDm G (bmD b)) := by
  intro pins s σ H x xs v us Q I rx rv ⟨μ, h, d, ds, rd, rds, rel, a, h', eq, post⟩
  unfold bmD at eq
  split at eq
  · obtain ⟨p, ep, rfl⟩ := rd.ref_inv
    obtain ⟨w, rfl, rw'⟩ := rds.one
    split at eq
    · rename_i e0
      split at eq
      · rename_i hl
        cases eq
        obtain ⟨vs, rs, hs⟩ := rel.lstW e0 ep
        refine mt_append pins s σ H _ _ v us Q I rx rv ⟨p, vs, w, rfl, rfl, hs, sz_lt (by rw [← rs.length]; exact hl), ?_⟩
        obtain ⟨r1, nx⟩ := rel.setL (vs := vs ++ [w]) e0 ep (rs.append (.cons rw' .nil))
        exact post μ _ _ nx r1 .non
      · cases eq
    · cases eq
  · obtain ⟨p, ep, rfl⟩ := rd.ref_inv
    obtain ⟨w, rfl, rw'⟩ := rds.one
    cases rw'
    split at eq
    · rename_i e0
      obtain ⟨j, e1, e2⟩ := ob_some eq
      obtain ⟨z, e3, e4⟩ := ob_some e2
      cases e4
      obtain ⟨vs, rs, hs⟩ := rel.lstW e0 ep
      rw [rs.length] at e1
      obtain ⟨k1, k2, k3, k4⟩ := ixN_seq e1
      obtain ⟨w, hw, rw'⟩ := rs.get e3
      have hsz : vs.length ≤ sizeLine := (I.hok p _ hs).1
      have hs2 := sizeLine_eq
      refine mt_popAt pins s σ H _ _ v us Q I rx rv ⟨p, vs, _, j, w, rfl, rfl, hs, by omega, by omega, k1, hw, ?_⟩
      obtain ⟨r1, nx⟩ := rel.setL e0 ep (rs.erase j)
      exact post μ _ _ nx r1 (rw'.mono nx)
    · cases eq
  · obtain ⟨p, ep, rfl⟩ := rd.ref_inv
    obtain ⟨w, rfl, rw'⟩ := rds.one
    obtain ⟨q, eq', rfl⟩ := rw'.ref_inv
    split at eq
    · rename_i e0 e1
      split at eq
      · rename_i hl
        cases eq
        obtain ⟨vs, rs, hs⟩ := rel.lstW e0 ep
        obtain ⟨ws, rw2, hw⟩ := rel.lstW e1 eq'
        refine mt_extend pins s σ H _ _ v us Q I rx rv ⟨p, q, vs, ws, rfl, rfl, hs, hw, sz_le (by rw [← rs.length, ← rw2.length]; omega), ?_⟩
        obtain ⟨r1, nx⟩ := rel.setL (vs := vs ++ ws) e0 ep (rs.append rw2)
        exact post μ _ _ nx r1 .non
      · cases eq
    · cases eq
  · cases eq
end
end Py
namespace Py
open PySem L2
section
variable {X : Cx} {G : Cfg} {W : WX} {a b c : Expr} {ma mb mc : Sg → Hh → R D} {pos : Pos}
theorem tE.ok {α β : Type} {rel : RelA α β} {v : β} {d : α} {τ : St} {H : Hp} {Q : β → Hp → Prop} (hr : ∀ μ H, rel μ H d v) (h : tG G rel W (fun _ h => .ok d h) τ H Q) : Q v H := by
  obtain ⟨μ, σ, h, rs, rel, p⟩ := h
  exact p μ H v Nx.refl rel (hr _ _)
theorem k_non {j pos} : PE X (.Constant .none j pos) (tE G W fun _ h => .ok .non h) := weakE pe_non fun _ _ _ h => tE.ok (fun _ _ => .non) h
theorem k_bl {b j pos} : PE X (.Constant (.bool b) j pos) (tE G W fun _ h => .ok (.bl b) h) := weakE pe_bl fun _ _ _ h => tE.ok (fun _ _ => .bl b) h
theorem k_int {i j pos} : PE X (.Constant (.int i) j pos) (tE G W fun _ h => .ok (.int i) h) := weakE pe_int fun _ _ _ h => tE.ok (fun _ _ => .int i) h
theorem k_str {s : List Nat} {j pos} : PE X (.Constant (.str ⟨s.toArray⟩) j pos) (tE G W fun _ h => .ok (.str s) h) := weakE pe_str fun _ _ _ h => tE.ok (fun _ _ => .str s) h
theorem k_var {i : Nat} {x : Str} (hN : X.N[i]? = some x) (hv : Vis X.env.scope x) (hd : (x == ("__debug__" : Str)) = false) (hcd : (x == ("__classdict__" : Str)) = false) : PE X (.Name x pos) (tE G W fun σ h => varR σ i h) := by
  refine weakE (pe_var hN hv hd hcd) fun τ H Q ⟨μ, σ, h, rs, rel, p⟩ => ?_
  dsimp only [varR] at p
  split at p
  · rename_i d e
    obtain ⟨v, h1, h2⟩ := rs.2 i d e
    exact ⟨v, h1, p μ H v Nx.refl rel h2⟩
  · exact p.elim
/-- a name of the module -/
theorem k_glob {d : D} {x : Str} {u : Value} {v : V} (hg : Gl X x) (hm : X.mg x = some u) (rv : RelV v u) (hr : ∀ μ H, RD G μ H d v) (hd : (x == ("__debug__" : Str)) = false) : PE X (.Name x pos) (tE G W fun _ h => .ok d h) :=
  weakE (pe_glob hg hm rv hd) fun _ _ _ h => tE.ok hr h
/-- two values in a row -/
theorem two_of {β : Type} {r : V → V → Hp → Prop} {τ : St} {H : Hp} {μ : List Addr} {σ : Sg} {h : Hh} {k : D → D → Hh → R D} {Q : VK} (rs : RelS G μ H σ τ) (rel : Rel G μ H h)
    (p : Post G (RD G) W τ Q μ H ((ma σ h).bind fun x h => (mb σ h).bind fun y h => k x y h))
    (hr : ∀ x y H2 d e h2 μ2, RD G μ2 H2 d x → RD G μ2 H2 e y → Rel G μ2 H2 h2 → RelS G μ2 H2 σ τ → Post G (RD G) W τ Q μ2 H2 (k d e h2) → r x y H2) :
    tE G W ma τ H fun x H1 => tE G W mb τ H1 fun y H2 => r x y H2 :=
  ⟨μ, σ, h, rs, rel, p.bind.imp fun x H1 ⟨d, h1, μ1, nx, rel1, rd, p1⟩ => ⟨μ1, σ, h1, rs.mono nx, rel1, p1.bind.imp fun y H2 ⟨e, h2, μ2, nx2, rel2, re, p2⟩ =>
    hr x y H2 d e h2 μ2 (rd.mono nx2) re rel2 ((rs.mono nx).mono nx2) p2⟩⟩
theorem k_bin (hK : X.K = G.K) {op : BO} (ha : PE X a (tE G W ma)) (hb : PE X b (tE G W mb)) : PE X (.BinOp a (opB op) b pos) (tE G W fun σ h => (ma σ h).bind fun x h => (mb σ h).bind fun y h => R.of (binD op x y h)) :=
  weakE (pe_op (op_binD hK op) ha hb) fun τ H Q ⟨μ, σ, h, rs, rel, p⟩ =>
    two_of (β := Unit) rs rel p fun x y H2 d e h2 μ2 rd re rel2 _ p2 => ⟨μ2, h2, d, e, rd, re, rel2, p2.ofV⟩
theorem k_cmp (hK : X.K = G.K) (hu : X.A.units + 65 < cLine) {op : CO} (hm : behindInMarks (opC op) b = false) (ha : PE X a (tE G W ma)) (hb : PE X b (tE G W mb)) :
    PE X (.Compare a [opC op] [b] pos) (tE G W fun σ h => (ma σ h).bind fun x h => (mb σ h).bind fun y h => R.of (cmpD op x y h)) :=
  weakE (pe_cmpR (op_cmpD hK hu op) ha hb hm) fun τ H Q ⟨μ, σ, h, rs, rel, p⟩ =>
    two_of (β := Unit) rs rel p fun x y H2 d e h2 μ2 rd re rel2 _ p2 => ⟨μ2, h2, d, e, rd, re, rel2, p2.ofV⟩
theorem cmpD_bl {op : CO} {d e z : D} {h h' : Hh} (q : cmpD op d e h = some (z, h')) : ∃ k, z = .bl k := by
  unfold cmpD at q
  split at q
  all_goals first
    | (cases q; exact ⟨_, rfl⟩)
    | (obtain ⟨_, _, q⟩ := ob_some q; cases q; exact ⟨_, rfl⟩)
    | (split at q <;> first | (cases q; exact ⟨_, rfl⟩) | cases q)
    | cases q
theorem truR_bl {k : Bool} {h : Hh} : truR (.ok (.bl k) h) = .ok k h := rfl
/-- a test by a value that is a truth -/
theorem test_of {t : TE} {m : Sg → Hh → R D} (hb : ∀ σ h d h', m σ h = .ok d h' → ∃ k, d = .bl k) (ht : ∀ τ H Q, tE G W m τ H Q → t τ H Q) : ∀ τ H Q, tT G W (fun σ h => truR (m σ h)) τ H Q → tTest t τ H Q := by
  intro τ H Q ⟨μ, σ, h, rs, rel, p⟩
  refine ht τ H _ ⟨μ, σ, h, rs, rel, ?_⟩
  dsimp only at p
  cases e : m σ h with
  | ok d h' =>
    obtain ⟨k, rfl⟩ := hb σ h d h' e
    rw [e] at p
    intro μ' H' v nx r rv
    cases rv
    exact ⟨k, rfl, p μ' H' k nx r rfl⟩
  | ex x h' => rw [e] at p; exact p
  | bad => rw [e] at p; exact p.elim
theorem bind_ok {α β : Type} {r : R α} {k : α → Hh → R β} {b : β} {h' : Hh} (e : r.bind k = .ok b h') : ∃ a h, r = .ok a h ∧ k a h = .ok b h' := by
  cases r with
  | ok a h => exact ⟨a, h, rfl, e⟩
  | ex x h => cases e
  | bad => cases e
theorem of_ok {α : Type} {o : Option (α × Hh)} {a : α} {h : Hh} (e : R.of o = .ok a h) : o = some (a, h) := by
  cases o with
  | none => cases e
  | some z => obtain ⟨x, y⟩ := z; cases e; rfl
theorem kt_cmp (hK : X.K = G.K) (hu : X.A.units + 65 < cLine) {op : CO} (hm : behindInMarks (opC op) b = false) (ha : PE X a (tE G W ma)) (hb : PE X b (tE G W mb)) :
    PT X (.Compare a [opC op] [b] pos) (tT G W fun σ h => truR ((ma σ h).bind fun x h => (mb σ h).bind fun y h => R.of (cmpD op x y h))) :=
  weakT (pt_cmpR (op_cmpD hK hu op) ha hb hm) (test_of (fun σ h d h' e => by
    obtain ⟨x, h1, _, e⟩ := bind_ok e
    obtain ⟨y, h2, _, e⟩ := bind_ok e
    exact cmpD_bl (of_ok e)) fun τ H Q ⟨μ, σ, h, rs, rel, p⟩ =>
    two_of (β := Unit) rs rel p fun x y H2 d e h2 μ2 rd re rel2 _ p2 => ⟨μ2, h2, d, e, rd, re, rel2, p2.ofV⟩)
theorem PostV_bl {op : CO} {τ : St} {Q : VK} {μ : List Addr} {H : Hp} {d e : D} {h : Hh} {k : D → Hh → R D} (p : Post G (RD G) W τ Q μ H ((R.of (cmpD op d e h)).bind k)) :
    PostV G (RD G) (fun z H3 => ∃ c, z = .bl c ∧ ∃ h3 μ3, Nx G μ H μ3 H3 ∧ Rel G μ3 H3 h3 ∧ Post G (RD G) W τ Q μ3 H3 (k (.bl c) h3)) μ H (cmpD op d e h) := by
  cases q : cmpD op d e h with
  | none => rw [q] at p; exact p.elim
  | some z =>
    obtain ⟨z, h3⟩ := z
    obtain ⟨c, rfl⟩ := cmpD_bl q
    rw [q] at p
    refine ⟨_, _, rfl, fun μ' H' b nx r rb => ?_⟩
    cases rb
    exact ⟨c, rfl, h3, μ', nx, r, Post.later p nx⟩
theorem chn_read {op op' : CO} : ∀ τ H Q, tE G W (fun σ h => (ma σ h).bind fun x h => (mb σ h).bind fun y h => (R.of (cmpD op x y h)).bind fun z h =>
      andR z h fun h => (mc σ h).bind fun w h => R.of (cmpD op' y w h)) τ H Q → tChain (rD2 G (cmpD op)) (rD2 G (cmpD op')) (tE G W ma) (tE G W mb) (tE G W mc) τ H Q := by
  intro τ H Q ⟨μ, σ, h, rs, rel, p⟩
  refine two_of (β := Unit) rs rel p fun x y H2 d e h2 μ2 rd re rel2 rs2 p2 => ⟨μ2, h2, d, e, rd, re, rel2, ?_⟩
  obtain ⟨z, h3, q, f⟩ := PostV_bl p2
  refine ⟨z, h3, q, fun μ3 H3 b nx r rb => ?_⟩
  obtain ⟨k, rfl, h4, μ4, nx4, r4, p4⟩ := f μ3 H3 b nx r rb
  refine ⟨k, rfl, ?_⟩
  cases k with
  | true =>
    refine iteT ?_
    refine ⟨μ4, σ, h4, rs2.mono nx4, r4, (Post.bind p4).imp fun w H5 ⟨dw, h5, μ5, nx5, r5, rw5, p5⟩ => ⟨μ5, h5, e, dw, (re.mono nx4).mono nx5, rw5, r5, p5.ofV⟩⟩
  | false =>
    refine iteF ?_
    exact p4 μ4 H3 _ Nx.refl r4 (.bl false)
theorem k_chn (hK : X.K = G.K) (hu : X.A.units + 65 < cLine) {op op' : CO} (hm : lastMarks [opC op, opC op'] [b, c] = false) (ha : PE X a (tE G W ma)) (hb : PE X b (tE G W mb)) (hc : PE X c (tE G W mc)) :
    PE X (.Compare a [opC op, opC op'] [b, c] pos) (tE G W fun σ h => (ma σ h).bind fun x h => (mb σ h).bind fun y h => (R.of (cmpD op x y h)).bind fun z h =>
      andR z h fun h => (mc σ h).bind fun w h => R.of (cmpD op' y w h)) :=
  weakE (pe_chain (op_cmpD hK hu op) (op_cmpD hK hu op') ha hb hc hm) chn_read
theorem kt_chn (hK : X.K = G.K) (hu : X.A.units + 65 < cLine) {op op' : CO} (hm : lastMarks [opC op, opC op'] [b, c] = false) (ha : PE X a (tE G W ma)) (hb : PE X b (tE G W mb)) (hc : PE X c (tE G W mc)) :
    PT X (.Compare a [opC op, opC op'] [b, c] pos) (tT G W fun σ h => truR ((ma σ h).bind fun x h => (mb σ h).bind fun y h => (R.of (cmpD op x y h)).bind fun z h =>
      andR z h fun h => (mc σ h).bind fun w h => R.of (cmpD op' y w h))) :=
  weakT (pt_chain (op_cmpD hK hu op) (op_cmpD hK hu op') ha hb hc hm) (test_of (fun σ h d h' e => by
    obtain ⟨x, h1, _, e⟩ := bind_ok e
    obtain ⟨y, h2, _, e⟩ := bind_ok e
    obtain ⟨z, h3, e1, e⟩ := bind_ok e
    unfold andR at e
    split at e
    · obtain ⟨w, h4, _, e⟩ := bind_ok e
      exact cmpD_bl (of_ok e)
    · cases e; exact ⟨_, rfl⟩
    · cases e) chn_read)
theorem k_neg (ha : PE X a (tE G W ma)) : PE X (.UnaryOp .USub a pos) (tE G W fun σ h => (ma σ h).bind fun x h => R.of (negD x h)) :=
  weakE (pe_un un_neg ha) fun τ H Q ⟨μ, σ, h, rs, rel, p⟩ => ⟨μ, σ, h, rs, rel, p.bind.imp fun x H1 ⟨d, h1, μ1, nx, rel1, rd, p1⟩ => by
    obtain ⟨z, h2, e, f⟩ := p1.ofV
    unfold negD at e
    split at e
    · cases rd
      cases e
      exact ⟨_, rfl, f μ1 H1 _ Nx.refl rel1 (.int _)⟩
    · cases e⟩
theorem k_not (hK : X.K = G.K) (ha : PE X a (tE G W ma)) : PE X (.UnaryOp .Not a pos) (tE G W fun σ h => (ma σ h).bind fun x h => R.of (ob (tru h x) fun b => some (.bl (!b), h))) :=
  weakE (pe_notT ha) fun τ H Q ⟨μ, σ, h, rs, rel, p⟩ => ⟨μ, σ, h, rs, rel, p.bind.imp fun x H1 ⟨d, h1, μ1, nx, rel1, rd, p1⟩ => by
    obtain ⟨z, h2, e, f⟩ := p1.ofV
    obtain ⟨k, e1, e2⟩ := ob_some e
    cases e2
    exact ⟨k, tru_tru hK rel1 rd e1, f μ1 H1 _ Nx.refl rel1 (.bl _)⟩⟩
theorem kt_not {mt : Sg → Hh → R Bool} (ha : PT X a (tT G W mt)) : PT X (.UnaryOp .Not a pos) (tT G W fun σ h => (mt σ h).bind fun b h => .ok (!b) h) :=
  weakT (pt_not ha) fun τ H Q ⟨μ, σ, h, rs, rel, p⟩ => ⟨μ, σ, h, rs, rel, (Post.bind (rel' := rB) p).imp fun x H1 ⟨d, h1, μ1, nx, rel1, rd, p1⟩ => by
    cases rd
    exact p1 μ1 H1 _ Nx.refl rel1 rfl⟩
/-- a plain expression as a test -/
theorem kt_val (hK : X.K = G.K) (he : ∀ whole, isTrue a X.env whole = (do let v ← whole; standAt a.pos; holding [v] (truthy v))) (ha : PE X a (tE G W ma)) : PT X a (tT G W fun σ h => truR (ma σ h)) :=
  weakT (pt_truth ha he) fun τ H Q ⟨μ, σ, h, rs, rel, p⟩ => ⟨μ, σ, h, rs, rel, (Post.bind (rel' := RD G) p).imp fun x H1 ⟨d, h1, μ1, nx, rel1, rd, p1⟩ => by
    cases e : tru h1 d with
    | none => simp only [e] at p1; exact p1.elim
    | some k => simp only [e] at p1; exact ⟨k, tru_tru hK rel1 rd e, p1 μ1 H1 k Nx.refl rel1 rfl⟩⟩
theorem k_and {rest : List Expr} (ha : PE X a (tE G W ma)) (hb : PE X (.BoolOp .And (b :: rest) pos) (tE G W mb)) : PE X (.BoolOp .And (a :: b :: rest) pos) (tE G W fun σ h => (ma σ h).bind fun x h => andR x h fun h => mb σ h) :=
  weakE (pe_and ha hb) fun τ H Q ⟨μ, σ, h, rs, rel, p⟩ => ⟨μ, σ, h, rs, rel, p.bind.imp fun x H1 ⟨d, h1, μ1, nx, rel1, rd, p1⟩ => by
    unfold andR at p1
    split at p1
    · cases rd
      exact ⟨true, rfl, iteT ⟨μ1, σ, h1, rs.mono nx, rel1, p1⟩⟩
    · cases rd
      exact ⟨false, rfl, iteF (p1 μ1 H1 _ Nx.refl rel1 (.bl _))⟩
    · exact p1.elim⟩
theorem k_or {rest : List Expr} (ha : PE X a (tE G W ma)) (hb : PE X (.BoolOp .Or (b :: rest) pos) (tE G W mb)) : PE X (.BoolOp .Or (a :: b :: rest) pos) (tE G W fun σ h => (ma σ h).bind fun x h => orR x h fun h => mb σ h) :=
  weakE (pe_or ha hb) fun τ H Q ⟨μ, σ, h, rs, rel, p⟩ => ⟨μ, σ, h, rs, rel, p.bind.imp fun x H1 ⟨d, h1, μ1, nx, rel1, rd, p1⟩ => by
    unfold orR at p1
    split at p1
    · cases rd
      exact ⟨true, rfl, iteT (p1 μ1 H1 _ Nx.refl rel1 (.bl _))⟩
    · cases rd
      exact ⟨false, rfl, iteF ⟨μ1, σ, h1, rs.mono nx, rel1, p1⟩⟩
    · exact p1.elim⟩
theorem kw_and {rest : List Expr} {ta tb : Sg → Hh → R Bool} (ha : PT X a (tT G W ta)) (hb : PW X (.BoolOp .And (b :: rest) pos) (tT G W tb)) : PW X (.BoolOp .And (a :: b :: rest) pos) (tT G W fun σ h => (ta σ h).bind fun k h => iteR k (tb σ h) (.ok false h)) := by
  have h := pw_and ha hb
  refine ⟨fun whole pins s σ' H Q I q => h.run whole pins s σ' H Q I ?_⟩
  obtain ⟨μ, σ, h, rs, rel, p⟩ := q
  refine ⟨μ, σ, h, rs, rel, (Post.bind (rel' := rB) p).imp fun x H1 ⟨d, h1, μ1, nx, rel1, rd, p1⟩ => ?_⟩
  obtain rfl : d = x := rd
  cases d with
  | true => exact iteT ⟨μ1, σ, h1, rs.mono nx, rel1, p1⟩
  | false => exact iteF (p1 μ1 H1 _ Nx.refl rel1 rfl)
theorem kw_or {rest : List Expr} {ta tb : Sg → Hh → R Bool} (ha : PT X a (tT G W ta)) (hb : PW X (.BoolOp .Or (b :: rest) pos) (tT G W tb)) : PW X (.BoolOp .Or (a :: b :: rest) pos) (tT G W fun σ h => (ta σ h).bind fun k h => iteR k (.ok true h) (tb σ h)) := by
  have h := pw_or ha hb
  refine ⟨fun whole pins s σ' H Q I q => h.run whole pins s σ' H Q I ?_⟩
  obtain ⟨μ, σ, h, rs, rel, p⟩ := q
  refine ⟨μ, σ, h, rs, rel, (Post.bind (rel' := rB) p).imp fun x H1 ⟨d, h1, μ1, nx, rel1, rd, p1⟩ => ?_⟩
  obtain rfl : d = x := rd
  cases d with
  | true => exact iteT (p1 μ1 H1 _ Nx.refl rel1 rfl)
  | false => exact iteF ⟨μ1, σ, h1, rs.mono nx, rel1, p1⟩
theorem k_ife {tc : Sg → Hh → R Bool} (hc : PT X c (tT G W tc)) (ha : PE X a (tE G W ma)) (hb : PE X b (tE G W mb)) : PE X (.IfExp c a b pos) (tE G W fun σ h => (tc σ h).bind fun k h => iteR k (ma σ h) (mb σ h)) :=
  weakE (pe_ifExp hc ha hb) fun τ H Q ⟨μ, σ, h, rs, rel, p⟩ => ⟨μ, σ, h, rs, rel, (Post.bind (rel' := rB) p).imp fun x H1 ⟨d, h1, μ1, nx, rel1, rd, p1⟩ => by
    obtain rfl : d = x := rd
    cases d with
    | true => exact iteT ⟨μ1, σ, h1, rs.mono nx, rel1, p1⟩
    | false => exact iteF ⟨μ1, σ, h1, rs.mono nx, rel1, p1⟩⟩
/-! ### arguments, displays, subscripts, calls -/
variable {es : List Expr} {me : Sg → Hh → R (List D)}
theorem k_nil : PA X [] (tA G W fun _ h => .ok [] h) := weakA pa_nil fun _ _ _ h => tE.ok (fun _ _ => .nil) h
theorem k_cons (hs : starEach (a :: es) X.env = (false, eval a X.env) :: starEach es X.env) (ha : PE X a (tE G W ma)) (he : PA X es (tA G W me)) : PA X (a :: es) (tA G W fun σ h => (ma σ h).bind fun x h => (me σ h).bind fun xs h => .ok (x :: xs) h) :=
  weakA (pa_cons ha he hs) fun τ H Q ⟨μ, σ, h, rs, rel, p⟩ => ⟨μ, σ, h, rs, rel, (Post.bind (rel' := RD G) p).imp fun x H1 ⟨d, h1, μ1, nx, rel1, rd, p1⟩ =>
    ⟨μ1, σ, h1, rs.mono nx, rel1, (Post.bind (rel' := RDs G) p1).imp fun xs H2 ⟨ds, h2, μ2, nx2, rel2, rds, p2⟩ => p2 μ2 H2 _ Nx.refl rel2 (.cons (rd.mono nx2) rds)⟩⟩
/-- arguments, then something with them -/
theorem args_of {r : List V → Hp → Prop} {τ : St} {H : Hp} {μ : List Addr} {σ : Sg} {h : Hh} {k : List D → Hh → R D} {Q : VK} (rs : RelS G μ H σ τ) (rel : Rel G μ H h)
    (p : Post G (RD G) W τ Q μ H ((me σ h).bind fun xs h => k xs h))
    (hr : ∀ xs H2 ds h2 μ2, RDs G μ2 H2 ds xs → Rel G μ2 H2 h2 → RelS G μ2 H2 σ τ → Nx G μ H μ2 H2 → Post G (RD G) W τ Q μ2 H2 (k ds h2) → r xs H2) : tA G W me τ H r :=
  ⟨μ, σ, h, rs, rel, (Post.bind (rel' := RDs G) p).imp fun xs H1 ⟨ds, h1, μ1, nx, rel1, rds, p1⟩ => hr xs H1 ds h1 μ1 rds rel1 (rs.mono nx) nx p1⟩
theorem k_tup {k : Nat} (he : PA X es (tA G W me)) : PE X (.Tuple es k pos) (tE G W fun σ h => (me σ h).bind fun xs h => if xs.length ≤ SZ then .ok (.tup xs) h else .bad) :=
  weakE (pe_tup he) fun τ H Q ⟨μ, σ, h, rs, rel, p⟩ => args_of rs rel p fun xs H2 ds h2 μ2 rds rel2 _ _ p2 => by
    split at p2
    · rename_i hl
      exact ⟨sz_le (by rw [← rds.length]; exact hl), fun z hz => p2 μ2 _ _ (Nx.updN hz) (rel2.aux hz) (.newTup hz rds)⟩
    · exact p2.elim
theorem k_lst (he : PA X es (tA G W me)) : PE X (.List es pos) (tE G W fun σ h => (me σ h).bind fun xs h => if xs.length ≤ SZ then R.of (newO (.lst xs false) h) else .bad) :=
  weakE (pe_lst he) fun τ H Q ⟨μ, σ, h, rs, rel, p⟩ => args_of rs rel p fun xs H2 ds h2 μ2 rds rel2 _ _ p2 => by
    split at p2
    · rename_i hl
      exact ⟨sz_le (by rw [← rds.length]; exact hl), fun z hz => p2 _ _ _ (Nx.push hz) (rel2.newL hz rds) (.ref rel2.newAt)⟩
    · exact p2.elim
theorem k_ix (hK : X.K = G.K) (hu : X.A.units + 65 < cLine) (hs : PlainIx b) (ha : PE X a (tE G W ma)) (hb : PE X b (tE G W mb)) : PE X (.Subscript a b pos) (tE G W fun σ h => (ma σ h).bind fun x h => (mb σ h).bind fun y h => R.of (ixD x y h)) :=
  weakE (pe_ix (ix_ixD hK hu) ha hb hs) fun τ H Q ⟨μ, σ, h, rs, rel, p⟩ =>
    two_of (β := Unit) rs rel p fun x y H2 d e h2 μ2 rd re rel2 _ p2 => ⟨μ2, h2, d, e, rd, re, rel2, p2.ofV⟩
theorem ko_none : PO X none (tO G W fun _ h => .ok none h) := weakO po_none fun _ _ _ h => tE.ok (fun _ _ => rfl) h
theorem ko_some (ha : PE X a (tE G W ma)) : PO X (some a) (tO G W fun σ h => (ma σ h).bind fun x h => intR x h) :=
  weakO (po_some ha) fun τ H Q ⟨μ, σ, h, rs, rel, p⟩ => ⟨μ, σ, h, rs, rel, (Post.bind (rel' := RD G) p).imp fun x H1 ⟨d, h1, μ1, nx, rel1, rd, p1⟩ => by
    unfold intR at p1
    split at p1
    · cases rd
      exact ⟨_, rfl, p1 μ1 H1 _ Nx.refl rel1 rfl⟩
    · exact p1.elim⟩
theorem k_sl (hK : X.K = G.K) {lo hi : Option Expr} {ml mh : Sg → Hh → R (Option Int)} {p2 : Pos} (ha : PE X a (tE G W ma)) (hl : PO X lo (tO G W ml)) (hh : PO X hi (tO G W mh)) :
    PE X (.Subscript a (.Slice lo hi none p2) pos) (tE G W fun σ h => (ma σ h).bind fun x h => (ml σ h).bind fun l h => (mh σ h).bind fun u h => R.of (slD x l u h)) :=
  weakE (pe_slice (sl_slD hK) ha hl hh) fun τ H Q ⟨μ, σ, h, rs, rel, p⟩ => ⟨μ, σ, h, rs, rel, (Post.bind (rel' := RD G) p).imp fun x H1 ⟨d, h1, μ1, nx, rel1, rd, p1⟩ =>
    ⟨μ1, σ, h1, rs.mono nx, rel1, (Post.bind (rel' := rOI) p1).imp fun l H2 ⟨dl, h2, μ2, nx2, rel2, el, p2⟩ =>
      ⟨μ2, σ, h2, (rs.mono nx).mono nx2, rel2, (Post.bind (rel' := rOI) p2).imp fun u H3 ⟨du, h3, μ3, nx3, rel3, eu, p3⟩ => by
        have el' : dl = l := el
        have eu' : du = u := eu
        subst el'; subst eu'
        exact ⟨μ3, h3, d, (rd.mono nx2).mono nx3, rel3, p3.ofV⟩⟩⟩⟩
/-- what a def promises -/
def spC (G : Cfg) (m : List D → Hh → R D) : Sp := fun vs H Q E => ∃ μ h ds, RDs G μ H ds vs ∧ Rel G μ H h ∧ Post G (RD G) (fun c d _ H => E c d H) [] Q μ H (m ds h)
theorem Post.swap {α β : Type} {rel : RelA α β} {W W' : WX} {τ τ' : St} {Q : β → Hp → Prop} {μ : List Addr} {H : Hp} {r : R α} (p : Post G rel W τ Q μ H r) (h : ∀ c d H, W c d τ H → W' c d τ' H) : Post G rel W' τ' Q μ H r := by
  cases r with
  | ok a h' => exact p
  | ex x h' => exact fun μ' H' c dd nx r q => h _ _ _ (p μ' H' c dd nx r q)
  | bad => exact p
/-- what is known of a def that is called -/
structure FnK (G : Cfg) (X : Cx) (k : Nat) (x : Str) (f : Addr) (m : List D → Hh → R D) : Prop where
  mg : X.mg x = some (.ref f)
  kp : PySem.W.keepIn X.K (.ref f) = true
  ok : ∃ fd ps, Binds X.K fd ps [] ∧ FnG X.prog X.w X.K X.mg X.base (L2.CX X.prog X.w) (k + 3) f fd ps (spC G m)
theorem k_call {k : Nat} {x : Str} {f : Addr} {m : List D → Hh → R D} {p : Pos} (F : FnK G X k x f m) (hr : Room (k + 3) X.A) (hgd : X.A.guards = some []) (tk : Takes X W) (hg : Gl X x) (hd : (x == ("__debug__" : Str)) = false)
    (he : starEach (a :: es) X.env = (false, eval a X.env) :: starEach es X.env) (hpl : (backTo pos (starEach es X.env)).any (·.1) = false) (ha : PA X (a :: es) (tA G W me)) :
    PE X (.Call (.Name x p) (a :: es) [] pos) (tE G W fun σ h => (me σ h).bind fun xs h => m xs h) := by
  obtain ⟨fd, ps, hb, ok⟩ := F.ok
  refine weakE (pe_G (dvs := []) (E := WE W) ok hr hgd hg F.mg F.kp hb .nil (fun σ => passAt tk σ) ha hd he hpl) fun τ H Q ⟨μ, σ, h, rs, rel, p⟩ => ?_
  refine args_of rs rel p fun xs H2 ds h2 μ2 rds rel2 _ _ p2 => ?_
  rw [List.append_nil]
  exact ⟨μ2, h2, ds, rds, rel2, p2.swap fun c d H q => q⟩
theorem k_call0 {k : Nat} {x : Str} {f : Addr} {m : List D → Hh → R D} {p : Pos} (F : FnK G X k x f m) (hr : Room (k + 3) X.A) (hgd : X.A.guards = some []) (tk : Takes X W) (hg : Gl X x) (hd : (x == ("__debug__" : Str)) = false) :
    PE X (.Call (.Name x p) [] [] pos) (tE G W fun σ h => (R.ok [] h).bind fun xs h => m xs h) := by
  obtain ⟨fd, ps, hb, ok⟩ := F.ok
  refine ⟨fun pins s τ H Q I q => ?_⟩
  obtain ⟨μ, σ, h, rs, rel, p⟩ := q
  refine wpAny_Call_Name_kw (ld_glob I hg F.mg ?_ hd)
  refine PySem.W.callWith_K0 I.kIn F.kp (run_G (us := []) (vs := []) (dvs := []) (E := WE W) ok hr hgd hb .nil (passAt tk τ) I .nil ?_)
  exact ⟨μ, h, [], .nil, rel, Post.swap (r := m [] h) p fun c d H q => q⟩
def biX : BI → Str
  | .len => "len" | .list => "list" | .tuple => "tuple" | .int => "int" | .abs => "abs" | .min => "min" | .max => "max" | .sorted => "sorted" | .all => "all" | .str => "str"
theorem k_bi (hK : X.K = G.K) (hcm : X.calm = true) {bi : BI} {p : Pos} (hg : Gl X (biX bi)) (hm : X.mg (biX bi) = none)
    (he : starEach (a :: es) X.env = (false, eval a X.env) :: starEach es X.env) (hpl : (backTo pos (starEach es X.env)).any (·.1) = false) (ha : PA X (a :: es) (tA G W me)) :
    PE X (.Call (.Name (biX bi) p) (a :: es) [] pos) (tE G W fun σ h => (me σ h).bind fun xs h => R.of (biD bi xs h)) := by
  have rd : ∀ τ H Q, tE G W (fun σ h => (me σ h).bind fun xs h => R.of (biD bi xs h)) τ H Q → tCB (rDs G (biD bi)) (tA G W me) τ H Q := fun τ H Q ⟨μ, σ, h, rs, rel, p⟩ =>
    args_of rs rel p fun xs H2 ds h2 μ2 rds rel2 _ _ p2 => ⟨μ2, h2, ds, rds, rel2, p2.ofV⟩
  have hc := call_biD hK hcm bi
  cases bi with
  | len => exact weakE (pe_callB hc hg hm PySem.boot_len ha (he := he) (hpl := hpl)) rd
  | list => exact weakE (pe_callTy hc hg hm (by decide +kernel) ha (he := he) (hpl := hpl)) rd
  | tuple => exact weakE (pe_callTy hc hg hm (by decide +kernel) ha (he := he) (hpl := hpl)) rd
  | int => exact weakE (pe_callTy hc hg hm (by decide +kernel) ha (he := he) (hpl := hpl)) rd
  | abs => exact weakE (pe_callB hc hg hm (by decide +kernel) ha (he := he) (hpl := hpl)) rd
  | min => exact weakE (pe_callB hc hg hm (by decide +kernel) ha (he := he) (hpl := hpl)) rd
  | max => exact weakE (pe_callB hc hg hm (by decide +kernel) ha (he := he) (hpl := hpl)) rd
  | sorted => exact weakE (pe_callB hc hg hm (by decide +kernel) ha (he := he) (hpl := hpl)) rd
  | all => exact weakE (pe_callB hc hg hm (by decide +kernel) ha (he := he) (hpl := hpl)) rd
  | str => exact weakE (pe_callTy hc hg hm (by decide +kernel) ha (he := he) (hpl := hpl)) rd
end
end Py
/-! enumerate(tuple), as the layer has enumerate(list) -/
namespace PySem
open Sem (wp)
open AutoSeq1 (wpAny_loadPart')
theorem meets_enumerate_newT (l : Addr) (items : Array Value) (n : Nat) (dct : Option Addr) (sl : Array (Option Value)) :
    Meets (Builtin.«enumerate.__new__» ⟨[.type "enumerate", .ref l], []⟩) (fun _ R s => s.heap.get? l = some { cls := .type "tuple", dict := dct, data := .seq items n, slots := sl } ∧
      R (.ok (.ret (.ref (s.heap.push { cls := .type "tuple_iterator", data := .fields #[.ref l, .int 0 0] }).objs.size)))
        { s with heap := (s.heap.push { cls := .type "tuple_iterator", data := .fields #[.ref l, .int 0 0] }).push { cls := .type "enumerate", data := .fields #[.none, .bool false, .ref s.heap.objs.size, rawInt 0, .none, .none] } }) :=
  .of_wp fun prog w A R s h => by
    obtain ⟨hp, g, d, tk, os⟩ := s; obtain ⟨hl, h⟩ := h
    have hsub := sub_enumerate
    have hL : Heap.IsTuple (Shared.heap ⟨hp, g, d, tk, os⟩) l items := ⟨_, hl, rfl, n, rfl⟩
    wp_walk using wpAny_loadPart' hl
    refine wpAny_stack_any fun st => wpAny_pure ?_
    split
    · rename_i c _ _ _ _ _
      cases (c == Value.type "enumerate")
      · wp_walk using wpAny_loadPart' hl, wpAny_pyIter_tuple hL
        exact ⟨_, rfl, h⟩
      · wp_walk using wpAny_loadPart' hl, wpAny_pyIter_tuple hL
        exact ⟨_, rfl, h⟩
    · wp_walk using wpAny_loadPart' hl, wpAny_pyIter_tuple hL
      exact ⟨_, rfl, h⟩
section
variable {prog : Program} {w : World} {A : Around} {E : Value → Shared → Prop} {s : Shared}
theorem call_enumerate_tup {l : Addr} {items : Array Value} {Q : Value → Shared → Prop} (hL : s.heap.IsTuple l items)
    (h : ∀ h', IsEnum h' (s.heap.objs.size + 1) s.heap.objs.size 0 .none → h'.IsTupleIter s.heap.objs.size l 0 → h'.objs.size = s.heap.objs.size + 2 →
      (∀ b o, s.heap.get? b = some o → h'.get? b = some o) → Q (.ref (s.heap.objs.size + 1)) { s with heap := h' }) :
    wpAny (model prog w) A (call (.type "enumerate") [.ref l]) Q E s := by
  obtain ⟨⟨c, dct, dt, sl⟩, hl, hc, n, hd⟩ := hL
  replace hc : c = .type "tuple" := hc
  replace hd : dt = .seq items n := hd
  subst hc hd
  refine callType_new F.called_enumerate (by decide) (F.typeCall_enumerate_1 _) (F.newCall_enumerate_1 _) (fun obj => F.args_object_init_2 obj _) F.entry_enumerate_new
    (meets_enumerate_newT l items n dct sl) ⟨hl, ?_⟩
  have hz : (s.heap.push { cls := .type "tuple_iterator", data := .fields #[.ref l, .int 0 0] }).objs.size = s.heap.objs.size + 1 := Heap.size_push ..
  show _ ∧ _
  rw [hz]
  have he : IsEnum ((s.heap.push { cls := .type "tuple_iterator", data := .fields #[.ref l, .int 0 0] }).push
      { cls := .type "enumerate", data := .fields #[.none, .bool false, .ref s.heap.objs.size, rawInt 0, .none, .none] }) (s.heap.objs.size + 1) s.heap.objs.size 0 .none := by
    have := Heap.get?_push_size (s.heap.push { cls := .type "tuple_iterator", data := .fields #[.ref l, .int 0 0] })
      (o := { cls := .type "enumerate", data := .fields #[.none, .bool false, .ref s.heap.objs.size, rawInt 0, .none, .none] }) rfl
    rw [hz] at this; exact this
  refine ⟨⟨_, he, rfl⟩, h _ he ⟨_, Heap.get?_push_of_some _ (Heap.get?_push_size _ rfl), rfl, rfl⟩ (by rw [Heap.size_push, hz]) fun b o x => Heap.get?_push_of_some _ (Heap.get?_push_of_some _ x)⟩
end
end PySem
namespace L2
open PySem PySem.Spec PyProof.Rows
def IteT (K : PySem.W.Frag) (a : Addr) : It :=
  ⟨fun i H => ∃ (xs : List V) (x : V), SqT K H a xs ∧ xs[i]? = some x, fun i H v H' => ∃ T x, v = .ref T ∧ H T = none ∧ H' = upd H T (.tup [.int (i : Nat), x]) ∧ ∀ xs, SqT K H a xs → xs[i]? = some x, fun i H => ∃ xs : List V, SqT K H a xs ∧ xs.length ≤ i⟩
theorem turn_enumT {P : Program} {w : World} {K : PySem.W.Frag} {elts : List Expr} {kk : Nat} {tpos : Pos} (a e it : Addr) (items : Array Value) (hai : a ≠ it) (hae : a ≠ e) :
    Turn P w K (.Tuple elts kk tpos) (IteT K a) [e, it] e (fun i h => (∃ old, IsEnum h e it ((i : Nat) : Int) old) ∧ h.IsTupleIter it a i ∧ e ≠ it) where
  mem := by simp
  obj := fun i h st b hb => by
    obtain ⟨⟨old, he⟩, ⟨o, ho, hc, hd⟩, _⟩ := st
    have e' : b = e ∨ b = it := by simpa using hb
    rcases e' with z | z
    · rw [z]; exact ⟨_, he, fun v q => nomatch q⟩
    · rw [z]; exact ⟨o, ho, fun v q => by rw [hd] at q; cases q⟩
  keep := fun i h h' st k => let ⟨⟨old, he⟩, hi, hne⟩ := st; ⟨⟨old, k e (by simp) _ he⟩, hi.at fun o q => k it (by simp) o q, hne⟩
  item := by
    intro X hP hw hK hc i pins s σ H E I hf st hg
    subst hP hw hK
    obtain ⟨⟨old, he⟩, hit, hne⟩ := st
    obtain ⟨xs, x, hq, hx⟩ := hg
    obtain ⟨its, rv, p, hz⟩ := I.tuple hq
    obtain ⟨u, hu, ru⟩ := rv.get hx
    have hil0 : i < its.length := (List.getElem?_eq_some_iff.mp hu).1
    have hel : e < s.heap.objs.size := Heap.lt_size he
    have hil : it < s.heap.objs.size := by obtain ⟨_, q, _⟩ := hit; exact Heap.lt_size q
    refine wpAny_pyNext_enum_itemD (Draws.tuple (A := X.A.in1) (I.ok.hd hc) it a hai its.toArray) he ⟨hit, p⟩ (by simpa using hil0) hne (by simp [hne, Ne.symm hae]) fun y h' tk hy ho hit' hT hsz hk => ?_
    have ey : y = u := by
      have h1 : its[i]? = some y := by simpa using hy
      rw [hu] at h1; cases h1; rfl
    subst ey
    refine ⟨_, rfl, wpAny_letOwnedTupleGo_enum (s := { s with heap := h', toks := tk + 1 }) ho fun h'' he' sb => ?_⟩
    have hT2 : h''.get? s.heap.objs.size = some { cls := .type "tuple", data := .seq #[.int i tk, y] } := (sb.2 _ (Nat.ne_of_gt hel)).trans hT
    have new : ObjOk X.prog X.w (upd H s.heap.objs.size (.tup [.int (i : Nat), x])) h'' s.heap.objs.size (.tup [.int (i : Nat), x]) :=
      ⟨by show 2 ≤ sizeLine; decide, [.int i tk, y], .cons ⟨_, rfl⟩ (.cons ru .nil), ⟨_, hT2, rfl, _, rfl⟩⟩
    have I1 : Inv X pins σ (upd H s.heap.objs.size (.tup [.int (i : Nat), x])) { s with heap := h'', toks := tk + 1 } :=
      I.turnedNew (ch := [e, it]) (fun b ob hb q => (sb.2 b (fun z => hb (by simp [z]))).trans (hk b ob (fun z => hb (by simp [z])) (fun z => hb (by simp [z])) q)) hf (Nat.le_refl _) new
    refine ⟨.ref s.heap.objs.size, _, I1, rfl, ⟨_, x, rfl, I.hok.fresh (Nat.le_refl _), rfl, fun ys hy => by rw [I.tuple_inj hy hq]; exact hx⟩, ⟨⟨y, ?_⟩, hit'.1.at fun o q => (sb.2 it (Ne.symm hne)).trans q, hne⟩, fun b hb => ?_⟩
    · have e1 : ((i + 1 : Nat) : Int) = (i : Int) + 1 := by omega
      rw [e1]; exact he'
    · have hb' : b < s.heap.objs.size := by
        have e' : b = e ∨ b = it := by simpa using hb
        rcases e' with z | z
        · rw [z]; exact hel
        · rw [z]; exact hil
      rw [upd_ne (Nat.ne_of_lt hb')]
      exact (hf b hb).1
  done := by
    intro X hP hw hK hc i pins s σ H E I hf st hg
    subst hP hw hK
    obtain ⟨⟨old, he⟩, hit, hne⟩ := st
    obtain ⟨xs, hq, hx⟩ := hg
    obtain ⟨its, rv, p, hz⟩ := I.tuple hq
    obtain ⟨f0, f1, f2, f3, f4, f5⟩ := hf it (by simp)
    have hl := rv.length
    have hh := I.ok.hd hc
    have hT : s.TypeIs (.ref e) "enumerate" := ⟨_, he, rfl⟩
    unfold pyNext
    refine wpAny_bind (wpAny_attempt (wpAny_callSpecial?_slot (name := Str.ofString "__next__") hT PySem.F.slot_enumerate_next
      (wpAny_call_entry PySem.F.slot_enumerate_next hT PySem.F.entry_enumerate_next ?_ (PySem.F.args_enumerate_next_1 _))))
    show wpAny _ _ (field (.ref e) 2 >>= _) _ _ _
    refine wpAny_bind (wpAny_field he rfl (x := .ref it) rfl ?_)
    refine wpAny_bind (wpAny_nextOf_tuple_end hh hit p (by simp; omega) fun h' x he' hx' => ?_)
    obtain ⟨o, ho, hc⟩ := hx'
    refine wpAny_bind (wpAny_isInstance (T := "StopIteration") (b := true) ⟨o, ho, hc⟩ isSubtype_stop ?_)
    exact wpAny_pure ⟨rfl, I.turned (t' := s.toks) (fun b o hb q => he' b o hb q) f0 f1 f3 f4 f5⟩
  self := fun A i s Q E st h => let ⟨⟨_, he⟩, _⟩ := st; wpAny_pyIter_enum he h
def iEnumT (K : PySem.W.Frag) (ta : TA) : TI := fun σ H R => ta σ H fun vs H1 => ∃ a xs, vs = [.ref a] ∧ SqT K H1 a xs ∧ R (IteT K a) H1
theorem pi_enumT {X : Cx} {e : Expr} {ta : TA} {p pos tpos : Pos} {elts : List Expr} {kk : Nat} (hg : Gl X "enumerate") (hm : X.mg "enumerate" = none) (ha : PA X [e] ta) (hs : starEach [e] X.env = [(false, eval e X.env)]) :
    PI X (.Tuple elts kk tpos) (.Call (.Name "enumerate" p) [e] [] pos) (iEnumT X.K ta) := by
  refine ⟨fun pins s σ H R I h => ?_⟩
  refine Call_ (ld_blt I hg hm boot_enumerate (PyProof.Rows.callWith_type1 (thn (ha.run pos pins s σ H _ I h) fun us s1 ⟨vs, H1, I1, r1, q1⟩ => ?_) hs rfl))
  obtain ⟨a, xs, ex, hq, q⟩ := q1
  subst ex
  cases r1 with
  | cons r rr =>
    cases rr
    cases r
    obtain ⟨its, rv, p', hz⟩ := I1.tuple hq
    have hal : a < s1.heap.objs.size := by obtain ⟨o, q, _⟩ := p'; exact Heap.lt_size q
    refine call_enumerate_tup p' fun h' he hit hsz hk => wpAny_pyIter_enum he ?_
    have I2 : Inv X pins σ H1 { s1 with heap := h' } := I1.kept (t' := s1.toks) hk
    refine ⟨s1.heap.objs.size + 1, [s1.heap.objs.size + 1, s1.heap.objs.size], _, _, H1, rfl, I2, turn_enumT a (s1.heap.objs.size + 1) s1.heap.objs.size its.toArray (Nat.ne_of_lt hal) (Nat.ne_of_lt (Nat.lt_succ_of_lt hal)), ⟨⟨.none, he⟩, hit, Nat.succ_ne_self _⟩, fun b hb => ?_, q⟩
    have e' : b = s1.heap.objs.size + 1 ∨ b = s1.heap.objs.size := by simpa using hb
    have hle : s1.heap.objs.size ≤ b := by
      rcases e' with z | z
      · rw [z]; exact Nat.le_add_right _ _
      · rw [z]; exact Nat.le_refl _
    exact I1.fpOk hle (I1.hok.fresh hle)
end L2
/-! zip(tuple, list) -/
namespace PySem
open Sem (wp)
open AutoSeq1 (wpAny_loadPart')
abbrev mzA (h : Heap) (a : Addr) : Heap := h.push { cls := .type "tuple_iterator", data := .fields #[.ref a, .int 0 0] }
abbrev mzB (h : Heap) (a b : Addr) : Heap := (mzA h a).push { cls := .type "list_iterator", data := .fields #[.ref b, .int 0 0] }
abbrev mzC (h : Heap) (a b : Addr) : Heap := (mzB h a b).push { cls := .type "tuple", data := .seq #[.ref h.objs.size, .ref (mzA h a).objs.size] }
abbrev mzD (h : Heap) (a b : Addr) : Heap := (mzC h a b).push { cls := .type "tuple", data := .seq #[.none, .none] }
abbrev mzE (h : Heap) (a b : Addr) : Heap := (mzD h a b).push { cls := .type "zip", data := .fields #[.none, .bool false, .bool false, .ref (mzB h a b).objs.size, .ref (mzC h a b).objs.size] }
theorem meets_zip_mixed (a b : Addr) (us ws : Array Value) : Meets (Builtin.«zip.__new__» ⟨[.type "zip", .ref a, .ref b], []⟩) (fun _ R s => s.heap.IsTuple a us ∧ s.heap.IsList b ws ∧ R (.ok (.ret (.ref (mzD s.heap a b).objs.size))) { s with heap := mzE s.heap a b }) :=
  .of_wp fun prog w A R s h => by
    obtain ⟨hp, g, d, tk, os⟩ := s
    obtain ⟨ta, lb, h⟩ := h
    have below := sub_zip
    have ta' : Heap.IsTuple (Shared.heap ⟨hp, g, d, tk, os⟩) a us := ta
    have lb' : Heap.IsList (Shared.heap ⟨hp.push { cls := .type "tuple_iterator", data := .fields #[.ref a, .int 0 0] }, g, d, tk, os⟩) b ws := Heap.IsList.push lb _
    wp_walk using wpAny_pyIter_tuple ta', wpAny_pyIter_list lb'
    exact ⟨_, rfl, h⟩
theorem call_zip_mixed {prog : Program} {w : World} {A : Around} {E : Value → Shared → Prop} {s : Shared} {a b : Addr} {us ws : Array Value} {Q : Value → Shared → Prop} (ta : s.heap.IsTuple a us) (lb : s.heap.IsList b ws)
    (k : ∀ h', IsZip h' (s.heap.objs.size + 4) (s.heap.objs.size + 2) (s.heap.objs.size + 3) .none → IsTupOf2 h' (s.heap.objs.size + 2) (.ref s.heap.objs.size) (.ref (s.heap.objs.size + 1)) →
      IsTupOf2 h' (s.heap.objs.size + 3) .none .none → h'.IsTupleIter s.heap.objs.size a 0 → h'.IsListIter (s.heap.objs.size + 1) b 0 → (∀ c o, s.heap.get? c = some o → h'.get? c = some o) → Q (.ref (s.heap.objs.size + 4)) { s with heap := h' }) :
    wpAny (model prog w) A (call (.type "zip") [.ref a, .ref b]) Q E s := by
  refine callType_new F.called_zip (by decide) (F.typeCall_zip_2 _ _) (F.newCall_zip_2 _ _) (fun obj => F.args_object_init_3 obj _ _) F.entry_zip_new (meets_zip_mixed a b us ws) ⟨ta, lb, ?_⟩
  have sA : (mzA s.heap a).objs.size = s.heap.objs.size + 1 := Heap.size_push ..
  have sB : (mzB s.heap a b).objs.size = s.heap.objs.size + 2 := (Heap.size_push ..).trans (by rw [sA])
  have sC : (mzC s.heap a b).objs.size = s.heap.objs.size + 3 := (Heap.size_push ..).trans (by rw [sB])
  have sD : (mzD s.heap a b).objs.size = s.heap.objs.size + 4 := (Heap.size_push ..).trans (by rw [sC])
  have up1 : ∀ {c o}, (mzD s.heap a b).get? c = some o → (mzE s.heap a b).get? c = some o := fun q => Heap.get?_push_of_some _ q
  have up2 : ∀ {c o}, (mzC s.heap a b).get? c = some o → (mzE s.heap a b).get? c = some o := fun q => up1 (Heap.get?_push_of_some _ q)
  have up3 : ∀ {c o}, (mzB s.heap a b).get? c = some o → (mzE s.heap a b).get? c = some o := fun q => up2 (Heap.get?_push_of_some _ q)
  have up4 : ∀ {c o}, (mzA s.heap a).get? c = some o → (mzE s.heap a b).get? c = some o := fun q => up3 (Heap.get?_push_of_some _ q)
  have o5 : (mzE s.heap a b).get? (mzD s.heap a b).objs.size = some _ := Heap.get?_push_size _ rfl
  have o4 : (mzE s.heap a b).get? (mzC s.heap a b).objs.size = some _ := up1 (Heap.get?_push_size _ rfl)
  have o3 : (mzE s.heap a b).get? (mzB s.heap a b).objs.size = some _ := up2 (Heap.get?_push_size _ rfl)
  have o2 : (mzE s.heap a b).get? (mzA s.heap a).objs.size = some _ := up3 (Heap.get?_push_size _ rfl)
  have o1 : (mzE s.heap a b).get? s.heap.objs.size = some _ := up4 (Heap.get?_push_size _ rfl)
  show _ ∧ _
  rw [sB, sC, sD] at o5
  rw [sC] at o4
  rw [sA, sB] at o3
  rw [sA] at o2
  rw [sD]
  exact ⟨⟨_, o5, rfl⟩, k _ o5 o3 o4 ⟨_, o1, rfl, rfl⟩ ⟨_, o2, rfl, rfl⟩ fun c o q => up4 (Heap.get?_push_of_some _ q)⟩
end PySem
namespace L2
open PySem PySem.Spec PyProof.Rows
/-- a tuple at a, a list at b, their items in new pairs -/
def ItzM (K : PySem.W.Frag) (a b : Addr) : It :=
  ⟨fun i H => ∃ (xs ys : List V) (x y : V), SqT K H a xs ∧ SqL K H b ys ∧ xs[i]? = some x ∧ ys[i]? = some y,
    fun i H v H' => ∃ T x y, v = .ref T ∧ H T = none ∧ H' = upd H T (.tup [x, y]) ∧ (∀ xs, SqT K H a xs → xs[i]? = some x) ∧ ∀ ys, SqL K H b ys → ys[i]? = some y,
    fun i H => ∃ xs ys : List V, SqT K H a xs ∧ SqL K H b ys ∧ i = min xs.length ys.length⟩
theorem notin2 {x y z : Addr} (h1 : x ≠ y) (h2 : x ≠ z) : x ∉ [y, z] := by simp [h1, h2]
theorem sep_mixed (n a b : Nat) (ha : a < n) (hb : b < n) : ZipSep2 (n + 4) (n + 2) (n + 3) n (n + 1) [n, a] [n + 1, b] where
  TIz := PySem.W.neN (by omega)
  TOz := PySem.W.neN (by omega)
  TITO := PySem.W.neN (by omega)
  TIi1 := PySem.W.neN (by omega)
  mem1 := by simp
  zf1 := notin2 (PySem.W.neN (by omega)) (PySem.W.neN (by omega))
  Tf1 := notin2 (PySem.W.neN (by omega)) (PySem.W.neN (by omega))
  TIi2 := PySem.W.neN (by omega)
  mem2 := by simp
  zf2 := notin2 (PySem.W.neN (by omega)) (PySem.W.neN (by omega))
  Tf2 := notin2 (PySem.W.neN (by omega)) (PySem.W.neN (by omega))
  sep1_2 := notin2 (PySem.W.neN (by omega)) (PySem.W.neN (by omega))
  sep2_1 := notin2 (PySem.W.neN (by omega)) (PySem.W.neN (by omega))
theorem turn_zipM {P : Program} {w : World} {K : PySem.W.Frag} {elts : List Expr} {kk : Nat} {tpos : Pos} {a b n : Nat} (la : a < n) (lb : b < n) :
    Turn P w K (.Tuple elts kk tpos) (ItzM K a b) [n + 4, n + 2, n + 3, n, n + 1] (n + 4) (fun i h => IsZip h (n + 4) (n + 2) (n + 3) .none ∧ IsTupOf2 h (n + 2) (.ref n) (.ref (n + 1)) ∧ (∃ x y, IsTupOf2 h (n + 3) x y) ∧ h.IsTupleIter n a i ∧ h.IsListIter (n + 1) b i) where
  mem := by simp
  obj := fun i h st c hc => by
    obtain ⟨p1, p2, ⟨x, y, p3⟩, ⟨o4, p4, _, q4⟩, ⟨o5, p5, _, q5⟩⟩ := st
    simp only [List.mem_cons, List.not_mem_nil, or_false] at hc
    rcases hc with rfl | rfl | rfl | rfl | rfl
    · exact ⟨_, p1, fun v q => nomatch q⟩
    · exact ⟨_, p2, fun v q => nomatch q⟩
    · exact ⟨_, p3, fun v q => nomatch q⟩
    · exact ⟨o4, p4, fun v q => by rw [q4] at q; cases q⟩
    · exact ⟨o5, p5, fun v q => by rw [q5] at q; cases q⟩
  keep := fun i h h' st k => by
    obtain ⟨p1, p2, ⟨x, y, p3⟩, p4, p5⟩ := st
    exact ⟨k _ (by simp) _ p1, k _ (by simp) _ p2, ⟨x, y, k _ (by simp) _ p3⟩, p4.at fun o q => k _ (by simp) o q, p5.at fun o q => k _ (by simp) o q⟩
  item := by
    intro X hP hw hK hc i pins s σ H E I hf st hg
    subst hP hw hK
    obtain ⟨p1, p2, ⟨x0, y0, p3⟩, p4, p5⟩ := st
    obtain ⟨xs, ys, x, y, sx, sy, gx, gy⟩ := hg
    obtain ⟨us, ru, tu, _⟩ := I.tuple sx
    obtain ⟨ws, rw', lw, _⟩ := I.list sy
    obtain ⟨u, eu, rxu⟩ := ru.get gx
    obtain ⟨v, ev, ryv⟩ := rw'.get gy
    have zl : n + 4 < s.heap.objs.size := Heap.lt_size p1
    refine wpAny_pyNext_zipD2_item (sep_mixed n a b la lb) (Draws.tuple (A := X.A.in1) (I.ok.hd hc) n a (Nat.ne_of_lt la) us.toArray) (Draws.list (A := X.A.in1) (I.ok.hd hc) (n + 1) b (Nat.ne_of_lt (Nat.lt_succ_of_lt lb)) ws.toArray) p1 p2 p3 ⟨p4, tu⟩ ⟨p5, lw.isList⟩
      (by simpa using (List.getElem?_eq_some_iff.mp eu).1) (by simpa using (List.getElem?_eq_some_iff.mp ev).1) fun u' v' h' tk eu' ev' z1 z2 z3 z4 z5 z6 z7 => ?_
    have hu : u' = u := by
      have t : us[i]? = some u' := by simpa using eu'
      rw [eu] at t
      exact (Option.some.inj t).symm
    have hv : v' = v := by
      have t : ws[i]? = some v' := by simpa using ev'
      rw [ev] at t
      exact (Option.some.inj t).symm
    subst hu hv
    refine ⟨_, rfl, wpAny_letOwnedTupleGo_zip (s := { s with heap := h', toks := tk }) z1 fun h2 w1 sb => ?_⟩
    have same : ∀ c, c ≠ n + 4 → h2.get? c = h'.get? c := fun c q => sb.2 c q
    have at2 : h2.get? s.heap.objs.size = some { cls := .type "tuple", data := .seq #[u', v'] } := (same _ (Nat.ne_of_gt zl)).trans z5
    have laid : ObjOk X.prog X.w (upd H s.heap.objs.size (.tup [x, y])) h2 s.heap.objs.size (.tup [x, y]) := ⟨by show 2 ≤ sizeLine; decide, [u', v'], .cons rxu (.cons ryv .nil), ⟨_, at2, rfl, _, rfl⟩⟩
    have J : Inv X pins σ (upd H s.heap.objs.size (.tup [x, y])) { s with heap := h2, toks := tk } :=
      I.turnedNew (t' := tk) (ch := [n + 4, n + 2, n + 3, n, n + 1]) (fun c o nm q => by
        simp only [List.mem_cons, List.not_mem_nil, or_false, not_or] at nm
        exact (same c nm.1).trans (z7 c o nm.1 nm.2.2.1 nm.2.2.2.1 nm.2.2.2.2 q)) hf (Nat.le_refl _) laid
    refine ⟨.ref s.heap.objs.size, _, J, rfl, ⟨_, x, y, rfl, I.hok.fresh (Nat.le_refl _), rfl, fun l hl => by rw [I.tuple_inj hl sx]; exact gx, fun l hl => by rw [I.list_inj hl sy]; exact gy⟩, ⟨w1, ?_, ⟨u', v', ?_⟩, ?_, ?_⟩, fun c hm => ?_⟩
    · exact (same _ (PySem.W.neN (by omega))).trans (z7 _ _ (PySem.W.neN (by omega)) (PySem.W.neN (by omega)) (PySem.W.neN (by omega)) (PySem.W.neN (by omega)) p2)
    · exact (same _ (PySem.W.neN (by omega))).trans z2
    · exact z3.1.at fun o q => (same _ (PySem.W.neN (by omega))).trans q
    · exact z4.1.at fun o q => (same _ (PySem.W.neN (by omega))).trans q
    · have lt : c < s.heap.objs.size := by
        simp only [List.mem_cons, List.not_mem_nil, or_false] at hm
        rcases hm with rfl | rfl | rfl | rfl | rfl
        · exact zl
        · exact Nat.lt_trans (Nat.add_lt_add_left (by decide) n) zl
        · exact Nat.lt_trans (Nat.add_lt_add_left (by decide) n) zl
        · exact Nat.lt_of_le_of_lt (Nat.le_add_right _ 4) zl
        · exact Nat.lt_trans (Nat.add_lt_add_left (by decide) n) zl
      rw [upd_ne (Nat.ne_of_lt lt)]
      exact (hf c hm).1
  done := by
    intro X hP hw hK hc i pins s σ H E I hf st hg
    subst hP hw hK
    obtain ⟨p1, p2, ⟨x0, y0, p3⟩, p4, p5⟩ := st
    obtain ⟨xs, ys, sx, sy, hi⟩ := hg
    obtain ⟨us, ru, tu, _⟩ := I.tuple sx
    obtain ⟨ws, rw', lw, _⟩ := I.list sy
    have e1 := ru.length
    have e2 := rw'.length
    refine wpAny_pyNext_zipD2_end (sep_mixed n a b la lb) (Draws.tuple (A := X.A.in1) (I.ok.hd hc) n a (Nat.ne_of_lt la) us.toArray) (Draws.list (A := X.A.in1) (I.ok.hd hc) (n + 1) b (Nat.ne_of_lt (Nat.lt_succ_of_lt lb)) ws.toArray) p1 p2 p3 ⟨p4, tu⟩ ⟨p5, lw.isList⟩
      (by simp; omega) (by simp; omega) (by simp; omega) fun h' tk z7 => ⟨rfl, I.turnedL (t' := tk) (ch := [n + 4, n + 2, n + 3, n, n + 1]) (fun c o nm q => ?_) hf⟩
    simp only [List.mem_cons, List.not_mem_nil, or_false, not_or] at nm
    exact z7 c o nm.1 nm.2.2.1 nm.2.2.2.1 nm.2.2.2.2 q
  self := fun A i s Q E st h => wpAny_pyIter_zip st.1 h
def iZipM (K : PySem.W.Frag) (ta : TA) : TI := fun σ H R => ta σ H fun vs H1 => ∃ a b xs ys, vs = [.ref a, .ref b] ∧ SqT K H1 a xs ∧ SqL K H1 b ys ∧ R (ItzM K a b) H1
theorem pi_zipM {X : Cx} {e e2 : Expr} {ta : TA} {p pos tpos : Pos} {elts : List Expr} {kk : Nat} (hg : Gl X "zip") (hm : X.mg "zip" = none) (ha : PA X [e, e2] ta)
    (hs : starEach [e, e2] X.env = (false, eval e X.env) :: starEach [e2] X.env) (hpl : (backTo pos (starEach [e2] X.env)).any (·.1) = false) : PI X (.Tuple elts kk tpos) (.Call (.Name "zip" p) [e, e2] [] pos) (iZipM X.K ta) := by
  refine ⟨fun pins s σ H R I h => ?_⟩
  refine Call_ (ld_blt I hg hm PyProof.Rows.boot_zip (PyProof.Rows.callWith_type1 (thn (ha.run pos pins s σ H _ I h) fun us s1 ⟨vs, H1, J, r1, a, b, xs, ys, ex, sx, sy, q⟩ => ?_) hs hpl))
  subst ex
  cases r1 with
  | cons ra rr =>
    cases rr with
    | cons rb rr =>
      cases rr
      cases ra
      cases rb
      obtain ⟨its, _, tu, _⟩ := J.tuple sx
      obtain ⟨its2, _, lw, _⟩ := J.list sy
      have la : a < s1.heap.objs.size := by obtain ⟨o, q, _⟩ := id tu; exact Heap.lt_size q
      refine call_zip_mixed (show s1.heap.IsTuple a its.toArray from tu) lw.isList fun h' z1 z2 z3 z4 z5 hk => wpAny_pyIter_zip z1 ?_
      have J2 : Inv X pins σ H1 { s1 with heap := h' } := J.kept (t' := s1.toks) hk
      refine ⟨s1.heap.objs.size + 4, [s1.heap.objs.size + 4, s1.heap.objs.size + 2, s1.heap.objs.size + 3, s1.heap.objs.size, s1.heap.objs.size + 1], _, _, H1, rfl, J2, turn_zipM la lw.lt, ⟨z1, z2, ⟨_, _, z3⟩, z4, z5⟩, fun c hm => ?_, q⟩
      have le : s1.heap.objs.size ≤ c := by
        simp only [List.mem_cons, List.not_mem_nil, or_false] at hm
        rcases hm with rfl | rfl | rfl | rfl | rfl
        · exact Nat.le_add_right _ _
        · exact Nat.le_add_right _ _
        · exact Nat.le_add_right _ _
        · exact Nat.le_refl _
        · exact Nat.le_add_right _ _
      exact J.fpOk le (J.hok.fresh le)
end L2
namespace Py
open PySem L2 RZ
section
variable {X : Cx} {G : Cfg} {W : WX} {a b c : Expr} {ma mb mc : Sg → Hh → R D} {pos : Pos} {es : List Expr} {me : Sg → Hh → R (List D)}
/-! ### methods of lists -/
theorem kd_ty (hK : X.K = G.K) {μ : List Addr} {H : Hp} {h : Hh} {d : D} {v : V} {bm : BM} (rel : Rel G μ H h) (rd : RD G μ H d v) (e : kd d h = bmK bm) : tyV X.K (bmT bm) v H := by
  have e1 : kd d h = 1 := by cases bm <;> exact e
  have hT : bmT bm = "list" := by cases bm <;> rfl
  rw [hT]
  unfold kd at e1
  split at e1
  · cases e1
  · obtain ⟨p, ep, rfl⟩ := rd.ref_inv
    split at e1
    · rename_i e0
      obtain ⟨vs, rs, hs⟩ := rel.lst e0 ep
      exact .inl ⟨rfl, vs, by rw [hK]; exact hs⟩
    · cases e1
    · cases e1
  · cases e1
theorem k_bm (hK : X.K = G.K) {bm : BM} {o : Expr} {mo : Sg → Hh → R D} {apos : Pos} (hb : attributeBase o (bmN bm) X.env (eval o X.env) = eval o X.env)
    (hfew : ((backTo pos (starEach (a :: es) X.env)).all (fun x => !x.1) && (backToKw pos (keywordEach [] X.env)).all (fun x => x.1.isSome)
      && decide ((a :: es).length + ([] : List Keyword).length + (if ([] : List Keyword).isEmpty then 0 else 1) < 30)) = true)
    (hline : (apos.endLine == pos.line) = true) (he : starEach (a :: es) X.env = (false, eval a X.env) :: starEach es X.env) (hpl : (backTo pos (starEach es X.env)).any (·.1) = false)
    (ho : PE X o (tE G W mo)) (ha : PA X (a :: es) (tA G W me)) :
    PE X (.Call (.Attribute o (bmN bm) apos) (a :: es) [] pos) (tE G W fun σ h => (mo σ h).bind fun x h => recvR bm x h ((me σ h).bind fun xs h => R.of (bmD bm x xs h))) := by
  have rd : ∀ τ H Q, tE G W (fun σ h => (mo σ h).bind fun x h => recvR bm x h ((me σ h).bind fun xs h => R.of (bmD bm x xs h))) τ H Q → tBM X.K (bmT bm) (rDm G (bmD bm)) (tE G W mo) (tA G W me) τ H Q := by
    intro τ H Q ⟨μ, σ, h, rs, rel, p⟩
    refine ⟨μ, σ, h, rs, rel, (Post.bind (rel' := RD G) p).imp fun x H1 ⟨d, h1, μ1, nx, rel1, rd, p1⟩ => ?_⟩
    unfold recvR at p1
    split at p1
    · rename_i ek
      refine ⟨kd_ty hK rel1 rd ek, args_of (rs.mono nx) rel1 p1 fun xs H2 ds h2 μ2 rds rel2 _ nx2 p2 => ⟨μ2, h2, d, ds, rd.mono nx2, rds, rel2, p2.ofV⟩⟩
    · exact p1.elim
  have hm := mt_bmD (X := X) (G := G) hK bm
  cases bm with
  | append => exact weakE (pe_bm PySem.F.plainAttrs_list PySem.F.slot_list_append PySem.F.type_list_append hm ho ha hb hfew hline he hpl) rd
  | extend => exact weakE (pe_bm PySem.F.plainAttrs_list PySem.F.slot_list_extend PySem.F.type_list_extend hm ho ha hb hfew hline he hpl) rd
  | lpop => exact weakE (pe_bm PySem.F.plainAttrs_list PySem.F.slot_list_pop PySem.F.type_list_pop hm ho ha hb hfew hline he hpl) rd
/-! ### isinstance -/
def tyS : Ty → String
  | .int => "int" | .bool => "bool" | .str => "str" | .tup => "tuple" | .lst => "list" | .dct => "dict" | .ve => "ValueError" | .cls _ => ""
def tyX : Ty → Str
  | .int => "int" | .bool => "bool" | .str => "str" | .tup => "tuple" | .lst => "list" | .dct => "dict" | .ve => "ValueError" | .cls _ => ""
def tyV' (G : Cfg) : Ty → Value
  | .cls c => .ref (G.clA c)
  | t => .type (tyS t)
/-- what is asked of the classes -/
structure ClsF (G : Cfg) : Prop where
  own : ∀ c d, c < G.T.ncl → d < G.T.ncl → PySem.W.kitOne G.K (.ref (G.clA c)) (.ref (G.clA d)) = some (G.T.sub c d)
  ofB : ∀ c t, c < G.T.ncl → (∀ d, t ≠ .cls d) → PySem.W.kitOne G.K (.ref (G.clA c)) (.type (tyS t)) = some (t == .ve && G.T.isVe c)
  toB : ∀ c s, c < G.T.ncl → s ∈ ["NoneType", "bool", "int", "str", "tuple", "list", "dict"] → PySem.W.kitOne G.K (.type s) (.ref (G.clA c)) = some false
  ins : ∀ c, c < G.T.ncl → G.T.exn c = false → Cls G.K (G.clA c) ∧ PySem.W.findIn G.K (.ref (G.clA c)) "__class__" = some (some (.builtin "object.__class__")) ∧
    PySem.W.specialIn G.K (.builtin "object.__class__") "__get__" = some (some (.builtin "getset_descriptor.__get__")) ∧ PySem.W.takesIn G.K (.builtin "object.__class__") = some true ∧ PySem.W.mroIn G.K (G.clA c) (.type "object") = some true
  exc : ∀ c, c < G.T.ncl → G.T.exn c = true → ExcC G.K (G.clA c) ∧ XfC G.K (G.clA c)
  exm : ∀ c d, c < G.T.ncl → d < G.T.ncl → G.T.exn c = true → G.T.exn d = true → PySem.W.exmOne G.K (.ref (G.clA c)) (.ref (G.clA d)) = some (G.T.sub c d)
theorem kit_tab (K : PySem.W.Frag) (t : Ty) (ht : ∀ d, t ≠ .cls d) :
    PySem.W.kitOne K (.type "NoneType") (.type (tyS t)) = some false ∧ PySem.W.kitOne K (.type "bool") (.type (tyS t)) = some (t == .int || t == .bool) ∧
    PySem.W.kitOne K (.type "int") (.type (tyS t)) = some (t == .int) ∧ PySem.W.kitOne K (.type "str") (.type (tyS t)) = some (t == .str) ∧
    PySem.W.kitOne K (.type "tuple") (.type (tyS t)) = some (t == .tup) ∧ PySem.W.kitOne K (.type "list") (.type (tyS t)) = some (t == .lst) ∧
    PySem.W.kitOne K (.type "dict") (.type (tyS t)) = some (t == .dct) := by
  cases t with
  | cls d => exact absurd rfl (ht d)
  | int => exact ⟨kit_ty (by decide +kernel), kit_ty (by decide +kernel), kit_ty (by decide +kernel), kit_ty (by decide +kernel), kit_ty (by decide +kernel), kit_ty (by decide +kernel), kit_ty (by decide +kernel)⟩
  | bool => exact ⟨kit_ty (by decide +kernel), kit_ty (by decide +kernel), kit_ty (by decide +kernel), kit_ty (by decide +kernel), kit_ty (by decide +kernel), kit_ty (by decide +kernel), kit_ty (by decide +kernel)⟩
  | str => exact ⟨kit_ty (by decide +kernel), kit_ty (by decide +kernel), kit_ty (by decide +kernel), kit_ty (by decide +kernel), kit_ty (by decide +kernel), kit_ty (by decide +kernel), kit_ty (by decide +kernel)⟩
  | tup => exact ⟨kit_ty (by decide +kernel), kit_ty (by decide +kernel), kit_ty (by decide +kernel), kit_ty (by decide +kernel), kit_ty (by decide +kernel), kit_ty (by decide +kernel), kit_ty (by decide +kernel)⟩
  | lst => exact ⟨kit_ty (by decide +kernel), kit_ty (by decide +kernel), kit_ty (by decide +kernel), kit_ty (by decide +kernel), kit_ty (by decide +kernel), kit_ty (by decide +kernel), kit_ty (by decide +kernel)⟩
  | dct => exact ⟨kit_ty (by decide +kernel), kit_ty (by decide +kernel), kit_ty (by decide +kernel), kit_ty (by decide +kernel), kit_ty (by decide +kernel), kit_ty (by decide +kernel), kit_ty (by decide +kernel)⟩
  | ve => exact ⟨kit_ty (by decide +kernel), kit_ty (by decide +kernel), kit_ty (by decide +kernel), kit_ty (by decide +kernel), kit_ty (by decide +kernel), kit_ty (by decide +kernel), kit_ty (by decide +kernel)⟩
theorem tyx_list {K : PySem.W.Frag} {H : Hp} {a : Addr} {xs : List V} (h : SqL K H a xs) : TyX K H (.ref a) (.type "list") := by
  rcases h with (h | ⟨o, h⟩) | ⟨o, its, n, h1, h2, _⟩
  · exact .base (.lst h)
  · exact .base (.frz h)
  · exact .kList h1 h2
theorem tyx_tup {K : PySem.W.Frag} {H : Hp} {a : Addr} {xs : List V} (h : SqT K H a xs) : TyX K H (.ref a) (.type "tuple") := by
  rcases h with (h | ⟨o, h⟩) | ⟨o, its, n, h1, h2, _⟩
  · exact .base (.tup h)
  · exact .fTuple h
  · exact .kTuple h1 h2
/-- a value's type, and what isinstance says of it -/
theorem isTy_ok (F : ClsF G) {μ : List Addr} {H : Hp} {h : Hh} {d : D} {v : V} (rel : Rel G μ H h) (rd : RD G μ H d v) :
    (∀ t, isTy G.T h d t = none) ∨ ∃ tv, TyY G.K H v tv ∧ ∀ t r, isTy G.T h d t = some r → PySem.W.kitOne G.K tv (tyV' G t) = some r := by
  have gen : ∀ (s : String) (f : Ty → Bool), s ∈ ["NoneType", "bool", "int", "str", "tuple", "list", "dict"] → (∀ t, (∀ d, t ≠ .cls d) → PySem.W.kitOne G.K (.type s) (.type (tyS t)) = some (f t)) →
      (∀ t r, (∀ d, t ≠ .cls d) → isTy G.T h d t = some r → r = f t) → (∀ c r, isTy G.T h d (.cls c) = some r → c < G.T.ncl ∧ r = false) →
      ∀ t r, isTy G.T h d t = some r → PySem.W.kitOne G.K (.type s) (tyV' G t) = some r := by
    intro s f hs h1 h2 h3 t r e
    cases t with
    | cls c => obtain ⟨hc, rfl⟩ := h3 c r e; exact F.toB c s hc hs
    | int => rw [h2 _ r (by simp) e]; exact h1 .int (by simp)
    | bool => rw [h2 _ r (by simp) e]; exact h1 .bool (by simp)
    | str => rw [h2 _ r (by simp) e]; exact h1 .str (by simp)
    | tup => rw [h2 _ r (by simp) e]; exact h1 .tup (by simp)
    | lst => rw [h2 _ r (by simp) e]; exact h1 .lst (by simp)
    | dct => rw [h2 _ r (by simp) e]; exact h1 .dct (by simp)
    | ve => rw [h2 _ r (by simp) e]; exact h1 .ve (by simp)
  cases rd with
  | non =>
    refine .inr ⟨_, .x (.base .non), gen "NoneType" (fun _ => false) (by simp) (fun t ht => (kit_tab _ t ht).1) (fun t r ht e => ?_) fun c r e => ?_⟩
    · cases t <;> first | exact absurd rfl (ht _) | (simp [isTy] at e; exact e)
    · simp only [isTy] at e; split at e <;> simp_all
  | bl x =>
    refine .inr ⟨_, .x (.base (.bl x)), gen "bool" (fun t => t == .int || t == .bool) (by simp) (fun t ht => (kit_tab _ t ht).2.1) (fun t r ht e => ?_) fun c r e => ?_⟩
    · cases t <;> first | exact absurd rfl (ht _) | (simp [isTy] at e; (first | subst e | skip); first | rfl | exact e)
    · simp only [isTy] at e; split at e <;> simp_all
  | int x =>
    refine .inr ⟨_, .x (.base (.int x)), gen "int" (fun t => t == .int) (by simp) (fun t ht => (kit_tab _ t ht).2.2.1) (fun t r ht e => ?_) fun c r e => ?_⟩
    · cases t <;> first | exact absurd rfl (ht _) | (simp [isTy] at e; (first | subst e | skip); first | rfl | exact e)
    · simp only [isTy] at e; split at e <;> simp_all
  | str x =>
    refine .inr ⟨_, .x (.base (.str _)), gen "str" (fun t => t == .str) (by simp) (fun t ht => (kit_tab _ t ht).2.2.2.1) (fun t r ht e => ?_) fun c r e => ?_⟩
    · cases t <;> first | exact absurd rfl (ht _) | (simp [isTy] at e; (first | subst e | skip); first | rfl | exact e)
    · simp only [isTy] at e; split at e <;> simp_all
  | tup hs rs =>
    refine .inr ⟨_, .x (tyx_tup hs), gen "tuple" (fun t => t == .tup) (by simp) (fun t ht => (kit_tab _ t ht).2.2.2.2.1) (fun t r ht e => ?_) fun c r e => ?_⟩
    · cases t <;> first | exact absurd rfl (ht _) | (simp [isTy] at e; (first | subst e | skip); first | rfl | exact e)
    · simp only [isTy] at e; split at e <;> simp_all
  | ref ea =>
    rename_i n p
    cases e0 : h[n]? with
    | none =>
      refine .inl fun t => ?_
      cases t <;> simp [isTy, e0]
    | some o =>
      obtain ⟨b, eb, ro⟩ := rel.obj n o e0
      rw [ea] at eb; cases eb
      cases o with
      | lst xs fz =>
        obtain ⟨vs, rs, hs⟩ := rel.lst e0 ea
        refine .inr ⟨_, .x (tyx_list hs), gen "list" (fun t => t == .lst) (by simp) (fun t ht => (kit_tab _ t ht).2.2.2.2.2.1) (fun t r ht e => ?_) fun c r e => ?_⟩
        · cases t <;> first | exact absurd rfl (ht _) | (simp [isTy, e0] at e; (first | subst e | skip); first | rfl | exact e)
        · simp only [isTy, e0] at e; split at e <;> simp_all
      | dct ks fz =>
        obtain ⟨qs, rk, hq⟩ := ro
        have ty : TyX G.K H (.ref p) (.type "dict") := by
          cases fz with
          | true => simp only [if_true] at hq; obtain ⟨o, hq⟩ := hq; exact .fDict hq
          | false => simp only [Bool.false_eq_true, if_false] at hq; exact .base (.dK hq)
        refine .inr ⟨_, .x ty, gen "dict" (fun t => t == .dct) (by simp) (fun t ht => (kit_tab _ t ht).2.2.2.2.2.2) (fun t r ht e => ?_) fun c r e => ?_⟩
        · cases t <;> first | exact absurd rfl (ht _) | (simp [isTy, e0] at e; (first | subst e | skip); first | rfl | exact e)
        · simp only [isTy, e0] at e; split at e <;> simp_all
      | dtt ks fz => exact ro.elim
      | ins e fs =>
        obtain ⟨dx, qs, rf, hq⟩ := ro
        by_cases he : e < G.T.ncl ∧ G.T.exn e = false
        · obtain ⟨i1, i2, i3, i4, i5⟩ := F.ins e he.1 he.2
          refine .inr ⟨_, .x (.base (.ins hq i1 i2 i3 i4 i5)), fun t r q => ?_⟩
          cases t with
          | cls c =>
            simp only [isTy, e0] at q
            split at q
            · rename_i hc
              (first | rw [if_pos he] at q | skip)
              cases q
              exact F.own e c he.1 hc
            · cases q
          | _ =>
            simp only [isTy, e0, if_pos he] at q
            cases q
            exact F.ofB e _ he.1 (by simp)
        · refine .inl fun t => ?_
          cases t <;> simp [isTy, e0, he]
      | exc e fs =>
        obtain ⟨dd, hq, rx⟩ := ro
        by_cases he : e < G.T.ncl ∧ G.T.exn e = true
        · obtain ⟨i1, i2⟩ := F.exc e he.1 he.2
          have ty : TyY G.K H (.ref p) (.ref (G.clA e)) := by
            cases dd with
            | none => exact .e hq i1
            | some d => obtain ⟨qs, hd, _⟩ := rx; exact .ed hq hd i1
          refine .inr ⟨_, ty, fun t r q => ?_⟩
          cases t with
          | cls c =>
            simp only [isTy, e0] at q
            split at q
            · rename_i hc
              (first | rw [if_pos he] at q | skip)
              cases q
              exact F.own e c he.1 hc
            · cases q
          | _ =>
            simp only [isTy, e0, if_pos he] at q
            cases q
            exact F.ofB e _ he.1 (by simp)
        · refine .inl fun t => ?_
          cases t <;> simp [isTy, e0, he]
  | fn f =>
    refine .inl fun t => ?_
    cases t <;> simp [isTy]
theorem isTys_ok (F : ClsF G) {μ : List Addr} {H : Hp} {h : Hh} {d : D} {v : V} {ts : List Ty} {r : Bool} (rel : Rel G μ H h) (rd : RD G μ H d v) (hne : ts ≠ []) (e : isTys G.T h d ts = some r) :
    ∃ tv, TyY G.K H v tv ∧ PySem.W.kitAny G.K tv (ts.map (tyV' G)) = some r := by
  rcases isTy_ok F rel rd with hn | ⟨tv, ty, hk⟩
  · cases ts with
    | nil => exact absurd rfl hne
    | cons t ts => simp [isTys, hn] at e
  · refine ⟨tv, ty, ?_⟩
    clear hne
    induction ts with
    | nil => simp [isTys] at e; subst e; rfl
    | cons t ts ih =>
      simp only [List.map_cons, PySem.W.kitAny]
      simp only [isTys] at e
      cases q : isTy G.T h d t with
      | none => simp [q] at e
      | some b =>
        rw [hk t b q]
        cases b with
        | true => simp [q] at e; subst e; rfl
        | false => simp only [q] at e; exact ih e
/-- a class as an expression -/
structure ClsE (G : Cfg) (X : Cx) (t : Ty) (e : Expr) : Prop where
  pe : ∃ v, PE X e (tC v) ∧ ClsV v (tyV' G t)
theorem k_isi (hK : X.K = G.K) (F : ClsF G) {t : Ty} {te : Expr} {p : Pos} (hg : Gl X "isinstance") (hm : X.mg "isinstance" = none) (ht : ClsE G X t te)
    (he : starEach (a :: [te]) X.env = (false, eval a X.env) :: starEach [te] X.env) (hpl : (backTo pos (starEach [te] X.env)).any (·.1) = false) (he2 : starEach [te] X.env = (false, eval te X.env) :: starEach [] X.env) (ha : PE X a (tE G W ma)) :
    PE X (.Call (.Name "isinstance" p) [a, te] [] pos) (tE G W fun σ h => (ma σ h).bind fun x h => R.of (ob (isTys G.T h x [t]) fun b => some (.bl b, h))) := by
  obtain ⟨v, pv, cv⟩ := ht.pe
  refine weakE (pe_callB call_isY hg hm (by decide +kernel) (pa_cons ha (pa_cons pv pa_nil he2) he) (he := he) (hpl := hpl)) fun τ H Q ⟨μ, σ, h, rs, rel, p⟩ => ?_
  refine ⟨μ, σ, h, rs, rel, p.bind.imp fun x H1 ⟨d, h1, μ1, nx, rel1, rd, p1⟩ => ?_⟩
  obtain ⟨z, h2, e, f⟩ := p1.ofV
  obtain ⟨k, e1, e2⟩ := ob_some e
  cases e2
  obtain ⟨tv, ty, hk⟩ := isTys_ok F rel1 rd (by simp) e1
  refine ⟨x, v, tv, tyV' G t, k, rfl, cv, by rw [hK]; exact ty, ?_, f μ1 H1 _ Nx.refl rel1 (.bl _)⟩
  rw [hK]
  simp only [List.map_cons, List.map_nil, PySem.W.kitAny] at hk
  cases q : PySem.W.kitOne G.K tv (tyV' G t) with
  | none => simp [q] at hk
  | some b => cases b <;> simp [q] at hk <;> rw [← hk]

/-! ### list(range(..)) -/
theorem rgV_rng (i j : Int) : rgV i j = (rngI i (j - i).toNat).map fun d => match d with | .int k => V.int k | _ => V.non := by
  unfold rgV rngI
  rw [List.map_map]
  rfl
theorem RDs.rng {μ : List Addr} {H : Hp} (i : Int) (n : Nat) : RDs G μ H (rngI i n) ((List.range n).map fun k => V.int (i + (k : Nat))) := by
  unfold rngI
  induction (List.range n) with
  | nil => exact .nil
  | cons k ks ih => exact .cons (.int _) ih
theorem lrng_read {W : WX} {τ : St} {H : Hp} {μ : List Addr} {h : Hh} {Q : VK} {i j : Int} (rel : Rel G μ H h) (p : Post G (RD G) W τ Q μ H (lrngR (.int i) (.int j) h)) :
    RgOk i j ∧ ∀ q, H q = none → Q (.ref q) (upd H q (.lst (rgV i j))) := by
  unfold lrngR mkRng at p
  dsimp only at p
  split at p
  · rename_i hl
    refine ⟨⟨by omega, by omega, by omega, by omega, by omega⟩, fun q hq => ?_⟩
    exact p _ _ _ (Nx.push hq) (rel.newL hq (RDs.rng i _)) (.ref rel.newAt)
  · exact p.elim
theorem k_lrng1 {p p2 pos2 : Pos} (hcm : X.calm = true) (hg : Gl X "range") (hm : X.mg "range" = none) (hg2 : Gl X "list") (hm2 : X.mg "list" = none) (na : starEach [a] X.env = (false, eval a X.env) :: starEach [] X.env) (ha : PE X a (tE G W ma)) :
    PE X (.Call (.Name "list" p2) [.Call (.Name "range" p) [a] [] pos] [] pos2) (tE G W fun σ h => (ma σ h).bind fun x h => lrngR (.int 0) x h) :=
  weakE (pe_listRg hcm hg2 hm2 (prg_1 hg hm ha na)) fun τ H Q ⟨μ, σ, h, rs, rel, p⟩ => ⟨μ, σ, h, rs, rel, p.bind.imp fun x H1 ⟨d, h1, μ1, nx, rel1, rd, p1⟩ => by
    cases rd with
    | int j => exact ⟨j, rfl, lrng_read rel1 p1⟩
    | _ => exact p1.elim⟩
theorem k_lrng2 {p p2 pos2 : Pos} (hcm : X.calm = true) (hg : Gl X "range") (hm : X.mg "range" = none) (hg2 : Gl X "list") (hm2 : X.mg "list" = none) (na : starEach [a, b] X.env = (false, eval a X.env) :: starEach [b] X.env) (nb : starEach [b] X.env = (false, eval b X.env) :: starEach [] X.env)
    (hp : (backTo pos (starEach [b] X.env)).any (·.1) = false) (ha : PE X a (tE G W ma)) (hb : PE X b (tE G W mb)) :
    PE X (.Call (.Name "list" p2) [.Call (.Name "range" p) [a, b] [] pos] [] pos2) (tE G W fun σ h => (ma σ h).bind fun x h => (mb σ h).bind fun y h => lrngR x y h) :=
  weakE (pe_listRg hcm hg2 hm2 (prg_2 hg hm ha hb na nb hp)) fun τ H Q ⟨μ, σ, h, rs, rel, p⟩ =>
    two_of (β := Unit) rs rel p fun x y H2 d e h2 μ2 rd re rel2 _ p2 => by
      cases rd with
      | int i =>
        cases re with
        | int j => exact ⟨i, j, rfl, rfl, lrng_read rel2 p2⟩
        | _ => exact p2.elim
      | _ => exact p2.elim
/-! ### what is walked -/
def WalkD (G : Cfg) : RelA Wk It := fun μ0 H0 w J => ∀ μ H h, Nx G μ0 H0 μ H → Rel G μ H h → w.ok h = true →
  (∀ i, i < w.items.length → J.go i H) ∧ J.stop w.items.length H ∧ ∀ i x H', i < w.items.length → J.yld i H x H' → ∃ d, w.items[i]? = some d ∧ Nx G μ H μ H' ∧ Rel G μ H' h ∧ RD G μ H' d x
abbrev tI (G : Cfg) (W : WX) (m : Sg → Hh → R Wk) : TI := tG G (WalkD G) W m
theorem ok_at {w : Wk} {h : Hh} {n : Nat} {o : O} (hw : w.ok h = true) (hm : (n, o) ∈ w.gd) : h[n]? = some o := by
  unfold Wk.ok at hw
  have := List.all_eq_true.mp hw (n, o) hm
  simpa using this
theorem walk_lst {μ0 : List Addr} {H0 : Hp} {n : Nat} {a : Addr} {xs : List D} {fz : Bool} (ea : μ0[n]? = some a) : WalkD G μ0 H0 ⟨xs, [(n, .lst xs fz)]⟩ (Itl G.K a) := by
  intro μ H h nx rel hw
  have e0 := ok_at (n := n) (o := .lst xs fz) hw (by simp)
  obtain ⟨vs, rs, hs⟩ := rel.lst e0 (nx.at ea)
  have hl := rs.length
  refine ⟨fun i hi => ⟨vs, vs[i]'(by dsimp only at hi; omega), hs, by simp⟩, ⟨vs, hs, by dsimp only; omega⟩, fun i x H' hi hy => ?_⟩
  obtain ⟨rfl, hy⟩ := hy
  have hx := hy vs hs
  obtain ⟨v, hv, rv⟩ := rs.get (i := i) (d := xs[i]) (by simp)
  rw [hx] at hv; cases hv
  exact ⟨xs[i], by simp, Nx.refl, rel, rv⟩
theorem walk_tp {μ0 : List Addr} {H0 : Hp} {a : Addr} {xs : List D} {vs : List V} (hs0 : SqT G.K H0 a vs) (rs0 : RDs G μ0 H0 xs vs) : WalkD G μ0 H0 ⟨xs, []⟩ (Itt G.K a) := by
  intro μ H h nx rel hw
  have hs := nx.tup _ _ hs0
  have rs := rs0.mono nx
  have hl := rs.length
  refine ⟨fun i hi => ⟨vs, vs[i]'(by dsimp only at hi; omega), hs, by simp⟩, ⟨vs, hs, by dsimp only; omega⟩, fun i x H' hi hy => ?_⟩
  obtain ⟨rfl, hy⟩ := hy
  have hx := hy vs hs
  obtain ⟨v, hv, rv⟩ := rs.get (i := i) (d := xs[i]) (by simp)
  rw [hx] at hv; cases hv
  exact ⟨xs[i], by simp, Nx.refl, rel, rv⟩
theorem walk_st {μ0 : List Addr} {H0 : Hp} {s : List Nat} : WalkD G μ0 H0 ⟨s.map fun c => .str [c], []⟩ (Its ⟨s.toArray⟩) := by
  intro μ H h nx rel hw
  refine ⟨fun i hi => by show i < s.toArray.size; simpa using hi, by show s.toArray.size ≤ _; simp, fun i x H' hi hy => ?_⟩
  obtain ⟨rfl, c, hc, rfl⟩ := hy
  have hc' : s[i]? = some c := by simpa using hc
  exact ⟨.str [c], by simp [hc'], Nx.refl, rel, .str [c]⟩
theorem walk_rg {μ0 : List Addr} {H0 : Hp} {lo : Int} {n : Nat} : WalkD G μ0 H0 ⟨rngI lo n, []⟩ (Itr lo n) := by
  intro μ H h nx rel hw
  have hl : (rngI lo n).length = n := by simp [rngI]
  refine ⟨fun i hi => by show i < n; simpa [hl] using hi, by show n ≤ _; simp [hl], fun i x H' hi hy => ?_⟩
  obtain ⟨rfl, rfl⟩ := hy
  have hi' : i < n := by simpa [hl] using hi
  exact ⟨.int (lo + i), by simp [rngI, hi'], Nx.refl, rel, .int _⟩
theorem enumD_get : ∀ (xs : List D) (k i : Nat), (enumD k xs)[i]? = xs[i]?.map fun x => .tup [.int ((k + i : Nat) : Int), x]
  | [], k, i => by simp [enumD]
  | x :: xs, k, 0 => by simp [enumD]
  | x :: xs, k, i + 1 => by
    simp only [enumD, List.getElem?_cons_succ]
    rw [enumD_get xs (k + 1) i]
    congr 2
    funext z
    congr 3
    omega
theorem enumD_length : ∀ (xs : List D) (k : Nat), (enumD k xs).length = xs.length
  | [], _ => rfl
  | x :: xs, k => by simp [enumD, enumD_length xs]
theorem walk_enL {μ0 : List Addr} {H0 : Hp} {n : Nat} {a : Addr} {xs : List D} {fz : Bool} (ea : μ0[n]? = some a) : WalkD G μ0 H0 ⟨enumD 0 xs, [(n, .lst xs fz)]⟩ (Ite G.K a) := by
  intro μ H h nx rel hw
  have e0 := ok_at (n := n) (o := .lst xs fz) hw (by simp)
  obtain ⟨vs, rs, hs⟩ := rel.lst e0 (nx.at ea)
  have hl := rs.length
  have hle := enumD_length xs 0
  refine ⟨fun i hi => ⟨vs, vs[i]'(by dsimp only at hi; omega), hs, by simp⟩, ⟨vs, hs, by simp [hle, hl]⟩, fun i x H' hi hy => ?_⟩
  obtain ⟨T, y, rfl, hT, rfl, hy⟩ := hy
  have hx := hy vs hs
  have hi' : i < xs.length := by simpa [hle] using hi
  obtain ⟨v, hv, rv⟩ := rs.get (i := i) (d := xs[i]) (by simp)
  rw [hx] at hv; cases hv
  refine ⟨.tup [.int ((0 + i : Nat) : Int), xs[i]], by rw [enumD_get]; simp [hi'], Nx.updN hT, rel.aux hT, ?_⟩
  rw [Nat.zero_add]
  exact .newTup hT (.cons (.int _) (.cons rv .nil))
theorem walk_enT {μ0 : List Addr} {H0 : Hp} {a : Addr} {xs : List D} {vs : List V} (hs0 : SqT G.K H0 a vs) (rs0 : RDs G μ0 H0 xs vs) : WalkD G μ0 H0 ⟨enumD 0 xs, []⟩ (IteT G.K a) := by
  intro μ H h nx rel hw
  have hs := nx.tup _ _ hs0
  have rs := rs0.mono nx
  have hl := rs.length
  have hle := enumD_length xs 0
  refine ⟨fun i hi => ⟨vs, vs[i]'(by dsimp only at hi; omega), hs, by simp⟩, ⟨vs, hs, by simp [hle, hl]⟩, fun i x H' hi hy => ?_⟩
  obtain ⟨T, y, rfl, hT, rfl, hy⟩ := hy
  have hx := hy vs hs
  have hi' : i < xs.length := by simpa [hle] using hi
  obtain ⟨v, hv, rv⟩ := rs.get (i := i) (d := xs[i]) (by simp)
  rw [hx] at hv; cases hv
  refine ⟨.tup [.int ((0 + i : Nat) : Int), xs[i]], by rw [enumD_get]; simp [hi'], Nx.updN hT, rel.aux hT, ?_⟩
  rw [Nat.zero_add]
  exact .newTup hT (.cons (.int _) (.cons rv .nil))
theorem zipD_get : ∀ (xs ys : List D) (i : Nat) (x y : D), xs[i]? = some x → ys[i]? = some y → (zipD xs ys)[i]? = some (.tup [x, y])
  | x :: xs, y :: ys, 0, _, _, h1, h2 => by simp at h1 h2; subst h1 h2; simp [zipD]
  | x :: xs, y :: ys, i + 1, _, _, h1, h2 => by simpa [zipD] using zipD_get xs ys i _ _ (by simpa using h1) (by simpa using h2)
  | [], _, _, _, _, h1, _ => by simp at h1
  | _ :: _, [], _, _, _, _, h2 => by simp at h2
theorem zipD_length : ∀ (xs ys : List D), (zipD xs ys).length = min xs.length ys.length
  | x :: xs, y :: ys => by simp only [zipD, List.length_cons, zipD_length xs ys]; omega
  | [], _ => by simp [zipD]
  | _ :: _, [] => by simp [zipD]
theorem walk_zpL {μ0 : List Addr} {H0 : Hp} {n m : Nat} {a b : Addr} {xs ys : List D} {fz gz : Bool} (ea : μ0[n]? = some a) (eb : μ0[m]? = some b) : WalkD G μ0 H0 ⟨zipD xs ys, [(n, .lst xs fz), (m, .lst ys gz)]⟩ (Itz G.K a b) := by
  intro μ H h nx rel hw
  have e0 := ok_at (n := n) (o := .lst xs fz) hw (by simp)
  have e1 := ok_at (n := m) (o := .lst ys gz) hw (by simp)
  obtain ⟨vs, rs, hs⟩ := rel.lst e0 (nx.at ea)
  obtain ⟨us, rt, ht⟩ := rel.lst e1 (nx.at eb)
  have hl := rs.length
  have hl2 := rt.length
  have hz := zipD_length xs ys
  refine ⟨fun i hi => ⟨vs, us, vs[i]'(by simp only [hz] at hi; omega), us[i]'(by simp only [hz] at hi; omega), hs, ht, by simp, by simp⟩, ⟨vs, us, hs, ht, by simp only [hz]; omega⟩, fun i x H' hi hy => ?_⟩
  obtain ⟨T, y, z, rfl, hT, rfl, hy, hy2⟩ := hy
  have hx := hy vs hs
  have hx2 := hy2 us ht
  have hi1 : i < xs.length := by simp only [hz] at hi; omega
  have hi2 : i < ys.length := by simp only [hz] at hi; omega
  obtain ⟨v, hv, rv⟩ := rs.get (i := i) (d := xs[i]) (by simp)
  obtain ⟨u, hu, ru⟩ := rt.get (i := i) (d := ys[i]) (by simp)
  rw [hx] at hv; cases hv
  rw [hx2] at hu; cases hu
  exact ⟨.tup [xs[i], ys[i]], zipD_get _ _ _ _ _ (by simp) (by simp), Nx.updN hT, rel.aux hT, .newTup hT (.cons rv (.cons ru .nil))⟩
theorem walk_zpT {μ0 : List Addr} {H0 : Hp} {a b : Addr} {xs ys : List D} {vs us : List V} (hs0 : SqT G.K H0 a vs) (rs0 : RDs G μ0 H0 xs vs) (ht0 : SqT G.K H0 b us) (rt0 : RDs G μ0 H0 ys us) : WalkD G μ0 H0 ⟨zipD xs ys, []⟩ (ItzT G.K a b) := by
  intro μ H h nx rel hw
  have hs := nx.tup _ _ hs0
  have rs := rs0.mono nx
  have ht := nx.tup _ _ ht0
  have rt := rt0.mono nx
  have hl := rs.length
  have hl2 := rt.length
  have hz := zipD_length xs ys
  refine ⟨fun i hi => ⟨vs, us, vs[i]'(by simp only [hz] at hi; omega), us[i]'(by simp only [hz] at hi; omega), hs, ht, by simp, by simp⟩, ⟨vs, us, hs, ht, by simp only [hz]; omega⟩, fun i x H' hi hy => ?_⟩
  obtain ⟨T, y, z, rfl, hT, rfl, hy, hy2⟩ := hy
  have hx := hy vs hs
  have hx2 := hy2 us ht
  have hi1 : i < xs.length := by simp only [hz] at hi; omega
  have hi2 : i < ys.length := by simp only [hz] at hi; omega
  obtain ⟨v, hv, rv⟩ := rs.get (i := i) (d := xs[i]) (by simp)
  obtain ⟨u, hu, ru⟩ := rt.get (i := i) (d := ys[i]) (by simp)
  rw [hx] at hv; cases hv
  rw [hx2] at hu; cases hu
  exact ⟨.tup [xs[i], ys[i]], zipD_get _ _ _ _ _ (by simp) (by simp), Nx.updN hT, rel.aux hT, .newTup hT (.cons rv (.cons ru .nil))⟩
theorem walk_zpM {μ0 : List Addr} {H0 : Hp} {m : Nat} {a b : Addr} {xs ys : List D} {vs : List V} {gz : Bool} (hs0 : SqT G.K H0 a vs) (rs0 : RDs G μ0 H0 xs vs) (eb : μ0[m]? = some b) : WalkD G μ0 H0 ⟨zipD xs ys, [(m, .lst ys gz)]⟩ (ItzM G.K a b) := by
  intro μ H h nx rel hw
  have hs := nx.tup _ _ hs0
  have rs := rs0.mono nx
  obtain ⟨us, rt, ht⟩ := rel.lst (ok_at hw (List.mem_singleton.mpr rfl)) (nx.at eb)
  have hl := rs.length
  have hl2 := rt.length
  have hz := zipD_length xs ys
  refine ⟨fun i hi => ⟨vs, us, vs[i]'(by simp only [hz] at hi; omega), us[i]'(by simp only [hz] at hi; omega), hs, ht, by simp, by simp⟩, ⟨vs, us, hs, ht, by simp only [hz]; omega⟩, fun i x H' hi hy => ?_⟩
  obtain ⟨T, y, z, rfl, hT, rfl, hy, hy2⟩ := hy
  have hx := hy vs hs
  have hx2 := hy2 us ht
  have hi1 : i < xs.length := by simp only [hz] at hi; omega
  have hi2 : i < ys.length := by simp only [hz] at hi; omega
  obtain ⟨v, hv, rv⟩ := rs.get (i := i) (d := xs[i]) (by simp)
  obtain ⟨u, hu, ru⟩ := rt.get (i := i) (d := ys[i]) (by simp)
  rw [hx] at hv; cases hv
  rw [hx2] at hu; cases hu
  exact ⟨.tup [xs[i], ys[i]], zipD_get _ _ _ _ _ (by simp) (by simp), Nx.updN hT, rel.aux hT, .newTup hT (.cons rv (.cons ru .nil))⟩
theorem orI {tg e : Expr} {t t' : TI} (h : PI X tg e t) (h' : PI X tg e t') : PI X tg e (fun σ H R => t σ H R ∨ t' σ H R) := ⟨fun pins s σ H R I q => q.elim (h.run pins s σ H R I) (h'.run pins s σ H R I)⟩
theorem ki_seq (hK : X.K = G.K) {tg : Expr} (ha : PE X a (tE G W ma)) : PI X tg a (tI G W fun σ h => (ma σ h).bind fun x h => seqW x h) := by
  refine weakI (orI (pi_list ha) (orI (pi_tup ha) (pi_str ha))) fun τ H R ⟨μ, σ, h, rs, rel, p⟩ => ?_
  cases e : ma σ h with
  | bad => simp only [e] at p; exact p.elim
  | ex x h1 => exact .inl ⟨μ, σ, h, rs, rel, by simp only [e] at p ⊢; exact p⟩
  | ok d h1 =>
    simp only [e] at p
    have p' : Post G (WalkD G) W τ R μ H (seqW d h1) := p
    have go : ∀ {q : V → Hp → Prop}, (∀ μ1 H1 v, Nx G μ H μ1 H1 → Rel G μ1 H1 h1 → RD G μ1 H1 d v → q v H1) → tE G W ma τ H q := fun {q} hq =>
      ⟨μ, σ, h, rs, rel, by simp only [e]; exact hq⟩
    unfold seqW at p'
    split at p'
    · refine .inr (.inr (go fun μ1 H1 v nx rel1 rd => ?_))
      cases rd
      exact ⟨_, rfl, p' μ1 H1 _ nx rel1 walk_st⟩
    · split at p'
      · rename_i xs e1
        cases d with
        | tup ys =>
          simp only [seqOf, Option.some.injEq] at e1
          subst e1
          refine .inr (.inl (go fun μ1 H1 v nx rel1 rd => ?_))
          obtain ⟨p, vs, rfl, hp, rp⟩ := rd.tup_inv
          rw [hK]
          exact ⟨p, rfl, ⟨vs, hp⟩, p' μ1 H1 _ nx rel1 (walk_tp hp rp)⟩
        | ref n =>
          refine .inl (go fun μ1 H1 v nx rel1 rd => ?_)
          obtain ⟨p, ep, rfl⟩ := rd.ref_inv
          simp only [seqOf] at e1
          split at e1
          · rename_i ys f e0
            cases e1
            obtain ⟨vs, rs1, hs1⟩ := rel1.lst e0 ep
            rw [hK]
            refine ⟨p, rfl, ⟨vs, hs1⟩, p' μ1 H1 _ nx rel1 ?_⟩
            have : gdOf h1 (.ref n) = [(n, .lst xs f)] := by simp [gdOf, e0]
            rw [this]
            exact walk_lst ep
          · cases e1
        | _ => simp [seqOf] at e1
      · exact p'.elim
theorem ki_rng1 {tg : Expr} {p : Pos} (hg : Gl X "range") (hm : X.mg "range" = none) (hs : starEach [a] X.env = [(false, eval a X.env)]) (ha : PE X a (tE G W ma)) :
    PI X tg (.Call (.Name "range" p) [a] [] pos) (tI G W fun σ h => (ma σ h).bind fun x h => rngW (.int 0) x h) :=
  weakI (pi_range1 hg hm (pa_cons ha pa_nil hs) hs) fun τ H R ⟨μ, σ, h, rs, rel, p⟩ => ⟨μ, σ, h, rs, rel, (Post.bind (rel' := RD G) p).imp fun x H1 ⟨d, h1, μ1, nx, rel1, rd, p1⟩ => by
    cases rd with
    | int j =>
      unfold rngW at p1
      dsimp only at p1
      split at p1
      · refine ⟨j, rfl, by omega, by omega, ?_⟩
        have := p1 μ1 H1 _ Nx.refl rel1 walk_rg
        simpa using this
      · exact p1.elim
    | _ => exact p1.elim⟩
theorem ki_rng2 {tg : Expr} {p : Pos} (hg : Gl X "range") (hm : X.mg "range" = none) (hs : starEach [a, b] X.env = [(false, eval a X.env), (false, eval b X.env)]) (hs1 : starEach [b] X.env = [(false, eval b X.env)]) (hpl : (backTo pos (starEach [b] X.env)).any (·.1) = false) (ha : PE X a (tE G W ma)) (hb : PE X b (tE G W mb)) :
    PI X tg (.Call (.Name "range" p) [a, b] [] pos) (tI G W fun σ h => (ma σ h).bind fun x h => (mb σ h).bind fun y h => rngW x y h) :=
  weakI (pi_range2 hg hm (pa_cons ha (pa_cons hb pa_nil hs1) (by rw [hs, hs1])) hs hs1) fun τ H R ⟨μ, σ, h, rs, rel, p⟩ => ⟨μ, σ, h, rs, rel, (Post.bind (rel' := RD G) p).imp fun x H1 ⟨d, h1, μ1, nx, rel1, rd, p1⟩ =>
    ⟨μ1, σ, h1, rs.mono nx, rel1, (Post.bind (rel' := RD G) p1).imp fun y H2 ⟨e, h2, μ2, nx2, rel2, re, p2⟩ => by
    cases rd with
    | int i =>
      cases re with
      | int j =>
        unfold rngW at p2
        dsimp only at p2
        split at p2
        · exact ⟨i, j, rfl, ⟨by omega, by omega, by omega, by omega⟩, p2 μ2 H2 _ Nx.refl rel2 walk_rg⟩
        · exact p2.elim
      | _ => exact p2.elim
    | _ => cases re <;> exact p2.elim⟩⟩
theorem ki_enum (hK : X.K = G.K) {elts : List Expr} {kk : Nat} {tpos p : Pos} (hg : Gl X "enumerate") (hm : X.mg "enumerate" = none) (hs : starEach [a] X.env = [(false, eval a X.env)]) (ha : PE X a (tE G W ma)) :
    PI X (.Tuple elts kk tpos) (.Call (.Name "enumerate" p) [a] [] pos) (tI G W fun σ h => (ma σ h).bind fun x h => enumW x h) := by
  refine weakI (orI (pi_enum hg hm (pa_cons ha pa_nil hs) hs) (pi_enumT hg hm (pa_cons ha pa_nil hs) hs)) fun τ H R ⟨μ, σ, h, rs, rel, p⟩ => ?_
  cases e : ma σ h with
  | bad => simp only [e] at p; exact p.elim
  | ex x h1 => exact .inl ⟨μ, σ, h, rs, rel, by simp only [e] at p ⊢; exact p⟩
  | ok d h1 =>
    simp only [e] at p
    have p' : Post G (WalkD G) W τ R μ H (enumW d h1) := p
    have go : ∀ {q : V → Hp → Prop}, (∀ μ1 H1 v, Nx G μ H μ1 H1 → Rel G μ1 H1 h1 → RD G μ1 H1 d v → q v H1) → tE G W ma τ H q := fun {q} hq =>
      ⟨μ, σ, h, rs, rel, by simp only [e]; exact hq⟩
    unfold enumW at p'
    split at p'
    · split at p'
      · rename_i n xs f e0
        refine .inl (go fun μ1 H1 v nx rel1 rd => ?_)
        obtain ⟨p, ep, rfl⟩ := rd.ref_inv
        obtain ⟨vs, rs1, hs1⟩ := rel1.lst e0 ep
        rw [hK]
        exact ⟨p, vs, rfl, hs1, p' μ1 H1 _ nx rel1 (walk_enL ep)⟩
      · exact p'.elim
    · refine .inr (go fun μ1 H1 v nx rel1 rd => ?_)
      obtain ⟨p, vs, rfl, hp, rp⟩ := rd.tup_inv
      rw [hK]
      exact ⟨p, vs, rfl, hp, p' μ1 H1 _ nx rel1 (walk_enT hp rp)⟩
    · exact p'.elim
theorem ki_zip (hK : X.K = G.K) {elts : List Expr} {kk : Nat} {tpos p : Pos} (hg : Gl X "zip") (hm : X.mg "zip" = none) (hs : starEach [a, b] X.env = (false, eval a X.env) :: starEach [b] X.env) (hs1 : starEach [b] X.env = (false, eval b X.env) :: starEach [] X.env)
    (hpl : (backTo pos (starEach [b] X.env)).any (·.1) = false) (ha : PE X a (tE G W ma)) (hb : PE X b (tE G W mb)) :
    PI X (.Tuple elts kk tpos) (.Call (.Name "zip" p) [a, b] [] pos) (tI G W fun σ h => (ma σ h).bind fun x h => (mb σ h).bind fun y h => zipW x y h) :=
  weakI (orI (pi_zipA hg hm (pa_cons ha (pa_cons hb pa_nil hs1) hs) hs hpl) (pi_zipM hg hm (pa_cons ha (pa_cons hb pa_nil hs1) hs) hs hpl)) fun τ H R ⟨μ, σ, h, rs, rel, p⟩ => by
    replace p : Post G (WalkD G) W τ R μ H ((ma σ h).bind fun x h => (mb σ h).bind fun y h => zipW x y h) := p
    cases e1 : ma σ h with
    | bad => rw [e1] at p; exact p.elim
    | ex x h1 => exact .inl ⟨μ, σ, h, rs, rel, by rw [e1] at p ⊢; exact p⟩
    | ok d h1 =>
      cases e2 : mb σ h1 with
      | bad =>
        rw [e1] at p
        simp only [Py.R.bind, e2] at p
        exact p.elim
      | ex x h2 =>
        rw [e1] at p
        simp only [Py.R.bind, e2] at p
        exact .inl ⟨μ, σ, h, rs, rel, by rw [e1]; exact fun μ1 H1 v nx rel1 rd => ⟨μ1, σ, h1, rs.mono nx, rel1, by rw [e2]; exact p.later nx⟩⟩
      | ok e h2 =>
        rw [e1] at p
        simp only [Py.R.bind, e2] at p
        have p' : Post G (WalkD G) W τ R μ H (zipW d e h2) := p
        have go : ∀ {q : List V → Hp → Prop}, (∀ μ2 H2 x y, Nx G μ H μ2 H2 → Rel G μ2 H2 h2 → RD G μ2 H2 d x → RD G μ2 H2 e y → q [x, y] H2) → tCons (tE G W ma) (tCons (tE G W mb) tNil) τ H q := fun {q} hq =>
          ⟨μ, σ, h, rs, rel, by rw [e1]; exact fun μ1 H1 x nx rel1 rd => ⟨μ1, σ, h1, rs.mono nx, rel1, by rw [e2]; exact fun μ2 H2 y nx2 rel2 re => hq μ2 H2 x y (nx.trans nx2) rel2 (rd.mono nx2) re⟩⟩
        unfold zipW at p'
        split at p'
        · refine .inl (show tCons (tE G W ma) (tCons (tE G W mb) tNil) τ H _ from go fun μ2 H2 x y nx rel2 rd re => ?_)
          obtain ⟨q, vs, rfl, hq, rq⟩ := rd.tup_inv
          obtain ⟨r, us, rfl, hr, rr⟩ := re.tup_inv
          rw [hK]
          exact ⟨q, r, vs, us, rfl, .inr ⟨hq, hr, p' μ2 H2 _ nx rel2 (walk_zpT hq rq hr rr)⟩⟩
        · split at p'
          · rename_i e3 e4
            refine .inl (show tCons (tE G W ma) (tCons (tE G W mb) tNil) τ H _ from go fun μ2 H2 x y nx rel2 rd re => ?_)
            obtain ⟨q, eq, rfl⟩ := rd.ref_inv
            obtain ⟨r, er, rfl⟩ := re.ref_inv
            obtain ⟨vs, rs1, hs1⟩ := rel2.lst e3 eq
            obtain ⟨us, rs2, hs2⟩ := rel2.lst e4 er
            rw [hK]
            exact ⟨q, r, vs, us, rfl, .inl ⟨hs1, hs2, p' μ2 H2 _ nx rel2 (walk_zpL eq er)⟩⟩
          · exact p'.elim
        · split at p'
          · rename_i e3
            refine .inr (show tCons (tE G W ma) (tCons (tE G W mb) tNil) τ H _ from go fun μ2 H2 x y nx rel2 rd re => ?_)
            obtain ⟨q, vs, rfl, hq, rq⟩ := rd.tup_inv
            obtain ⟨r, er, rfl⟩ := re.ref_inv
            obtain ⟨us, rs2, hs2⟩ := rel2.lst e3 er
            rw [hK]
            exact ⟨q, r, vs, us, rfl, hq, hs2, p' μ2 H2 _ nx rel2 (walk_zpM hq rq er)⟩
          · exact p'.elim
        · exact p'.elim
end
end Py
namespace Py
open PySem L2 RZ
mutual
def Tg.names : Tg → List Nat
  | .nm i => [i]
  | .tup ts => Tgs.names ts
def Tgs.names : Tgs → List Nat
  | .nil => []
  | .cons t ts => Tg.names t ++ Tgs.names ts
end
section
variable {X : Cx} {G : Cfg} {W : WX} {a b c : Expr} {ma mb mc : Sg → Hh → R D} {pos : Pos} {es : List Expr} {me : Sg → Hh → R (List D)}
theorem wipe_get (τ : St) : ∀ (vs : List Nat) (j : Nat), (L2.wipe τ vs)[j]? = if j ∈ vs then τ[j]?.map (fun _ => none) else τ[j]?
  | [], j => by simp [L2.wipe]
  | v :: vs, j => by
    unfold L2.wipe
    by_cases hj : v = j
    · subst hj
      rw [List.getElem?_set_self', wipe_get τ vs v]
      simp only [List.mem_cons, true_or, if_true]
      split <;> cases τ[v]? <;> rfl
    · rw [List.getElem?_set_ne hj, wipe_get τ vs j]
      simp [List.mem_cons, Ne.symm hj]
theorem wipe_set {τ : St} {i : Nat} {x : Option V} {vs : List Nat} (hi : i ∈ vs) : L2.wipe (τ.set i x) vs = L2.wipe τ vs := by
  apply List.ext_getElem?
  intro j
  rw [wipe_get, wipe_get]
  by_cases hj : i = j
  · subst hj
    rw [if_pos hi, if_pos hi, List.getElem?_set_self']
    cases τ[i]? <;> rfl
  · rw [List.getElem?_set_ne hj]
/-- a target -/
def tTg (G : Cfg) (t : Tg) : TG := fun v τ H Q => ∃ μ σ h d σ', RelS G μ H σ τ ∧ Rel G μ H h ∧ RD G μ H d v ∧ Tg.put t d h σ = some σ' ∧
  ∀ τ', RelS G μ H σ' τ' → (∀ vs, (∀ i ∈ t.names, i ∈ vs) → L2.wipe τ' vs = L2.wipe τ vs) → Q τ' H
def tTgs (G : Cfg) (t : Tgs) : TGs := fun vs τ H Q => ∃ μ σ h ds σ', RelS G μ H σ τ ∧ Rel G μ H h ∧ RDs G μ H ds vs ∧ Tgs.put t ds h σ = some σ' ∧
  ∀ τ', RelS G μ H σ' τ' → (∀ vs, (∀ i ∈ t.names, i ∈ vs) → L2.wipe τ' vs = L2.wipe τ vs) → Q τ' H
theorem kg_nm {i : Nat} {x : Str} (hN : X.N.Nodup) (hi : X.N[i]? = some x) (hx : Loc X.env.scope x) (hf : X.fn x = true ∨ X.env.scope.names.lookup x = some .local) : PG X (.Name x pos) (tTg G (.nm i)) :=
  weakG (pg_name hN hi hx hf) fun v τ H Q ⟨μ, σ, h, d, σ', rs, rel, rd, e, k⟩ => by
    simp only [Tg.put, Option.some.injEq] at e
    subst e
    exact k _ (rs.set rd i) fun vs hv => wipe_set (hv i (by simp [Tg.names]))
theorem kgs_nil : PGs X [] (tTgs G .nil) :=
  weakGs pgs_nil fun v τ H Q ⟨μ, σ, h, ds, σ', rs, rel, rds, e, k⟩ => by
    cases rds with
    | nil => simp only [Tgs.put, Option.some.injEq] at e; subst e; exact ⟨rfl, k τ rs fun vs _ => rfl⟩
    | cons => simp [Tgs.put] at e
theorem kgs_cons {t : Tg} {ts : Tgs} (hs : (assignEach (a :: es) X.env).map (·.2) = assign a X.env :: (assignEach es X.env).map (·.2)) (h1 : PG X a (tTg G t)) (h2 : PGs X es (tTgs G ts)) : PGs X (a :: es) (tTgs G (.cons t ts)) :=
  weakGs (pgs_cons h1 h2 hs) fun v τ H Q ⟨μ, σ, h, ds, σ', rs, rel, rds, e, k⟩ => by
    cases rds with
    | nil => simp [Tgs.put] at e
    | cons rd rds =>
      simp only [Tgs.put, Option.bind_eq_some_iff] at e
      obtain ⟨σ1, e1, e2⟩ := e
      refine ⟨_, _, rfl, μ, σ, h, _, σ1, rs, rel, rd, e1, fun τ1 rs1 w1 => ⟨μ, σ1, h, _, σ', rs1, rel, rds, e2, fun τ2 rs2 w2 => k τ2 rs2 fun vs hv => ?_⟩⟩
      rw [w2 vs fun i hi => hv i (by simp [Tgs.names, hi]), w1 vs fun i hi => hv i (by simp [Tgs.names, hi])]
theorem put_len : ∀ {ts : Tgs} {ds : List D} {h : Hh} {σ σ' : Sg}, Tgs.put ts ds h σ = some σ' → ds.length = ts.len
  | .nil, [], _, _, _, _ => rfl
  | .nil, _ :: _, _, _, _, e => by simp [Tgs.put] at e
  | .cons t ts, [], _, _, _, e => by simp [Tgs.put] at e
  | .cons t ts, d :: ds, h, σ, σ', e => by
    simp only [Tgs.put, Option.bind_eq_some_iff] at e
    obtain ⟨σ1, _, e2⟩ := e
    simp [Tgs.len, put_len e2]
theorem kg_tup {ts : Tgs} {k : Nat} (hK : X.K = G.K) (hc : X.calm = true) (hn : (assignEach es X.env).length = ts.len) (hst : (assignEach es X.env).findIdx? (·.1) = none) (h : PGs X es (tTgs G ts)) : PG X (.Tuple es k pos) (tTg G (.tup ts)) :=
  weakG (orG (pg_tup hc h hn hst) (pg_lst hc h hn hst)) fun v τ H Q ⟨μ, σ, h, d, σ', rs, rel, rd, e, k⟩ => by
    simp only [Tg.put, Option.bind_eq_some_iff] at e
    obtain ⟨xs, e1, e2⟩ := e
    obtain ⟨p, vs, rfl, rvs, hs⟩ := seqOf_ok rel rd e1
    have hl : vs.length = ts.len := by rw [← rvs.length]; exact put_len e2
    rw [hK]
    rcases hs with ⟨hs, _⟩ | ⟨hs, _⟩
    · exact .inr ⟨p, vs, rfl, hs, hl, μ, σ, h, xs, σ', rs, rel, rvs, e2, k⟩
    · exact .inl ⟨p, vs, rfl, hs, hl, μ, σ, h, xs, σ', rs, rel, rvs, e2, k⟩
/-! ### comprehensions -/
abbrev W0 : WX := fun _ _ _ _ => False
theorem takes0' : Takes X W0 := fun _ _ x => by
  obtain ⟨_, _, _, _, _, _, _, _, _, _, _, _, _, _, _, _, z⟩ := x
  exact z.elim
theorem compL_some {w : Wk} {n : Nat} {el : D → Hh → R (Option D)} {x v : D} {xs : List D} {h h' : Hh} (ok : w.ok h = true) (e : el x h = .ok (some v) h') :
    compL w n el (x :: xs) h = match h'[n]? with
      | some (.lst acc false) => if acc.length < SZ then compL w n el xs (h'.set n (.lst (acc ++ [v]) false)) else .bad
      | _ => .bad := by
  rw [compL, if_pos ok, e]
  all_goals rfl
theorem compL_none {w : Wk} {n : Nat} {el : D → Hh → R (Option D)} {x : D} {xs : List D} {h h' : Hh} (ok : w.ok h = true) (e : el x h = .ok none h') :
    compL w n el (x :: xs) h = compL w n el xs h' := by
  rw [compL, if_pos ok, e]
theorem compL_bad {w : Wk} {n : Nat} {el : D → Hh → R (Option D)} {x : D} {xs : List D} {h h' : Hh} (e : ∀ o h', el x h ≠ .ok o h') :
    compL w n el (x :: xs) h = .bad := by
  rw [compL]
  split
  · split
    · rename_i q; exact absurd q (e _ _)
    · rename_i q; exact absurd q (e _ _)
    · rfl
  · rfl
theorem comp_read {mi : Sg → Hh → R Wk} {tg : Tg} {own : List Nat} {mcd : Sg → Hh → R Bool} {mel : Sg → Hh → R D} (hn : ∀ i ∈ tg.names, i ∈ own) :
    ∀ τ H Q, tE G W (fun σ h => (mi σ h).bind fun w h => compD w h.length (fun x h => Tg.put tg x h (wipe σ own)) mcd mel h) τ H Q → tLc (tI G W mi) (tTg G tg) (tT G W0 mcd) (tE G W0 mel) own τ H Q := by
  intro τ H Q ⟨μ, σ, h, rs, rel, p⟩
  refine ⟨μ, σ, h, rs, rel, (Post.bind (rel' := WalkD G) p).imp fun J H1 ⟨w, h1, μ1, nx1, rel1, wk, p1⟩ => fun A hA => ?_⟩
  have rs1 := rs.mono nx1
  have nx2 : Nx G μ1 H1 (μ1 ++ [A]) (upd H1 A (.lst [])) := Nx.push hA
  have rel2 : Rel G (μ1 ++ [A]) (upd H1 A (.lst [])) (h1 ++ [.lst [] false]) := rel1.newL hA .nil
  have at2 : (μ1 ++ [A])[h1.length]? = some A := rel1.newAt
  unfold compD at p1
  generalize hel : (fun x h => match Tg.put tg x h (wipe σ own) with
    | some σ' => (mcd σ' h).bind fun b h => match b with
      | true => (mel σ' h).bind fun v h => R.ok (some v) h
      | false => .ok none h
    | none => .bad : D → Hh → R (Option D)) = el at p1
  have okw : ∀ {xs : List D} {hh : Hh} {μ : List Addr} {H : Hp}, Post G (RD G) W τ Q μ H ((compL w h1.length el xs hh).bind fun _ h' => .ok (.ref h1.length) h') → w.ok hh = true := by
    intro xs hh μ H pp
    cases xs with
    | nil =>
      unfold compL at pp
      split at pp
      · assumption
      · exact pp.elim
    | cons x xs =>
      unfold compL at pp
      split at pp
      · assumption
      · exact pp.elim
  have walk : Walk J w.items.length (fun H => ∃ μ h, Nx G (μ1 ++ [A]) (upd H1 A (.lst [])) μ H ∧ Rel G μ H h ∧ w.ok h = true)
      (fun i H x H' => ∀ μ h, Nx G (μ1 ++ [A]) (upd H1 A (.lst [])) μ H → Rel G μ H h → w.ok h = true → ∃ d, w.items[i]? = some d ∧ Nx G μ H μ H' ∧ Rel G μ H' h ∧ RD G μ H' d x) :=
    ⟨fun i H hi ⟨μ, h, nx, r, ok⟩ => (wk μ H h (nx2.trans nx) r ok).1 i hi, fun H ⟨μ, h, nx, r, ok⟩ => (wk μ H h (nx2.trans nx) r ok).2.1,
      fun i H x H' hi _ y μ h nx r ok => (wk μ H h (nx2.trans nx) r ok).2.2 i x H' hi y⟩
  refine lc_it walk (fun i H => ∃ μ h, Nx G (μ1 ++ [A]) (upd H1 A (.lst [])) μ H ∧ Rel G μ H h ∧ Post G (RD G) W τ Q μ H ((compL w h1.length el (w.items.drop i) h).bind fun _ h' => .ok (.ref h1.length) h'))
    ⟨_, _, Nx.refl, rel2, by rw [List.drop_zero]; exact p1.later nx2⟩ (fun i H _ ⟨μ, h, nx, r, pp⟩ => ⟨μ, h, nx, r, okw pp⟩) (fun i x H H' hi ⟨μ, h, nx, r, pp⟩ y => ?_) (fun H ⟨μ, h, nx, r, pp⟩ => ?_)
  · have ok := okw pp
    obtain ⟨d, ed, nx3, r3, rd⟩ := y μ h nx r ok
    have edr : w.items.drop i = d :: w.items.drop (i + 1) := by
      rw [List.drop_eq_getElem_cons hi]
      congr 1
      rw [List.getElem?_eq_getElem hi] at ed
      exact Option.some.inj ed
    rw [edr] at pp
    have rsw : RelS G μ H' (wipe σ own) (L2.wipe τ own) := (((rs1.mono nx2).mono nx).mono nx3).wipe own
    cases ep : Tg.put tg d h (wipe σ own) with
    | none =>
      rw [compL_bad (h' := h) fun o h' z => by rw [← hel] at z; simp only [ep] at z; cases z] at pp
      exact pp.elim
    | some σ' =>
      have eel : el d h = (mcd σ' h).bind fun b h => match b with
        | true => (mel σ' h).bind fun v h => R.ok (some v) h
        | false => .ok none h := by rw [← hel]; simp only [ep]
      refine ⟨μ, wipe σ own, h, d, σ', rsw, r3, rd, ep, fun τ' rs' hw => ⟨?_, ?_⟩⟩
      · rw [hw own hn]
        exact wipe_wipe
      · refine ⟨μ, σ', h, rs', r3, ?_⟩
        cases ec : mcd σ' h with
        | bad =>
          rw [compL_bad (h' := h) fun o h' z => by rw [eel, ec] at z; cases z] at pp
          exact pp.elim
        | ex x hx =>
          rw [compL_bad (h' := h) fun o h' z => by rw [eel, ec] at z; cases z] at pp
          exact pp.elim
        | ok bb h4 =>
          intro μ4 H4 b4 nx4 r4 eb
          obtain rfl : bb = b4 := eb
          cases bb with
          | false =>
            rw [compL_none (h' := h4) ok (by rw [eel, ec]; rfl)] at pp
            exact iteF ⟨μ4, h4, (nx.trans nx3).trans nx4, r4, Post.later pp (nx3.trans nx4)⟩
          | true =>
            refine iteT ⟨μ4, σ', h4, rs'.mono nx4, r4, ?_⟩
            cases ee : mel σ' h4 with
            | bad =>
              rw [compL_bad (h' := h) fun o h' z => by rw [eel, ec] at z; simp only [R.bind, ee] at z; cases z] at pp
              exact pp.elim
            | ex x hx =>
              rw [compL_bad (h' := h) fun o h' z => by rw [eel, ec] at z; simp only [R.bind, ee] at z; cases z] at pp
              exact pp.elim
            | ok v h5 =>
              rw [compL_some (v := v) (h' := h5) ok (by rw [eel, ec]; simp only [R.bind, ee])] at pp
              intro μ5 H5 v5 nx5 r5 rv5
              have nxa : Nx G μ H μ5 H5 := nx3.trans (nx4.trans nx5)
              have ea5 : μ5[h1.length]? = some A := (nx.trans nxa).at at2
              split at pp
              · rename_i acc e5
                split at pp
                · rename_i hl
                  obtain ⟨vs, rvs, hvs⟩ := r5.lstW e5 ea5
                  obtain ⟨r6, nx6⟩ := r5.setL (vs := vs ++ [v5]) e5 ea5 (rvs.append (.cons rv5 .nil))
                  refine ⟨vs, hvs, sz_lt (by rw [← rvs.length]; exact hl), μ5, _, (nx.trans nxa).trans nx6, r6, ?_⟩
                  exact Post.later pp (nxa.trans nx6)
                · exact pp.elim
              · exact pp.elim
  · rw [List.drop_length] at pp
    unfold compL at pp
    split at pp
    · exact pp μ H _ Nx.refl r (.ref (nx.at at2))
    · exact pp.elim
where
  wipe_wipe {τ : St} {own : List Nat} : L2.wipe (L2.wipe τ own) own = L2.wipe τ own := by
    apply List.ext_getElem?
    intro j
    rw [wipe_get, wipe_get]
    split
    · cases τ[j]? <;> rfl
    · rfl

/-! ### statements -/
variable {st : Stmt} {sts : List Stmt} {ms ms' : Sg → Hh → RS} {D' : Ends}
theorem ks_asg {t : Tg} {tg : Expr} (hs : swapsWithSole [tg] a pos.line X.env = pure false) (hw : swappedStores [tg] a X.env = pure none) (h1 : (assignEach [tg] X.env).map (·.2) = [assign tg X.env]) (ha : PE X a (tE G W ma)) (hg : PG X tg (tTg G t)) :
    PS X (.Assign [tg] a pos) (tS G W fun σ h => (ma σ h).thn σ fun x h => putS (Tg.put t x h σ) h) :=
  weakS (ps_asg ha hg hs hw h1) fun D τ H ⟨μ, σ, h, rs, rel, p⟩ => ⟨μ, σ, h, rs, rel, (PostS.thn (rel := RD G) rs p).imp fun v H1 ⟨d, h1, μ1, nx, rel1, rd, p1⟩ => by
    unfold putS at p1
    split at p1
    · rename_i σ' e
      exact ⟨μ1, σ, h1, d, σ', rs.mono nx, rel1, rd, e, fun τ' rs' _ => p1 μ1 H1 τ' Nx.refl rel1 rs'⟩
    · exact p1.elim⟩
/-- name = [..] -/
theorem asgc_read {i : Nat} {t : TE} (ht : ∀ τ H Q, tE G W ma τ H Q → t τ H Q) : ∀ D τ H, tS G W (fun σ h => (ma σ h).thn σ fun x h => .nx (σ.set i (some x)) h) D τ H → tAsg t (gName i) D τ H := fun D τ H ⟨μ, σ, h, rs, rel, p⟩ =>
  ht τ H _ ⟨μ, σ, h, rs, rel, (PostS.thn (rel := RD G) rs p).imp fun v H1 ⟨d, h1, μ1, nx, rel1, rd, p1⟩ => p1 μ1 H1 _ Nx.refl rel1 ((rs.mono nx).set rd i)⟩
theorem set_setIx (hu : X.A.units + 65 < cLine) : PSet X (fun o i v H Q => ∃ μ h d e w, RD G μ H d o ∧ RD G μ H e i ∧ RD G μ H w v ∧ Rel G μ H h ∧ ∃ h', setIx d e w h = some h' ∧ ∀ μ' H', Nx G μ H μ' H' → Rel G μ' H' h' → Q H') := by
  intro pins s σ H o i v ov iv u Q I ro ri rv ⟨μ, h, d, e, w, rd, re, rw', rel, h', eq, post⟩
  unfold setIx at eq
  split at eq
  · obtain ⟨p, ep, rfl⟩ := rd.ref_inv
    split at eq
    · rename_i e0
      split at eq
      · cases re
        split at eq
        · rename_i j ej
          cases eq
          obtain ⟨vs, rs, hs⟩ := rel.lstW e0 ep
          rw [rs.length] at ej
          obtain ⟨r1, nx⟩ := rel.setL (vs := vs.set j v) e0 ep (rs.set j rw')
          exact set_list pins s σ H _ _ v ov iv u Q I ro ri rv ⟨p, vs, _, j, rfl, rfl, hs, ej, post μ _ nx r1⟩
        · cases eq
      · cases eq
    · rename_i kvs e0
      split at eq
      · rename_i hk
        cases eq
        obtain ⟨ky, ek⟩ := isKey_of hk.1
        obtain rfl := key_of ek re
        obtain ⟨qs, rk, hq⟩ := rel.dct e0 ep
        obtain rfl : ov = Value.ref p := ro
        obtain ⟨r1, nx⟩ := rel.setD e0 ep (rk.put ek rw')
        exact d_setItem (by omega) I (DPut.k hq (sz_lt (by rw [← rk.length]; exact hk.2))) ri rv fun s' I' => ⟨_, I', post μ _ nx r1⟩
      · cases eq
    · cases eq
  · cases eq
/-- o[i], p[j] = a, b -/
theorem ks_swap {o i p j : Expr} {mo mi mp mj : Sg → Hh → R D} {p1 p2 p3 p4 : Pos} {kk k2 : Nat} (hc : X.calm = true) (hK : X.K = G.K) (hu : X.A.units + 65 < cLine) (hs : swapsWithSole [.Tuple [.Subscript o i p1, .Subscript p j p2] kk p3] (.Tuple [a, b] k2 p4) pos.line X.env = pure false) (hw : swappedStores [.Tuple [.Subscript o i p1, .Subscript p j p2] kk p3] (.Tuple [a, b] k2 p4) X.env = pure none)
    (h1 : ∀ v, assign (.Subscript o i p1) X.env v = (do
      let ov ← holding [v] (eval o X.env)
      let iv ← holding [v, ov] (eval i X.env)
      standAt p1
      holding [v, ov, iv] (setItem ov iv v)
      release [v, ov, iv] []))
    (h2 : ∀ v, assign (.Subscript p j p2) X.env v = (do
      let ov ← holding [v] (eval p X.env)
      let iv ← holding [v, ov] (eval j X.env)
      standAt p2
      holding [v, ov, iv] (setItem ov iv v)
      release [v, ov, iv] [])) (ea : starEach [a, b] X.env = (false, eval a X.env) :: starEach [b] X.env) (eb : starEach [b] X.env = (false, eval b X.env) :: starEach [] X.env) (ha : PE X a (tE G W ma)) (hb : PE X b (tE G W mb)) (ho : PE X o (tE G W mo)) (hi : PE X i (tE G W mi)) (hp : PE X p (tE G W mp)) (hj : PE X j (tE G W mj)) :
    PS X (.Assign [.Tuple [.Subscript o i p1, .Subscript p j p2] kk p3] (.Tuple [a, b] k2 p4) pos) (tS G W fun σ h => (ma σ h).thn σ fun x h => (mb σ h).thn σ fun y h => (mo σ h).thn σ fun d h => (mi σ h).thn σ fun k h => setS' (setIx d k x h) fun h => (mp σ h).thn σ fun e h => (mj σ h).thn σ fun l h => setS (setIx e l y h) σ) :=
  weakS (ps_asg (pe_tup (pa_cons ha (pa_cons hb pa_nil eb) ea)) (pg_tup hc (pgs_cons (pg_sub ho hi (set_setIx hu) h1) (pgs_cons (pg_sub hp hj (set_setIx hu) h2) pgs_nil rfl) rfl) rfl rfl) hs hw rfl) fun D τ H ⟨μ, σ, h, rs, rel, q⟩ => ⟨μ, σ, h, rs, rel, (PostS.thn (rel := RD G) rs q).imp fun v H1 ⟨d, h1, μ1, nx, rel1, rd, q1⟩ =>
    ⟨μ1, σ, h1, rs.mono nx, rel1, (PostS.thn (rel := RD G) (rs.mono nx) q1).imp fun u H2 ⟨e, h2, μ2, nx2, rel2, re, q2⟩ => ⟨(by decide : 2 ≤ sizeLine), fun z hz => ⟨z, [v, u], rfl, .inl (.inl upd_same), rfl, v, [u], rfl, by
      have nx3 : Nx G μ2 H2 μ2 (upd H2 z (.tup [v, u])) := Nx.updN hz
      have rel3 := rel2.aux (o := .tup [v, u]) hz
      have rs3 := ((rs.mono nx).mono nx2).mono nx3
      have rd3 := (rd.mono nx2).mono nx3
      have re3 := re.mono nx3
      have q3 := q2.later nx3
      refine ⟨μ2, σ, h2, rs3, rel3, (PostS.thn (rel := RD G) rs3 q3).imp fun x H4 ⟨dx, h4, μ4, nx4, rel4, rdx, q4⟩ => ⟨μ4, σ, h4, rs3.mono nx4, rel4, (PostS.thn (rel := RD G) (rs3.mono nx4) q4).imp fun y H5 ⟨dy, h5, μ5, nx5, rel5, rdy, q5⟩ => ?_⟩⟩
      unfold setS' at q5
      split at q5
      · rename_i h6 e6
        have rs5 := (rs3.mono nx4).mono nx5
        refine ⟨μ5, h5, dx, dy, d, rdx.mono nx5, rdy, (rd3.mono nx4).mono nx5, rel5, h6, e6, fun μ6 H6 nx6 rel6 => ⟨u, [], rfl, ?_⟩⟩
        have rs6 := rs5.mono nx6
        have q6 := q5.later nx6
        refine ⟨μ6, σ, h6, rs6, rel6, (PostS.thn (rel := RD G) rs6 q6).imp fun x' H7 ⟨dx', h7, μ7, nx7, rel7, rdx', q7⟩ => ⟨μ7, σ, h7, rs6.mono nx7, rel7, (PostS.thn (rel := RD G) (rs6.mono nx7) q7).imp fun y' H8 ⟨dy', h8, μ8, nx8, rel8, rdy', q8⟩ => ?_⟩⟩
        unfold setS at q8
        split at q8
        · rename_i h9 e9
          exact ⟨μ8, h8, dx', dy', e, rdx'.mono nx8, rdy', ((((re3.mono nx4).mono nx5).mono nx6).mono nx7).mono nx8, rel8, h9, e9, fun μ9 H9 nx9 rel9 => ⟨rfl, q8 μ9 H9 τ nx9 rel9 (((rs6.mono nx7).mono nx8).mono nx9)⟩⟩
        · exact q8.elim
      · exact q5.elim⟩⟩⟩⟩
theorem ks_setix {o i : Expr} {mo mi : Sg → Hh → R D} {p : Pos} (hu : X.A.units + 65 < cLine) (hs : swapsWithSole [.Subscript o i p] a pos.line X.env = pure false) (hw : swappedStores [.Subscript o i p] a X.env = pure none)
    (ha' : ∀ v, assign (.Subscript o i p) X.env v = (do
      let ov ← holding [v] (eval o X.env)
      let iv ← holding [v, ov] (eval i X.env)
      standAt p
      holding [v, ov, iv] (setItem ov iv v)
      release [v, ov, iv] [])) (ha : PE X a (tE G W ma)) (ho : PE X o (tE G W mo)) (hi : PE X i (tE G W mi)) :
    PS X (.Assign [.Subscript o i p] a pos) (tS G W fun σ h => (ma σ h).thn σ fun v h => (mo σ h).thn σ fun x h => (mi σ h).thn σ fun k h => setS (setIx x k v h) σ) :=
  weakS (ps_asg ha (pg_sub ho hi (set_setIx hu) ha') hs hw rfl) fun D τ H ⟨μ, σ, h, rs, rel, p⟩ => ⟨μ, σ, h, rs, rel, (PostS.thn (rel := RD G) rs p).imp fun v H1 ⟨d, h1, μ1, nx, rel1, rd, p1⟩ =>
    ⟨μ1, σ, h1, rs.mono nx, rel1, (PostS.thn (rel := RD G) (rs.mono nx) p1).imp fun ov H2 ⟨e, h2, μ2, nx2, rel2, re, p2⟩ =>
      ⟨μ2, σ, h2, (rs.mono nx).mono nx2, rel2, (PostS.thn (rel := RD G) ((rs.mono nx).mono nx2) p2).imp fun iv H3 ⟨k, h3, μ3, nx3, rel3, rk, p3⟩ => by
        unfold setS at p3
        split at p3
        · rename_i h4 e4
          exact ⟨μ3, h3, e, k, d, re.mono nx3, rk, (rd.mono nx2).mono nx3, rel3, h4, e4, fun μ' H' nx4 rel4 => p3 μ' H' τ nx4 rel4 ((((rs.mono nx).mono nx2).mono nx3).mono nx4)⟩
        · exact p3.elim⟩⟩⟩
theorem ks_ex (hs : swapsWith a none pos.line X.env = pure false) (ha : PE X a (tE G W ma)) : PS X (.Expr a pos) (tS G W fun σ h => (ma σ h).thn σ fun _ h => .nx σ h) :=
  weakS (ps_expr ha hs) fun D τ H ⟨μ, σ, h, rs, rel, p⟩ => ⟨μ, σ, h, rs, rel, (PostS.thn (rel := RD G) rs p).imp fun v H1 ⟨d, h1, μ1, nx, rel1, rd, p1⟩ => p1 μ1 H1 τ Nx.refl rel1 (rs.mono nx)⟩
theorem ks_ret (ha : PE X a (tE G W ma)) : PS X (.Return (some a) pos) (tS G W fun σ h => (ma σ h).thn σ fun x h => .rt x h) :=
  weakS (ps_ret ha) fun D τ H ⟨μ, σ, h, rs, rel, p⟩ => ⟨μ, σ, h, rs, rel, (PostS.thn (rel := RD G) rs p).imp fun v H1 ⟨d, h1, μ1, nx, rel1, rd, p1⟩ => p1 μ1 H1 v Nx.refl rel1 rd⟩
theorem ks_pass : PS X (.Pass pos) (tS G W fun σ h => .nx σ h) :=
  weakS ps_pass fun D τ H ⟨μ, σ, h, rs, rel, p⟩ => p μ H τ Nx.refl rel rs
theorem ks_iff {mt : Sg → Hh → R Bool} {sts' : List Stmt} (hc : PT X c (tT G W mt)) (h1 : PSs X sts (tS G W ms)) (h2 : PSs X sts' (tS G W ms')) : PS X (.If c sts sts' pos) (tS G W fun σ h => (mt σ h).thn σ fun k h => iteS k (ms σ h) (ms' σ h)) :=
  weakS (ps_if hc h1 h2) fun D τ H ⟨μ, σ, h, rs, rel, p⟩ => ⟨μ, σ, h, rs, rel, (PostS.thn (rel := rB) rs p).imp fun v H1 ⟨d, h1, μ1, nx, rel1, rd, p1⟩ => by
    obtain rfl : d = v := rd
    cases d with
    | true => exact iteT ⟨μ1, σ, h1, rs.mono nx, rel1, p1⟩
    | false => exact iteF ⟨μ1, σ, h1, rs.mono nx, rel1, p1⟩⟩
theorem ks_nil : PSs X [] (tS G W fun σ h => .nx σ h) :=
  weakSs pss_nil fun D τ H ⟨μ, σ, h, rs, rel, p⟩ => p μ H τ Nx.refl rel rs
theorem ks_cons (h1 : PS X st (tS G W ms)) (h2 : PSs X sts (tS G W ms')) : PSs X (st :: sts) (tS G W fun σ h => (ms σ h).thn fun σ h => ms' σ h) :=
  weakSs (pss_cons h1 h2) fun D τ H ⟨μ, σ, h, rs, rel, p⟩ => ⟨μ, σ, h, rs, rel, p.seq.imp (fun τ' H' ⟨σ1, h1, μ1, nx, rel1, rs1, p1⟩ => ⟨μ1, σ1, h1, rs1, rel1, p1⟩) (fun _ _ z => z) (fun _ _ z => z) (fun _ _ z => z)⟩
theorem ks_never : PS X st (tS G W fun _ _ => .bad) := weakS ps_never fun D τ H ⟨μ, σ, h, rs, rel, p⟩ => p
theorem ks_for {mi : Sg → Hh → R Wk} {t : Tg} {tg iter : Expr} (hp : PassesOwn (model X.prog X.w) X.A X.env X.xe) (hc : X.calm = true) (hi : PI X tg iter (tI G W mi)) (hg : PG X tg (tTg G t)) (hb : PSs X sts (tS G W ms)) (hfs : ∀ x, foldedSetIterable iter X.env x = pure x) :
    PS X (.For tg iter sts [] pos) (tS G W fun σ h => (mi σ h).thn σ fun w h => forL w (fun x σ h => putS' (Tg.put t x h σ) fun σ' => ms σ' h) w.items σ h) := by
  refine weakS (ps_for hp hc hi hg hb hfs) fun D τ H ⟨μ, σ, h, rs, rel, p⟩ => ⟨μ, σ, h, rs, rel, (PostS.thn (rel := WalkD G) rs p).imp fun J H1 ⟨w, h1, μ1, nx1, rel1, wk, p1⟩ => ?_⟩
  have rs1 := rs.mono nx1
  generalize hbd : (fun x σ h => putS' (Tg.put t x h σ) fun σ' => ms σ' h : Py.D → Sg → Hh → RS) = bd at p1
  have okw : ∀ {xs : List Py.D} {ss : Sg} {hh : Hh} {μ : List Addr} {H : Hp}, PostS G W D μ H (forL w bd xs ss hh) → w.ok hh = true := by
    intro xs ss hh μ H pp
    cases xs with
    | nil =>
      unfold forL at pp
      split at pp
      · assumption
      · exact pp.elim
    | cons x xs =>
      unfold forL at pp
      split at pp
      · assumption
      · exact pp.elim
  have walk : Walk J w.items.length (fun H => ∃ μ h, Nx G μ1 H1 μ H ∧ Rel G μ H h ∧ w.ok h = true)
      (fun i H x H' => ∀ μ h, Nx G μ1 H1 μ H → Rel G μ H h → w.ok h = true → ∃ d, w.items[i]? = some d ∧ Nx G μ H μ H' ∧ Rel G μ H' h ∧ RD G μ H' d x) :=
    ⟨fun i H hi ⟨μ, h, nx, r, ok⟩ => (wk μ H h nx r ok).1 i hi, fun H ⟨μ, h, nx, r, ok⟩ => (wk μ H h nx r ok).2.1,
      fun i H x H' hi _ y μ h nx r ok => (wk μ H h nx r ok).2.2 i x H' hi y⟩
  refine for_it walk (fun i τ H => ∃ μ σ h, Nx G μ1 H1 μ H ∧ RelS G μ H σ τ ∧ Rel G μ H h ∧ PostS G W D μ H (forL w bd (w.items.drop i) σ h))
    ⟨μ1, σ, h1, Nx.refl, rs1, rel1, by rw [List.drop_zero]; exact p1⟩ (fun i τ H _ ⟨μ, σ, h, nx, rs, r, pp⟩ => ⟨μ, h, nx, r, okw pp⟩) (fun i x τ H H' hi ⟨μ, σ, h, nx, rs, r, pp⟩ y => ?_) (fun τ H ⟨μ, σ, h, nx, rs, r, pp⟩ => ?_)
  · have ok := okw pp
    obtain ⟨d, ed, nx3, r3, rd⟩ := y μ h nx r ok
    have edr : w.items.drop i = d :: w.items.drop (i + 1) := by
      rw [List.drop_eq_getElem_cons hi]
      congr 1
      rw [List.getElem?_eq_getElem hi] at ed
      exact Option.some.inj ed
    rw [edr] at pp
    unfold forL at pp
    rw [if_pos ok] at pp
    have ebd : bd d σ h = putS' (Tg.put t d h σ) fun σ' => ms σ' h := by rw [← hbd]
    cases ep : Tg.put t d h σ with
    | none =>
      rw [ebd, ep] at pp
      exact pp.elim
    | some σ' =>
      rw [ebd, ep] at pp
      have pp' : PostS G W D μ H (match ms σ' h with
        | .nx σ' h' => forL w bd (w.items.drop (i + 1)) σ' h'
        | .ct σ' h' => forL w bd (w.items.drop (i + 1)) σ' h'
        | .bk σ' h' => .nx σ' h'
        | .rt d h' => .rt d h'
        | .ex x σ' h' => .ex x σ' h'
        | .bad => .bad) := pp
      refine ⟨μ, σ, h, d, σ', rs.mono nx3, r3, rd, ep, fun τ' rs' _ => ⟨μ, σ', h, rs', r3, ?_⟩⟩
      cases em : ms σ' h with
      | nx σ2 h2 =>
        rw [em] at pp'
        exact fun μ4 H4 τ4 nx4 r4 rs4 => ⟨μ4, σ2, h2, (nx.trans nx3).trans nx4, rs4, r4, PostS.later pp' (nx3.trans nx4)⟩
      | ct σ2 h2 =>
        rw [em] at pp'
        exact fun μ4 H4 τ4 nx4 r4 rs4 => ⟨μ4, σ2, h2, (nx.trans nx3).trans nx4, rs4, r4, PostS.later pp' (nx3.trans nx4)⟩
      | bk σ2 h2 =>
        rw [em] at pp'
        exact fun μ4 H4 τ4 nx4 r4 rs4 => pp' μ4 H4 τ4 (nx3.trans nx4) r4 rs4
      | rt v2 h2 =>
        rw [em] at pp'
        exact fun μ4 H4 τ4 nx4 r4 rs4 => pp' μ4 H4 τ4 (nx3.trans nx4) r4 rs4
      | ex x2 σ2 h2 =>
        rw [em] at pp'
        exact fun μ4 H4 τ4 c4 d4 nx4 r4 rs4 => pp' μ4 H4 τ4 c4 d4 (nx3.trans nx4) r4 rs4
      | bad => rw [em] at pp'; exact pp'.elim
  · rw [List.drop_length] at pp
    unfold forL at pp
    split at pp
    · exact pp μ H τ Nx.refl r rs
    · exact pp.elim
end
end Py
/-! repr of data with dicts; tuple(reversed(tuple)); dicts of one pair; a list backwards. -/
namespace Py
open PySem L2 RZ
/-! ### reading with dicts -/
mutual
inductive Rq (h : Heap) : Value → PyData → Prop
  | none : Rq h .none .none
  | bool (b : Bool) : Rq h (.bool b) (.bool b)
  | int (i : Int) (t : Tok) : Rq h (.int i t) (.int i)
  | str (x : Str) (t : Tok) : Rq h (.str x t) (.str x)
  | list {a : Addr} {o : Obj} {vs : Array Value} {n : Nat} {xs : List PyData} : h.get? a = some o → o.cls = .type "list" → o.data = .seq vs n → RqAll h vs.toList xs → Rq h (.ref a) (.list xs)
  | tuple {a : Addr} {o : Obj} {vs : Array Value} {n : Nat} {xs : List PyData} : h.get? a = some o → o.cls = .type "tuple" → o.data = .seq vs n → RqAll h vs.toList xs → Rq h (.ref a) (.tuple xs)
  | dict {a : Addr} {o : Obj} {es : Array DictEntry} {n : Nat} {kvs : List (PyData × PyData)} : (a == sysModules) = false → h.get? a = some o → o.cls = .type "dict" → o.data = .dict es n → RqAll h (es.toList.map (·.key)) (kvs.map (·.1)) →
      RqAll h (es.toList.map (·.val)) (kvs.map (·.2)) → Rq h (.ref a) (.dict kvs)
inductive RqAll (h : Heap) : List Value → List PyData → Prop
  | nil : RqAll h [] []
  | cons {v : Value} {vs : List Value} {d : PyData} {ds : List PyData} : Rq h v d → RqAll h vs ds → RqAll h (v :: vs) (d :: ds)
end
section
variable {hp : Heap}
mutual
theorem Rq.rd : ∀ {v : Value} {d : PyData}, Rq hp v d → ∃ as, Reads hp v d as
  | _, _, .none => ⟨_, .none⟩
  | _, _, .bool b => ⟨_, .bool b⟩
  | _, _, .int i t => ⟨_, .int i t⟩
  | _, _, .str x t => ⟨_, .str x t⟩
  | _, _, .list h1 h2 h3 h4 => let ⟨_, q⟩ := RqAll.rd h4; ⟨_, .list h1 h2 h3 q⟩
  | _, _, .tuple h1 h2 h3 h4 => let ⟨_, q⟩ := RqAll.rd h4; ⟨_, .tuple h1 h2 h3 q⟩
  | _, _, .dict _ h1 h2 h3 h4 h5 => let ⟨_, q⟩ := RqAll.rd h4; let ⟨_, q'⟩ := RqAll.rd h5; ⟨_, .dict h1 h2 h3 q q'⟩
theorem RqAll.rd : ∀ {vs : List Value} {ds : List PyData}, RqAll hp vs ds → ∃ as, ReadsAll hp vs ds as
  | _, _, .nil => ⟨_, .nil⟩
  | _, _, .cons r rs => let ⟨_, q⟩ := Rq.rd r; let ⟨_, q'⟩ := RqAll.rd rs; ⟨_, .cons q q'⟩
end
variable {prog : Program} {w : World}
mutual
theorem Rq.kp : ∀ {v : Value} {d : PyData}, Rq hp v d → d.showable = true → d.shown.length ≤ sizeLine →
    ∃ bs, ReadAtMost hp d.depth bs ∧ ReprK prog w bs hp d.depth v d.shown
  | _, _, .none, _, _ => ⟨[], nofun, by
    simp only [PyData.shown]
    exact .of_is ReprIs.none _ _ _⟩
  | _, _, .bool b, _, _ => ⟨[], nofun, by
    simp only [PyData.shown]
    exact .of_is (ReprIs.bool b) _ _ _⟩
  | _, _, .int i t, hs, _ => ⟨[], nofun, by
    simp only [PyData.shown]
    exact .of_is (ReprIs.int t (by simpa [PyData.showable] using hs)) _ _ _⟩
  | _, _, .str x t, _, hz => ⟨[], nofun, by
    simp only [PyData.shown] at hz ⊢
    exact .of_is (ReprIs.str x t hz) _ _ _⟩
  | _, _, .list (a := a) (vs := vs) (xs := xs) h1 h2 h3 h4, hs, hz => by
    simp only [PyData.shown] at hz
    simp only [PyData.showable] at hs
    obtain ⟨bs, hb, hk⟩ := RqAll.kp h4 hs fun t ht => Nat.le_trans (listText_mem_le ht) hz
    obtain ⟨as, r⟩ := (Rq.list h1 h2 h3 h4).rd
    have hna : a ∉ bs := not_mem_of_deeper r (by simp only [PyData.depth]; exact Nat.lt_succ_self _) hb
    refine ⟨a :: bs, .cons r (Nat.le_of_eq rfl) (hb.mono (by simp only [PyData.depth]; exact Nat.le_succ _)), ?_⟩
    simp only [PyData.depth, PyData.shown]
    obtain ⟨l⟩ := vs
    cases l with
    | nil =>
      cases (show RqAll hp [] xs from h4)
      simp only [PyData.shownAll, listText_nil]
      exact ReprK.listEmpty h1 h2 h3
    | cons x l =>
      exact ReprK.list h1 h2 h3 hna (by simpa using hk.length_eq) fun i y e => hk.item i y (by simpa using e)
  | _, _, .tuple (a := a) (xs := xs) h1 h2 h3 h4, hs, hz => by
    simp only [PyData.shown] at hz
    simp only [PyData.showable] at hs
    obtain ⟨bs, hb, hk⟩ := RqAll.kp h4 hs fun t ht => Nat.le_trans (tupleText_mem_le ht) hz
    obtain ⟨as, r⟩ := (Rq.tuple h1 h2 h3 h4).rd
    have hna : a ∉ bs := not_mem_of_deeper r (by simp only [PyData.depth]; exact Nat.lt_succ_self _) hb
    refine ⟨a :: bs, .cons r (Nat.le_of_eq rfl) (hb.mono (by simp only [PyData.depth]; exact Nat.le_succ _)), ?_⟩
    simp only [PyData.depth, PyData.shown]
    exact ReprK.tuple h1 h2 h3 hna hk
  | _, _, .dict (a := a) (es := es) (kvs := kvs) h0 h1 h2 h3 h4 h5, hs, hz => by
    simp only [PyData.shown] at hz
    simp only [PyData.showable] at hs
    obtain ⟨s1, s2⟩ := PyData.showableKv_split kvs hs
    obtain ⟨b1, hb1, k1⟩ := RqAll.kp h4 s1 fun t ht =>
      let ⟨p, hp', hl⟩ := PyData.shownKv_key_le kvs t ht
      Nat.le_trans hl (Nat.le_trans (dictText_mem_le hp') hz)
    obtain ⟨b2, hb2, k2⟩ := RqAll.kp h5 s2 fun t ht =>
      let ⟨p, hp', hl⟩ := PyData.shownKv_val_le kvs t ht
      Nat.le_trans hl (Nat.le_trans (dictText_mem_le hp') hz)
    obtain ⟨as, r⟩ := (Rq.dict h0 h1 h2 h3 h4 h5).rd
    have hb : ReadAtMost hp (PyData.depthKv kvs) (b1 ++ b2) :=
      (hb1.mono (PyData.depthAll_keys_le kvs)).append (hb2.mono (PyData.depthAll_vals_le kvs))
    have hna : a ∉ b1 ++ b2 := not_mem_of_deeper r (by simp only [PyData.depth]; exact Nat.lt_succ_self _) hb
    refine ⟨a :: (b1 ++ b2), .cons r (Nat.le_of_eq rfl) (hb.mono (by simp only [PyData.depth]; exact Nat.le_succ _)), ?_⟩
    simp only [PyData.depth, PyData.shown, PyData.shownKv_eq]
    refine ReprK.dict h1 h2 h3 h0 hna (ReprEntriesK.of_two es.toList _ _ ?_ ?_)
    · exact k1.more_le (fun b hb => List.mem_append_left _ hb) (PyData.depthAll_keys_le kvs)
    · exact k2.more_le (fun b hb => List.mem_append_right _ hb) (PyData.depthAll_vals_le kvs)
theorem RqAll.kp : ∀ {vs : List Value} {ds : List PyData}, RqAll hp vs ds → PyData.showableAll ds = true → (∀ t ∈ PyData.shownAll ds, t.length ≤ sizeLine) →
    ∃ bs, ReadAtMost hp (PyData.depthAll ds) bs ∧ ReprAllK prog w bs hp (PyData.depthAll ds) vs (PyData.shownAll ds)
  | _, _, .nil, _, _ => ⟨[], nofun, by
    simp only [PyData.shownAll]
    exact .nil⟩
  | _, _, .cons r rs, hs, hz => by
    simp only [PyData.showableAll, Bool.and_eq_true] at hs
    simp only [PyData.shownAll, List.mem_cons, forall_eq_or_imp] at hz
    obtain ⟨b1, hb1, k1⟩ := Rq.kp r hs.1 hz.1
    obtain ⟨b2, hb2, k2⟩ := RqAll.kp rs hs.2 hz.2
    simp only [PyData.depthAll, PyData.shownAll]
    refine ⟨b1 ++ b2, (hb1.mono (Nat.le_max_left _ _)).append (hb2.mono (Nat.le_max_right _ _)), ?_⟩
    refine .cons ((k1.more fun b hb => List.mem_append_left _ hb).level_le (Nat.le_max_left _ _)) ?_
    exact k2.more_le (fun b hb => List.mem_append_right _ hb) (Nat.le_max_right _ _)
end
theorem repr_rq {a : Addr} {d : PyData} {A : Around} {E : Value → Shared → Prop} {s : Shared} {Q : Value → Shared → Prop} (r : Rq s.heap (.ref a) d) (hs : d.showable = true) (hz : d.shown.length ≤ sizeLine) (hg : A.guards = some []) (hu : A.units + (d.depth + 1) < cLine)
    (hQ : ∀ h' u tk, (∀ b o, s.heap.get? b = some o → h'.get? b = some o) → Q (.str d.shown u) { s with heap := h', toks := tk }) : wpAny (model prog w) A (call (.builtin "repr") [.ref a]) Q E s := by
  obtain ⟨as, r0⟩ := r.rd
  cases r with
  | list h1 h2 h3 h4 =>
    rename_i o vs n xs
    simp only [PyData.shown] at hz hQ
    simp only [PyData.showable] at hs
    simp only [PyData.depth] at hu
    obtain ⟨bs, hb, hk⟩ := RqAll.kp (prog := prog) (w := w) h4 hs fun t ht => Nat.le_trans (listText_mem_le ht) hz
    have hna : a ∉ bs := not_mem_of_deeper r0 (by simp only [PyData.depth]; exact Nat.lt_succ_self _) hb
    refine call_repr_slot (by omega) ⟨o, h1, h2⟩ F.slot_list_repr.toG ?_
    obtain ⟨l⟩ := vs
    cases l with
    | nil =>
      cases (show RqAll s.heap [] xs from h4)
      simp only [PyData.shownAll, listText_nil] at hQ
      exact call_list_repr_empty ⟨o, h1, h2⟩ h1 h3 ⟨_, _, rfl, hQ s.heap _ _ fun _ _ e => e⟩
    | cons x l =>
      exact call_list_reprK h1 h2 h3 hna (by simpa using hk.length_eq) (fun i y e => hk.item i y (by simpa using e)) hg (fun b _ => Clear.nil b) (by show A.units + 1 + _ < _; omega) (fun _ _ e => e) (fun h' u tk k => ⟨_, _, rfl, hQ h' u tk k⟩) hz
  | tuple h1 h2 h3 h4 =>
    rename_i o vs n xs
    simp only [PyData.shown] at hz hQ
    simp only [PyData.showable] at hs
    simp only [PyData.depth] at hu
    obtain ⟨bs, hb, hk⟩ := RqAll.kp (prog := prog) (w := w) h4 hs fun t ht => Nat.le_trans (tupleText_mem_le ht) hz
    have hna : a ∉ bs := not_mem_of_deeper r0 (by simp only [PyData.depth]; exact Nat.lt_succ_self _) hb
    refine call_repr_slot (by omega) ⟨o, h1, h2⟩ F.slot_tuple_repr ?_
    exact call_tuple_reprK h1 h2 h3 hna hk hg (fun b _ => Clear.nil b) (by show A.units + 1 + _ < _; omega) (fun _ _ e => e) (fun h' u tk k => ⟨_, _, rfl, hQ h' u tk k⟩) hz
  | dict h0 h1 h2 h3 h4 h5 =>
    rename_i o es n kvs
    simp only [PyData.shown] at hz
    simp only [PyData.showable] at hs
    simp only [PyData.depth] at hu
    obtain ⟨s1, s2⟩ := PyData.showableKv_split kvs hs
    obtain ⟨b1, hb1, k1⟩ := RqAll.kp (prog := prog) (w := w) h4 s1 fun t ht =>
      let ⟨p, hp', hl⟩ := PyData.shownKv_key_le kvs t ht
      Nat.le_trans hl (Nat.le_trans (dictText_mem_le hp') hz)
    obtain ⟨b2, hb2, k2⟩ := RqAll.kp (prog := prog) (w := w) h5 s2 fun t ht =>
      let ⟨p, hp', hl⟩ := PyData.shownKv_val_le kvs t ht
      Nat.le_trans hl (Nat.le_trans (dictText_mem_le hp') hz)
    have hb : ReadAtMost s.heap (PyData.depthKv kvs) (b1 ++ b2) :=
      (hb1.mono (PyData.depthAll_keys_le kvs)).append (hb2.mono (PyData.depthAll_vals_le kvs))
    have hna : a ∉ b1 ++ b2 := not_mem_of_deeper r0 (by simp only [PyData.depth]; exact Nat.lt_succ_self _) hb
    refine call_repr_slot (by omega) ⟨o, h1, h2⟩ F.slot_dict_repr ?_
    simp only [PyData.shown, PyData.shownKv_eq] at hQ
    refine call_dict_reprK (d := PyData.depthKv kvs) h1 h2 h3 h0 hna (ReprEntriesK.of_two es.toList _ _ ?_ ?_) hg (fun b _ => Clear.nil b) (by show A.units + 1 + _ < _; omega) (fun _ _ e => e) (fun h' u tk k => ⟨_, _, rfl, hQ h' u tk k⟩) (by rw [← PyData.shownKv_eq]; exact hz)
    · exact k1.more_le (fun b hb => List.mem_append_left _ hb) (PyData.depthAll_keys_le kvs)
    · exact k2.more_le (fun b hb => List.mem_append_right _ hb) (PyData.depthAll_vals_le kvs)
end

/-! ### what stands in the small heap -/
theorem depth_zip : ∀ (f : Nat) (ks vs : List PyData), PyData.depthAll ks ≤ f → PyData.depthAll vs ≤ f → PyData.depthKv (ks.zip vs) ≤ f
  | _, [], _, _, _ => by simp [PyData.depthKv]
  | _, _ :: _, [], _, _ => by simp [PyData.depthKv]
  | f, k :: ks, v :: vs, h1, h2 => by
    simp only [PyData.depthAll] at h1 h2
    have ih := depth_zip f ks vs (by omega) (by omega)
    simp only [List.zip_cons_cons, PyData.depthKv]
    omega
theorem mapM_len {α β : Type} {g : α → Option β} : ∀ {xs : List α} {ys : List β}, xs.mapM g = some ys → ys.length = xs.length
  | [], ys, e => by simp at e; subst e; rfl
  | x :: xs, ys, e => by
    rw [List.mapM_cons] at e
    simp only [Option.pure_def, Option.bind_eq_bind, Option.bind_eq_some_iff] at e
    obtain ⟨y, _, zs, h2, e⟩ := e
    cases e
    simp [mapM_len h2]
section
variable {X : Cx} {G : Cfg} {μ : List Addr} {H : Hp} {h : Hh} {pins : List (Addr × Obj)} {τ : St} {s : Shared}
theorem rqs_of {f : Nat} {g : D → Option PyData} (ih : ∀ d v u p, RD G μ H d v → RelV v u → g d = some p → Rq s.heap u p ∧ p.depth ≤ f) : ∀ {ds : List D} {vs : List V} {us : List Value} {ps : List PyData}, RDs G μ H ds vs → Vals vs us → ds.mapM g = some ps → RqAll s.heap us ps ∧ PyData.depthAll ps ≤ f
  | [], _, _, ps, r, q, e => by
    cases r; cases q
    simp at e; subst e
    exact ⟨.nil, by simp [PyData.depthAll]⟩
  | d :: ds, _, _, ps, r, q, e => by
    cases r with
    | cons r rs =>
      cases q with
      | cons q qs =>
        rw [List.mapM_cons] at e
        simp only [Option.pure_def, Option.bind_eq_bind, Option.bind_eq_some_iff] at e
        obtain ⟨y, h1, zs, h2, e⟩ := e
        cases e
        obtain ⟨k1, k2⟩ := ih _ _ _ _ r q h1
        obtain ⟨k3, k4⟩ := rqs_of ih rs qs h2
        refine ⟨.cons k1 k3, ?_⟩
        simp only [PyData.depthAll]
        omega
theorem rqk_of {P : Program} {w : World} {f : Nat} {g : D → Option PyData} (ih : ∀ d v u p, RD G μ H d v → RelV v u → g d = some p → Rq s.heap u p ∧ p.depth ≤ f) : ∀ {kvs : List (D × D)} {qs : List (L2.Key × V)} {vs : List (L2.Key × Value)} {es : List DictEntry} {ks ps : List PyData}, RK G μ H kvs qs → KV qs vs → Pairs (mixKind P w) es vs → (kvs.map (·.1)).mapM keyP = some ks → (kvs.map (·.2)).mapM g = some ps →
    (RqAll s.heap (es.map (·.key)) ks ∧ PyData.depthAll ks ≤ f) ∧ RqAll s.heap (es.map (·.val)) ps ∧ PyData.depthAll ps ≤ f
  | [], _, _, _, ks, ps, r, q, z, e1, e2 => by
    cases r; cases q; cases z
    simp at e1 e2; subst e1 e2
    exact ⟨⟨.nil, by simp [PyData.depthAll]⟩, .nil, by simp [PyData.depthAll]⟩
  | (k, d) :: kvs, _, _, _, ks, ps, r, q, z, e1, e2 => by
    cases r with
    | cons ek r rs =>
      cases q with
      | cons q qs =>
        cases z with
        | cons z1 z2 zs =>
          rw [List.map_cons, List.mapM_cons] at e1 e2
          simp only [Option.pure_def, Option.bind_eq_bind, Option.bind_eq_some_iff] at e1 e2
          obtain ⟨y, h1, ys, h2, e1⟩ := e1
          cases e1
          obtain ⟨y', h1', ys', h2', e2⟩ := e2
          cases e2
          obtain ⟨⟨k1, k2⟩, k3, k4⟩ := rqk_of ih rs qs zs h2 h2'
          obtain ⟨j1, j2⟩ := ih _ _ _ _ r q.2 h1'
          have kk : ∀ {u : Value}, keyIs (Prod.fst _) u = true → Rq s.heap u y ∧ y.depth = 0 := fun {u} hu => by
            rw [← q.1] at hu
            cases k with
            | int i =>
              simp only [keyD, Option.some.injEq] at ek
              simp only [keyP, Option.some.injEq] at h1
              subst h1
              rcases keyIs_shape hu with ⟨i', t, ea, rfl⟩ | ⟨x, t, ea, rfl⟩
              · rw [← ek] at ea
                cases ea
                exact ⟨.int _ _, by simp [PyData.depth]⟩
              · rw [← ek] at ea
                cases ea
            | str s' =>
              simp only [keyD, Option.some.injEq] at ek
              simp only [keyP] at h1
              split at h1
              · cases h1
                rcases keyIs_shape hu with ⟨i', t, ea, rfl⟩ | ⟨x, t, ea, rfl⟩
                · rw [← ek] at ea
                  cases ea
                · rw [← ek] at ea
                  cases ea
                  exact ⟨.str _ _, by simp [PyData.depth]⟩
              · cases h1
            | _ => simp [keyP] at h1
          obtain ⟨l1, l2⟩ := kk z1
          refine ⟨⟨.cons l1 k1, ?_⟩, .cons (by dsimp only; rw [z2]; exact j1) k3, ?_⟩
          · simp only [PyData.depthAll]
            omega
          · simp only [PyData.depthAll]
            omega
theorem toQ_rq (hK : X.K = G.K) (I : Inv X pins τ H s) (rel : Rel G μ H h) : ∀ (f : Nat) (d : D) (v : V) (u : Value) (p : PyData), RD G μ H d v → RelV v u → toQ h f d = some p → Rq s.heap u p ∧ p.depth ≤ f
  | f, .non, v, u, p, r, q, e => by
    cases r
    cases (show u = Value.none from q)
    simp [toQ] at e; subst e
    exact ⟨.none, by simp [PyData.depth]⟩
  | f, .bl b, v, u, p, r, q, e => by
    cases r
    cases (show u = Value.bool b from q)
    simp [toQ] at e; subst e
    exact ⟨.bool b, by simp [PyData.depth]⟩
  | f, .int i, v, u, p, r, q, e => by
    cases r
    obtain ⟨t, rfl⟩ := q
    simp [toQ] at e; subst e
    exact ⟨.int i t, by simp [PyData.depth]⟩
  | f, .str x, v, u, p, r, q, e => by
    cases r
    obtain ⟨t, rfl⟩ := q
    unfold toQ at e
    split at e
    · cases e
      exact ⟨.str _ t, by simp [PyData.depth]⟩
    · cases e
  | 0, .tup xs, v, u, p, r, q, e => by simp [toQ] at e
  | f + 1, .tup xs, v, u, p, r, q, e => by
    obtain ⟨a, vs, rfl, hs, rs⟩ := r.tup_inv
    simp only [toQ, Option.map_eq_some_iff] at e
    obtain ⟨ps, e1, rfl⟩ := e
    obtain rfl : u = Value.ref a := q
    rw [← hK] at hs
    obtain ⟨its, rv, ⟨o, ho, hc, n, hd⟩, _⟩ := I.tuple hs
    obtain ⟨k1, k2⟩ := rqs_of (toQ_rq hK I rel f) rs rv e1
    refine ⟨.tuple ho hc hd (by simpa using k1), ?_⟩
    simp only [PyData.depth]
    omega
  | 0, .ref n, v, u, p, r, q, e => by simp [toQ] at e
  | f + 1, .ref n, v, u, p, r, q, e => by
    obtain ⟨a, ea, rfl⟩ := r.ref_inv
    obtain rfl : u = Value.ref a := q
    simp only [toQ] at e
    split at e
    · rename_i xs fz e0
      simp only [Option.map_eq_some_iff] at e
      obtain ⟨ps, e1, rfl⟩ := e
      obtain ⟨vs, rs, hs⟩ := rel.lst e0 ea
      rw [← hK] at hs
      obtain ⟨its, rv, ⟨o, n, ho, hc, _, hd⟩, _⟩ := I.list hs
      obtain ⟨k1, k2⟩ := rqs_of (toQ_rq hK I rel f) rs rv e1
      refine ⟨.list ho hc hd (by simpa using k1), ?_⟩
      simp only [PyData.depth]
      omega
    · rename_i kvs e0
      split at e
      · rename_i ks vs e1 e2
        cases e
        obtain ⟨qs, rk, hq⟩ := rel.dct e0 ea
        obtain ⟨_, hS, us, kv, o, es, ep, ho, hx, hd, _, hl, _⟩ := (show ObjOk X.prog X.w H s.heap a (.dK qs) from I.hok a _ hq)
        obtain ⟨⟨k1, k2⟩, k3, k4⟩ := rqk_of (toQ_rq hK I rel f) rk kv hl e1 e2
        have l1 := mapM_len e1
        have l2 := mapM_len e2
        have l3 : ks.length = vs.length := by rw [l1, l2, List.length_map, List.length_map]
        refine ⟨.dict hS ho hx.1 hd ?_ ?_, ?_⟩
        · rw [List.map_fst_zip (by omega)]; exact k1
        · rw [List.map_snd_zip (by omega)]; exact k3
        · have := depth_zip f ks vs k2 k4
          simp only [PyData.depth]
          omega
      · cases e
    · cases e
  | f, .fn g, v, u, p, r, q, e => by cases f <;> simp [toQ] at e
end

section
variable {X : Cx} {G : Cfg} {W : WX} {a b : Expr} {ma mb : Sg → Hh → R D} {pos : Pos}
theorem RDs.rev {μ : List Addr} {H : Hp} : ∀ {ds : List D} {vs : List V}, RDs G μ H ds vs → RDs G μ H ds.reverse vs.reverse
  | _, _, .nil => .nil
  | _, _, .cons r rs => by
    rw [List.reverse_cons, List.reverse_cons]
    exact rs.rev.append (.cons r .nil)
theorem k_srev {k : Nat} {p1 p2 p3 : Pos} (hK : X.K = G.K) (ha : PE X a (tE G W ma)) :
    PE X (.Subscript a (.Slice none none (some (.UnaryOp .USub (.Constant (.int 1) k p1) p2)) p3) pos) (tE G W fun σ h => (ma σ h).bind fun x h => srevR x h) :=
  weakE (pe_revL ha) fun τ H Q ⟨μ, σ, h, rs, rel, p⟩ => ⟨μ, σ, h, rs, rel, (Post.bind (rel' := RD G) p).imp fun x H1 ⟨d, h1, μ1, nx, rel1, rd, p1⟩ => by
    unfold srevR at p1
    split at p1
    · obtain ⟨q, eq, rfl⟩ := rd.ref_inv
      split at p1
      · rename_i e0
        obtain ⟨vs, rvs, hv⟩ := rel1.lst e0 eq
        exact ⟨q, vs, rfl, by rw [hK]; exact hv, fun z hz => p1 _ _ _ (Nx.push hz) (rel1.newL hz rvs.rev) (.ref rel1.newAt)⟩
      · exact p1.elim
    · exact p1.elim⟩
/-- {a: b} -/
theorem k_dct1 (ha : PE X a (tE G W ma)) (hb : PE X b (tE G W mb)) : PE X (.Dict [some a] [b] pos) (tE G W fun σ h => (ma σ (h ++ [.dct [] false])).bind fun x h1 => (mb σ h1).bind fun y h2 => dct1R h.length x y h2) :=
  weakE (pe_disp (pps_cons ha hb pps_nil) rfl rfl (by simp) (by simp)) fun τ H Q ⟨μ, σ, h, rs, rel, p⟩ => fun q hq => by
    have nx : Nx G μ H (μ ++ [q]) (upd H q (.dK [])) := Nx.push hq
    have rel1 : Rel G (μ ++ [q]) (upd H q (.dK [])) (h ++ [.dct [] false]) := rel.new hq rfl ⟨[], .nil, by simp [upd_same]⟩
    have p' := Post.later p nx
    refine ⟨μ ++ [q], σ, h ++ [.dct [] false], rs.mono nx, rel1, (Post.bind (rel' := RD G) p').imp fun x H1 ⟨d, h1, μ1, nx1, rel1', rd, p1⟩ => ⟨μ1, σ, h1, (rs.mono nx).mono nx1, rel1', (Post.bind (rel' := RD G) p1).imp fun y H2 ⟨e, h2, μ2, nx2, rel2, re, p2⟩ => ?_⟩⟩
    unfold dct1R at p2
    split at p2
    · rename_i e0
      split at p2
      · rename_i hk
        obtain ⟨ky, ek⟩ := isKey_of hk
        obtain rfl := key_of ek (rd.mono nx2)
        have at2 : μ2[h.length]? = some q := nx2.at (nx1.at rel.newAt)
        obtain ⟨qs, rk, hqs⟩ := rel2.dct e0 at2
        cases rk
        obtain ⟨r3, nx3⟩ := rel2.setD (ks := [(d, e)]) (qs := [(ky, y)]) e0 at2 (.cons ek re .nil)
        exact ⟨hqs, [(ky, y)], rfl, by simp, p2 μ2 _ _ nx3 r3 (.ref at2)⟩
      · exact p2.elim
    · exact p2.elim
end
end Py
/-! tuple(reversed(tuple)). -/
namespace Py
open PySem L2 RZ
/-! ### tuple(reversed(tuple)) -/
section
open PySem.Spec PyProof.Rows RT
variable {prog : Program} {w : World} {A : Around} {E : Value → Shared → Prop} {s : Shared}
theorem rt_len : typeLookup (.type "reversed") "__len__" = pure none := by
  rw [typeLookup_type, builtinLookup_eq_fast]
  kernel_rfl
theorem rt_hint : typeLookup (.type "reversed") "__length_hint__" = pure (some (.builtin "reversed.__length_hint__")) := by
  rw [typeLookup_type, builtinLookup_eq_fast]
  kernel_rfl
theorem rt_slot : Slot "reversed" "__length_hint__" "reversed.__length_hint__" := by
  refine .of (owner := "reversed") (n := "__length_hint__") rt_hint (by decide +kernel) (by decide +kernel) (by decide +kernel) ?_ ?_
  · first
    | exact .inl (by decide +kernel)
    | exact .inr (by decide +kernel)
  · rw [isSubtype_type]
    kernel_rfl
theorem rt_entry : entryFor table "reversed.__length_hint__" = some Builtin.«reversed.__length_hint__» := by
  exact entryFor_of_tree (by kernel_rfl)
theorem rt_args (a : Value) : argsOk "reversed.__length_hint__" ⟨[a], []⟩ := by
  unfold argsOk
  rw [signature?_of (id := "reversed.__length_hint__") (n := ['_', '_', 't', 'n', 'i', 'h', '_', 'h', 't', 'g', 'n', 'e', 'l', '_', '_']) (o := ['d', 'e', 's', 'r', 'e', 'v', 'e', 'r']) (by kernel_rfl) owner_rt]
  kernel_rfl
theorem tup_at {h h' : Heap} {t : Addr} {items : Array Value} (x : IsTup h t items) (e : ∀ o, h.get? t = some o → h'.get? t = some o) : IsTup h' t items := let ⟨o, ho, r⟩ := x; ⟨o, e _ ho, r⟩
theorem walks_rt (I t : Addr) (hh : A.handled = none) (hne : t ≠ I) (items : Array Value) (hz : items.size ≤ sizeLine) :
    Walks prog w A I [I, t] [I] items.size (fun i v => items[items.size - 1 - i]? = some v) (fun i h => i ≤ items.size ∧ IsRt h I t ((items.size : Int) - 1 - (i : Int)) ∧ IsTup h t items) where
  sub := fun b hb => by
    simp at hb; simp [hb]
  frame := fun _ _ _ x hk => ⟨x.1, x.2.1.at (hk I (by simp)), tup_at x.2.2 (hk t (by simp))⟩
  item := fun i s Q E hi x hQ => by
    obtain ⟨_, hit, ht⟩ := x
    rw [show (items.size : Int) - 1 - (i : Int) = ((items.size - 1 - i : Nat) : Int) by omega] at hit
    have hx : items[items.size - 1 - i]? = some (items[items.size - 1 - i]'(by omega)) := by
      rw [Array.getElem?_eq_getElem]
    refine next_rt_item hit ht hx hz fun h' hit' sb => ?_
    rw [show ((items.size - 1 - i : Nat) : Int) - 1 = (items.size : Int) - 1 - ((i + 1 : Nat) : Int) by omega] at hit'
    exact hQ _ h' _ hx ⟨hi, hit', tup_at ht fun o eo => (sb.2 t hne).trans eo⟩ fun b o hb eo => (sb.2 b fun z => hb (by simp [z])).trans eo
  done := fun s Q E x hQ => by
    obtain ⟨_, hit, ht⟩ := x
    rw [show (items.size : Int) - 1 - (items.size : Int) = -1 by omega] at hit
    exact next_rt_end hh hit fun h' he => hQ h' s.toks fun b o hb eo => he b o (fun z => hb (by simp [z])) eo
  self := fun _ _ _ _ x hQ => iter_rt x.2.1 hQ
theorem hint_rt {it t : Addr} {items : Array Value} {Q : Bool → Shared → Prop} (hit : IsRt s.heap it t ((items.size : Int) - 1)) (ht : IsTup s.heap t items) (hn : items.size ≤ sizeLine)
    (h : ∀ tk, Q ((items.size : Int) != 0) { s with toks := tk }) : wpAny (model prog w) A (Builtin.List.listLengthHint (.ref it)) Q E s := by
  have ty : s.TypeIs (.ref it) "reversed" := hit.typeIs
  obtain ⟨o, ho, hc, hd⟩ := id hit
  have ln := line63
  unfold Builtin.List.listLengthHint
  refine wpAny_bind (wpAny_specialOf ty rt_len ?_)
  show wpAny _ A (specialOf (Value.ref it) (Str.ofString "__length_hint__") >>= _) _ _ _
  refine wpAny_bind (wpAny_specialOf ty rt_hint ?_)
  generalize hid : ("reversed.__length_hint__" : String) = id0
  wp_delta
  rw [show splitId id0 = some ("reversed", "__length_hint__") from by subst hid; decide +kernel]
  subst hid
  refine wpAny_bind (wpAny_isInstance (b := true) ty (by rw [isSubtype_type]; kernel_rfl) ?_)
  rw [if_neg (by decide)]
  try dsimp only
  rw [if_neg (by decide +kernel)]
  refine wpAny_bind (wpAny_rule ?_)
  refine wpAny_bind (wpAny_of_eq (rt_slot.bind _) ?_)
  try dsimp only
  refine wpAny_bind (wpAny_attempt (wpAny_call_entry rt_slot ty rt_entry ?_ (rt_args _)))
  unfold Builtin.«reversed.__length_hint__»
  refine wpAny_bind (wpAny_of_eq (a := Value.ref it) rfl ?_)
  try dsimp only
  refine wpAny_bind (wpAny_field ho hd (x := .ref t) rfl ?_)
  try dsimp only
  rw [if_neg (by intro z; cases z)]
  try dsimp only
  refine wpAny_bind (len_tuple ht (by omega) ?_)
  refine wpAny_bind (wpAny_of_eq (a := some ((items.size : Nat) : Int)) rfl ?_)
  try dsimp only
  refine wpAny_bind (wpAny_field (s := { s with toks := s.toks + 1 + 1 }) ho hd (x := rawInt ((items.size : Int) - 1)) rfl ?_)
  show wpAny _ _ (if ((items.size : Nat) : Int) < (items.size : Int) - 1 + 1 then _ else _) _ _ _
  rw [if_neg (by omega), show (items.size : Int) - 1 + 1 = (items.size : Int) by omega]
  show wpAny _ _ (mkInt (items.size : Int) >>= fun v => ret v) _ _ _
  refine wpAny_bind (wpAny_mkInt (wpAny_pure ?_))
  refine ⟨_, rfl, ?_⟩
  have f1 : Builtin.List.listFitsIndex ((items.size : Nat) : Int) = true := PySem.fitsIndex_of (by omega) (by omega)
  have f2 : Builtin.List.listTooLong (((items.size : Nat) : Int)).toNat = false := by
    rw [Int.toNat_natCast]
    exact notLongL hn
  have f3 : ¬ ((items.size : Nat) : Int) < 0 := by omega
  generalize ((items.size : Nat) : Int) = z at f1 f2 f3 h ⊢
  refine wpAny_bind (m := asInt? _) (wpAny_pure ?_)
  refine wpAny_ite_split (fun hab => absurd hab (by rw [f1]; decide)) (fun _ => ?_)
  refine wpAny_ite_split (fun hab => absurd hab f3) (fun _ => ?_)
  exact wpAny_ite_split (fun hab => absurd hab (by rw [f2]; decide)) (fun _ => wpAny_pure (h _))
abbrev noItems : Obj := { cls := .type "list", data := .seq ([] : List Value).toArray }
theorem collect_rt {it t : Addr} {items : Array Value} {Q : List Value → Shared → Prop} (hh : A.handled = none) (hit : IsRt s.heap it t ((items.size : Int) - 1)) (ht : IsTup s.heap t items) (hne : t ≠ it) (hn : items.size ≤ sizeLine)
    (hQ : ∀ (h' : Heap) (tk : Nat) (acc : Array Value), (∀ b o, b ≠ it → s.heap.get? b = some o → h'.get? b = some o) → ItemsOf (fun i v => items[items.size - 1 - i]? = some v) acc items.size → Q acc.toList { s with heap := h', toks := tk }) : wpAny (model prog w) A (collect (.ref it)) Q E s := by
  have Wk := (walks_rt (prog := prog) (w := w) (A := A.in1) it t hh hne items hn).toS
  obtain ⟨oi, hoi, _⟩ := id hit
  obtain ⟨ot, hot, _⟩ := id ht
  have n1 : s.heap.objs.size ≠ it := Nat.ne_of_gt (Heap.lt_size hoi)
  have n2 : s.heap.objs.size ≠ t := Nat.ne_of_gt (Heap.lt_size hot)
  have nf : s.heap.objs.size ∉ [it, t] := by simp [n1, n2]
  unfold collect
  refine wpAny_bind (wpAny_runValue (codeAny_builtin F.entry_proto_collect ?_))
  rw [Around.under_plainId F.plain_proto_collect _]
  show wpAny _ A.in1 (newList [] >>= fun q => again (.builtin "list.__iadd__" ⟨[q, .ref it], []⟩)) _ _ s
  refine wpAny_bind (wpAny_newObj_type (wpAny_pure ⟨plainId_quiet F.plain_list_iadd _, codeAny_builtin F.entry_list_iadd ?_⟩))
  rw [Around.under_plainId F.plain_list_iadd _]
  have g1 : (s.heap.push noItems).get? s.heap.objs.size = some noItems := Heap.get?_push_size _ rfl
  have it1 : IsRt (s.heap.push noItems) it t ((items.size : Int) - 1) := hit.at fun o e => Heap.get?_push_of_some _ e
  have t1 : IsTup (s.heap.push noItems) t items := tup_at ht fun o e => Heap.get?_push_of_some _ e
  have ty : ({ s with heap := s.heap.push noItems } : Shared).TypeIs (.ref it) "reversed" := IsRt.typeIs (s := { s with heap := s.heap.push noItems }) it1
  have df : Builtin.List.listSameRef (.ref s.heap.objs.size) (.ref it) = false := by simp [Builtin.List.listSameRef, n1]
  show wpAny _ A.in1 (Builtin.List.listExtendWith (.ref s.heap.objs.size) (.ref it) (.ref s.heap.objs.size)) _ _ _
  unfold Builtin.List.listExtendWith
  refine wpAny_bind (wpAny_typeOf ty ?_)
  rw [if_neg (by rw [df]; decide)]
  refine wpAny_bind (iter_rt (s := { s with heap := s.heap.push noItems }) it1 (wpAny_bind (wpAny_holding ?_)))
  refine hint_rt (s := { s with heap := s.heap.push noItems }) it1 t1 hn fun tk => ?_
  by_cases z0 : items.size = 0
  · rw [show ((items.size : Int) != 0) = false by simp [z0]]
    rw [if_neg (by decide)]
    refine wpAny_pure ⟨plainId_quiet F.plain_extend_loop _, codeAny_extend_loopS Wk hn _ nf _ items.size 0 _ _ _ rfl (Nat.zero_le _) ⟨Nat.zero_le _, by rw [show ((items.size : Nat) : Int) - 1 - ((0 : Nat) : Int) = (items.size : Int) - 1 by omega]; exact it1, t1⟩ g1 (ItemsOf.nil _) fun s' acc c hm hS hacc => ?_⟩
    show wpAny _ A (load s.heap.objs.size >>= _) _ _ s'
    refine wpAny_bind (wpAny_load hS (wpAny_pure ?_))
    rw [Moved.eq_with hm]
    refine hQ s'.heap s'.toks acc (fun b o hb e => hm.heap b o (fun hmem => ?_) (Heap.get?_push_of_some _ e)) hacc
    rcases List.mem_cons.mp hmem with z | hmem
    · subst z
      exact Nat.lt_irrefl _ (Heap.lt_size e)
    · exact hb (by simpa using hmem)
  · rw [show ((items.size : Int) != 0) = true by simp [z0]]
    rw [if_pos (by decide)]
    refine wpAny_bind (wpAny_rule (wpAny_bind ?_))
    show wpAny _ A.in1 (updateSeq s.heap.objs.size (·.push .none) >>= fun _ => updateSeq s.heap.objs.size (·.pop)) _ _ _
    refine wpAny_bind (wpAny_updateSeq g1 rfl ?_)
    have g2 := Heap.get?_update_self (Obj.mapSeq (·.push Value.none)) g1 rfl
    refine wpAny_updateSeq g2 rfl ?_
    have g3 := Heap.get?_update_self (Obj.mapSeq (·.pop)) g2 rfl
    have oth : ∀ b o, b ≠ s.heap.objs.size → (s.heap.push noItems).get? b = some o → (((s.heap.push noItems).update s.heap.objs.size (Obj.mapSeq (·.push Value.none))).update s.heap.objs.size (Obj.mapSeq (·.pop))).get? b = some o :=
      fun b o hb e => (Heap.get?_update_other _ _ (Ne.symm hb)).trans ((Heap.get?_update_other _ _ (Ne.symm hb)).trans e)
    refine wpAny_pure ⟨plainId_quiet F.plain_extend_loop _, codeAny_extend_loopS Wk hn _ nf _ items.size 0 _ _ _ rfl (Nat.zero_le _) ⟨Nat.zero_le _, by rw [show ((items.size : Nat) : Int) - 1 - ((0 : Nat) : Int) = (items.size : Int) - 1 by omega]; exact (it1.at fun o e => oth _ o (Ne.symm n1) e), tup_at t1 fun o e => oth _ o (Ne.symm n2) e⟩ g3 (ItemsOf.nil _) fun s' acc c hm hS hacc => ?_⟩
    show wpAny _ A (load s.heap.objs.size >>= _) _ _ s'
    refine wpAny_bind (wpAny_load hS (wpAny_pure ?_))
    rw [Moved.eq_with hm]
    refine hQ s'.heap s'.toks acc (fun b o hb e => hm.heap b o (fun hmem => ?_) (oth b o (Nat.ne_of_lt (Heap.lt_size e)) (Heap.get?_push_of_some _ e))) hacc
    rcases List.mem_cons.mp hmem with z | hmem
    · subst z
      exact Nat.lt_irrefl _ (Heap.lt_size e)
    · exact hb (by simpa using hmem)
theorem new_rt {it t : Addr} {items : Array Value} {Q : Value → Shared → Prop} (hh : A.handled = none) (hit : IsRt s.heap it t ((items.size : Int) - 1)) (ht : IsTup s.heap t items) (hne : t ≠ it) (hn : items.size ≤ sizeLine)
    (hQ : ∀ (h' : Heap) (tk : Nat) (acc : Array Value), (∀ b o, b ≠ it → s.heap.get? b = some o → h'.get? b = some o) → ItemsOf (fun i v => items[items.size - 1 - i]? = some v) acc items.size → Q (.ref h'.objs.size) { s with heap := h'.push { cls := .type "tuple", data := .seq acc }, toks := tk }) :
    codeAny (model prog w) A (.call (.builtin "tuple.__new__") ⟨[.type "tuple", .ref it], []⟩) (wants Q E) s := by
  refine codeAny_of_tree ?_
  show wpAny _ A.in1 (do checkBuiltinCall "tuple.__new__" ⟨[.type "tuple", .ref it], []⟩; again (.builtin "tuple.__new__" ⟨[.type "tuple", .ref it], []⟩)) _ _ s
  refine wpAny_bind (wpAny_of_eq (F.newCall_tuple_1 _) (wpAny_pure ⟨plainId_quiet F.plain_tuple_new _, codeAny_builtin F.entry_tuple_new ?_⟩))
  rw [Around.under_plainId F.plain_tuple_new _]
  have x1 := sub_tuple_self
  have x2 := init_tuple_lookup
  have x3 := madeHere_tuple
  have x4 : s.TypeIs (.ref it) "reversed" := hit.typeIs
  have x5 : A.in1.handled = none := hh
  wp_walk using wpAny_typeOf x4, collect_rt (A := A.in1) x5 hit ht hne hn
  intro h' tk acc hk hacc
  show wpAny _ _ (Builtin.Tuple.tupleExact acc.toList.toArray >>= fun v => ret v) _ _ _
  unfold Builtin.Tuple.tupleExact
  have ez : acc.toList.toArray = acc := by simp
  rw [ez]
  exact wpAny_bind (wpAny_newObj_type (wpAny_pure (hQ h' tk acc hk hacc)) (by show acc.size ≤ sizeLine; rw [hacc.1]; exact hn))
theorem call_tup_rt {it t : Addr} {items : Array Value} {Q : Value → Shared → Prop} (hh : A.handled = none) (hit : IsRt s.heap it t ((items.size : Int) - 1)) (ht : IsTup s.heap t items) (hne : t ≠ it) (hn : items.size ≤ sizeLine)
    (hQ : ∀ (h' : Heap) (tk : Nat) (acc : Array Value), (∀ b o, b ≠ it → s.heap.get? b = some o → h'.get? b = some o) → ItemsOf (fun i v => items[items.size - 1 - i]? = some v) acc items.size → Q (.ref h'.objs.size) { s with heap := h'.push { cls := .type "tuple", data := .seq acc }, toks := tk }) :
    wpAny (model prog w) A (call (.type "tuple") [.ref it]) Q E s := by
  refine callType_codes (Q₁ := fun obj s₁ => s₁.TypeIs obj "tuple" ∧ Q obj s₁) F.called_tuple (F.typeCall_tuple_1 _) F.entry_object_init (new_rt (A := A.in1) hh hit ht hne hn fun h' tk acc hk hacc => ⟨⟨_, Heap.get?_push_size _ rfl, rfl⟩, hQ h' tk acc hk hacc⟩) fun obj s₁ q => ?_
  exact ⟨q.1, F.args_object_init_2 obj _, object_init_meets F.called_tuple.init.lookup F.called_tuple.made (by decide) prog w A.in1 _ s₁ ⟨q.1, rfl, q.2⟩⟩
end
section
open PySem.Spec PyProof.Rows RT
variable {X : Cx}
theorem pe_trev {e : Expr} {te : TE} {p p2 pos pos2 : Pos} (hc : X.calm = true) (hg : Gl X "tuple") (hm : X.mg "tuple" = none) (hg2 : Gl X "reversed") (hm2 : X.mg "reversed" = none) (he : PE X e te) (hs : starEach [e] X.env = (false, eval e X.env) :: starEach [] X.env) :
    PE X (.Call (.Name "tuple" p) [.Call (.Name "reversed" p2) [e] [] pos2] [] pos) (fun σ H Q => te σ H fun v H1 => ∃ (a : Addr) (xs : List V), v = .ref a ∧ SqT X.K H1 a xs ∧ ∀ q, H1 q = none → Q (.ref q) (upd H1 q (.tup xs.reverse))) := by
  refine ⟨fun pins s σ H Q I h => ?_⟩
  have hs2 : starEach [.Call (.Name "reversed" p2) [e] [] pos2] X.env = (false, eval (.Call (.Name "reversed" p2) [e] [] pos2) X.env) :: starEach [] X.env := rfl
  refine Call_ (ld_blt I hg hm boot_tuple (callWith_type1 (args_cons (Call_ (ld_blt I hg2 hm2 boot_reversed (callWith_type1 (args_cons (thn (he.run pins s σ H _ I h) fun u s1 ⟨v, H1, I1, r1, q1⟩ => args_nil ?_) hs) hs rfl))) hs2) hs2 rfl))
  obtain ⟨a, xs, ev, hq, q⟩ := q1
  subst ev
  obtain rfl : u = Value.ref a := r1
  obtain ⟨its, rv, pt, hz⟩ := I1.tuple hq
  have hl := rv.length
  have ln := line63
  refine call_reversed_tup pt (fun A E Q k => len_tuple pt (by simp only [List.size_toArray] <;> omega) k) (args_nil ?_)
  have k0 : ∀ b o, s1.heap.get? b = some o → (s1.heap.push (rtObj a ((its.toArray.size : Int) - 1))).get? b = some o := fun b o e => Heap.get?_push_of_some _ e
  have I2 : Inv X pins σ H1 { s1 with heap := s1.heap.push (rtObj a ((its.toArray.size : Int) - 1)), toks := s1.toks + 1 + 1 } := I1.kept (t' := s1.toks + 1 + 1) k0
  obtain ⟨f0, f1, f2, f3, f4, f5⟩ := I1.fpOk (H' := H1) (b := s1.heap.objs.size) (Nat.le_refl _) (I1.hok.fresh (Nat.le_refl _))
  obtain ⟨ol, hol, _⟩ := id pt
  have hn : its.toArray.size ≤ sizeLine := by
    rw [List.size_toArray, ← hl]; exact hz
  refine call_tup_rt (s := { s1 with heap := s1.heap.push (rtObj a ((its.toArray.size : Int) - 1)), toks := s1.toks + 1 + 1 }) (I1.ok.hd hc) ⟨_, Heap.get?_push_size _ rfl, rfl, rfl⟩ (tup_at pt fun o e => k0 _ o e) (Nat.ne_of_lt (Heap.lt_size hol)) hn fun h' tk acc hk hi => ?_
  have I3 : Inv X pins σ H1 { s1 with heap := h', toks := tk } := I2.turned (t' := tk) hk f0 f1 f3 f4 f5
  refine ⟨.ref h'.objs.size, upd H1 h'.objs.size (.tup xs.reverse), I3.laid (t' := tk) (fun c o e => Heap.get?_push_of_some _ e) (Nat.le_refl _) (show ObjOk X.prog X.w _ _ _ (.tup xs.reverse) from ⟨by rw [List.length_reverse]; exact hz, acc.toList, vals_rev rv hi, ?_⟩), rfl, q _ (I3.hok.fresh (Nat.le_refl _))⟩
  rw [Array.toArray_toList]
  exact IsTup.new _ _
end
section
variable {X : Cx} {G : Cfg} {W : WX} {a : Expr} {ma : Sg → Hh → R D} {pos : Pos}
theorem k_trev {p p2 pos2 : Pos} (hK : X.K = G.K) (hc : X.calm = true) (hg : Gl X "tuple") (hm : X.mg "tuple" = none) (hg2 : Gl X "reversed") (hm2 : X.mg "reversed" = none) (hs : starEach [a] X.env = (false, eval a X.env) :: starEach [] X.env) (ha : PE X a (tE G W ma)) :
    PE X (.Call (.Name "tuple" p) [.Call (.Name "reversed" p2) [a] [] pos2] [] pos) (tE G W fun σ h => (ma σ h).bind fun x h => trevR x h) :=
  weakE (pe_trev hc hg hm hg2 hm2 ha hs) fun τ H Q ⟨μ, σ, h, rs, rel, p⟩ => ⟨μ, σ, h, rs, rel, (Post.bind (rel' := RD G) p).imp fun x H1 ⟨d, h1, μ1, nx, rel1, rd, p1⟩ => by
    unfold trevR at p1
    split at p1
    · obtain ⟨q, vs, rfl, hq, rq⟩ := rd.tup_inv
      exact ⟨q, vs, rfl, by rw [hK]; exact hq, fun z hz => p1 μ1 _ _ (Nx.updN hz) (rel1.aux hz) (.newTup hz rq.rev)⟩
    · exact p1.elim⟩
end
end Py
/-! The rules of exceptions, fields, repr and defs as values. -/
namespace Py
open PySem L2 RZ
section
variable {X : Cx} {G : Cfg} {W : WX} {a b c : Expr} {ma mb mc : Sg → Hh → R D} {pos : Pos} {es : List Expr} {me : Sg → Hh → R (List D)}
/-- classes as expressions -/
structure ClsEs (G : Cfg) (X : Cx) (ts : List Ty) (es : List Expr) : Prop where
  pa : ∃ vs, PA X es (fun _ H Q => Q vs H) ∧ Paired ClsV vs (ts.map (tyV' G))
theorem k_isiT (hK : X.K = G.K) (F : ClsF G) {ts : List Ty} {tes : List Expr} {p p2 : Pos} {kk : Nat} (hg : Gl X "isinstance") (hm : X.mg "isinstance" = none) (ht : ClsEs G X ts tes) (hne : ts ≠ []) (hl : ts.length ≤ 100)
    (he : starEach (a :: [.Tuple tes kk p2]) X.env = (false, eval a X.env) :: starEach [.Tuple tes kk p2] X.env) (ha : PE X a (tE G W ma)) :
    PE X (.Call (.Name "isinstance" p) [a, .Tuple tes kk p2] [] pos) (tE G W fun σ h => (ma σ h).bind fun x h => R.of (ob (isTys G.T h x ts) fun b => some (.bl b, h))) := by
  obtain ⟨vs, pv, cv⟩ := ht.pa
  refine weakE (pe_callB call_isYT hg hm (by decide +kernel) (pa_cons ha (pa_cons (pe_tup pv) pa_nil rfl) he) (he := he) (hpl := rfl)) fun τ H Q ⟨μ, σ, h, rs, rel, p⟩ => ?_
  refine ⟨μ, σ, h, rs, rel, p.bind.imp fun x H1 ⟨d, h1, μ1, nx, rel1, rd, p1⟩ => ?_⟩
  have lv : vs.length = ts.length := by rw [cv.length, List.length_map]
  refine ⟨by rw [lv]; exact Nat.le_trans hl (by decide), fun q hq => ?_⟩
  obtain ⟨z, h2, e, f⟩ := p1.ofV
  obtain ⟨k, e1, e2⟩ := ob_some e
  cases e2
  have nx2 : Nx G μ1 H1 μ1 (upd H1 q (.tup vs)) := Nx.updN hq
  have rel2 := rel1.aux (o := .tup vs) hq
  obtain ⟨tv, ty, hk⟩ := isTys_ok F rel2 (rd.mono nx2) hne e1
  refine ⟨x, q, vs, tv, ts.map (tyV' G), k, rfl, upd_same, cv, by rw [hK]; exact ty, by rw [hK]; exact hk, f μ1 _ _ nx2 rel2 (.bl _)⟩
theorem RF.look : ∀ {μ : List Addr} {H : Hp} {fs : List (Nat × D)} {qs : List (Str × V)} {f : Nat} {v : D}, (∀ p ∈ fs, G.fnm p.1 = G.fnm f → p.1 = f) → RF G μ H fs qs → lookF fs f = some v → ∃ u, qs.lookup (G.fnm f) = some u ∧ RD G μ H v u
  | _, _, _, _, _, _, _, .nil, e => by simp [lookF] at e
  | μ, H, (g, d) :: fs, _, f, v, hi, .cons (qs := qs) (v := w) rd r, e => by
    unfold lookF at e
    rw [List.find?_cons] at e
    by_cases hg : g = f
    · subst hg
      simp at e
      subst e
      exact ⟨w, by simp [List.lookup], rd⟩
    · have hb : (g == f) = false := by simpa using hg
      have hn : (G.fnm f == G.fnm g) = false := by
        rw [beq_eq_false_iff_ne]
        exact fun z => hg (hi (g, d) (by simp) z.symm)
      simp only [hb] at e
      obtain ⟨u, h1, h2⟩ := RF.look (fun p hp => hi p (by simp [hp])) r e
      exact ⟨u, by simp only [List.lookup, hn]; exact h1, h2⟩
/-- a.f -/
theorem k_fld (hK : X.K = G.K) {f : Nat} {y : Str} (hb : attributeBase a y X.env (eval a X.env) = eval a X.env) (hy : G.fnm f = y) (hi : ∀ g, G.fnm g = y → g = f)
    (hx : ∀ c, c < G.T.ncl → G.T.exn c = true → G.T.hasF c f = true → XfC G.K (G.clA c) ∧ PySem.W.findIn G.K (.ref (G.clA c)) y = some none) (ha : PE X a (tE G W ma)) :
    PE X (.Attribute a y pos) (tE G W fun σ h => (ma σ h).bind fun x h => fldR G.T x f h) := by
  refine ⟨fun pins s τ H Q I ⟨μ, σ, h, rs, rel, p⟩ => ?_⟩
  refine attr_of hb (thn (ha.run pins s τ H _ I ⟨μ, σ, h, rs, rel, (Post.bind (rel' := RD G) p).imp fun v H1 z => z⟩) fun u s1 ⟨v, H1, I1, rv, d, h1, μ1, nx, rel1, rd, p1⟩ => ?_)
  unfold fldR at p1
  split at p1
  · obtain ⟨q, eq, rfl⟩ := rd.ref_inv
    split at p1
    · rename_i _ e fs e0
      split at p1
      · rename_i hc
        split at p1
        · rename_i w ew
          obtain ⟨q', eq', dd, hq, rx⟩ := rel1.obj _ _ e0
          rw [eq] at eq'
          cases eq'
          obtain rfl : u = Value.ref q := rv
          cases dd with
          | none => rw [show fs = [] from rx] at ew; simp [lookF] at ew
          | some d =>
            obtain ⟨qs, hd, rf⟩ := rx
            obtain ⟨u, lu, ru⟩ := rf.look (fun p _ z => hi _ (z.trans hy)) ew
            obtain ⟨h1, h2⟩ := hx e hc.1 hc.2.1 hc.2.2
            rw [← hK] at h1 h2
            rw [hy] at lu
            exact getX I1 h1 h2 hq hd lu fun u' s2 I2 r2 => ⟨u, H1, I2, r2, p1 μ1 H1 u Nx.refl rel1 ru⟩
        · exact p1.elim
      · exact p1.elim
    · exact p1.elim
  · exact p1.elim
/-- a def as a value -/
theorem k_fnv {f : Nat} {x : Str} (hg : Gl X x) (hm : X.mg x = some (.ref (G.fnA f))) (hd : (x == ("__debug__" : Str)) = false) : PE X (.Name x pos) (tE G W fun _ h => .ok (.fn f) h) :=
  weakE (pe_glob (v := .ref (G.fnA f)) hg hm rfl hd) fun τ H Q q => by
    show Q (.ref (G.fnA f)) H
    exact tE.ok (G := G) (rel := RD G) (W := W) (d := D.fn f) (v := .ref (G.fnA f)) (fun _ _ => .fn f) q
/-- a call of a def that a local name holds -/
theorem k_calll {k i : Nat} {x : Str} {C : Cl} {p : Pos} (hN : X.N[i]? = some x) (hv : Vis X.env.scope x) (hd : (x == ("__debug__" : Str)) = false) (hcd : (x == ("__classdict__" : Str)) = false) (fns : ∀ f, G.T.fnk f = true → ∃ y, FnK G X k y (G.fnA f) (C f)) (hr : Room (k + 3) X.A) (hgd : X.A.guards = some []) (tk : Takes X W)
    (he : starEach (a :: es) X.env = (false, eval a X.env) :: starEach es X.env) (hpl : (backTo pos (starEach es X.env)).any (·.1) = false) (ha : PA X (a :: es) (tA G W me)) :
    PE X (.Call (.Name x p) (a :: es) [] pos) (tE G W fun σ h => (varR σ i h).bind fun g h => fnR G.T g fun f => (me σ h).bind fun xs h => C f xs h) := by
  refine ⟨fun pins s τ H Q I ⟨μ, σ, h, rs, rel, q⟩ => ?_⟩
  have q : Post G (RD G) W τ Q μ H ((varR σ i h).bind fun g h => fnR G.T g fun f => (me σ h).bind fun xs h => C f xs h) := q
  have hd' : ∃ d, σ[i]? = some (some d) := by
    unfold varR at q
    cases ed : σ[i]? with
    | none => rw [ed] at q; exact q.elim
    | some o =>
      cases o with
      | none => rw [ed] at q; exact q.elim
      | some d => exact ⟨d, rfl⟩
  obtain ⟨d, ed⟩ := hd'
  obtain ⟨v, ev, rd⟩ := rs.2 i d ed
  have ev' : varR σ i h = .ok d h := by unfold varR; rw [ed]
  rw [ev'] at q
  have q : Post G (RD G) W τ Q μ H (fnR G.T d fun f => (me σ h).bind fun xs h => C f xs h) := q
  cases d with
  | fn f =>
    have hk : G.T.fnk f = true := by
      cases e : G.T.fnk f with
      | true => rfl
      | false =>
        simp only [fnR, e, Bool.false_eq_true, if_false] at q
        exact q.elim
    simp only [fnR, hk, if_true] at q
    cases rd
    obtain ⟨y, F⟩ := fns f hk
    obtain ⟨fd, ps, hb, ok⟩ := F.ok
    refine wpAny_Call_Name_kw (thn ((pe_var (pos := p) hN hv hd hcd).run pins s τ H (fun v H1 => v = .ref (G.fnA f) ∧ H1 = H) I ⟨_, ev, rfl, rfl⟩) fun u s1 ⟨v, H1, I1, r1, e1, e2⟩ => ?_)
    subst e1 e2
    obtain rfl : u = Value.ref (G.fnA f) := r1
    refine PySem.W.callWith_K (h₀ := X.base) I.ok.mod.kin F.kp (thn (ha.run pos pins s1 τ _ _ I1 (args_of (k := fun xs h => C f xs h) (r := fun vs H2 => ∃ μ h ds, RDs G μ H2 ds vs ∧ Rel G μ H2 h ∧ Post G (RD G) (fun c d _ H => W c d τ H) [] Q μ H2 (C f ds h)) rs rel q fun xs H2 ds h2 μ2 rds rel2 _ _ p2 => ⟨μ2, h2, ds, rds, rel2, p2.swap fun c d H z => z⟩)) fun us s2 ⟨vs, H2, I2, r2, q2⟩ => ⟨I2.kIn, ?_⟩) he hpl
    refine run_G (dvs := []) (E := WE W) ok hr hgd hb .nil (passAt tk τ) I2 r2 ?_
    rw [List.append_nil]
    exact q2
  | _ => exact q.elim
/-- {} -/
theorem k_dct0 : PE X (.Dict [] [] pos) (tE G W fun _ h => R.of (newO (.dct [] false) h)) :=
  weakE pe_dnewK fun τ H Q ⟨μ, σ, h, rs, rel, p⟩ => fun q hq => by
    have nx : Nx G μ H (μ ++ [q]) (upd H q (.dK [])) := Nx.push hq
    exact p (μ ++ [q]) _ (.ref q) nx (rel.new hq rfl ⟨[], .nil, by simp [upd_same]⟩) (.ref rel.newAt)
/-- repr(x) -/
theorem call_reprD (hK : X.K = G.K) (hgd : X.A.guards = some []) (hu : X.A.units + 65 < cLine) : CallR X (.builtin "repr") (rDs G fun ds h => match ds with
    | [d] => reprD d h
    | _ => none) := by
  intro pins s τ H xs us Q I rv ⟨μ, h, ds, rds, rel, r, h', eq, post⟩
  match ds, eq, rds with
  | [d], eq, rds =>
    obtain ⟨v, rfl, rd⟩ := rds.one
    obtain ⟨u, rfl, ru⟩ : ∃ u, us = [u] ∧ RelV v u := by
      cases rv with
      | cons r1 r2 => cases r2; exact ⟨_, rfl, r1⟩
    have main : reprP d h = some (r, h') → wpAny (model X.prog X.w) X.A (call (.builtin "repr") [u]) (EP X pins τ Q) X.xe s := by
      intro e
      unfold reprP at e
      split at e
      · rename_i p ep
        split at e
        · rename_i hc
          cases e
          obtain ⟨dp, cl, dep⟩ := toP_dp rel deepest d v p rd ep
          rw [← hK] at dp
          obtain ⟨as, rdg⟩ := Dp.reads I p v u dp ru
          have fin : ∀ hp' t tk, (∀ b o, s.heap.get? b = some o → hp'.get? b = some o) → EP X pins τ Q (.str p.shown t) { s with heap := hp', toks := tk } := fun hp' t tk k =>
            ⟨.str p.shown, H, I.kept (t' := tk) k, ⟨t, rfl⟩, by
              have := post μ H (.str ⟨p.shown.cps.toList.toArray⟩) Nx.refl rel (.str _)
              simpa using this⟩
          have hl : p.shown.length ≤ sizeLine := Nat.le_trans hc.2 (by decide)
          cases rdg with
          | none => exact P.repr_of_none (fin _ _ _ fun _ _ z => z)
          | bool b => exact P.repr_of_bool (by simpa only [PyData.shown] using fin _ _ _ fun _ _ z => z)
          | int i t => exact P.repr_of_int (by simpa [PyData.showable] using hc.1) (by simpa only [PyData.shown] using fin _ _ _ fun _ _ z => z)
          | str x t => exact P.repr_of_str (by simpa only [PyData.shown] using fin _ _ _ fun _ _ z => z) (by simpa only [PyData.shown] using hl)
          | list h1 h2 h3 h4 => exact repr_of_reads' (.list h1 h2 h3 h4) hc.1 (PyData.noDict_hsm (PyData.hasDict_of_canLay _ cl)) hgd (by unfold deepest at dep; omega) (fun _ _ z => z) (fun hp' t tk k => fin hp' t tk k) hl
          | tuple h1 h2 h3 h4 => exact repr_of_reads' (.tuple h1 h2 h3 h4) hc.1 (PyData.noDict_hsm (PyData.hasDict_of_canLay _ cl)) hgd (by unfold deepest at dep; omega) (fun _ _ z => z) (fun hp' t tk k => fin hp' t tk k) hl
          | dict h1 h2 h3 h4 h5 => simp [PyData.canLay0] at cl
        · cases e
      · unfold reprQ at e
        split at e
        · rename_i p ep
          split at e
          · rename_i hc
            cases e
            obtain ⟨rq, dep⟩ := toQ_rq hK I rel deepest d v u p rd ru ep
            have hl : p.shown.length ≤ sizeLine := Nat.le_trans hc.2 (by decide)
            have fin : ∀ hp' t tk, (∀ b o, s.heap.get? b = some o → hp'.get? b = some o) → EP X pins τ Q (.str p.shown t) { s with heap := hp', toks := tk } := fun hp' t tk k =>
              ⟨.str p.shown, H, I.kept (t' := tk) k, ⟨t, rfl⟩, by
                have := post μ H (.str ⟨p.shown.cps.toList.toArray⟩) Nx.refl rel (.str _)
                simpa using this⟩
            cases rq with
            | none => exact P.repr_of_none (fin _ _ _ fun _ _ z => z)
            | bool b => exact P.repr_of_bool (by simpa only [PyData.shown] using fin _ _ _ fun _ _ z => z)
            | int i t => exact P.repr_of_int (by simpa [PyData.showable] using hc.1) (by simpa only [PyData.shown] using fin _ _ _ fun _ _ z => z)
            | str x t => exact P.repr_of_str (by simpa only [PyData.shown] using fin _ _ _ fun _ _ z => z) (by simpa only [PyData.shown] using hl)
            | list h1 h2 h3 h4 => exact repr_rq (.list h1 h2 h3 h4) hc.1 hl hgd (by unfold deepest at dep; omega) (fun hp' t tk k => fin hp' t tk k)
            | tuple h1 h2 h3 h4 => exact repr_rq (.tuple h1 h2 h3 h4) hc.1 hl hgd (by unfold deepest at dep; omega) (fun hp' t tk k => fin hp' t tk k)
            | dict h0 h1 h2 h3 h4 h5 => exact repr_rq (.dict h0 h1 h2 h3 h4 h5) hc.1 hl hgd (by unfold deepest at dep; omega) (fun hp' t tk k => fin hp' t tk k)
          · cases e
        · cases e
    dsimp only at eq
    unfold reprD at eq
    split at eq
    · split at eq
      · rename_i _ e0
        cases eq
        obtain ⟨q, eq, rfl⟩ := rd.ref_inv
        obtain ⟨q', eq', qs, rk, hq⟩ := rel.obj _ _ e0
        rw [eq] at eq'
        cases eq'
        cases rk
        simp only [Bool.false_eq_true, if_false] at hq
        obtain rfl : u = Value.ref q := ru
        obtain ⟨_, hS, vs, kv, o, es, ep, ho, hx, hd, _, hl, _⟩ := (show ObjOk X.prog X.w H s.heap q (.dK []) from I.hok q _ hq)
        have hv : vs = [] := by cases kv; rfl
        subst hv
        have hes : es.toList = [] := by
          generalize es.toList = l at hl
          cases hl
          rfl
        refine repr_of_reads' (d := .dict []) (.dict ho hx.1 hd (by rw [hes]; exact .nil) (by rw [hes]; exact .nil)) (by simp [PyData.showable, PyData.showableKv]) (fun _ z => ?_) hgd (by simp [PyData.depth, PyData.depthKv]; omega) (fun _ _ z => z) (fun hp' t tk k => ?_) (by decide +kernel)
        · simp at z
          rw [z] at hS
          simp at hS
        · exact ⟨.str (PyData.dict []).shown, H, I.kept (t' := tk) k, ⟨t, rfl⟩, post μ H (.str ⟨#[123, 125]⟩) Nx.refl rel (.str [123, 125])⟩
      · exact main eq
    · exact main eq
theorem k_repr (hK : X.K = G.K) (hgd : X.A.guards = some []) (hu : X.A.units + 65 < cLine) {p : Pos} (hg : Gl X "repr") (hm : X.mg "repr" = none) (he : starEach [a] X.env = (false, eval a X.env) :: starEach [] X.env) (ha : PE X a (tE G W ma)) :
    PE X (.Call (.Name "repr" p) [a] [] pos) (tE G W fun σ h => (ma σ h).bind fun x h => R.of (reprD x h)) :=
  weakE (pe_callB (call_reprD hK hgd hu) hg hm (by decide +kernel) (pa_cons ha pa_nil he) (he := he) (hpl := rfl)) fun τ H Q ⟨μ, σ, h, rs, rel, p⟩ =>
    ⟨μ, σ, h, rs, rel, (Post.bind (rel' := RD G) p).imp fun x H1 ⟨d, h1, μ1, nx, rel1, rd, p1⟩ => ⟨μ1, h1, [d], .cons rd .nil, rel1, p1.ofV⟩⟩
end
end Py
/-! raise and try -/
namespace Py
open PySem L2 RZ
/-- what the written part says of a class of exceptions without own __init__ -/
structure Ex0 (K : PySem.W.Frag) (C : Addr) : Prop where
  ex : PySem.W.excIn K C [.type "ValueError", .type "Exception", .type "BaseException", .type "object"] "ValueError.__new__" = true
  kp : PySem.W.keepIn K (.ref C) = true
  sb : PySem.W.subIn K (.ref C) (.type "BaseException") = some true
  ty : PySem.W.typeIn K (.ref C) = some (.type "type")
/-- .. with an __init__ that stores its argument in f -/
structure Ex1 (P : Program) (w : World) (K : PySem.W.Frag) (mg : Str → Option Value) (gr : Heap) (C : Addr) (f : Str) : Prop where
  o : OexC K C
  ex : ∃ fI fd ps, PySem.W.findIn K (.ref C) "__init__" = some (some (.ref fI)) ∧ PySem.W.typeIn K (.ref fI) = some (.type "function") ∧ Binds K fd ps [] ∧ FnOk P w K mg gr CX0 1 fI fd ps (spI C f)
section
variable {X : Cx} {G : Cfg} {W : WX} {a : Expr} {ma : Sg → Hh → R D} {pos p p2 : Pos}
theorem ks_raise0 {c : Nat} {x : Str} (hc : X.calm = true) (tk : Takes X W) (T : Ex0 X.K (G.clA c)) (hm : X.mg x = some (.ref (G.clA c))) (hg : Gl X x) (hd : (x == ("__debug__" : Str)) = false) : PS X (.Raise (some (.Call (.Name x p) [] [] p2)) none pos) (tS G W fun σ h => .ex ⟨c, []⟩ σ h) :=
  weakS (ps_raise hc tk (pmk0 PySem.F.excBase_ValueError T.ex hm T.kp (raises_own T.sb T.ty) hg hd)) fun D τ H ⟨μ, σ, h, rs, rel, q⟩ => q μ H τ _ none Nx.refl rel rs ⟨rfl, rfl⟩
theorem upd_exd {H : Hp} {q d C : Addr} {fs : List (Str × V)} (hq : H q = none) (hn : d ≠ q) : upd (del (upd (upd (upd H q (exo q C none)) d (exd d fs)) q (exo q C (some d))) q) d (.xd fs) = upd H d (.xd fs) := by
  funext b
  by_cases hb : b = d
  · subst hb; rw [upd_same, upd_same]
  · rw [upd_ne hb, upd_ne hb]
    by_cases hb2 : b = q
    · subst hb2; rw [del_same, hq]
    · rw [del_ne hb2, upd_ne hb2, upd_ne hb, upd_ne hb2]
theorem ks_raise1 {c f : Nat} {x : Str} (hc : X.calm = true) (tk : Takes X W) (T : Ex1 X.prog X.w X.K X.mg X.base (G.clA c) (G.fnm f)) (hr : Room 2 X.A) (hm : X.mg x = some (.ref (G.clA c))) (hg : Gl X x) (hd : (x == ("__debug__" : Str)) = false) (he : starEach [a] X.env = (false, eval a X.env) :: starEach [] X.env) (ha : PE X a (tE G W ma)) :
    PS X (.Raise (some (.Call (.Name x p) [a] [] p2)) none pos) (tS G W fun σ h => (ma σ h).thn σ fun v h => .ex ⟨c, [(f, v)]⟩ σ h) := by
  obtain ⟨fI, fd, ps, h1, h2, h3, F⟩ := T.ex
  refine weakS (ps_raise hc tk (pmk_oex (dvs := []) T.o h1 h2 F hr h3 .nil pass0 hg hm (pa_cons ha pa_nil he) (hdb := hd) (he := he) (hpl := rfl))) fun D τ H ⟨μ, σ, h, rs, rel, q⟩ => ?_
  refine ⟨μ, σ, h, rs, rel, (PostS.thn (rel := RD G) rs q).imp fun v H1 ⟨d, h1, μ1, nx, rel1, rd, q1⟩ => ⟨by simp, fun e he => ?_⟩⟩
  refine ⟨e, v, rfl, upd_same, fun dx hdx hne => ⟨rfl, dx, _, upd_same, by rw [upd_ne hne, upd_same], ?_, ?_⟩⟩
  · rw [upd_ne hne] at hdx
    exact hdx
  · rw [upd_ne hne] at hdx
    rw [upd_exd he hne]
    have nx2 : Nx G μ1 H1 μ1 (upd H1 dx (.xd [(G.fnm f, v)])) := Nx.updN hdx
    exact q1 μ1 _ τ _ (some dx) nx2 (rel1.aux hdx) ((rs.mono nx).mono nx2) ⟨rfl, _, upd_same, .cons (rd.mono nx2) .nil⟩
theorem RX'.push {μ : List Addr} {H : Hp} {fs : List (Nat × D)} {dd : Option Addr} {q : Addr} {o : HO} (hq : H q = none) (r : RX' G μ H fs dd) : RX' G (μ ++ [q]) (upd H q o) fs dd := by
  cases dd with
  | none => exact r
  | some d =>
    obtain ⟨qs, hd, rf⟩ := r
    exact ⟨qs, by rw [upd_ne (ne_of_none hd hq)]; exact hd, rf.mono (Nx.push hq)⟩
theorem ks_tryk {c i j : Nat} {x n y : Str} {body : List Stmt} {ms : Sg → Hh → RS} {np py pn' ps pos' : Pos} (hK : X.K = G.K) (Fc : ClsF G) (hst : X.stack = X.env :: X.outer) (hfr : X.env.frame = some X.env.locals) (hex : X.ex = []) (nd : X.N.Nodup) (hi : X.N[i]? = some n) (hkn : X.env.kindOf n = some .local) (hj : X.N[j]? = some y) (hky : L2.Loc X.env.scope y) (hfy : X.fn y = true ∨ X.env.scope.names.lookup y = some .local)
    (hg : Gl X x) (hm : X.mg x = some (.ref (G.clA c))) (hdx : (x == ("__debug__" : Str)) = false) (tk : Takes X W) (hdn : (n == ("__debug__" : Str)) = false) (hcn : (n == ("__classdict__" : Str)) = false) (hsw : swapsWithSole [.Name y py] (.Name n pn') ps.line X.env = pure false)
    (hb : ∀ (W' : WX) (pn : List (Addr × Obj)) (xe : Value → Shared → Prop), Takes (X.tr pn xe) W' → PassesOwn (model X.prog X.w) X.A X.env xe → PSs (X.tr pn xe) body (tS G W' ms)) :
    PS X (.Try body [.ExceptHandler (some (.Name x np)) (some n) [.Assign [.Name y py] (.Name n pn') ps] pos'] [] [] pos) (tS G W fun σ h => keepS G.T c i j (ms σ h)) := by
  refine weakS (ps_tryKeep (tb := fun W' => tS G W' ms) (Wo := W) hst hfr hex nd hi hkn hj hky hfy ⟨hg, hdx, .inl hm⟩ tk hdn hcn hsw hb) fun D τ H ⟨μ, σ, h, rs, rel, q⟩ => ⟨μ, σ, h, rs, rel, ?_⟩
  have q : PostS G W D μ H (keepS G.T c i j (ms σ h)) := q
  cases em : ms σ h with
  | nx σ' h' => rw [em] at q; exact q
  | rt v h' => rw [em] at q; exact q
  | bk σ' h' => rw [em] at q; exact q
  | ct σ' h' => rw [em] at q; exact q
  | bad => rw [em] at q; exact q
  | ex xc σ' h' =>
    rw [em] at q
    intro μ1 H1 τ1 cl dd nx rel1 rs1 ⟨e1, rx⟩
    subst e1
    simp only [keepS] at q
    split at q
    · rename_i hc
      obtain ⟨c1, c2, c3, c4⟩ := hc
      refine ⟨G.T.sub xc.cls c, by rw [hK]; exact Fc.exm xc.cls c c1 c2 c3 c4, fun hs e he => ?_, fun hs => ?_⟩
      · rw [if_pos hs] at q
        have nx2 : Nx G μ1 H1 (μ1 ++ [e]) (upd H1 e (ExX (.ref (G.clA xc.cls)) dd e)) := Nx.push he
        have rel2 := rel1.new (o := .exc xc.cls xc.fs) (ho := ExX (.ref (G.clA xc.cls)) dd e) he rfl ⟨dd, upd_same, rx.push he⟩
        refine q _ _ _ (nx.trans nx2) rel2 ?_
        have r3 : RD G (μ1 ++ [e]) (upd H1 e (ExX (.ref (G.clA xc.cls)) dd e)) (.ref h'.length) (.ref e) := .ref rel1.newAt
        exact ((((rs1.mono nx2).set r3 i).set r3 j)).unset i
      · rw [hs] at q
        exact q μ1 H1 τ1 _ dd nx rel1 rs1 ⟨rfl, rx⟩
    · exact q.elim
end
end Py
/-! a, b, *c = a tuple -/
namespace Py
open PySem L2 RZ PySem.Spec PySem.Calls PyProof.Rows
def gStar (K : PySem.W.Frag) (n : Nat) (t : TGs) : TG := fun v σ H Q => ∃ a xs, v = .ref a ∧ SqT K H a xs ∧ n - 1 ≤ xs.length ∧ ∀ A, H A = none → t (xs.take (n - 1) ++ [.ref A]) σ (upd H A (.lst (xs.drop (n - 1)))) Q
section
variable {X : Cx}
theorem pgs_cons' {e a' : Expr} {es : List Expr} {t : TG} {u : TGs} (h1 : PG X a' t) (h2 : PGs X es u)
    (hs : (assignEach (e :: es) X.env).map (·.2) = assign a' X.env :: (assignEach es X.env).map (·.2)) : PGs X (e :: es) (gCons t u) := by
  refine ⟨fun pins s σ H vs us Q I r h => ?_⟩
  obtain ⟨v, vr, e1, h⟩ := h
  subst e1
  cases r with
  | cons r rr =>
    rw [hs]
    refine assignInOrder_cons (thn (h1.run pins s σ H _ _ _ I r h) fun _ s1 ⟨σ1, H1, I1, q1⟩ => ?_)
    exact h2.run pins s1 σ1 H1 _ _ Q I1 rr q1
theorem vals_take : ∀ {n : Nat} {vs : List V} {us : List Value}, Vals vs us → Vals (vs.take n) (us.take n)
  | 0, _, _, _ => by simp only [List.take_zero]; exact .nil
  | n + 1, [], _, r => by cases r; exact .nil
  | n + 1, v :: vs, _, .cons a r => .cons a (vals_take r)
theorem vals_drop : ∀ {n : Nat} {vs : List V} {us : List Value}, Vals vs us → Vals (vs.drop n) (us.drop n)
  | 0, _, _, r => r
  | n + 1, [], _, r => by cases r; exact .nil
  | n + 1, v :: vs, _, .cons a r => vals_drop (n := n) r
theorem vals_app : ∀ {vs ws : List V} {us ts : List Value}, Vals vs us → Vals ws ts → Vals (vs ++ ws) (us ++ ts)
  | [], _, _, _, .nil, r => r
  | _ :: _, _, _, _, .cons a r, q => .cons a (vals_app r q)
theorem pg_star {es : List Expr} {k : Nat} {pos : Pos} {t : TGs} {n : Nat} (hc : X.calm = true) (h0 : 0 < n) (h : PGs X es t)
    (hn : (assignEach es X.env).length = n) (hst : (assignEach es X.env).findIdx? (·.1) = some (n - 1)) : PG X (.Tuple es k pos) (gStar X.K n t) := by
  refine ⟨fun pins s σ H v u Q I r hw => ?_⟩
  obtain ⟨a, xs, e1, hq, hl, hw⟩ := hw
  subst e1
  cases r
  obtain ⟨its, rv, ht, hz⟩ := I.tuple hq
  have hlen : xs.length = its.length := rv.length
  have hlt : a ≠ s.heap.objs.size := by obtain ⟨o, ho, _⟩ := ht; exact Nat.ne_of_lt (Heap.lt_size ho)
  have hhd := I.ok.hd hc
  rw [assign_Tuple]
  refine wpAny_bind (wpAny_standAt ?_)
  unfold unpack
  rw [hn, hst]
  refine wpAny_bind (wpAny_holding ?_)
  unfold unpackItems
  refine wpAny_bind ?_
  unfold notIterableAtAll
  refine wpAny_bind (wpAny_specialOf ht.typeIs PySem.F.slot_tuple_iter.lookup ?_)
  refine wpAny_pure ?_
  simp only [Bool.false_eq_true, if_false]
  refine wpAny_bind (wpAny_holding (iter_tuple ht ?_))
  refine wpAny_bind (wpAny_holding (draw_tuple hlt (n - 1) 0 _ _ ⟨_, Heap.get?_push_size _ rfl, rfl, rfl⟩ (ht.push _) (by simp; omega) fun h₁ hit₁ hs₁ => ?_))
  have ht₁ : IsTup h₁ a its.toArray := (ht.push _).extBut hs₁.extBut hlt
  rw [Nat.zero_add] at hit₁
  have hit₁' := hit₁
  obtain ⟨oi, hoi, _⟩ := hit₁'
  have ht₁' := ht₁
  obtain ⟨ol, hol, _⟩ := ht₁'
  rw [List.drop_zero]
  have hfl : (its.take (n - 1)).length = n - 1 := by rw [List.length_take]; omega
  rw [if_neg (show ¬ ((its.take (n - 1)).length < n - 1) by rw [hfl]; omega)]
  refine wpAny_bind (wpAny_holding (PySem.W.kun_collect (s := { s with heap := h₁ }) (T := "tuple_iterator") (.inr (.inr (.inr rfl))) (Walks.tuple (A := X.A.in1) hhd s.heap.objs.size a hlt its.toArray) (fun j u st => st.1.typeIs) (k := n - 1) (by simp; omega) ⟨hit₁, ht₁⟩ (Heap.lt_size hoi) (Heap.lt_size hol) (fun h₂ tk hk => ?_) (by simp; omega)))
  have hrl : (its.drop (n - 1)).length = its.length - (n - 1) := by rw [List.length_drop]
  have hmid : (its.drop (n - 1)).length - (n - 1 - (n - 1)) = its.length - (n - 1) := by rw [hrl]; omega
  show wpAny _ _ (if (its.drop (n - 1)).length < n - 1 - (n - 1) then _ else _) _ _ _
  rw [if_neg (by omega)]
  show wpAny _ _ (newList ((its.drop (n - 1)).take ((its.drop (n - 1)).length - (n - 1 - (n - 1)))) >>= fun d => pure (its.take (n - 1) ++ [d] ++ (its.drop (n - 1)).drop ((its.drop (n - 1)).length - (n - 1 - (n - 1))))) _ _ _
  have tl : (its.drop (n - 1)).take (its.length - (n - 1)) = its.drop (n - 1) := List.take_of_length_le (by omega)
  have dl : (its.drop (n - 1)).drop (its.length - (n - 1)) = [] := List.drop_of_length_le (by omega)
  simp only [hmid, tl, dl, List.append_nil]
  have he : Heap.ExtBut s.heap.objs.size s.heap h₂ := fun b o hb e => hk b o hb (hs₁.extBut b o hb (Heap.get?_push_of_some _ e))
  have I1 : L2.Inv X pins σ H { s with heap := h₂, toks := tk } := I.kept (t' := tk) fun b o e => he b o (Nat.ne_of_lt (Heap.lt_size e)) e
  have hf : H h₂.objs.size = none := I1.hok.fresh (Nat.le_refl _)
  refine wpAny_bind (wpAny_newList ?_ (by omega))
  refine wpAny_pure ?_
  have I2 : L2.Inv X pins σ (upd H h₂.objs.size (.lst (xs.drop (n - 1)))) { s with heap := h₂.push { cls := .type "list", data := .seq (its.drop (n - 1)).toArray 0 }, toks := tk } :=
    I1.laid (t' := tk) (fun b u e => Heap.get?_push_of_some _ e) (Nat.le_refl _) ⟨by simp; omega, _, 0, vals_drop rv, Heap.get?_push_size _ rfl⟩
  exact h.run pins _ σ _ (xs.take (n - 1) ++ [.ref h₂.objs.size]) _ Q I2 (vals_app (vals_take rv) (show Vals [V.ref h₂.objs.size] [Value.ref h₂.objs.size] from .cons rfl .nil)) (hw _ hf)
variable {G : Cfg} {W : WX} {a : Expr} {ma : Sg → Hh → R D} {es : List Expr}
theorem kgs_cons' {a' : Expr} {t : Tg} {ts : Tgs} (hs : (assignEach (a :: es) X.env).map (·.2) = assign a' X.env :: (assignEach es X.env).map (·.2)) (h1 : PG X a' (tTg G t)) (h2 : PGs X es (tTgs G ts)) : PGs X (a :: es) (tTgs G (.cons t ts)) :=
  weakGs (pgs_cons' h1 h2 hs) fun v τ H Q ⟨μ, σ, h, ds, σ', rs, rel, rds, e, k⟩ => by
    cases rds with
    | nil => simp [Tgs.put] at e
    | cons rd rds =>
      simp only [Tgs.put, Option.bind_eq_some_iff] at e
      obtain ⟨σ1, e1, e2⟩ := e
      refine ⟨_, _, rfl, μ, σ, h, _, σ1, rs, rel, rd, e1, fun τ1 rs1 w1 => ⟨μ, σ1, h, _, σ', rs1, rel, rds, e2, fun τ2 rs2 w2 => k τ2 rs2 fun vs hv => ?_⟩⟩
      rw [w2 vs fun i hi => hv i (by simp [Tgs.names, hi]), w1 vs fun i hi => hv i (by simp [Tgs.names, hi])]
theorem ks_asgs {ts : Tgs} {k : Nat} {pos p : Pos} (hs : swapsWithSole [.Tuple es k p] a pos.line X.env = pure false) (hw : swappedStores [.Tuple es k p] a X.env = pure none) (hK : X.K = G.K) (hc : X.calm = true) (h0 : 0 < ts.len)
    (hn : (assignEach es X.env).length = ts.len) (hst : (assignEach es X.env).findIdx? (·.1) = some (ts.len - 1)) (ha : PE X a (tE G W ma)) (hg : PGs X es (tTgs G ts)) :
    PS X (.Assign [.Tuple es k p] a pos) (tS G W fun σ h => (ma σ h).thn σ fun x h => starS ts x h σ) :=
  weakS (ps_asg ha (pg_star hc h0 hg hn hst) hs hw rfl) fun D τ H ⟨μ, σ, h, rs, rel, p⟩ => ⟨μ, σ, h, rs, rel, (PostS.thn (rel := RD G) rs p).imp fun v H1 ⟨d, h1, μ1, nx, rel1, rd, p1⟩ => by
    unfold starS at p1
    split at p1
    · split at p1
      · rename_i xs hx
        unfold putS at p1
        split at p1
        · rename_i σ' e
          have inv : ∃ q vs, v = .ref q ∧ SqT G.K H1 q vs ∧ RDs G μ1 H1 xs vs := by
            cases rd with
            | tup a b => exact ⟨_, _, rfl, a, b⟩
          obtain ⟨q, vs, rfl, hq, rds⟩ := inv
          refine ⟨q, vs, rfl, by rw [hK]; exact hq, by rw [← rds.length]; exact hx.2, fun A hA => ?_⟩
          have nx2 : Nx G μ1 H1 (μ1 ++ [A]) (upd H1 A (.lst (vs.drop (ts.len - 1)))) := Nx.push hA
          have rel2 : Rel G (μ1 ++ [A]) (upd H1 A (.lst (vs.drop (ts.len - 1)))) (h1 ++ [.lst (xs.drop (ts.len - 1)) false]) := rel1.newL hA (rds.drop _)
          have at2 : (μ1 ++ [A])[h1.length]? = some A := rel1.newAt
          exact ⟨μ1 ++ [A], σ, h1 ++ [.lst (xs.drop (ts.len - 1)) false], _, σ', (rs.mono nx).mono nx2, rel2, ((rds.mono nx2).take _).append (.cons (.ref at2) .nil), e, fun τ' rs' _ => p1 _ _ τ' nx2 rel2 rs'⟩
        · exact p1.elim
      · exact p1.elim
    · exact p1.elim⟩
end
end Py
/-! The checker: a text of the small Python is that text of the row. -/
namespace Py
open PySem L2 RZ
structure Nm where
  fn : Nat → Option Str
  gl : Nat → Option Str
  cl : Nat → Option Str
  fl : Nat → Option Str := fun _ => none
  x0 : Nat → Bool := fun _ => false
  x1 : Nat → Option Nat := fun _ => none
def visB (sc : Scope) (x : Str) : Bool := match sc.names.lookup x with
  | some .local => true | some .cell => true | some .free => true | _ => false
def glB (sc : Scope) (x : Str) : Bool := match sc.names.lookup x with
  | some .globalImplicit => true | _ => false
def stB (sc : Scope) (x : Str) : Bool := match sc.names.lookup x with
  | some .local => true | some .cell => true | _ => false
def lcB (sc : Scope) (x : Str) : Bool := match sc.names.lookup x with
  | some .local => true | _ => false
def okB (x : Str) : Bool := !(x == ("__debug__" : Str)) && !(x == ("__classdict__" : Str))
def noStar : Expr → Bool
  | .Starred .. => false | _ => true
def noSlice : Expr → Bool
  | .Slice .. => false | _ => true
def noSet : Expr → Bool
  | .Set .. => false | _ => true
def noComp : Expr → Bool
  | .ListComp .. => false | .SetComp .. => false | .DictComp .. => false | _ => true
/-- not f() -/
def okBase : Expr → Bool
  | .Call (.Name _ _) [] [] _ => false | _ => true
def isTup : Expr → Bool
  | .Tuple .. => true | _ => false
def isLst : Expr → Bool
  | .List .. => true | _ => false
/-- e's truth is its value's -/
def plainT : Expr → Bool
  | .UnaryOp .Not _ _ => false | .BoolOp .. => false | .IfExp .. => false | .Compare .. => false | _ => true
def nmB (N : List Str) (i : Nat) (x : Str) : Bool := match N[i]? with
  | some y => y == x
  | none => false
def onB (o : Option Str) (x : Str) : Bool := match o with
  | some y => y == x
  | none => false
def ownOf (N : List Str) (own : List Nat) : List (Str × Nat) := own.filterMap fun i => N[i]?.map fun x => (x, i)
def cTy (n : Nm) (sc : Scope) (t : Ty) (e : Expr) : Bool := match e with
  | .Name x _ => (match t with
    | .cls c => onB (n.cl c) x && glB sc x && okB x
    | t => x == tyX t && glB sc x)
  | _ => false
def cTys (n : Nm) (sc : Scope) : List Ty → List Expr → Bool
  | [], es => es.isEmpty
  | t :: ts, es => (match es with
    | e :: es => cTy n sc t e && cTys n sc ts es
    | [] => false)
mutual
def cTg (N : List Str) (sc : Scope) : Tg → Expr → Bool
  | .nm i, e => (match e with
    | .Name x _ => nmB N i x && stB sc x
    | _ => false)
  | .tup ts, e => (match e with
    | .Tuple es _ _ => cTgs N sc ts es
    | _ => false)
def cTgs (N : List Str) (sc : Scope) : Tgs → List Expr → Bool
  | .nil, es => es.isEmpty
  | .cons t ts, es => (match es with
    | e :: es => noStar e && cTg N sc t e && cTgs N sc ts es
    | [] => false)
end
/-- .., *x -/
def cTgS (N : List Str) (sc : Scope) : Tgs → List Expr → Bool
  | .cons t .nil, es => (match es with
    | [.Starred e _] => cTg N sc t e
    | _ => false)
  | .cons t ts, es => (match es with
    | e :: es => noStar e && cTg N sc t e && cTgS N sc ts es
    | [] => false)
  | .nil, _ => false
mutual
def cE (n : Nm) (N : List Str) : E → Scope → Expr → Bool
  | .fld a f, sc, e => (match e with | .Attribute x y _ => onB (n.fl f) y && okBase x && cE n N a sc x | _ => false)
  | .fnv f, sc, e => (match e with | .Name x _ => onB (n.fn f) x && glB sc x && okB x | _ => false)
  | .calll i es, sc, e => (match e with | .Call (.Name x _) (y :: xs) [] _ => nmB N i x && visB sc x && okB x && cEs n N es sc (y :: xs) | _ => false)
  | .repr a, sc, e => (match e with | .Call (.Name f _) [x] [] _ => decide (f = ("repr" : Str)) && glB sc f && noStar x && cE n N a sc x | _ => false)
  | .dct1 a b, sc, e => (match e with | .Dict [some x] [y] _ => cE n N a sc x && cE n N b sc y | _ => false)
  | .trev a, sc, e => (match e with
    | .Call (.Name f _) [.Call (.Name g _) [x] [] _] [] _ => decide (f = ("tuple" : Str)) && decide (g = ("reversed" : Str)) && glB sc f && glB sc g && noStar x && cE n N a sc x
    | _ => false)
  | .srev a, sc, e => (match e with | .Subscript x (.Slice none none (some (.UnaryOp .USub (.Constant (.int i) _ _) _)) _) _ => decide (i = 1) && cE n N a sc x | _ => false)
  | .dct0, _, e => (match e with | .Dict [] [] _ => true | _ => false)
  | .non, _, e => (match e with | .Constant .none _ _ => true | _ => false)
  | .bl b, _, e => (match e with | .Constant (.bool c) _ _ => b == c | _ => false)
  | .int i, _, e => (match e with | .Constant (.int j) _ _ => i == j | _ => false)
  | .str s, _, e => (match e with | .Constant (.str x) _ _ => decide (x = ⟨s.toArray⟩) | _ => false)
  | .var i, sc, e => (match e with | .Name x _ => nmB N i x && visB sc x && okB x | _ => false)
  | .glob g, sc, e => (match e with | .Name x _ => onB (n.gl g) x && glB sc x && okB x | _ => false)
  | .bin op a b, sc, e => (match e with | .BinOp x o y _ => decide (o = opB op) && cE n N a sc x && cE n N b sc y | _ => false)
  | .neg a, sc, e => (match e with | .UnaryOp .USub x _ => cE n N a sc x | _ => false)
  | .not a, sc, e => (match e with | .UnaryOp .Not x _ => cE n N a sc x | _ => false)
  | .and a b, sc, e => (match e with
    | .BoolOp .And (x :: y :: r) p => cE n N a sc x && (match r with | [] => cE n N b sc y | z :: r => cE n N b sc (.BoolOp .And (y :: z :: r) p))
    | _ => false)
  | .or a b, sc, e => (match e with
    | .BoolOp .Or (x :: y :: r) p => cE n N a sc x && (match r with | [] => cE n N b sc y | z :: r => cE n N b sc (.BoolOp .Or (y :: z :: r) p))
    | _ => false)
  | .cmp op a b, sc, e => (match e with | .Compare x [o] [y] _ => decide (o = opC op) && noSet y && cE n N a sc x && cE n N b sc y | _ => false)
  | .chn op op' a b c, sc, e => (match e with | .Compare x [o, o'] [y, z] _ => decide (o = opC op) && decide (o' = opC op') && noSet z && cE n N a sc x && cE n N b sc y && cE n N c sc z | _ => false)
  | .ife c a b, sc, e => (match e with | .IfExp z x y _ => cE n N c sc z && cE n N a sc x && cE n N b sc y | _ => false)
  | .tup es, sc, e => (match e with | .Tuple xs _ _ => cEs n N es sc xs | _ => false)
  | .lst es, sc, e => (match e with | .List xs _ => cEs n N es sc xs | _ => false)
  | .ix a i, sc, e => (match e with | .Subscript x y _ => noSlice y && cE n N a sc x && cE n N i sc y | _ => false)
  | .sl a lo hi, sc, e => (match e with | .Subscript x (.Slice l u none _) _ => cE n N a sc x && cEo n N lo sc l && cEo n N hi sc u | _ => false)
  | .call f es, sc, e => (match e with | .Call (.Name x _) xs [] _ => onB (n.fn f) x && glB sc x && okB x && cEs n N es sc xs | _ => false)
  | .bi b es, sc, e => (match e with | .Call (.Name x _) (y :: xs) [] _ => decide (x = biX b) && glB sc x && cEs n N es sc (y :: xs) | _ => false)
  | .bm b o es, sc, e => (match e with
    | .Call (.Attribute x m ap) (y :: xs) [] cp => decide (m = bmN b) && okBase x && (ap.endLine == cp.line) && decide (xs.length < 20) && cE n N o sc x && cEs n N es sc (y :: xs)
    | _ => false)
  | .isi a ts, sc, e => (match e with
    | .Call (.Name f _) [x, te] [] _ => decide (f = ("isinstance" : Str)) && glB sc f && noStar x && cE n N a sc x && (match te with
      | .Tuple tes _ _ => !ts.isEmpty && decide (ts.length ≤ 100) && cTys n sc ts tes
      | te => (match ts with
        | [t] => cTy n sc t te
        | _ => false))
    | _ => false)
  | .lrng1 a, sc, e => (match e with
    | .Call (.Name f _) [.Call (.Name g _) [x] [] _] [] _ => decide (f = ("list" : Str)) && decide (g = ("range" : Str)) && glB sc f && glB sc g && noStar x && cE n N a sc x
    | _ => false)
  | .lrng2 a b, sc, e => (match e with
    | .Call (.Name f _) [.Call (.Name g _) [x, y] [] _] [] _ => decide (f = ("list" : Str)) && decide (g = ("range" : Str)) && glB sc f && glB sc g && noStar x && noStar y && cE n N a sc x && cE n N b sc y
    | _ => false)
  | .comp el own tg it cd, sc, e => (match e with
    | .ListComp x [⟨t, i, ifs, 0⟩] scope _ => blkC N sc scope (ownOf N own) && decide ((ownOf N own).map (·.2) = own) && (tg.names.all fun j => own.contains j) && noSet i && cTg N scope tg t && cI n N it sc t i && cC n N cd scope ifs && cE n N el scope x
    | _ => false)
def cEs (n : Nm) (N : List Str) : Es → Scope → List Expr → Bool
  | .nil, _, es => es.isEmpty
  | .cons e es, sc, xs => (match xs with
    | x :: xs => noStar x && cE n N e sc x && cEs n N es sc xs
    | [] => false)
def cEo (n : Nm) (N : List Str) : Eo → Scope → Option Expr → Bool
  | .none, _, o => o.isNone
  | .some e, sc, o => (match o with
    | some x => cE n N e sc x
    | none => false)
def cC (n : Nm) (N : List Str) : Eo → Scope → List Expr → Bool
  | .none, _, es => es.isEmpty
  | .some e, sc, es => (match es with
    | [x] => cE n N e sc x
    | _ => false)
def cI (n : Nm) (N : List Str) : Wi → Scope → Expr → Expr → Bool
  | .seq e, sc, _, x => cE n N e sc x
  | .rng1 a, sc, _, x => (match x with
    | .Call (.Name f _) [y] [] _ => decide (f = ("range" : Str)) && glB sc f && noStar y && cE n N a sc y
    | _ => false)
  | .rng2 a b, sc, _, x => (match x with
    | .Call (.Name f _) [y, z] [] _ => decide (f = ("range" : Str)) && glB sc f && noStar y && noStar z && cE n N a sc y && cE n N b sc z
    | _ => false)
  | .enum a, sc, t, x => (match x with
    | .Call (.Name f _) [y] [] _ => decide (f = ("enumerate" : Str)) && glB sc f && isTup t && noStar y && cE n N a sc y
    | _ => false)
  | .zip a b, sc, t, x => (match x with
    | .Call (.Name f _) [y, z] [] _ => decide (f = ("zip" : Str)) && glB sc f && isTup t && noStar y && noStar z && cE n N a sc y && cE n N b sc z
    | _ => false)
end
mutual
def cS (n : Nm) (N : List Str) (sc : Scope) : S → Stmt → Bool
  | .asg t e, s => (match s with
    | .Assign [tg] x _ => noStar tg && noComp x && !((isTup tg || isLst tg) && isTup x) && cTg N sc t tg && cE n N e sc x
    | _ => false)
  | .asgc i e, s => (match s with
    | .Assign [.Name y py] (.ListComp x gs scope pos) _ => (match e with
      | .comp .. => true
      | _ => false) && nmB N i y && lcB sc y && (py.line == pos.line) && !(scope.names.any fun (n, k) => n == y && (k == .local || k == .cell)) && cE n N e sc (.ListComp x gs scope pos)
    | _ => false)
  | .asgs ts e, s => (match s with
    | .Assign [.Tuple es _ _] x _ => noComp x && !isTup x && cTgS N sc ts es && cE n N e sc x
    | _ => false)
  | .setix o i e, s => (match s with
    | .Assign [.Subscript x y _] z _ => noComp z && noSlice y && cE n N o sc x && cE n N i sc y && cE n N e sc z
    | _ => false)
  | .swap o i p j a b, s => (match s with
    | .Assign [.Tuple [.Subscript x1 y1 _, .Subscript x2 y2 _] _ _] (.Tuple [z1, z2] _ _) _ => noSlice y1 && noSlice y2 && noStar z1 && noStar z2 && cE n N o sc x1 && cE n N i sc y1 && cE n N p sc x2 && cE n N j sc y2 && cE n N a sc z1 && cE n N b sc z2
    | _ => false)
  | .ex e, s => (match s with | .Expr x _ => noComp x && cE n N e sc x | _ => false)
  | .ret e, s => (match s with | .Return (some x) _ => cE n N e sc x | _ => false)
  | .pass, s => (match s with | .Pass _ => true | _ => false)
  | .iff c a b, s => (match s with | .If x y z _ => cE n N c sc x && cSs n N sc a y && cSs n N sc b z | _ => false)
  | .forr t it b, s => (match s with
    | .For tg x y [] _ => noSet x && cTg N sc t tg && cI n N it sc tg x && cSs n N sc b y
    | _ => false)
  | .raise0 c, s => (match s with
    | .Raise (some (.Call (.Name x _) [] [] _)) none _ => n.x0 c && onB (n.cl c) x && glB sc x && okB x
    | _ => false)
  | .raise1 c f e, s => (match s with
    | .Raise (some (.Call (.Name x _) [y] [] _)) none _ => decide (n.x1 c = some f) && onB (n.cl c) x && glB sc x && okB x && noStar y && cE n N e sc y
    | _ => false)
  | .tryk b c i j, s => (match s with
    | .Try bd [.ExceptHandler (some (.Name x _)) (some nm) [.Assign [.Name y _] (.Name m _) _] _] [] [] _ => onB (n.cl c) x && glB sc x && okB x && nmB N i nm && lcB sc nm && okB nm && (m == nm) && nmB N j y && stB sc y && cSs n N sc b bd
    | _ => false)
  | .never, _ => true
def cSs (n : Nm) (N : List Str) (sc : Scope) : Ss → List Stmt → Bool
  | .nil, ss => ss.isEmpty
  | .cons s ss, xs => (match xs with
    | x :: xs => cS n N sc s x && cSs n N sc ss xs
    | [] => false)
end
end Py
namespace Py
open PySem L2 RZ
def bltNames : List Str := ["len", "list", "tuple", "int", "abs", "min", "max", "sorted", "all", "isinstance", "range", "enumerate", "zip", "bool", "str", "dict", "ValueError", "repr", "reversed"]
/-- where a text is read -/
structure Ctx (G : Cfg) (n : Nm) (N : List Str) (C : Cl) (k : Nat) (W : WX) (sc : Scope) (X : Cx) : Prop where
  hK : X.K = G.K
  hN : X.N = N
  nd : N.Nodup
  calm : X.calm = true
  kind : X.env.scope.kind = .function
  room : Room (k + 3) X.A
  gd : X.A.guards = some []
  tk : Takes X W
  po : PassesOwn (model X.prog X.w) X.A X.env X.xe
  vis : ∀ x, visB sc x = true → Vis X.env.scope x
  gl : ∀ x, glB sc x = true → Gl X x
  st : ∀ x, stB sc x = true → L2.Loc X.env.scope x ∧ (X.fn x = true ∨ X.env.scope.names.lookup x = some .local)
  lc : ∀ x, sc.names.lookup x = some .local → X.env.scope.names.lookup x = some .local
  cf : ∀ x, (sc.names.lookup x = some .cell ∨ sc.names.lookup x = some .free) → (X.env.scope.names.lookup x = some .cell ∨ X.env.scope.names.lookup x = some .free)
  fns : ∀ f x, n.fn f = some x → FnK G X k x (G.fnA f) (C f)
  gls : ∀ g x, n.gl g = some x → ∃ u v, X.mg x = some u ∧ RelV v u ∧ ∀ μ H, RD G μ H (G.T.glob g) v
  blt : ∀ x ∈ bltNames, X.mg x = none
  cls : ∀ c x, n.cl c = some x → X.mg x = some (.ref (G.clA c))
  F : ClsF G
  fk : ∀ f, G.T.fnk f = true → ∃ y, n.fn f = some y
  fl : ∀ f y, n.fl f = some y → G.fnm f = y ∧ (∀ g, G.fnm g = y → g = f) ∧ ∀ c, c < G.T.ncl → G.T.exn c = true → G.T.hasF c f = true → PySem.W.findIn G.K (.ref (G.clA c)) y = some none
  x0 : ∀ c, n.x0 c = true → Ex0 X.K (G.clA c)
  x1 : ∀ c f, n.x1 c = some f → Ex1 X.prog X.w X.K X.mg X.base (G.clA c) (G.fnm f)
/-- where statements stand -/
structure StX (X : Cx) : Prop where
  st : X.stack = X.env :: X.outer
  fr : X.env.frame = some X.env.locals
  ex : X.ex = []
section
variable {G : Cfg} {n : Nm} {N : List Str} {C : Cl} {k : Nat} {W : WX} {sc : Scope} {X : Cx}
theorem Ctx.hu (c : Ctx G n N C k W sc X) : X.A.units + 65 < cLine := by
  have := c.room.un
  omega
theorem relabel_look (env : Env) : ∀ (names : List (Str × NameKind)) (x : Str), (names.map fun (n, k) => if (k == NameKind.free && env.scope.kind == .function && env.kindOf n == some .cell) then (n, NameKind.cell) else (n, k)).lookup x =
    (names.lookup x).map fun k => if (k == NameKind.free && env.scope.kind == .function && env.kindOf x == some .cell) then NameKind.cell else k
  | [], x => rfl
  | (m, k) :: r, x => by
    rw [List.map_cons]
    dsimp only
    by_cases hx : x = m
    · subst hx
      split
      · rename_i h; simp only [List.lookup, beq_self_eq_true, Option.map_some, if_pos h]
      · rename_i h; simp only [List.lookup, beq_self_eq_true, Option.map_some, if_neg h]
    · have hb : (x == m) = false := by simpa using hx
      have ih := relabel_look env r x
      split
      · simp only [List.lookup, hb]; exact ih
      · simp only [List.lookup, hb]; exact ih
theorem blk_look {scope : Scope} {cl : List (Str × Addr)} {A : Addr} (x : Str) : (compEnvC scope cl A X.env).scope.names.lookup x =
    (scope.names.lookup x).map fun k => if (k == NameKind.free && X.env.scope.kind == .function && X.env.kindOf x == some .cell) then NameKind.cell else k := relabel_look X.env scope.names x
theorem Ctx.blk (c : Ctx G n N C k W sc X) {scope : Scope} (hk : scope.kind = .function) (s : Shared) (H : Hp) (A : Addr) (cl : List (Str × Addr)) (fp : List Addr) :
    Ctx G n N C k W0 scope (X.blk s H scope (compEnvC scope cl A X.env) fp) where
  hK := c.hK
  hN := c.hN
  nd := c.nd
  calm := c.calm
  kind := hk
  room := c.room
  gd := c.gd
  tk := takes0'
  po := PassesOwn.never
  vis := fun x h => by
    unfold visB at h
    unfold Vis
    rw [blk_look]
    split at h
    · rename_i e; rw [e]; exact .inl rfl
    · rename_i e; rw [e]; exact .inr (.inl rfl)
    · rename_i e
      rw [e]
      simp only [Option.map_some]
      split
      · exact .inr (.inl rfl)
      · exact .inr (.inr rfl)
    · cases h
  gl := fun x h => by
    unfold glB at h
    unfold Gl Env.kindOf
    rw [blk_look]
    split at h
    · rename_i e; rw [e]; rfl
    · cases h
  st := fun x h => by
    unfold stB at h
    unfold L2.Loc
    rw [blk_look]
    split at h
    · rename_i e; rw [e]; exact ⟨.inl rfl, .inr rfl⟩
    · rename_i e; rw [e]
      refine ⟨.inr rfl, .inl ?_⟩
      show (scope.names.lookup x == some .cell) = true
      rw [e]; rfl
    · cases h
  lc := fun x h => by rw [blk_look, h]; rfl
  cf := fun x h => by
    rw [blk_look]
    rcases h with h | h
    · rw [h]; exact .inl rfl
    · rw [h]
      simp only [Option.map_some]
      split
      · exact .inl rfl
      · exact .inr rfl
  fns := fun f x e => let F := c.fns f x e; ⟨F.mg, F.kp, F.ok⟩
  gls := c.gls
  blt := c.blt
  cls := c.cls
  F := c.F
  fk := c.fk
  fl := c.fl
  x0 := c.x0
  x1 := c.x1
/-- in a try's body -/
theorem Ctx.tr (c : Ctx G n N C k W sc X) {W' : WX} {pn : List (Addr × Obj)} {xe : Value → Shared → Prop} (tk : Takes (X.tr pn xe) W') (po : PassesOwn (model X.prog X.w) X.A X.env xe) : Ctx G n N C k W' sc (X.tr pn xe) :=
  ⟨c.hK, c.hN, c.nd, c.calm, c.kind, c.room, c.gd, tk, po, c.vis, c.gl, c.st, c.lc, c.cf, fun f x e => let F := c.fns f x e; ⟨F.mg, F.kp, F.ok⟩, c.gls, c.blt, c.cls, c.F, c.fk, c.fl, c.x0, c.x1⟩
theorem nm_of {i : Nat} {x : Str} (h : nmB N i x = true) : N[i]? = some x := by
  unfold nmB at h
  split at h
  · rename_i e; rw [e, beq_iff_eq.mp h]
  · cases h
theorem on_of {o : Option Str} {x : Str} (h : onB o x = true) : o = some x := by
  unfold onB at h
  split at h
  · rw [beq_iff_eq.mp h]
  · cases h
theorem ok_of {x : Str} (h : okB x = true) : (x == ("__debug__" : Str)) = false ∧ (x == ("__classdict__" : Str)) = false := by
  unfold okB at h
  rw [Bool.and_eq_true] at h
  exact ⟨by simpa using h.1, by simpa using h.2⟩
theorem star_of {e : Expr} (h : noStar e = true) (es : List Expr) (env : Env) : starEach (e :: es) env = (false, eval e env) :: starEach es env := by
  cases e <;> first | rfl | cases h
theorem asg_of {e : Expr} (h : noStar e = true) (es : List Expr) (env : Env) : assignEach (e :: es) env = (false, assign e env) :: assignEach es env := by
  cases e <;> first | rfl | cases h
theorem slice_of {e : Expr} (h : noSlice e = true) : PlainIx e := by
  intro o i
  cases e <;> first | rfl | cases h
theorem set_of {e : Expr} (h : noSet e = true) (op : CmpOp) : behindInMarks op e = false := by
  cases e <;> first | rfl | cases h
theorem setI_of {e : Expr} (h : noSet e = true) (env : Env) (x : Value) : foldedSetIterable e env x = pure x := by
  cases e <;> first | rfl | cases h
theorem comp_of {e : Expr} (h : noComp e = true) (t : Option Expr) (l : Nat) (env : Env) : swapsWith e t l env = pure false := by
  cases e <;> first | rfl | cases h
theorem base_of {e : Expr} (h : okBase e = true) (m : Str) (env : Env) : attributeBase e m env (eval e env) = eval e env := by
  unfold attributeBase
  split
  · rename_i id p pos _
    cases h
  · rfl
theorem swap_of {tg x : Expr} (h : (!((isTup tg || isLst tg) && isTup x)) = true) (env : Env) : swappedStores [tg] x env = pure none := by
  unfold swappedStores
  cases tg <;> first | rfl | skip
  · cases x <;> first | rfl | (simp [isTup, isLst] at h)
  · cases x <;> first | rfl | (simp [isTup, isLst] at h)
theorem sqs_of {e : Es} : ∀ {xs : List Expr}, cEs n N e sc xs = true → ∀ pos env, (backTo pos (starEach xs env)).any (·.1) = false := by
  intro xs
  induction xs generalizing e with
  | nil => intro _ pos env; rfl
  | cons x xs ih =>
    intro h pos env
    cases e with
    | nil => simp [cEs] at h
    | cons e es =>
      simp only [cEs, Bool.and_eq_true] at h
      rw [star_of h.1.1]
      have := ih h.2 pos env
      unfold backTo at this ⊢
      simpa using this
abbrev Ok3 (G : Cfg) (W : WX) (X : Cx) (e : Expr) (d : Den) : Prop := (PE X e (tE G W d.v) ∧ PT X e (tT G W d.t)) ∧ ∀ op vs p, e = .BoolOp op vs p → PW X e (tT G W d.t)
theorem plainT_of {e : Expr} (h : plainT e = true) (env : Env) (whole : Sem Value) : isTrue e env whole = (do let v ← whole; standAt e.pos; holding [v] (truthy v)) := by
  cases e with
  | UnaryOp op x p => cases op <;> first | rfl | cases h
  | _ => first | rfl | cases h
theorem plain3 {e : Expr} {m : Sg → Hh → R D} (hK : X.K = G.K) (hp : plainT e = true) (h : PE X e (tE G W m)) : Ok3 G W X e (.of m) :=
  ⟨⟨h, kt_val hK (plainT_of hp X.env) h⟩, fun op vs p z => by subst z; cases hp⟩
theorem blkOk_of (c : Ctx G n N C k W sc X) {scope : Scope} {own : List (Str × Nat)} (h : blkC N sc scope own = true) : BlkOk X.N X.env.scope scope own := by
  have h := blkOk_by h
  rw [c.hN]
  exact ⟨h.kind, h.uniq, h.ix, fun y hy e => c.cf y.1 (h.free y hy e), h.own⟩
mutual
theorem sTg (c : Ctx G n N C k W sc X) : ∀ (t : Tg) (e : Expr), cTg N sc t e = true → PG X e (tTg G t)
  | .nm i, e, h => by
    unfold cTg at h
    split at h
    · rename_i x p
      rw [Bool.and_eq_true] at h
      obtain ⟨h1, h2⟩ := c.st x h.2
      exact kg_nm (by rw [c.hN]; exact c.nd) (by rw [c.hN]; exact nm_of h.1) h1 h2
    · cases h
  | .tup ts, e, h => by
    unfold cTg at h
    split at h
    · rename_i es kk p
      obtain ⟨h1, h2, h3⟩ := sTgs c ts es h
      exact kg_tup c.hK c.calm h2 h3 h1
    · cases h
theorem sTgs (c : Ctx G n N C k W sc X) : ∀ (ts : Tgs) (es : List Expr), cTgs N sc ts es = true → PGs X es (tTgs G ts) ∧ (assignEach es X.env).length = ts.len ∧ (assignEach es X.env).findIdx? (·.1) = none
  | .nil, es, h => by
    unfold cTgs at h
    have : es = [] := by simpa using h
    subst this
    exact ⟨kgs_nil, rfl, rfl⟩
  | .cons t ts, es, h => by
    unfold cTgs at h
    split at h
    · rename_i e es
      simp only [Bool.and_eq_true] at h
      obtain ⟨⟨h1, h2⟩, h3⟩ := h
      obtain ⟨k1, k2, k3⟩ := sTgs c ts es h3
      refine ⟨kgs_cons (by rw [asg_of h1]; rfl) (sTg c t e h2) k1, by rw [asg_of h1]; simp [Tgs.len, k2], ?_⟩
      rw [asg_of h1, List.findIdx?_cons]
      simp [k3]
    · cases h
end
theorem cls_of (c : Ctx G n N C k W sc X) {t : Ty} {e : Expr} (h : cTy n sc t e = true) : ClsE G X t e := by
  unfold cTy at h
  split at h
  · rename_i x p
    cases t with
    | cls cc =>
      simp only [Bool.and_eq_true] at h
      obtain ⟨⟨h1, h2⟩, h3⟩ := h
      exact ⟨.ref (G.clA cc), pe_glob (c.gl x h2) (c.cls cc x (on_of h1)) rfl (ok_of h3).1, .own _⟩
    | int => simp only [Bool.and_eq_true, beq_iff_eq] at h; obtain ⟨rfl, h2⟩ := h; exact ⟨.ty "int", pe_bltn (c.gl _ h2) (c.blt _ (by decide)) (by decide +kernel) rfl, .ty _⟩
    | bool => simp only [Bool.and_eq_true, beq_iff_eq] at h; obtain ⟨rfl, h2⟩ := h; exact ⟨.ty "bool", pe_bltn (c.gl _ h2) (c.blt _ (by decide)) (by decide +kernel) rfl, .ty _⟩
    | str => simp only [Bool.and_eq_true, beq_iff_eq] at h; obtain ⟨rfl, h2⟩ := h; exact ⟨.ty "str", pe_bltn (c.gl _ h2) (c.blt _ (by decide)) (by decide +kernel) rfl, .ty _⟩
    | tup => simp only [Bool.and_eq_true, beq_iff_eq] at h; obtain ⟨rfl, h2⟩ := h; exact ⟨.ty "tuple", pe_bltn (c.gl _ h2) (c.blt _ (by decide)) (by decide +kernel) rfl, .ty _⟩
    | lst => simp only [Bool.and_eq_true, beq_iff_eq] at h; obtain ⟨rfl, h2⟩ := h; exact ⟨.ty "list", pe_bltn (c.gl _ h2) (c.blt _ (by decide)) (by decide +kernel) rfl, .ty _⟩
    | dct => simp only [Bool.and_eq_true, beq_iff_eq] at h; obtain ⟨rfl, h2⟩ := h; exact ⟨.ty "dict", pe_bltn (c.gl _ h2) (c.blt _ (by decide)) (by decide +kernel) rfl, .ty _⟩
    | ve => simp only [Bool.and_eq_true, beq_iff_eq] at h; obtain ⟨rfl, h2⟩ := h; exact ⟨.ty "ValueError", pe_bltn (c.gl _ h2) (c.blt _ (by decide)) (by decide +kernel) rfl, .ty _⟩
  · cases h
end
end Py
/-! The main induction: a checked text does what the small Python tells. -/
namespace Py
open PySem L2 RZ
section
variable {G : Cfg} {n : Nm} {N : List Str} {C : Cl} {k : Nat}
theorem never_t {W : WX} {X : Cx} {e : Expr} : PT X e (tT G W fun _ _ => .bad) := ⟨fun pins s τ H Q I q => by
  obtain ⟨μ, σ, h, rs, rel, p⟩ := q
  exact p.elim⟩
theorem few_of {W : WX} {sc : Scope} {X : Cx} {es : Es} {xs : List Expr} (hl : xs.length ≤ 20) (h : cEs n N es sc xs = true) (pos : Pos) : ((backTo pos (starEach xs X.env)).all (fun x => !x.1) && (backToKw pos (keywordEach [] X.env)).all (fun x => x.1.isSome)
      && decide (xs.length + ([] : List Keyword).length + (if ([] : List Keyword).isEmpty then 0 else 1) < 30)) = true := by
  have := sqs_of h pos X.env
  have h1 : (backTo pos (starEach xs X.env)).all (fun x => !x.1) = true := by
    rw [List.all_eq_true]
    intro x hx
    rw [List.any_eq_false] at this
    simpa using this x hx
  rw [h1]
  have h2 : decide (xs.length + ([] : List Keyword).length + (if ([] : List Keyword).isEmpty then 0 else 1) < 30) = true := by
    simp; omega
  rw [h2]
  rfl
theorem isTup_of {e : Expr} (h : isTup e = true) : ∃ es kk p, e = .Tuple es kk p := by
  cases e <;> first | exact ⟨_, _, _, rfl⟩ | cases h
theorem clss_of {W : WX} {sc : Scope} {X : Cx} (c : Ctx G n N C k W sc X) : ∀ {ts : List Ty} {es : List Expr}, cTys n sc ts es = true → ClsEs G X ts es
  | [], es, h => by
    have : es = [] := by simpa [cTys] using h
    subst this
    exact ⟨[], weakA pa_nil fun _ _ _ q => q, .nil⟩
  | t :: ts, [], h => by simp [cTys] at h
  | t :: ts, e :: es, h => by
    simp only [cTys, Bool.and_eq_true] at h
    obtain ⟨v, h1, h2⟩ := (cls_of c h.1).pe
    obtain ⟨vs, k1, k2⟩ := (clss_of c h.2).pa
    have hns : noStar e = true := by cases e <;> first | rfl | (simp [cTy] at h)
    exact ⟨v :: vs, weakA (pa_cons h1 k1 (star_of hns _ _)) fun _ _ _ q => q, .cons h2 k2⟩
theorem lc_kind {N : List Str} {sc scope : Scope} {own : List (Str × Nat)} (h : blkC N sc scope own = true) : scope.kind = .function := (blkOk_by h).kind
mutual
theorem sE : ∀ (e : E) {W : WX} {sc : Scope} {X : Cx} (c : Ctx G n N C k W sc X) (x : Expr), cE n N e sc x = true → Ok3 G W X x (den G.T C e)
  | .non, W, sc, X, c, x, h => by
    unfold cE at h
    split at h
    · exact plain3 c.hK rfl k_non
    · cases h
  | .bl b, W, sc, X, c, x, h => by
    unfold cE at h
    split at h
    · rw [beq_iff_eq.mp h]; exact plain3 c.hK rfl k_bl
    · cases h
  | .int i, W, sc, X, c, x, h => by
    unfold cE at h
    split at h
    · rw [beq_iff_eq.mp h]; exact plain3 c.hK rfl k_int
    · cases h
  | .str s, W, sc, X, c, x, h => by
    unfold cE at h
    split at h
    · rw [of_decide_eq_true h]; exact plain3 c.hK rfl k_str
    · cases h
  | .var i, W, sc, X, c, x, h => by
    unfold cE at h
    split at h
    · simp only [Bool.and_eq_true] at h
      obtain ⟨⟨h1, h2⟩, h3⟩ := h
      exact plain3 c.hK rfl (k_var (by rw [c.hN]; exact nm_of h1) (c.vis _ h2) (ok_of h3).1 (ok_of h3).2)
    · cases h
  | .glob g, W, sc, X, c, x, h => by
    unfold cE at h
    split at h
    · simp only [Bool.and_eq_true] at h
      obtain ⟨⟨h1, h2⟩, h3⟩ := h
      obtain ⟨u, v, hm, rv, rd⟩ := c.gls g _ (on_of h1)
      exact plain3 c.hK rfl (k_glob (c.gl _ h2) hm rv rd (ok_of h3).1)
    · cases h
  | .fld a f, W, sc, X, c, x, h => by
    unfold cE at h
    split at h
    · rename_i x y p
      simp only [Bool.and_eq_true] at h
      obtain ⟨⟨h1, h2⟩, h3⟩ := h
      obtain ⟨k1, k2, k3⟩ := c.fl f y (on_of h1)
      exact plain3 c.hK rfl (k_fld c.hK (base_of h2 _ _) k1 k2 (fun d hd hx hf => ⟨(c.F.exc d hd hx).2, k3 d hd hx hf⟩) (sE a c _ h3).1.1)
    · cases h
  | .fnv f, W, sc, X, c, x, h => by
    unfold cE at h
    split at h
    · simp only [Bool.and_eq_true] at h
      obtain ⟨⟨h1, h2⟩, h3⟩ := h
      exact plain3 c.hK rfl (k_fnv (c.gl _ h2) (c.fns f _ (on_of h1)).mg (ok_of h3).1)
    · cases h
  | .calll i es, W, sc, X, c, x, h => by
    unfold cE at h
    split at h
    · rename_i y p z zs pp
      simp only [Bool.and_eq_true] at h
      obtain ⟨⟨⟨h1, h2⟩, h3⟩, h4⟩ := h
      have hA := sEs es c _ h4
      refine plain3 c.hK rfl ?_
      cases es with
      | nil => simp [cEs] at h4
      | cons e es =>
        have h4' := h4
        simp only [cEs, Bool.and_eq_true] at h4'
        exact k_calll (by rw [c.hN]; exact nm_of h1) (c.vis _ h2) (ok_of h3).1 (ok_of h3).2 (fun f hf => let ⟨y, ey⟩ := c.fk f hf; ⟨y, c.fns f y ey⟩) c.room c.gd c.tk (star_of h4'.1.1 _ _) (sqs_of h4'.2 _ _) hA
    · cases h
  | .repr a, W, sc, X, c, x, h => by
    unfold cE at h
    split at h
    · simp only [Bool.and_eq_true, decide_eq_true_eq] at h
      obtain ⟨⟨⟨rfl, h1⟩, h2⟩, h3⟩ := h
      exact plain3 c.hK rfl (k_repr c.hK c.gd c.hu (c.gl _ h1) (c.blt _ (by decide)) (star_of h2 _ _) (sE a c _ h3).1.1)
    · cases h
  | .dct1 a b, W, sc, X, c, x, h => by
    unfold cE at h
    split at h
    · simp only [Bool.and_eq_true] at h
      exact plain3 c.hK rfl (k_dct1 (sE a c _ h.1).1.1 (sE b c _ h.2).1.1)
    · cases h
  | .trev a, W, sc, X, c, x, h => by
    unfold cE at h
    split at h
    · simp only [Bool.and_eq_true, decide_eq_true_eq] at h
      obtain ⟨⟨⟨⟨⟨rfl, rfl⟩, h1⟩, h2⟩, h3⟩, h4⟩ := h
      exact plain3 c.hK rfl (k_trev c.hK c.calm (c.gl _ h1) (c.blt _ (by decide)) (c.gl _ h2) (c.blt _ (by decide)) (star_of h3 _ _) (sE a c _ h4).1.1)
    · cases h
  | .srev a, W, sc, X, c, x, h => by
    unfold cE at h
    split at h
    · simp only [Bool.and_eq_true, decide_eq_true_eq] at h
      obtain ⟨rfl, h1⟩ := h
      exact plain3 c.hK rfl (k_srev c.hK (sE a c _ h1).1.1)
    · cases h
  | .dct0, W, sc, X, c, x, h => by
    unfold cE at h
    split at h
    · exact plain3 c.hK rfl k_dct0
    · cases h
  | .bin op a b, W, sc, X, c, x, h => by
    unfold cE at h
    split at h
    · simp only [Bool.and_eq_true, decide_eq_true_eq] at h
      obtain ⟨⟨rfl, h2⟩, h3⟩ := h
      exact plain3 c.hK rfl (k_bin c.hK (sE a c _ h2).1.1 (sE b c _ h3).1.1)
    · cases h
  | .neg a, W, sc, X, c, x, h => by
    unfold cE at h
    split at h
    · exact plain3 c.hK rfl (k_neg (sE a c _ h).1.1)
    · cases h
  | .not a, W, sc, X, c, x, h => by
    unfold cE at h
    split at h
    · exact ⟨⟨k_not c.hK (sE a c _ h).1.1, kt_not (sE a c _ h).1.2⟩, fun _ _ _ z => by cases z⟩
    · cases h
  | .and a b, W, sc, X, c, x, h => by
    unfold cE at h
    split at h
    · rename_i x y r p
      rw [Bool.and_eq_true] at h
      obtain ⟨h1, h2⟩ := h
      have q : PE X (.BoolOp .And (y :: r) p) (tE G W (den G.T C b).v) ∧ PW X (.BoolOp .And (y :: r) p) (tT G W (den G.T C b).t) := by
        split at h2
        · exact ⟨pe_one (sE b c _ h2).1.1, pw_and1 (sE b c _ h2).1.2⟩
        · exact ⟨(sE b c _ h2).1.1, (sE b c _ h2).2 _ _ _ rfl⟩
      have w := kw_and (sE a c _ h1).1.2 q.2
      exact ⟨⟨k_and (sE a c _ h1).1.1 q.1, w.pt⟩, fun _ _ _ z => by cases z; exact w⟩
    · cases h
  | .or a b, W, sc, X, c, x, h => by
    unfold cE at h
    split at h
    · rename_i x y r p
      rw [Bool.and_eq_true] at h
      obtain ⟨h1, h2⟩ := h
      have q : PE X (.BoolOp .Or (y :: r) p) (tE G W (den G.T C b).v) ∧ PW X (.BoolOp .Or (y :: r) p) (tT G W (den G.T C b).t) := by
        split at h2
        · exact ⟨pe_one (sE b c _ h2).1.1, pw_or1 (sE b c _ h2).1.2⟩
        · exact ⟨(sE b c _ h2).1.1, (sE b c _ h2).2 _ _ _ rfl⟩
      have w := kw_or (sE a c _ h1).1.2 q.2
      exact ⟨⟨k_or (sE a c _ h1).1.1 q.1, w.pt⟩, fun _ _ _ z => by cases z; exact w⟩
    · cases h
  | .cmp op a b, W, sc, X, c, x, h => by
    unfold cE at h
    split at h
    · simp only [Bool.and_eq_true, decide_eq_true_eq] at h
      obtain ⟨⟨⟨rfl, h1⟩, h2⟩, h3⟩ := h
      exact ⟨⟨k_cmp c.hK c.hu (set_of h1 _) (sE a c _ h2).1.1 (sE b c _ h3).1.1, kt_cmp c.hK c.hu (set_of h1 _) (sE a c _ h2).1.1 (sE b c _ h3).1.1⟩, fun _ _ _ z => by cases z⟩
    · cases h
  | .chn op op' a b d, W, sc, X, c, x, h => by
    unfold cE at h
    split at h
    · simp only [Bool.and_eq_true, decide_eq_true_eq] at h
      obtain ⟨⟨⟨⟨⟨rfl, rfl⟩, h1⟩, h2⟩, h3⟩, h4⟩ := h
      exact ⟨⟨k_chn c.hK c.hu (set_of h1 _) (sE a c _ h2).1.1 (sE b c _ h3).1.1 (sE d c _ h4).1.1, kt_chn c.hK c.hu (set_of h1 _) (sE a c _ h2).1.1 (sE b c _ h3).1.1 (sE d c _ h4).1.1⟩, fun _ _ _ z => by cases z⟩
    · cases h
  | .ife d a b, W, sc, X, c, x, h => by
    unfold cE at h
    split at h
    · simp only [Bool.and_eq_true] at h
      obtain ⟨⟨h1, h2⟩, h3⟩ := h
      exact ⟨⟨k_ife (sE d c _ h1).1.2 (sE a c _ h2).1.1 (sE b c _ h3).1.1, never_t⟩, fun _ _ _ z => by cases z⟩
    · cases h
  | .tup es, W, sc, X, c, x, h => by
    unfold cE at h
    split at h
    · exact plain3 c.hK rfl (k_tup (sEs es c _ h))
    · cases h
  | .lst es, W, sc, X, c, x, h => by
    unfold cE at h
    split at h
    · exact plain3 c.hK rfl (k_lst (sEs es c _ h))
    · cases h
  | .ix a i, W, sc, X, c, x, h => by
    unfold cE at h
    split at h
    · simp only [Bool.and_eq_true] at h
      obtain ⟨⟨h1, h2⟩, h3⟩ := h
      exact plain3 c.hK rfl (k_ix c.hK c.hu (slice_of h1) (sE a c _ h2).1.1 (sE i c _ h3).1.1)
    · cases h
  | .sl a lo hi, W, sc, X, c, x, h => by
    unfold cE at h
    split at h
    · simp only [Bool.and_eq_true] at h
      obtain ⟨⟨h1, h2⟩, h3⟩ := h
      exact plain3 c.hK rfl (k_sl c.hK (sE a c _ h1).1.1 (sEo lo c _ h2) (sEo hi c _ h3))
    · cases h
  | .call f es, W, sc, X, c, x, h => by
    unfold cE at h
    split at h
    · rename_i y p xs pp
      simp only [Bool.and_eq_true] at h
      obtain ⟨⟨⟨h1, h2⟩, h3⟩, h4⟩ := h
      have F := c.fns f _ (on_of h1)
      have hA := sEs es c _ h4
      refine plain3 c.hK rfl ?_
      cases xs with
      | nil =>
        cases es with
        | nil => exact k_call0 F c.room c.gd c.tk (c.gl _ h2) (ok_of h3).1
        | cons e es => simp [cEs] at h4
      | cons z zs =>
        cases es with
        | nil => simp [cEs] at h4
        | cons e es =>
          have h4' := h4
          simp only [cEs, Bool.and_eq_true] at h4'
          exact k_call F c.room c.gd c.tk (c.gl _ h2) (ok_of h3).1 (star_of h4'.1.1 _ _) (sqs_of h4'.2 _ _) hA
    · cases h
  | .bi b es, W, sc, X, c, x, h => by
    unfold cE at h
    split at h
    · rename_i y p z zs pp
      simp only [Bool.and_eq_true, decide_eq_true_eq] at h
      obtain ⟨⟨rfl, h2⟩, h4⟩ := h
      have hA := sEs es c _ h4
      refine plain3 c.hK rfl ?_
      cases es with
      | nil => simp [cEs] at h4
      | cons e es =>
        have h4' := h4
        simp only [cEs, Bool.and_eq_true] at h4'
        exact k_bi c.hK c.calm (c.gl _ h2) (c.blt _ (by cases b <;> decide)) (star_of h4'.1.1 _ _) (sqs_of h4'.2 _ _) hA
    · cases h
  | .bm b o es, W, sc, X, c, x, h => by
    unfold cE at h
    split at h
    · rename_i x m ap z zs pp
      simp only [Bool.and_eq_true, decide_eq_true_eq] at h
      obtain ⟨⟨⟨⟨⟨rfl, h1⟩, h2⟩, h3⟩, h4⟩, h5⟩ := h
      have hO := (sE o c _ h4).1.1
      have hA := sEs es c _ h5
      refine plain3 c.hK rfl ?_
      cases es with
      | nil => simp [cEs] at h5
      | cons e es =>
        have h5' := h5
        simp only [cEs, Bool.and_eq_true] at h5'
        exact k_bm c.hK (base_of h1 _ _) (few_of (W := W) (by simp; omega) h5 _) h2 (star_of h5'.1.1 _ _) (sqs_of h5'.2 _ _) hO hA
    · cases h
  | .isi a ts, W, sc, X, c, x, h => by
    unfold cE at h
    split at h
    · rename_i f p x te pp
      simp only [Bool.and_eq_true, decide_eq_true_eq] at h
      obtain ⟨⟨⟨⟨rfl, h1⟩, h2⟩, h3⟩, h4⟩ := h
      have hA := (sE a c _ h3).1.1
      refine plain3 c.hK rfl ?_
      split at h4
      · simp only [Bool.and_eq_true, decide_eq_true_eq] at h4
        obtain ⟨⟨g1, g2⟩, g3⟩ := h4
        exact k_isiT c.hK c.F (c.gl _ h1) (c.blt _ (by decide)) (clss_of c g3) (by intro z; rw [z] at g1; simp at g1) g2 (star_of h2 _ _) hA
      · split at h4
        · have ht := cls_of c h4
          have hns : noStar te = true := by cases te <;> first | rfl | (simp [cTy] at h4)
          exact k_isi c.hK c.F (c.gl _ h1) (c.blt _ (by decide)) ht (star_of h2 _ _) (by rw [star_of hns]; rfl) (star_of hns _ _) hA
        · cases h4
    · cases h
  | .lrng1 a, W, sc, X, c, x, h => by
    unfold cE at h
    split at h
    · simp only [Bool.and_eq_true, decide_eq_true_eq] at h
      obtain ⟨⟨⟨⟨⟨rfl, rfl⟩, h1⟩, h2⟩, h3⟩, h4⟩ := h
      exact plain3 c.hK rfl (k_lrng1 c.calm (c.gl _ h2) (c.blt _ (by decide)) (c.gl _ h1) (c.blt _ (by decide)) (star_of h3 _ _) (sE a c _ h4).1.1)
    · cases h
  | .lrng2 a b, W, sc, X, c, x, h => by
    unfold cE at h
    split at h
    · simp only [Bool.and_eq_true, decide_eq_true_eq] at h
      obtain ⟨⟨⟨⟨⟨⟨⟨rfl, rfl⟩, h1⟩, h2⟩, h3⟩, h4⟩, h5⟩, h6⟩ := h
      exact plain3 c.hK rfl (k_lrng2 c.calm (c.gl _ h2) (c.blt _ (by decide)) (c.gl _ h1) (c.blt _ (by decide)) (star_of h3 _ _) (star_of h4 _ _) (by rw [star_of h4]; rfl) (sE a c _ h5).1.1 (sE b c _ h6).1.1)
    · cases h
  | .comp el own tg it cd, W, sc, X, c, x, h => by
    unfold cE at h
    split at h
    · rename_i x t i ifs scope pp
      simp only [Bool.and_eq_true, decide_eq_true_eq, List.all_eq_true, List.contains_iff_mem] at h
      obtain ⟨⟨⟨⟨⟨⟨⟨h1, h2⟩, h3⟩, h4⟩, h5⟩, h6⟩, h7⟩, h8⟩ := h
      have hk := lc_kind h1
      have rd := comp_read (G := G) (W := W) (mi := deni G.T C it) (tg := tg) (own := own) (mcd := denc G.T C cd) (mel := (den G.T C el).v) h3
      have pe := pe_lc (X := X) (elt := x) (tg := t) (iter := i) (ifs := ifs) (scope := scope) (own := ownOf N own) (pos := pp) (wi := tI G W (deni G.T C it)) (g := tTg G tg) (tt := tT G W0 (denc G.T C cd)) (te := tE G W0 (den G.T C el).v) c.calm (by rw [c.hN]; exact c.nd) (sI it c t i h6)
        (blkOk_of c h1) (fun s H A cl fp => sTg (c.blk hk s H A cl fp) tg t h5) (fun s H A cl fp => sC cd (c.blk hk s H A cl fp) ifs h7) (fun s H A cl fp => (sE el (c.blk hk s H A cl fp) x h8).1.1) (setI_of h4 _)
      rw [h2] at pe
      exact plain3 c.hK rfl (weakE pe rd)
    · cases h
theorem sEs : ∀ (es : Es) {W : WX} {sc : Scope} {X : Cx} (c : Ctx G n N C k W sc X) (xs : List Expr), cEs n N es sc xs = true → PA X xs (tA G W (dens G.T C es))
  | .nil, W, sc, X, c, xs, h => by
    unfold cEs at h
    have : xs = [] := by simpa using h
    subst this
    exact k_nil
  | .cons e es, W, sc, X, c, xs, h => by
    unfold cEs at h
    split at h
    · simp only [Bool.and_eq_true] at h
      obtain ⟨⟨h1, h2⟩, h3⟩ := h
      exact k_cons (star_of h1 _ _) (sE e c _ h2).1.1 (sEs es c _ h3)
    · cases h
theorem sEo : ∀ (e : Eo) {W : WX} {sc : Scope} {X : Cx} (c : Ctx G n N C k W sc X) (x : Option Expr), cEo n N e sc x = true → PO X x (tO G W (deno G.T C e))
  | .none, W, sc, X, c, x, h => by
    unfold cEo at h
    have : x = none := by simpa using h
    subst this
    exact ko_none
  | .some e, W, sc, X, c, x, h => by
    unfold cEo at h
    split at h
    · exact ko_some (sE e c _ h).1.1
    · cases h
theorem sC : ∀ (e : Eo) {W : WX} {sc : Scope} {X : Cx} (c : Ctx G n N C k W sc X) (x : List Expr), cC n N e sc x = true → PTs X x (tT G W (denc G.T C e))
  | .none, W, sc, X, c, x, h => by
    unfold cC at h
    have : x = [] := by simpa using h
    subst this
    exact ⟨fun pins s τ H Q I q => (pts_nil (X := X)).run pins s τ H Q I (tE.ok (G := G) (rel := rB) (W := W) (d := true) (v := true) (fun _ _ => rfl) q)⟩
  | .some e, W, sc, X, c, x, h => by
    unfold cC at h
    split at h
    · exact pts_one (sE e c _ h).1.2
    · cases h
theorem sI : ∀ (e : Wi) {W : WX} {sc : Scope} {X : Cx} (c : Ctx G n N C k W sc X) (t x : Expr), cI n N e sc t x = true → PI X t x (tI G W (deni G.T C e))
  | .seq e, W, sc, X, c, t, x, h => by
    unfold cI at h
    exact ki_seq c.hK (sE e c _ h).1.1
  | .rng1 a, W, sc, X, c, t, x, h => by
    unfold cI at h
    split at h
    · simp only [Bool.and_eq_true, decide_eq_true_eq] at h
      obtain ⟨⟨⟨rfl, h1⟩, h2⟩, h3⟩ := h
      exact ki_rng1 (c.gl _ h1) (c.blt _ (by decide)) (by rw [star_of h2]; rfl) (sE a c _ h3).1.1
    · cases h
  | .rng2 a b, W, sc, X, c, t, x, h => by
    unfold cI at h
    split at h
    · simp only [Bool.and_eq_true, decide_eq_true_eq] at h
      obtain ⟨⟨⟨⟨⟨rfl, h1⟩, h2⟩, h3⟩, h4⟩, h5⟩ := h
      exact ki_rng2 (c.gl _ h1) (c.blt _ (by decide)) (by rw [star_of h2, star_of h3]; rfl) (by rw [star_of h3]; rfl) (by rw [star_of h3]; rfl) (sE a c _ h4).1.1 (sE b c _ h5).1.1
    · cases h
  | .enum a, W, sc, X, c, t, x, h => by
    unfold cI at h
    split at h
    · simp only [Bool.and_eq_true, decide_eq_true_eq] at h
      obtain ⟨⟨⟨⟨rfl, h1⟩, h2⟩, h3⟩, h4⟩ := h
      obtain ⟨es, kk, p, rfl⟩ := isTup_of h2
      exact ki_enum c.hK (c.gl _ h1) (c.blt _ (by decide)) (by rw [star_of h3]; rfl) (sE a c _ h4).1.1
    · cases h
  | .zip a b, W, sc, X, c, t, x, h => by
    unfold cI at h
    split at h
    · simp only [Bool.and_eq_true, decide_eq_true_eq] at h
      obtain ⟨⟨⟨⟨⟨⟨rfl, h1⟩, h2⟩, h3⟩, h4⟩, h5⟩, h6⟩ := h
      obtain ⟨es, kk, p, rfl⟩ := isTup_of h2
      exact ki_zip c.hK (c.gl _ h1) (c.blt _ (by decide)) (star_of h3 _ _) (star_of h4 _ _) (by rw [star_of h4]; rfl) (sE a c _ h5).1.1 (sE b c _ h6).1.1
    · cases h
end
end
end Py
/-! statements, and defs -/
namespace Py
open PySem L2 RZ
section
variable {G : Cfg} {n : Nm} {N : List Str} {C : Cl} {k : Nat}
theorem sole_of {a : Expr} (h : noComp a = true) (t : Expr) (l : Nat) (env : Env) : swapsWithSole [t] a l env = pure false := by
  show swapsWith a (some t) l env = pure false
  exact comp_of h _ _ _
theorem sTgS {W : WX} {sc : Scope} {X : Cx} (c : Ctx G n N C k W sc X) : ∀ (ts : Tgs) (es : List Expr), cTgS N sc ts es = true → PGs X es (tTgs G ts) ∧ (assignEach es X.env).length = ts.len ∧ (assignEach es X.env).findIdx? (·.1) = some (ts.len - 1) ∧ 0 < ts.len
  | .nil, es, h => by simp [cTgS] at h
  | .cons t .nil, es, h => by
    unfold cTgS at h
    split at h
    · rename_i e p
      exact ⟨kgs_cons' (a' := e) rfl (sTg c t e h) kgs_nil, rfl, rfl, by simp [Tgs.len]⟩
    · cases h
  | .cons t (.cons t' ts), es, h => by
    unfold cTgS at h
    split at h
    · rename_i e es
      simp only [Bool.and_eq_true] at h
      obtain ⟨⟨h1, h2⟩, h3⟩ := h
      obtain ⟨k1, k2, k3, k4⟩ := sTgS c (.cons t' ts) es h3
      refine ⟨kgs_cons (by rw [asg_of h1]; rfl) (sTg c t e h2) k1, by rw [asg_of h1]; simp [Tgs.len, k2], ?_, by simp [Tgs.len]⟩
      rw [asg_of h1, List.findIdx?_cons]
      simp [k3, Tgs.len]
    · cases h
theorem swap_subs {X : Cx} {o i p j a b : Expr} {p1 p2 p3 p4 : Pos} {k k2 : Nat} (ha : noStar a = true) (hb : noStar b = true) : swappedStores [.Tuple [.Subscript o i p1, .Subscript p j p2] k p3] (.Tuple [a, b] k2 p4) X.env = pure none := by
  unfold swappedStores
  simp only [List.filterMap_cons, List.filterMap_nil]
  cases X.env.blockKind <;> cases a <;> cases b <;> first | rfl | cases ha | cases hb
mutual
theorem sS : ∀ (s : S) {W : WX} {sc : Scope} {X : Cx} (c : Ctx G n N C k W sc X) (cx : StX X) (x : Stmt), cS n N sc s x = true → PS X x (tS G W (exS G.T C s))
  | .asg t e, W, sc, X, c, cx, x, h => by
    unfold cS at h
    split at h
    · simp only [Bool.and_eq_true] at h
      obtain ⟨⟨⟨⟨h1, h2⟩, h3⟩, h4⟩, h5⟩ := h
      exact ks_asg (sole_of h2 _ _ _) (swap_of h3 _) (by rw [asg_of h1]; rfl) (sE e c _ h5).1.1 (sTg c t _ h4)
    · cases h
  | .asgc i e, W, sc, X, c, cx, x, h => by
    unfold cS at h
    split at h
    · rename_i y py x gs scope pos sp
      simp only [Bool.and_eq_true] at h
      obtain ⟨⟨⟨⟨⟨h1, h2⟩, h3⟩, h4⟩, h5⟩, h6⟩ := h
      split at h1
      · rename_i el own tg it cd
        unfold cE at h6
        split at h6
        · rename_i z x t i ifs scope pp heq
          cases heq
          simp only [Bool.and_eq_true, decide_eq_true_eq, List.all_eq_true, List.contains_iff_mem] at h6
          obtain ⟨⟨⟨⟨⟨⟨⟨h1, h2'⟩, h3'⟩, h4'⟩, h5'⟩, h6⟩, h7⟩, h8⟩ := h6
          have hk := lc_kind h1
          have rd := comp_read (G := G) (W := W) (mi := deni G.T C it) (tg := tg) (own := own) (mcd := denc G.T C cd) (mel := (den G.T C el).v) h3'
          have hlc : sc.names.lookup y = some .local := by
            unfold lcB at h3
            split at h3
            · assumption
            · cases h3
          have pe := ps_setLc (X := X) (y := y) (py := py) (spos := sp) (elt := x) (tg := t) (iter := i) (ifs := ifs) (scope := scope) (own := ownOf N own) (wi := tI G W (deni G.T C it)) (g := tTg G tg) (tt := tT G W0 (denc G.T C cd)) (te := tE G W0 (den G.T C el).v) c.calm (by rw [c.hN]; exact c.nd) (by rw [c.hN]; exact nm_of h2) (c.lc _ hlc)
            (sw_true c.kind (c.lc _ hlc) h4 (by simpa using h5)) (sI it c t i h6)
            (blkOk_of c h1) (fun s H A cl fp => sTg (c.blk hk s H A cl fp) tg t h5') (fun s H A cl fp => sC cd (c.blk hk s H A cl fp) ifs h7) (fun s H A cl fp => (sE el (c.blk hk s H A cl fp) x h8).1.1) (setI_of h4' _)
          rw [h2'] at pe
          exact weakS pe (asgc_read rd)
        · cases h6
      · cases h1
    · cases h
  | .asgs ts e, W, sc, X, c, cx, x, h => by
    unfold cS at h
    split at h
    · rename_i es kk p x q
      simp only [Bool.and_eq_true] at h
      obtain ⟨⟨⟨h1, h2⟩, h3⟩, h4⟩ := h
      obtain ⟨k1, k2, k3, k4⟩ := sTgS c ts es h3
      refine ks_asgs (sole_of h1 _ _ _) (swap_of ?_ _) c.hK c.calm k4 k2 k3 (sE e c _ h4).1.1 k1
      cases x <;> first | rfl | cases h2
    · cases h
  | .setix o i e, W, sc, X, c, cx, x, h => by
    unfold cS at h
    split at h
    · rename_i x y _ z _
      simp only [Bool.and_eq_true] at h
      obtain ⟨⟨⟨⟨h1, h2⟩, h3⟩, h4⟩, h5⟩ := h
      exact ks_setix c.hu (sole_of h1 _ _ _) (by rfl) (fun v => by cases y <;> first | rfl | cases h2) (sE e c _ h5).1.1 (sE o c _ h3).1.1 (sE i c _ h4).1.1
    · cases h
  | .swap o i p j a b, W, sc, X, c, cx, x, h => by
    unfold cS at h
    split at h
    · rename_i x1 y1 _ x2 y2 _ _ _ z1 z2 _ _ _
      simp only [Bool.and_eq_true] at h
      obtain ⟨⟨⟨⟨⟨⟨⟨⟨⟨h1, h2⟩, h3⟩, h4⟩, h5⟩, h6⟩, h7⟩, h8⟩, h9⟩, h10⟩ := h
      refine ks_swap c.calm c.hK c.hu (by rfl) ?_ (fun v => by cases y1 <;> first | rfl | cases h1) (fun v => by cases y2 <;> first | rfl | cases h2) (star_of h3 _ _) (star_of h4 _ _) (sE a c _ h9).1.1 (sE b c _ h10).1.1 (sE o c _ h5).1.1 (sE i c _ h6).1.1 (sE p c _ h7).1.1 (sE j c _ h8).1.1
      exact swap_subs h3 h4
    · cases h
  | .ex e, W, sc, X, c, cx, x, h => by
    unfold cS at h
    split at h
    · rw [Bool.and_eq_true] at h
      exact ks_ex (comp_of h.1 _ _ _) (sE e c _ h.2).1.1
    · cases h
  | .ret e, W, sc, X, c, cx, x, h => by
    unfold cS at h
    split at h
    · exact ks_ret (sE e c _ h).1.1
    · cases h
  | .pass, W, sc, X, c, cx, x, h => by
    unfold cS at h
    split at h
    · exact ks_pass
    · cases h
  | .iff e a b, W, sc, X, c, cx, x, h => by
    unfold cS at h
    split at h
    · simp only [Bool.and_eq_true] at h
      exact ks_iff (sE e c _ h.1.1).1.2 (sSs a c cx _ h.1.2) (sSs b c cx _ h.2)
    · cases h
  | .forr t it b, W, sc, X, c, cx, x, h => by
    unfold cS at h
    split at h
    · simp only [Bool.and_eq_true] at h
      obtain ⟨⟨⟨h1, h2⟩, h3⟩, h4⟩ := h
      exact ks_for c.po c.calm (sI it c _ _ h3) (sTg c t _ h2) (sSs b c cx _ h4) (setI_of h1 _)
    · cases h
  | .raise0 d, W, sc, X, c, cx, x, h => by
    unfold cS at h
    split at h
    · simp only [Bool.and_eq_true] at h
      obtain ⟨⟨⟨h1, h2⟩, h3⟩, h4⟩ := h
      exact ks_raise0 c.calm c.tk (c.x0 d h1) (c.cls d _ (on_of h2)) (c.gl _ h3) (ok_of h4).1
    · cases h
  | .raise1 d f e, W, sc, X, c, cx, x, h => by
    unfold cS at h
    split at h
    · simp only [Bool.and_eq_true, decide_eq_true_eq] at h
      obtain ⟨⟨⟨⟨⟨h1, h2⟩, h3⟩, h4⟩, h5⟩, h6⟩ := h
      exact ks_raise1 c.calm c.tk (c.x1 d f h1) (c.room.mono (by omega)) (c.cls d _ (on_of h2)) (c.gl _ h3) (ok_of h4).1 (star_of h5 _ _) (sE e c _ h6).1.1
    · cases h
  | .tryk b d i j, W, sc, X, c, cx, x, h => by
    unfold cS at h
    split at h
    · simp only [Bool.and_eq_true, beq_iff_eq] at h
      obtain ⟨⟨⟨⟨⟨⟨⟨⟨⟨h1, h2⟩, h3⟩, h4⟩, h5⟩, h6⟩, h7⟩, h8⟩, h9⟩, h10⟩ := h
      subst h7
      have hlc : ∀ {z : Str}, lcB sc z = true → sc.names.lookup z = some .local := fun {z} hz => by
        unfold lcB at hz
        split at hz
        · assumption
        · cases hz
      obtain ⟨g1, g2⟩ := c.st _ h9
      exact ks_tryk c.hK c.F cx.st cx.fr cx.ex (by rw [c.hN]; exact c.nd) (by rw [c.hN]; exact nm_of h4) (c.lc _ (hlc h5)) (by rw [c.hN]; exact nm_of h8) g1 g2 (c.gl _ h2) (c.cls d _ (on_of h1)) (ok_of h3).1 c.tk (ok_of h6).1 (ok_of h6).2 (sole_of rfl _ _ _) fun W' pn xe tk po => sSs b (c.tr tk po) ⟨cx.st, cx.fr, cx.ex⟩ _ h10
    · cases h
  | .never, W, sc, X, c, cx, x, h => ks_never
theorem sSs : ∀ (ss : Ss) {W : WX} {sc : Scope} {X : Cx} (c : Ctx G n N C k W sc X) (cx : StX X) (xs : List Stmt), cSs n N sc ss xs = true → PSs X xs (tS G W (exSs G.T C ss))
  | .nil, W, sc, X, c, cx, xs, h => by
    unfold cSs at h
    have : xs = [] := by simpa using h
    subst this
    exact ks_nil
  | .cons s ss, W, sc, X, c, cx, xs, h => by
    unfold cSs at h
    split at h
    · rw [Bool.and_eq_true] at h
      exact ks_cons (sS s c cx _ h.1) (sSs ss c cx _ h.2)
    · cases h
end
end
end Py
/-! defs, and the law -/
namespace Py
open PySem L2 RZ
/-- a def of the row -/
structure Dr where
  x : Str
  st : Stmt
  N : List Str
  ps : List Str
def scB (N ps : List Str) (sc : Scope) : Bool :=
  (match sc.kind with | .function => true | _ => false) && !sc.isCoroutine && !sc.isGenerator && decide N.Nodup && decide (N.take ps.length = ps) &&
  (ps.all fun x => stB sc x) && (sc.names.all fun y => match y.2 with | .free => false | _ => true)
theorem sc_of {N ps : List Str} {sc : Scope} (h : scB N ps sc = true) : FnScope N ps sc := by
  unfold scB at h
  simp only [Bool.and_eq_true, decide_eq_true_eq, List.all_eq_true, Bool.not_eq_true'] at h
  obtain ⟨⟨⟨⟨⟨⟨h1, h2⟩, h3⟩, h4⟩, h5⟩, h6⟩, h7⟩ := h
  refine ⟨?_, h2, h3, h4, h5, fun x hx => ?_, fun y hy e => ?_⟩
  · split at h1
    · assumption
    · cases h1
  · have := h6 x hx
    unfold stB at this
    split at this
    · exact .inl (by assumption)
    · exact .inr (by assumption)
    · cases this
  · have := h7 y hy
    rw [e] at this
    cases this
def chkD (n : Nm) (d : Df) (r : Dr) : Bool := scB r.N r.ps (defScope r.st) && decide (r.ps.length = d.par) && decide (r.N.length = d.slots) && decide (d.par ≤ d.slots) && cSs n r.N (defScope r.st) d.body (defBody r.st)
/-- what the top has written of a def -/
structure DefAt (K : PySem.W.Frag) (mg : Str → Option Value) (n : Nm) (P : Nat → Option Df) (f : Nat) (x : Str) (a : Addr) : Prop where
  mg : mg x = some (.ref a)
  ex : ∃ (d : Df) (r : Dr) (fd : FuncData), P f = some d ∧ Fun K x x r.st a fd ∧ Binds K fd r.ps [] ∧ chkD n d r = true
/-- all that the walk asks of the top -/
structure Top (G : Cfg) (mg : Str → Option Value) (n : Nm) (P : Nat → Option Df) : Prop where
  fns : ∀ f x, n.fn f = some x → DefAt G.K mg n P f x (G.fnA f)
  gls : ∀ g x, n.gl g = some x → ∃ u v, mg x = some u ∧ RelV v u ∧ ∀ μ H, RD G μ H (G.T.glob g) v
  blt : ∀ x ∈ bltNames, mg x = none
  cls : ∀ c x, n.cl c = some x → mg x = some (.ref (G.clA c))
  F : ClsF G
  fk : ∀ f, G.T.fnk f = true → ∃ y, n.fn f = some y
  fl : ∀ f y, n.fl f = some y → G.fnm f = y ∧ (∀ g, G.fnm g = y → g = f) ∧ ∀ c, c < G.T.ncl → G.T.exn c = true → G.T.hasF c f = true → PySem.W.findIn G.K (.ref (G.clA c)) y = some none
  x0 : ∀ c, n.x0 c = true → Ex0 G.K (G.clA c)
  x1 : ∀ c f, n.x1 c = some f → ∀ (p : Program) (w : World) (gr : Heap), Ex1 p w G.K mg gr (G.clA c) (G.fnm f)
section
variable {G : Cfg} {n : Nm} {P : Nat → Option Df} {mg : Str → Option Value} {p : Program} {w : World} {base : Heap}
theorem relS_start {μ : List Addr} {H : Hp} {ds : List D} {vs : List V} {N : List Str} (r : RDs G μ H ds vs) : RelS G μ H (Py.start N.length ds) (L2.start N vs) := by
  have hl := r.length
  refine ⟨by simp [Py.start, L2.start, hl], fun i d e => ?_⟩
  unfold Py.start at e
  unfold L2.start
  rw [List.getElem?_append] at e ⊢
  split at e
  · rename_i hi
    rw [List.length_map] at hi
    rw [List.getElem?_map] at e
    cases ed : ds[i]? with
    | none => rw [ed] at e; cases e
    | some d' =>
      rw [ed] at e
      cases e
      obtain ⟨v, ev, rv⟩ := r.get ed
      refine ⟨v, ?_, rv⟩
      rw [if_pos (by rw [List.length_map]; omega), List.getElem?_map, ev]
      rfl
  · rw [List.getElem?_replicate] at e
    split at e
    · cases e
    · cases e
theorem fin_ends {μ : List Addr} {H : Hp} {r : RS} {Q : VK} {E : XK} (h : Post G (RD G) (fun c d _ H => E c d H) [] Q μ H r.fin) : PostS G (fun c d _ H => E c d H) { nx := fun _ H' => Q .non H', rt := Q } μ H r := by
  cases r with
  | nx σ h' => exact fun μ' H' τ nx rel rs => h μ' H' .non nx rel .non
  | rt d h' => exact fun μ' H' v nx rel rd => h μ' H' v nx rel rd
  | bk σ h' => exact h.elim
  | ct σ h' => exact h.elim
  | ex x σ h' => exact fun μ' H' τ c dd nx rel rs rx => h μ' H' c dd nx rel rx
  | bad => exact h.elim
abbrev FnsOk (p : Program) (w : World) (base : Heap) (G : Cfg) (mg : Str → Option Value) (n : Nm) (P : Nat → Option Df) (k : Nat) : Prop := ∀ (f : Nat) (x : Str), n.fn f = some x → mg x = some (.ref (G.fnA f)) ∧ PySem.W.keepIn G.K (.ref (G.fnA f)) = true ∧
    ∃ fd ps, Binds G.K fd ps [] ∧ FnG p w G.K mg base (L2.CX p w) (k + 3) (G.fnA f) fd ps (spC G (run G.T P k f))
theorem fn_step (T : Top G mg n P) {k : Nat} (ih : FnsOk p w base G mg n P k) {f : Nat} {x : Str} {a : Addr} {d : Df} {r : Dr} {fd : FuncData} (hP : P f = some d) (F : Fun G.K x x r.st a fd) (ck : chkD n d r = true) :
    FnG p w G.K mg base (L2.CX p w) (k + 1 + 3) a fd r.ps (spC G (run G.T P (k + 1) f)) := by
    unfold chkD at ck
    simp only [Bool.and_eq_true, decide_eq_true_eq] at ck
    obtain ⟨⟨⟨⟨c1, c2⟩, c3⟩, c4⟩, c5⟩ := ck
    have S := sc_of c1
    refine Py.Fun.okG F S (fun vs H Q E ⟨μ, h, ds, rds, rel, z⟩ => ?_) (fun cdv A outer s H vs Q E hr hgd ⟨μ, h, ds, rds, rel, z⟩ => ?_)
    · unfold run at z
      rw [hP] at z
      dsimp only at z
      split at z
      · rename_i e1
        rw [← rds.length, e1, c2]
      · exact z.elim
    · unfold run at z
      rw [hP] at z
      dsimp only at z
      split at z
      · rename_i e1
        refine ⟨_, sSs d.body (G := G) (n := n) (N := r.N) (C := run G.T P k) (k := k) (W := fun c d _ H => E c d H) (sc := defScope r.st) ?_ ⟨rfl, rfl, rfl⟩ _ c5, μ, Py.start d.slots ds, h, ?_, rel, fin_ends z⟩
        · refine ⟨rfl, rfl, S.nd, rfl, S.kind, hr, hgd, takes_of rfl rfl rfl rfl, passes_of rfl, fun y hy => ?_, fun y hy => ?_, fun y hy => ?_, fun y hy => hy, fun y hy => hy, fun g y eg => ?_, T.gls, T.blt, T.cls, T.F, T.fk, T.fl, T.x0, fun c f e => T.x1 c f e _ _ _⟩
          · unfold visB at hy
            split at hy
            · exact .inl (by assumption)
            · exact .inr (.inl (by assumption))
            · exact .inr (.inr (by assumption))
            · cases hy
          · unfold glB at hy
            split at hy
            · assumption
            · cases hy
          · unfold stB at hy
            split at hy
            · exact ⟨.inl (by assumption), .inl rfl⟩
            · exact ⟨.inr (by assumption), .inl rfl⟩
            · cases hy
          · obtain ⟨h1, h2, h3⟩ := ih g y eg
            exact ⟨h1, h2, h3⟩
        · rw [← c3]
          exact relS_start rds
      · exact z.elim
theorem fn_ok (T : Top G mg n P) : ∀ (k : Nat), FnsOk p w base G mg n P k
  | 0 => fun f x e => by
    obtain ⟨hm, d, r, fd, hP, F, B, ck⟩ := T.fns f x e
    refine ⟨hm, F.kp, fd, r.ps, B, ⟨fun vs H Q E ⟨μ, h, ds, _, _, z⟩ => z.elim, fun A outer s H args us vs Q E _ _ _ _ _ ⟨μ, h, ds, _, _, z⟩ => z.elim⟩⟩
  | k + 1 => fun f x e => by
    obtain ⟨hm, d, r, fd, hP, F, B, ck⟩ := T.fns f x e
    exact ⟨hm, F.kp, fd, r.ps, B, fn_step T (fn_ok T k) hP F ck⟩
theorem rds_int {μ : List Addr} {H : Hp} : ∀ ns : List Int, RDs G μ H (ns.map .int) (ns.map V.int)
  | [] => .nil
  | i :: r => .cons (.int i) (rds_int r)
/-- the law's script -/
theorem law_sp {k f : Nat} {N : Nat} (hlaw : ∀ ns : List Int, ns.length ≤ N → ∃ h', run G.T P k f [.ref 0] [.lst (ns.map .int) true] = .ok (.bl true) h') (H : Hp) (a : Addr) (ns : List Int) (hl : ns.length ≤ N) (hO : Only H) (hS : SqL G.K H a (ns.map V.int)) :
    spC G (run G.T P k f) [.ref a] H (fun v _ => v = .bl true) fun _ _ _ => False := by
  obtain ⟨h', e⟩ := hlaw ns hl
  refine ⟨[a], [.lst (ns.map .int) true], [.ref 0], .cons (.ref rfl) .nil, ?_, ?_⟩
  · refine ⟨rfl, fun n o e => ?_, fun n m o o' a e e' l l' _ _ => ?_⟩
    · match n, e with
      | 0, e =>
        cases e
        refine ⟨a, rfl, ns.map V.int, rds_int ns, ?_⟩
        rw [if_pos rfl]
        rcases hS with (h | ⟨o, h⟩) | h
        · rcases hO a with z | ⟨o, xs, z⟩
          · rw [z] at h; cases h
          · rw [z] at h; cases h
        · exact .inl ⟨o, h⟩
        · exact .inr (.inr h)
      | n + 1, e => cases e
    · match n, e with
      | 0, e => cases e; cases l
      | n + 1, e => cases e
  · rw [e]
    exact fun μ' H' b nx rel rd => by cases rd; rfl
/-- law's promise -/
def spLaw (N : Nat) (K : PySem.W.Frag) : Sp := fun vs H Q E => ∃ (a : Addr) (ns : List Int), vs = [.ref a] ∧ ns.length ≤ N ∧ Only H ∧ SqL K H a (ns.map V.int) ∧ Q = (fun v _ => v = .bl true) ∧ E = fun _ _ _ => False
theorem law_ok (T : Top G mg n P) {k N f : Nat} {x : Str} {a : Addr} {d : Df} {r : Dr} {fd : FuncData} (hP : P f = some d) (F : Fun G.K x x r.st a fd) (ck : chkD n d r = true)
    (hlaw : ∀ ns : List Int, ns.length ≤ N → ∃ h', run G.T P (k + 1) f [.ref 0] [.lst (ns.map .int) true] = .ok (.bl true) h') : FnG p w G.K mg base (L2.CX p w) (k + 1 + 3) a fd r.ps (spLaw N G.K) :=
  (fn_step T (fn_ok T k) hP F ck).imp fun vs H Q E ⟨a, ns, e1, hl, hO, hS, e2, e3⟩ => by
    subst e1 e2 e3
    exact law_sp hlaw H a ns hl hO hS
theorem walkL {l : PySem.W.OpenLaw} {N k : Nat} {q : Program} {loose : List Str} {XP : (Str → Option Value) → Heap → Prop} {YP : World → Heap → Prop} {d : DefRec} {K : Params → PySem.W.Frag} {x : Str} (hn : l.most = some N) (hn2 : N ≤ sizeLine) (hr : Room k callerA) (hdf : d.params.defaults = [])
    (hY : ∀ (w : World) (h : Heap), YP w h → (K w.params).In h)
    (F : ∀ (w : World) (mg : Str → Option Value) (fa : Addr) (h : Heap), (K w.params).In h → h.Ns mainGlobals mg → mg d.name = some (.ref fa) →
      ∃ fd : FuncData, (∀ (s : Shared) (u : Value), BindsTo s fd ⟨[u], []⟩ [(x, u)]) ∧ ∀ base : Heap, (K w.params).In base → base.Ns mainGlobals mg → FnG l.prog w (K w.params) mg base (L2.CX l.prog w) k fa fd [x] (spLaw N (K w.params))) :
    PySem.W.WalkO q loose XP YP l.row.toRowW d [] (fun f vs => PySem.call f vs) :=
  walkG (n := N) (k := k) (x := x) (XC := fun w => L2.CX l.prog w) (sp := fun w => spLaw N (K w.params)) hn hn2 hdf hr hY F (fun _ _ a ns hl hO hS => ⟨a, ns, rfl, hl, hO, hS, rfl, rfl⟩)
    fun w H s e s' z => by
      obtain ⟨_, _, _, _, _, _, _, _, _, _, _, _, z⟩ := z
      exact z
/-- values of the top's tuples -/
def vB : D → Value → Bool
  | .int i, .int j _ => i == j
  | .str s, .str x _ => decide (x = ⟨s.toArray⟩)
  | .bl b, .bool c => b == c
  | .non, .none => true
  | _, _ => false
def vsB : List D → List Value → Bool
  | [], [] => true
  | d :: ds, v :: vs => vB d v && vsB ds vs
  | _, _ => false
theorem vB_of {d : D} {u : Value} (h : vB d u = true) : ∃ v, RelV v u ∧ ∀ μ H, RD G μ H d v := by
  cases d <;> cases u <;> first | (simp [vB] at h; done) | skip
  · exact ⟨.non, rfl, fun _ _ => .non⟩
  · simp [vB] at h; subst h; exact ⟨.bl _, rfl, fun _ _ => .bl _⟩
  · simp [vB] at h; subst h; exact ⟨.int _, ⟨_, rfl⟩, fun _ _ => .int _⟩
  · simp [vB] at h; subst h; exact ⟨.str _, ⟨_, rfl⟩, fun _ _ => .str _⟩
theorem vsB_of : ∀ {ds : List D} {us : List Value}, vsB ds us = true → ∃ vs, Vals vs us ∧ ∀ μ H, RDs G μ H ds vs
  | [], [], _ => ⟨[], .nil, fun _ _ => .nil⟩
  | [], _ :: _, h => by simp [vsB] at h
  | _ :: _, [], h => by simp [vsB] at h
  | d :: ds, u :: us, h => by
    simp only [vsB, Bool.and_eq_true] at h
    obtain ⟨v, r1, r2⟩ := vB_of (G := G) h.1
    obtain ⟨vs, q1, q2⟩ := vsB_of h.2
    exact ⟨v :: vs, .cons r1 q1, fun μ H => .cons (r2 μ H) (q2 μ H)⟩
theorem gl_flat {x : Str} {d : D} {u : Value} (hm : mg x = some u) (hv : vB d u = true) : ∃ u v, mg x = some u ∧ RelV v u ∧ ∀ μ H, RD G μ H d v := by
  obtain ⟨v, r1, r2⟩ := vB_of (G := G) hv
  exact ⟨u, v, hm, r1, r2⟩
theorem gl_tup {x : Str} {ds : List D} {a : Addr} {od : Option Addr} {its : Array Value} {m : Nat} {sl : Array (Option Value)} (hm : mg x = some (.ref a)) (hl : G.K.lookup a = some ⟨.type "tuple", od, .seq its m, sl⟩) (hv : vsB ds its.toList = true) (hz : decide (its.size ≤ sizeLine) = true) :
    ∃ u v, mg x = some u ∧ RelV v u ∧ ∀ μ H, RD G μ H (.tup ds) v := by
  obtain ⟨vs, r1, r2⟩ := vsB_of (G := G) hv
  exact ⟨_, .ref a, hm, rfl, fun μ H => .tup (.inr ⟨_, its, m, hl, rfl, rfl, of_decide_eq_true hz, r1⟩) (r2 μ H)⟩
/-- no classes -/
theorem clsF0 (h : G.T.ncl = 0) : ClsF G := ⟨fun c d hc => by omega, fun c t hc => by omega, fun c s hc => by omega, fun c hc => by omega, fun c hc => by omega, fun c d hc => by omega⟩
end
end Py
/-! The classes of a row. -/
namespace Py
open PySem L2 RZ
/-- what the top has written of a class -/
structure CA (K : PySem.W.Frag) (C : Addr) (mro : List Value) : Prop where
  c : ∃ cd, PySem.W.clsIn K C = some cd ∧ cd.mro = mro ∧ cd.hasDict = true
  ty : PySem.W.typeIn K (.ref C) = some (.type "type")
theorem CA.mro {K : PySem.W.Frag} {C : Addr} {m : List Value} (a : CA K C m) (hne : m.isEmpty = false) (b : Value) : PySem.W.subIn K (.ref C) b = some (m.contains b) := by
  obtain ⟨cd, h1, h2, _⟩ := a.c
  show PySem.W.mroIn K C b = _
  unfold PySem.W.mroIn
  rw [h1, Option.bind_some, h2, hne]
  rfl
theorem CA.hd {K : PySem.W.Frag} {C : Addr} {m : List Value} (a : CA K C m) : PySem.W.hasDictIn K C = true := by
  obtain ⟨cd, h1, _, h3⟩ := a.c
  unfold PySem.W.hasDictIn
  rw [h1]
  exact h3
theorem CA.kit {K : PySem.W.Frag} {C : Addr} {m : List Value} (a : CA K C m) (t : Value) : PySem.W.kitCls K t (.ref C) = PySem.W.subIn K t (.ref C) := by
  obtain ⟨cd, h1, _⟩ := a.c
  have e : ((PySem.W.clsIn K C).isSome && PySem.W.typeIn K (.ref C) == some (.type "type")) = true := by rw [h1, a.ty]; rfl
  show (if _ then _ else _) = _
  rw [if_pos e]
abbrev veT : List Value := [.type "ValueError", .type "Exception", .type "BaseException", .type "object"]
def tlOf (b : Bool) : List Value := if b = true then veT else [.type "object"]
theorem tl_ref (b : Bool) (a : Addr) : (tlOf b).contains (.ref a) = false := by cases b <;> rfl
theorem refs_ty (f : Nat → Addr) (s : String) : ∀ l : List Nat, (l.map fun i => Value.ref (f i)).contains (.type s) = false
  | [] => rfl
  | i :: l => by rw [List.map_cons, List.contains_cons, refs_ty f s l]; rfl
theorem refs_ref {f : Nat → Addr} {n d : Nat} (hd : d < n) (inj : ∀ c d, c < n → d < n → f c = f d → c = d) : ∀ l : List Nat, (∀ i ∈ l, i < n) → (l.map fun i => Value.ref (f i)).contains (.ref (f d)) = l.contains d
  | [], _ => rfl
  | i :: l, hl => by
    rw [List.map_cons, List.contains_cons, List.contains_cons, refs_ref hd inj l fun j hj => hl j (by simp [hj])]
    congr 1
    by_cases e : d = i
    · subst e; simp
    · have : f d ≠ f i := fun z => e (inj d i hd (hl i (by simp)) z)
      have h1 : (Value.ref (f d) == Value.ref (f i)) = false := by
        rw [beq_eq_false_iff_ne]
        exact fun z => this (Value.ref.inj z)
      rw [h1]
      simpa using e
theorem clsF_mk {G : Cfg} (anc : Nat → List Nat) (hs : ∀ c d, G.T.sub c d = (anc c).contains d) (ca : ∀ c, c < G.T.ncl → CA G.K (G.clA c) ((anc c).map (fun i => Value.ref (G.clA i)) ++ tlOf (G.T.exn c))) (self : ∀ c, c < G.T.ncl → c ∈ anc c) (low : ∀ c, c < G.T.ncl → ∀ i ∈ anc c, i < G.T.ncl)
    (inj : ∀ c d, c < G.T.ncl → d < G.T.ncl → G.clA c = G.clA d → c = d) (ve : ∀ c, c < G.T.ncl → G.T.isVe c = G.T.exn c)
    (ga : ∀ c, c < G.T.ncl → G.T.exn c = true → PySem.W.findIn G.K (.ref (G.clA c)) "__getattribute__" = some (some (.builtin "BaseException.__getattribute__"))) (gg : ∀ c, c < G.T.ncl → G.T.exn c = true → PySem.W.findIn G.K (.ref (G.clA c)) "__getattr__" = some none) (gc : ∀ c, c < G.T.ncl → PySem.W.findIn G.K (.ref (G.clA c)) "__class__" = some (some (.builtin "object.__class__")))
    (hn : PySem.W.specialIn G.K (.builtin "object.__class__") "__get__" = some (some (.builtin "getset_descriptor.__get__"))) (ht : PySem.W.takesIn G.K (.builtin "object.__class__") = some true) (hi : ∀ c, c < G.T.ncl → G.T.exn c = false → Cls G.K (G.clA c)) : ClsF G := by
  have ne : ∀ c, ((anc c).map (fun i => Value.ref (G.clA i)) ++ tlOf (G.T.exn c)).isEmpty = false := fun c => by
    cases G.T.exn c <;> simp [tlOf, veT]
  have sub : ∀ c d, c < G.T.ncl → d < G.T.ncl → PySem.W.subIn G.K (.ref (G.clA c)) (.ref (G.clA d)) = some (G.T.sub c d) := fun c d hc hd => by
    rw [(ca c hc).mro (ne c), hs, List.contains_append, tl_ref, Bool.or_false, refs_ref hd inj _ (low c hc)]
  have subT : ∀ c (s : String), c < G.T.ncl → PySem.W.subIn G.K (.ref (G.clA c)) (.type s) = some ((tlOf (G.T.exn c)).contains (.type s)) := fun c s hc => by
    rw [(ca c hc).mro (ne c), List.contains_append, refs_ty, Bool.false_or]
  have obj : ∀ c, c < G.T.ncl → PySem.W.mroIn G.K (G.clA c) (.type "object") = some true := fun c hc => by
    have := subT c "object" hc
    rw [show (tlOf (G.T.exn c)).contains (.type "object") = true by cases G.T.exn c <;> rfl] at this
    exact this
  have bas : ∀ c, c < G.T.ncl → G.T.exn c = true → PySem.W.subIn G.K (.ref (G.clA c)) (.type "BaseException") = some true := fun c hc hx => by
    rw [subT c _ hc, hx]; rfl
  refine ⟨fun c d hc hd => ?_, fun c t hc h => ?_, fun c s hc h => ?_, fun c hc hx => ⟨hi c hc hx, gc c hc, hn, ht, obj c hc⟩, fun c hc hx => ⟨⟨ga c hc hx, gg c hc hx, bas c hc hx, (ca c hc).hd, gc c hc, hn, ht, obj c hc⟩, ⟨ga c hc hx, gg c hc hx, bas c hc hx, (ca c hc).hd⟩⟩, fun c d hc hd hx hy => ?_⟩
  · unfold PySem.W.kitOne
    split
    · rename_i e
      have := inj c d hc hd (Value.ref.inj (beq_iff_eq.mp e))
      subst this
      rw [hs]
      simp [self c hc]
    · rw [(ca d hd).kit]; exact sub c d hc hd
  · unfold PySem.W.kitOne
    rw [if_neg (by simp)]
    have key : ∀ s : String, PySem.W.kitMeta s = true → PySem.W.kitCls G.K (.ref (G.clA c)) (.type s) = some ((tlOf (G.T.exn c)).contains (.type s)) := fun s hm => by
      show (if _ then _ else _) = _
      rw [if_pos hm]; exact subT c s hc
    have vc := ve c hc
    cases t with
    | cls d => exact absurd rfl (h d)
    | int => rw [key _ (by decide +kernel)]; cases G.T.exn c <;> rfl
    | bool => rw [key _ (by decide +kernel)]; cases G.T.exn c <;> rfl
    | str => rw [key _ (by decide +kernel)]; cases G.T.exn c <;> rfl
    | tup => rw [key _ (by decide +kernel)]; cases G.T.exn c <;> rfl
    | lst => rw [key _ (by decide +kernel)]; cases G.T.exn c <;> rfl
    | dct => rw [key _ (by decide +kernel)]; cases G.T.exn c <;> rfl
    | ve => rw [key _ (by decide +kernel), vc]; cases G.T.exn c <;> rfl
  · unfold PySem.W.kitOne
    rw [if_neg (by simp), (ca c hc).kit]
    have key : ∀ (s : String) (l : List Value), PySem.fastBuiltinMro s = some l → (l.all fun v => match v with | .ref _ => false | _ => true) = true → PySem.W.subIn G.K (.type s) (.ref (G.clA c)) = some false := fun s l e a => by
      show (PySem.fastBuiltinMro s).map _ = _
      rw [e, Option.map_some]
      congr 1
      rw [Bool.eq_false_iff]
      intro z
      rw [List.contains_iff_mem] at z
      have := List.all_eq_true.mp a _ z
      cases this
    simp only [List.mem_cons, List.not_mem_nil, or_false] at h
    rcases h with rfl | rfl | rfl | rfl | rfl | rfl | rfl
    · exact key "NoneType" _ (by rfl) (by decide +kernel)
    · exact key "bool" _ (by rfl) (by decide +kernel)
    · exact key "int" _ (by rfl) (by decide +kernel)
    · exact key "str" _ (by rfl) (by decide +kernel)
    · exact key "tuple" _ (by rfl) (by decide +kernel)
    · exact key "list" _ (by rfl) (by decide +kernel)
    · exact key "dict" _ (by rfl) (by decide +kernel)
  · unfold PySem.W.exmOne
    rw [if_pos (by rw [bas d hd hy]; rfl), (ca d hd).kit]
    exact sub c d hc hd
/-- an exception's class with its own __init__ -/
theorem ex1_mk {P : Program} {w : World} {K : PySem.W.Frag} {mg : Str → Option Value} {gr : Heap} {C fI : Addr} {f : Str} (o : OexC K C) (h1 : PySem.W.findIn K (.ref C) "__init__" = some (some (.ref fI))) (h2 : PySem.W.typeIn K (.ref fI) = some (.type "function")) {x qu : Str} {st : Stmt} {fd : FuncData} {a : Str} {p1 p2 p3 p4 : Pos}
    (F : Fun K x qu st fI fd) (b : Binds K fd ["self", a] []) (S : scB ["self", a] ["self", a] (defScope st) = true) (hb : defBody st = [.Assign [.Attribute (.Name "self" p1) f p2] (.Name a p3) p4]) (hno : PySem.W.findIn K (.ref C) f = some none) (h3 : visB (defScope st) "self" = true) (h4 : visB (defScope st) a = true) (h5 : okB a = true) : Ex1 P w K mg gr C f := by
  have vis : ∀ {y : Str}, visB (defScope st) y = true → Vis (defScope st) y := fun {y} h => by
    unfold visB at h
    split at h
    · exact .inl (by assumption)
    · exact .inr (.inl (by assumption))
    · exact .inr (.inr (by assumption))
    · cases h
  exact ⟨o, fI, fd, _, h1, h2, b, init_ok F (sc_of S) hb o hno (vis h3) (vis h4) (ok_of h5).1 (ok_of h5).2⟩
end Py
namespace Py
open PySem L2 RZ
/-- a global that is a tuple of one tuple of plain values -/
theorem gl_tup1 {G : Cfg} {mg : Str → Option Value} {x : Str} {ds : List D} {a b : Addr} {od od' : Option Addr} {its : Array Value} {m m' : Nat} {sl sl' : Array (Option Value)} (hm : mg x = some (.ref a)) (hl : G.K.lookup a = some ⟨.type "tuple", od, .seq #[.ref b] m, sl⟩) (hl' : G.K.lookup b = some ⟨.type "tuple", od', .seq its m', sl'⟩) (hv : vsB ds its.toList = true) (hz : decide (its.size ≤ sizeLine) = true) :
    ∃ u v, mg x = some u ∧ RelV v u ∧ ∀ μ H, RD G μ H (.tup [.tup ds]) v := by
  obtain ⟨vs, r1, r2⟩ := vsB_of (G := G) hv
  have sz : (#[Value.ref b]).size ≤ sizeLine := by show 1 ≤ sizeLine; decide
  have rb : RelV (.ref b) (Value.ref b) := rfl
  exact ⟨_, .ref a, hm, rfl, fun μ H => .tup (.inr ⟨_, #[.ref b], m, hl, rfl, rfl, sz, .cons rb .nil⟩) (.cons (.tup (.inr ⟨_, its, m', hl', rfl, rfl, of_decide_eq_true hz, r1⟩) (r2 μ H)) .nil)⟩
end Py
/-! The small Python, read: lemmas for plain laws. -/
namespace Py
section
variable {α β : Type} {T : Tb} {C : Cl} {σ : Sg} {h : Hh}
@[simp] theorem bind_ok' {a : α} {k : α → Hh → R β} : (R.ok a h).bind k = k a h := rfl
@[simp] theorem bind_ex' {x : Xc} {k : α → Hh → R β} : (R.ex x h : R α).bind k = .ex x h := rfl
@[simp] theorem bind_bad {k : α → Hh → R β} : (R.bad : R α).bind k = .bad := rfl
@[simp] theorem thn_ok {a : α} {k : α → Hh → RS} : (R.ok a h).thn σ k = k a h := rfl
@[simp] theorem thn_bad {k : α → Hh → RS} : (R.bad : R α).thn σ k = .bad := rfl
@[simp] theorem thn_nx {k : Sg → Hh → RS} : (RS.nx σ h).thn k = k σ h := rfl
@[simp] theorem thn_rt {d : D} {k : Sg → Hh → RS} : (RS.rt d h).thn k = .rt d h := rfl
@[simp] theorem thn_bk {k : Sg → Hh → RS} : (RS.bk σ h).thn k = .bk σ h := rfl
@[simp] theorem thn_ct {k : Sg → Hh → RS} : (RS.ct σ h).thn k = .ct σ h := rfl
@[simp] theorem thn_badS {k : Sg → Hh → RS} : RS.bad.thn k = .bad := rfl
@[simp] theorem fin_nx : (RS.nx σ h).fin = .ok .non h := rfl
@[simp] theorem fin_rt {d : D} : (RS.rt d h).fin = .ok d h := rfl
@[simp] theorem fin_bad : RS.bad.fin = .bad := rfl
@[simp] theorem of_some {a : α} : R.of (some (a, h)) = .ok a h := rfl
@[simp] theorem of_none : R.of (none : Option (α × Hh)) = .bad := rfl
@[simp] theorem ob_sm {a : α} {k : α → VR} : ob (some a) k = k a := rfl
@[simp] theorem ob_none {k : α → VR} : ob none k = none := rfl
@[simp] theorem iteR_t {x y : R α} : iteR true x y = x := rfl
@[simp] theorem iteR_f {x y : R α} : iteR false x y = y := rfl
@[simp] theorem iteS_t {x y : RS} : iteS true x y = x := rfl
@[simp] theorem iteS_f {x y : RS} : iteS false x y = y := rfl
@[simp] theorem andR_t {k : Hh → R D} : andR (.bl true) h k = k h := rfl
@[simp] theorem andR_f {k : Hh → R D} : andR (.bl false) h k = .ok (.bl false) h := rfl
@[simp] theorem orR_t {k : Hh → R D} : orR (.bl true) h k = .ok (.bl true) h := rfl
@[simp] theorem orR_f {k : Hh → R D} : orR (.bl false) h k = k h := rfl
@[simp] theorem truR_b {b : Bool} : truR (.ok (.bl b) h) = .ok b h := rfl
@[simp] theorem truR_bad : truR .bad = .bad := rfl
@[simp] theorem intR_i {i : Int} : intR (.int i) h = .ok (some i) h := rfl
@[simp] theorem putS_s {σ : Sg} : putS (some σ) h = .nx σ h := rfl
@[simp] theorem putS'_s {σ : Sg} {k : Sg → RS} : putS' (some σ) k = k σ := rfl
@[simp] theorem setS_s : setS (some h) σ = .nx σ h := rfl
@[simp] theorem recv_l {b : BM} {n : Nat} {xs : List D} {f : Bool} {r : R D} (e : h[n]? = some (.lst xs f)) (k : bmK b = 1) : recvR b (.ref n) h r = r := by
  unfold recvR kd
  simp [e, k]

@[simp] theorem v_non : (den T C (.non)).v σ h = .ok .non h := by simp only [den, Den.of]
@[simp] theorem t_non : (den T C (.non)).t σ h = truR ((den T C (.non)).v σ h) := by simp only [den, Den.of]
@[simp] theorem v_bl {b : Bool} : (den T C (.bl b)).v σ h = .ok (.bl b) h := by simp only [den, Den.of]
@[simp] theorem t_bl {b : Bool} : (den T C (.bl b)).t σ h = truR ((den T C (.bl b)).v σ h) := by simp only [den, Den.of]
@[simp] theorem v_int {i : Int} : (den T C (.int i)).v σ h = .ok (.int i) h := by simp only [den, Den.of]
@[simp] theorem t_int {i : Int} : (den T C (.int i)).t σ h = truR ((den T C (.int i)).v σ h) := by simp only [den, Den.of]
@[simp] theorem v_str {s : List Nat} : (den T C (.str s)).v σ h = .ok (.str s) h := by simp only [den, Den.of]
@[simp] theorem t_str {s : List Nat} : (den T C (.str s)).t σ h = truR ((den T C (.str s)).v σ h) := by simp only [den, Den.of]
@[simp] theorem v_var {i : Nat} : (den T C (.var i)).v σ h = varR σ i h := by simp only [den, Den.of]
@[simp] theorem t_var {i : Nat} : (den T C (.var i)).t σ h = truR ((den T C (.var i)).v σ h) := by simp only [den, Den.of]
@[simp] theorem v_glob {g : Nat} : (den T C (.glob g)).v σ h = .ok (T.glob g) h := by simp only [den, Den.of]
@[simp] theorem t_glob {g : Nat} : (den T C (.glob g)).t σ h = truR ((den T C (.glob g)).v σ h) := by simp only [den, Den.of]
@[simp] theorem v_bin {op : BO} {a : E} {b : E} : (den T C (.bin op a b)).v σ h = ((den T C a).v σ h).bind fun x h => ((den T C b).v σ h).bind fun y h => R.of (binD op x y h) := by simp only [den, Den.of]
@[simp] theorem t_bin {op : BO} {a : E} {b : E} : (den T C (.bin op a b)).t σ h = truR ((den T C (.bin op a b)).v σ h) := by simp only [den, Den.of]
@[simp] theorem v_neg {a : E} : (den T C (.neg a)).v σ h = ((den T C a).v σ h).bind fun x h => R.of (negD x h) := by simp only [den, Den.of]
@[simp] theorem t_neg {a : E} : (den T C (.neg a)).t σ h = truR ((den T C (.neg a)).v σ h) := by simp only [den, Den.of]
@[simp] theorem v_not {a : E} : (den T C (.not a)).v σ h = ((den T C a).v σ h).bind fun x h => R.of (ob (tru h x) fun b => some (.bl (!b), h)) := by simp only [den, Den.of]
@[simp] theorem t_not {a : E} : (den T C (.not a)).t σ h = ((den T C a).t σ h).bind fun b h => .ok (!b) h := by simp only [den, Den.of]
@[simp] theorem v_and {a : E} {b : E} : (den T C (.and a b)).v σ h = ((den T C a).v σ h).bind fun x h => andR x h fun h => (den T C b).v σ h := by simp only [den, Den.of]
@[simp] theorem t_and {a : E} {b : E} : (den T C (.and a b)).t σ h = ((den T C a).t σ h).bind fun k h => iteR k ((den T C b).t σ h) (.ok false h) := by simp only [den, Den.of]
@[simp] theorem v_or {a : E} {b : E} : (den T C (.or a b)).v σ h = ((den T C a).v σ h).bind fun x h => orR x h fun h => (den T C b).v σ h := by simp only [den, Den.of]
@[simp] theorem t_or {a : E} {b : E} : (den T C (.or a b)).t σ h = ((den T C a).t σ h).bind fun k h => iteR k (.ok true h) ((den T C b).t σ h) := by simp only [den, Den.of]
@[simp] theorem v_cmp {op : CO} {a : E} {b : E} : (den T C (.cmp op a b)).v σ h = ((den T C a).v σ h).bind fun x h => ((den T C b).v σ h).bind fun y h => R.of (cmpD op x y h) := by simp only [den, Den.of]
@[simp] theorem t_cmp {op : CO} {a : E} {b : E} : (den T C (.cmp op a b)).t σ h = truR ((den T C (.cmp op a b)).v σ h) := by simp only [den, Den.of]
@[simp] theorem v_chn {op : CO} {op2 : CO} {a : E} {b : E} {c : E} : (den T C (.chn op op2 a b c)).v σ h = ((den T C a).v σ h).bind fun x h => ((den T C b).v σ h).bind fun y h => (R.of (cmpD op x y h)).bind fun z h => andR z h fun h => ((den T C c).v σ h).bind fun w h => R.of (cmpD op2 y w h) := by simp only [den, Den.of]
@[simp] theorem t_chn {op : CO} {op2 : CO} {a : E} {b : E} {c : E} : (den T C (.chn op op2 a b c)).t σ h = truR ((den T C (.chn op op2 a b c)).v σ h) := by simp only [den, Den.of]
@[simp] theorem v_ife {c : E} {a : E} {b : E} : (den T C (.ife c a b)).v σ h = ((den T C c).t σ h).bind fun k h => iteR k ((den T C a).v σ h) ((den T C b).v σ h) := by simp only [den, Den.of]
@[simp] theorem t_ife {c : E} {a : E} {b : E} : (den T C (.ife c a b)).t σ h = .bad := by simp only [den, Den.of]
@[simp] theorem v_tup {es : Es} : (den T C (.tup es)).v σ h = (dens T C es σ h).bind fun xs h => if xs.length ≤ SZ then .ok (.tup xs) h else .bad := by simp only [den, Den.of]
@[simp] theorem t_tup {es : Es} : (den T C (.tup es)).t σ h = truR ((den T C (.tup es)).v σ h) := by simp only [den, Den.of]
@[simp] theorem v_lst {es : Es} : (den T C (.lst es)).v σ h = (dens T C es σ h).bind fun xs h => if xs.length ≤ SZ then R.of (newO (.lst xs false) h) else .bad := by simp only [den, Den.of]
@[simp] theorem t_lst {es : Es} : (den T C (.lst es)).t σ h = truR ((den T C (.lst es)).v σ h) := by simp only [den, Den.of]
@[simp] theorem v_ix {a : E} {i : E} : (den T C (.ix a i)).v σ h = ((den T C a).v σ h).bind fun x h => ((den T C i).v σ h).bind fun y h => R.of (ixD x y h) := by simp only [den, Den.of]
@[simp] theorem t_ix {a : E} {i : E} : (den T C (.ix a i)).t σ h = truR ((den T C (.ix a i)).v σ h) := by simp only [den, Den.of]
@[simp] theorem v_sl {a : E} {lo : Eo} {hi : Eo} : (den T C (.sl a lo hi)).v σ h = ((den T C a).v σ h).bind fun x h => (deno T C lo σ h).bind fun l h => (deno T C hi σ h).bind fun u h => R.of (slD x l u h) := by simp only [den, Den.of]
@[simp] theorem t_sl {a : E} {lo : Eo} {hi : Eo} : (den T C (.sl a lo hi)).t σ h = truR ((den T C (.sl a lo hi)).v σ h) := by simp only [den, Den.of]
@[simp] theorem v_call {f : Nat} {es : Es} : (den T C (.call f es)).v σ h = (dens T C es σ h).bind fun xs h => C f xs h := by simp only [den, Den.of]
@[simp] theorem t_call {f : Nat} {es : Es} : (den T C (.call f es)).t σ h = truR ((den T C (.call f es)).v σ h) := by simp only [den, Den.of]
@[simp] theorem v_bi {b : BI} {es : Es} : (den T C (.bi b es)).v σ h = (dens T C es σ h).bind fun xs h => R.of (biD b xs h) := by simp only [den, Den.of]
@[simp] theorem t_bi {b : BI} {es : Es} : (den T C (.bi b es)).t σ h = truR ((den T C (.bi b es)).v σ h) := by simp only [den, Den.of]
@[simp] theorem v_bm {b : BM} {o : E} {es : Es} : (den T C (.bm b o es)).v σ h = ((den T C o).v σ h).bind fun x h => recvR b x h ((dens T C es σ h).bind fun xs h => R.of (bmD b x xs h)) := by simp only [den, Den.of]
@[simp] theorem t_bm {b : BM} {o : E} {es : Es} : (den T C (.bm b o es)).t σ h = truR ((den T C (.bm b o es)).v σ h) := by simp only [den, Den.of]
@[simp] theorem v_isi {a : E} {ts : List Ty} : (den T C (.isi a ts)).v σ h = ((den T C a).v σ h).bind fun x h => R.of (ob (isTys T h x ts) fun b => some (.bl b, h)) := by simp only [den, Den.of]
@[simp] theorem t_isi {a : E} {ts : List Ty} : (den T C (.isi a ts)).t σ h = truR ((den T C (.isi a ts)).v σ h) := by simp only [den, Den.of]
@[simp] theorem v_lrng1 {a : E} : (den T C (.lrng1 a)).v σ h = ((den T C a).v σ h).bind fun x h => lrngR (.int 0) x h := by simp only [den, Den.of]
@[simp] theorem t_lrng1 {a : E} : (den T C (.lrng1 a)).t σ h = truR ((den T C (.lrng1 a)).v σ h) := by simp only [den, Den.of]
@[simp] theorem v_lrng2 {a : E} {b : E} : (den T C (.lrng2 a b)).v σ h = ((den T C a).v σ h).bind fun x h => ((den T C b).v σ h).bind fun y h => lrngR x y h := by simp only [den, Den.of]
@[simp] theorem t_lrng2 {a : E} {b : E} : (den T C (.lrng2 a b)).t σ h = truR ((den T C (.lrng2 a b)).v σ h) := by simp only [den, Den.of]
@[simp] theorem v_comp {el : E} {own : List Nat} {tg : Tg} {it : Wi} {cd : Eo} : (den T C (.comp el own tg it cd)).v σ h = (deni T C it σ h).bind fun w h => compD w h.length (fun x h => Tg.put tg x h (wipe σ own)) (denc T C cd) (den T C el).v h := by simp only [den, Den.of]
@[simp] theorem t_comp {el : E} {own : List Nat} {tg : Tg} {it : Wi} {cd : Eo} : (den T C (.comp el own tg it cd)).t σ h = truR ((den T C (.comp el own tg it cd)).v σ h) := by simp only [den, Den.of]
@[simp] theorem es_nil : dens T C .nil σ h = .ok [] h := by simp only [dens]
@[simp] theorem es_cons {e : E} {es : Es} : dens T C (.cons e es) σ h = ((den T C e).v σ h).bind fun x h => (dens T C es σ h).bind fun xs h => .ok (x :: xs) h := by simp only [dens]
@[simp] theorem eo_none : deno T C .none σ h = .ok none h := by simp only [deno]
@[simp] theorem eo_some {e : E} : deno T C (.some e) σ h = ((den T C e).v σ h).bind fun x h => intR x h := by simp only [deno]
@[simp] theorem ec_none : denc T C .none σ h = .ok true h := by simp only [denc]
@[simp] theorem ec_some {e : E} : denc T C (.some e) σ h = (den T C e).t σ h := by simp only [denc]
@[simp] theorem ei_seq {e : E} : deni T C (.seq e) σ h = ((den T C e).v σ h).bind fun x h => seqW x h := by simp only [deni]
@[simp] theorem ei_rng1 {e : E} : deni T C (.rng1 e) σ h = ((den T C e).v σ h).bind fun x h => rngW (.int 0) x h := by simp only [deni]
@[simp] theorem ei_rng2 {a b : E} : deni T C (.rng2 a b) σ h = ((den T C a).v σ h).bind fun x h => ((den T C b).v σ h).bind fun y h => rngW x y h := by simp only [deni]
@[simp] theorem ei_enum {e : E} : deni T C (.enum e) σ h = ((den T C e).v σ h).bind fun x h => enumW x h := by simp only [deni]
@[simp] theorem ei_zip {a b : E} : deni T C (.zip a b) σ h = ((den T C a).v σ h).bind fun x h => ((den T C b).v σ h).bind fun y h => zipW x y h := by simp only [deni]
@[simp] theorem s_asg {t : Tg} {e : E} : exS T C (.asg t e) σ h = ((den T C e).v σ h).thn σ fun x h => putS (Tg.put t x h σ) h := by simp only [exS]
@[simp] theorem s_asgc {i : Nat} {e : E} : exS T C (.asgc i e) σ h = ((den T C e).v σ h).thn σ fun x h => .nx (σ.set i (some x)) h := by simp only [exS]
@[simp] theorem s_asgs {ts : Tgs} {e : E} : exS T C (.asgs ts e) σ h = ((den T C e).v σ h).thn σ fun x h => starS ts x h σ := by simp only [exS]
@[simp] theorem s_setix {o i e : E} : exS T C (.setix o i e) σ h = ((den T C e).v σ h).thn σ fun v h => ((den T C o).v σ h).thn σ fun x h => ((den T C i).v σ h).thn σ fun k h => setS (setIx x k v h) σ := by simp only [exS]
@[simp] theorem s_ex {e : E} : exS T C (.ex e) σ h = ((den T C e).v σ h).thn σ fun _ h => .nx σ h := by simp only [exS]
@[simp] theorem s_ret {e : E} : exS T C (.ret e) σ h = ((den T C e).v σ h).thn σ fun x h => .rt x h := by simp only [exS]
@[simp] theorem s_pass : exS T C .pass σ h = .nx σ h := by simp only [exS]
@[simp] theorem s_iff {c : E} {a b : Ss} : exS T C (.iff c a b) σ h = ((den T C c).t σ h).thn σ fun k h => iteS k (exSs T C a σ h) (exSs T C b σ h) := by simp only [exS]
@[simp] theorem s_forr {t : Tg} {it : Wi} {b : Ss} : exS T C (.forr t it b) σ h = (deni T C it σ h).thn σ fun w h => forL w (fun x σ h => putS' (Tg.put t x h σ) fun σ' => exSs T C b σ' h) w.items σ h := by simp only [exS]
@[simp] theorem s_never : exS T C .never σ h = .bad := by simp only [exS]
@[simp] theorem ss_nil : exSs T C .nil σ h = .nx σ h := by simp only [exSs]
@[simp] theorem ss_cons {s : S} {ss : Ss} : exSs T C (.cons s ss) σ h = (exS T C s σ h).thn fun σ h => exSs T C ss σ h := by simp only [exSs]
@[simp] theorem var0 {d : Option D} {σ : Sg} : varR (d :: σ) 0 h = (match d with | some d => .ok d h | none => .bad) := by cases d <;> rfl
@[simp] theorem varS {d : Option D} {σ : Sg} {i : Nat} : varR (d :: σ) (i + 1) h = varR σ i h := by simp only [varR, List.getElem?_cons_succ]
@[simp] theorem tg_nm {i : Nat} {d : D} : Tg.put (.nm i) d h σ = some (σ.set i (some d)) := by simp only [Tg.put]
@[simp] theorem tg_tup {ts : Tgs} {d : D} : Tg.put (.tup ts) d h σ = (seqOf h d).bind fun xs => Tgs.put ts xs h σ := by simp only [Tg.put]
@[simp] theorem tgs_nil : Tgs.put .nil [] h σ = some σ := by simp only [Tgs.put]
@[simp] theorem tgs_cons {t : Tg} {ts : Tgs} {x : D} {xs : List D} : Tgs.put (.cons t ts) (x :: xs) h σ = (Tg.put t x h σ).bind fun σ' => Tgs.put ts xs h σ' := by simp only [Tgs.put]
@[simp] theorem seq_tup {xs : List D} : seqOf h (.tup xs) = some xs := rfl
@[simp] theorem newO_d {o : O} : newO o h = some (.ref h.length, h ++ [o]) := rfl
@[simp] theorem wipe_nil : wipe σ [] = σ := rfl
@[simp] theorem wipe_cons {v : Nat} {vs : List Nat} : wipe σ (v :: vs) = (wipe σ vs).set v none := rfl

@[simp] theorem ty_non_int : isTys T h .non [.int] = some false := rfl
@[simp] theorem ty_non_bool : isTys T h .non [.bool] = some false := rfl
@[simp] theorem ty_non_str : isTys T h .non [.str] = some false := rfl
@[simp] theorem ty_non_tup : isTys T h .non [.tup] = some false := rfl
@[simp] theorem ty_non_lst : isTys T h .non [.lst] = some false := rfl
@[simp] theorem ty_non_dct : isTys T h .non [.dct] = some false := rfl
@[simp] theorem ty_non_ve : isTys T h .non [.ve] = some false := rfl
@[simp] theorem ty_bl_int {b : Bool} : isTys T h (.bl b) [.int] = some true := rfl
@[simp] theorem ty_bl_bool {b : Bool} : isTys T h (.bl b) [.bool] = some true := rfl
@[simp] theorem ty_bl_str {b : Bool} : isTys T h (.bl b) [.str] = some false := rfl
@[simp] theorem ty_bl_tup {b : Bool} : isTys T h (.bl b) [.tup] = some false := rfl
@[simp] theorem ty_bl_lst {b : Bool} : isTys T h (.bl b) [.lst] = some false := rfl
@[simp] theorem ty_bl_dct {b : Bool} : isTys T h (.bl b) [.dct] = some false := rfl
@[simp] theorem ty_bl_ve {b : Bool} : isTys T h (.bl b) [.ve] = some false := rfl
@[simp] theorem ty_int_int {i : Int} : isTys T h (.int i) [.int] = some true := rfl
@[simp] theorem ty_int_bool {i : Int} : isTys T h (.int i) [.bool] = some false := rfl
@[simp] theorem ty_int_str {i : Int} : isTys T h (.int i) [.str] = some false := rfl
@[simp] theorem ty_int_tup {i : Int} : isTys T h (.int i) [.tup] = some false := rfl
@[simp] theorem ty_int_lst {i : Int} : isTys T h (.int i) [.lst] = some false := rfl
@[simp] theorem ty_int_dct {i : Int} : isTys T h (.int i) [.dct] = some false := rfl
@[simp] theorem ty_int_ve {i : Int} : isTys T h (.int i) [.ve] = some false := rfl
@[simp] theorem ty_str_int {s : List Nat} : isTys T h (.str s) [.int] = some false := rfl
@[simp] theorem ty_str_bool {s : List Nat} : isTys T h (.str s) [.bool] = some false := rfl
@[simp] theorem ty_str_str {s : List Nat} : isTys T h (.str s) [.str] = some true := rfl
@[simp] theorem ty_str_tup {s : List Nat} : isTys T h (.str s) [.tup] = some false := rfl
@[simp] theorem ty_str_lst {s : List Nat} : isTys T h (.str s) [.lst] = some false := rfl
@[simp] theorem ty_str_dct {s : List Nat} : isTys T h (.str s) [.dct] = some false := rfl
@[simp] theorem ty_str_ve {s : List Nat} : isTys T h (.str s) [.ve] = some false := rfl
@[simp] theorem ty_tup_int {xs : List D} : isTys T h (.tup xs) [.int] = some false := rfl
@[simp] theorem ty_tup_bool {xs : List D} : isTys T h (.tup xs) [.bool] = some false := rfl
@[simp] theorem ty_tup_str {xs : List D} : isTys T h (.tup xs) [.str] = some false := rfl
@[simp] theorem ty_tup_tup {xs : List D} : isTys T h (.tup xs) [.tup] = some true := rfl
@[simp] theorem ty_tup_lst {xs : List D} : isTys T h (.tup xs) [.lst] = some false := rfl
@[simp] theorem ty_tup_dct {xs : List D} : isTys T h (.tup xs) [.dct] = some false := rfl
@[simp] theorem ty_tup_ve {xs : List D} : isTys T h (.tup xs) [.ve] = some false := rfl
@[simp] theorem ty_ref {n : Nat} {xs : List D} {f : Bool} {t : Ty} (e : h[n]? = some (.lst xs f)) (ht : ∀ c, t ≠ .cls c) : isTys T h (.ref n) [t] = some (t == .lst) := by
  cases t <;> simp_all [isTys, isTy] <;> rfl
@[simp] theorem tru_non : tru h .non = some false := rfl
@[simp] theorem tru_bl {b : Bool} : tru h (.bl b) = some b := rfl
@[simp] theorem tru_int {i : Int} : tru h (.int i) = some (i != 0) := rfl
@[simp] theorem tru_tup {xs : List D} : tru h (.tup xs) = some (!xs.isEmpty) := rfl
@[simp] theorem lt_int {i j : Int} : cmpD .lt (.int i) (.int j) h = some (.bl (decide (i < j)), h) := rfl
@[simp] theorem le_int {i j : Int} : cmpD .le (.int i) (.int j) h = some (.bl (decide (i ≤ j)), h) := rfl
@[simp] theorem gt_int {i j : Int} : cmpD .gt (.int i) (.int j) h = some (.bl (decide (j < i)), h) := rfl
@[simp] theorem ge_int {i j : Int} : cmpD .ge (.int i) (.int j) h = some (.bl (decide (j ≤ i)), h) := rfl
@[simp] theorem eq_d {a b : D} : cmpD .eq a b h = ob (eqD h a b) fun c => some (.bl c, h) := by cases a <;> cases b <;> rfl
@[simp] theorem ne_d {a b : D} : cmpD .ne a b h = ob (eqD h a b) fun c => some (.bl (!c), h) := by cases a <;> cases b <;> rfl
@[simp] theorem is_d {a : D} : cmpD .is a .non h = some (.bl (isNon a), h) := by cases a <;> rfl
@[simp] theorem isn_d {a : D} : cmpD .isn a .non h = some (.bl (!isNon a), h) := by cases a <;> rfl
@[simp] theorem inn_d {a b : D} : cmpD .inn a b h = ob (inD a b h) fun c => some (.bl c, h) := by cases a <;> cases b <;> rfl
@[simp] theorem nin_d {a b : D} : cmpD .nin a b h = ob (inD a b h) fun c => some (.bl (!c), h) := by cases a <;> cases b <;> rfl
@[simp] theorem isNon_n : isNon .non = true := rfl
@[simp] theorem isNon_i {i : Int} : isNon (.int i) = false := rfl
@[simp] theorem isNon_t {xs : List D} : isNon (.tup xs) = false := rfl
@[simp] theorem isNon_s {xs : List Nat} : isNon (.str xs) = false := rfl
@[simp] theorem isNon_r {n : Nat} : isNon (.ref n) = false := rfl
@[simp] theorem isNon_b {b : Bool} : isNon (.bl b) = false := rfl
@[simp] theorem eq_int {i j : Int} : eqD h (.int i) (.int j) = some (decide (i = j)) := rfl
@[simp] theorem eq_str {i j : List Nat} : eqD h (.str i) (.str j) = some (decide (i = j)) := rfl
@[simp] theorem eq_bl {i j : Bool} : eqD h (.bl i) (.bl j) = some (decide (i = j)) := rfl
@[simp] theorem add_int {i j : Int} : binD .add (.int i) (.int j) h = some (.int (i + j), h) := rfl
@[simp] theorem sub_int {i j : Int} : binD .sub (.int i) (.int j) h = some (.int (i - j), h) := rfl
@[simp] theorem mul_int {i j : Int} : binD .mul (.int i) (.int j) h = if (-(2 ^ 64) < i ∧ i < 2 ^ 64) ∨ (-(2 ^ 64) < j ∧ j < 2 ^ 64) then some (.int (i * j), h) else none := rfl
@[simp] theorem fdv_int {i j : Int} : binD .fdv (.int i) (.int j) h = if 0 < j ∧ j < 1073741824 then some (.int (i / j), h) else none := rfl
@[simp] theorem mod_int {i j : Int} : binD .mod (.int i) (.int j) h = if 0 < j then some (.int (i % j), h) else none := rfl
@[simp] theorem pow_int {i j : Int} : binD .pow (.int i) (.int j) h = if 0 ≤ j ∧ j ≤ 1000000 ∧ i.natAbs < 2 ^ 64 then some (.int (i ^ j.toNat), h) else none := rfl
@[simp] theorem add_tup {a b : List D} : binD .add (.tup a) (.tup b) h = if a.length + b.length ≤ SZ then some (.tup (a ++ b), h) else none := rfl
@[simp] theorem add_str {a b : List Nat} : binD .add (.str a) (.str b) h = if a.length + b.length ≤ SZ then some (.str (a ++ b), h) else none := rfl
theorem add_lst {m n : Nat} {a b : List D} (e1 : h[m]? = some (.lst a false)) (e2 : h[n]? = some (.lst b false)) : binD .add (.ref m) (.ref n) h = if a.length + b.length ≤ SZ then newO (.lst (a ++ b) false) h else none := by
  unfold binD
  simp only [e1, e2]
theorem mul_lst {m : Nat} {a : List D} {k : Int} (e1 : h[m]? = some (.lst a false)) : binD .mul (.ref m) (.int k) h = if -1000000 ≤ k ∧ k ≤ 1000000 ∧ a.length * k.toNat ≤ SZ then newO (.lst (List.replicate k.toNat a).flatten false) h else none := by
  unfold binD
  simp only [e1]
@[simp] theorem neg_int {i : Int} : negD (.int i) h = some (.int (-i), h) := rfl
@[simp] theorem ix_tup {xs : List D} {k : Int} : ixD (.tup xs) (.int k) h = ob ((ix xs.length k).bind fun j => xs[j]?) fun v => some (v, h) := rfl
theorem ix_lst {n : Nat} {xs : List D} {f : Bool} {k : Int} (e : h[n]? = some (.lst xs f)) : ixD (.ref n) (.int k) h = ob ((ix xs.length k).bind fun j => xs[j]?) fun v => some (v, h) := by
  unfold ixD
  simp only [e]
@[simp] theorem sl_tup {xs : List D} {lo hi : Option Int} : slD (.tup xs) lo hi h = some (.tup (cut xs lo hi), h) := rfl
theorem sl_lst {n : Nat} {xs : List D} {f : Bool} {lo hi : Option Int} (e : h[n]? = some (.lst xs f)) : slD (.ref n) lo hi h = newO (.lst (cut xs lo hi) false) h := by
  unfold slD
  simp only [e]
theorem seq_lst {n : Nat} {xs : List D} {f : Bool} (e : h[n]? = some (.lst xs f)) : seqOf h (.ref n) = some xs := by
  unfold seqOf
  simp only [e]
@[simp] theorem len_tup {xs : List D} : biD .len [.tup xs] h = some (.int xs.length, h) := rfl
theorem len_lst {n : Nat} {xs : List D} {f : Bool} (e : h[n]? = some (.lst xs f)) : biD .len [.ref n] h = some (.int xs.length, h) := by
  unfold biD
  simp only [e]
@[simp] theorem bi_list {d : D} : biD .list [d] h = ob (seqOf h d) fun xs => newO (.lst xs false) h := by cases d <;> rfl
@[simp] theorem bi_tuple {d : D} : biD .tuple [d] h = ob (seqOf h d) fun xs => some (.tup xs, h) := by cases d <;> rfl
@[simp] theorem bi_int_i {i : Int} : biD .int [.int i] h = some (.int i, h) := rfl
@[simp] theorem bi_int_b {b : Bool} : biD .int [.bl b] h = some (.int (if b then 1 else 0), h) := rfl
@[simp] theorem bi_abs {i : Int} : biD .abs [.int i] h = some (.int (if i < 0 then -i else i), h) := rfl
@[simp] theorem bi_min {i j : Int} : biD .min [.int i, .int j] h = some (.int (if j < i then j else i), h) := rfl
@[simp] theorem bi_max {i j : Int} : biD .max [.int i, .int j] h = some (.int (if j > i then j else i), h) := rfl
theorem app_lst {n : Nat} {xs : List D} {x : D} (e : h[n]? = some (.lst xs false)) : bmD .append (.ref n) [x] h = if xs.length < SZ then some (.non, h.set n (.lst (xs ++ [x]) false)) else none := by
  unfold bmD
  simp only [e]
theorem pop_lst {n : Nat} {xs : List D} {k : Int} (e : h[n]? = some (.lst xs false)) : bmD .lpop (.ref n) [.int k] h = ob (ix xs.length k) fun j => ob xs[j]? fun v => some (v, h.set n (.lst (xs.eraseIdx j) false)) := by
  unfold bmD
  simp only [e]
theorem set_lst {n : Nat} {xs : List D} {k : Int} {v : D} (e : h[n]? = some (.lst xs false)) : setIx (.ref n) (.int k) v h = match ix xs.length k with | some j => some (h.set n (.lst (xs.set j v) false)) | none => none := by
  unfold setIx
  simp only [e]
  all_goals rfl
@[simp] theorem rngW_i {i j : Int} : rngW (.int i) (.int j) h = if -1000000000 ≤ i ∧ i ≤ 1000000000 ∧ -1000000000 ≤ j ∧ j ≤ 1000000000 then .ok ⟨rngI i (j - i).toNat, []⟩ h else .bad := rfl
@[simp] theorem lrng_i {i j : Int} : lrngR (.int i) (.int j) h = mkRng i j h := rfl
@[simp] theorem seqW_t {xs : List D} : seqW (.tup xs) h = .ok ⟨xs, []⟩ h := rfl
theorem seqW_l {n : Nat} {xs : List D} {f : Bool} (e : h[n]? = some (.lst xs f)) : seqW (.ref n) h = .ok ⟨xs, [(n, .lst xs f)]⟩ h := by
  unfold seqW
  simp only [seq_lst e, gdOf, e]
@[simp] theorem enumW_t {xs : List D} : enumW (.tup xs) h = .ok ⟨enumD 0 xs, []⟩ h := rfl
@[simp] theorem ok_nil {xs : List D} : (Wk.mk xs []).ok h = true := rfl
theorem ok_one {xs : List D} {n : Nat} {o : O} (e : h[n]? = some o) : (Wk.mk xs [(n, o)]).ok h = true := by
  simp [Wk.ok, e]
theorem get_app {h e : Hh} {n : Nat} {o : O} (q : h[n]? = some o) : (h ++ e)[n]? = some o := by
  rw [List.getElem?_append_left (List.getElem?_eq_some_iff.mp q).1]
  exact q
@[simp] theorem get_new {h : Hh} {o : O} : (h ++ [o])[h.length]? = some o := by simp
@[simp] theorem get_new2 {h e : Hh} {o : O} : (h ++ (o :: e))[h.length]? = some o := by simp
theorem ix_nn {n : Nat} {k : Int} (h0 : 0 ≤ k) (h1 : k < n) : ix n k = some k.toNat := by
  unfold ix
  rw [if_pos h0, if_pos h1]
/-- a walk whose body ends each round as told -/
theorem forL_inv {w : Wk} {body : D → Sg → Hh → RS} (I : List D → Sg → Hh → Prop) (hok : ∀ xs σ h, I xs σ h → w.ok h = true)
    (hs : ∀ x xs σ h, I (x :: xs) σ h → ∃ σ' h', body x σ h = .nx σ' h' ∧ I xs σ' h') : ∀ (xs : List D) (σ : Sg) (h : Hh), I xs σ h → ∃ σ' h', forL w body xs σ h = .nx σ' h' ∧ I [] σ' h'
  | [], σ, h, i => ⟨σ, h, by rw [forL, if_pos (hok _ _ _ i)], i⟩
  | x :: xs, σ, h, i => by
    obtain ⟨σ1, h1, e1, i1⟩ := hs x xs σ h i
    obtain ⟨σ2, h2, e2, i2⟩ := forL_inv I hok hs xs σ1 h1 i1
    exact ⟨σ2, h2, by rw [forL, if_pos (hok _ _ _ i), e1]; exact e2, i2⟩
/-- a comprehension whose parts only lay new objects -/
theorem compL_ok {w : Wk} {n : Nat} {el : D → Hh → R (Option D)} {F : D → Option D} : ∀ (xs : List D) (acc : List D) (b e : Hh), n = b.length → acc.length + xs.length ≤ SZ → (∀ e, w.ok (b ++ e) = true) →
    (∀ x ∈ xs, ∀ e, ∃ e', el x (b ++ e) = .ok (F x) (b ++ e ++ e')) → ∃ e', compL w n el xs (b ++ .lst acc false :: e) = .ok () (b ++ .lst (acc ++ xs.filterMap F) false :: e')
  | [], acc, b, e, hn, hl, hok, hs => ⟨e, by rw [compL, if_pos (hok _)]; simp⟩
  | x :: xs, acc, b, e, hn, hl, hok, hs => by
    obtain ⟨e1, q⟩ := hs x (by simp) (.lst acc false :: e)
    subst hn
    simp only [List.length_cons] at hl
    cases hF : F x with
    | none =>
      obtain ⟨e2, q2⟩ := compL_ok (F := F) xs acc b (e ++ e1) rfl (by omega) hok fun y hy => hs y (List.mem_cons_of_mem _ hy)
      refine ⟨e2, ?_⟩
      rw [compL, if_pos (hok _), q, hF]
      simp only [List.append_assoc, List.cons_append, List.filterMap_cons, hF]
      simpa using q2
    | some v =>
      obtain ⟨e2, q2⟩ := compL_ok (F := F) xs (acc ++ [v]) b (e ++ e1) rfl (by simp; omega) hok fun y hy => hs y (List.mem_cons_of_mem _ hy)
      refine ⟨e2, ?_⟩
      rw [compL, if_pos (hok _), q, hF]
      have g : (b ++ O.lst acc false :: e ++ e1)[b.length]? = some (.lst acc false) := by simp
      simp only [g]
      rw [if_pos (by omega)]
      have st : (b ++ O.lst acc false :: e ++ e1).set b.length (.lst (acc ++ [v]) false) = b ++ .lst (acc ++ [v]) false :: (e ++ e1) := by simp
      rw [st, q2]
      simp [hF]
theorem compD_ok {w : Wk} {put : D → Hh → Option Sg} {cd : Sg → Hh → R Bool} {el : Sg → Hh → R D} {h : Hh} (F : D → Option D) (hl : w.items.length ≤ SZ) (hok : ∀ e, w.ok (h ++ e) = true)
    (hs : ∀ x ∈ w.items, ∀ e, ∃ e' σ', put x (h ++ e) = some σ' ∧ (match F x with
      | some v => ∃ e1, cd σ' (h ++ e) = .ok true (h ++ e ++ e1) ∧ el σ' (h ++ e ++ e1) = .ok v (h ++ e ++ e')
      | none => cd σ' (h ++ e) = .ok false (h ++ e ++ e'))) :
    ∃ e', compD w h.length put cd el h = .ok (.ref h.length) (h ++ .lst (w.items.filterMap F) false :: e') := by
  unfold compD
  obtain ⟨e', q⟩ := compL_ok (w := w) (n := h.length) (F := F) (el := fun x h => match put x h with
    | some σ' => (cd σ' h).bind fun b h => match b with
      | true => (el σ' h).bind fun v h => .ok (some v) h
      | false => .ok none h
    | none => .bad) w.items [] h [] rfl (by simpa using hl) hok (fun x hx e => by
      obtain ⟨e1, σ', q1, q2⟩ := hs x hx e
      refine ⟨e1, ?_⟩
      rw [q1]
      dsimp only
      split at q2
      · rename_i v hv
        obtain ⟨e2, q3, q4⟩ := q2
        rw [q3]
        dsimp only [R.bind]
        rw [q4, hv]
      · rename_i hv
        rw [q2, hv]
        rfl)
  refine ⟨e', ?_⟩
  simp only [List.nil_append] at q
  exact congrArg (fun (r : R Unit) => r.bind fun _ h' => R.ok (D.ref h.length) h') q
end
end Py
/-! more lemmas for plain laws -/
namespace Py
section
variable {h : Hh}
theorem inT_int {x : Int} {ys : List Int} : inT (.int x) (ys.map .int) = some (decide (x ∈ ys)) := by
  have h1 : ∀ ys : List Int, (ys.map D.int).all flatD = true := fun ys => by
    induction ys with
    | nil => rfl
    | cons y ys ih => simpa [flatD] using ih
  have h2 : ∀ ys : List Int, ((ys.map D.int).any fun y => eqF y (.int x)) = decide (x ∈ ys) := fun ys => by
    induction ys with
    | nil => rfl
    | cons y ys ih =>
      have e0 : eqF (.int y) (.int x) = (y == x) := rfl
      rw [List.map_cons, List.any_cons, ih, e0]
      by_cases e : x = y
      · subst e; simp
      · have : ¬ y = x := fun z => e z.symm
        simp [e, this]
  unfold inT
  rw [h2, h1]
  rfl
@[simp] theorem inD_tup {x : D} {xs : List D} : inD x (.tup xs) h = inT x xs := rfl
theorem cut_to {α : Type} {xs : List α} {k : Nat} : cut xs none (some (k : Int)) = xs.take k := by
  unfold cut cutIx
  simp
def intR' (n : Nat) : List Int := (List.range n).map fun (k : Nat) => (k : Int)
theorem rng0 {n : Nat} : rngI 0 n = (intR' n).map .int := by
  unfold rngI intR'
  simp
theorem fm_int {F : D → Option D} {p : Int → Bool} {L : List Int} (e : ∀ i ∈ L, F (.int i) = if p i then some (.int i) else none) : (L.map D.int).filterMap F = (L.filter p).map .int := by
  induction L with
  | nil => rfl
  | cons i L ih =>
    have := ih fun j hj => e j (List.mem_cons_of_mem _ hj)
    simp only [List.map_cons, List.filterMap_cons, e i (by simp), List.filter_cons]
    cases p i <;> simp [this]
def keepF (p : Int → Bool) : D → Option D
  | .int i => if p i then some (.int i) else none
  | _ => none
theorem fm_keep {p : Int → Bool} {L : List Int} : (L.map D.int).filterMap (keepF p) = (L.filter p).map .int := fm_int fun i _ => rfl
theorem enumD_cons {k : Nat} {x : D} {xs : List D} : enumD k (x :: xs) = .tup [.int (k : Int), x] :: enumD (k + 1) xs := rfl
theorem toP_ints {m : Nat} : ∀ {xs : List Int}, (xs.map D.int).mapM (toP h m) = some (xs.map PySem.PyData.int)
  | [] => rfl
  | x :: xs => by
    have ih := toP_ints (m := m) (xs := xs)
    have e : toP h m (.int x) = some (.int x) := by cases m <;> rfl
    rw [List.map_cons, List.mapM_cons, e, ih]
    rfl
theorem eqv_ints : ∀ {xs ys : List Int}, PySem.PyData.eqvAll (xs.map .int) (ys.map .int) = decide (xs = ys)
  | [], [] => rfl
  | [], _ :: _ => rfl
  | _ :: _, [] => rfl
  | x :: xs, y :: ys => by
    simp only [List.map_cons, PySem.PyData.eqvAll, PySem.PyData.eqv, eqv_ints, List.cons.injEq]
    by_cases e : x = y <;> simp [e]
theorem toP_lst {n : Nat} {m : Nat} {xs : List Int} {f : Bool} (e : h[n]? = some (.lst (xs.map .int) f)) : toP h (m + 1) (.ref n) = some (.list (xs.map .int)) := by
  unfold toP
  simp only [e, toP_ints]
  rfl
/-- is it []? -/
theorem eq_nil {n m : Nat} {xs : List Int} {f g : Bool} (e : h[n]? = some (.lst (xs.map .int) f)) (e2 : h[m]? = some (.lst [] g)) : eqD h (.ref n) (.ref m) = some (decide (xs = [])) := by
  have e2' : h[m]? = some (.lst (([] : List Int).map .int) g) := e2
  unfold eqD
  simp only [deepest, toP_lst e, toP_lst e2']
  show some (PySem.PyData.eqvAll (xs.map .int) (([] : List Int).map .int)) = _
  rw [eqv_ints]
theorem compD_eq {w : Wk} {put : D → Hh → Option Sg} {cd : Sg → Hh → R Bool} {el : Sg → Hh → R D} {h : Hh} (F : D → Option D) (hl : w.items.length ≤ SZ) (hok : ∀ e, w.ok (h ++ e) = true)
    (hs : ∀ x ∈ w.items, ∀ e, ∃ e' σ', put x (h ++ e) = some σ' ∧ (match F x with
      | some v => ∃ e1, cd σ' (h ++ e) = .ok true (h ++ e ++ e1) ∧ el σ' (h ++ e ++ e1) = .ok v (h ++ e ++ e')
      | none => cd σ' (h ++ e) = .ok false (h ++ e ++ e'))) :
    compD w h.length put cd el h = .ok (.ref h.length) (h ++ .lst (w.items.filterMap F) false :: Classical.choose (compD_ok F hl hok hs)) := Classical.choose_spec (compD_ok F hl hok hs)
theorem forL_k {w : Wk} {body : D → Sg → Hh → RS} {k : Sg → Hh → RS} {xs : List D} {σ : Sg} {h : Hh} {Q : RS → Prop} (I : List D → Sg → Hh → Prop) (hok : ∀ xs σ h, I xs σ h → w.ok h = true)
    (hs : ∀ x xs σ h, I (x :: xs) σ h → ∃ σ' h', body x σ h = .nx σ' h' ∧ I xs σ' h') (i : I xs σ h) (hk : ∀ σ' h', I [] σ' h' → Q (k σ' h')) : Q ((forL w body xs σ h).thn k) := by
  obtain ⟨σ', h', q, j⟩ := forL_inv I hok hs xs σ h i
  rw [q]
  exact hk σ' h' j
inductive Fa {α β : Type} (r : α → β → Prop) : List α → List β → Prop
  | nil : Fa r [] []
  | cons {a : α} {b : β} {as : List α} {bs : List β} : r a b → Fa r as bs → Fa r (a :: as) (b :: bs)
theorem Fa.imp {α β : Type} {r r' : α → β → Prop} (h : ∀ a b, r a b → r' a b) : ∀ {as : List α} {bs : List β}, Fa r as bs → Fa r' as bs
  | _, _, .nil => .nil
  | _, _, .cons x q => .cons (h _ _ x) (q.imp h)
theorem Fa.length {α β : Type} {r : α → β → Prop} : ∀ {as : List α} {bs : List β}, Fa r as bs → as.length = bs.length
  | _, _, .nil => rfl
  | _, _, .cons _ q => by simp [q.length]
theorem Fa.app {α β : Type} {r : α → β → Prop} {cs : List α} {ds : List β} (p : Fa r cs ds) : ∀ {as : List α} {bs : List β}, Fa r as bs → Fa r (as ++ cs) (bs ++ ds)
  | _, _, .nil => p
  | _, _, .cons x q => .cons x (Fa.app p q)
theorem Fa.get {α β : Type} {r : α → β → Prop} : ∀ {as : List α} {bs : List β} {i : Nat} {a : α}, Fa r as bs → as[i]? = some a → ∃ b, bs[i]? = some b ∧ r a b
  | _, _, 0, _, .cons x q, e => by simp at e; subst e; exact ⟨_, rfl, x⟩
  | _, _, i + 1, _, .cons x q, e => by simp at e; simpa using q.get e
theorem Fa.mem {α β : Type} {r : α → β → Prop} : ∀ {as : List α} {bs : List β} {a : α}, Fa r as bs → a ∈ as → ∃ b ∈ bs, r a b
  | _, _, _, .cons x q, e => by
    rcases List.mem_cons.mp e with rfl | e
    · exact ⟨_, by simp, x⟩
    · obtain ⟨b, h1, h2⟩ := q.mem e
      exact ⟨b, by simp [h1], h2⟩
theorem Fa.wm {α β : Type} {r : α → β → Prop} : ∀ {as : List α} {bs : List β}, Fa r as bs → Fa (fun a b => r a b ∧ b ∈ bs) as bs
  | _, _, .nil => .nil
  | _, _, .cons x q => .cons ⟨x, by simp⟩ (q.wm.imp fun a b ⟨h1, h2⟩ => ⟨h1, by simp [h2]⟩)
/-- a comprehension that lays objects: Rr tells what a value is -/
theorem compL_rel {γ ζ : Type} {w : Wk} {el : D → Hh → R (Option D)} {b : Hh} (F : ζ → Option γ) (Rr : Hh → D → γ → Prop) (In : D → ζ → Prop) (st : ∀ a a' e e' v y, Rr (b ++ .lst a false :: e) v y → Rr (b ++ .lst a' false :: (e ++ e')) v y)
    (hok : ∀ e, w.ok (b ++ e) = true)
    (hs : ∀ x z, In x z → ∀ a e, ∃ e' o, el x (b ++ .lst a false :: e) = .ok o (b ++ .lst a false :: (e ++ e')) ∧ (match F z with
      | some y => ∃ v, o = some v ∧ Rr (b ++ .lst a false :: (e ++ e')) v y
      | none => o = none)) :
    ∀ (xs : List D) (zs : List ζ) (acc : List D) (e : Hh), Fa In xs zs → acc.length + xs.length ≤ SZ →
      ∃ vs e', compL w b.length el xs (b ++ .lst acc false :: e) = .ok () (b ++ .lst (acc ++ vs) false :: (e ++ e')) ∧ Fa (Rr (b ++ .lst (acc ++ vs) false :: (e ++ e'))) vs (zs.filterMap F)
  | _, _, acc, e, .nil, hl => ⟨[], [], by rw [compL, if_pos (hok _)]; simp, .nil⟩
  | _, _, acc, e, .cons (a := x) (b := z) (as := xs) (bs := zs) hx q, hl => by
    obtain ⟨e1, o, q1, q2⟩ := hs x z hx acc e
    simp only [List.length_cons] at hl
    rw [compL, if_pos (hok _), q1]
    cases hF : F z with
    | none =>
      rw [hF] at q2
      simp only at q2
      subst q2
      obtain ⟨vs, e2, r1, r2⟩ := compL_rel F Rr In st hok hs xs zs acc (e ++ e1) q (by omega)
      refine ⟨vs, e1 ++ e2, ?_, ?_⟩
      · simpa using r1
      · simpa [hF] using r2
    | some y =>
      rw [hF] at q2
      simp only at q2
      obtain ⟨v, rfl, q3⟩ := q2
      have g : (b ++ O.lst acc false :: (e ++ e1))[b.length]? = some (.lst acc false) := by simp
      have s1 : (b ++ O.lst acc false :: (e ++ e1)).set b.length (.lst (acc ++ [v]) false) = b ++ .lst (acc ++ [v]) false :: (e ++ e1) := by simp
      obtain ⟨vs, e2, r1, r2⟩ := compL_rel F Rr In st hok hs xs zs (acc ++ [v]) (e ++ e1) q (by simp; omega)
      refine ⟨v :: vs, e1 ++ e2, ?_, ?_⟩
      · simp only [g]
        rw [if_pos (by omega), s1, r1]
        simp
      · rw [List.filterMap_cons, hF]
        have r3 := st acc (acc ++ v :: vs) (e ++ e1) e2 v y q3
        simp only [List.append_assoc, List.singleton_append, List.cons_append, List.nil_append] at r2 r3 ⊢
        exact .cons r3 r2
theorem compD_rel {γ ζ : Type} {w : Wk} {put : D → Hh → Option Sg} {cd : Sg → Hh → R Bool} {el : Sg → Hh → R D} {b : Hh} {zs : List ζ} (F : ζ → Option γ) (Rr : Hh → D → γ → Prop) (In : D → ζ → Prop) (st : ∀ a a' e e' v y, Rr (b ++ .lst a false :: e) v y → Rr (b ++ .lst a' false :: (e ++ e')) v y)
    (hok : ∀ e, w.ok (b ++ e) = true) (hl : w.items.length ≤ SZ) (hz : Fa In w.items zs)
    (hs : ∀ x z, In x z → ∀ a e, ∃ σ', put x (b ++ .lst a false :: e) = some σ' ∧ (match F z with
      | some y => ∃ e1 e2 v, cd σ' (b ++ .lst a false :: e) = .ok true (b ++ .lst a false :: (e ++ e1)) ∧ el σ' (b ++ .lst a false :: (e ++ e1)) = .ok v (b ++ .lst a false :: (e ++ e1 ++ e2)) ∧ Rr (b ++ .lst a false :: (e ++ e1 ++ e2)) v y
      | none => ∃ e1, cd σ' (b ++ .lst a false :: e) = .ok false (b ++ .lst a false :: (e ++ e1)))) :
    ∃ vs e', compD w b.length put cd el b = .ok (.ref b.length) (b ++ .lst vs false :: e') ∧ Fa (Rr (b ++ .lst vs false :: e')) vs (zs.filterMap F) := by
  unfold compD
  obtain ⟨vs, e', q1, q2⟩ := compL_rel (w := w) (b := b) F Rr In st hok (el := fun x h => match put x h with
    | some σ' => (cd σ' h).bind fun b h => match b with
      | true => (el σ' h).bind fun v h => .ok (some v) h
      | false => .ok none h
    | none => .bad) (fun x z hx a e => by
      obtain ⟨σ', p1, p2⟩ := hs x z hx a e
      rw [p1]
      dsimp only
      cases hF : F z with
      | none =>
        rw [hF] at p2
        obtain ⟨e1, p3⟩ := p2
        exact ⟨e1, none, by rw [p3]; rfl, rfl⟩
      | some y =>
        rw [hF] at p2
        obtain ⟨e1, e2, v, p3, p4, p5⟩ := p2
        refine ⟨e1 ++ e2, some v, ?_, v, rfl, by simpa using p5⟩
        rw [p3]
        dsimp only [R.bind]
        rw [p4]
        simp) w.items zs [] [] hz (by simpa using hl)
  refine ⟨vs, e', ?_, by simpa using q2⟩
  simp only [List.nil_append] at q1
  exact congrArg (fun (r : R Unit) => r.bind fun _ h' => R.ok (D.ref b.length) h') q1
theorem get_mid {b e e' : Hh} {x x' o : O} {r : Nat} (hr : r ≠ b.length) (q : (b ++ x :: e)[r]? = some o) : (b ++ x' :: (e ++ e'))[r]? = some o := by
  rw [List.getElem?_append] at q ⊢
  split at q
  · rename_i hl; rw [if_pos hl]; exact q
  · rename_i hl
    rw [if_neg hl]
    have hp : r - b.length = (r - b.length - 1) + 1 := by omega
    rw [hp] at q ⊢
    simp only [List.getElem?_cons_succ] at q ⊢
    exact get_app q
/-- a list of ints stands there -/
def At (h : Hh) (v : D) (xs : List Int) : Prop := ∃ r, v = .ref r ∧ h[r]? = some (.lst (xs.map .int) false)
/-- a list of lists of ints -/
def LL (h : Hh) (v : D) (xss : List (List Int)) : Prop := ∃ r vs, v = .ref r ∧ h[r]? = some (.lst vs false) ∧ Fa (At h) vs xss
theorem At.app {h e : Hh} {v : D} {xs : List Int} : At h v xs → At (h ++ e) v xs := fun ⟨r, e1, q⟩ => ⟨r, e1, get_app q⟩
theorem LL.app {h e : Hh} {v : D} {xss : List (List Int)} : LL h v xss → LL (h ++ e) v xss := fun ⟨r, vs, e1, q, f⟩ => ⟨r, vs, e1, get_app q, f.imp fun _ _ => At.app⟩
theorem compL_pure {w : Wk} {el : D → Hh → R (Option D)} {F : D → Option D} {b : Hh} : ∀ (xs acc : List D), acc.length + xs.length ≤ SZ → (∀ e, w.ok (b ++ e) = true) →
    (∀ x ∈ xs, ∀ e, el x (b ++ e) = .ok (F x) (b ++ e)) → compL w b.length el xs (b ++ [.lst acc false]) = .ok () (b ++ [.lst (acc ++ xs.filterMap F) false])
  | [], acc, hl, hok, hs => by rw [compL, if_pos (hok _)]; simp
  | x :: xs, acc, hl, hok, hs => by
    simp only [List.length_cons] at hl
    rw [compL, if_pos (hok _), hs x (by simp)]
    cases hF : F x with
    | none =>
      have := compL_pure (w := w) (el := el) (F := F) (b := b) xs acc (by omega) hok fun y hy => hs y (List.mem_cons_of_mem _ hy)
      simpa [hF] using this
    | some v =>
      have ih := compL_pure (w := w) (el := el) (F := F) (b := b) xs (acc ++ [v]) (by simp; omega) hok fun y hy => hs y (List.mem_cons_of_mem _ hy)
      have g : (b ++ [O.lst acc false])[b.length]? = some (.lst acc false) := by simp
      have st : (b ++ [O.lst acc false]).set b.length (.lst (acc ++ [v]) false) = b ++ [.lst (acc ++ [v]) false] := by simp
      simp only [g, st]
      rw [if_pos (by omega), ih]
      simp [hF]
theorem compD_pure {w : Wk} {put : D → Hh → Option Sg} {cd : Sg → Hh → R Bool} {el : Sg → Hh → R D} {h : Hh} (F : D → Option D) (hl : w.items.length ≤ SZ) (hok : ∀ e, w.ok (h ++ e) = true)
    (hs : ∀ x ∈ w.items, ∀ e, ∃ σ', put x (h ++ e) = some σ' ∧ (match F x with
      | some v => cd σ' (h ++ e) = .ok true (h ++ e) ∧ el σ' (h ++ e) = .ok v (h ++ e)
      | none => cd σ' (h ++ e) = .ok false (h ++ e))) :
    compD w h.length put cd el h = .ok (.ref h.length) (h ++ [.lst (w.items.filterMap F) false]) := by
  unfold compD
  have q := compL_pure (w := w) (F := F) (b := h) (el := fun x h => match put x h with
    | some σ' => (cd σ' h).bind fun b h => match b with
      | true => (el σ' h).bind fun v h => .ok (some v) h
      | false => .ok none h
    | none => .bad) w.items [] (by simpa using hl) hok (fun x hx e => by
      obtain ⟨σ', q1, q2⟩ := hs x hx e
      rw [q1]
      dsimp only
      split at q2
      · rename_i v hv
        rw [q2.1]
        dsimp only [R.bind]
        rw [q2.2, hv]
      · rename_i hv
        rw [q2, hv]
        rfl)
  simp only [List.nil_append] at q
  exact congrArg (fun (r : R Unit) => r.bind fun _ h' => R.ok (D.ref h.length) h') q
def mapF (f : Int → D) : D → Option D
  | .int i => some (f i)
  | _ => none
theorem fm_map {f : Int → D} : ∀ {L : List Int}, (L.map D.int).filterMap (mapF f) = L.map f
  | [] => rfl
  | i :: L => by simp [mapF, fm_map (L := L)]
theorem map_erase {α β : Type} {f : α → β} : ∀ (xs : List α) (i : Nat), (xs.map f).eraseIdx i = (xs.eraseIdx i).map f
  | [], _ => rfl
  | _ :: _, 0 => rfl
  | x :: xs, i + 1 => by simp [map_erase xs i]
theorem perm_erase {α : Type} : ∀ (l : List α) (n : Nat) (h : n < l.length), (l[n] :: l.eraseIdx n).Perm l
  | x :: xs, 0, _ => .refl _
  | x :: xs, n + 1, h => by
    have ih := perm_erase xs n (by simpa using h)
    exact (List.Perm.swap x _ _).trans (ih.cons x)
theorem pmul {i j : Int} {h : Hh} (q : (-(2 ^ 64) < i ∧ i < 2 ^ 64) ∨ (-(2 ^ 64) < j ∧ j < 2 ^ 64)) : binD .mul (.int i) (.int j) h = some (.int (i * j), h) := by rw [mul_int, if_pos q]
theorem pfdv {i j : Int} {h : Hh} (q : 0 < j ∧ j < 1073741824) : binD .fdv (.int i) (.int j) h = some (.int (i / j), h) := by rw [fdv_int, if_pos q]
theorem pmod (z m : Int) (h : Hh) (q : 0 < m) : ∃ y, binD .mod (.int z) (.int m) h = some (.int y, h) ∧ 0 ≤ y ∧ y < m :=
  ⟨z % m, by rw [mod_int, if_pos q], Int.emod_nonneg _ (by omega), Int.emod_lt_of_pos _ q⟩
theorem ppow (z j : Int) (h : Hh) (q1 : 0 ≤ j) (q2 : j ≤ 1000000) (q3 : z.natAbs < 2 ^ 64) : ∃ y, binD .pow (.int z) (.int j) h = some (.int y, h) :=
  ⟨z ^ j.toNat, by rw [pow_int, if_pos ⟨q1, q2, q3⟩]⟩
theorem ok_at1 {xs : List D} {n : Nat} {o : O} {h : Hh} (q : h[n]? = some o) (e : Hh) : (Wk.mk xs [(n, o)]).ok (h ++ e) = true := ok_one (get_app q)
end
end Py
/-! Reading lemmas of the newer forms. -/
namespace Py
section
variable {α β : Type} {T : Tb} {C : Cl} {σ : Sg} {h : Hh}
@[simp] theorem v_fld {a : E} {f : Nat} : (den T C (.fld a f)).v σ h = ((den T C a).v σ h).bind fun x h => fldR T x f h := by simp only [den, Den.of]
@[simp] theorem t_fld {a : E} {f : Nat} : (den T C (.fld a f)).t σ h = truR ((den T C (.fld a f)).v σ h) := by simp only [den, Den.of]
@[simp] theorem v_fnv {f : Nat} : (den T C (.fnv f)).v σ h = .ok (.fn f) h := by simp only [den, Den.of]
@[simp] theorem v_calll {i : Nat} {es : Es} : (den T C (.calll i es)).v σ h = (varR σ i h).bind fun g h => fnR T g fun f => (dens T C es σ h).bind fun xs h => C f xs h := by simp only [den, Den.of]
@[simp] theorem t_calll {i : Nat} {es : Es} : (den T C (.calll i es)).t σ h = truR ((den T C (.calll i es)).v σ h) := by simp only [den, Den.of]
@[simp] theorem v_repr {a : E} : (den T C (.repr a)).v σ h = ((den T C a).v σ h).bind fun x h => R.of (reprD x h) := by simp only [den, Den.of]
@[simp] theorem v_dct0 : (den T C .dct0).v σ h = R.of (newO (.dct [] false) h) := by simp only [den, Den.of]
@[simp] theorem v_dct1 {a b : E} : (den T C (.dct1 a b)).v σ h = ((den T C a).v σ (h ++ [.dct [] false])).bind fun x h1 => ((den T C b).v σ h1).bind fun y h2 => dct1R h.length x y h2 := by simp only [den, Den.of]
@[simp] theorem v_trev {a : E} : (den T C (.trev a)).v σ h = ((den T C a).v σ h).bind fun x h => trevR x h := by simp only [den, Den.of]
@[simp] theorem v_srev {a : E} : (den T C (.srev a)).v σ h = ((den T C a).v σ h).bind fun x h => srevR x h := by simp only [den, Den.of]
@[simp] theorem trev_t {xs : List D} : trevR (.tup xs) h = .ok (.tup xs.reverse) h := rfl
theorem srev_l {n : Nat} {xs : List D} {f : Bool} (e : h[n]? = some (.lst xs f)) : srevR (.ref n) h = .ok (.ref h.length) (h ++ [.lst xs.reverse false]) := by
  unfold srevR
  simp only [e]
  rfl
theorem dct1_at {n : Nat} {x y : D} (e : h[n]? = some (.dct [] false)) (k : isKey x = true) : dct1R n x y h = .ok (.ref n) (h.set n (.dct [(x, y)] false)) := by
  unfold dct1R
  simp only [e, if_pos k]
@[simp] theorem setS'_s {k : Hh → RS} : setS' (some h) k = k h := rfl
@[simp] theorem s_swap {o i p j a b : E} : exS T C (.swap o i p j a b) σ h = ((den T C a).v σ h).thn σ fun x h => ((den T C b).v σ h).thn σ fun y h => ((den T C o).v σ h).thn σ fun d h => ((den T C i).v σ h).thn σ fun k h => setS' (setIx d k x h) fun h => ((den T C p).v σ h).thn σ fun e h => ((den T C j).v σ h).thn σ fun l h => setS (setIx e l y h) σ := by simp only [exS]
theorem ix_dct {n : Nat} {kvs : List (D × D)} {k v : D} (e : h[n]? = some (.dct kvs false)) (hk : isKey k = true) (hv : look kvs k = some v) : ixD (.ref n) k h = some (v, h) := by
  unfold ixD
  simp only [e, if_pos hk, hv]
  rfl
theorem in_dct {n : Nat} {kvs : List (D × D)} {k : D} (e : h[n]? = some (.dct kvs false)) (hk : isKey k = true) : inD k (.ref n) h = some (look kvs k).isSome := by
  unfold inD
  simp only [e, if_pos hk]
theorem set_dct {n : Nat} {kvs : List (D × D)} {k v : D} (e : h[n]? = some (.dct kvs false)) (hk : isKey k = true) (hl : kvs.length < SZ) : setIx (.ref n) k v h = some (h.set n (.dct (putKV kvs k v) false)) := by
  unfold setIx
  simp only [e, if_pos (And.intro hk hl)]
@[simp] theorem s_raise0 {c : Nat} : exS T C (.raise0 c) σ h = .ex ⟨c, []⟩ σ h := by simp only [exS]
@[simp] theorem s_raise1 {c f : Nat} {e : E} : exS T C (.raise1 c f e) σ h = ((den T C e).v σ h).thn σ fun x h => .ex ⟨c, [(f, x)]⟩ σ h := by simp only [exS]
@[simp] theorem s_tryk {b : Ss} {c i j : Nat} : exS T C (.tryk b c i j) σ h = keepS T c i j (exSs T C b σ h) := by simp only [exS]
@[simp] theorem thn_ex {x : Xc} {k : α → Hh → RS} : (R.ex x h : R α).thn σ k = .ex x σ h := rfl
@[simp] theorem thn_exS {x : Xc} {k : Sg → Hh → RS} : (RS.ex x σ h).thn k = .ex x σ h := rfl
@[simp] theorem fin_ex {x : Xc} : (RS.ex x σ h).fin = .ex x h := rfl
@[simp] theorem truR_ex {x : Xc} : truR (.ex x h) = .ex x h := rfl
@[simp] theorem keep_nx {c i j : Nat} : keepS T c i j (.nx σ h) = .nx σ h := rfl
@[simp] theorem keep_rt {c i j : Nat} {d : D} : keepS T c i j (.rt d h) = .rt d h := rfl
theorem keep_ex {c i j e : Nat} {fs : List (Nat × D)} (h1 : e < T.ncl ∧ c < T.ncl ∧ T.exn e = true ∧ T.exn c = true) (h2 : T.sub e c = true) :
    keepS T c i j (.ex ⟨e, fs⟩ σ h) = .nx (((σ.set i (some (.ref h.length))).set j (some (.ref h.length))).set i none) (h ++ [.exc e fs]) := by
  simp only [keepS, if_pos h1, if_pos h2]
@[simp] theorem fnR_fn {f : Nat} {k : Nat → R D} (hk : T.fnk f = true) : fnR T (.fn f) k = k f := if_pos hk
theorem fld_exc {n c f : Nat} {fs : List (Nat × D)} {v : D} (e : h[n]? = some (.exc c fs)) (hc : c < T.ncl ∧ T.exn c = true ∧ T.hasF c f = true) (hv : lookF fs f = some v) : fldR T (.ref n) f h = .ok v h := by
  unfold fldR
  simp only [e, if_pos hc, hv]
/-- isinstance of a caught exception -/
theorem ty_exc {n c : Nat} {fs : List (Nat × D)} (e : h[n]? = some (.exc c fs)) (hc : c < T.ncl ∧ T.exn c = true) {d : Nat} (hd : d < T.ncl) : isTys T h (.ref n) [.cls d] = some (T.sub c d) := by
  simp only [isTys, isTy, e, if_pos hd, if_pos hc]
  cases T.sub c d <;> rfl
theorem ty_exc_ve {n c : Nat} {fs : List (Nat × D)} (e : h[n]? = some (.exc c fs)) (hc : c < T.ncl ∧ T.exn c = true) : isTys T h (.ref n) [.ve] = some (T.isVe c) := by
  simp only [isTys, isTy, e, if_pos hc]
  cases T.isVe c <;> rfl
theorem tys_exc {n c : Nat} {fs : List (Nat × D)} (e : h[n]? = some (.exc c fs)) (hc : c < T.ncl ∧ T.exn c = true) : ∀ (ds : List Nat), (∀ d ∈ ds, d < T.ncl) → isTys T h (.ref n) (ds.map .cls) = some (ds.any fun d => T.sub c d)
  | [], _ => rfl
  | d :: ds, hd => by
    have ih := tys_exc e hc ds fun x hx => hd x (by simp [hx])
    have h1 : isTy T h (.ref n) (.cls d) = some (T.sub c d) := by simp only [isTy, e, if_pos (hd d (by simp)), if_pos hc]
    simp only [List.map_cons, isTys, h1, List.any_cons]
    cases T.sub c d with
    | true => rfl
    | false => simpa using ih
@[simp] theorem eq_non_non : eqD h .non .non = some true := rfl
@[simp] theorem eq_non_int {i : Int} : eqD h .non (.int i) = some false := rfl
@[simp] theorem eq_int_non {i : Int} : eqD h (.int i) .non = some false := rfl
@[simp] theorem eq_str_non {s : List Nat} : eqD h (.str s) .non = some false := rfl
@[simp] theorem eq_non_str {s : List Nat} : eqD h .non (.str s) = some false := rfl
@[simp] theorem eq_int_str {i : Int} {s : List Nat} : eqD h (.int i) (.str s) = some false := rfl
@[simp] theorem eq_str_int {i : Int} {s : List Nat} : eqD h (.str s) (.int i) = some false := rfl
/-- a walk that may be left -/
theorem forL_x {w : Wk} {body : D → Sg → Hh → RS} {k : Sg → Hh → RS} {Q : RS → Prop} (I : List D → Sg → Hh → Prop) (hok : ∀ xs σ h, I xs σ h → w.ok h = true)
    (hs : ∀ x xs σ h, I (x :: xs) σ h → (∃ σ' h', (body x σ h = .nx σ' h' ∨ body x σ h = .ct σ' h') ∧ I xs σ' h') ∨ (∃ d h', body x σ h = .rt d h' ∧ Q (.rt d h')) ∨ (∃ e σ' h', body x σ h = .ex e σ' h' ∧ Q (.ex e σ' h')) ∨ ∃ σ' h', body x σ h = .bk σ' h' ∧ Q (k σ' h'))
    (hk : ∀ σ h, I [] σ h → Q (k σ h)) : ∀ {xs : List D} {σ : Sg} {h : Hh}, I xs σ h → Q ((forL w body xs σ h).thn k)
  | [], σ, h, i => by
    rw [forL, if_pos (hok _ _ _ i)]
    exact hk σ h i
  | x :: xs, σ, h, i => by
    rw [forL, if_pos (hok _ _ _ i)]
    rcases hs x xs σ h i with ⟨σ', h', e | e, i'⟩ | ⟨d, h', e, q⟩ | ⟨z, σ', h', e, q⟩ | ⟨σ', h', e, q⟩
    · rw [e]; exact forL_x I hok hs hk i'
    · rw [e]; exact forL_x I hok hs hk i'
    · rw [e]; exact q
    · rw [e]; exact q
    · rw [e]; exact q
end
end Py
/-! the laws' own source of numbers: a state at sa, its cells at ca -/
namespace Py
structure St1 (h : Hh) (sa ca B : Nat) (cells : List Int) (cnt : Nat) (rest mix : Int) : Prop where
  c : h[ca]? = some (.lst (cells.map .int) false)
  s : h[sa]? = some (.lst [.ref ca, .int cnt, .int rest, .int mix] false)
  ne : ca ≠ sa
  p : 0 < cells.length
  l : cells.length ≤ 63
  r : 0 ≤ rest
  m0 : 0 ≤ mix
  m1 : mix < 2147483647
  b : cnt ≤ B
def Sta (h : Hh) (sa ca B : Nat) : Prop := ∃ cells cnt rest mix, St1 h sa ca B cells cnt rest mix
/-- what stands, but for the state, stands -/
def Kp (sa : Nat) (h h' : Hh) : Prop := h.length ≤ h'.length ∧ ∀ n, n ≠ sa → ∀ o, h[n]? = some o → h'[n]? = some o
theorem Kp.refl {sa : Nat} (h : Hh) : Kp sa h h := ⟨Nat.le_refl _, fun _ _ _ e => e⟩
theorem Kp.trans {sa : Nat} {a b c : Hh} (x : Kp sa a b) (y : Kp sa b c) : Kp sa a c := ⟨Nat.le_trans x.1 y.1, fun n q o e => y.2 n q o (x.2 n q o e)⟩
theorem Kp.ext {sa : Nat} (a e : Hh) : Kp sa a (a ++ e) := ⟨by rw [List.length_append]; omega, fun n _ o q => get_app q⟩
theorem Kp.app {sa : Nat} {a b : Hh} (x : Kp sa a b) (e : Hh) : Kp sa a (b ++ e) := x.trans (Kp.ext b e)
theorem Sta.app {h : Hh} {sa ca B : Nat} (x : Sta h sa ca B) (e : Hh) : Sta (h ++ e) sa ca B := by
  obtain ⟨cells, cnt, rest, mix, X⟩ := x
  exact ⟨cells, cnt, rest, mix, get_app X.c, get_app X.s, X.ne, X.p, X.l, X.r, X.m0, X.m1, X.b⟩
theorem Sta.mono {h : Hh} {sa ca B B' : Nat} (x : Sta h sa ca B) (q : B ≤ B') : Sta h sa ca B' := by
  obtain ⟨cells, cnt, rest, mix, X⟩ := x
  exact ⟨cells, cnt, rest, mix, X.c, X.s, X.ne, X.p, X.l, X.r, X.m0, X.m1, Nat.le_trans X.b q⟩
theorem Sta.lt {h : Hh} {sa ca B : Nat} (x : Sta h sa ca B) : sa < h.length ∧ ca < h.length := by
  obtain ⟨cells, cnt, rest, mix, X⟩ := x
  exact ⟨(List.getElem?_eq_some_iff.mp X.s).1, (List.getElem?_eq_some_iff.mp X.c).1⟩
/-- other objects changed, or laid -/
theorem Sta.set {h : Hh} {sa ca B n : Nat} {o : O} (x : Sta h sa ca B) (h1 : n ≠ sa) (h2 : n ≠ ca) : Sta (h.set n o) sa ca B := by
  obtain ⟨cells, cnt, rest, mix, X⟩ := x
  exact ⟨cells, cnt, rest, mix, by rw [List.getElem?_set_ne h2]; exact X.c, by rw [List.getElem?_set_ne h1]; exact X.s, X.ne, X.p, X.l, X.r, X.m0, X.m1, X.b⟩
def NextB : Ss := (.cons (.iff (.cmp .gt (.ix (.var 0) (.int 2)) (.int 0)) (.cons (.asg (.nm 2) (.bin .mod (.ix (.var 0) (.int 2)) (.var 1))) (.cons (.setix (.var 0) (.int 2) (.bin .fdv (.ix (.var 0) (.int 2)) (.var 1))) (.cons (.ret (.var 2)) .nil))) .nil) (.cons (.asg (.nm 3) (.ix (.var 0) (.int 0))) (.cons (.asg (.nm 4) (.ix (.var 3) (.bin .mod (.ix (.var 0) (.int 1)) (.bi .len (.cons (.var 3) .nil))))) (.cons (.setix (.var 0) (.int 1) (.bin .add (.ix (.var 0) (.int 1)) (.int 1))) (.cons (.iff (.and (.cmp .ge (.var 4) (.bin .pow (.int 10) (.int 18))) (.cmp .le (.ix (.var 0) (.int 1)) (.bi .len (.cons (.var 3) .nil)))) (.cons (.setix (.var 0) (.int 2) (.bin .fdv (.var 4) (.var 1))) (.cons (.ret (.bin .mod (.var 4) (.var 1))) .nil)) .nil) (.cons (.setix (.var 0) (.int 3) (.bin .mod (.bin .add (.bin .add (.bin .mul (.ix (.var 0) (.int 3)) (.int 48271)) (.bin .mod (.var 4) (.int 2147483629))) (.bin .mul (.int 7) (.ix (.var 0) (.int 1)))) (.int 2147483647))) (.cons (.ret (.bin .mod (.bin .fdv (.bin .mod (.bin .mul (.ix (.var 0) (.int 3)) (.int 69621)) (.int 2147483629)) (.int 64)) (.var 1))) .nil)))))))
theorem ixl (h : Hh) (n : Nat) (xs : List D) (i : Nat) (v : D) (e : h[n]? = some (.lst xs false)) (hv : xs[i]? = some v) : ixD (.ref n) (.int (i : Int)) h = some (v, h) := by
  have hi := (List.getElem?_eq_some_iff.mp hv).1
  rw [ix_lst e, ix_nn (by omega) (by omega)]
  simp [hv]
theorem stl (h : Hh) (n : Nat) (xs : List D) (i : Nat) (v : D) (e : h[n]? = some (.lst xs false)) (hi : i < xs.length) : setIx (.ref n) (.int (i : Int)) v h = some (h.set n (.lst (xs.set i v) false)) := by
  rw [set_lst e, ix_nn (by omega) (by omega)]
  simp
theorem next_ok (T : Tb) (C : Cl) (m : Int) (h : Hh) (sa ca B : Nat) (x : Sta h sa ca B) (hB : B ≤ 1000000) (m1 : 0 < m) (m2 : m < 1073741824) :
    ∃ r h', (exSs T C NextB [some (.ref sa), some (.int m), none, none, none] h).fin = .ok (.int r) h' ∧ 0 ≤ r ∧ r < m ∧ Sta h' sa ca (B + 1) ∧ Kp sa h h' ∧ h'.length = h.length := by
  obtain ⟨cells, cnt, rest, mix, X⟩ := x
  have hl := (List.getElem?_eq_some_iff.mp X.s).1
  have i0 : ixD (.ref sa) (.int 0) h = some (.ref ca, h) := ixl h sa _ 0 _ X.s rfl
  have i1 : ixD (.ref sa) (.int 1) h = some (.int cnt, h) := ixl h sa _ 1 _ X.s rfl
  have i2 : ixD (.ref sa) (.int 2) h = some (.int rest, h) := ixl h sa _ 2 _ X.s rfl
  have kset : ∀ o, Kp sa h (h.set sa o) := fun o => ⟨by simp, fun n q o e => by rw [List.getElem?_set_ne (fun z => q z.symm)]; exact e⟩
  have gset : ∀ o, (h.set sa o)[sa]? = some o := fun o => by rw [List.getElem?_set_self hl]
  have cset : ∀ o, (h.set sa o)[ca]? = some (.lst (cells.map .int) false) := fun o => by rw [List.getElem?_set_ne (fun z => X.ne z.symm)]; exact X.c
  by_cases hr : 0 < rest
  · obtain ⟨y, q1, l1, u1⟩ := pmod rest m h m1
    have q2 : binD .fdv (.int rest) (.int m) h = _ := pfdv ⟨m1, m2⟩
    have s2 : setIx (.ref sa) (.int 2) (.int (rest / m)) h = some (h.set sa (.lst [.ref ca, .int cnt, .int (rest / m), .int mix] false)) := stl h sa _ 2 _ X.s (by simp)
    have hr' : decide (0 < rest) = true := by simpa using hr
    refine ⟨y, h.set sa (.lst [.ref ca, .int cnt, .int (rest / m), .int mix] false), ?_, l1, u1, ⟨cells, cnt, rest / m, mix, cset _, gset _, X.ne, X.p, X.l, Int.ediv_nonneg X.r (by omega), X.m0, X.m1, by have := X.b; omega⟩, kset _, by simp⟩
    simp (implicitDefEqProofs := false) only [NextB, ss_cons, s_iff, t_cmp, v_cmp, v_ix, v_var, var0, varS, bind_ok', v_int, i2, of_some, gt_int, truR_b, hr', thn_ok, iteS_t, s_asg, v_bin, q1, tg_nm, List.set_cons_succ, List.set_cons_zero, putS_s, thn_nx, s_setix, q2, s2, setS_s, s_ret, thn_rt, fin_rt, ss_nil]
  · have hr' : decide (0 < rest) = false := by simpa using hr
    have hp : (0 : Int) < (cells.length : Int) := by have := X.p; omega
    have hp' : cnt % cells.length < cells.length := Nat.mod_lt _ X.p
    generalize hpl : cnt % cells.length = pl at hp'
    have hpz : binD .mod (.int (cnt : Int)) (.int (cells.length : Int)) h = some (.int (pl : Int), h) := by rw [mod_int, if_pos hp, ← hpl]; simp
    have i3 : ixD (.ref ca) (.int (pl : Int)) h = some (.int cells[pl], h) := ixl h ca _ pl _ X.c (by simp [hp'])
    have s1 : setIx (.ref sa) (.int 1) (.int ((cnt : Int) + 1)) h = some (h.set sa (.lst [.ref ca, .int ((cnt : Int) + 1), .int rest, .int mix] false)) := stl h sa _ 1 _ X.s (by simp)
    generalize hh1 : h.set sa (.lst [.ref ca, .int ((cnt : Int) + 1), .int rest, .int mix] false) = h1 at *
    have e1 : h1[sa]? = some (.lst [.ref ca, .int ((cnt : Int) + 1), .int rest, .int mix] false) := by rw [← hh1]; exact gset _
    have ec : h1[ca]? = some (.lst (cells.map .int) false) := by rw [← hh1]; exact cset _
    have k1 : Kp sa h h1 := by rw [← hh1]; exact kset _
    have hl1 : sa < h1.length := (List.getElem?_eq_some_iff.mp e1).1
    have l1 : h1.length = h.length := by rw [← hh1]; simp
    have j1 : ixD (.ref sa) (.int 1) h1 = some (.int ((cnt : Int) + 1), h1) := ixl h1 sa _ 1 _ e1 rfl
    have j3 : ixD (.ref sa) (.int 3) h1 = some (.int mix, h1) := ixl h1 sa _ 3 _ e1 rfl
    have kset1 : ∀ o, Kp sa h (h1.set sa o) := fun o => k1.trans ⟨by simp, fun n q o e => by rw [List.getElem?_set_ne (fun z => q z.symm)]; exact e⟩
    have gset1 : ∀ o, (h1.set sa o)[sa]? = some o := fun o => by rw [List.getElem?_set_self hl1]
    have cset1 : ∀ o, (h1.set sa o)[ca]? = some (.lst (cells.map .int) false) := fun o => by rw [List.getElem?_set_ne (fun z => X.ne z.symm)]; exact ec
    have pw : binD .pow (.int 10) (.int 18) h1 = some (.int (10 ^ 18), h1) := by rw [pow_int, if_pos (by decide)]; rfl
    have ln : biD .len [.ref ca] h = some (.int cells.length, h) := by rw [len_lst X.c]; simp
    have ln1 : biD .len [.ref ca] h1 = some (.int cells.length, h1) := by rw [len_lst ec]; simp
    have hb := X.b
    have c1 : ((cnt + 1 : Nat) : Int) = (cnt : Int) + 1 := by omega
    by_cases hc : (10 : Int) ^ 18 ≤ cells[pl] ∧ (cnt : Int) + 1 ≤ (cells.length : Int)
    · obtain ⟨y, q1, l2, u2⟩ := pmod cells[pl] m (h1.set sa (.lst [.ref ca, .int ((cnt : Int) + 1), .int (cells[pl] / m), .int mix] false)) m1
      have q2 : binD .fdv (.int cells[pl]) (.int m) h1 = _ := pfdv ⟨m1, m2⟩
      have s2 : setIx (.ref sa) (.int 2) (.int (cells[pl] / m)) h1 = some (h1.set sa (.lst [.ref ca, .int ((cnt : Int) + 1), .int (cells[pl] / m), .int mix] false)) := stl h1 sa _ 2 _ e1 (by simp)
      have d1 : decide ((10 : Int) ^ 18 ≤ cells[pl]) = true := decide_eq_true hc.1
      have d2 : decide ((cnt : Int) + 1 ≤ (cells.length : Int)) = true := decide_eq_true hc.2
      refine ⟨y, _, ?_, l2, u2, ⟨cells, cnt + 1, cells[pl] / m, mix, cset1 _, by rw [c1]; exact gset1 _, X.ne, X.p, X.l, Int.ediv_nonneg (by omega) (by omega), X.m0, X.m1, by omega⟩, kset1 _, by simp [l1]⟩
      simp (implicitDefEqProofs := false) only [NextB, ss_cons, s_iff, t_cmp, v_cmp, v_ix, v_var, var0, varS, bind_ok', v_int, i2, of_some, gt_int, truR_b, hr', thn_ok, iteS_f, ss_nil, thn_nx, s_asg, i0, tg_nm, List.set_cons_succ, List.set_cons_zero, putS_s, v_bin, i1, v_bi, es_cons, es_nil, ln, hpz, i3, s_setix, add_int, s1, setS_s,
        t_and, pw, ge_int, d1, iteR_t, j1, ln1, le_int, d2, iteS_t, q2, s2, s_ret, q1, thn_rt, fin_rt]
    · obtain ⟨y1, q1, l2, u2⟩ := pmod cells[pl] 2147483629 h1 (by decide)
      obtain ⟨y2, q2, l3, u3⟩ := pmod (mix * 48271 + y1 + 7 * ((cnt : Int) + 1)) 2147483647 h1 (by decide)
      have s3 : setIx (.ref sa) (.int 3) (.int y2) h1 = some (h1.set sa (.lst [.ref ca, .int ((cnt : Int) + 1), .int rest, .int y2] false)) := stl h1 sa _ 3 _ e1 (by simp)
      generalize hh2 : h1.set sa (.lst [.ref ca, .int ((cnt : Int) + 1), .int rest, .int y2] false) = h2 at *
      have e2 : h2[sa]? = some (.lst [.ref ca, .int ((cnt : Int) + 1), .int rest, .int y2] false) := by rw [← hh2]; exact gset1 _
      have j4 : ixD (.ref sa) (.int 3) h2 = some (.int y2, h2) := ixl h2 sa _ 3 _ e2 rfl
      have b1 : binD .mul (.int mix) (.int 48271) h1 = _ := pmul (.inr (by decide))
      have b2 : binD .mul (.int 7) (.int ((cnt : Int) + 1)) h1 = _ := pmul (.inl (by decide))
      have b3 : binD .mul (.int y2) (.int 69621) h2 = _ := pmul (.inr (by decide))
      obtain ⟨y3, q3, _, _⟩ := pmod (y2 * 69621) 2147483629 h2 (by decide)
      have b4 : binD .fdv (.int y3) (.int 64) h2 = _ := pfdv (by decide)
      obtain ⟨y4, q4, l4, u4⟩ := pmod (y3 / 64) m h2 m1
      refine ⟨y4, h2, ?_, l4, u4, ⟨cells, cnt + 1, rest, y2, by rw [← hh2]; exact cset1 _, by rw [c1]; exact e2, X.ne, X.p, X.l, X.r, l3, u3, by omega⟩, by rw [← hh2]; exact kset1 _, by rw [← hh2]; simp [l1]⟩
      by_cases d1 : (10 : Int) ^ 18 ≤ cells[pl]
      · have d1' : decide ((10 : Int) ^ 18 ≤ cells[pl]) = true := decide_eq_true d1
        have d2 : decide ((cnt : Int) + 1 ≤ (cells.length : Int)) = false := decide_eq_false fun z => hc ⟨d1, z⟩
        simp (implicitDefEqProofs := false) only [NextB, ss_cons, s_iff, t_cmp, v_cmp, v_ix, v_var, var0, varS, bind_ok', v_int, i2, of_some, gt_int, truR_b, hr', thn_ok, iteS_f, ss_nil, thn_nx, s_asg, i0, tg_nm, List.set_cons_succ, List.set_cons_zero, putS_s, v_bin, i1, v_bi, es_cons, es_nil, ln, hpz, i3, s_setix, add_int, s1, setS_s,
          t_and, pw, ge_int, d1', iteR_t, j1, ln1, le_int, d2, j3, b1, q1, b2, q2, s3, s_ret, j4, b3, q3, b4, q4, thn_rt, fin_rt]
      · have d1' : decide ((10 : Int) ^ 18 ≤ cells[pl]) = false := decide_eq_false d1
        simp (implicitDefEqProofs := false) only [NextB, ss_cons, s_iff, t_cmp, v_cmp, v_ix, v_var, var0, varS, bind_ok', v_int, i2, of_some, gt_int, truR_b, hr', thn_ok, iteS_f, ss_nil, thn_nx, s_asg, i0, tg_nm, List.set_cons_succ, List.set_cons_zero, putS_s, v_bin, i1, v_bi, es_cons, es_nil, ln, hpz, i3, s_setix, add_int, s1, setS_s,
          t_and, pw, ge_int, d1', iteR_f, j1, ln1, le_int, j3, b1, q1, b2, q2, s3, s_ret, j4, b3, q3, b4, q4, thn_rt, fin_rt]
end Py
/-! the state at the start; histories -/
namespace Py
def StateB : Ss := (.cons (.asg (.nm 1) (.bi .list (.cons (.sl (.var 0) .none (.some (.int 63))) .nil))) (.cons (.iff (.cmp .eq (.bi .len (.cons (.var 1) .nil)) (.int 0)) (.cons (.asg (.nm 1) (.lst (.cons (.int 0) .nil))) .nil) .nil) (.cons (.ret (.lst (.cons (.var 1) (.cons (.int 0) (.cons (.int 0) (.cons (.int 91) .nil)))))) .nil)))
theorem state_ok (T : Tb) (C : Cl) (ns : List Int) (hl : ns.length ≤ 63) : ∃ sa ca h', (exSs T C StateB [some (.ref 0), none] [.lst (ns.map .int) true]).fin = .ok (.ref sa) h' ∧ Sta h' sa ca 0 ∧ 2 ≤ ca ∧ 2 ≤ sa := by
  have hc : cut (ns.map D.int) none (some (63 : Int)) = (ns.take 63).map .int := by
    have := cut_to (xs := ns.map D.int) (k := 63)
    simpa using this
  cases ns with
  | nil =>
    refine ⟨4, 3, [.lst [] true, .lst [] false, .lst [] false, .lst [.int 0] false, .lst [.ref 3, .int 0, .int 0, .int 91] false], ?_, ⟨[0], 0, 0, 91, rfl, rfl, by decide, by decide, by decide, by decide, by decide, by decide, by decide⟩, by decide, by decide⟩
    simp only [List.map_nil, List.take_nil] at hc
    simp (implicitDefEqProofs := false) [StateB, slD, seqOf, biD, hc, SZ]
  | cons n ns =>
    have hne : (n :: ns).take 63 ≠ [] := by simp
    refine ⟨3, 2, [.lst ((n :: ns).map .int) true, .lst (((n :: ns).take 63).map .int) false, .lst (((n :: ns).take 63).map .int) false, .lst [.ref 2, .int 0, .int 0, .int 91] false], ?_, ⟨(n :: ns).take 63, 0, 0, 91, rfl, rfl, by decide, by simp, by simp; omega, by decide, by decide, by decide, by decide⟩, by decide, by decide⟩
    generalize hx : n :: ns = xs at *
    have hlen : ¬ (((xs.take 63).map D.int).length : Int) = 0 := by
      have := List.length_pos_iff.mpr hne
      rw [List.length_map]; omega
    have hlen' : ¬ ((xs.take 63).length : Int) = 0 := by simpa using hlen
    simp (implicitDefEqProofs := false) only [StateB, ss_cons, s_asg, v_bi, es_cons, es_nil, v_sl, v_var, var0, varS, bind_ok', eo_none, eo_some, v_int, intR_i, slD, List.getElem?_cons_zero, hc, newO_d, of_some, bi_list]
    have hxe : xs ≠ [] := by rw [← hx]; simp
    simp (implicitDefEqProofs := false) [seqOf, biD, SZ, hlen, hlen', hxe]
/-- a next number -/
def NextC (C : Cl) (nx : Nat) : Prop := ∀ (m : Int) (h : Hh) (sa ca B : Nat), Sta h sa ca B → B ≤ 1000000 → 0 < m → m < 1073741824 →
  ∃ r h', C nx [.ref sa, .int m] h = .ok (.int r) h' ∧ 0 ≤ r ∧ r < m ∧ Sta h' sa ca (B + 1) ∧ Kp sa h h' ∧ h'.length = h.length
abbrev Pr := Int × Int
def pD (p : Pr) : D := .tup [.int p.1, .int p.2]
def hD (xs : List Pr) : D := .tup (xs.map pD)
/-- a history -/
structure Hist (xs : List Pr) : Prop where
  ne : 0 < xs.length
  le : xs.length ≤ 60
  hd : ∃ l, xs[0]? = some (l, 0)
  up : ∀ (i : Nat) (p q : Pr), xs[i]? = some p → xs[i + 1]? = some q → p.1 < q.1 ∧ p.2 ≤ q.2
  bd : ∀ (i : Nat) (p : Pr), xs[i]? = some p → 0 ≤ p.1 ∧ p.1 ≤ 98 + 1000000 * (i : Int) ∧ 0 ≤ p.2 ∧ p.2 ≤ 1000000
theorem Hist.one {l : Int} (h0 : 0 ≤ l) (h1 : l ≤ 98) : Hist [(l, 0)] where
  ne := by simp
  le := by simp
  hd := ⟨l, rfl⟩
  up := fun i p q h1 h2 => by simp at h2
  bd := fun i p e => by
    cases i with
    | zero => cases e; simp; omega
    | succ i => simp at e
theorem Hist.add {xs : List Pr} {p q : Pr} (H : Hist xs) (hl : xs.length < 60) (e : xs[xs.length - 1]? = some p) (h1 : p.1 < q.1) (h2 : q.1 ≤ p.1 + 1000000) (h3 : p.2 ≤ q.2) (h4 : q.2 ≤ 1000000) : Hist (xs ++ [q]) where
  ne := by simp
  le := by simp; omega
  hd := by
    obtain ⟨l, q⟩ := H.hd
    exact ⟨l, by rw [List.getElem?_append_left H.ne]; exact q⟩
  up := fun i a b ea eb => by
    have hi : i + 1 < (xs ++ [q]).length := (List.getElem?_eq_some_iff.mp eb).1
    simp only [List.length_append, List.length_cons, List.length_nil] at hi
    rw [List.getElem?_append_left (by omega)] at ea
    by_cases hl : i + 1 < xs.length
    · rw [List.getElem?_append_left hl] at eb
      exact H.up i a b ea eb
    · have : i = xs.length - 1 := by omega
      subst this
      rw [e] at ea
      cases ea
      rw [List.getElem?_append_right (by omega)] at eb
      have z : xs.length - 1 + 1 - xs.length = 0 := by omega
      rw [z] at eb
      cases eb
      exact ⟨h1, h3⟩
  bd := fun i a ea => by
    have hi : i < (xs ++ [q]).length := (List.getElem?_eq_some_iff.mp ea).1
    simp only [List.length_append, List.length_cons, List.length_nil] at hi
    by_cases hl : i < xs.length
    · rw [List.getElem?_append_left hl] at ea
      exact H.bd i a ea
    · have hz : i = xs.length := by omega
      subst hz
      simp at ea
      subst ea
      have := H.bd _ p e
      have := H.ne
      omega
theorem Hist.take {xs : List Pr} {k : Nat} (H : Hist xs) (h0 : 0 < k) : Hist (xs.take k) where
  ne := by have := H.ne; rw [List.length_take]; omega
  le := by have := H.le; rw [List.length_take]; omega
  hd := by
    obtain ⟨l, q⟩ := H.hd
    exact ⟨l, by rw [List.getElem?_take, if_pos h0]; exact q⟩
  up := fun i a b ea eb => by
    rw [List.getElem?_take] at ea eb
    split at ea
    · split at eb
      · exact H.up i a b ea eb
      · cases eb
    · cases ea
  bd := fun i a ea => by
    rw [List.getElem?_take] at ea
    split at ea
    · exact H.bd i a ea
    · cases ea
theorem ixm1 (h : Hh) (n : Nat) (xs : List D) (v : D) (e : h[n]? = some (.lst xs false)) (hv : xs[xs.length - 1]? = some v) : ixD (.ref n) (.int (-1)) h = some (v, h) := by
  have hi := (List.getElem?_eq_some_iff.mp hv).1
  have q : ix xs.length (-1) = some (xs.length - 1) := by
    unfold ix
    rw [if_neg (by omega), if_pos (by omega)]
    congr 1
    omega
  rw [ix_lst e, q]
  simp [hv]
theorem ixt (h : Hh) (xs : List D) (i : Nat) (v : D) (hv : xs[i]? = some v) : ixD (.tup xs) (.int (i : Int)) h = some (v, h) := by
  have hi := (List.getElem?_eq_some_iff.mp hv).1
  rw [ix_tup, ix_nn (by omega) (by omega)]
  simp [hv]
theorem ixtm1 (h : Hh) (xs : List D) (v : D) (hv : xs[xs.length - 1]? = some v) : ixD (.tup xs) (.int (-1)) h = some (v, h) := by
  have hi := (List.getElem?_eq_some_iff.mp hv).1
  have q : ix xs.length (-1) = some (xs.length - 1) := by
    unfold ix
    rw [if_neg (by omega), if_pos (by omega)]
    congr 1
    omega
  rw [ix_tup, q]
  simp [hv]
theorem pow6 (h : Hh) : binD .pow (.int 10) (.int 6) h = some (.int 1000000, h) := by rw [pow_int, if_pos (by decide)]; rfl
theorem int_nat {r : Int} (h : 0 ≤ r) : ∃ n : Nat, r = (n : Int) := ⟨r.toNat, by omega⟩
/-- [a, b, c][next]: a list is laid, an item told -/
theorem pick3 {T : Tb} {C : Cl} {nx : Nat} (N : NextC C nx) {σ : Sg} {h : Hh} {sa ca B : Nat} {a b c : Int} (x : Sta h sa ca B) (hB : B ≤ 1000000) (hσ : ∀ h, varR σ 0 h = .ok (.ref sa) h) {e : E} (he : ∀ h, (den T C e).v σ h = .ok (.int c) h) :
    ∃ v h', (den T C (.ix (.lst (.cons (.int a) (.cons (.int b) (.cons e .nil)))) (.call nx (.cons (.var 0) (.cons (.int 3) .nil))))).v σ h = .ok (.int v) h' ∧ (v = a ∨ v = b ∨ v = c) ∧ Sta h' sa ca (B + 1) ∧ Kp sa h h' := by
  obtain ⟨r, h1, q1, l1, u1, S1, K1, e1⟩ := N 3 (h ++ [.lst [.int a, .int b, .int c] false]) sa ca B (x.app _) hB (by decide) (by decide)
  have hs := x.lt.1
  have g : h1[h.length]? = some (.lst [.int a, .int b, .int c] false) := K1.2 h.length (by omega) _ (by simp)
  obtain ⟨n, rfl⟩ := int_nat l1
  have hn : n = 0 ∨ n = 1 ∨ n = 2 := by omega
  have z : ∃ v, ([D.int a, D.int b, D.int c] : List D)[n]? = some (.int v) ∧ (v = a ∨ v = b ∨ v = c) := by
    rcases hn with rfl | rfl | rfl
    · exact ⟨a, rfl, .inl rfl⟩
    · exact ⟨b, rfl, .inr (.inl rfl)⟩
    · exact ⟨c, rfl, .inr (.inr rfl)⟩
  obtain ⟨v, gv, hv⟩ := z
  refine ⟨v, h1, ?_, hv, S1, (Kp.ext h _).trans K1⟩
  have three : (0 + 1 + 1 + 1 ≤ SZ) := by decide
  simp (implicitDefEqProofs := false) only [v_ix, v_lst, es_cons, es_nil, v_int, he, bind_ok', List.length_cons, List.length_nil, if_pos three, newO_d, of_some, v_call, v_var, hσ, q1, ixl h1 _ _ n _ g gv]
def PkL (nx : Nat) : E := (.ix (.lst (.cons (.int 1) (.cons (.int 5) (.cons (.bin .pow (.int 10) (.int 6)) .nil)))) (.call nx (.cons (.var 0) (.cons (.int 3) .nil))))
def PkW (nx : Nat) : E := (.ix (.lst (.cons (.int 3) (.cons (.int 9) (.cons (.int 16000) .nil)))) (.call nx (.cons (.var 0) (.cons (.int 3) .nil))))
def HistL (nx : Nat) : Ss := (.cons (.asg (.nm 3) (.bin .add (.bin .add (.var 3) (.int 1)) (.call nx (.cons (.var 0) (.cons (PkL nx) .nil))))) (.cons (.ex (.bm .append (.var 4) (.cons (.tup (.cons (.var 3) (.cons (.bi .min (.cons (.bin .pow (.int 10) (.int 6)) (.cons (.bin .add (.ix (.ix (.var 4) (.neg (.int 1))) (.int 1)) (.call nx (.cons (.var 0) (.cons (.var 2) .nil)))) .nil))) .nil))) .nil))) .nil))
def HistB (nx : Nat) : Ss := (.cons (.asg (.nm 1) (.bin .add (.int 1) (.call nx (.cons (.var 0) (.cons (.int 6) .nil))))) (.cons (.iff (.cmp .eq (.call nx (.cons (.var 0) (.cons (.int 10) .nil))) (.int 0)) (.cons (.asg (.nm 1) (.bin .sub (.int 60) (.bin .mul (.call nx (.cons (.var 0) (.cons (.int 2) .nil))) (.call nx (.cons (.var 0) (.cons (.int 50) .nil)))))) .nil) .nil) (.cons (.asg (.nm 2) (PkW nx)) (.cons (.asg (.nm 3) (.bin .mul (.call nx (.cons (.var 0) (.cons (.int 3) .nil))) (.call nx (.cons (.var 0) (.cons (.int 50) .nil))))) (.cons (.asg (.nm 4) (.lst (.cons (.tup (.cons (.var 3) (.cons (.int 0) .nil))) .nil))) (.cons (.forr (.nm 5) (.rng1 (.bin .sub (.var 1) (.int 1))) (HistL nx)) (.cons (.ret (.bi .tuple (.cons (.var 4) .nil))) .nil)))))))
/-- one round of the loop -/
theorem hist_turn (T : Tb) {C : Cl} {nx : Nat} (N : NextC C nx) {h : Hh} {sa ca B A : Nat} {many w l : Int} {xs : List Pr} {u : D} (x : Sta h sa ca B) (hB : B ≤ 900000) (hA : A ≠ sa) (hA2 : A ≠ ca) (g : h[A]? = some (.lst (xs.map pD) false)) (H : Hist xs) (hl : xs.length < 60)
    (hw : w = 3 ∨ w = 9 ∨ w = 16000) {p : Pr} (hp : xs[xs.length - 1]? = some p) (hpl : p.1 = l) :
    ∃ l' q h', exSs T C (HistL nx) [some (.ref sa), some (.int many), some (.int w), some (.int l), some (.ref A), some u] h = .nx [some (.ref sa), some (.int many), some (.int w), some (.int l'), some (.ref A), some u] h' ∧ q.1 = l' ∧ Hist (xs ++ [q]) ∧ h'[A]? = some (.lst ((xs ++ [q]).map pD) false) ∧ Sta h' sa ca (B + 3) ∧
      (∀ n, n ≠ sa → n ≠ A → ∀ o, h[n]? = some o → h'[n]? = some o) ∧ h.length ≤ h'.length := by
  obtain ⟨v, h1, q1, hv, S1, K1⟩ := pick3 (T := T) N (σ := [some (.ref sa), some (.int many), some (.int w), some (.int l), some (.ref A), some u]) (a := 1) (b := 5) (c := 1000000) x (by omega) (fun _ => rfl) (e := .bin .pow (.int 10) (.int 6)) (fun h => by simp only [v_bin, v_int, bind_ok', pow6, of_some])
  have q1 : (den T C (PkL nx)).v _ h = _ := q1
  obtain ⟨r, h2, q2, l2, u2, S2, K2, _⟩ := N v h1 sa ca _ S1 (by omega) (by omega) (by omega)
  have g2 : h2[A]? = some (.lst (xs.map pD) false) := K2.2 A hA _ (K1.2 A hA _ g)
  obtain ⟨r3, h3, q3, l3, u3, S3, K3, _⟩ := N w h2 sa ca _ S2 (by omega) (by omega) (by omega)
  have g3 : h3[A]? = some (.lst (xs.map pD) false) := K3.2 A hA _ g2
  have hA3 : A < h3.length := (List.getElem?_eq_some_iff.mp g3).1
  have lm : (xs.map pD)[(xs.map pD).length - 1]? = some (pD p) := by simp [hp]
  have bp := H.bd _ p hp
  have im := ixm1 h2 A _ _ g2 lm
  have it : ixD (pD p) (.int 1) h2 = some (.int p.2, h2) := ixt h2 _ 1 _ rfl
  have fl : (xs.map pD).length < SZ := by simp [SZ]; omega
  refine ⟨l + 1 + r, (l + 1 + r, if p.2 + r3 < 1000000 then p.2 + r3 else 1000000), h3.set A (.lst ((xs ++ [(l + 1 + r, if p.2 + r3 < 1000000 then p.2 + r3 else 1000000)]).map pD) false), ?_, rfl, H.add hl hp (by simp; omega) (by simp; omega) (by simp; split <;> omega) (by simp; split <;> omega), ?_, (S3.set hA hA2).mono (by omega), fun n n1 n2 o e => ?_, ?_⟩
  · have two : (0 + 1 + 1 ≤ SZ) := by decide
    simp (implicitDefEqProofs := false) only [HistL, ss_cons, s_asg, v_bin, v_var, var0, varS, bind_ok', v_int, add_int, of_some, v_call, es_cons, es_nil, q1, q2, thn_ok, tg_nm, List.set_cons_succ, List.set_cons_zero, putS_s, thn_nx, s_ex, v_bm, recv_l g2 (show bmK .append = 1 from rfl), v_tup, v_bi, pow6, v_ix, v_neg, neg_int, im, it, q3, bi_min, List.length_cons, List.length_nil, if_pos two, app_lst g3, if_pos fl, ss_nil]
    simp [pD]
  · rw [List.getElem?_set_self hA3]
  · rw [List.getElem?_set_ne (fun z => n2 z.symm)]
    exact K3.2 n n1 _ (K2.2 n n1 _ (K1.2 n n1 _ e))
  · have := (K1.trans (K2.trans K3)).1
    simpa using this
theorem hist_ok (T : Tb) {C : Cl} {nx : Nat} (N : NextC C nx) {h : Hh} {sa ca B : Nat} (x : Sta h sa ca B) (hB : B ≤ 800000) :
    ∃ xs h', (exSs T C (HistB nx) [some (.ref sa), none, none, none, none, none] h).fin = .ok (hD xs) h' ∧ Hist xs ∧ Sta h' sa ca (B + 200) ∧ Kp sa h h' := by
  obtain ⟨r1, h1, q1, l1, u1, S1, K1, _⟩ := N 6 h sa ca _ x (by omega) (by decide) (by decide)
  obtain ⟨r2, h2, q2, l2, u2, S2, K2, _⟩ := N 10 h1 sa ca _ S1 (by omega) (by decide) (by decide)
  have key : ∃ (many : Int) (h3 : Hh), exS T C (.iff (.cmp .eq (.call nx (.cons (.var 0) (.cons (.int 10) .nil))) (.int 0)) (.cons (.asg (.nm 1) (.bin .sub (.int 60) (.bin .mul (.call nx (.cons (.var 0) (.cons (.int 2) .nil))) (.call nx (.cons (.var 0) (.cons (.int 50) .nil)))))) .nil) .nil) [some (.ref sa), some (.int (1 + r1)), none, none, none, none] h1
      = .nx [some (.ref sa), some (.int many), none, none, none, none] h3 ∧ 1 ≤ many ∧ many ≤ 60 ∧ Sta h3 sa ca (B + 4) ∧ Kp sa h h3 := by
    by_cases hz : r2 = 0
    · obtain ⟨r3, h3, q3, l3, u3, S3, K3, _⟩ := N 2 h2 sa ca _ S2 (by omega) (by decide) (by decide)
      obtain ⟨r4, h4, q4, l4, u4, S4, K4, _⟩ := N 50 h3 sa ca _ S3 (by omega) (by decide) (by decide)
      have b : binD .mul (.int r3) (.int r4) h4 = _ := pmul (.inr (by omega))
      have hz' : decide (r2 = 0) = true := decide_eq_true hz
      have m0 : 0 ≤ r3 * r4 ∧ r3 * r4 ≤ 49 := by
        have : r3 = 0 ∨ r3 = 1 := by omega
        rcases this with rfl | rfl <;> omega
      refine ⟨60 - r3 * r4, h4, ?_, by omega, by omega, S4, K1.trans (K2.trans (K3.trans K4))⟩
      simp (implicitDefEqProofs := false) only [s_iff, t_cmp, v_cmp, v_call, es_cons, es_nil, v_var, var0, v_int, bind_ok', q2, eq_d, eq_int, ob_sm, of_some, hz', truR_b, thn_ok, iteS_t, ss_cons, s_asg, v_bin, q3, q4, b, sub_int, tg_nm, List.set_cons_succ, List.set_cons_zero, putS_s, thn_nx, ss_nil]
    · have hz' : decide (r2 = 0) = false := decide_eq_false hz
      refine ⟨1 + r1, h2, ?_, by omega, by omega, S2.mono (by omega), K1.trans K2⟩
      simp (implicitDefEqProofs := false) only [s_iff, t_cmp, v_cmp, v_call, es_cons, es_nil, v_var, var0, v_int, bind_ok', q2, eq_d, eq_int, ob_sm, of_some, hz', truR_b, thn_ok, iteS_f, ss_nil]
  obtain ⟨many, h3, q3, m1, m2, S3, K3⟩ := key
  obtain ⟨w, h4, q4, hw, S4, K4⟩ := pick3 (T := T) N (σ := [some (.ref sa), some (.int many), none, none, none, none]) (a := 3) (b := 9) (c := 16000) S3 (by omega) (fun _ => rfl) (e := .int 16000) (fun h => by simp only [v_int])
  have q4 : (den T C (PkW nx)).v _ h3 = _ := q4
  obtain ⟨r5, h5, q5, l5, u5, S5, K5, _⟩ := N 3 h4 sa ca _ S4 (by omega) (by decide) (by decide)
  obtain ⟨r6, h6, q6, l6, u6, S6, K6, _⟩ := N 50 h5 sa ca _ S5 (by omega) (by decide) (by decide)
  have b : binD .mul (.int r5) (.int r6) h6 = _ := pmul (.inr (by omega))
  have ll : 0 ≤ r5 * r6 ∧ r5 * r6 ≤ 98 := by
    have : r5 = 0 ∨ r5 = 1 ∨ r5 = 2 := by omega
    rcases this with rfl | rfl | rfl <;> omega
  have one : (0 + 1 ≤ SZ) := by decide
  have two : (0 + 1 + 1 ≤ SZ) := by decide
  have hc : (-1000000000 : Int) ≤ 0 ∧ (0 : Int) ≤ 1000000000 ∧ -1000000000 ≤ many - 1 ∧ many - 1 ≤ 1000000000 := by omega
  simp (implicitDefEqProofs := false) only [HistB, ss_cons, s_asg, v_bin, v_int, bind_ok', v_call, es_cons, es_nil, v_var, var0, varS, q1, add_int, of_some, thn_ok, tg_nm, List.set_cons_succ, List.set_cons_zero, putS_s, thn_nx, q3, q4, q5, q6, b, v_lst, v_tup, List.length_cons, List.length_nil, if_pos two, if_pos one, newO_d, s_forr, ei_rng1, sub_int, rngW_i, if_pos hc]
  have K06 : Kp sa h h6 := K3.trans (K4.trans (K5.trans K6))
  have hs := S6.lt
  refine forL_k (Q := fun r => ∃ xs h', r.fin = R.ok (hD xs) h' ∧ Hist xs ∧ Sta h' sa ca (B + 200) ∧ Kp sa h h')
    (fun rest σ h' => ∃ (xs : List Pr) (p : Pr) (B' : Nat) (u : Option D), xs.length + rest.length ≤ 60 ∧ B' + 3 * rest.length ≤ B + 190 ∧ Hist xs ∧ xs[xs.length - 1]? = some p ∧ h'[h6.length]? = some (.lst (xs.map pD) false) ∧ Sta h' sa ca B' ∧ Kp sa h h' ∧ σ = [some (.ref sa), some (.int many), some (.int w), some (.int p.1), some (.ref h6.length), u])
    (fun _ _ _ _ => rfl) (fun x xs σ h' ⟨ys, p, B', u, e1, e2, e3, e4, e5, e6, e7, e8⟩ => ?_) ?_ fun σ' h' ⟨ys, p, B', u, e1, e2, e3, e4, e5, e6, e7, e8⟩ => ?_
  · subst e8
    simp only [List.length_cons] at e1 e2
    obtain ⟨l', q, h2', qq, e9, e10, e11, e12, e13, e14⟩ := hist_turn T N (many := many) (u := x) e6 (by omega) (by omega) (by omega) e5 e3 (by omega) hw e4 rfl
    refine ⟨_, h2', qq, ys ++ [q], q, B' + 3, _, by simp; omega, by omega, e10, by simp, e11, e12, ?_, by rw [e9]⟩
    refine ⟨Nat.le_trans e7.1 e14, fun n n1 o en => ?_⟩
    have hn : n < h.length := (List.getElem?_eq_some_iff.mp en).1
    have := K06.1
    exact e13 n n1 (by omega) o (e7.2 n n1 o en)
  · refine ⟨[(r5 * r6, 0)], (r5 * r6, 0), _, _, ?_, ?_, Hist.one ll.1 ll.2, rfl, ?_, S6.app _, K06.app _, rfl⟩
    · simp [rngI]; omega
    · simp [rngI]; omega
    · simp [pD]
  · subst e8
    refine ⟨ys, h', ?_, e3, e6.mono (by omega), e7⟩
    simp (implicitDefEqProofs := false) only [s_ret, v_bi, es_cons, es_nil, v_var, varS, var0, bind_ok', bi_tuple, seq_lst e5, ob_sm, of_some, thn_ok, thn_rt, fin_rt, hD]
end Py
/-! a related history; an end -/
namespace Py
def HistC (C : Cl) (hi : Nat) : Prop := ∀ (h : Hh) (sa ca B : Nat), Sta h sa ca B → B ≤ 800000 → ∃ xs h', C hi [.ref sa] h = .ok (hD xs) h' ∧ Hist xs ∧ Sta h' sa ca (B + 200) ∧ Kp sa h h'
theorem pick2 {T : Tb} {C : Cl} {nx : Nat} (N : NextC C nx) {σ : Sg} {h : Hh} {sa ca B : Nat} {a b : Int} (x : Sta h sa ca B) (hB : B ≤ 1000000) (hσ : ∀ h, varR σ 0 h = .ok (.ref sa) h) {ea eb : E} (ha : ∀ h, (den T C ea).v σ h = .ok (.int a) h) (hb : ∀ h, (den T C eb).v σ h = .ok (.int b) h) :
    ∃ v h', (den T C (.ix (.lst (.cons ea (.cons eb .nil))) (.call nx (.cons (.var 0) (.cons (.int 2) .nil))))).v σ h = .ok (.int v) h' ∧ (v = a ∨ v = b) ∧ Sta h' sa ca (B + 1) ∧ Kp sa h h' := by
  obtain ⟨r, h1, q1, l1, u1, S1, K1, e1⟩ := N 2 (h ++ [.lst [.int a, .int b] false]) sa ca B (x.app _) hB (by decide) (by decide)
  have hs := x.lt.1
  have g : h1[h.length]? = some (.lst [.int a, .int b] false) := K1.2 h.length (by omega) _ (by simp)
  obtain ⟨n, rfl⟩ := int_nat l1
  have hn : n = 0 ∨ n = 1 := by omega
  have z : ∃ v, ([D.int a, D.int b] : List D)[n]? = some (.int v) ∧ (v = a ∨ v = b) := by
    rcases hn with rfl | rfl
    · exact ⟨a, rfl, .inl rfl⟩
    · exact ⟨b, rfl, .inr rfl⟩
  obtain ⟨v, gv, hv⟩ := z
  refine ⟨v, h1, ?_, hv, S1, (Kp.ext h _).trans K1⟩
  have two : (0 + 1 + 1 ≤ SZ) := by decide
  simp (implicitDefEqProofs := false) only [v_ix, v_lst, es_cons, es_nil, ha, hb, bind_ok', List.length_cons, List.length_nil, if_pos two, newO_d, of_some, v_call, v_var, v_int, hσ, q1, ixl h1 _ _ n _ g gv]
def PkR (nx : Nat) : E := (.ix (.lst (.cons (.int 2) (.cons (.int 9) .nil))) (.call nx (.cons (.var 0) (.cons (.int 2) .nil))))
def RelL (nx : Nat) : Ss := (.cons (.iff (.cmp .lt (.bi .len (.cons (.var 3) .nil)) (.int 60)) (.cons (.asg (.nm 5) (.bin .add (.bin .add (.ix (.ix (.var 3) (.neg (.int 1))) (.int 0)) (.int 1)) (.call nx (.cons (.var 0) (.cons (.int 3) .nil))))) (.cons (.ex (.bm .append (.var 3) (.cons (.tup (.cons (.var 5) (.cons (.bi .min (.cons (.bin .pow (.int 10) (.int 6)) (.cons (.bin .add (.ix (.ix (.var 3) (.neg (.int 1))) (.int 1)) (.call nx (.cons (.var 0) (.cons (PkR nx) .nil)))) .nil))) .nil))) .nil))) .nil)) .nil) .nil)
def RelB (nx hi : Nat) : Ss := (.cons (.iff (.cmp .eq (.call nx (.cons (.var 0) (.cons (.int 8) .nil))) (.int 0)) (.cons (.ret (.call hi (.cons (.var 0) .nil))) .nil) .nil) (.cons (.asg (.nm 2) (.bin .add (.int 1) (.call nx (.cons (.var 0) (.cons (.bi .len (.cons (.var 1) .nil)) .nil))))) (.cons (.asg (.nm 3) (.bi .list (.cons (.sl (.var 1) .none (.some (.var 2))) .nil))) (.cons (.forr (.nm 4) (.rng1 (.call nx (.cons (.var 0) (.cons (.int 4) .nil)))) (RelL nx)) (.cons (.ret (.bi .tuple (.cons (.var 3) .nil))) .nil)))))
theorem rel_turn (T : Tb) {C : Cl} {nx : Nat} (N : NextC C nx) {h : Hh} {sa ca B A : Nat} {xs : List Pr} {u v1 v2 : D} {w : Option D} (x : Sta h sa ca B) (hB : B ≤ 900000) (hA : A ≠ sa) (hA2 : A ≠ ca) (g : h[A]? = some (.lst (xs.map pD) false)) (H : Hist xs) :
    ∃ xs' h' w', exSs T C (RelL nx) [some (.ref sa), some v1, some v2, some (.ref A), some u, w] h = .nx [some (.ref sa), some v1, some v2, some (.ref A), some u, w'] h' ∧ Hist xs' ∧ h'[A]? = some (.lst (xs'.map pD) false) ∧ Sta h' sa ca (B + 3) ∧
      (∀ n, n ≠ sa → n ≠ A → ∀ o, h[n]? = some o → h'[n]? = some o) ∧ h.length ≤ h'.length := by
  have ln : biD .len [.ref A] h = some (.int xs.length, h) := by rw [len_lst g]; simp
  by_cases hl : xs.length < 60
  · have d0 : decide ((xs.length : Int) < 60) = true := decide_eq_true (by omega)
    obtain ⟨p, hp⟩ : ∃ p, xs[xs.length - 1]? = some p := ⟨_, List.getElem?_eq_getElem (by have := H.ne; omega)⟩
    have lm : (xs.map pD)[(xs.map pD).length - 1]? = some (pD p) := by simp [hp]
    obtain ⟨r, h1, q1, l1, u1, S1, K1, _⟩ := N 3 h sa ca _ x (by omega) (by decide) (by decide)
    have g1 : h1[A]? = some (.lst (xs.map pD) false) := K1.2 A hA _ g
    obtain ⟨v, h2, q2, hv, S2, K2⟩ := pick2 (T := T) N (σ := [some (.ref sa), some v1, some v2, some (.ref A), some u, some (.int (p.1 + 1 + r))]) (a := 2) (b := 9) S1 (by omega) (fun _ => rfl) (ea := .int 2) (eb := .int 9) (fun h => by simp only [v_int]) (fun h => by simp only [v_int])
    have q2 : (den T C (PkR nx)).v _ h1 = _ := q2
    obtain ⟨r3, h3, q3, l3, u3, S3, K3, _⟩ := N v h2 sa ca _ S2 (by omega) (by omega) (by omega)
    have g3 : h3[A]? = some (.lst (xs.map pD) false) := K3.2 A hA _ (K2.2 A hA _ g1)
    have hA3 : A < h3.length := (List.getElem?_eq_some_iff.mp g3).1
    have bp := H.bd _ p hp
    have im := ixm1 h A _ _ g lm
    have im1 := ixm1 h1 A _ _ g1 lm
    have it : ixD (pD p) (.int 0) h = some (.int p.1, h) := ixt h _ 0 _ rfl
    have it1 : ixD (pD p) (.int 1) h1 = some (.int p.2, h1) := ixt h1 _ 1 _ rfl
    have fl : (xs.map pD).length < SZ := by simp [SZ]; omega
    refine ⟨xs ++ [(p.1 + 1 + r, if p.2 + r3 < 1000000 then p.2 + r3 else 1000000)], h3.set A (.lst ((xs ++ [(p.1 + 1 + r, if p.2 + r3 < 1000000 then p.2 + r3 else 1000000)]).map pD) false), some (.int (p.1 + 1 + r)), ?_, H.add hl hp (by simp; omega) (by simp; omega) (by simp; split <;> omega) (by simp; split <;> omega), ?_, (S3.set hA hA2).mono (by omega), fun n n1 n2 o e => ?_, ?_⟩
    · have two : (0 + 1 + 1 ≤ SZ) := by decide
      simp (implicitDefEqProofs := false) only [RelL, ss_cons, s_iff, t_cmp, v_cmp, v_bi, es_cons, es_nil, v_var, var0, varS, bind_ok', ln, of_some, v_int, lt_int, d0, truR_b, thn_ok, iteS_t, s_asg, v_bin, v_ix, v_neg, neg_int, im, it, add_int, v_call, q1, q2, tg_nm, List.set_cons_succ, List.set_cons_zero, putS_s, thn_nx, s_ex, v_bm, recv_l g1 (show bmK .append = 1 from rfl), v_tup, pow6, im1, it1, q3, bi_min, List.length_cons, List.length_nil, if_pos two, app_lst g3, if_pos fl, ss_nil]
      simp [pD]
    · rw [List.getElem?_set_self hA3]
    · rw [List.getElem?_set_ne (fun z => n2 z.symm)]
      exact K3.2 n n1 _ (K2.2 n n1 _ (K1.2 n n1 _ e))
    · have := (K1.trans (K2.trans K3)).1
      simpa using this
  · have d0 : decide ((xs.length : Int) < 60) = false := decide_eq_false (by omega)
    refine ⟨xs, h, w, ?_, H, g, x.mono (by omega), fun n _ _ o e => e, Nat.le_refl _⟩
    simp (implicitDefEqProofs := false) only [RelL, ss_cons, s_iff, t_cmp, v_cmp, v_bi, es_cons, es_nil, v_var, var0, varS, bind_ok', ln, of_some, v_int, lt_int, d0, truR_b, thn_ok, iteS_f, ss_nil, thn_nx]
theorem rel_ok (T : Tb) {C : Cl} {nx hi : Nat} (N : NextC C nx) (HC : HistC C hi) {h : Hh} {sa ca B : Nat} {ys : List Pr} (x : Sta h sa ca B) (hB : B ≤ 700000) (Hy : Hist ys) :
    ∃ xs h', (exSs T C (RelB nx hi) [some (.ref sa), some (hD ys), none, none, none, none] h).fin = .ok (hD xs) h' ∧ Hist xs ∧ Sta h' sa ca (B + 300) ∧ Kp sa h h' := by
  obtain ⟨r1, h1, q1, l1, u1, S1, K1, _⟩ := N 8 h sa ca _ x (by omega) (by decide) (by decide)
  by_cases hz : r1 = 0
  · have hz' : decide (r1 = 0) = true := decide_eq_true hz
    obtain ⟨xs, h2, q2, Hx, S2, K2⟩ := HC h1 sa ca _ S1 (by omega)
    refine ⟨xs, h2, ?_, Hx, S2.mono (by omega), K1.trans K2⟩
    simp (implicitDefEqProofs := false) only [RelB, ss_cons, s_iff, t_cmp, v_cmp, v_call, es_cons, es_nil, v_var, var0, varS, v_int, bind_ok', q1, eq_d, eq_int, ob_sm, of_some, hz', truR_b, thn_ok, iteS_t, s_ret, q2, thn_rt, fin_rt]
  · have hz' : decide (r1 = 0) = false := decide_eq_false hz
    have hyl := Hy.le
    have hy0 := Hy.ne
    obtain ⟨r2, h2, q2, l2, u2, S2, K2, _⟩ := N (ys.length : Int) h1 sa ca _ S1 (by omega) (by omega) (by omega)
    obtain ⟨a, ha⟩ := int_nat (r := 1 + r2) (by omega)
    have hc : cut (ys.map pD) none (some ((a : Nat) : Int)) = (ys.take a).map pD := by rw [cut_to]; simp
    obtain ⟨r3, h3, q3, l3, u3, S3, K3, _⟩ := N 4 (h2 ++ [.lst ((ys.take a).map pD) false]) sa ca _ (S2.app _) (by omega) (by decide) (by decide)
    have hc2 : (-1000000000 : Int) ≤ 0 ∧ (0 : Int) ≤ 1000000000 ∧ -1000000000 ≤ r3 ∧ r3 ≤ 1000000000 := by omega
    have hs := S2.lt
    have g3 : h3[h2.length]? = some (.lst ((ys.take a).map pD) false) := K3.2 _ (by omega) _ (by simp)
    simp (implicitDefEqProofs := false) only [RelB, hD, ss_cons, s_iff, t_cmp, v_cmp, v_call, es_cons, es_nil, v_var, var0, varS, v_int, bind_ok', q1, eq_d, eq_int, ob_sm, of_some, hz', truR_b, thn_ok, iteS_f, ss_nil, thn_nx, s_asg, v_bin, v_bi, len_tup, List.length_map, q2, add_int, ha, tg_nm, List.set_cons_succ, List.set_cons_zero, putS_s, v_sl, eo_none, eo_some, intR_i, sl_tup, hc, bi_list, seq_tup, newO_d, s_forr, ei_rng1, q3, rngW_i, if_pos hc2]
    have K03 : Kp sa h h3 := K1.trans (K2.trans ((Kp.ext h2 _).trans K3))
    have hlen2 : h.length ≤ h2.length := (K1.trans K2).1
    refine forL_k (Q := fun r => ∃ xs h', r.fin = R.ok (.tup (List.map pD xs)) h' ∧ Hist xs ∧ Sta h' sa ca (B + 300) ∧ Kp sa h h')
      (fun rest σ h' => ∃ (xs : List Pr) (B' : Nat) (u w : Option D), B' + 3 * rest.length ≤ B + 100 ∧ Hist xs ∧ h'[h2.length]? = some (.lst (xs.map pD) false) ∧ Sta h' sa ca B' ∧ Kp sa h h' ∧ σ = [some (.ref sa), some (.tup (ys.map pD)), some (.int (a : Int)), some (.ref h2.length), u, w])
      (fun _ _ _ _ => rfl) (fun x xs σ h' ⟨zs, B', u, w, e2, e3, e5, e6, e7, e8⟩ => ?_) ?_ fun σ' h' ⟨zs, B', u, w, e2, e3, e5, e6, e7, e8⟩ => ?_
    · subst e8
      simp only [List.length_cons] at e2
      obtain ⟨zs', h2', w', qq, e10, e11, e12, e13, e14⟩ := rel_turn T N (u := x) (v1 := .tup (ys.map pD)) (v2 := .int (a : Int)) (w := w) e6 (by omega) (by omega) (by omega) e5 e3
      refine ⟨_, h2', qq, zs', B' + 3, _, _, by omega, e10, e11, e12, ?_, rfl⟩
      refine ⟨Nat.le_trans e7.1 e14, fun n n1 o en => ?_⟩
      have hn : n < h.length := (List.getElem?_eq_some_iff.mp en).1
      exact e13 n n1 (by omega) o (e7.2 n n1 o en)
    · refine ⟨ys.take a, B + 3, _, _, ?_, Hy.take (by omega), g3, S3.mono (by omega), K03, rfl⟩
      simp [rngI]; omega
    · subst e8
      refine ⟨zs, h', ?_, e3, e6.mono (by omega), e7⟩
      simp (implicitDefEqProofs := false) only [s_ret, v_bi, es_cons, es_nil, v_var, varS, var0, bind_ok', bi_tuple, seq_lst e5, ob_sm, of_some, thn_ok, thn_rt, fin_rt]
def PkE (nx : Nat) : E := (.ix (.lst (.cons (.var 2) (.cons (.var 3) .nil))) (.call nx (.cons (.var 0) (.cons (.int 2) .nil))))
def EndB (nx : Nat) : Ss := (.cons (.asg (.nm 2) (.bin .sub (.bin .add (.ix (.ix (.var 1) (.call nx (.cons (.var 0) (.cons (.bi .len (.cons (.var 1) .nil)) .nil)))) (.int 1)) (.call nx (.cons (.var 0) (.cons (.int 4) .nil)))) (.int 1))) (.cons (.asg (.nm 3) (.call nx (.cons (.var 0) (.cons (.bin .add (.ix (.ix (.var 1) (.neg (.int 1))) (.int 1)) (.int 20)) .nil)))) (.cons (.ret (.bi .max (.cons (.int 0) (.cons (.bi .min (.cons (.bin .pow (.int 10) (.int 6)) (.cons (PkE nx) .nil))) .nil)))) .nil)))
theorem end_ok (T : Tb) {C : Cl} {nx : Nat} (N : NextC C nx) {h : Hh} {sa ca B : Nat} {ys : List Pr} (x : Sta h sa ca B) (hB : B ≤ 900000) (Hy : Hist ys) :
    ∃ v h', (exSs T C (EndB nx) [some (.ref sa), some (hD ys), none, none] h).fin = .ok (.int v) h' ∧ 0 ≤ v ∧ v ≤ 1000000 ∧ Sta h' sa ca (B + 4) ∧ Kp sa h h' := by
  have hyl := Hy.le
  have hy0 := Hy.ne
  obtain ⟨r1, h1, q1, l1, u1, S1, K1, _⟩ := N (ys.length : Int) h sa ca _ x (by omega) (by omega) (by omega)
  obtain ⟨n, rfl⟩ := int_nat l1
  obtain ⟨p, hp⟩ : ∃ p, ys[n]? = some p := ⟨_, List.getElem?_eq_getElem (by omega)⟩
  obtain ⟨p2, hp2⟩ : ∃ p, ys[ys.length - 1]? = some p := ⟨_, List.getElem?_eq_getElem (by omega)⟩
  have b2 := Hy.bd _ p2 hp2
  obtain ⟨r2, h2, q2, l2, u2, S2, K2, _⟩ := N 4 h1 sa ca _ S1 (by omega) (by decide) (by decide)
  obtain ⟨r3, h3, q3, l3, u3, S3, K3, _⟩ := N (p2.2 + 20) h2 sa ca _ S2 (by omega) (by omega) (by omega)
  obtain ⟨v, h4, q4, hv, S4, K4⟩ := pick2 (T := T) N (σ := [some (.ref sa), some (hD ys), some (.int (p.2 + r2 - 1)), some (.int r3)]) (a := p.2 + r2 - 1) (b := r3) S3 (by omega) (fun _ => rfl) (ea := .var 2) (eb := .var 3) (fun h => by simp only [v_var, varS, var0]) (fun h => by simp only [v_var, varS, var0])
  have q4 : (den T C (PkE nx)).v _ h3 = _ := q4
  have i1 : ixD (.tup (ys.map pD)) (.int (n : Int)) h1 = some (pD p, h1) := ixt h1 _ n _ (by simp [hp])
  have i2 : ixD (pD p) (.int 1) h1 = some (.int p.2, h1) := ixt h1 _ 1 _ rfl
  have i3 : ixD (.tup (ys.map pD)) (.int (-1)) h2 = some (pD p2, h2) := ixtm1 h2 _ _ (by simp [hp2])
  have i4 : ixD (pD p2) (.int 1) h2 = some (.int p2.2, h2) := ixt h2 _ 1 _ rfl
  refine ⟨if (if v < 1000000 then v else 1000000) > 0 then (if v < 1000000 then v else 1000000) else 0, h4, ?_, ?_, ?_, S4, K1.trans (K2.trans (K3.trans K4))⟩
  · simp (implicitDefEqProofs := false) only [EndB, hD, ss_cons, s_asg, v_bin, v_ix, v_var, var0, varS, bind_ok', v_call, es_cons, es_nil, v_bi, len_tup, List.length_map, of_some, q1, i1, v_int, i2, q2, add_int, sub_int, thn_ok, tg_nm, List.set_cons_succ, List.set_cons_zero, putS_s, thn_nx, v_neg, neg_int, i3, i4, q3, s_ret, pow6]
    simp only [hD] at q4
    simp (implicitDefEqProofs := false) only [q4, bind_ok', bi_min, bi_max, of_some, thn_ok, thn_rt, fin_rt]
  · split <;> omega
  · split <;> (try split) <;> omega
end Py
/-! the program's looks at histories and places -/
namespace Py
def UptoC (C : Cl) (up : Nat) : Prop := ∀ (i m : Int) (h : Hh), C up [.int i, .int m] h = .ok (.bl (decide (0 ≤ i) && decide (i ≤ m))) h
def UptoB : Ss := (.cons (.ret (.and (.isi (.var 0) [.int]) (.and (.not (.isi (.var 0) [.bool])) (.chn .le .le (.int 0) (.var 0) (.var 1))))) .nil)
theorem upto_ok (T : Tb) (C : Cl) (i m : Int) (h : Hh) : (exSs T C UptoB [some (.int i), some (.int m)] h).fin = .ok (.bl (decide (0 ≤ i) && decide (i ≤ m))) h := by
  simp (implicitDefEqProofs := false) only [UptoB, ss_cons, s_ret, v_and, v_isi, v_var, var0, varS, bind_ok', ty_int_int, ty_int_bool, ob_sm, of_some, andR_t, v_not, tru_bl, Bool.not_false, v_chn, v_int, le_int]
  by_cases h0 : 0 ≤ i <;> simp [h0]
theorem uptoT {C : Cl} {up : Nat} (U : UptoC C up) {i m : Int} (h : Hh) (h0 : 0 ≤ i) (h1 : i ≤ m) : C up [.int i, .int m] h = .ok (.bl true) h := by
  rw [U]; simp [h0, h1]
def PairC (C : Cl) (pr : Nat) : Prop := ∀ (p : Pr) (h : Hh), 0 ≤ p.1 → p.1 ≤ 1000000000 → 0 ≤ p.2 → p.2 ≤ 1000000 → C pr [pD p] h = .ok (.bl true) h
def PairB (up gl gp : Nat) : Ss := (.cons (.iff (.or (.not (.isi (.var 0) [.tup])) (.cmp .ne (.bi .len (.cons (.var 0) .nil)) (.int 2))) (.cons (.ret (.bl false)) .nil) .nil) (.cons (.ret (.and (.call up (.cons (.ix (.var 0) (.int 0)) (.cons (.glob gl) .nil))) (.call up (.cons (.ix (.var 0) (.int 1)) (.cons (.glob gp) .nil))))) .nil))
theorem pair_ok (T : Tb) {C : Cl} {up gl gp : Nat} (U : UptoC C up) (hl : T.glob gl = .int 1000000000) (hp : T.glob gp = .int 1000000) (p : Pr) (h : Hh) (h1 : 0 ≤ p.1) (h2 : p.1 ≤ 1000000000) (h3 : 0 ≤ p.2) (h4 : p.2 ≤ 1000000) :
    (exSs T C (PairB up gl gp) [some (pD p)] h).fin = .ok (.bl true) h := by
  have i0 : ixD (.tup [.int p.1, .int p.2]) (.int 0) h = some (.int p.1, h) := ixt h _ 0 _ rfl
  have i1 : ixD (.tup [.int p.1, .int p.2]) (.int 1) h = some (.int p.2, h) := ixt h _ 1 _ rfl
  have ln : (([D.int p.1, D.int p.2] : List D).length : Int) = 2 := rfl
  simp (implicitDefEqProofs := false) only [PairB, pD, ss_cons, s_iff, t_or, t_not, t_isi, v_isi, v_var, var0, bind_ok', ty_tup_tup, ob_sm, of_some, truR_b, Bool.not_true, iteR_f, t_cmp, v_cmp, v_bi, es_cons, es_nil, len_tup, ln, v_int, ne_d, eq_int, decide_true, thn_ok, iteS_f, ss_nil, thn_nx, s_ret, v_and, v_call, v_ix, i0, i1, v_glob, hl, hp, uptoT U h h1 h2, uptoT U h h3 h4, andR_t, thn_rt, fin_rt]
theorem zip_tail : ∀ (xs : List Pr), (∀ (i : Nat) (p q : Pr), xs[i]? = some p → xs[i + 1]? = some q → p.1 < q.1 ∧ p.2 ≤ q.2) → ∀ x ∈ zipD (xs.map pD) ((xs.drop 1).map pD), ∃ p q : Pr, x = .tup [pD p, pD q] ∧ p.1 < q.1 ∧ p.2 ≤ q.2
  | [], _, x, hx => by simp [zipD] at hx
  | [p], _, x, hx => by simp [zipD] at hx
  | p :: q :: r, H, x, hx => by
    simp only [List.drop_succ_cons, List.drop_zero, List.map_cons, zipD, List.mem_cons] at hx
    rcases hx with rfl | hx
    · exact ⟨p, q, rfl, H 0 p q rfl rfl⟩
    · exact zip_tail (q :: r) (fun i a b ha hb => H (i + 1) a b ha hb) x (by simpa using hx)
def IsHC (C : Cl) (ih : Nat) : Prop := ∀ (xs : List Pr) (h : Hh), Hist xs → C ih [hD xs] h = .ok (.bl true) h
def IsHL1 (pr : Nat) : Ss := (.cons (.iff (.not (.call pr (.cons (.var 1) .nil))) (.cons (.ret (.bl false)) .nil) .nil) .nil)
def IsHL2 : Ss := (.cons (.iff (.or (.cmp .le (.var 4) (.var 2)) (.cmp .lt (.var 5) (.var 3))) (.cons (.ret (.bl false)) .nil) .nil) .nil)
def IsHB (pr gs : Nat) : Ss := (.cons (.iff (.or (.not (.isi (.var 0) [.tup])) (.not (.chn .le .le (.int 1) (.bi .len (.cons (.var 0) .nil)) (.glob gs)))) (.cons (.ret (.bl false)) .nil) .nil) (.cons (.forr (.nm 1) (.seq (.var 0)) (IsHL1 pr)) (.cons (.forr (.tup (.cons (.tup (.cons (.nm 2) (.cons (.nm 3) .nil))) (.cons (.tup (.cons (.nm 4) (.cons (.nm 5) .nil))) .nil))) (.zip (.var 0) (.sl (.var 0) (.some (.int 1)) .none)) IsHL2) (.cons (.ret (.cmp .eq (.ix (.ix (.var 0) (.int 0)) (.int 1)) (.int 0))) .nil))))
theorem cut_from1 {α : Type} {xs : List α} : cut xs (some (1 : Int)) none = xs.drop 1 := by
  unfold cut cutIx
  cases xs with
  | nil => simp
  | cons x xs =>
    simp
theorem isH_ok (T : Tb) {C : Cl} {pr gs : Nat} (P : PairC C pr) (hs : T.glob gs = .int 60) (xs : List Pr) (h : Hh) (H : Hist xs) : (exSs T C (IsHB pr gs) [some (hD xs), none, none, none, none, none] h).fin = .ok (.bl true) h := by
  have d1 : decide ((1 : Int) ≤ ((xs.map pD).length : Int)) = true := decide_eq_true (by have := H.ne; simp; omega)
  have d2 : decide (((xs.map pD).length : Int) ≤ 60) = true := decide_eq_true (by have := H.le; simp; omega)
  simp (implicitDefEqProofs := false) only [IsHB, hD, ss_cons, s_iff, t_or, t_not, t_isi, v_isi, v_var, var0, bind_ok', ty_tup_tup, ob_sm, of_some, truR_b, Bool.not_true, iteR_f, t_chn, v_chn, v_int, v_bi, es_cons, es_nil, len_tup, v_glob, hs, le_int, d1, d2, andR_t, thn_ok, iteS_f, ss_nil, thn_nx, s_forr, ei_seq, seqW_t]
  refine forL_k (Q := fun r => r.fin = R.ok (.bl true) h) (fun rest σ h' => h' = h ∧ (∀ x ∈ rest, ∃ p : Pr, x = pD p ∧ 0 ≤ p.1 ∧ p.1 ≤ 1000000000 ∧ 0 ≤ p.2 ∧ p.2 ≤ 1000000) ∧ ∃ a, σ = [some (.tup (xs.map pD)), a, none, none, none, none])
    (fun _ _ _ _ => rfl) (fun x r σ h' ⟨e1, e2, a, e3⟩ => ?_) ⟨rfl, fun x hx => ?_, _, rfl⟩ fun σ h' ⟨e1, _, a, e3⟩ => ?_
  · subst e1 e3
    obtain ⟨p, rfl, p1, p2, p3, p4⟩ := e2 x (by simp)
    refine ⟨_, h', ?_, rfl, fun y hy => e2 y (by simp [hy]), some (pD p), rfl⟩
    simp (implicitDefEqProofs := false) only [tg_nm, List.set_cons_succ, List.set_cons_zero, putS'_s, IsHL1, ss_cons, s_iff, t_not, t_call, v_call, es_cons, es_nil, v_var, varS, var0, bind_ok', P p h' p1 p2 p3 p4, truR_b, Bool.not_true, thn_ok, iteS_f, ss_nil, thn_nx]
  · obtain ⟨p, hp, rfl⟩ := List.mem_map.mp hx
    obtain ⟨i, hi⟩ := List.getElem?_of_mem hp
    have b := H.bd i p hi
    have hl : i < xs.length := (List.getElem?_eq_some_iff.mp hi).1
    have := H.le
    exact ⟨p, rfl, b.1, by omega, b.2.2.1, b.2.2.2⟩
  · subst e1 e3
    obtain ⟨l, hl⟩ := H.hd
    have hdr : (xs.map pD).drop 1 = (xs.drop 1).map pD := by simp
    simp (implicitDefEqProofs := false) only [ss_cons, s_forr, ei_zip, v_var, var0, bind_ok', v_sl, eo_some, eo_none, v_int, intR_i, sl_tup, cut_from1, hdr, of_some, zipW, thn_ok]
    refine forL_k (Q := fun r => r.fin = R.ok (.bl true) h') (fun rest σ h2 => h2 = h' ∧ (∀ x ∈ rest, ∃ p q : Pr, x = .tup [pD p, pD q] ∧ p.1 < q.1 ∧ p.2 ≤ q.2) ∧ ∃ a b c d e, σ = [some (.tup (xs.map pD)), a, b, c, d, e])
      (fun _ _ _ _ => rfl) (fun x r σ h2 ⟨e1, e2, a, b, c, d, e, e3⟩ => ?_) ⟨rfl, zip_tail xs H.up, _, _, _, _, _, rfl⟩ fun σ h2 ⟨e1, _, a, b, c, d, e, e3⟩ => ?_
    · subst e1 e3
      obtain ⟨p, q, rfl, p1, p2⟩ := e2 x (by simp)
      have c1 : decide (q.1 ≤ p.1) = false := decide_eq_false (by omega)
      have c2 : decide (q.2 < p.2) = false := decide_eq_false (by omega)
      refine ⟨_, h2, ?_, rfl, fun y hy => e2 y (by simp [hy]), a, some (.int p.1), some (.int p.2), some (.int q.1), some (.int q.2), rfl⟩
      simp (implicitDefEqProofs := false) only [tg_tup, tgs_cons, tgs_nil, seq_tup, pD, Option.bind_some, tg_nm, List.set_cons_succ, List.set_cons_zero, putS'_s, IsHL2, ss_cons, s_iff, t_or, t_cmp, v_cmp, v_var, varS, var0, bind_ok', le_int, lt_int, c1, c2, of_some, truR_b, iteR_f, thn_ok, iteS_f, ss_nil, thn_nx]
    · subst e1 e3
      have i0 : ixD (.tup (xs.map pD)) (.int 0) h2 = some (pD (l, 0), h2) := ixt h2 _ 0 _ (by simp [hl])
      have i1 : ixD (pD (l, 0)) (.int 1) h2 = some (.int 0, h2) := ixt h2 _ 1 _ rfl
      simp (implicitDefEqProofs := false) only [ss_cons, s_ret, v_cmp, v_ix, v_var, var0, bind_ok', v_int, i0, i1, of_some, eq_d, eq_int, decide_true, ob_sm, thn_ok, thn_rt, fin_rt]
def LookHC (C : Cl) (lh : Nat) : Prop := ∀ (xs : List Pr) (h : Hh), Hist xs → C lh [hD xs] h = .ok .non h
def LookHB (ih : Nat) : Ss := (.cons (.iff (.not (.call ih (.cons (.var 0) .nil))) (.cons .never .nil) .nil) .nil)
theorem lookH_ok (T : Tb) {C : Cl} {ih : Nat} (I : IsHC C ih) (xs : List Pr) (h : Hh) (H : Hist xs) : (exSs T C (LookHB ih) [some (hD xs)] h).fin = .ok .non h := by
  simp (implicitDefEqProofs := false) only [LookHB, ss_cons, s_iff, t_not, t_call, v_call, es_cons, es_nil, v_var, var0, bind_ok', I xs h H, truR_b, Bool.not_true, thn_ok, iteS_f, ss_nil, thn_nx, fin_nx]
def LookPC (C : Cl) (lp : Nat) : Prop := ∀ (i : Int) (h : Hh), 0 ≤ i → i ≤ 1000000 → C lp [.int i] h = .ok .non h
def LookPB (up gp : Nat) : Ss := (.cons (.iff (.not (.call up (.cons (.var 0) (.cons (.glob gp) .nil)))) (.cons .never .nil) .nil) .nil)
theorem lookP_ok (T : Tb) {C : Cl} {up gp : Nat} (U : UptoC C up) (hp : T.glob gp = .int 1000000) (i : Int) (h : Hh) (h0 : 0 ≤ i) (h1 : i ≤ 1000000) : (exSs T C (LookPB up gp) [some (.int i)] h).fin = .ok .non h := by
  simp (implicitDefEqProofs := false) only [LookPB, ss_cons, s_iff, t_not, t_call, v_call, es_cons, es_nil, v_var, var0, bind_ok', v_glob, hp, uptoT U h h0 h1, truR_b, Bool.not_true, thn_ok, iteS_f, ss_nil, thn_nx, fin_nx]
def lineF (pl : Int) (a : Int) (p : Pr) : Int := if p.2 < pl then p.1 else a
def lineAt (xs : List Pr) (pl : Int) : Int := xs.foldl (lineF pl) ((xs[0]?.getD (0, 0)).1)
def LineC (C : Cl) (la : Nat) : Prop := ∀ (xs : List Pr) (pl : Int) (h : Hh), Hist xs → C la [hD xs, .int pl] h = .ok (.int (lineAt xs pl)) h
def LineL : Ss := (.cons (.iff (.cmp .lt (.var 4) (.var 1)) (.cons (.asg (.nm 2) (.var 3)) .nil) .nil) .nil)
def LineB : Ss := (.cons (.asg (.nm 2) (.ix (.ix (.var 0) (.int 0)) (.int 0))) (.cons (.forr (.tup (.cons (.nm 3) (.cons (.nm 4) .nil))) (.seq (.var 0)) LineL) (.cons (.ret (.var 2)) .nil)))
theorem line_ok (T : Tb) (C : Cl) (xs : List Pr) (pl : Int) (h : Hh) (H : Hist xs) : (exSs T C LineB [some (hD xs), some (.int pl), none, none, none] h).fin = .ok (.int (lineAt xs pl)) h := by
  obtain ⟨l, hl⟩ := H.hd
  have i0 : ixD (.tup (xs.map pD)) (.int 0) h = some (pD (l, 0), h) := ixt h _ 0 _ (by simp [hl])
  have i1 : ixD (pD (l, 0)) (.int 0) h = some (.int l, h) := ixt h _ 0 _ rfl
  have e0 : lineAt xs pl = xs.foldl (lineF pl) l := by simp [lineAt, hl]
  rw [e0]
  simp (implicitDefEqProofs := false) only [LineB, hD, ss_cons, s_asg, v_ix, v_var, var0, bind_ok', v_int, i0, i1, of_some, thn_ok, tg_nm, List.set_cons_succ, List.set_cons_zero, putS_s, thn_nx, s_forr, ei_seq, seqW_t]
  refine forL_k (Q := fun r => r.fin = R.ok (.int (xs.foldl (lineF pl) l)) h) (fun rest σ h' => ∃ (zs : List Pr) (a : Int) (b c : Option D), h' = h ∧ rest = zs.map pD ∧ zs.foldl (lineF pl) a = xs.foldl (lineF pl) l ∧ σ = [some (.tup (xs.map pD)), some (.int pl), some (.int a), b, c])
    (fun _ _ _ _ => rfl) (fun x r σ h' ⟨zs, a, b, c, e1, e2, e3, e4⟩ => ?_) ⟨xs, l, _, _, rfl, rfl, rfl, rfl⟩ fun σ h' ⟨zs, a, b, c, e1, e2, e3, e4⟩ => ?_
  · subst e1 e4
    cases zs with
    | nil => cases e2
    | cons p zs =>
      simp only [List.map_cons, List.cons.injEq] at e2
      obtain ⟨rfl, rfl⟩ := e2
      simp only [List.foldl_cons] at e3
      by_cases hc : p.2 < pl
      · have hc' : decide (p.2 < pl) = true := decide_eq_true hc
        have hf : lineF pl a p = p.1 := if_pos hc
        refine ⟨_, h', ?_, zs, p.1, some (.int p.1), some (.int p.2), rfl, rfl, by rw [← hf]; exact e3, rfl⟩
        simp (implicitDefEqProofs := false) only [tg_tup, tgs_cons, tgs_nil, seq_tup, pD, Option.bind_some, tg_nm, List.set_cons_succ, List.set_cons_zero, putS'_s, LineL, ss_cons, s_iff, t_cmp, v_cmp, v_var, varS, var0, bind_ok', lt_int, hc', of_some, truR_b, thn_ok, iteS_t, s_asg, putS_s, ss_nil, thn_nx]
      · have hc' : decide (p.2 < pl) = false := decide_eq_false hc
        have hf : lineF pl a p = a := if_neg hc
        refine ⟨_, h', ?_, zs, a, some (.int p.1), some (.int p.2), rfl, rfl, by rw [hf] at e3; exact e3, rfl⟩
        simp (implicitDefEqProofs := false) only [tg_tup, tgs_cons, tgs_nil, seq_tup, pD, Option.bind_some, tg_nm, List.set_cons_succ, List.set_cons_zero, putS'_s, LineL, ss_cons, s_iff, t_cmp, v_cmp, v_var, varS, var0, bind_ok', lt_int, hc', of_some, truR_b, thn_ok, iteS_f, ss_nil, thn_nx]
  · subst e1 e4
    have hz : zs = [] := by cases zs with | nil => rfl | cons => cases e2
    subst hz
    simp only [List.foldl_nil] at e3
    subst e3
    simp (implicitDefEqProofs := false) only [ss_cons, s_ret, v_var, varS, var0, thn_ok, thn_rt, fin_rt]
end Py
/-! where two histories part: the plain side -/
namespace Py
abbrev Sp3 := Int × Int × Int
def lastOf (rest : List Pr) (en : Int) : Int := match rest with
  | [] => en
  | p :: _ => p.2
def spansF : List Pr → Int → List Sp3
  | [], _ => []
  | p :: rest, en => (if p.2 < min (lastOf rest en) en then [(p.1, p.2, min (lastOf rest en) en)] else []) ++ spansF rest en
theorem spans_one (p : Pr) (en : Int) : spansF [p] en = if p.2 < min en en then [(p.1, p.2, min en en)] else [] := by
  show (if p.2 < min en en then [(p.1, p.2, min en en)] else []) ++ [] = _
  rw [List.append_nil]
theorem spans_two (p x : Pr) (r : List Pr) (en : Int) : spansF (p :: x :: r) en = (if p.2 < min x.2 en then [(p.1, p.2, min x.2 en)] else []) ++ spansF (x :: r) en := rfl
/-- s covers the places behind p up to en, L the line of each -/
def Cov : List Sp3 → Int → Int → (Int → Int) → Prop
  | [], p, en, _ => en ≤ p
  | x :: r, p, en, L => x.2.1 = p ∧ p < x.2.2 ∧ x.2.2 ≤ en ∧ (∀ q, p < q → q ≤ x.2.2 → L q = x.1) ∧ (∀ y ∈ r, x.1 < y.1) ∧ Cov r x.2.2 en L
theorem Cov.congr : ∀ {s : List Sp3} {p en : Int} {L L' : Int → Int}, (∀ q, p < q → L q = L' q) → Cov s p en L → Cov s p en L'
  | [], _, _, _, _, _, c => c
  | x :: r, p, en, L, L', h, ⟨c1, c2, c3, c4, c5, c6⟩ => ⟨c1, c2, c3, fun q h1 h2 => by rw [← h q h1]; exact c4 q h1 h2, c5, c6.congr fun q hq => h q (by omega)⟩
/-- rising, from p on -/
def Up : Pr → List Pr → Prop
  | _, [] => True
  | p, q :: r => p.1 < q.1 ∧ p.2 ≤ q.2 ∧ Up q r
theorem Up.mem : ∀ {p : Pr} {r : List Pr}, Up p r → ∀ q ∈ r, p.1 < q.1 ∧ p.2 ≤ q.2
  | _, [], _, q, hq => by cases hq
  | p, x :: r, ⟨h1, h2, h3⟩, q, hq => by
    rcases List.mem_cons.mp hq with rfl | hq
    · exact ⟨h1, h2⟩
    · have := Up.mem h3 q hq
      omega
theorem spans_nil : ∀ {r : List Pr} {en : Int}, (∀ q ∈ r, en ≤ q.2) → spansF r en = []
  | [], _, _ => rfl
  | p :: r, en, h => by
    have hp := h p (by simp)
    rw [spansF, if_neg (by omega), spans_nil fun q hq => h q (by simp [hq])]
    rfl
theorem spans_lines : ∀ {r : List Pr} {en : Int} {y : Sp3}, y ∈ spansF r en → ∃ q ∈ r, q.1 = y.1
  | [], _, _, h => by cases h
  | p :: r, en, y, h => by
    rw [spansF, List.mem_append] at h
    rcases h with h | h
    · split at h
      · simp only [List.mem_singleton] at h
        exact ⟨p, by simp, by rw [h]⟩
      · cases h
    · obtain ⟨q, h1, h2⟩ := spans_lines h
      exact ⟨q, by simp [h1], h2⟩
theorem fold_low {q : Int} : ∀ {r : List Pr} {d : Int}, (∀ x ∈ r, q ≤ x.2) → r.foldl (lineF q) d = d
  | [], _, _ => rfl
  | p :: r, d, h => by
    have hp := h p (by simp)
    rw [List.foldl_cons, show lineF q d p = d from if_neg (by omega)]
    exact fold_low fun x hx => h x (by simp [hx])
theorem cov_spans (en : Int) : ∀ (r : List Pr) (p : Pr) (d : Int), Up p r → Cov (spansF (p :: r) en) p.2 en (fun q => (p :: r).foldl (lineF q) d)
  | [], p, d, _ => by
    rw [spans_one]
    by_cases h : p.2 < min en en
    · rw [if_pos h]
      have h' : p.2 < en := by omega
      have em : min en en = en := by omega
      rw [em]
      refine ⟨rfl, h', Int.le_refl _, fun q h1 h2 => ?_, fun y hy => (by cases hy), Int.le_refl _⟩
      show lineF q d p = p.1
      exact if_pos h1
    · rw [if_neg h]
      show en ≤ p.2
      omega
  | x :: r, p, d, ⟨u1, u2, u3⟩ => by
    have ih := cov_spans en r x p.1 u3
    have um := Up.mem (p := p) (r := x :: r) ⟨u1, u2, u3⟩
    have ux := Up.mem u3
    have hL : ∀ q, p.2 < q → (x :: r).foldl (lineF q) p.1 = (p :: x :: r).foldl (lineF q) d := fun q hq => by
      rw [List.foldl_cons (l := x :: r), show lineF q d p = p.1 from if_pos hq]
    rw [spans_two]
    by_cases h : p.2 < min x.2 en
    · rw [if_pos h]
      refine ⟨rfl, by simp; omega, by simp; omega, fun q h1 h2 => ?_, fun y hy => ?_, ?_⟩
      · simp only at h2
        show (p :: x :: r).foldl (lineF q) d = p.1
        rw [← hL q h1]
        exact fold_low fun z hz => by
          rcases List.mem_cons.mp hz with rfl | hz
          · omega
          · have := ux z hz; omega
      · obtain ⟨z, hz, e⟩ := spans_lines hy
        have := um z hz
        show p.1 < y.1
        omega
      · show Cov (spansF (x :: r) en) (min x.2 en) en _
        by_cases hx : x.2 ≤ en
        · rw [show min x.2 en = x.2 by omega]
          exact ih.congr fun q hq => hL q (by omega)
        · rw [spans_nil (r := x :: r) fun z hz => by
            rcases List.mem_cons.mp hz with rfl | hz
            · omega
            · have := ux z hz; omega]
          show en ≤ _
          omega
    · rw [if_neg h, List.nil_append]
      by_cases hx : x.2 ≤ p.2
      · have e : p.2 = x.2 := by omega
        rw [e]
        exact ih.congr fun q hq => hL q (by omega)
      · rw [spans_nil (r := x :: r) fun z hz => by
          rcases List.mem_cons.mp hz with rfl | hz
          · omega
          · have := ux z hz; omega]
        show en ≤ p.2
        omega
/-- the walk over two such -/
def cm : List Sp3 → List Sp3 → Int → Int
  | x :: r, y :: r', p => if x.1 ≠ y.1 ∨ x.2.1 ≠ y.2.1 then p else if x.2.2 ≠ y.2.2 then min x.2.2 y.2.2 else cm r r' (min x.2.2 y.2.2)
  | _, _, p => p
/-- up to c both have the same lines, and no further -/
structure IsCom (L L' : Int → Int) (p en en' c : Int) : Prop where
  lo : p ≤ c
  same : ∀ q, p < q → q ≤ c → L q = L' q
  hi : c ≤ en ∧ c ≤ en' ∨ c = p
  stop : en ≤ c ∨ en' ≤ c ∨ (c < en ∧ c < en' ∧ L (c + 1) ≠ L' (c + 1))
theorem cm_ok {L L' : Int → Int} {en en' : Int} : ∀ {s s' : List Sp3} {p : Int}, Cov s p en L → Cov s' p en' L' → IsCom L L' p en en' (cm s s' p)
  | [], _, p, c, _ => ⟨by simp [cm], fun q h1 h2 => by simp [cm] at h2; omega, .inr (by simp [cm]), .inl (by simp [cm]; exact c)⟩
  | _ :: _, [], p, _, c' => ⟨by simp [cm], fun q h1 h2 => by simp [cm] at h2; omega, .inr (by simp [cm]), .inr (.inl (by simp [cm]; exact c'))⟩
  | x :: r, y :: r', p, ⟨a1, a2, a3, a4, a5, a6⟩, ⟨b1, b2, b3, b4, b5, b6⟩ => by
    rw [cm]
    by_cases h : x.1 ≠ y.1 ∨ x.2.1 ≠ y.2.1
    · rw [if_pos h]
      have hne : x.1 ≠ y.1 := by omega
      refine ⟨by omega, fun q h1 h2 => by omega, .inr rfl, .inr (.inr ⟨by omega, by omega, ?_⟩)⟩
      rw [a4 (p + 1) (by omega) (by omega), b4 (p + 1) (by omega) (by omega)]
      exact hne
    · rw [if_neg h]
      have he : x.1 = y.1 := by omega
      by_cases h2 : x.2.2 ≠ y.2.2
      · rw [if_pos h2]
        refine ⟨by omega, fun q q1 q2 => by rw [a4 q q1 (by omega), b4 q q1 (by omega), he], .inl ⟨by omega, by omega⟩, ?_⟩
        rcases Int.lt_or_lt_of_ne h2 with lt | lt
        · rw [show min x.2.2 y.2.2 = x.2.2 by omega]
          cases r with
          | nil => exact .inl a6
          | cons z r =>
            obtain ⟨z1, z2, z3, z4, z5, z6⟩ := a6
            refine .inr (.inr ⟨by omega, by omega, ?_⟩)
            rw [z4 _ (by omega) (by omega), b4 _ (by omega) (by omega)]
            have := a5 z (by simp)
            omega
        · rw [show min x.2.2 y.2.2 = y.2.2 by omega]
          cases r' with
          | nil => exact .inr (.inl b6)
          | cons z r' =>
            obtain ⟨z1, z2, z3, z4, z5, z6⟩ := b6
            refine .inr (.inr ⟨by omega, by omega, ?_⟩)
            rw [z4 _ (by omega) (by omega), a4 _ (by omega) (by omega)]
            have := b5 z (by simp)
            omega
      · rw [if_neg h2]
        have e2 : x.2.2 = y.2.2 := by omega
        have em : min x.2.2 y.2.2 = x.2.2 := by omega
        rw [em]
        have ih := cm_ok (s := r) (s' := r') a6 (by rw [e2]; exact b6)
        refine ⟨by have := ih.lo; omega, fun q q1 q2 => ?_, ?_, ih.stop⟩
        · by_cases hq : q ≤ x.2.2
          · rw [a4 q q1 hq, b4 q q1 (by omega), he]
          · exact ih.same q (by omega) q2
        · rcases ih.hi with z | z
          · exact .inl z
          · exact .inl ⟨by omega, by omega⟩
theorem Hist.upP {p : Pr} {r : List Pr} (h : ∀ (i : Nat) (a b : Pr), (p :: r)[i]? = some a → (p :: r)[i + 1]? = some b → a.1 < b.1 ∧ a.2 ≤ b.2) : Up p r := by
  induction r generalizing p with
  | nil => trivial
  | cons x r ih =>
    have h0 := h 0 p x rfl rfl
    exact ⟨h0.1, h0.2, ih fun i a b ha hb => h (i + 1) a b ha hb⟩
theorem cov_hist {xs : List Pr} (H : Hist xs) (en : Int) : Cov (spansF xs en) 0 en (lineAt xs) := by
  cases xs with
  | nil => have := H.ne; simp at this
  | cons p r =>
    obtain ⟨l, hl⟩ := H.hd
    have e0 : p.2 = 0 := by simp at hl; rw [hl]
    have := cov_spans en r p p.1 (Hist.upP H.up)
    rw [e0] at this
    exact this
def comF (xs : List Pr) (en : Int) (ys : List Pr) (st : Int) : Int := cm (spansF xs en) (spansF ys st) 0
theorem com_ok {xs ys : List Pr} {en st : Int} (Hx : Hist xs) (Hy : Hist ys) : IsCom (lineAt xs) (lineAt ys) 0 en st (comF xs en ys st) := cm_ok (cov_hist Hx en) (cov_hist Hy st)
end Py
/-! where two histories part: the walk -/
namespace Py
def spD (x : Sp3) : D := .tup [.int x.1, .int x.2.1, .int x.2.2]
def endsOf : List Pr → Int → List D
  | [], _ => []
  | _ :: r, en => .int (lastOf r en) :: endsOf r en
theorem ends_eq : ∀ (r : List Pr) (p : Pr) (en : Int), (r.map fun q => D.int q.2) ++ [D.int en] = endsOf (p :: r) en
  | [], _, _ => rfl
  | x :: r, p, en => by
    rw [List.map_cons, List.cons_append, ends_eq r x en]
    rfl
theorem zipW_tl {h : Hh} {xs ys : List D} {n : Nat} {g : Bool} (e : h[n]? = some (.lst ys g)) : zipW (.tup xs) (.ref n) h = .ok ⟨zipD xs ys, [(n, .lst ys g)]⟩ h := by
  unfold zipW
  simp only [e]
theorem zipW_ll {h : Hh} {xs ys : List D} {m n : Nat} {f g : Bool} (e : h[m]? = some (.lst xs f)) (e2 : h[n]? = some (.lst ys g)) : zipW (.ref m) (.ref n) h = .ok ⟨zipD xs ys, [(m, .lst xs f), (n, .lst ys g)]⟩ h := by
  unfold zipW
  simp only [e, e2]
def SpansC (C : Cl) (ls : Nat) : Prop := ∀ (xs : List Pr) (en : Int) (h : Hh), Hist xs → ∃ n e, C ls [hD xs, .int en] h = .ok (.ref n) (h ++ e) ∧ (h ++ e)[n]? = some (.lst ((spansF xs en).map spD) false)
def SpE : E := (.var 5)
def SpL : Ss := (.cons (.iff (.cmp .lt (.var 5) (.bi .min (.cons (.var 6) (.cons (.var 1) .nil)))) (.cons (.ex (.bm .append (.var 2) (.cons (.tup (.cons (.var 4) (.cons (.var 5) (.cons (.bi .min (.cons (.var 6) (.cons (.var 1) .nil))) .nil)))) .nil))) .nil) .nil) .nil)
def SpB : Ss := (.cons (.asg (.nm 2) (.lst .nil)) (.cons (.asg (.nm 3) (.bin .add (.comp SpE [4, 5] (.tup (.cons (.nm 4) (.cons (.nm 5) .nil))) (.seq (.sl (.var 0) (.some (.int 1)) .none)) .none) (.lst (.cons (.var 1) .nil)))) (.cons (.forr (.tup (.cons (.tup (.cons (.nm 4) (.cons (.nm 5) .nil))) (.cons (.nm 6) .nil))) (.zip (.var 0) (.var 3)) SpL) (.cons (.ret (.var 2)) .nil))))
def forkF : D → Option D
  | .tup [_, y] => some y
  | _ => none
theorem fm_fork : ∀ (r : List Pr), (r.map pD).filterMap forkF = r.map fun q => D.int q.2
  | [] => rfl
  | p :: r => by
    simp only [List.map_cons, List.filterMap_cons, pD, forkF]
    rw [← fm_fork r]
    all_goals rfl
theorem spans_len : ∀ (xs : List Pr) (en : Int), (spansF xs en).length ≤ xs.length
  | [], _ => Nat.le_refl _
  | p :: r, en => by
    have := spans_len r en
    rw [spansF, List.length_append]
    split <;> simp <;> omega
theorem min_if (a b : Int) : (if b < a then b else a) = min a b := by
  rw [Int.min_def]
  split <;> split <;> omega
theorem spans_ok (T : Tb) (C : Cl) (xs : List Pr) (en : Int) (h : Hh) (H : Hist xs) :
    ∃ n e, (exSs T C SpB [some (hD xs), some (.int en), none, none, none, none, none] h).fin = .ok (.ref n) (h ++ e) ∧ (h ++ e)[n]? = some (.lst ((spansF xs en).map spD) false) := by
  have hle := H.le
  have hne := H.ne
  have one : (0 + 1 ≤ SZ) := by decide
  have three : (0 + 1 + 1 + 1 ≤ SZ) := by decide
  have hdr : (xs.map pD).drop 1 = (xs.drop 1).map pD := by simp
  have cp : compD ⟨(xs.drop 1).map pD, []⟩ (h ++ [O.lst [] false]).length (fun x h1 => Tg.put (.tup (.cons (.nm 4) (.cons (.nm 5) .nil))) x h1 (wipe [some (.tup (xs.map pD)), some (.int en), some (.ref h.length), none, none, none, none] [4, 5])) (denc T C .none) (den T C SpE).v (h ++ [O.lst [] false])
      = .ok (.ref (h ++ [O.lst [] false]).length) ((h ++ [O.lst [] false]) ++ [.lst ((xs.drop 1).map fun q => D.int q.2) false]) := by
    rw [compD_pure forkF (by simp [SZ]; omega) (fun _ => rfl)]
    · rw [fm_fork]
    · intro x hx e
      obtain ⟨p, hp, rfl⟩ := List.mem_map.mp hx
      refine ⟨_, by simp (implicitDefEqProofs := false) only [tg_tup, pD, seq_tup, Option.bind_some, tgs_cons, tgs_nil, tg_nm, wipe_cons, wipe_nil, List.set_cons_succ, List.set_cons_zero]; rfl, ?_⟩
      simp only [forkF, pD, ec_none, true_and, SpE]
      simp (implicitDefEqProofs := false) only [v_var, varS, var0]
  generalize hA : h.length = A at *
  have lA : (h ++ [O.lst [] false]).length = A + 1 := by simp [hA]
  have lB : (h ++ [O.lst [] false] ++ [O.lst ((xs.drop 1).map fun q => D.int q.2) false]).length = A + 2 := by simp [hA]
  obtain ⟨p, r, rfl⟩ : ∃ p r, xs = p :: r := by
    cases xs with
    | nil => simp at hne
    | cons p r => exact ⟨p, r, rfl⟩
  have e3 : ((p :: r).drop 1).map (fun q => D.int q.2) ++ [D.int en] = endsOf (p :: r) en := ends_eq r p en
  generalize hB : h ++ [O.lst [] false] ++ [O.lst (((p :: r).drop 1).map fun q => D.int q.2) false] = B at *
  have g1 : (B ++ [O.lst [D.int en] false])[A + 1]? = some (.lst (((p :: r).drop 1).map fun q => D.int q.2) false) := get_app (by rw [← hB, ← lA]; simp)
  have g2 : (B ++ [O.lst [D.int en] false])[A + 2]? = some (.lst [.int en] false) := by rw [← lB]; simp
  have sz : ((((p :: r).drop 1).map fun q => D.int q.2).length + (0 + 1) ≤ SZ) := by simp [SZ] at hle ⊢; omega
  have g3 : (B ++ [O.lst [D.int en] false] ++ [O.lst (endsOf (p :: r) en) false])[A + 3]? = some (.lst (endsOf (p :: r) en) false) := by
    have : (B ++ [O.lst [D.int en] false]).length = A + 3 := by simp [lB]
    rw [← this]; simp
  have l3 : (B ++ [O.lst [D.int en] false]).length = A + 3 := by simp [lB]
  simp only [lA] at cp
  simp (implicitDefEqProofs := false) only [SpB, hD, ss_cons, s_asg, v_lst, es_nil, bind_ok', List.length_nil, Nat.zero_le, if_true, newO_d, of_some, thn_ok, tg_nm, List.set_cons_succ, List.set_cons_zero, putS_s, thn_nx, hA, v_bin, v_comp, ei_seq, v_sl, v_var, var0, varS, eo_some, eo_none, v_int, intR_i, sl_tup, cut_from1, hdr, seqW_t, lA, cp, es_cons, List.length_cons, if_pos one, lB, add_lst g1 g2, if_pos sz, e3, l3, s_forr, ei_zip, zipW_tl g3]
  refine forL_k (Q := fun q => ∃ n e, q.fin = R.ok (.ref n) (h ++ e) ∧ (h ++ e)[n]? = some (.lst ((spansF (p :: r) en).map spD) false))
    (fun rest σ h' => ∃ (zs : List Pr) (acc : List Sp3) (e : Hh) (a b c : Option D), rest = zipD (zs.map pD) (endsOf zs en) ∧ acc ++ spansF zs en = spansF (p :: r) en ∧ h' = h ++ .lst (acc.map spD) false :: e ∧ h'[A + 3]? = some (.lst (endsOf (p :: r) en) false) ∧
      σ = [some (.tup ((p :: r).map pD)), some (.int en), some (.ref A), some (.ref (A + 3)), a, b, c])
    (fun _ _ h' ⟨_, _, _, _, _, _, _, _, _, e4, _⟩ => ok_one e4) (fun x xs σ h' ⟨zs, acc, e, a, b, c, e1, e2, e4, e5, e6⟩ => ?_) ⟨p :: r, [], [O.lst (((p :: r).drop 1).map fun q => D.int q.2) false, .lst [.int en] false, .lst (endsOf (p :: r) en) false], _, _, _, rfl, rfl, ?_, g3, rfl⟩ fun σ h' ⟨zs, acc, e, a, b, c, e1, e2, e4, e5, e6⟩ => ?_
  · cases zs with
    | nil => simp [zipD] at e1
    | cons z zs =>
      simp only [List.map_cons, endsOf, zipD, List.cons.injEq] at e1
      obtain ⟨rfl, rfl⟩ := e1
      have gA : h'[A]? = some (.lst (acc.map spD) false) := by rw [e4, ← hA]; simp
      subst e6
      have al : (acc.map spD).length < SZ := by
        have h1 := spans_len (p :: r) en
        rw [← e2, List.length_append] at h1
        simp [SZ] at hle ⊢
        simp at h1
        omega
      rw [spansF] at e2
      by_cases hc : z.2 < min (lastOf zs en) en
      · have hc' : decide (z.2 < min (lastOf zs en) en) = true := decide_eq_true hc
        rw [if_pos hc, ← List.append_assoc] at e2
        refine ⟨[some (.tup ((p :: r).map pD)), some (.int en), some (.ref A), some (.ref (A + 3)), some (.int z.1), some (.int z.2), some (.int (lastOf zs en))], h'.set A (.lst ((acc ++ [(z.1, z.2, min (lastOf zs en) en)]).map spD) false), ?_, zs, acc ++ [(z.1, z.2, min (lastOf zs en) en)], e, _, _, _, rfl, e2, ?_, ?_, rfl⟩
        · simp (implicitDefEqProofs := false) only [tg_tup, tgs_cons, tgs_nil, seq_tup, pD, Option.bind_some, tg_nm, List.set_cons_succ, List.set_cons_zero, putS'_s, SpL, ss_cons, s_iff, t_cmp, v_cmp, v_var, varS, var0, bind_ok', v_bi, es_cons, es_nil, bi_min, of_some, lt_int, hc', truR_b, thn_ok, iteS_t, s_ex, v_bm, recv_l gA (show bmK .append = 1 from rfl), v_tup, List.length_cons, List.length_nil, if_pos three, app_lst gA, if_pos al, ss_nil, thn_nx, min_if]
          simp [spD]
        · rw [e4, ← hA]; simp
        · rw [List.getElem?_set_ne (by omega)]; exact e5
      · have hc' : decide (z.2 < (if en < lastOf zs en then en else lastOf zs en)) = false := decide_eq_false (by rw [min_if]; exact hc)
        rw [if_neg hc, List.nil_append] at e2
        refine ⟨[some (.tup ((p :: r).map pD)), some (.int en), some (.ref A), some (.ref (A + 3)), some (.int z.1), some (.int z.2), some (.int (lastOf zs en))], h', ?_, zs, acc, e, _, _, _, rfl, e2, e4, e5, rfl⟩
        simp (implicitDefEqProofs := false) only [tg_tup, tgs_cons, tgs_nil, seq_tup, pD, Option.bind_some, tg_nm, List.set_cons_succ, List.set_cons_zero, putS'_s, SpL, ss_cons, s_iff, t_cmp, v_cmp, v_var, varS, var0, bind_ok', v_bi, es_cons, es_nil, bi_min, of_some, lt_int, hc', truR_b, thn_ok, iteS_f, ss_nil, thn_nx]
  · rw [← hB]; simp
  · have hz : zs = [] := by
      cases zs with
      | nil => rfl
      | cons z zs => simp [endsOf, zipD] at e1
    subst hz e6
    rw [show spansF [] en = [] from rfl, List.append_nil] at e2
    subst e2
    refine ⟨A, .lst ((spansF (p :: r) en).map spD) false :: e, ?_, by rw [← hA]; simp⟩
    rw [e4]
    simp (implicitDefEqProofs := false) only [ss_cons, s_ret, v_var, varS, var0, thn_ok, thn_rt, fin_rt]
def CmC (C : Cl) (cn : Nat) : Prop := ∀ (xs ys : List Pr) (en st : Int) (h : Hh), Hist xs → Hist ys → ∃ e, C cn [hD xs, .int en, hD ys, .int st] h = .ok (.int (comF xs en ys st)) (h ++ e)
def CmL : Ss := (.cons (.iff (.or (.cmp .ne (.var 5) (.var 8)) (.cmp .ne (.var 6) (.var 9))) (.cons (.ret (.var 4)) .nil) .nil) (.cons (.asg (.nm 4) (.bi .min (.cons (.var 7) (.cons (.var 10) .nil)))) (.cons (.iff (.cmp .ne (.var 7) (.var 10)) (.cons (.ret (.var 4)) .nil) .nil) .nil)))
def CmT : Tg := (.tup (.cons (.tup (.cons (.nm 5) (.cons (.nm 6) (.cons (.nm 7) .nil)))) (.cons (.tup (.cons (.nm 8) (.cons (.nm 9) (.cons (.nm 10) .nil)))) .nil)))
def CmB (ls : Nat) : Ss := (.cons (.asg (.nm 4) (.int 0)) (.cons (.forr CmT (.zip (.call ls (.cons (.var 0) (.cons (.var 1) .nil))) (.call ls (.cons (.var 2) (.cons (.var 3) .nil)))) CmL) (.cons (.ret (.var 4)) .nil)))
theorem cm_walk (T : Tb) (C : Cl) (w : Wk) (h : Hh) (ok : w.ok h = true) (a b c d : Option D) : ∀ (s s' : List Sp3) (p : Int) (e f g i j k : Option D),
    (forL w (fun x σ h => putS' (Tg.put CmT x h σ) fun σ' => exSs T C CmL σ' h) (zipD (s.map spD) (s'.map spD)) [a, b, c, d, some (.int p), e, f, g, i, j, k] h = .rt (.int (cm s s' p)) h) ∨
    ∃ e2 f2 g2 i2 j2 k2, forL w (fun x σ h => putS' (Tg.put CmT x h σ) fun σ' => exSs T C CmL σ' h) (zipD (s.map spD) (s'.map spD)) [a, b, c, d, some (.int p), e, f, g, i, j, k] h = .nx [a, b, c, d, some (.int (cm s s' p)), e2, f2, g2, i2, j2, k2] h
  | [], s', p, e, f, g, i, j, k => .inr ⟨e, f, g, i, j, k, by simp only [List.map_nil, zipD, forL, if_pos ok, cm]⟩
  | x :: s, [], p, e, f, g, i, j, k => .inr ⟨e, f, g, i, j, k, by simp only [List.map_nil, List.map_cons, zipD, forL, if_pos ok, cm]⟩
  | x :: s, y :: s', p, e, f, g, i, j, k => by
    rw [List.map_cons, List.map_cons, zipD, forL, if_pos ok, cm]
    by_cases h1 : x.1 ≠ y.1 ∨ x.2.1 ≠ y.2.1
    · rw [if_pos h1]
      left
      have q : (putS' (Tg.put CmT (.tup [spD x, spD y]) h [a, b, c, d, some (.int p), e, f, g, i, j, k]) fun σ' => exSs T C CmL σ' h) = .rt (.int p) h := by
        by_cases z : x.1 = y.1
        · have z' : decide (x.1 = y.1) = true := decide_eq_true z
          have z2 : decide (x.2.1 = y.2.1) = false := decide_eq_false (by omega)
          simp (implicitDefEqProofs := false) only [CmT, tg_tup, seq_tup, Option.bind_some, spD, tgs_cons, tgs_nil, tg_nm, List.set_cons_succ, List.set_cons_zero, putS'_s, CmL, ss_cons, s_iff, t_or, t_cmp, v_cmp, v_var, varS, var0, bind_ok', ne_d, eq_int, z', z2, ob_sm, of_some, truR_b, Bool.not_true, Bool.not_false, iteR_f, thn_ok, iteS_t, s_ret, thn_rt]
        · have z' : decide (x.1 = y.1) = false := decide_eq_false z
          simp (implicitDefEqProofs := false) only [CmT, tg_tup, seq_tup, Option.bind_some, spD, tgs_cons, tgs_nil, tg_nm, List.set_cons_succ, List.set_cons_zero, putS'_s, CmL, ss_cons, s_iff, t_or, t_cmp, v_cmp, v_var, varS, var0, bind_ok', ne_d, eq_int, z', ob_sm, of_some, truR_b, Bool.not_false, iteR_t, thn_ok, iteS_t, s_ret, thn_rt]
      rw [q]
    · rw [if_neg h1]
      have z1 : decide (x.1 = y.1) = true := decide_eq_true (by omega)
      have z2 : decide (x.2.1 = y.2.1) = true := decide_eq_true (by omega)
      by_cases h2 : x.2.2 ≠ y.2.2
      · rw [if_pos h2]
        left
        have z3 : decide (x.2.2 = y.2.2) = false := decide_eq_false h2
        have q : (putS' (Tg.put CmT (.tup [spD x, spD y]) h [a, b, c, d, some (.int p), e, f, g, i, j, k]) fun σ' => exSs T C CmL σ' h) = .rt (.int (min x.2.2 y.2.2)) h := by
          simp (implicitDefEqProofs := false) only [CmT, tg_tup, seq_tup, Option.bind_some, spD, tgs_cons, tgs_nil, tg_nm, List.set_cons_succ, List.set_cons_zero, putS'_s, CmL, ss_cons, s_iff, t_or, t_cmp, v_cmp, v_var, varS, var0, bind_ok', ne_d, eq_int, z1, z2, z3, ob_sm, of_some, truR_b, Bool.not_true, Bool.not_false, iteR_f, thn_ok, iteS_f, iteS_t, ss_nil, thn_nx, s_asg, v_bi, es_cons, es_nil, bi_min, putS_s, s_ret, thn_rt, min_if]
        rw [q]
      · rw [if_neg h2]
        have z3 : decide (x.2.2 = y.2.2) = true := decide_eq_true (by omega)
        have q : (putS' (Tg.put CmT (.tup [spD x, spD y]) h [a, b, c, d, some (.int p), e, f, g, i, j, k]) fun σ' => exSs T C CmL σ' h) = .nx [a, b, c, d, some (.int (min x.2.2 y.2.2)), some (.int x.1), some (.int x.2.1), some (.int x.2.2), some (.int y.1), some (.int y.2.1), some (.int y.2.2)] h := by
          simp (implicitDefEqProofs := false) only [CmT, tg_tup, seq_tup, Option.bind_some, spD, tgs_cons, tgs_nil, tg_nm, List.set_cons_succ, List.set_cons_zero, putS'_s, CmL, ss_cons, s_iff, t_or, t_cmp, v_cmp, v_var, varS, var0, bind_ok', ne_d, eq_int, z1, z2, z3, ob_sm, of_some, truR_b, Bool.not_true, Bool.not_false, iteR_f, thn_ok, iteS_f, ss_nil, thn_nx, s_asg, v_bi, es_cons, es_nil, bi_min, putS_s, min_if]
        rw [q]
        exact cm_walk T C w h ok a b c d s s' (min x.2.2 y.2.2) _ _ _ _ _ _
theorem ok_two {xs : List D} {n m : Nat} {o o' : O} {h : Hh} (e : h[n]? = some o) (e2 : h[m]? = some o') : (Wk.mk xs [(n, o), (m, o')]).ok h = true := by
  simp [Wk.ok, e, e2]
theorem com_walk (T : Tb) {C : Cl} {ls : Nat} (S : SpansC C ls) (xs ys : List Pr) (en st : Int) (h : Hh) (Hx : Hist xs) (Hy : Hist ys) :
    ∃ e, (exSs T C (CmB ls) [some (hD xs), some (.int en), some (hD ys), some (.int st), none, none, none, none, none, none, none] h).fin = .ok (.int (comF xs en ys st)) (h ++ e) := by
  obtain ⟨n, e1, q1, g1⟩ := S xs en h Hx
  obtain ⟨m, e2, q2, g2⟩ := S ys st (h ++ e1) Hy
  have g1' : (h ++ e1 ++ e2)[n]? = some (.lst ((spansF xs en).map spD) false) := get_app g1
  refine ⟨e1 ++ e2, ?_⟩
  simp (implicitDefEqProofs := false) only [CmB, ss_cons, s_asg, v_int, thn_ok, tg_nm, List.set_cons_succ, List.set_cons_zero, putS_s, thn_nx, s_forr, ei_zip, v_call, es_cons, es_nil, v_var, var0, varS, bind_ok', q1, q2, zipW_ll g1' g2]
  rcases cm_walk T C _ (h ++ e1 ++ e2) (ok_two (xs := zipD ((spansF xs en).map spD) ((spansF ys st).map spD)) g1' g2) (some (hD xs)) (some (.int en)) (some (hD ys)) (some (.int st)) (spansF xs en) (spansF ys st) 0 none none none none none none with q | ⟨e, f, g, i, j, k, q⟩
  · rw [q]
    simp only [thn_rt, fin_rt, comF, List.append_assoc]
  · rw [q]
    simp only [thn_nx, ss_cons, s_ret, v_var, varS, var0, thn_ok, thn_rt, fin_rt, comF, List.append_assoc]
end Py
namespace Py
theorem IsCom.symm {L L' : Int → Int} {p en en' c : Int} (x : IsCom L L' p en en' c) : IsCom L' L p en' en c :=
  ⟨x.lo, fun q h1 h2 => (x.same q h1 h2).symm, x.hi.imp (fun z => ⟨z.2, z.1⟩) id, by
    rcases x.stop with z | z | z
    · exact .inr (.inl z)
    · exact .inl z
    · exact .inr (.inr ⟨z.2.1, z.1, fun q => z.2.2 q.symm⟩)⟩
theorem IsCom.le {L L' : Int → Int} {p en en' c d : Int} (x : IsCom L L' p en en' c) (y : IsCom L L' p en en' d) (h : p ≤ en) (h' : p ≤ en') : c ≤ d := by
  rcases Int.lt_or_le d c with lt | le
  · have hc : c ≤ en ∧ c ≤ en' := by
      rcases x.hi with z | z
      · exact z
      · omega
    rcases y.stop with z | z | z
    · omega
    · omega
    · exact absurd (x.same (d + 1) (by have := y.lo; omega) (by omega)) z.2.2
  · exact le
theorem IsCom.uniq {L L' : Int → Int} {p en en' c d : Int} (x : IsCom L L' p en en' c) (y : IsCom L L' p en en' d) (h : p ≤ en) (h' : p ≤ en') : c = d := Int.le_antisymm (x.le y h h') (y.le x h h')
theorem com_bd {xs ys : List Pr} {en st : Int} (Hx : Hist xs) (Hy : Hist ys) (h : 0 ≤ en) (h' : 0 ≤ st) : 0 ≤ comF xs en ys st ∧ comF xs en ys st ≤ en ∧ comF xs en ys st ≤ st := by
  have c := com_ok (en := en) (st := st) Hx Hy
  have := c.lo
  rcases c.hi with z | z <;> omega
theorem com_sym {xs ys : List Pr} {en st : Int} (Hx : Hist xs) (Hy : Hist ys) (h : 0 ≤ en) (h' : 0 ≤ st) : comF ys st xs en = comF xs en ys st := (com_ok Hy Hx).uniq (com_ok Hx Hy).symm h' h
theorem com_short {xs ys : List Pr} {en st t u : Int} (Hx : Hist xs) (Hy : Hist ys) (h : 0 ≤ en) (h' : 0 ≤ st) (t0 : 0 ≤ t) (t1 : t ≤ comF xs en ys st) (u1 : t ≤ u) : comF xs t ys u = t :=
  (com_ok Hx Hy).uniq ⟨t0, fun q a b => (com_ok (en := en) (st := st) Hx Hy).same q a (by omega), .inl ⟨Int.le_refl _, u1⟩, .inl (Int.le_refl _)⟩ t0 (by omega)
theorem com_tri {xs ys zs : List Pr} {a b c : Int} (Hx : Hist xs) (Hy : Hist ys) (Hz : Hist zs) (ha : 0 ≤ a) (hb : 0 ≤ b) (hc : 0 ≤ c) : ¬ (comF xs a ys b < comF ys b zs c ∧ comF xs a ys b < comF xs a zs c) := fun ⟨h1, h2⟩ => by
  have p := com_ok (en := a) (st := b) Hx Hy
  have q := com_ok (en := b) (st := c) Hy Hz
  have r := com_ok (en := a) (st := c) Hx Hz
  have q1 := com_bd (en := b) (st := c) Hy Hz hb hc
  have r1 := com_bd (en := a) (st := c) Hx Hz ha hc
  have p1 := com_bd (en := a) (st := b) Hx Hy ha hb
  rcases p.stop with z | z | z
  · omega
  · omega
  · have e1 := q.same (comF xs a ys b + 1) (by omega) (by omega)
    have e2 := r.same (comF xs a ys b + 1) (by omega) (by omega)
    exact z.2.2 (by rw [e1, e2])
theorem fold_bd {q m : Int} : ∀ {r : List Pr} {d : Int}, (∀ x ∈ r, 0 ≤ x.1 ∧ x.1 ≤ m) → 0 ≤ d ∧ d ≤ m → 0 ≤ r.foldl (lineF q) d ∧ r.foldl (lineF q) d ≤ m
  | [], _, _, h => h
  | p :: r, d, h, hd => by
    rw [List.foldl_cons]
    refine fold_bd (fun x hx => h x (by simp [hx])) ?_
    unfold lineF
    split
    · exact h p (by simp)
    · exact hd
theorem line_bd {xs : List Pr} (H : Hist xs) (q : Int) : 0 ≤ lineAt xs q ∧ lineAt xs q ≤ 1000000000 := by
  have hm : ∀ x ∈ xs, 0 ≤ x.1 ∧ x.1 ≤ 1000000000 := fun x hx => by
    obtain ⟨i, hi⟩ := List.getElem?_of_mem hx
    have b := H.bd i x hi
    have := (List.getElem?_eq_some_iff.mp hi).1
    have := H.le
    omega
  obtain ⟨l, hl⟩ := H.hd
  refine fold_bd hm ?_
  rw [hl]
  exact hm (l, 0) (List.mem_of_getElem? hl)
/-- the line behind a place -/
def nlD (xs : List Pr) (en pl : Int) : D := if pl < en then .int (lineAt xs (pl + 1)) else .non
/-- what is handed to the four -/
structure In4 (xs ys : List Pr) (en st : Int) : Prop where
  x : Hist xs
  y : Hist ys
  e0 : 0 ≤ en
  e1 : en ≤ 1000000
  s0 : 0 ≤ st
  s1 : st ≤ 1000000
theorem In4.sw {xs ys : List Pr} {en st : Int} (I : In4 xs ys en st) : In4 ys xs st en := ⟨I.y, I.x, I.s0, I.s1, I.e0, I.e1⟩
def papD (xs ys : List Pr) (en st : Int) : D := .tup [.int (comF xs en ys st), nlD xs en (comF xs en ys st), nlD ys st (comF xs en ys st)]
theorem three3 : (0 + 1 + 1 + 1 ≤ SZ) := by decide
end Py
/-! the deck that a law draws from, plain parts -/
namespace Py
structure Dk (h : Hh) (B : Nat) (cells rests : List Int) (cnt : Nat) : Prop where
  c : h[5]? = some (.lst (cells.map .int) false)
  r : h[6]? = some (.lst (rests.map .int) false)
  d : h[7]? = some (.lst [.ref 5, .int cnt, .ref 6] false)
  p : 0 < cells.length
  l : rests.length = cells.length
  n : ∀ x ∈ rests, 0 ≤ x
  b : cnt ≤ B
def Deck (h : Hh) (B : Nat) : Prop := ∃ cells rests cnt, Dk h B cells rests cnt
def Keep (h h' : Hh) : Prop := h.length ≤ h'.length ∧ ∀ n, n ≠ 6 → n ≠ 7 → ∀ o, h[n]? = some o → h'[n]? = some o
theorem Keep.refl (h : Hh) : Keep h h := ⟨Nat.le_refl _, fun _ _ _ _ e => e⟩
theorem Keep.trans {a b c : Hh} (x : Keep a b) (y : Keep b c) : Keep a c := ⟨Nat.le_trans x.1 y.1, fun n h6 h7 o e => y.2 n h6 h7 o (x.2 n h6 h7 o e)⟩
theorem Keep.app {a b : Hh} (x : Keep a b) (e : Hh) : Keep a (b ++ e) := ⟨by have := x.1; rw [List.length_append]; omega, fun n h6 h7 o q => get_app (x.2 n h6 h7 o q)⟩
theorem Deck.app {h : Hh} {B : Nat} (x : Deck h B) (e : Hh) : Deck (h ++ e) B := by
  obtain ⟨cells, rests, cnt, D⟩ := x
  exact ⟨cells, rests, cnt, get_app D.c, get_app D.r, get_app D.d, D.p, D.l, D.n, D.b⟩
theorem Deck.mono {h : Hh} {B B' : Nat} (x : Deck h B) (q : B ≤ B') : Deck h B' := by
  obtain ⟨cells, rests, cnt, D⟩ := x
  exact ⟨cells, rests, cnt, D.c, D.r, D.d, D.p, D.l, D.n, Nat.le_trans D.b q⟩
def cellsOf (ns : List Int) : List Int := ns.take 63 ++ (List.replicate (if ns.length = 0 then 1 else 0) ([0] : List Int)).flatten
theorem cells_len (ns : List Int) : 0 < (cellsOf ns).length ∧ (cellsOf ns).length ≤ 63 := by
  unfold cellsOf
  cases ns with
  | nil => simp
  | cons x xs => simp; omega
def others (n : Nat) (asked : List Int) : List Int := (intR' n).filter fun i => !decide (i ∈ asked)
theorem intR_succ (n : Nat) : intR' (n + 1) = intR' n ++ [(n : Int)] := by simp [intR', List.range_succ]
theorem nodup_intR (n : Nat) : (intR' n).Nodup := by
  unfold intR'
  refine List.Pairwise.map _ ?_ List.nodup_range
  intro a b h z
  exact h (Int.ofNat_inj.mp z)
theorem mem_intR {n : Nat} {x : Int} : x ∈ intR' n ↔ 0 ≤ x ∧ x < n := by
  unfold intR'
  simp only [List.mem_map, List.mem_range]
  constructor
  · rintro ⟨a, h, rfl⟩; omega
  · rintro ⟨h1, h2⟩; exact ⟨x.toNat, by omega, by omega⟩
theorem others_len (n : Nat) : ∀ (asked : List Int), asked.Nodup → (∀ x ∈ asked, 0 ≤ x ∧ x < n) → (others n asked).length + asked.length = n
  | [], _, _ => by
    have : others n [] = intR' n := by simp [others]
    simp [this, intR']
  | a :: as, nd, hb => by
    have nd' := List.nodup_cons.mp nd
    have ih := others_len n as nd'.2 fun x hx => hb x (List.mem_cons_of_mem _ hx)
    have e : others n (a :: as) = (others n as).erase a := by
      have nd2 : (others n as).Nodup := (nodup_intR n).filter _
      rw [nd2.erase_eq_filter]
      unfold others
      rw [List.filter_filter]
      congr 1
      funext i
      simp [Bool.and_comm]
      by_cases z : i = a <;> simp [z]
    have hm : a ∈ others n as := by
      unfold others
      rw [List.mem_filter]
      exact ⟨mem_intR.mpr (hb a (by simp)), by simpa using nd'.1⟩
    have hp := List.length_pos_of_mem hm
    rw [e, List.length_erase_of_mem hm, List.length_cons]
    omega
end Py
/-! Values of any kind, as laws hand them in. -/
namespace Py
def isLD : O → Prop
  | .lst _ _ => True
  | .dct _ _ => True
  | _ => False
/-- a value that the tests of kinds answer -/
def okv (h : Hh) : D → Prop
  | .fn _ => False
  | .ref n => ∃ o, h[n]? = some o ∧ isLD o
  | _ => True
def uptoB (v : D) (m : Int) : Bool := match v with
  | .int i => decide (0 ≤ i) && decide (i ≤ m)
  | _ => false
theorem okv.app {h e : Hh} {v : D} (x : okv h v) : okv (h ++ e) v := by
  cases v with
  | ref n =>
    obtain ⟨o, g, z⟩ := x
    exact ⟨o, get_app g, z⟩
  | fn f => exact x
  | _ => trivial
theorem ty_ref2 {T : Tb} {h : Hh} {n : Nat} {o : O} {t : Ty} (e : h[n]? = some o) (z : isLD o) (h1 : ∀ c, t ≠ .cls c) (h2 : t ≠ .lst) (h3 : t ≠ .dct) : isTys T h (.ref n) [t] = some false := by
  cases o with
  | lst xs f => cases t <;> simp_all [isTys, isTy] <;> rfl
  | dct xs f => cases t <;> simp_all [isTys, isTy] <;> rfl
  | _ => exact z.elim
theorem upto_v (T : Tb) (C : Cl) (v : D) (m : Int) (h : Hh) (ok : okv h v) : (exSs T C UptoB [some v, some (.int m)] h).fin = .ok (.bl (uptoB v m)) h := by
  cases v with
  | int i => exact upto_ok T C i m h
  | fn f => exact ok.elim
  | ref n =>
    obtain ⟨o, g, z⟩ := ok
    have := ty_ref2 (T := T) (t := .int) g z (by simp) (by simp) (by simp)
    simp (implicitDefEqProofs := false) [UptoB, this, uptoB]
  | _ => simp (implicitDefEqProofs := false) [UptoB, uptoB]
def UptoV (C : Cl) (up : Nat) : Prop := ∀ (v : D) (m : Int) (h : Hh), okv h v → C up [v, .int m] h = .ok (.bl (uptoB v m)) h
/-- _law_same of a flat thing and itself -/
def flatV : D → Bool
  | .non | .bl _ | .int _ | .str _ => true
  | _ => false
def SameL (me : Nat) : Ss := (.cons (.iff (.not (.call me (.cons (.var 2) (.cons (.var 3) .nil)))) (.cons (.ret (.bl false)) .nil) .nil) .nil)
def SameB (me : Nat) : Ss := (.cons (.iff (.cmp .is (.var 1) .non) (.cons (.ret (.cmp .is (.var 0) .non)) .nil) .nil) (.cons (.iff (.or (.isi (.var 1) [.bool]) (.isi (.var 0) [.bool])) (.cons (.ret (.and (.isi (.var 0) [.bool]) (.and (.isi (.var 1) [.bool]) (.cmp .eq (.var 0) (.var 1))))) .nil) .nil) (.cons (.iff (.isi (.var 1) [.int]) (.cons (.ret (.and (.isi (.var 0) [.int]) (.cmp .eq (.var 0) (.var 1)))) .nil) .nil) (.cons (.iff (.isi (.var 1) [.str]) (.cons (.ret (.and (.isi (.var 0) [.str]) (.cmp .eq (.var 0) (.var 1)))) .nil) .nil) (.cons (.iff (.or (.cmp .ne (.isi (.var 1) [.lst]) (.isi (.var 0) [.lst])) (.cmp .ne (.isi (.var 1) [.tup]) (.isi (.var 0) [.tup]))) (.cons (.ret (.bl false)) .nil) .nil) (.cons (.iff (.cmp .ne (.bi .len (.cons (.var 0) .nil)) (.bi .len (.cons (.var 1) .nil))) (.cons (.ret (.bl false)) .nil) .nil) (.cons (.forr (.tup (.cons (.nm 2) (.cons (.nm 3) .nil))) (.zip (.var 0) (.var 1)) (SameL me)) (.cons (.ret (.bl true)) .nil))))))))
theorem same_flat (T : Tb) (C : Cl) (me : Nat) (v : D) (h : Hh) (hv : flatV v = true) : (exSs T C (SameB me) [some v, some v, none, none] h).fin = .ok (.bl true) h := by
  cases v <;> first | (simp [flatV] at hv; done) | simp (implicitDefEqProofs := false) [SameB]
theorem zip_self : ∀ xs : List D, zipD xs xs = xs.map fun x => .tup [x, x]
  | [] => rfl
  | x :: xs => by simp [zipD, zip_self xs]
theorem same_tup (T : Tb) {C : Cl} {me : Nat} (xs : List D) (h : Hh) (S : ∀ v ∈ xs, C me [v, v] h = .ok (.bl true) h) : (exSs T C (SameB me) [some (.tup xs), some (.tup xs), none, none] h).fin = .ok (.bl true) h := by
  have hz : zipW (.tup xs) (.tup xs) h = .ok ⟨xs.map fun x => .tup [x, x], []⟩ h := by rw [← zip_self]; rfl
  simp (implicitDefEqProofs := false) only [SameB, ss_cons, s_iff, t_cmp, v_cmp, v_var, varS, var0, bind_ok', v_non, is_d, isNon_t, of_some, truR_b, thn_ok, iteS_f, ss_nil, thn_nx, t_or, t_isi, v_isi, ty_tup_bool, ob_sm, iteR_f, ty_tup_int, ty_tup_str, ne_d, ty_tup_lst, ty_tup_tup, eq_bl, decide_true, Bool.not_true, v_bi, es_cons, es_nil, len_tup, eq_int, s_forr, ei_zip, hz]
  refine forL_k (Q := fun r => r.fin = R.ok (.bl true) h) (fun rest σ h' => h' = h ∧ (∀ y ∈ rest, ∃ v ∈ xs, y = .tup [v, v]) ∧ ∃ a b, σ = [some (.tup xs), some (.tup xs), a, b]) (fun _ _ _ _ => rfl)
    (fun y r σ h' ⟨e1, e2, a, b, e3⟩ => ?_) ⟨rfl, fun y hy => ?_, _, _, rfl⟩ fun σ h' ⟨e1, e2, a, b, e3⟩ => ?_
  · subst e1 e3
    obtain ⟨v, hv, rfl⟩ := e2 y (by simp)
    refine ⟨[some (.tup xs), some (.tup xs), some v, some v], h', ?_, rfl, fun z hz => e2 z (by simp [hz]), _, _, rfl⟩
    simp (implicitDefEqProofs := false) [SameL, S v hv]
  · obtain ⟨v, hv, rfl⟩ := List.mem_map.mp hy
    exact ⟨v, hv, rfl⟩
  · subst e1 e3
    simp (implicitDefEqProofs := false)
end Py
/-! histories, judged: any thing -/
namespace Py
def prOf : D → Option Pr
  | .tup [.int l, .int f] => if 0 ≤ l ∧ l ≤ 1000000000 ∧ 0 ≤ f ∧ f ≤ 1000000 then some (l, f) else none
  | _ => none
theorem prOf_some {v : D} {p : Pr} (e : prOf v = some p) : v = pD p ∧ 0 ≤ p.1 ∧ p.1 ≤ 1000000000 ∧ 0 ≤ p.2 ∧ p.2 ≤ 1000000 := by
  unfold prOf at e
  split at e
  · split at e
    · rename_i z
      cases e
      exact ⟨rfl, z⟩
    · cases e
  · cases e
theorem prOf_pD {p : Pr} (h : 0 ≤ p.1 ∧ p.1 ≤ 1000000000 ∧ 0 ≤ p.2 ∧ p.2 ≤ 1000000) : prOf (pD p) = some p := by
  simp only [prOf, pD, if_pos h]
def isPB (v : D) : Bool := (prOf v).isSome
def upB : List D → Bool
  | a :: b :: r => (match prOf a, prOf b with
    | some p, some q => decide (p.1 < q.1) && decide (p.2 ≤ q.2)
    | _, _ => false) && upB (b :: r)
  | _ => true
def zeroB : List D → Bool
  | a :: _ => (match prOf a with
    | some p => decide (p.2 = 0)
    | none => false)
  | [] => false
def isHB : D → Bool
  | .tup xs => decide (1 ≤ xs.length) && (decide (xs.length ≤ 60) && (xs.all isPB && (upB xs && zeroB xs)))
  | _ => false
def okP (h : Hh) : D → Prop
  | .tup xs => ∀ x ∈ xs, okv h x
  | v => okv h v
def okH (h : Hh) : D → Prop
  | .tup xs => ∀ x ∈ xs, okP h x
  | v => okv h v
theorem okP.okv {h : Hh} {v : D} (x : okP h v) : okv h v := by
  cases v <;> first | trivial | exact x
theorem okH.okv {h : Hh} {v : D} (x : okH h v) : okv h v := by
  cases v <;> first | trivial | exact x
theorem okP.app {h e : Hh} {v : D} (x : okP h v) : okP (h ++ e) v := by
  have y := (okP.okv x).app (e := e)
  cases v with
  | tup xs => exact fun y hy => (x y hy).app
  | _ => exact y
theorem okH.app {h e : Hh} {v : D} (x : okH h v) : okH (h ++ e) v := by
  have y := (okH.okv x).app (e := e)
  cases v with
  | tup xs => exact fun y hy => (x y hy).app
  | _ => exact y
theorem ty_tupv {T : Tb} {h : Hh} {v : D} (ok : okv h v) (hv : ∀ xs, v ≠ .tup xs) : isTys T h v [.tup] = some false := by
  cases v with
  | tup xs => exact absurd rfl (hv xs)
  | ref n => obtain ⟨o, g, z⟩ := ok; exact ty_ref2 g z (by simp) (by simp) (by simp)
  | fn f => exact ok.elim
  | _ => simp
def PairV (C : Cl) (pr : Nat) : Prop := ∀ (v : D) (h : Hh), okP h v → C pr [v] h = .ok (.bl (isPB v)) h
theorem pair_v (T : Tb) {C : Cl} {up gl gp : Nat} (U : UptoV C up) (hl : T.glob gl = .int 1000000000) (hp : T.glob gp = .int 1000000) (v : D) (h : Hh) (ok : okP h v) : (exSs T C (PairB up gl gp) [some v] h).fin = .ok (.bl (isPB v)) h := by
  by_cases ht : ∃ xs, v = .tup xs
  · obtain ⟨xs, rfl⟩ := ht
    match xs, ok with
    | [a, b], ok =>
      have i0 : ixD (.tup [a, b]) (.int 0) h = some (a, h) := ixt h _ 0 _ rfl
      have i1 : ixD (.tup [a, b]) (.int 1) h = some (b, h) := ixt h _ 1 _ rfl
      have ln : ((([a, b] : List D).length : Nat) : Int) = 2 := rfl
      have ua := U a 1000000000 h (ok a (by simp))
      have ub := U b 1000000 h (ok b (by simp))
      have key : isPB (.tup [a, b]) = (uptoB a 1000000000 && uptoB b 1000000) := by
        cases a <;> cases b <;> simp [isPB, prOf, uptoB]
        rename_i l f
        by_cases z : 0 ≤ l ∧ l ≤ 1000000000 ∧ 0 ≤ f ∧ f ≤ 1000000
        · simp [z]
        · rw [if_neg z]
          simp only [Option.isSome_none]
          symm
          rw [Bool.eq_false_iff]
          intro q
          simp at q
          omega
      simp (implicitDefEqProofs := false) only [PairB, ss_cons, s_iff, t_or, t_not, t_isi, v_isi, v_var, var0, bind_ok', ty_tup_tup, ob_sm, of_some, truR_b, Bool.not_true, iteR_f, t_cmp, v_cmp, v_bi, es_cons, es_nil, len_tup, ln, v_int, ne_d, eq_int, decide_true, thn_ok, iteS_f, ss_nil, thn_nx, s_ret, v_and, v_call, v_ix, i0, i1, v_glob, hl, hp, ua, key]
      cases uptoB a 1000000000 with
      | false => simp (implicitDefEqProofs := false) only [andR_f, thn_ok, thn_rt, fin_rt, Bool.false_and]
      | true => simp (implicitDefEqProofs := false) only [andR_t, i1, of_some, bind_ok', ub, thn_ok, thn_rt, fin_rt, Bool.true_and]
    | [], _ => simp (implicitDefEqProofs := false) [PairB, isPB, prOf]
    | [a], _ => simp (implicitDefEqProofs := false) [PairB, isPB, prOf]
    | a :: b :: c :: r, _ =>
      have ln : ¬ (((a :: b :: c :: r : List D).length : Nat) : Int) = 2 := by simp; omega
      have ip : isPB (.tup (a :: b :: c :: r)) = false := by cases a <;> cases b <;> rfl
      simp (implicitDefEqProofs := false) only [ss_cons, ss_nil, s_asg, s_asgc, s_ex, s_ret, s_pass, s_iff, s_forr, s_setix, s_asgs, v_non, v_bl, v_int, v_str, v_var, v_glob, v_bin, v_neg, v_not, v_and, v_or, v_cmp, v_chn, v_ife, v_tup, v_lst, v_ix, v_sl, v_call, v_bi, v_bm, v_isi, v_lrng1, v_lrng2, v_comp, t_bl, t_int, t_var, t_glob, t_not, t_and, t_or, t_cmp, t_chn, t_call, t_bi, t_isi, t_ix, es_nil, es_cons, eo_none, eo_some, ec_none, ec_some, ei_seq, ei_rng1, ei_rng2, ei_enum, ei_zip, var0, varS, tg_nm, tg_tup, tgs_nil, tgs_cons, seq_tup, Option.bind_some, wipe_nil, wipe_cons, bind_ok', bind_ex', thn_ok, thn_nx, thn_rt, thn_bk, thn_ct, fin_nx, fin_rt, of_some, ob_sm, iteR_t, iteR_f, iteS_t, iteS_f, andR_t, andR_f, orR_t, orR_f, truR_b, intR_i, putS_s, putS'_s, setS_s, List.set_cons_succ, List.set_cons_zero, ty_non_int, ty_non_bool, ty_non_str, ty_non_tup, ty_non_lst, ty_non_dct, ty_bl_int, ty_bl_bool, ty_bl_str, ty_bl_tup, ty_bl_lst, ty_bl_dct, ty_int_int, ty_int_bool, ty_int_str, ty_int_tup, ty_int_lst, ty_int_dct, ty_str_int, ty_str_bool, ty_str_str, ty_str_tup, ty_str_lst, ty_str_dct, ty_tup_int, ty_tup_bool, ty_tup_str, ty_tup_tup, ty_tup_lst, ty_tup_dct, tru_non, tru_bl, tru_int, tru_tup, lt_int, le_int, gt_int, ge_int, eq_d, ne_d, is_d, isn_d, inn_d, nin_d, isNon_n, isNon_i, isNon_t, isNon_s, isNon_r, isNon_b, eq_int, eq_str, eq_bl, add_int, sub_int, neg_int, len_tup, bi_int_i, bi_int_b, bi_min, bi_max, rngW_i, seqW_t, newO_d, Bool.not_true, Bool.not_false, decide_true, decide_false, Bool.true_and, Bool.and_true, Bool.false_and, Bool.and_false, Bool.true_or, Bool.or_true, Bool.false_or, Bool.or_false, List.length_cons, List.length_nil, Nat.zero_add, Nat.reduceAdd, Nat.reduceLeDiff, SZ, ↓reduceIte, v_fld, t_fld, v_fnv, v_calll, t_calll, v_repr, v_dct0, s_raise0, s_raise1, s_tryk, thn_ex, thn_exS, fin_ex, truR_ex, keep_nx, keep_rt, eq_non_non, eq_non_int, eq_int_non, eq_str_non, eq_non_str, eq_int_str, eq_str_int, PairB, ip, - List.length_cons, ln]
  · have hv : ∀ xs, v ≠ .tup xs := fun xs z => ht ⟨xs, z⟩
    have ty := ty_tupv (T := T) ok.okv hv
    have ip : isPB v = false := by cases v <;> first | rfl | exact absurd rfl (hv _)
    simp (implicitDefEqProofs := false) only [ss_cons, ss_nil, s_asg, s_asgc, s_ex, s_ret, s_pass, s_iff, s_forr, s_setix, s_asgs, v_non, v_bl, v_int, v_str, v_var, v_glob, v_bin, v_neg, v_not, v_and, v_or, v_cmp, v_chn, v_ife, v_tup, v_lst, v_ix, v_sl, v_call, v_bi, v_bm, v_isi, v_lrng1, v_lrng2, v_comp, t_bl, t_int, t_var, t_glob, t_not, t_and, t_or, t_cmp, t_chn, t_call, t_bi, t_isi, t_ix, es_nil, es_cons, eo_none, eo_some, ec_none, ec_some, ei_seq, ei_rng1, ei_rng2, ei_enum, ei_zip, var0, varS, tg_nm, tg_tup, tgs_nil, tgs_cons, seq_tup, Option.bind_some, wipe_nil, wipe_cons, bind_ok', bind_ex', thn_ok, thn_nx, thn_rt, thn_bk, thn_ct, fin_nx, fin_rt, of_some, ob_sm, iteR_t, iteR_f, iteS_t, iteS_f, andR_t, andR_f, orR_t, orR_f, truR_b, intR_i, putS_s, putS'_s, setS_s, List.set_cons_succ, List.set_cons_zero, ty_non_int, ty_non_bool, ty_non_str, ty_non_tup, ty_non_lst, ty_non_dct, ty_bl_int, ty_bl_bool, ty_bl_str, ty_bl_tup, ty_bl_lst, ty_bl_dct, ty_int_int, ty_int_bool, ty_int_str, ty_int_tup, ty_int_lst, ty_int_dct, ty_str_int, ty_str_bool, ty_str_str, ty_str_tup, ty_str_lst, ty_str_dct, ty_tup_int, ty_tup_bool, ty_tup_str, ty_tup_tup, ty_tup_lst, ty_tup_dct, tru_non, tru_bl, tru_int, tru_tup, lt_int, le_int, gt_int, ge_int, eq_d, ne_d, is_d, isn_d, inn_d, nin_d, isNon_n, isNon_i, isNon_t, isNon_s, isNon_r, isNon_b, eq_int, eq_str, eq_bl, add_int, sub_int, neg_int, len_tup, bi_int_i, bi_int_b, bi_min, bi_max, rngW_i, seqW_t, newO_d, Bool.not_true, Bool.not_false, decide_true, decide_false, Bool.true_and, Bool.and_true, Bool.false_and, Bool.and_false, Bool.true_or, Bool.or_true, Bool.false_or, Bool.or_false, List.length_cons, List.length_nil, Nat.zero_add, Nat.reduceAdd, Nat.reduceLeDiff, SZ, ↓reduceIte, v_fld, t_fld, v_fnv, v_calll, t_calll, v_repr, v_dct0, s_raise0, s_raise1, s_tryk, thn_ex, thn_exS, fin_ex, truR_ex, keep_nx, keep_rt, eq_non_non, eq_non_int, eq_int_non, eq_str_non, eq_non_str, eq_int_str, eq_str_int, PairB, ty, ip]
theorem zip_pairs : ∀ (xs : List D), zipD xs (xs.drop 1) = match xs with
    | a :: b :: r => .tup [a, b] :: zipD (b :: r) ((b :: r).drop 1)
    | _ => []
  | [] => rfl
  | [_] => rfl
  | _ :: _ :: _ => rfl
def IsHV (C : Cl) (ih : Nat) : Prop := ∀ (v : D) (h : Hh), okH h v → C ih [v] h = .ok (.bl (isHB v)) h
theorem isH_v (T : Tb) {C : Cl} {pr gs : Nat} (P : PairV C pr) (hs : T.glob gs = .int 60) (v : D) (h : Hh) (ok : okH h v) : (exSs T C (IsHB pr gs) [some v, none, none, none, none, none] h).fin = .ok (.bl (isHB v)) h := by
  by_cases ht : ∃ xs, v = .tup xs
  · obtain ⟨xs, rfl⟩ := ht
    by_cases l1 : 1 ≤ xs.length
    · by_cases l2 : xs.length ≤ 60
      · have d1 : decide ((1 : Int) ≤ (xs.length : Int)) = true := decide_eq_true (by omega)
        have d2 : decide ((xs.length : Int) ≤ 60) = true := decide_eq_true (by omega)
        have hi : isHB (.tup xs) = (xs.all isPB && (upB xs && zeroB xs)) := by simp [isHB, l1, l2]
        simp (implicitDefEqProofs := false) only [IsHB, ss_cons, s_iff, t_or, t_not, t_isi, v_isi, v_var, var0, bind_ok', ty_tup_tup, ob_sm, of_some, truR_b, Bool.not_true, iteR_f, t_chn, v_chn, v_int, v_bi, es_cons, es_nil, len_tup, v_glob, hs, le_int, d1, d2, andR_t, thn_ok, iteS_f, ss_nil, thn_nx, s_forr, ei_seq, seqW_t, hi]
        refine forL_x (Q := fun r => r.fin = R.ok (.bl (xs.all isPB && (upB xs && zeroB xs))) h) (fun rest σ h' => h' = h ∧ (∃ pre, xs = pre ++ rest ∧ pre.all isPB = true) ∧ ∃ a, σ = [some (.tup xs), a, none, none, none, none])
          (fun _ _ _ _ => rfl) (fun x r σ h' ⟨e1, ⟨pre, e2, e4⟩, a, e3⟩ => ?_) (fun σ h' ⟨e1, ⟨pre, e2, e4⟩, a, e3⟩ => ?_) ⟨rfl, ⟨[], rfl, rfl⟩, _, rfl⟩
        · subst e1 e3
          have px := P x h' (ok x (by rw [e2]; simp))
          cases hx : isPB x with
          | true =>
            rw [hx] at px
            refine .inl ⟨[some (.tup xs), some x, none, none, none, none], h', .inl ?_, rfl, ⟨pre ++ [x], by simp [e2], by simp [e4, hx]⟩, _, rfl⟩
            simp (implicitDefEqProofs := false) only [ss_cons, ss_nil, s_asg, s_asgc, s_ex, s_ret, s_pass, s_iff, s_forr, s_setix, s_asgs, v_non, v_bl, v_int, v_str, v_var, v_glob, v_bin, v_neg, v_not, v_and, v_or, v_cmp, v_chn, v_ife, v_tup, v_lst, v_ix, v_sl, v_call, v_bi, v_bm, v_isi, v_lrng1, v_lrng2, v_comp, t_bl, t_int, t_var, t_glob, t_not, t_and, t_or, t_cmp, t_chn, t_call, t_bi, t_isi, t_ix, es_nil, es_cons, eo_none, eo_some, ec_none, ec_some, ei_seq, ei_rng1, ei_rng2, ei_enum, ei_zip, var0, varS, tg_nm, tg_tup, tgs_nil, tgs_cons, seq_tup, Option.bind_some, wipe_nil, wipe_cons, bind_ok', bind_ex', thn_ok, thn_nx, thn_rt, thn_bk, thn_ct, fin_nx, fin_rt, of_some, ob_sm, iteR_t, iteR_f, iteS_t, iteS_f, andR_t, andR_f, orR_t, orR_f, truR_b, intR_i, putS_s, putS'_s, setS_s, List.set_cons_succ, List.set_cons_zero, ty_non_int, ty_non_bool, ty_non_str, ty_non_tup, ty_non_lst, ty_non_dct, ty_bl_int, ty_bl_bool, ty_bl_str, ty_bl_tup, ty_bl_lst, ty_bl_dct, ty_int_int, ty_int_bool, ty_int_str, ty_int_tup, ty_int_lst, ty_int_dct, ty_str_int, ty_str_bool, ty_str_str, ty_str_tup, ty_str_lst, ty_str_dct, ty_tup_int, ty_tup_bool, ty_tup_str, ty_tup_tup, ty_tup_lst, ty_tup_dct, tru_non, tru_bl, tru_int, tru_tup, lt_int, le_int, gt_int, ge_int, eq_d, ne_d, is_d, isn_d, inn_d, nin_d, isNon_n, isNon_i, isNon_t, isNon_s, isNon_r, isNon_b, eq_int, eq_str, eq_bl, add_int, sub_int, neg_int, len_tup, bi_int_i, bi_int_b, bi_min, bi_max, rngW_i, seqW_t, newO_d, Bool.not_true, Bool.not_false, decide_true, decide_false, Bool.true_and, Bool.and_true, Bool.false_and, Bool.and_false, Bool.true_or, Bool.or_true, Bool.false_or, Bool.or_false, List.length_cons, List.length_nil, Nat.zero_add, Nat.reduceAdd, Nat.reduceLeDiff, SZ, ↓reduceIte, v_fld, t_fld, v_fnv, v_calll, t_calll, v_repr, v_dct0, s_raise0, s_raise1, s_tryk, thn_ex, thn_exS, fin_ex, truR_ex, keep_nx, keep_rt, eq_non_non, eq_non_int, eq_int_non, eq_str_non, eq_non_str, eq_int_str, eq_str_int, IsHL1, px]
          | false =>
            rw [hx] at px
            refine .inr (.inl ⟨.bl false, h', ?_, ?_⟩)
            · simp (implicitDefEqProofs := false) only [ss_cons, ss_nil, s_asg, s_asgc, s_ex, s_ret, s_pass, s_iff, s_forr, s_setix, s_asgs, v_non, v_bl, v_int, v_str, v_var, v_glob, v_bin, v_neg, v_not, v_and, v_or, v_cmp, v_chn, v_ife, v_tup, v_lst, v_ix, v_sl, v_call, v_bi, v_bm, v_isi, v_lrng1, v_lrng2, v_comp, t_bl, t_int, t_var, t_glob, t_not, t_and, t_or, t_cmp, t_chn, t_call, t_bi, t_isi, t_ix, es_nil, es_cons, eo_none, eo_some, ec_none, ec_some, ei_seq, ei_rng1, ei_rng2, ei_enum, ei_zip, var0, varS, tg_nm, tg_tup, tgs_nil, tgs_cons, seq_tup, Option.bind_some, wipe_nil, wipe_cons, bind_ok', bind_ex', thn_ok, thn_nx, thn_rt, thn_bk, thn_ct, fin_nx, fin_rt, of_some, ob_sm, iteR_t, iteR_f, iteS_t, iteS_f, andR_t, andR_f, orR_t, orR_f, truR_b, intR_i, putS_s, putS'_s, setS_s, List.set_cons_succ, List.set_cons_zero, ty_non_int, ty_non_bool, ty_non_str, ty_non_tup, ty_non_lst, ty_non_dct, ty_bl_int, ty_bl_bool, ty_bl_str, ty_bl_tup, ty_bl_lst, ty_bl_dct, ty_int_int, ty_int_bool, ty_int_str, ty_int_tup, ty_int_lst, ty_int_dct, ty_str_int, ty_str_bool, ty_str_str, ty_str_tup, ty_str_lst, ty_str_dct, ty_tup_int, ty_tup_bool, ty_tup_str, ty_tup_tup, ty_tup_lst, ty_tup_dct, tru_non, tru_bl, tru_int, tru_tup, lt_int, le_int, gt_int, ge_int, eq_d, ne_d, is_d, isn_d, inn_d, nin_d, isNon_n, isNon_i, isNon_t, isNon_s, isNon_r, isNon_b, eq_int, eq_str, eq_bl, add_int, sub_int, neg_int, len_tup, bi_int_i, bi_int_b, bi_min, bi_max, rngW_i, seqW_t, newO_d, Bool.not_true, Bool.not_false, decide_true, decide_false, Bool.true_and, Bool.and_true, Bool.false_and, Bool.and_false, Bool.true_or, Bool.or_true, Bool.false_or, Bool.or_false, List.length_cons, List.length_nil, Nat.zero_add, Nat.reduceAdd, Nat.reduceLeDiff, SZ, ↓reduceIte, v_fld, t_fld, v_fnv, v_calll, t_calll, v_repr, v_dct0, s_raise0, s_raise1, s_tryk, thn_ex, thn_exS, fin_ex, truR_ex, keep_nx, keep_rt, eq_non_non, eq_non_int, eq_int_non, eq_str_non, eq_non_str, eq_int_str, eq_str_int, IsHL1, px]
            · have : xs.all isPB = false := by rw [e2]; simp [hx]
              simp (implicitDefEqProofs := false) only [ss_cons, ss_nil, s_asg, s_asgc, s_ex, s_ret, s_pass, s_iff, s_forr, s_setix, s_asgs, v_non, v_bl, v_int, v_str, v_var, v_glob, v_bin, v_neg, v_not, v_and, v_or, v_cmp, v_chn, v_ife, v_tup, v_lst, v_ix, v_sl, v_call, v_bi, v_bm, v_isi, v_lrng1, v_lrng2, v_comp, t_bl, t_int, t_var, t_glob, t_not, t_and, t_or, t_cmp, t_chn, t_call, t_bi, t_isi, t_ix, es_nil, es_cons, eo_none, eo_some, ec_none, ec_some, ei_seq, ei_rng1, ei_rng2, ei_enum, ei_zip, var0, varS, tg_nm, tg_tup, tgs_nil, tgs_cons, seq_tup, Option.bind_some, wipe_nil, wipe_cons, bind_ok', bind_ex', thn_ok, thn_nx, thn_rt, thn_bk, thn_ct, fin_nx, fin_rt, of_some, ob_sm, iteR_t, iteR_f, iteS_t, iteS_f, andR_t, andR_f, orR_t, orR_f, truR_b, intR_i, putS_s, putS'_s, setS_s, List.set_cons_succ, List.set_cons_zero, ty_non_int, ty_non_bool, ty_non_str, ty_non_tup, ty_non_lst, ty_non_dct, ty_bl_int, ty_bl_bool, ty_bl_str, ty_bl_tup, ty_bl_lst, ty_bl_dct, ty_int_int, ty_int_bool, ty_int_str, ty_int_tup, ty_int_lst, ty_int_dct, ty_str_int, ty_str_bool, ty_str_str, ty_str_tup, ty_str_lst, ty_str_dct, ty_tup_int, ty_tup_bool, ty_tup_str, ty_tup_tup, ty_tup_lst, ty_tup_dct, tru_non, tru_bl, tru_int, tru_tup, lt_int, le_int, gt_int, ge_int, eq_d, ne_d, is_d, isn_d, inn_d, nin_d, isNon_n, isNon_i, isNon_t, isNon_s, isNon_r, isNon_b, eq_int, eq_str, eq_bl, add_int, sub_int, neg_int, len_tup, bi_int_i, bi_int_b, bi_min, bi_max, rngW_i, seqW_t, newO_d, Bool.not_true, Bool.not_false, decide_true, decide_false, Bool.true_and, Bool.and_true, Bool.false_and, Bool.and_false, Bool.true_or, Bool.or_true, Bool.false_or, Bool.or_false, List.length_cons, List.length_nil, Nat.zero_add, Nat.reduceAdd, Nat.reduceLeDiff, SZ, ↓reduceIte, v_fld, t_fld, v_fnv, v_calll, t_calll, v_repr, v_dct0, s_raise0, s_raise1, s_tryk, thn_ex, thn_exS, fin_ex, truR_ex, keep_nx, keep_rt, eq_non_non, eq_non_int, eq_int_non, eq_str_non, eq_non_str, eq_int_str, eq_str_int, this]
        · subst e1 e3
          have al : xs.all isPB = true := by rw [e2]; simpa using e4
          have all : ∀ x ∈ xs, ∃ p, prOf x = some p := fun x hx => Option.isSome_iff_exists.mp (List.all_eq_true.mp al x hx)
          simp (implicitDefEqProofs := false) only [ss_cons, s_forr, ei_zip, v_var, var0, bind_ok', v_sl, eo_some, eo_none, v_int, intR_i, sl_tup, cut_from1, of_some, zipW, thn_ok]
          refine forL_x (Q := fun r => r.fin = R.ok (.bl (xs.all isPB && (upB xs && zeroB xs))) h') (fun rest σ h2 => h2 = h' ∧ (∃ ys, rest = zipD ys (ys.drop 1) ∧ upB xs = upB ys ∧ ∀ x ∈ ys, ∃ p, prOf x = some p) ∧ ∃ a b c d e, σ = [some (.tup xs), a, b, c, d, e])
            (fun _ _ _ _ => rfl) (fun x r σ h2 ⟨e1, ⟨ys, e4, e5, e6⟩, a, b, c, d, e, e3⟩ => ?_) (fun σ h2 ⟨e1, ⟨ys, e4, e5, e6⟩, a, b, c, d, e, e3⟩ => ?_) ⟨rfl, ⟨xs, rfl, rfl, all⟩, _, _, _, _, _, rfl⟩
          · subst e1 e3
            match ys, e4, e5, e6 with
            | [], e4, _, _ => simp [zipD] at e4
            | [y], e4, _, _ => simp [zipD] at e4
            | y :: z :: ys, e4, e5, e6 =>
              rw [zip_pairs] at e4
              cases e4
              obtain ⟨p, hp⟩ := e6 y (by simp)
              obtain ⟨q, hq⟩ := e6 z (by simp)
              obtain ⟨rfl, _⟩ := prOf_some hp
              obtain ⟨rfl, _⟩ := prOf_some hq
              simp only [upB, hp, hq] at e5
              by_cases c1 : p.1 < q.1
              · by_cases c2 : p.2 ≤ q.2
                · refine .inl ⟨[some (.tup xs), a, some (.int p.1), some (.int p.2), some (.int q.1), some (.int q.2)], h2, .inl ?_, rfl, ⟨pD q :: ys, rfl, by rw [e5]; simp [c1, c2], fun x hx => e6 x (by simp [hx])⟩, _, _, _, _, _, rfl⟩
                  have k1 : ¬ q.1 ≤ p.1 := by omega
                  have k2 : ¬ q.2 < p.2 := by omega
                  simp (implicitDefEqProofs := false) only [ss_cons, ss_nil, s_asg, s_asgc, s_ex, s_ret, s_pass, s_iff, s_forr, s_setix, s_asgs, v_non, v_bl, v_int, v_str, v_var, v_glob, v_bin, v_neg, v_not, v_and, v_or, v_cmp, v_chn, v_ife, v_tup, v_lst, v_ix, v_sl, v_call, v_bi, v_bm, v_isi, v_lrng1, v_lrng2, v_comp, t_bl, t_int, t_var, t_glob, t_not, t_and, t_or, t_cmp, t_chn, t_call, t_bi, t_isi, t_ix, es_nil, es_cons, eo_none, eo_some, ec_none, ec_some, ei_seq, ei_rng1, ei_rng2, ei_enum, ei_zip, var0, varS, tg_nm, tg_tup, tgs_nil, tgs_cons, seq_tup, Option.bind_some, wipe_nil, wipe_cons, bind_ok', bind_ex', thn_ok, thn_nx, thn_rt, thn_bk, thn_ct, fin_nx, fin_rt, of_some, ob_sm, iteR_t, iteR_f, iteS_t, iteS_f, andR_t, andR_f, orR_t, orR_f, truR_b, intR_i, putS_s, putS'_s, setS_s, List.set_cons_succ, List.set_cons_zero, ty_non_int, ty_non_bool, ty_non_str, ty_non_tup, ty_non_lst, ty_non_dct, ty_bl_int, ty_bl_bool, ty_bl_str, ty_bl_tup, ty_bl_lst, ty_bl_dct, ty_int_int, ty_int_bool, ty_int_str, ty_int_tup, ty_int_lst, ty_int_dct, ty_str_int, ty_str_bool, ty_str_str, ty_str_tup, ty_str_lst, ty_str_dct, ty_tup_int, ty_tup_bool, ty_tup_str, ty_tup_tup, ty_tup_lst, ty_tup_dct, tru_non, tru_bl, tru_int, tru_tup, lt_int, le_int, gt_int, ge_int, eq_d, ne_d, is_d, isn_d, inn_d, nin_d, isNon_n, isNon_i, isNon_t, isNon_s, isNon_r, isNon_b, eq_int, eq_str, eq_bl, add_int, sub_int, neg_int, len_tup, bi_int_i, bi_int_b, bi_min, bi_max, rngW_i, seqW_t, newO_d, Bool.not_true, Bool.not_false, decide_true, decide_false, Bool.true_and, Bool.and_true, Bool.false_and, Bool.and_false, Bool.true_or, Bool.or_true, Bool.false_or, Bool.or_false, List.length_cons, List.length_nil, Nat.zero_add, Nat.reduceAdd, Nat.reduceLeDiff, SZ, ↓reduceIte, v_fld, t_fld, v_fnv, v_calll, t_calll, v_repr, v_dct0, s_raise0, s_raise1, s_tryk, thn_ex, thn_exS, fin_ex, truR_ex, keep_nx, keep_rt, eq_non_non, eq_non_int, eq_int_non, eq_str_non, eq_non_str, eq_int_str, eq_str_int, pD, IsHL2, k1, k2]
                · refine .inr (.inl ⟨.bl false, h2, ?_, ?_⟩)
                  · have k1 : ¬ q.1 ≤ p.1 := by omega
                    have k2 : q.2 < p.2 := by omega
                    simp (implicitDefEqProofs := false) only [ss_cons, ss_nil, s_asg, s_asgc, s_ex, s_ret, s_pass, s_iff, s_forr, s_setix, s_asgs, v_non, v_bl, v_int, v_str, v_var, v_glob, v_bin, v_neg, v_not, v_and, v_or, v_cmp, v_chn, v_ife, v_tup, v_lst, v_ix, v_sl, v_call, v_bi, v_bm, v_isi, v_lrng1, v_lrng2, v_comp, t_bl, t_int, t_var, t_glob, t_not, t_and, t_or, t_cmp, t_chn, t_call, t_bi, t_isi, t_ix, es_nil, es_cons, eo_none, eo_some, ec_none, ec_some, ei_seq, ei_rng1, ei_rng2, ei_enum, ei_zip, var0, varS, tg_nm, tg_tup, tgs_nil, tgs_cons, seq_tup, Option.bind_some, wipe_nil, wipe_cons, bind_ok', bind_ex', thn_ok, thn_nx, thn_rt, thn_bk, thn_ct, fin_nx, fin_rt, of_some, ob_sm, iteR_t, iteR_f, iteS_t, iteS_f, andR_t, andR_f, orR_t, orR_f, truR_b, intR_i, putS_s, putS'_s, setS_s, List.set_cons_succ, List.set_cons_zero, ty_non_int, ty_non_bool, ty_non_str, ty_non_tup, ty_non_lst, ty_non_dct, ty_bl_int, ty_bl_bool, ty_bl_str, ty_bl_tup, ty_bl_lst, ty_bl_dct, ty_int_int, ty_int_bool, ty_int_str, ty_int_tup, ty_int_lst, ty_int_dct, ty_str_int, ty_str_bool, ty_str_str, ty_str_tup, ty_str_lst, ty_str_dct, ty_tup_int, ty_tup_bool, ty_tup_str, ty_tup_tup, ty_tup_lst, ty_tup_dct, tru_non, tru_bl, tru_int, tru_tup, lt_int, le_int, gt_int, ge_int, eq_d, ne_d, is_d, isn_d, inn_d, nin_d, isNon_n, isNon_i, isNon_t, isNon_s, isNon_r, isNon_b, eq_int, eq_str, eq_bl, add_int, sub_int, neg_int, len_tup, bi_int_i, bi_int_b, bi_min, bi_max, rngW_i, seqW_t, newO_d, Bool.not_true, Bool.not_false, decide_true, decide_false, Bool.true_and, Bool.and_true, Bool.false_and, Bool.and_false, Bool.true_or, Bool.or_true, Bool.false_or, Bool.or_false, List.length_cons, List.length_nil, Nat.zero_add, Nat.reduceAdd, Nat.reduceLeDiff, SZ, ↓reduceIte, v_fld, t_fld, v_fnv, v_calll, t_calll, v_repr, v_dct0, s_raise0, s_raise1, s_tryk, thn_ex, thn_exS, fin_ex, truR_ex, keep_nx, keep_rt, eq_non_non, eq_non_int, eq_int_non, eq_str_non, eq_non_str, eq_int_str, eq_str_int, pD, IsHL2, k1, k2]
                  · rw [e5]; simp (implicitDefEqProofs := false) only [ss_cons, ss_nil, s_asg, s_asgc, s_ex, s_ret, s_pass, s_iff, s_forr, s_setix, s_asgs, v_non, v_bl, v_int, v_str, v_var, v_glob, v_bin, v_neg, v_not, v_and, v_or, v_cmp, v_chn, v_ife, v_tup, v_lst, v_ix, v_sl, v_call, v_bi, v_bm, v_isi, v_lrng1, v_lrng2, v_comp, t_bl, t_int, t_var, t_glob, t_not, t_and, t_or, t_cmp, t_chn, t_call, t_bi, t_isi, t_ix, es_nil, es_cons, eo_none, eo_some, ec_none, ec_some, ei_seq, ei_rng1, ei_rng2, ei_enum, ei_zip, var0, varS, tg_nm, tg_tup, tgs_nil, tgs_cons, seq_tup, Option.bind_some, wipe_nil, wipe_cons, bind_ok', bind_ex', thn_ok, thn_nx, thn_rt, thn_bk, thn_ct, fin_nx, fin_rt, of_some, ob_sm, iteR_t, iteR_f, iteS_t, iteS_f, andR_t, andR_f, orR_t, orR_f, truR_b, intR_i, putS_s, putS'_s, setS_s, List.set_cons_succ, List.set_cons_zero, ty_non_int, ty_non_bool, ty_non_str, ty_non_tup, ty_non_lst, ty_non_dct, ty_bl_int, ty_bl_bool, ty_bl_str, ty_bl_tup, ty_bl_lst, ty_bl_dct, ty_int_int, ty_int_bool, ty_int_str, ty_int_tup, ty_int_lst, ty_int_dct, ty_str_int, ty_str_bool, ty_str_str, ty_str_tup, ty_str_lst, ty_str_dct, ty_tup_int, ty_tup_bool, ty_tup_str, ty_tup_tup, ty_tup_lst, ty_tup_dct, tru_non, tru_bl, tru_int, tru_tup, lt_int, le_int, gt_int, ge_int, eq_d, ne_d, is_d, isn_d, inn_d, nin_d, isNon_n, isNon_i, isNon_t, isNon_s, isNon_r, isNon_b, eq_int, eq_str, eq_bl, add_int, sub_int, neg_int, len_tup, bi_int_i, bi_int_b, bi_min, bi_max, rngW_i, seqW_t, newO_d, Bool.not_true, Bool.not_false, decide_true, decide_false, Bool.true_and, Bool.and_true, Bool.false_and, Bool.and_false, Bool.true_or, Bool.or_true, Bool.false_or, Bool.or_false, List.length_cons, List.length_nil, Nat.zero_add, Nat.reduceAdd, Nat.reduceLeDiff, SZ, ↓reduceIte, v_fld, t_fld, v_fnv, v_calll, t_calll, v_repr, v_dct0, s_raise0, s_raise1, s_tryk, thn_ex, thn_exS, fin_ex, truR_ex, keep_nx, keep_rt, eq_non_non, eq_non_int, eq_int_non, eq_str_non, eq_non_str, eq_int_str, eq_str_int, c1, c2]
              · refine .inr (.inl ⟨.bl false, h2, ?_, ?_⟩)
                · have k1 : q.1 ≤ p.1 := by omega
                  simp (implicitDefEqProofs := false) only [ss_cons, ss_nil, s_asg, s_asgc, s_ex, s_ret, s_pass, s_iff, s_forr, s_setix, s_asgs, v_non, v_bl, v_int, v_str, v_var, v_glob, v_bin, v_neg, v_not, v_and, v_or, v_cmp, v_chn, v_ife, v_tup, v_lst, v_ix, v_sl, v_call, v_bi, v_bm, v_isi, v_lrng1, v_lrng2, v_comp, t_bl, t_int, t_var, t_glob, t_not, t_and, t_or, t_cmp, t_chn, t_call, t_bi, t_isi, t_ix, es_nil, es_cons, eo_none, eo_some, ec_none, ec_some, ei_seq, ei_rng1, ei_rng2, ei_enum, ei_zip, var0, varS, tg_nm, tg_tup, tgs_nil, tgs_cons, seq_tup, Option.bind_some, wipe_nil, wipe_cons, bind_ok', bind_ex', thn_ok, thn_nx, thn_rt, thn_bk, thn_ct, fin_nx, fin_rt, of_some, ob_sm, iteR_t, iteR_f, iteS_t, iteS_f, andR_t, andR_f, orR_t, orR_f, truR_b, intR_i, putS_s, putS'_s, setS_s, List.set_cons_succ, List.set_cons_zero, ty_non_int, ty_non_bool, ty_non_str, ty_non_tup, ty_non_lst, ty_non_dct, ty_bl_int, ty_bl_bool, ty_bl_str, ty_bl_tup, ty_bl_lst, ty_bl_dct, ty_int_int, ty_int_bool, ty_int_str, ty_int_tup, ty_int_lst, ty_int_dct, ty_str_int, ty_str_bool, ty_str_str, ty_str_tup, ty_str_lst, ty_str_dct, ty_tup_int, ty_tup_bool, ty_tup_str, ty_tup_tup, ty_tup_lst, ty_tup_dct, tru_non, tru_bl, tru_int, tru_tup, lt_int, le_int, gt_int, ge_int, eq_d, ne_d, is_d, isn_d, inn_d, nin_d, isNon_n, isNon_i, isNon_t, isNon_s, isNon_r, isNon_b, eq_int, eq_str, eq_bl, add_int, sub_int, neg_int, len_tup, bi_int_i, bi_int_b, bi_min, bi_max, rngW_i, seqW_t, newO_d, Bool.not_true, Bool.not_false, decide_true, decide_false, Bool.true_and, Bool.and_true, Bool.false_and, Bool.and_false, Bool.true_or, Bool.or_true, Bool.false_or, Bool.or_false, List.length_cons, List.length_nil, Nat.zero_add, Nat.reduceAdd, Nat.reduceLeDiff, SZ, ↓reduceIte, v_fld, t_fld, v_fnv, v_calll, t_calll, v_repr, v_dct0, s_raise0, s_raise1, s_tryk, thn_ex, thn_exS, fin_ex, truR_ex, keep_nx, keep_rt, eq_non_non, eq_non_int, eq_int_non, eq_str_non, eq_non_str, eq_int_str, eq_str_int, pD, IsHL2, k1]
                · rw [e5]; simp (implicitDefEqProofs := false) only [ss_cons, ss_nil, s_asg, s_asgc, s_ex, s_ret, s_pass, s_iff, s_forr, s_setix, s_asgs, v_non, v_bl, v_int, v_str, v_var, v_glob, v_bin, v_neg, v_not, v_and, v_or, v_cmp, v_chn, v_ife, v_tup, v_lst, v_ix, v_sl, v_call, v_bi, v_bm, v_isi, v_lrng1, v_lrng2, v_comp, t_bl, t_int, t_var, t_glob, t_not, t_and, t_or, t_cmp, t_chn, t_call, t_bi, t_isi, t_ix, es_nil, es_cons, eo_none, eo_some, ec_none, ec_some, ei_seq, ei_rng1, ei_rng2, ei_enum, ei_zip, var0, varS, tg_nm, tg_tup, tgs_nil, tgs_cons, seq_tup, Option.bind_some, wipe_nil, wipe_cons, bind_ok', bind_ex', thn_ok, thn_nx, thn_rt, thn_bk, thn_ct, fin_nx, fin_rt, of_some, ob_sm, iteR_t, iteR_f, iteS_t, iteS_f, andR_t, andR_f, orR_t, orR_f, truR_b, intR_i, putS_s, putS'_s, setS_s, List.set_cons_succ, List.set_cons_zero, ty_non_int, ty_non_bool, ty_non_str, ty_non_tup, ty_non_lst, ty_non_dct, ty_bl_int, ty_bl_bool, ty_bl_str, ty_bl_tup, ty_bl_lst, ty_bl_dct, ty_int_int, ty_int_bool, ty_int_str, ty_int_tup, ty_int_lst, ty_int_dct, ty_str_int, ty_str_bool, ty_str_str, ty_str_tup, ty_str_lst, ty_str_dct, ty_tup_int, ty_tup_bool, ty_tup_str, ty_tup_tup, ty_tup_lst, ty_tup_dct, tru_non, tru_bl, tru_int, tru_tup, lt_int, le_int, gt_int, ge_int, eq_d, ne_d, is_d, isn_d, inn_d, nin_d, isNon_n, isNon_i, isNon_t, isNon_s, isNon_r, isNon_b, eq_int, eq_str, eq_bl, add_int, sub_int, neg_int, len_tup, bi_int_i, bi_int_b, bi_min, bi_max, rngW_i, seqW_t, newO_d, Bool.not_true, Bool.not_false, decide_true, decide_false, Bool.true_and, Bool.and_true, Bool.false_and, Bool.and_false, Bool.true_or, Bool.or_true, Bool.false_or, Bool.or_false, List.length_cons, List.length_nil, Nat.zero_add, Nat.reduceAdd, Nat.reduceLeDiff, SZ, ↓reduceIte, v_fld, t_fld, v_fnv, v_calll, t_calll, v_repr, v_dct0, s_raise0, s_raise1, s_tryk, thn_ex, thn_exS, fin_ex, truR_ex, keep_nx, keep_rt, eq_non_non, eq_non_int, eq_int_non, eq_str_non, eq_non_str, eq_int_str, eq_str_int, c1]
          · subst e1 e3
            have u : upB ys = true := by
              match ys, e4 with
              | [], _ => rfl
              | [_], _ => rfl
              | y :: z :: ys, e4 => rw [zip_pairs] at e4; cases e4
            match xs, l1 with
            | x :: xs', _ =>
              obtain ⟨p, hp⟩ := all x (by simp)
              obtain ⟨rfl, _⟩ := prOf_some hp
              have i0 : ixD (.tup (pD p :: xs')) (.int 0) h2 = some (pD p, h2) := ixt h2 _ 0 _ rfl
              have i1 : ixD (pD p) (.int 1) h2 = some (.int p.2, h2) := ixt h2 _ 1 _ rfl
              simp (implicitDefEqProofs := false) only [ss_cons, ss_nil, s_asg, s_asgc, s_ex, s_ret, s_pass, s_iff, s_forr, s_setix, s_asgs, v_non, v_bl, v_int, v_str, v_var, v_glob, v_bin, v_neg, v_not, v_and, v_or, v_cmp, v_chn, v_ife, v_tup, v_lst, v_ix, v_sl, v_call, v_bi, v_bm, v_isi, v_lrng1, v_lrng2, v_comp, t_bl, t_int, t_var, t_glob, t_not, t_and, t_or, t_cmp, t_chn, t_call, t_bi, t_isi, t_ix, es_nil, es_cons, eo_none, eo_some, ec_none, ec_some, ei_seq, ei_rng1, ei_rng2, ei_enum, ei_zip, var0, varS, tg_nm, tg_tup, tgs_nil, tgs_cons, seq_tup, Option.bind_some, wipe_nil, wipe_cons, bind_ok', bind_ex', thn_ok, thn_nx, thn_rt, thn_bk, thn_ct, fin_nx, fin_rt, of_some, ob_sm, iteR_t, iteR_f, iteS_t, iteS_f, andR_t, andR_f, orR_t, orR_f, truR_b, intR_i, putS_s, putS'_s, setS_s, List.set_cons_succ, List.set_cons_zero, ty_non_int, ty_non_bool, ty_non_str, ty_non_tup, ty_non_lst, ty_non_dct, ty_bl_int, ty_bl_bool, ty_bl_str, ty_bl_tup, ty_bl_lst, ty_bl_dct, ty_int_int, ty_int_bool, ty_int_str, ty_int_tup, ty_int_lst, ty_int_dct, ty_str_int, ty_str_bool, ty_str_str, ty_str_tup, ty_str_lst, ty_str_dct, ty_tup_int, ty_tup_bool, ty_tup_str, ty_tup_tup, ty_tup_lst, ty_tup_dct, tru_non, tru_bl, tru_int, tru_tup, lt_int, le_int, gt_int, ge_int, eq_d, ne_d, is_d, isn_d, inn_d, nin_d, isNon_n, isNon_i, isNon_t, isNon_s, isNon_r, isNon_b, eq_int, eq_str, eq_bl, add_int, sub_int, neg_int, len_tup, bi_int_i, bi_int_b, bi_min, bi_max, rngW_i, seqW_t, newO_d, Bool.not_true, Bool.not_false, decide_true, decide_false, Bool.true_and, Bool.and_true, Bool.false_and, Bool.and_false, Bool.true_or, Bool.or_true, Bool.false_or, Bool.or_false, List.length_cons, List.length_nil, Nat.zero_add, Nat.reduceAdd, Nat.reduceLeDiff, SZ, ↓reduceIte, v_fld, t_fld, v_fnv, v_calll, t_calll, v_repr, v_dct0, s_raise0, s_raise1, s_tryk, thn_ex, thn_exS, fin_ex, truR_ex, keep_nx, keep_rt, eq_non_non, eq_non_int, eq_int_non, eq_str_non, eq_non_str, eq_int_str, eq_str_int, i0, i1, al, e5, u, zeroB, hp]
      · have d1 : decide ((1 : Int) ≤ (xs.length : Int)) = true := decide_eq_true (by omega)
        have d2 : decide ((xs.length : Int) ≤ 60) = false := decide_eq_false (by omega)
        have hi : isHB (.tup xs) = false := by simp [isHB, l2]
        simp (implicitDefEqProofs := false) only [ss_cons, ss_nil, s_asg, s_asgc, s_ex, s_ret, s_pass, s_iff, s_forr, s_setix, s_asgs, v_non, v_bl, v_int, v_str, v_var, v_glob, v_bin, v_neg, v_not, v_and, v_or, v_cmp, v_chn, v_ife, v_tup, v_lst, v_ix, v_sl, v_call, v_bi, v_bm, v_isi, v_lrng1, v_lrng2, v_comp, t_bl, t_int, t_var, t_glob, t_not, t_and, t_or, t_cmp, t_chn, t_call, t_bi, t_isi, t_ix, es_nil, es_cons, eo_none, eo_some, ec_none, ec_some, ei_seq, ei_rng1, ei_rng2, ei_enum, ei_zip, var0, varS, tg_nm, tg_tup, tgs_nil, tgs_cons, seq_tup, Option.bind_some, wipe_nil, wipe_cons, bind_ok', bind_ex', thn_ok, thn_nx, thn_rt, thn_bk, thn_ct, fin_nx, fin_rt, of_some, ob_sm, iteR_t, iteR_f, iteS_t, iteS_f, andR_t, andR_f, orR_t, orR_f, truR_b, intR_i, putS_s, putS'_s, setS_s, List.set_cons_succ, List.set_cons_zero, ty_non_int, ty_non_bool, ty_non_str, ty_non_tup, ty_non_lst, ty_non_dct, ty_bl_int, ty_bl_bool, ty_bl_str, ty_bl_tup, ty_bl_lst, ty_bl_dct, ty_int_int, ty_int_bool, ty_int_str, ty_int_tup, ty_int_lst, ty_int_dct, ty_str_int, ty_str_bool, ty_str_str, ty_str_tup, ty_str_lst, ty_str_dct, ty_tup_int, ty_tup_bool, ty_tup_str, ty_tup_tup, ty_tup_lst, ty_tup_dct, tru_non, tru_bl, tru_int, tru_tup, lt_int, le_int, gt_int, ge_int, eq_d, ne_d, is_d, isn_d, inn_d, nin_d, isNon_n, isNon_i, isNon_t, isNon_s, isNon_r, isNon_b, eq_int, eq_str, eq_bl, add_int, sub_int, neg_int, len_tup, bi_int_i, bi_int_b, bi_min, bi_max, rngW_i, seqW_t, newO_d, Bool.not_true, Bool.not_false, decide_true, decide_false, Bool.true_and, Bool.and_true, Bool.false_and, Bool.and_false, Bool.true_or, Bool.or_true, Bool.false_or, Bool.or_false, List.length_cons, List.length_nil, Nat.zero_add, Nat.reduceAdd, Nat.reduceLeDiff, SZ, ↓reduceIte, v_fld, t_fld, v_fnv, v_calll, t_calll, v_repr, v_dct0, s_raise0, s_raise1, s_tryk, thn_ex, thn_exS, fin_ex, truR_ex, keep_nx, keep_rt, eq_non_non, eq_non_int, eq_int_non, eq_str_non, eq_non_str, eq_int_str, eq_str_int, IsHB, hs, d1, d2, hi]
    · have d1 : decide ((1 : Int) ≤ (xs.length : Int)) = false := decide_eq_false (by omega)
      have hi : isHB (.tup xs) = false := by simp [isHB, l1]
      simp (implicitDefEqProofs := false) only [ss_cons, ss_nil, s_asg, s_asgc, s_ex, s_ret, s_pass, s_iff, s_forr, s_setix, s_asgs, v_non, v_bl, v_int, v_str, v_var, v_glob, v_bin, v_neg, v_not, v_and, v_or, v_cmp, v_chn, v_ife, v_tup, v_lst, v_ix, v_sl, v_call, v_bi, v_bm, v_isi, v_lrng1, v_lrng2, v_comp, t_bl, t_int, t_var, t_glob, t_not, t_and, t_or, t_cmp, t_chn, t_call, t_bi, t_isi, t_ix, es_nil, es_cons, eo_none, eo_some, ec_none, ec_some, ei_seq, ei_rng1, ei_rng2, ei_enum, ei_zip, var0, varS, tg_nm, tg_tup, tgs_nil, tgs_cons, seq_tup, Option.bind_some, wipe_nil, wipe_cons, bind_ok', bind_ex', thn_ok, thn_nx, thn_rt, thn_bk, thn_ct, fin_nx, fin_rt, of_some, ob_sm, iteR_t, iteR_f, iteS_t, iteS_f, andR_t, andR_f, orR_t, orR_f, truR_b, intR_i, putS_s, putS'_s, setS_s, List.set_cons_succ, List.set_cons_zero, ty_non_int, ty_non_bool, ty_non_str, ty_non_tup, ty_non_lst, ty_non_dct, ty_bl_int, ty_bl_bool, ty_bl_str, ty_bl_tup, ty_bl_lst, ty_bl_dct, ty_int_int, ty_int_bool, ty_int_str, ty_int_tup, ty_int_lst, ty_int_dct, ty_str_int, ty_str_bool, ty_str_str, ty_str_tup, ty_str_lst, ty_str_dct, ty_tup_int, ty_tup_bool, ty_tup_str, ty_tup_tup, ty_tup_lst, ty_tup_dct, tru_non, tru_bl, tru_int, tru_tup, lt_int, le_int, gt_int, ge_int, eq_d, ne_d, is_d, isn_d, inn_d, nin_d, isNon_n, isNon_i, isNon_t, isNon_s, isNon_r, isNon_b, eq_int, eq_str, eq_bl, add_int, sub_int, neg_int, len_tup, bi_int_i, bi_int_b, bi_min, bi_max, rngW_i, seqW_t, newO_d, Bool.not_true, Bool.not_false, decide_true, decide_false, Bool.true_and, Bool.and_true, Bool.false_and, Bool.and_false, Bool.true_or, Bool.or_true, Bool.false_or, Bool.or_false, List.length_cons, List.length_nil, Nat.zero_add, Nat.reduceAdd, Nat.reduceLeDiff, SZ, ↓reduceIte, v_fld, t_fld, v_fnv, v_calll, t_calll, v_repr, v_dct0, s_raise0, s_raise1, s_tryk, thn_ex, thn_exS, fin_ex, truR_ex, keep_nx, keep_rt, eq_non_non, eq_non_int, eq_int_non, eq_str_non, eq_non_str, eq_int_str, eq_str_int, IsHB, hs, d1, hi]
  · have hv : ∀ xs, v ≠ .tup xs := fun xs z => ht ⟨xs, z⟩
    have ty := ty_tupv (T := T) ok.okv hv
    have ip : isHB v = false := by cases v <;> first | rfl | exact absurd rfl (hv _)
    simp (implicitDefEqProofs := false) only [ss_cons, ss_nil, s_asg, s_asgc, s_ex, s_ret, s_pass, s_iff, s_forr, s_setix, s_asgs, v_non, v_bl, v_int, v_str, v_var, v_glob, v_bin, v_neg, v_not, v_and, v_or, v_cmp, v_chn, v_ife, v_tup, v_lst, v_ix, v_sl, v_call, v_bi, v_bm, v_isi, v_lrng1, v_lrng2, v_comp, t_bl, t_int, t_var, t_glob, t_not, t_and, t_or, t_cmp, t_chn, t_call, t_bi, t_isi, t_ix, es_nil, es_cons, eo_none, eo_some, ec_none, ec_some, ei_seq, ei_rng1, ei_rng2, ei_enum, ei_zip, var0, varS, tg_nm, tg_tup, tgs_nil, tgs_cons, seq_tup, Option.bind_some, wipe_nil, wipe_cons, bind_ok', bind_ex', thn_ok, thn_nx, thn_rt, thn_bk, thn_ct, fin_nx, fin_rt, of_some, ob_sm, iteR_t, iteR_f, iteS_t, iteS_f, andR_t, andR_f, orR_t, orR_f, truR_b, intR_i, putS_s, putS'_s, setS_s, List.set_cons_succ, List.set_cons_zero, ty_non_int, ty_non_bool, ty_non_str, ty_non_tup, ty_non_lst, ty_non_dct, ty_bl_int, ty_bl_bool, ty_bl_str, ty_bl_tup, ty_bl_lst, ty_bl_dct, ty_int_int, ty_int_bool, ty_int_str, ty_int_tup, ty_int_lst, ty_int_dct, ty_str_int, ty_str_bool, ty_str_str, ty_str_tup, ty_str_lst, ty_str_dct, ty_tup_int, ty_tup_bool, ty_tup_str, ty_tup_tup, ty_tup_lst, ty_tup_dct, tru_non, tru_bl, tru_int, tru_tup, lt_int, le_int, gt_int, ge_int, eq_d, ne_d, is_d, isn_d, inn_d, nin_d, isNon_n, isNon_i, isNon_t, isNon_s, isNon_r, isNon_b, eq_int, eq_str, eq_bl, add_int, sub_int, neg_int, len_tup, bi_int_i, bi_int_b, bi_min, bi_max, rngW_i, seqW_t, newO_d, Bool.not_true, Bool.not_false, decide_true, decide_false, Bool.true_and, Bool.and_true, Bool.false_and, Bool.and_false, Bool.true_or, Bool.or_true, Bool.false_or, Bool.or_false, List.length_cons, List.length_nil, Nat.zero_add, Nat.reduceAdd, Nat.reduceLeDiff, SZ, ↓reduceIte, v_fld, t_fld, v_fnv, v_calll, t_calll, v_repr, v_dct0, s_raise0, s_raise1, s_tryk, thn_ex, thn_exS, fin_ex, truR_ex, keep_nx, keep_rt, eq_non_non, eq_non_int, eq_int_non, eq_str_non, eq_non_str, eq_int_str, eq_str_int, IsHB, ty, ip]
end Py
namespace Py
theorem up_map : ∀ (xs : List Pr), (∀ p ∈ xs, 0 ≤ p.1 ∧ p.1 ≤ 1000000000 ∧ 0 ≤ p.2 ∧ p.2 ≤ 1000000) → (∀ (i : Nat) (p q : Pr), xs[i]? = some p → xs[i + 1]? = some q → p.1 < q.1 ∧ p.2 ≤ q.2) → upB (xs.map pD) = true
  | [], _, _ => rfl
  | [_], _, _ => rfl
  | p :: q :: r, hb, hu => by
    have ih := up_map (q :: r) (fun x hx => hb x (by simp [hx])) fun i a b ha hb => hu (i + 1) a b ha hb
    have c := hu 0 p q rfl rfl
    simp only [List.map_cons] at ih ⊢
    simp only [upB, prOf_pD (hb p (by simp)), prOf_pD (hb q (by simp)), ih, decide_eq_true c.1, decide_eq_true c.2]
    rfl
theorem Hist.bds {xs : List Pr} (H : Hist xs) : ∀ p ∈ xs, 0 ≤ p.1 ∧ p.1 ≤ 1000000000 ∧ 0 ≤ p.2 ∧ p.2 ≤ 1000000 := fun p hp => by
  obtain ⟨i, hi⟩ := List.getElem?_of_mem hp
  have b := H.bd i p hi
  have := (List.getElem?_eq_some_iff.mp hi).1
  have := H.le
  exact ⟨b.1, by omega, b.2.2.1, b.2.2.2⟩
theorem isHB_hist {xs : List Pr} (H : Hist xs) : isHB (hD xs) = true := by
  have b := H.bds
  obtain ⟨l, hl⟩ := H.hd
  have ne := H.ne
  have le := H.le
  have al : (xs.map pD).all isPB = true := by
    rw [List.all_eq_true]
    intro x hx
    obtain ⟨p, hp, rfl⟩ := List.mem_map.mp hx
    simp [isPB, prOf_pD (b p hp)]
  have z : zeroB (xs.map pD) = true := by
    cases xs with
    | nil => simp at ne
    | cons p r =>
      simp only [List.map_cons, zeroB, prOf_pD (b p (by simp))]
      simp at hl
      simp [hl]
  simp only [isHB, hD, al, z, up_map xs b H.up, List.length_map]
  simp [ne, le]
  omega
theorem okH_hist {xs : List Pr} (h : Hh) : okH h (hD xs) := fun x hx => by
  obtain ⟨p, _, rfl⟩ := List.mem_map.mp hx
  intro y hy
  simp [pD] at hy
  rcases hy with rfl | rfl <;> trivial
end Py
/-! Data whose repr is told. -/
namespace Py
open PySem (PyData)
mutual
/-- v is data: how deep, how much; A: where its lists may stand -/
inductive Dat (h : Hh) (A : Nat → Prop) : Nat → Nat → D → Prop
  | non {n w : Nat} : Dat h A n w .non
  | bl {n w : Nat} (b : Bool) : Dat h A n w (.bl b)
  | int {n w : Nat} (i : Int) : i.natAbs < 2 ^ 200 → Dat h A n w (.int i)
  | str {n w : Nat} (s : List Nat) : s.length ≤ w → (∀ c ∈ s, c < 0x110000) → Dat h A n w (.str s)
  | tup {n w : Nat} {xs : List D} : Dats h A n w xs → Dat h A (n + 1) w (.tup xs)
  | lst {n w m : Nat} {xs : List D} {f : Bool} : A m → h[m]? = some (.lst xs f) → Dats h A n w xs → Dat h A (n + 1) w (.ref m)
inductive Dats (h : Hh) (A : Nat → Prop) : Nat → Nat → List D → Prop
  | nil {n w : Nat} : Dats h A n w []
  | cons {n w a b : Nat} {x : D} {xs : List D} : Dat h A n a x → Dats h A n b xs → a + 1 + b ≤ w → Dats h A n w (x :: xs)
end
/-- h' has what A tells of h -/
def Ag (A : Nat → Prop) (h h' : Hh) : Prop := ∀ m o, A m → h[m]? = some o → h'[m]? = some o
theorem Ag.refl {A : Nat → Prop} {h : Hh} : Ag A h h := fun _ _ _ e => e
theorem Ag.trans {A : Nat → Prop} {a b c : Hh} (x : Ag A a b) (y : Ag A b c) : Ag A a c := fun m o q e => y m o q (x m o q e)
theorem Ag.app {A : Nat → Prop} {h h' : Hh} (x : Ag A h h') (e : Hh) : Ag A h (h' ++ e) := fun m o q z => get_app (x m o q z)
def fine (p : PyData) (w : Nat) : Prop := p.showable = true ∧ p.leavesShort 201 = true ∧ p.bulk ≤ w
def fines (ps : List PyData) (w : Nat) : Prop := PyData.showableAll ps = true ∧ PyData.leavesShortAll 201 ps = true ∧ PyData.bulkAll ps ≤ w
theorem str_cp (s : List Nat) (h : ∀ c ∈ s, c < 0x110000) : (s.all fun c => decide (c < 0x110000)) = true := by
  rw [List.all_eq_true]
  exact fun c hc => decide_eq_true (h c hc)
mutual
theorem Dat.toP {h : Hh} {A : Nat → Prop} : ∀ {n w : Nat} {v : D}, Dat h A n w v → ∀ f, n ≤ f → ∃ p, fine p w ∧ ∀ h', Ag A h h' → Py.toP h' f v = some p
  | _, w, _, .non, f, _ => ⟨.none, ⟨rfl, rfl, by simp [PyData.bulk]⟩, fun _ _ => by cases f <;> rfl⟩
  | _, w, _, .bl b, f, _ => ⟨.bool b, ⟨rfl, rfl, by simp [PyData.bulk]⟩, fun _ _ => by cases f <;> rfl⟩
  | _, w, _, .int i hi, f, _ => by
    have l2 : i.natAbs.log2 < 200 := by
      by_cases z : i.natAbs = 0
      · rw [z]; decide
      · exact (Nat.log2_lt z).mpr hi
    have tl := PySem.int_text_length_le (a := i) (k := 200) (by decide) l2
    refine ⟨.int i, ⟨by simp only [PyData.showable]; exact decide_eq_true (by omega), ?_, by simp [PyData.bulk]⟩, fun _ _ => by cases f <;> rfl⟩
    simp only [PyData.leavesShort]
    refine decide_eq_true (Nat.le_trans ?_ tl)
    exact Nat.le_of_eq (by simp only [PyData.shown]; exact PySem.ofString_length _)
  | _, w, _, .str s hs hc, f, _ => by
    have q := str_cp s hc
    refine ⟨.str ⟨s.toArray⟩, ⟨rfl, ?_, by simpa [PyData.bulk] using hs⟩, fun _ _ => by cases f <;> (unfold Py.toP; rw [if_pos q])⟩
    simp only [PyData.leavesShort, List.all_eq_true, decide_eq_true_eq]
    intro c hc'
    have := hc c (by simpa using hc')
    omega
  | n + 1, w, _, .tup ds, f + 1, hf => by
    obtain ⟨ps, fn, e⟩ := Dats.toPs ds f (by omega)
    refine ⟨.tuple ps, ⟨by simpa only [PyData.showable] using fn.1, by simpa only [PyData.leavesShort] using fn.2.1, by simpa only [PyData.bulk] using fn.2.2⟩, fun h' k => ?_⟩
    unfold Py.toP
    rw [e h' k]; rfl
  | n + 1, w, _, .lst (m := m) am g ds, f + 1, hf => by
    obtain ⟨ps, fn, e⟩ := Dats.toPs ds f (by omega)
    refine ⟨.list ps, ⟨by simpa only [PyData.showable] using fn.1, by simpa only [PyData.leavesShort] using fn.2.1, by simpa only [PyData.bulk] using fn.2.2⟩, fun h' k => ?_⟩
    unfold Py.toP
    simp only [k m _ am g]
    rw [e h' k]; rfl
theorem Dats.toPs {h : Hh} {A : Nat → Prop} : ∀ {n w : Nat} {xs : List D}, Dats h A n w xs → ∀ f, n ≤ f → ∃ ps, fines ps w ∧ ∀ h', Ag A h h' → xs.mapM (Py.toP h' f) = some ps
  | _, w, _, .nil, f, _ => ⟨[], ⟨rfl, rfl, by simp [PyData.bulkAll]⟩, fun _ _ => rfl⟩
  | _, w, _, .cons dx ds hw, f, hf => by
    obtain ⟨p, fp, e1⟩ := Dat.toP dx f hf
    obtain ⟨ps, fps, e2⟩ := Dats.toPs ds f hf
    refine ⟨p :: ps, ⟨by simp only [PyData.showableAll, fp.1, fps.1]; rfl, by simp only [PyData.leavesShortAll, fp.2.1, fps.2.1]; rfl, ?_⟩, fun h' k => ?_⟩
    · have := fp.2.2
      have := fps.2.2
      simp only [PyData.bulkAll]
      omega
    · rw [List.mapM_cons, e1 h' k, e2 h' k]; rfl
end
theorem Dat.repr {h : Hh} {A : Nat → Prop} {n w : Nat} {v : D} (d : Dat h A n w v) (hn : n ≤ 24) (hw : w ≤ 4000) : ∃ s, ∀ h', Ag A h h' → reprD v h' = some (.str s, h') := by
  obtain ⟨p, fp, e⟩ := d.toP deepest (by unfold deepest; omega)
  have sl := PyData.shown_le_bulk 201 (by decide) p fp.2.1
  have hb := fp.2.2
  have c : p.showable = true ∧ p.shown.length ≤ SZ := ⟨fp.1, by unfold SZ; omega⟩
  refine ⟨p.shown.cps.toList, fun h' k => ?_⟩
  have rp : reprP v h' = some (.str p.shown.cps.toList, h') := by
    unfold reprP
    rw [e h' k]
    exact if_pos c
  cases d with
  | lst am g ds =>
    unfold reprD
    simp only [k _ _ am g]
    exact rp
  | _ => exact rp
end Py
namespace Py
def okS (xs : List (List Nat)) : Bool := xs.all fun s => s.all fun c => decide (c < 0x110000)
def toS (s : List Nat) : PySem.PyData := .str ⟨s.toArray⟩
theorem toP_strs {h : Hh} {m : Nat} : ∀ {xs : List (List Nat)}, okS xs = true → (xs.map D.str).mapM (toP h m) = some (xs.map toS)
  | [], _ => rfl
  | x :: xs, hx => by
    simp only [okS, List.all_cons, Bool.and_eq_true] at hx
    rw [List.map_cons, List.mapM_cons, toP_strs (by simp only [okS]; exact hx.2)]
    have : toP h m (.str x) = some (toS x) := by cases m <;> (unfold toP; rw [if_pos hx.1]; rfl)
    rw [this]
    rfl
theorem eqv_strs : ∀ {xs ys : List (List Nat)}, PySem.PyData.eqvAll (xs.map toS) (ys.map toS) = decide (xs = ys)
  | [], [] => by simp [PySem.PyData.eqvAll]
  | [], _ :: _ => by simp [PySem.PyData.eqvAll]
  | _ :: _, [] => by simp [PySem.PyData.eqvAll]
  | x :: xs, y :: ys => by
    simp only [List.map_cons, PySem.PyData.eqvAll, eqv_strs, toS, PySem.PyData.eqv, List.cons.injEq, Bool.decide_and]
    congr 1
    by_cases z : x = y
    · subst z; simp
    · rw [decide_eq_false z]
      rw [beq_eq_false_iff_ne]
      intro q
      exact z (by simpa using q)
theorem eq_strs {h : Hh} {n m : Nat} {f g : Bool} (xs ys : List (List Nat)) (hx : okS xs = true) (hy : okS ys = true) (e : h[n]? = some (.lst (xs.map .str) f)) (e2 : h[m]? = some (.lst (ys.map .str) g)) : eqD h (.ref n) (.ref m) = some (decide (xs = ys)) := by
  have t : ∀ {k : Nat} {zs : List (List Nat)} {f : Bool}, okS zs = true → h[k]? = some (.lst (zs.map .str) f) → toP h deepest (.ref k) = some (.list (zs.map toS)) := fun {k zs f} hz q => by
    unfold deepest toP
    simp only [q, toP_strs hz]
    rfl
  simp only [eqD, t hx e, t hy e2, PySem.PyData.eqv, eqv_strs]
theorem up_lt : ∀ (r : List Pr) (p q : Pr), upB ((p :: (r ++ [q])).map pD) = true → p.1 < q.1
  | [], p, q, h => by
    simp only [List.nil_append, List.map_cons, List.map_nil, upB, Bool.and_eq_true] at h
    split at h
    · rename_i a b ha hb
      have e1 := (prOf_some ha).1
      have e2 := (prOf_some hb).1
      simp only [pD, D.tup.injEq, List.cons.injEq, D.int.injEq] at e1 e2
      have := of_decide_eq_true (Bool.and_eq_true_iff.mp h.1).1
      omega
    · simp at h
  | x :: r, p, q, h => by
    simp only [List.cons_append, List.map_cons, upB, Bool.and_eq_true] at h
    have ih := up_lt r x q (by simpa using h.2)
    have h1 := h.1
    split at h1
    · rename_i a b ha hb
      have e1 := (prOf_some ha).1
      have e2 := (prOf_some hb).1
      simp only [pD, D.tup.injEq, List.cons.injEq, D.int.injEq] at e1 e2
      have := of_decide_eq_true (Bool.and_eq_true_iff.mp h1).1
      omega
    · simp at h1
theorem not_up {p : Pr} {r : List Pr} : isHB (.tup ((p :: r).map pD ++ [pD p])) = false := by
  have e : (p :: r).map pD ++ [pD p] = (p :: (r ++ [p])).map pD := by simp
  rw [e]
  rw [Bool.eq_false_iff]
  intro z
  simp only [isHB, Bool.and_eq_true] at z
  have := up_lt r p p z.2.2.2.1
  omega
/-- a place that is none, whose repr is told -/
structure Wr (sa : Nat) (h : Hh) (v : D) : Prop where
  u : uptoB v 1000000 = false
  o : ∀ h', Ag (fun m => m ≠ sa) h h' → okv h' v
  r : ∃ s, ∀ h', Ag (fun m => m ≠ sa) h h' → reprD v h' = some (.str s, h')
theorem Wr.later {sa : Nat} {h h' : Hh} {v : D} (x : Wr sa h v) (a : Ag (fun m => m ≠ sa) h h') : Wr sa h' v :=
  ⟨x.u, fun _ b => x.o _ (a.trans b), let ⟨s, q⟩ := x.r; ⟨s, fun _ b => q _ (a.trans b)⟩⟩
theorem Wr.of {sa : Nat} {h : Hh} {v : D} {n w : Nat} (u : uptoB v 1000000 = false) (o : ∀ h', Ag (fun m => m ≠ sa) h h' → okv h' v) (d : Dat h (fun m => m ≠ sa) n w v) (hn : n ≤ 24) (hw : w ≤ 4000) : Wr sa h v := ⟨u, o, d.repr hn hw⟩
theorem Kp.ag {sa : Nat} {h h' : Hh} (k : Kp sa h h') : Ag (fun m => m ≠ sa) h h' := fun m o q e => k.2 m q o e
def nmF : D → Option D
  | .tup [a, .bl true] => some a
  | _ => none
end Py
/-! More on data: growing, later heaps, joined lists. -/
namespace Py
mutual
theorem Dat.mono {h : Hh} {A : Nat → Prop} : ∀ {n w n' w' : Nat} {v : D}, Dat h A n w v → n ≤ n' → w ≤ w' → Dat h A n' w' v
  | _, _, _, _, _, .non, _, _ => .non
  | _, _, _, _, _, .bl b, _, _ => .bl b
  | _, _, _, _, _, .int i hi, _, _ => .int i hi
  | _, _, _, _, _, .str s hs hc, _, hw => .str s (Nat.le_trans hs hw) hc
  | _, _, n' + 1, _, _, .tup ds, hn, hw => .tup (Dats.mono ds (by omega) hw)
  | _, _, n' + 1, _, _, .lst am g ds, hn, hw => .lst am g (Dats.mono ds (by omega) hw)
theorem Dats.mono {h : Hh} {A : Nat → Prop} : ∀ {n w n' w' : Nat} {xs : List D}, Dats h A n w xs → n ≤ n' → w ≤ w' → Dats h A n' w' xs
  | _, _, _, _, _, .nil, _, _ => .nil
  | _, _, _, _, _, .cons d ds hl, hn, hw => .cons (Dat.mono d hn (Nat.le_refl _)) (Dats.mono ds hn (Nat.le_refl _)) (Nat.le_trans hl hw)
end
mutual
theorem Dat.later {h h' : Hh} {A : Nat → Prop} (a : Ag A h h') : ∀ {n w : Nat} {v : D}, Dat h A n w v → Dat h' A n w v
  | _, _, _, .non => .non
  | _, _, _, .bl b => .bl b
  | _, _, _, .int i hi => .int i hi
  | _, _, _, .str s hs hc => .str s hs hc
  | _, _, _, .tup ds => .tup (Dats.later a ds)
  | _, _, _, .lst am g ds => .lst am (a _ _ am g) (Dats.later a ds)
theorem Dats.later {h h' : Hh} {A : Nat → Prop} (a : Ag A h h') : ∀ {n w : Nat} {xs : List D}, Dats h A n w xs → Dats h' A n w xs
  | _, _, _, .nil => .nil
  | _, _, _, .cons d ds hl => .cons (Dat.later a d) (Dats.later a ds) hl
end
theorem Dats.app {h : Hh} {A : Nat → Prop} {n : Nat} : ∀ {a b : Nat} {xs ys : List D}, Dats h A n a xs → Dats h A n b ys → Dats h A n (a + b) (xs ++ ys)
  | _, _, [], ys, _, d => d.mono (Nat.le_refl _) (by omega)
  | _, _, x :: xs, ys, .cons d ds hl, e => .cons d (Dats.app ds e) (by omega)
theorem Dats.one {h : Hh} {A : Nat → Prop} {n a : Nat} {x : D} (d : Dat h A n a x) : Dats h A n (a + 1) [x] := .cons (b := 0) d .nil (by omega)
/-- pairs of small numbers -/
def PL (ys : List D) : Prop := ∀ x ∈ ys, ∃ p : Pr, x = pD p ∧ p.1.natAbs < 2 ^ 200 ∧ p.2.natAbs < 2 ^ 200
theorem PL.dats {h : Hh} {A : Nat → Prop} : ∀ {ys : List D}, PL ys → Dats h A 1 (3 * ys.length) ys
  | [], _ => .nil
  | x :: ys, H => by
    obtain ⟨p, rfl, h1, h2⟩ := H x (by simp)
    have d : Dat h A 1 2 (pD p) := .tup (.cons (a := 0) (b := 1) (.int _ h1) (.cons (a := 0) (b := 0) (.int _ h2) .nil (by decide)) (by decide))
    exact .cons d (PL.dats fun y hy => H y (by simp [hy])) (by simp; omega)
theorem cut_mem {α : Type} {xs : List α} {lo hi : Option Int} {x : α} (hx : x ∈ cut xs lo hi) : x ∈ xs := List.mem_of_mem_drop (List.mem_of_mem_take hx)
theorem cut_len {α : Type} {xs : List α} {lo hi : Option Int} : (cut xs lo hi).length ≤ xs.length := by unfold cut; simp; omega
theorem PL.cut {ys : List D} {lo hi : Option Int} (H : PL ys) : PL (cut ys lo hi) := fun x hx => H x (cut_mem hx)
theorem natAbs_lt {i : Int} (h0 : -2000000000 ≤ i) (h1 : i ≤ 2000000000) : i.natAbs < 2 ^ 200 :=
  Nat.lt_of_le_of_lt (show i.natAbs ≤ 2000000000 by omega) (by decide)
theorem Hist.pl {xs : List Pr} (H : Hist xs) : PL (xs.map pD) := fun x hx => by
  obtain ⟨p, hp, rfl⟩ := List.mem_map.mp hx
  have := H.bds p hp
  exact ⟨p, rfl, natAbs_lt (by omega) (by omega), natAbs_lt (by omega) (by omega)⟩
mutual
theorem Dat.okv {h : Hh} {A : Nat → Prop} : ∀ {n w : Nat} {v : D}, Dat h A n w v → okv h v
  | _, _, _, .non => trivial
  | _, _, _, .bl _ => trivial
  | _, _, _, .int _ _ => trivial
  | _, _, _, .str _ _ _ => trivial
  | _, _, _, .tup _ => trivial
  | _, _, _, .lst _ g _ => ⟨_, g, trivial⟩
end
theorem Dats.mem {h : Hh} {A : Nat → Prop} : ∀ {n w : Nat} {xs : List D}, Dats h A n w xs → ∀ x ∈ xs, ∃ a, Dat h A n a x
  | _, _, _, .cons d ds _, x, hx => by
    rcases List.mem_cons.mp hx with rfl | hx
    · exact ⟨_, d⟩
    · exact ds.mem x hx
theorem Dat.okP {h : Hh} {A : Nat → Prop} {n w : Nat} {v : D} (d : Dat h A n w v) : okP h v := by
  cases d with
  | tup ds => exact fun x hx => let ⟨_, e⟩ := ds.mem x hx; e.okv
  | lst _ g _ => exact ⟨_, g, trivial⟩
  | _ => trivial
theorem Dat.okH {h : Hh} {A : Nat → Prop} {n w : Nat} {v : D} (d : Dat h A n w v) : okH h v := by
  cases d with
  | tup ds => exact fun x hx => let ⟨_, e⟩ := ds.mem x hx; e.okP
  | lst _ g _ => exact ⟨_, g, trivial⟩
  | _ => trivial
mutual
theorem Dat.weak {h : Hh} {A A' : Nat → Prop} (a : ∀ m, A m → A' m) : ∀ {n w : Nat} {v : D}, Dat h A n w v → Dat h A' n w v
  | _, _, _, .non => .non
  | _, _, _, .bl b => .bl b
  | _, _, _, .int i hi => .int i hi
  | _, _, _, .str s hs hc => .str s hs hc
  | _, _, _, .tup ds => .tup (Dats.weak a ds)
  | _, _, _, .lst am g ds => .lst (a _ am) g (Dats.weak a ds)
theorem Dats.weak {h : Hh} {A A' : Nat → Prop} (a : ∀ m, A m → A' m) : ∀ {n w : Nat} {xs : List D}, Dats h A n w xs → Dats h A' n w xs
  | _, _, _, .nil => .nil
  | _, _, _, .cons d ds hl => .cons (Dat.weak a d) (Dats.weak a ds) hl
end
/-- a thing a law may hand in; A: where its lists may stand -/
def Thg (A : Nat → Prop) (h : Hh) (v : D) : Prop := (∃ n w, n ≤ 24 ∧ w ≤ 4000 ∧ Dat h A n w v) ∨ ∃ m, A m ∧ v = .ref m ∧ h[m]? = some (.dct [] false)
theorem Thg.later {A : Nat → Prop} {h h' : Hh} {v : D} (x : Thg A h v) (a : Ag A h h') : Thg A h' v := by
  rcases x with ⟨n, w, h1, h2, d⟩ | ⟨m, h1, h2, g⟩
  · exact .inl ⟨n, w, h1, h2, d.later a⟩
  · exact .inr ⟨m, h1, h2, a _ _ h1 g⟩
theorem Thg.weak {A A' : Nat → Prop} {h : Hh} {v : D} (x : Thg A h v) (a : ∀ m, A m → A' m) : Thg A' h v := by
  rcases x with ⟨n, w, h1, h2, d⟩ | ⟨m, h1, h2, g⟩
  · exact .inl ⟨n, w, h1, h2, d.weak a⟩
  · exact .inr ⟨m, a _ h1, h2, g⟩
theorem Thg.okH {A : Nat → Prop} {h : Hh} {v : D} (x : Thg A h v) : okH h v := by
  rcases x with ⟨n, w, h1, h2, d⟩ | ⟨m, h1, rfl, g⟩
  · exact d.okH
  · exact ⟨_, g, trivial⟩
theorem Thg.repr {A : Nat → Prop} {h : Hh} {v : D} (x : Thg A h v) : ∃ s, ∀ h', Ag A h h' → reprD v h' = some (.str s, h') := by
  rcases x with ⟨n, w, h1, h2, d⟩ | ⟨m, h1, rfl, g⟩
  · exact d.repr h1 h2
  · refine ⟨[123, 125], fun h' a => ?_⟩
    unfold reprD
    simp only [a _ _ h1 g]
theorem bi_str_i {h : Hh} {i : Int} (h0 : -2000000000 ≤ i) (h1 : i ≤ 2000000000) : ∃ s : List Nat, biD .str [.int i] h = some (.str s, h) ∧ s.length ≤ 12 ∧ ∀ c ∈ s, c < 0x110000 := by
  have l2 : i.natAbs.log2 < 1920 := by
    by_cases z : i.natAbs = 0
    · rw [z]; decide
    · exact Nat.lt_trans ((Nat.log2_lt (k := 40) z).mpr (Nat.lt_of_le_of_lt (show i.natAbs ≤ 2000000000 by omega) (by decide))) (by decide)
  have tl := PySem.int_text_length_le10 (a := i) (k := 10) (by decide) (Nat.lt_of_le_of_lt (show i.natAbs ≤ 2000000000 by omega) (by decide))
  refine ⟨(PySem.Str.ofString (toString i)).cps.toList, ?_, ?_, ?_⟩
  · unfold biD
    simp only [l2, if_true]
  · rw [PySem.Str.ofString_eq_toList]
    simp only [List.length_map]
    have : (toString i).toList.length = (toString i).length := String.length_toList
    omega
  · rw [PySem.Str.ofString_eq_toList]
    intro c hc
    simp only [List.mem_map] at hc
    obtain ⟨d, _, rfl⟩ := hc
    exact d.valid.elim (fun q => Nat.lt_trans q (by decide)) (fun q => q.2)
end Py
/-! Data with dicts among it, whose repr is told. -/
namespace Py
open PySem (PyData)
mutual
/-- v is data, with dicts of one pair or none: how deep, how much; A: where it may stand -/
inductive Daq (h : Hh) (A : Nat → Prop) : Nat → Nat → D → Prop
  | non {n w : Nat} : Daq h A n w .non
  | bl {n w : Nat} (b : Bool) : Daq h A n w (.bl b)
  | int {n w : Nat} (i : Int) : i.natAbs < 2 ^ 200 → Daq h A n w (.int i)
  | str {n w : Nat} (s : List Nat) : s.length ≤ w → (∀ c ∈ s, c < 0x110000) → Daq h A n w (.str s)
  | tup {n w : Nat} {xs : List D} : Daqs h A n w xs → Daq h A (n + 1) w (.tup xs)
  | lst {n w m : Nat} {xs : List D} {f : Bool} : A m → h[m]? = some (.lst xs f) → Daqs h A n w xs → Daq h A (n + 1) w (.ref m)
  | dct0 {n w m : Nat} : A m → h[m]? = some (.dct [] false) → Daq h A (n + 1) w (.ref m)
  | dct1 {n w a b m : Nat} {x y : D} : A m → h[m]? = some (.dct [(x, y)] false) → isKey x = true → Daq h A n a x → Daq h A n b y → a + b + 2 ≤ w → Daq h A (n + 1) w (.ref m)
inductive Daqs (h : Hh) (A : Nat → Prop) : Nat → Nat → List D → Prop
  | nil {n w : Nat} : Daqs h A n w []
  | cons {n w a b : Nat} {x : D} {xs : List D} : Daq h A n a x → Daqs h A n b xs → a + 1 + b ≤ w → Daqs h A n w (x :: xs)
end
theorem int_fine {w : Nat} {i : Int} (hi : i.natAbs < 2 ^ 200) : fine (.int i) w := by
  have l2 : i.natAbs.log2 < 200 := by
    by_cases z : i.natAbs = 0
    · rw [z]; decide
    · exact (Nat.log2_lt z).mpr hi
  have tl := PySem.int_text_length_le (a := i) (k := 200) (by decide) l2
  refine ⟨by simp only [PyData.showable]; exact decide_eq_true (by omega), ?_, by simp [PyData.bulk]⟩
  simp only [PyData.leavesShort]
  refine decide_eq_true (Nat.le_trans ?_ tl)
  exact Nat.le_of_eq (by simp only [PyData.shown]; exact PySem.ofString_length _)
theorem str_fine {w : Nat} {s : List Nat} (hs : s.length ≤ w) (hc : ∀ c ∈ s, c < 0x110000) : fine (.str ⟨s.toArray⟩) w := by
  refine ⟨rfl, ?_, by simpa [PyData.bulk] using hs⟩
  simp only [PyData.leavesShort, List.all_eq_true, decide_eq_true_eq]
  intro c hc'
  have := hc c (by simpa using hc')
  omega
mutual
theorem Daq.toQ {h : Hh} {A : Nat → Prop} : ∀ {n w : Nat} {v : D}, Daq h A n w v → ∀ f, n ≤ f → ∃ p, fine p w ∧ (isKey v = true → keyP v = some p) ∧ ∀ h', Ag A h h' → Py.toQ h' f v = some p
  | _, w, _, .non, f, _ => ⟨.none, ⟨rfl, rfl, by simp [PyData.bulk]⟩, nofun, fun _ _ => by cases f <;> rfl⟩
  | _, w, _, .bl b, f, _ => ⟨.bool b, ⟨rfl, rfl, by simp [PyData.bulk]⟩, nofun, fun _ _ => by cases f <;> rfl⟩
  | _, w, _, .int i hi, f, _ => ⟨.int i, int_fine hi, fun _ => rfl, fun _ _ => by cases f <;> rfl⟩
  | _, w, _, .str s hs hc, f, _ => ⟨.str ⟨s.toArray⟩, str_fine hs hc, fun _ => if_pos (str_cp s hc), fun _ _ => by cases f <;> (unfold Py.toQ; rw [if_pos (str_cp s hc)])⟩
  | n + 1, w, _, .tup ds, f + 1, hf => by
    obtain ⟨ps, fn, e⟩ := Daqs.toQs ds f (by omega)
    refine ⟨.tuple ps, ⟨by simpa only [PyData.showable] using fn.1, by simpa only [PyData.leavesShort] using fn.2.1, by simpa only [PyData.bulk] using fn.2.2⟩, nofun, fun h' k => ?_⟩
    unfold Py.toQ
    rw [e h' k]; rfl
  | n + 1, w, _, .lst (m := m) am g ds, f + 1, hf => by
    obtain ⟨ps, fn, e⟩ := Daqs.toQs ds f (by omega)
    refine ⟨.list ps, ⟨by simpa only [PyData.showable] using fn.1, by simpa only [PyData.leavesShort] using fn.2.1, by simpa only [PyData.bulk] using fn.2.2⟩, nofun, fun h' k => ?_⟩
    unfold Py.toQ
    simp only [k m _ am g]
    rw [e h' k]; rfl
  | n + 1, w, _, .dct0 (m := m) am g, f + 1, hf => by
    refine ⟨.dict [], ⟨rfl, rfl, by simp [PyData.bulk, PyData.bulkKv]⟩, nofun, fun h' k => ?_⟩
    unfold Py.toQ
    simp only [k m _ am g]
    rfl
  | n + 1, w, _, .dct1 (m := m) (x := x) (y := y) am g hk dx dy hw, f + 1, hf => by
    obtain ⟨p, fp, kp, e1⟩ := Daq.toQ dx f (by omega)
    obtain ⟨q, fq, _, e2⟩ := Daq.toQ dy f (by omega)
    have b1 := fp.2.2
    have b2 := fq.2.2
    refine ⟨.dict [(p, q)], ⟨by simp only [PyData.showable, PyData.showableKv, fp.1, fq.1]; rfl, by simp only [PyData.leavesShort, PyData.leavesShortKv, fp.2.1, fq.2.1]; rfl, by simp only [PyData.bulk, PyData.bulkKv]; omega⟩, nofun, fun h' k => ?_⟩
    unfold Py.toQ
    simp only [k m _ am g, List.map_cons, List.map_nil, List.mapM_cons, List.mapM_nil, kp hk, e2 h' k]
    rfl
theorem Daqs.toQs {h : Hh} {A : Nat → Prop} : ∀ {n w : Nat} {xs : List D}, Daqs h A n w xs → ∀ f, n ≤ f → ∃ ps, fines ps w ∧ ∀ h', Ag A h h' → xs.mapM (Py.toQ h' f) = some ps
  | _, w, _, .nil, f, _ => ⟨[], ⟨rfl, rfl, by simp [PyData.bulkAll]⟩, fun _ _ => rfl⟩
  | _, w, _, .cons dx ds hw, f, hf => by
    obtain ⟨p, fp, _, e1⟩ := Daq.toQ dx f hf
    obtain ⟨ps, fps, e2⟩ := Daqs.toQs ds f hf
    refine ⟨p :: ps, ⟨by simp only [PyData.showableAll, fp.1, fps.1]; rfl, by simp only [PyData.leavesShortAll, fp.2.1, fps.2.1]; rfl, ?_⟩, fun h' k => ?_⟩
    · have := fp.2.2
      have := fps.2.2
      simp only [PyData.bulkAll]
      omega
    · rw [List.mapM_cons, e1 h' k, e2 h' k]; rfl
end
theorem mapM_mono {α β : Type} {g k : α → Option β} (q : ∀ x y, g x = some y → k x = some y) : ∀ {xs : List α} {ys : List β}, xs.mapM g = some ys → xs.mapM k = some ys
  | [], ys, e => by simpa using e
  | x :: xs, ys, e => by
    rw [List.mapM_cons] at e ⊢
    simp only [Option.pure_def, Option.bind_eq_bind, Option.bind_eq_some_iff] at e ⊢
    obtain ⟨y, h1, zs, h2, e⟩ := e
    exact ⟨y, q x y h1, zs, mapM_mono q h2, e⟩
theorem toP_toQ {h : Hh} : ∀ (f : Nat) (v : D) (p : PyData), Py.toP h f v = some p → Py.toQ h f v = some p
  | f, .non, p, e => by cases f <;> exact e
  | f, .bl b, p, e => by cases f <;> exact e
  | f, .int i, p, e => by cases f <;> exact e
  | f, .str s, p, e => by
    unfold Py.toP at e
    unfold Py.toQ
    exact e
  | 0, .tup xs, p, e => by simp [Py.toP] at e
  | f + 1, .tup xs, p, e => by
    simp only [Py.toP, Py.toQ, Option.map_eq_some_iff] at e ⊢
    obtain ⟨ps, h1, h2⟩ := e
    exact ⟨ps, mapM_mono (fun x y => toP_toQ f x y) h1, h2⟩
  | 0, .ref n, p, e => by simp [Py.toP] at e
  | f + 1, .ref n, p, e => by
    simp only [Py.toP, Py.toQ] at e ⊢
    cases g : h[n]? with
    | none => rw [g] at e; cases e
    | some o =>
      rw [g] at e
      cases o with
      | lst xs fz =>
        simp only [Option.map_eq_some_iff] at e ⊢
        obtain ⟨ps, h1, h2⟩ := e
        exact ⟨ps, mapM_mono (fun x y => toP_toQ f x y) h1, h2⟩
      | _ => cases e
  | f, .fn g, p, e => by cases f <;> simp [Py.toP] at e
theorem Daq.repr {h : Hh} {A : Nat → Prop} {n w : Nat} {v : D} (d : Daq h A n w v) (hn : n ≤ 24) (hw : w ≤ 4000) : ∃ s, ∀ h', Ag A h h' → reprD v h' = some (.str s, h') := by
  obtain ⟨p, fp, _, e⟩ := d.toQ deepest (by unfold deepest; omega)
  have sl := PyData.shown_le_bulk 201 (by decide) p fp.2.1
  have hb := fp.2.2
  have c : p.showable = true ∧ p.shown.length ≤ SZ := ⟨fp.1, by unfold SZ; omega⟩
  refine ⟨p.shown.cps.toList, fun h' k => ?_⟩
  have rp : reprP v h' = some (.str p.shown.cps.toList, h') := by
    unfold reprP
    cases z : Py.toP h' deepest v with
    | none =>
      simp only []
      unfold reprQ
      rw [e h' k]
      exact if_pos c
    | some q =>
      have := toP_toQ _ _ _ z
      rw [e h' k] at this
      cases this
      exact if_pos c
  have em : ∀ m, h'[m]? = some (.dct [] false) → v = .ref m → reprD v h' = some (.str p.shown.cps.toList, h') := fun m g z => by
    subst z
    have e2 := e h' k
    unfold deepest Py.toQ at e2
    simp only [g] at e2
    have : p = .dict [] := by
      have e3 : (some (PyData.dict []) : Option PyData) = some p := e2
      cases e3; rfl
    subst this
    unfold reprD
    simp only [g]
    rfl
  cases v with
  | ref m =>
    by_cases g : h'[m]? = some (.dct [] false)
    · exact em m g rfl
    · unfold reprD
      simp only []
      exact rp
  | _ => exact rp
mutual
theorem Daq.mono {h : Hh} {A : Nat → Prop} : ∀ {n w n' w' : Nat} {v : D}, Daq h A n w v → n ≤ n' → w ≤ w' → Daq h A n' w' v
  | _, _, _, _, _, .non, _, _ => .non
  | _, _, _, _, _, .bl b, _, _ => .bl b
  | _, _, _, _, _, .int i hi, _, _ => .int i hi
  | _, _, _, _, _, .str s hs hc, _, hw => .str s (Nat.le_trans hs hw) hc
  | _, _, n' + 1, _, _, .tup ds, hn, hw => .tup (Daqs.mono ds (by omega) hw)
  | _, _, n' + 1, _, _, .lst am g ds, hn, hw => .lst am g (Daqs.mono ds (by omega) hw)
  | _, _, n' + 1, _, _, .dct0 am g, hn, hw => .dct0 am g
  | _, _, n' + 1, _, _, .dct1 am g k dx dy hl, hn, hw => .dct1 am g k (Daq.mono dx (by omega) (Nat.le_refl _)) (Daq.mono dy (by omega) (Nat.le_refl _)) (Nat.le_trans hl hw)
theorem Daqs.mono {h : Hh} {A : Nat → Prop} : ∀ {n w n' w' : Nat} {xs : List D}, Daqs h A n w xs → n ≤ n' → w ≤ w' → Daqs h A n' w' xs
  | _, _, _, _, _, .nil, _, _ => .nil
  | _, _, _, _, _, .cons d ds hl, hn, hw => .cons (Daq.mono d hn (Nat.le_refl _)) (Daqs.mono ds hn (Nat.le_refl _)) (Nat.le_trans hl hw)
end
mutual
theorem Daq.later {h h' : Hh} {A : Nat → Prop} (a : Ag A h h') : ∀ {n w : Nat} {v : D}, Daq h A n w v → Daq h' A n w v
  | _, _, _, .non => .non
  | _, _, _, .bl b => .bl b
  | _, _, _, .int i hi => .int i hi
  | _, _, _, .str s hs hc => .str s hs hc
  | _, _, _, .tup ds => .tup (Daqs.later a ds)
  | _, _, _, .lst am g ds => .lst am (a _ _ am g) (Daqs.later a ds)
  | _, _, _, .dct0 am g => .dct0 am (a _ _ am g)
  | _, _, _, .dct1 am g k dx dy hl => .dct1 am (a _ _ am g) k (Daq.later a dx) (Daq.later a dy) hl
theorem Daqs.later {h h' : Hh} {A : Nat → Prop} (a : Ag A h h') : ∀ {n w : Nat} {xs : List D}, Daqs h A n w xs → Daqs h' A n w xs
  | _, _, _, .nil => .nil
  | _, _, _, .cons d ds hl => .cons (Daq.later a d) (Daqs.later a ds) hl
end
theorem Daq.okv {h : Hh} {A : Nat → Prop} {n w : Nat} {v : D} (d : Daq h A n w v) : okv h v := by
  cases d with
  | lst _ g _ => exact ⟨_, g, trivial⟩
  | dct0 _ g => exact ⟨_, g, trivial⟩
  | dct1 _ g _ _ _ _ => exact ⟨_, g, trivial⟩
  | _ => trivial
theorem Daqs.mem {h : Hh} {A : Nat → Prop} : ∀ {n w : Nat} {xs : List D}, Daqs h A n w xs → ∀ x ∈ xs, ∃ a, Daq h A n a x
  | _, _, _, .cons d ds _, x, hx => by
    rcases List.mem_cons.mp hx with rfl | hx
    · exact ⟨_, d⟩
    · exact ds.mem x hx
theorem Daq.okP {h : Hh} {A : Nat → Prop} {n w : Nat} {v : D} (d : Daq h A n w v) : okP h v := by
  cases d with
  | tup ds => exact fun x hx => let ⟨_, e⟩ := ds.mem x hx; e.okv
  | lst _ g _ => exact ⟨_, g, trivial⟩
  | dct0 _ g => exact ⟨_, g, trivial⟩
  | dct1 _ g _ _ _ _ => exact ⟨_, g, trivial⟩
  | _ => trivial
theorem Daqs.app {h : Hh} {A : Nat → Prop} {n : Nat} : ∀ {a b : Nat} {xs ys : List D}, Daqs h A n a xs → Daqs h A n b ys → Daqs h A n (a + b) (xs ++ ys)
  | _, _, [], ys, _, d => d.mono (Nat.le_refl _) (by omega)
  | _, _, x :: xs, ys, .cons d ds hl, e => .cons d (Daqs.app ds e) (by omega)
theorem Daqs.one {h : Hh} {A : Nat → Prop} {n a : Nat} {x : D} (d : Daq h A n a x) : Daqs h A n (a + 1) [x] := .cons (b := 0) d .nil (by omega)
end Py
namespace K42
open Py
def b0_0 : Ss := (.cons (.iff (.not (.call 5 (.cons (.var 2) (.cons (.call 6 (.cons (.var 1) (.cons (.var 3) .nil))) .nil)))) (.cons (.ret (.bl false)) .nil) .nil) .nil)
def d0 : Df := ⟨1, 6, (.cons (.asg (.nm 1) (.call 1 (.cons (.var 0) .nil))) (.cons (.asg (.nm 2) (.bin .add (.int 1) (.call 2 (.cons (.var 1) (.cons (.int 8) .nil))))) (.cons (.asg (.nm 3) (.call 3 (.cons (.var 1) (.cons (.var 2) .nil)))) (.cons (.iff (.cmp .isn (.call 4 (.cons (.var 2) (.cons (.var 3) .nil))) (.bl true)) (.cons (.ret (.bl false)) .nil) .nil) (.cons (.forr (.nm 4) (.rng1 (.int 12)) b0_0) (.cons (.asg (.nm 5) (.ix (.lst (.cons (.int 0) (.cons (.int 9) (.cons (.neg (.int 1)) (.cons (.bin .pow (.int 10) (.int 40)) (.cons (.bl true) (.cons .non (.cons (.str [49]) (.cons (.tup (.cons (.int 1) .nil)) .nil))))))))) (.call 2 (.cons (.var 1) (.cons (.int 8) .nil))))) (.cons (.iff (.not (.call 7 (.cons (.var 5) (.cons (.ix (.lst (.cons (.var 3) (.cons .non .nil))) (.call 2 (.cons (.var 1) (.cons (.int 2) .nil)))) .nil)))) (.cons (.ret (.bl false)) .nil) .nil) (.cons (.ret (.and (.call 5 (.cons (.bin .add (.int 1) (.call 2 (.cons (.var 1) (.cons (.int 8) .nil)))) (.cons (.var 3) .nil))) (.call 5 (.cons (.var 2) (.cons (.var 3) .nil))))) .nil))))))))⟩
def e1_0 : E := (.bin .mul (.var 2) (.bi .int (.cons (.cmp .ge (.var 2) (.bin .pow (.int 10) (.int 18))) .nil)))
def q1_0 : Eo := .none
def d1 : Df := ⟨1, 3, (.cons (.asg (.nm 1) (.bin .add (.bi .list (.cons (.sl (.var 0) .none (.some (.int 63))) .nil)) (.bin .mul (.lst (.cons (.int 0) .nil)) (.bi .int (.cons (.cmp .eq (.bi .len (.cons (.var 0) .nil)) (.int 0)) .nil))))) (.cons (.ret (.lst (.cons (.var 1) (.cons (.int 0) (.cons (.comp e1_0 [2] (.nm 2) (.seq (.var 1)) q1_0) .nil))))) .nil))⟩
def d2 : Df := ⟨2, 8, (.cons (.asg (.tup (.cons (.nm 2) (.cons (.nm 3) (.cons (.nm 4) .nil)))) (.var 0)) (.cons (.asg (.nm 5) (.bin .mod (.var 3) (.bi .len (.cons (.var 2) .nil)))) (.cons (.setix (.var 0) (.int 1) (.bin .add (.var 3) (.int 1))) (.cons (.iff (.cmp .gt (.ix (.var 4) (.var 5)) (.int 0)) (.cons (.asg (.nm 6) (.ix (.var 4) (.var 5))) (.cons (.setix (.var 4) (.var 5) (.bin .fdv (.var 6) (.var 1))) (.cons (.ret (.bin .mod (.var 6) (.var 1))) .nil))) .nil) (.cons (.asg (.nm 7) (.bin .mod (.bin .add (.bin .mul (.bin .mod (.ix (.var 2) (.var 5)) (.int 2147483629)) (.int 48271)) (.bin .mul (.bin .mul (.bin .add (.var 3) (.int 11)) (.bin .add (.var 3) (.int 11))) (.int 7919))) (.int 2147483647))) (.cons (.asg (.nm 7) (.bin .mod (.bin .pow (.var 7) (.int 3)) (.int 2147483629))) (.cons (.asg (.nm 7) (.bin .mod (.bin .pow (.bin .add (.bin .add (.var 7) (.bin .mul (.int 31) (.var 3))) (.int 7)) (.int 5)) (.int 2305843009213693951))) (.cons (.ret (.bin .mod (.bin .fdv (.var 7) (.int 16)) (.var 1))) .nil))))))))⟩
def e3_0 : E := (.ix (.var 7) (.int 0))
def q3_0 : Eo := .none
def b3_0 : Ss := (.cons (.asg (.nm 5) (.ix (.var 2) (.call 2 (.cons (.var 0) (.cons (.bi .len (.cons (.var 2) .nil)) .nil))))) (.cons (.asg (.nm 6) (.bin .add (.bin .add (.ix (.var 5) (.int 0)) (.int 1)) (.call 2 (.cons (.var 0) (.cons (.int 9) .nil))))) (.cons (.iff (.cmp .nin (.var 6) (.comp e3_0 [7] (.nm 7) (.seq (.var 2)) q3_0)) (.cons (.asg (.nm 8) (.bi .min (.cons (.bin .pow (.int 10) (.int 6)) (.cons (.bin .add (.ix (.var 5) (.int 3)) (.ix (.lst (.cons (.int 0) (.cons (.call 2 (.cons (.var 0) (.cons (.int 9) .nil))) .nil))) (.call 2 (.cons (.var 0) (.cons (.int 2) .nil))))) .nil)))) (.cons (.ex (.bm .append (.var 2) (.cons (.tup (.cons (.var 6) (.cons (.bin .mod (.var 6) (.var 1)) (.cons (.ix (.var 5) (.int 0)) (.cons (.var 8) (.cons (.cmp .eq (.call 2 (.cons (.var 0) (.cons (.int 2) .nil))) (.int 1)) .nil)))))) .nil))) .nil)) .nil) .nil)))
def d3 : Df := ⟨2, 9, (.cons (.asg (.nm 2) (.lst (.cons (.tup (.cons (.int 0) (.cons (.int 0) (.cons .non (.cons (.int 0) (.cons (.bl false) .nil)))))) .nil))) (.cons (.asg (.nm 3) (.call 2 (.cons (.var 0) (.cons (.int 12) .nil)))) (.cons (.iff (.cmp .eq (.call 2 (.cons (.var 0) (.cons (.int 8) .nil))) (.int 0)) (.cons (.asg (.nm 3) (.call 2 (.cons (.var 0) (.cons (.int 60) .nil)))) .nil) .nil) (.cons (.forr (.nm 4) (.rng1 (.var 3)) b3_0) (.cons (.ret (.var 2)) .nil)))))⟩
def b4_0 : Ss := (.cons (.iff (.not (.call 10 (.cons (.var 3) (.cons (.var 0) (.cons (.var 2) .nil))))) (.cons (.ret (.bl false)) .nil) .nil) (.cons (.setix (.var 2) (.ix (.var 3) (.int 0)) (.ix (.var 3) (.int 3))) .nil))
def d4 : Df := ⟨2, 4, (.cons (.ex (.call 8 (.cons (.str [104, 111, 117, 115, 101, 115]) (.cons (.var 0) .nil)))) (.cons (.iff (.or (.not (.isi (.var 1) [.lst])) (.or (.cmp .eq (.bi .len (.cons (.var 1) .nil)) (.int 0)) (.not (.call 9 (.cons (.ix (.var 1) (.int 0)) .nil))))) (.cons (.ret (.bl false)) .nil) .nil) (.cons (.asg (.nm 2) (.dct1 (.int 0) (.int 0))) (.cons (.forr (.nm 3) (.seq (.sl (.var 1) (.some (.int 1)) .none)) b4_0) (.cons (.ret (.bl true)) .nil)))))⟩
def d5 : Df := ⟨2, 4, (.cons (.asg (.nm 2) (.repr (.var 1))) (.cons (.asg (.nm 3) (.call 4 (.cons (.var 0) (.cons (.var 1) .nil)))) (.cons (.ret (.and (.isi (.var 3) [.bool]) (.and (.cmp .eq (.var 3) (.call 11 (.cons (.var 0) (.cons (.var 1) .nil)))) (.cmp .eq (.repr (.var 1)) (.var 2))))) .nil)))⟩
def d6 : Df := ⟨2, 10, (.cons (.asg (.nm 2) (.call 2 (.cons (.var 0) (.cons (.bi .len (.cons (.var 1) .nil)) .nil)))) (.cons (.asg (.nm 3) (.call 2 (.cons (.var 0) (.cons (.bi .len (.cons (.var 1) .nil)) .nil)))) (.cons (.asg (.nm 4) (.bi .list (.cons (.var 1) .nil))) (.cons (.swap (.var 4) (.var 2) (.var 4) (.var 3) (.ix (.var 4) (.var 3)) (.ix (.var 4) (.var 2))) (.cons (.asg (.nm 5) (.ix (.var 1) (.var 2))) (.cons (.asg (.nm 6) (.ix (.var 1) (.var 3))) (.cons (.asg (.nm 7) (.call 2 (.cons (.var 0) (.cons (.int 5) .nil)))) (.cons (.asg (.nm 8) (.lst (.cons (.bin .add (.sl (.var 1) .none (.some (.var 2))) (.sl (.var 1) (.some (.bin .add (.var 2) (.int 1))) .none)) (.cons (.bin .add (.var 1) (.lst (.cons (.var 5) .nil))) (.cons (.var 4) (.cons (.bi .tuple (.cons (.var 1) .nil)) (.cons .non (.cons (.bin .add (.var 1) (.lst (.cons .non .nil))) (.cons (.lst .nil) (.cons (.var 5) .nil)))))))))) (.cons (.asg (.nm 8) (.bin .add (.var 8) (.lst (.cons (.bin .add (.var 1) (.lst (.cons (.sl (.var 5) .none (.some (.int 4))) .nil))) (.cons (.bin .add (.var 1) (.lst (.cons (.bi .list (.cons (.var 5) .nil)) .nil))) (.cons (.lst (.cons (.var 1) .nil)) .nil)))))) (.cons (.ex (.bm .append (.var 8) (.cons (.bin .add (.var 1) (.lst (.cons (.tup (.cons (.bin .pow (.int 10) (.int 9)) (.cons (.bin .mod (.bin .pow (.int 10) (.int 9)) (.int 8)) (.cons (.int 0) (.cons (.bin .pow (.int 10) (.int 6)) (.cons (.bl true) .nil)))))) .nil))) .nil))) (.cons (.asg (.nm 8) (.bin .add (.var 8) (.lst (.cons (.bin .add (.var 1) (.lst (.cons (.tup (.cons (.bin .add (.ix (.var 6) (.int 0)) (.bin .mul (.int 64) (.int 8))) (.cons (.ix (.var 6) (.int 1)) (.cons (.ix (.var 6) (.int 0)) (.cons (.ix (.var 6) (.int 3)) (.cons (.bl false) .nil)))))) .nil))) (.cons (.srev (.var 1)) (.cons .dct0 .nil)))))) (.cons (.iff (.cmp .eq (.call 2 (.cons (.var 0) (.cons (.int 3) .nil))) (.int 0)) (.cons (.ret (.ix (.var 8) (.call 2 (.cons (.var 0) (.cons (.int 15) .nil))))) .nil) .nil) (.cons (.asg (.nm 9) (.bin .add (.bin .add (.sl (.var 5) .none (.some (.var 7))) (.tup (.cons (.call 12 (.cons (.var 0) (.cons (.ix (.var 5) (.var 7)) (.cons (.var 5) .nil)))) .nil))) (.sl (.var 5) (.some (.bin .add (.var 7) (.int 1))) .none))) (.cons (.ret (.bin .add (.bin .add (.sl (.var 1) .none (.some (.var 2))) (.lst (.cons (.var 9) .nil))) (.sl (.var 1) (.some (.bin .add (.var 2) (.int 1))) .none))) .nil))))))))))))))⟩
def b7_0 : Ss := (.cons (.ex (.call 4 (.cons (.var 0) (.cons (.var 1) .nil)))) .nil)
def d7 : Df := ⟨2, 4, (.cons (.asg (.nm 2) .non) (.cons (.tryk b7_0 0 3 2) (.cons (.iff (.or (.not (.isi (.var 2) [.cls 1])) (.or (.not (.isi (.var 2) [.ve])) (.cmp .ne (.fld (.var 2) 0) (.str [104, 111, 117, 115, 101, 115])))) (.cons (.ret (.bl false)) .nil) .nil) (.cons (.ret (.not (.isi (.var 2) [.cls 2, .cls 3, .cls 4]))) .nil))))⟩
def d8 : Df := ⟨2, 2, (.cons (.iff (.or (.not (.call 13 (.cons (.var 1) (.cons (.glob 0) .nil)))) (.cmp .eq (.var 1) (.int 0))) (.cons (.raise1 1 0 (.var 0)) .nil) .nil) .nil)⟩
def d9 : Df := ⟨1, 1, (.cons (.iff (.or (.not (.isi (.var 0) [.tup])) (.or (.cmp .ne (.bi .len (.cons (.var 0) .nil)) (.int 5)) (.or (.not (.isi (.ix (.var 0) (.int 4)) [.bool])) (.cmp .ne (.var 0) (.glob 1))))) (.cons (.ret (.bl false)) .nil) .nil) (.cons (.ret (.and (.call 13 (.cons (.ix (.var 0) (.int 0)) (.cons (.int 0) .nil))) (.and (.call 13 (.cons (.ix (.var 0) (.int 1)) (.cons (.int 0) .nil))) (.call 13 (.cons (.ix (.var 0) (.int 3)) (.cons (.int 0) .nil)))))) .nil))⟩
def d10 : Df := ⟨3, 8, (.cons (.iff (.or (.not (.isi (.var 0) [.tup])) (.or (.cmp .ne (.bi .len (.cons (.var 0) .nil)) (.int 5)) (.not (.isi (.ix (.var 0) (.int 4)) [.bool])))) (.cons (.ret (.bl false)) .nil) .nil) (.cons (.asg (.tup (.cons (.nm 3) (.cons (.nm 4) (.cons (.nm 5) (.cons (.nm 6) (.cons (.nm 7) .nil)))))) (.var 0)) (.cons (.iff (.or (.not (.call 13 (.cons (.var 3) (.cons (.glob 2) .nil)))) (.or (.cmp .inn (.var 3) (.var 2)) (.or (.not (.call 13 (.cons (.var 4) (.cons (.bin .sub (.var 1) (.int 1)) .nil)))) (.cmp .ne (.bin .mod (.var 3) (.var 1)) (.var 4))))) (.cons (.ret (.bl false)) .nil) .nil) (.cons (.iff (.or (.not (.call 13 (.cons (.var 5) (.cons (.glob 2) .nil)))) (.or (.cmp .nin (.var 5) (.var 2)) (.cmp .ge (.var 5) (.var 3)))) (.cons (.ret (.bl false)) .nil) .nil) (.cons (.ret (.and (.call 13 (.cons (.var 6) (.cons (.glob 3) .nil))) (.cmp .ge (.var 6) (.ix (.var 2) (.var 5))))) .nil)))))⟩
def e11_0 : E := (.int 1)
def q11_0 : Eo := (.some (.not (.call 14 (.cons (.ix (.var 2) (.var 3)) (.cons (.int 0) (.cons (.int 0) .nil))))))
def b11_0 : Ss := (.cons (.iff (.not (.call 15 (.cons (.var 5) (.cons (.var 0) (.cons (.var 4) .nil))))) (.cons (.ret (.bl false)) .nil) .nil) (.cons (.setix (.var 4) (.ix (.var 5) (.int 0)) (.ix (.var 5) (.int 3))) .nil))
def d11 : Df := ⟨2, 6, (.cons (.iff (.or (.not (.isi (.var 1) [.lst])) (.cmp .eq (.bi .len (.cons (.var 1) .nil)) (.int 0))) (.cons (.ret (.bl false)) .nil) .nil) (.cons (.asg (.nm 2) (.ix (.var 1) (.int 0))) (.cons (.iff (.or (.not (.isi (.var 2) [.tup])) (.or (.cmp .ne (.bi .len (.cons (.var 2) .nil)) (.int 5)) (.or (.cmp .isn (.ix (.var 2) (.int 4)) (.bl false)) (.cmp .isn (.ix (.var 2) (.int 2)) .non)))) (.cons (.ret (.bl false)) .nil) .nil) (.cons (.iff (.cmp .ne (.comp e11_0 [3] (.nm 3) (.seq (.tup (.cons (.int 0) (.cons (.int 1) (.cons (.int 3) .nil))))) q11_0) (.lst .nil)) (.cons (.ret (.bl false)) .nil) .nil) (.cons (.asg (.nm 4) (.dct1 (.int 0) (.int 0))) (.cons (.forr (.nm 5) (.seq (.sl (.var 1) (.some (.int 1)) .none)) b11_0) (.cons (.ret (.bl true)) .nil)))))))⟩
def d12 : Df := ⟨3, 4, (.cons (.asg (.nm 3) (.lst (.cons .non (.cons (.bl true) (.cons (.bl false) (.cons (.neg (.int 1)) (.cons (.bin .pow (.int 10) (.int 40)) (.cons (.bin .add (.bin .pow (.int 10) (.int 9)) (.int 1)) (.cons (.str [48]) (.cons (.tup .nil) (.cons (.int 0) (.cons (.int 1) (.cons (.ix (.var 2) (.call 2 (.cons (.var 0) (.cons (.bi .len (.cons (.var 2) .nil)) .nil)))) .nil))))))))))))) (.cons (.iff (.and (.call 14 (.cons (.var 1) (.cons (.int 0) (.cons (.bin .pow (.int 10) (.int 9)) .nil)))) (.cmp .gt (.call 2 (.cons (.var 0) (.cons (.int 3) .nil))) (.int 0))) (.cons (.ret (.ix (.lst (.cons (.bin .add (.var 1) (.int 1)) (.cons (.bin .sub (.var 1) (.int 1)) (.cons (.bin .add (.var 1) (.int 8)) (.cons (.bi .str (.cons (.var 1) .nil)) (.cons (.cmp .eq (.var 1) (.int 1)) (.cons (.tup (.cons (.var 1) .nil)) .nil))))))) (.call 2 (.cons (.var 0) (.cons (.int 6) .nil))))) .nil) .nil) (.cons (.ret (.ix (.var 3) (.call 2 (.cons (.var 0) (.cons (.int 11) .nil))))) .nil)))⟩
def d13 : Df := ⟨2, 2, (.cons (.ret (.and (.isi (.var 0) [.int]) (.and (.not (.isi (.var 0) [.bool])) (.chn .le .le (.int 0) (.var 0) (.var 1))))) .nil)⟩
def d14 : Df := ⟨3, 3, (.cons (.ret (.and (.isi (.var 0) [.int]) (.and (.not (.isi (.var 0) [.bool])) (.and (.cmp .le (.var 1) (.var 0)) (.cmp .le (.var 0) (.var 2)))))) .nil)⟩
def d15 : Df := ⟨3, 8, (.cons (.iff (.or (.not (.isi (.var 0) [.tup])) (.or (.cmp .ne (.bi .len (.cons (.var 0) .nil)) (.int 5)) (.not (.isi (.ix (.var 0) (.int 4)) [.bool])))) (.cons (.ret (.bl false)) .nil) .nil) (.cons (.asg (.tup (.cons (.nm 3) (.cons (.nm 4) (.cons (.nm 5) (.cons (.nm 6) (.cons (.nm 7) .nil)))))) (.var 0)) (.cons (.iff (.or (.not (.call 14 (.cons (.var 3) (.cons (.int 0) (.cons (.bin .pow (.int 10) (.int 9)) .nil))))) (.or (.cmp .inn (.var 3) (.var 2)) (.or (.not (.call 14 (.cons (.var 4) (.cons (.int 0) (.cons (.bin .sub (.var 1) (.int 1)) .nil))))) (.cmp .ne (.bin .mod (.var 3) (.var 1)) (.var 4))))) (.cons (.ret (.bl false)) .nil) .nil) (.cons (.iff (.or (.not (.call 14 (.cons (.var 5) (.cons (.int 0) (.cons (.bin .pow (.int 10) (.int 9)) .nil))))) (.or (.cmp .nin (.var 5) (.var 2)) (.cmp .ge (.var 5) (.var 3)))) (.cons (.ret (.bl false)) .nil) .nil) (.cons (.ret (.and (.call 14 (.cons (.var 6) (.cons (.int 0) (.cons (.bin .pow (.int 10) (.int 6)) .nil)))) (.cmp .ge (.var 6) (.ix (.var 2) (.var 5))))) .nil)))))⟩
def P : Nat → Option Df
  | 0 => some d0
  | 1 => some d1
  | 2 => some d2
  | 3 => some d3
  | 4 => some d4
  | 5 => some d5
  | 6 => some d6
  | 7 => some d7
  | 8 => some d8
  | 9 => some d9
  | 10 => some d10
  | 11 => some d11
  | 12 => some d12
  | 13 => some d13
  | 14 => some d14
  | 15 => some d15
  | _ => none
def glv : Nat → D
  | 0 => (.int (8))
  | 1 => (.tup [(.int (0)), (.int (0)), .non, (.int (0)), (.bl false)])
  | 2 => (.int (1000000000))
  | 3 => (.int (1000000))
  | _ => .non
def anc : Nat → List Nat
  | 0 => [0]
  | 1 => [1, 0]
  | 2 => [2, 0]
  | 3 => [3, 0]
  | 4 => [4, 0]
  | _ => []
def exn : Nat → Bool
  | 0 => true
  | 1 => true
  | 2 => true
  | 3 => true
  | 4 => true
  | _ => false
def hasF (c f : Nat) : Bool := match c, f with
  | 1, 0 => true
  | _, _ => false
def T : Tb := { glob := glv, sub := fun c d => (anc c).contains d, ncl := 5, isVe := exn, fnk := fun f => decide (f < 16), exn := exn, hasF := hasF }
@[simp] theorem nT : T.ncl = 5 := rfl
@[simp] theorem xT0 : T.exn 0 = true := rfl
@[simp] theorem yT0 : T.isVe 0 = true := rfl
@[simp] theorem xT1 : T.exn 1 = true := rfl
@[simp] theorem yT1 : T.isVe 1 = true := rfl
@[simp] theorem xT2 : T.exn 2 = true := rfl
@[simp] theorem yT2 : T.isVe 2 = true := rfl
@[simp] theorem xT3 : T.exn 3 = true := rfl
@[simp] theorem yT3 : T.isVe 3 = true := rfl
@[simp] theorem xT4 : T.exn 4 = true := rfl
@[simp] theorem yT4 : T.isVe 4 = true := rfl
@[simp] theorem gT0 : T.glob 0 = (.int (8)) := rfl
@[simp] theorem gT1 : T.glob 1 = (.tup [(.int (0)), (.int (0)), .non, (.int (0)), (.bl false)]) := rfl
@[simp] theorem gT2 : T.glob 2 = (.int (1000000000)) := rfl
@[simp] theorem gT3 : T.glob 3 = (.int (1000000)) := rfl
theorem u0 (k : Nat) (a0 : D) (h : Hh) : run T P (k + 1) 0 [a0] h = (exSs T (run T P k) d0.body [some a0, none, none, none, none, none] h).fin := rfl
theorem u1 (k : Nat) (a0 : D) (h : Hh) : run T P (k + 1) 1 [a0] h = (exSs T (run T P k) d1.body [some a0, none, none] h).fin := rfl
theorem u2 (k : Nat) (a0 a1 : D) (h : Hh) : run T P (k + 1) 2 [a0, a1] h = (exSs T (run T P k) d2.body [some a0, some a1, none, none, none, none, none, none] h).fin := rfl
theorem u3 (k : Nat) (a0 a1 : D) (h : Hh) : run T P (k + 1) 3 [a0, a1] h = (exSs T (run T P k) d3.body [some a0, some a1, none, none, none, none, none, none, none] h).fin := rfl
theorem u4 (k : Nat) (a0 a1 : D) (h : Hh) : run T P (k + 1) 4 [a0, a1] h = (exSs T (run T P k) d4.body [some a0, some a1, none, none] h).fin := rfl
theorem u5 (k : Nat) (a0 a1 : D) (h : Hh) : run T P (k + 1) 5 [a0, a1] h = (exSs T (run T P k) d5.body [some a0, some a1, none, none] h).fin := rfl
theorem u6 (k : Nat) (a0 a1 : D) (h : Hh) : run T P (k + 1) 6 [a0, a1] h = (exSs T (run T P k) d6.body [some a0, some a1, none, none, none, none, none, none, none, none] h).fin := rfl
theorem u7 (k : Nat) (a0 a1 : D) (h : Hh) : run T P (k + 1) 7 [a0, a1] h = (exSs T (run T P k) d7.body [some a0, some a1, none, none] h).fin := rfl
theorem u8 (k : Nat) (a0 a1 : D) (h : Hh) : run T P (k + 1) 8 [a0, a1] h = (exSs T (run T P k) d8.body [some a0, some a1] h).fin := rfl
theorem u9 (k : Nat) (a0 : D) (h : Hh) : run T P (k + 1) 9 [a0] h = (exSs T (run T P k) d9.body [some a0] h).fin := rfl
theorem u10 (k : Nat) (a0 a1 a2 : D) (h : Hh) : run T P (k + 1) 10 [a0, a1, a2] h = (exSs T (run T P k) d10.body [some a0, some a1, some a2, none, none, none, none, none] h).fin := rfl
theorem u11 (k : Nat) (a0 a1 : D) (h : Hh) : run T P (k + 1) 11 [a0, a1] h = (exSs T (run T P k) d11.body [some a0, some a1, none, none, none, none] h).fin := rfl
theorem u12 (k : Nat) (a0 a1 a2 : D) (h : Hh) : run T P (k + 1) 12 [a0, a1, a2] h = (exSs T (run T P k) d12.body [some a0, some a1, some a2, none] h).fin := rfl
theorem u13 (k : Nat) (a0 a1 : D) (h : Hh) : run T P (k + 1) 13 [a0, a1] h = (exSs T (run T P k) d13.body [some a0, some a1] h).fin := rfl
theorem u14 (k : Nat) (a0 a1 a2 : D) (h : Hh) : run T P (k + 1) 14 [a0, a1, a2] h = (exSs T (run T P k) d14.body [some a0, some a1, some a2] h).fin := rfl
theorem u15 (k : Nat) (a0 a1 a2 : D) (h : Hh) : run T P (k + 1) 15 [a0, a1, a2] h = (exSs T (run T P k) d15.body [some a0, some a1, some a2, none, none, none, none, none] h).fin := rfl
def dep : Nat := 16
end K42
namespace K42
open Py
theorem take (k : Nat) (m : Int) (h : Hh) (B : Nat) (x : Deck h B) (hB : B ≤ 1000000) (m1 : 0 < m) (m2 : m < 1073741824) :
    ∃ r h', run T P (k + 1) 2 [.ref 7, .int m] h = .ok (.int r) h' ∧ 0 ≤ r ∧ r < m ∧ Deck h' (B + 1) ∧ Keep h h' := by
  obtain ⟨cells, rests, cnt, X⟩ := x
  rw [u2]
  have hl7 : 7 < h.length := (List.getElem?_eq_some_iff.mp X.d).1
  have hp : (0 : Int) < (cells.length : Int) := by have := X.p; omega
  have hp' : cnt % cells.length < cells.length := Nat.mod_lt _ X.p
  generalize hpl : cnt % cells.length = pl at hp'
  have hpz : (cnt : Int) % (cells.length : Int) = (pl : Int) := by rw [← hpl]; simp
  generalize hh1 : h.set 7 (.lst [.ref 5, .int ((cnt : Int) + 1), .ref 6] false) = h1
  have e5 : h1[5]? = some (.lst (cells.map .int) false) := by rw [← hh1, List.getElem?_set_ne (by decide)]; exact X.c
  have e6 : h1[6]? = some (.lst (rests.map .int) false) := by rw [← hh1, List.getElem?_set_ne (by decide)]; exact X.r
  have e7 : h1[7]? = some (.lst [.ref 5, .int ((cnt : Int) + 1), .ref 6] false) := by rw [← hh1, List.getElem?_set_self hl7]
  have k1 : Keep h h1 := ⟨by rw [← hh1]; simp, fun n _ h7 o q => by rw [← hh1, List.getElem?_set_ne (by omega)]; exact q⟩
  have hpl2 : pl < rests.length := by rw [X.l]; exact hp'
  have ixc : ix cells.length (pl : Int) = some pl := by rw [ix_nn (by omega) (by omega)]; simp
  have ixr : ix rests.length (pl : Int) = some pl := by rw [ix_nn (by omega) (by omega)]; simp
  have gc : (cells.map D.int)[pl]? = some (.int cells[pl]) := by simp [hp']
  have gr : (rests.map D.int)[pl]? = some (.int rests[pl]) := by simp [hpl2]
  have ix1 : ix 3 1 = some 1 := by decide
  by_cases hr : 0 < rests[pl]
  · refine ⟨rests[pl] % m, h1.set 6 (.lst ((rests.set pl (rests[pl] / m)).map .int) false), ?_, Int.emod_nonneg _ (by omega), Int.emod_lt_of_pos _ m1, ⟨cells, rests.set pl (rests[pl] / m), cnt + 1, ?_, ?_, ?_, X.p, by simpa using X.l, ?_, by have := X.b; omega⟩, ?_⟩
    · have m3 : m < 1073741824 := m2
      simp [d2, seq_lst X.d, len_lst X.c, X.p, hp', hpl2, hpz, set_lst X.d, ix1, hh1, ix_lst e6, ix_lst e5, ixr, ixc, gr, gc, hr, m1, m3, set_lst e6]
    · rw [List.getElem?_set_ne (by decide)]; exact e5
    · rw [List.getElem?_set_self (List.getElem?_eq_some_iff.mp e6).1]
    · rw [List.getElem?_set_ne (by decide)]; simpa using e7
    · intro y hy
      rcases List.mem_or_eq_of_mem_set hy with q | q
      · exact X.n y q
      · rw [q]; exact Int.ediv_nonneg (by omega) (by omega)
    · exact k1.trans ⟨by simp, fun n h6 _ o q => by rw [List.getElem?_set_ne (by omega)]; exact q⟩
  · have hb := X.b
    have c1 : -18446744073709551616 < (cnt : Int) + 11 := by omega
    have c2 : (cnt : Int) + 11 < 18446744073709551616 := by omega
    have ma : binD .mod (.int (cnt : Int)) (.int (cells.length : Int)) h = some (.int pl, h) := by rw [mod_int, if_pos hp, hpz]
    obtain ⟨y1, m1', _, _⟩ := pmod cells[pl] 2147483629 h1 (by decide)
    obtain ⟨y2, m2', l2, u2x⟩ := pmod (y1 * 48271 + (cnt + 11) * (cnt + 11) * 7919) 2147483647 h1 (by decide)
    obtain ⟨y3, m3'⟩ := ppow y2 3 h1 (by decide) (by decide) (by omega)
    obtain ⟨y4, m4', l4, u4⟩ := pmod y3 2147483629 h1 (by decide)
    obtain ⟨y5, m5'⟩ := ppow (y4 + 31 * cnt + 7) 5 h1 (by decide) (by decide) (by omega)
    obtain ⟨y6, m6', _, _⟩ := pmod y5 2305843009213693951 h1 (by decide)
    obtain ⟨y7, m7', l7, u7⟩ := pmod (y6 / 16) m h1 m1
    refine ⟨y7, h1, ?_, l7, u7, ⟨cells, rests, cnt + 1, e5, e6, by simpa using e7, X.p, X.l, X.n, by omega⟩, k1⟩
    have b1 : binD .mul (.int y1) (.int 48271) h1 = _ := pmul (.inr (by decide))
    have b2 : binD .mul (.int ((cnt : Int) + 11)) (.int ((cnt : Int) + 11)) h1 = _ := pmul (.inr (by omega))
    have b3 : binD .mul (.int (((cnt : Int) + 11) * ((cnt : Int) + 11))) (.int 7919) h1 = _ := pmul (.inr (by decide))
    have b4 : binD .mul (.int 31) (.int (cnt : Int)) h1 = _ := pmul (.inl (by decide))
    have b5 : binD .fdv (.int y6) (.int 16) h1 = _ := pfdv (by decide)
    have g0 : (rests.map D.int)[pl]? = some (.int rests[pl]) := by simp [hpl2]
    have g1 : (cells.map D.int)[pl]? = some (.int cells[pl]) := by simp [hp']
    have s1 : setIx (.ref 7) (.int 1) (.int ((cnt : Int) + 1)) h = some h1 := by rw [set_lst X.d, ← hh1]; rfl
    have hr' : decide (0 < rests[pl]) = false := by simpa using hr
    simp (implicitDefEqProofs := false) only [d2, ss_cons, s_asg, v_var, var0, varS, thn_ok, tg_tup, seq_lst X.d, Option.bind_some, tgs_cons, tgs_nil, tg_nm, List.set_cons_succ, List.set_cons_zero, putS_s, thn_nx, v_bin, v_bi, es_cons, es_nil, bind_ok', len_lst X.c, List.length_map, of_some, ma, s_setix, v_int, add_int, s1, setS_s,
      s_iff, t_cmp, v_cmp, v_ix, ix_lst e6, ix_lst e5, ixr, ixc, g0, g1, ob_sm, gt_int, truR_b, hr', iteS_f, ss_nil, m1', b1, b2, b3, m2', m3', m4', b4, m5', m6', b5, m7', s_ret, thn_rt, fin_rt]
theorem deck (k : Nat) (ns : List Int) (hl : ns.length ≤ 63) :
    ∃ h', run T P (k + 1) 1 [.ref 0] [.lst (ns.map .int) true] = .ok (.ref 7) h' ∧ Deck h' 0 ∧ h'.length = 8 := by
  rw [u1]
  have g0 : ∀ e : Hh, ([O.lst (ns.map .int) true] ++ e)[0]? = some (.lst (ns.map .int) true) := fun e => rfl
  have cl := cells_len ns
  have hc : cut (ns.map D.int) none (some (63 : Int)) = (ns.take 63).map .int := by
    have := cut_to (xs := ns.map D.int) (k := 63)
    simpa using this
  have hrep : (List.replicate (if ns = [] then (1 : Int) else 0).toNat [D.int 0]).flatten = ((List.replicate (if ns.length = 0 then 1 else 0) ([0] : List Int)).flatten).map .int := by
    cases ns <;> simp
  have hz : (if ns = [] then (1 : Int) else 0) ≤ 1 ∧ 0 ≤ (if ns = [] then (1 : Int) else 0) := by split <;> omega
  generalize hbase : [O.lst (ns.map .int) true, O.lst ((ns.take 63).map .int) false, O.lst ((ns.take 63).map .int) false, O.lst [.int 0] false, O.lst (((List.replicate (if ns.length = 0 then 1 else 0) ([0] : List Int)).flatten).map .int) false, O.lst ((cellsOf ns).map .int) false] = base
  have gb : base[5]? = some (.lst ((cellsOf ns).map .int) false) := by rw [← hbase]; rfl
  have lb : base.length = 6 := by rw [← hbase]; rfl
  have st1 : (den T (run T P k) (.bin .add (.bi .list (.cons (.sl (.var 0) .none (.some (.int 63))) .nil)) (.bin .mul (.lst (.cons (.int 0) .nil)) (.bi .int (.cons (.cmp .eq (.bi .len (.cons (.var 0) .nil)) (.int 0)) .nil))))).v [some (.ref 0), none, none] [.lst (ns.map .int) true] = .ok (.ref 5) base := by
    rw [← hbase]
    have l1 : (min 63 ns.length) + (List.replicate (if ns = [] then (1 : Int) else 0).toNat [D.int 0]).flatten.length ≤ 1000000 := by rw [hrep]; cases ns <;> simp <;> omega
    have l2 : (-1000000 : Int) ≤ (if ns = [] then (1 : Int) else 0) ∧ (if ns = [] then (1 : Int) else 0) ≤ 1000000 ∧ (if ns = [] then (1 : Int) else 0).toNat ≤ 1000000 := by split <;> simp
    simp (implicitDefEqProofs := false) [slD, seqOf, binD, biD, hc, SZ, l2]
    rw [if_pos (by split <;> simp <;> omega)]
    cases ns <;> simp [cellsOf]
  have hF : ∀ L : List Int, ∀ x ∈ L.map (fun i => i * (if (10 : Int) ^ 18 ≤ i then 1 else 0)), 0 ≤ x := by
    intro L x hx
    obtain ⟨i, _, rfl⟩ := List.mem_map.mp hx
    split <;> omega
  have st2 : compD ⟨(cellsOf ns).map .int, [(5, .lst ((cellsOf ns).map .int) false)]⟩ base.length (fun x h => Tg.put (.nm 2) x h (wipe [some (.ref 0), some (.ref 5), none] [2])) (denc T (run T P k) q1_0) (den T (run T P k) e1_0).v base
      = .ok (.ref 6) (base ++ [.lst (((cellsOf ns).map (fun i => i * (if (10 : Int) ^ 18 ≤ i then 1 else 0))).map .int) false]) := by
    rw [compD_pure (mapF fun i => .int (i * (if (10 : Int) ^ 18 ≤ i then 1 else 0))) (by simp [SZ]; omega) (ok_at1 gb)]
    · simp only [fm_map, lb, List.map_map]
      rfl
    · intro x hx e
      obtain ⟨i, hi, rfl⟩ := List.mem_map.mp hx
      refine ⟨_, tg_nm, ?_⟩
      have p1 : binD .pow (.int 10) (.int 18) (base ++ e) = some (.int (10 ^ 18), base ++ e) := by rw [pow_int, if_pos (by decide)]; rfl
      have p2 : binD .mul (.int i) (.int (if (10 : Int) ^ 18 ≤ i then 1 else 0)) (base ++ e) = some (.int (i * (if (10 : Int) ^ 18 ≤ i then 1 else 0)), base ++ e) := pmul (.inr (by split <;> decide))
      simp only [mapF, q1_0, ec_none, e1_0, true_and]
      simp (implicitDefEqProofs := false) only [v_bin, v_var, wipe_cons, wipe_nil, List.set_cons_succ, List.set_cons_zero, varS, var0, bind_ok', v_bi, es_cons, es_nil, v_cmp, v_int, p1, of_some, ge_int, bi_int_b, decide_eq_true_eq, p2]
  refine ⟨base ++ [.lst (((cellsOf ns).map (fun i => i * (if (10 : Int) ^ 18 ≤ i then 1 else 0))).map .int) false, .lst [.ref 5, .int 0, .ref 6] false], ?_, ⟨cellsOf ns, (cellsOf ns).map (fun i => i * (if (10 : Int) ^ 18 ≤ i then 1 else 0)), 0, get_app gb, ?_, ?_, cl.1, by simp, hF _, Nat.le_refl _⟩, by simp [lb]⟩
  · simp (implicitDefEqProofs := false) only [d1, ss_cons, s_asg, st1, thn_ok, tg_nm, List.set_cons_succ, List.set_cons_zero, putS_s, thn_nx, s_ret, v_lst, es_cons, es_nil, v_var, varS, var0, v_int, bind_ok', v_comp, ei_seq, seqW_l gb]
    simp only [tg_nm, wipe_cons, wipe_nil, List.set_cons_succ, List.set_cons_zero] at st2
    simp (implicitDefEqProofs := false) only [wipe_cons, wipe_nil, List.set_cons_succ, List.set_cons_zero, st2, bind_ok', newO_d, of_some]
    rw [if_pos (by decide)]
    simp [lb]
  · rw [List.getElem?_append_right (by omega), lb]; rfl
  · rw [List.getElem?_append_right (by omega), lb]; rfl
end K42
namespace K42
open Py
theorem uptoV (k : Nat) : UptoV (run T P (k + 1)) 13 := fun v m h ok => by
  rw [u13]
  exact upto_v T (run T P k) v m h ok
theorem p9 (h : Hh) : binD .pow (.int 10) (.int 9) h = some (.int 1000000000, h) := by rw [pow_int, if_pos (by decide)]; rfl
theorem p6 (h : Hh) : binD .pow (.int 10) (.int 6) h = some (.int 1000000, h) := by rw [pow_int, if_pos (by decide)]; rfl
theorem p40 (h : Hh) : binD .pow (.int 10) (.int 40) h = some (.int (10 ^ 40), h) := by rw [pow_int, if_pos (by decide)]; rfl
theorem fromV (k : Nat) (v : D) (m : Int) (h : Hh) (ok : okv h v) : run T P (k + 1) 14 [v, .int 0, .int m] h = .ok (.bl (uptoB v m)) h := by
  rw [u14]
  cases v with
  | int i =>
    simp only [uptoB]
    cases q : decide (0 ≤ i) with
    | true => simp (implicitDefEqProofs := false) only [ss_cons, ss_nil, s_asg, s_asgc, s_ex, s_ret, s_pass, s_iff, s_forr, s_setix, s_asgs, v_non, v_bl, v_int, v_str, v_var, v_glob, v_bin, v_neg, v_not, v_and, v_or, v_cmp, v_chn, v_ife, v_tup, v_lst, v_ix, v_sl, v_call, v_bi, v_bm, v_isi, v_lrng1, v_lrng2, v_comp, t_bl, t_int, t_var, t_glob, t_not, t_and, t_or, t_cmp, t_chn, t_call, t_bi, t_isi, t_ix, es_nil, es_cons, eo_none, eo_some, ec_none, ec_some, ei_seq, ei_rng1, ei_rng2, ei_enum, ei_zip, var0, varS, tg_nm, tg_tup, tgs_nil, tgs_cons, seq_tup, Option.bind_some, wipe_nil, wipe_cons, bind_ok', bind_ex', thn_ok, thn_nx, thn_rt, thn_bk, thn_ct, fin_nx, fin_rt, of_some, ob_sm, iteR_t, iteR_f, iteS_t, iteS_f, andR_t, andR_f, orR_t, orR_f, truR_b, intR_i, putS_s, putS'_s, setS_s, List.set_cons_succ, List.set_cons_zero, ty_non_int, ty_non_bool, ty_non_str, ty_non_tup, ty_non_lst, ty_non_dct, ty_bl_int, ty_bl_bool, ty_bl_str, ty_bl_tup, ty_bl_lst, ty_bl_dct, ty_int_int, ty_int_bool, ty_int_str, ty_int_tup, ty_int_lst, ty_int_dct, ty_str_int, ty_str_bool, ty_str_str, ty_str_tup, ty_str_lst, ty_str_dct, ty_tup_int, ty_tup_bool, ty_tup_str, ty_tup_tup, ty_tup_lst, ty_tup_dct, tru_non, tru_bl, tru_int, tru_tup, lt_int, le_int, gt_int, ge_int, eq_d, ne_d, is_d, isn_d, inn_d, nin_d, isNon_n, isNon_i, isNon_t, isNon_s, isNon_r, isNon_b, eq_int, eq_str, eq_bl, add_int, sub_int, neg_int, len_tup, bi_int_i, bi_int_b, bi_min, bi_max, rngW_i, seqW_t, newO_d, Bool.not_true, Bool.not_false, decide_true, decide_false, Bool.true_and, Bool.and_true, Bool.false_and, Bool.and_false, Bool.true_or, Bool.or_true, Bool.false_or, Bool.or_false, List.length_cons, List.length_nil, Nat.zero_add, Nat.reduceAdd, Nat.reduceLeDiff, SZ, ↓reduceIte, v_fld, t_fld, v_fnv, v_calll, t_calll, v_repr, v_dct0, s_raise0, s_raise1, s_tryk, thn_ex, thn_exS, fin_ex, truR_ex, keep_nx, keep_rt, eq_non_non, eq_non_int, eq_int_non, eq_str_non, eq_non_str, eq_int_str, eq_str_int, d14, q]
    | false => simp (implicitDefEqProofs := false) only [ss_cons, ss_nil, s_asg, s_asgc, s_ex, s_ret, s_pass, s_iff, s_forr, s_setix, s_asgs, v_non, v_bl, v_int, v_str, v_var, v_glob, v_bin, v_neg, v_not, v_and, v_or, v_cmp, v_chn, v_ife, v_tup, v_lst, v_ix, v_sl, v_call, v_bi, v_bm, v_isi, v_lrng1, v_lrng2, v_comp, t_bl, t_int, t_var, t_glob, t_not, t_and, t_or, t_cmp, t_chn, t_call, t_bi, t_isi, t_ix, es_nil, es_cons, eo_none, eo_some, ec_none, ec_some, ei_seq, ei_rng1, ei_rng2, ei_enum, ei_zip, var0, varS, tg_nm, tg_tup, tgs_nil, tgs_cons, seq_tup, Option.bind_some, wipe_nil, wipe_cons, bind_ok', bind_ex', thn_ok, thn_nx, thn_rt, thn_bk, thn_ct, fin_nx, fin_rt, of_some, ob_sm, iteR_t, iteR_f, iteS_t, iteS_f, andR_t, andR_f, orR_t, orR_f, truR_b, intR_i, putS_s, putS'_s, setS_s, List.set_cons_succ, List.set_cons_zero, ty_non_int, ty_non_bool, ty_non_str, ty_non_tup, ty_non_lst, ty_non_dct, ty_bl_int, ty_bl_bool, ty_bl_str, ty_bl_tup, ty_bl_lst, ty_bl_dct, ty_int_int, ty_int_bool, ty_int_str, ty_int_tup, ty_int_lst, ty_int_dct, ty_str_int, ty_str_bool, ty_str_str, ty_str_tup, ty_str_lst, ty_str_dct, ty_tup_int, ty_tup_bool, ty_tup_str, ty_tup_tup, ty_tup_lst, ty_tup_dct, tru_non, tru_bl, tru_int, tru_tup, lt_int, le_int, gt_int, ge_int, eq_d, ne_d, is_d, isn_d, inn_d, nin_d, isNon_n, isNon_i, isNon_t, isNon_s, isNon_r, isNon_b, eq_int, eq_str, eq_bl, add_int, sub_int, neg_int, len_tup, bi_int_i, bi_int_b, bi_min, bi_max, rngW_i, seqW_t, newO_d, Bool.not_true, Bool.not_false, decide_true, decide_false, Bool.true_and, Bool.and_true, Bool.false_and, Bool.and_false, Bool.true_or, Bool.or_true, Bool.false_or, Bool.or_false, List.length_cons, List.length_nil, Nat.zero_add, Nat.reduceAdd, Nat.reduceLeDiff, SZ, ↓reduceIte, v_fld, t_fld, v_fnv, v_calll, t_calll, v_repr, v_dct0, s_raise0, s_raise1, s_tryk, thn_ex, thn_exS, fin_ex, truR_ex, keep_nx, keep_rt, eq_non_non, eq_non_int, eq_int_non, eq_str_non, eq_non_str, eq_int_str, eq_str_int, d14, q]
  | fn f => exact ok.elim
  | ref n =>
    obtain ⟨o, g, z⟩ := ok
    have := ty_ref2 (T := T) (t := .int) g z (by simp) (by simp) (by simp)
    simp (implicitDefEqProofs := false) only [ss_cons, ss_nil, s_asg, s_asgc, s_ex, s_ret, s_pass, s_iff, s_forr, s_setix, s_asgs, v_non, v_bl, v_int, v_str, v_var, v_glob, v_bin, v_neg, v_not, v_and, v_or, v_cmp, v_chn, v_ife, v_tup, v_lst, v_ix, v_sl, v_call, v_bi, v_bm, v_isi, v_lrng1, v_lrng2, v_comp, t_bl, t_int, t_var, t_glob, t_not, t_and, t_or, t_cmp, t_chn, t_call, t_bi, t_isi, t_ix, es_nil, es_cons, eo_none, eo_some, ec_none, ec_some, ei_seq, ei_rng1, ei_rng2, ei_enum, ei_zip, var0, varS, tg_nm, tg_tup, tgs_nil, tgs_cons, seq_tup, Option.bind_some, wipe_nil, wipe_cons, bind_ok', bind_ex', thn_ok, thn_nx, thn_rt, thn_bk, thn_ct, fin_nx, fin_rt, of_some, ob_sm, iteR_t, iteR_f, iteS_t, iteS_f, andR_t, andR_f, orR_t, orR_f, truR_b, intR_i, putS_s, putS'_s, setS_s, List.set_cons_succ, List.set_cons_zero, ty_non_int, ty_non_bool, ty_non_str, ty_non_tup, ty_non_lst, ty_non_dct, ty_bl_int, ty_bl_bool, ty_bl_str, ty_bl_tup, ty_bl_lst, ty_bl_dct, ty_int_int, ty_int_bool, ty_int_str, ty_int_tup, ty_int_lst, ty_int_dct, ty_str_int, ty_str_bool, ty_str_str, ty_str_tup, ty_str_lst, ty_str_dct, ty_tup_int, ty_tup_bool, ty_tup_str, ty_tup_tup, ty_tup_lst, ty_tup_dct, tru_non, tru_bl, tru_int, tru_tup, lt_int, le_int, gt_int, ge_int, eq_d, ne_d, is_d, isn_d, inn_d, nin_d, isNon_n, isNon_i, isNon_t, isNon_s, isNon_r, isNon_b, eq_int, eq_str, eq_bl, add_int, sub_int, neg_int, len_tup, bi_int_i, bi_int_b, bi_min, bi_max, rngW_i, seqW_t, newO_d, Bool.not_true, Bool.not_false, decide_true, decide_false, Bool.true_and, Bool.and_true, Bool.false_and, Bool.and_false, Bool.true_or, Bool.or_true, Bool.false_or, Bool.or_false, List.length_cons, List.length_nil, Nat.zero_add, Nat.reduceAdd, Nat.reduceLeDiff, SZ, ↓reduceIte, v_fld, t_fld, v_fnv, v_calll, t_calll, v_repr, v_dct0, s_raise0, s_raise1, s_tryk, thn_ex, thn_exS, fin_ex, truR_ex, keep_nx, keep_rt, eq_non_non, eq_non_int, eq_int_non, eq_str_non, eq_non_str, eq_int_str, eq_str_int, d14, this, uptoB]
  | _ => simp (implicitDefEqProofs := false) only [ss_cons, ss_nil, s_asg, s_asgc, s_ex, s_ret, s_pass, s_iff, s_forr, s_setix, s_asgs, v_non, v_bl, v_int, v_str, v_var, v_glob, v_bin, v_neg, v_not, v_and, v_or, v_cmp, v_chn, v_ife, v_tup, v_lst, v_ix, v_sl, v_call, v_bi, v_bm, v_isi, v_lrng1, v_lrng2, v_comp, t_bl, t_int, t_var, t_glob, t_not, t_and, t_or, t_cmp, t_chn, t_call, t_bi, t_isi, t_ix, es_nil, es_cons, eo_none, eo_some, ec_none, ec_some, ei_seq, ei_rng1, ei_rng2, ei_enum, ei_zip, var0, varS, tg_nm, tg_tup, tgs_nil, tgs_cons, seq_tup, Option.bind_some, wipe_nil, wipe_cons, bind_ok', bind_ex', thn_ok, thn_nx, thn_rt, thn_bk, thn_ct, fin_nx, fin_rt, of_some, ob_sm, iteR_t, iteR_f, iteS_t, iteS_f, andR_t, andR_f, orR_t, orR_f, truR_b, intR_i, putS_s, putS'_s, setS_s, List.set_cons_succ, List.set_cons_zero, ty_non_int, ty_non_bool, ty_non_str, ty_non_tup, ty_non_lst, ty_non_dct, ty_bl_int, ty_bl_bool, ty_bl_str, ty_bl_tup, ty_bl_lst, ty_bl_dct, ty_int_int, ty_int_bool, ty_int_str, ty_int_tup, ty_int_lst, ty_int_dct, ty_str_int, ty_str_bool, ty_str_str, ty_str_tup, ty_str_lst, ty_str_dct, ty_tup_int, ty_tup_bool, ty_tup_str, ty_tup_tup, ty_tup_lst, ty_tup_dct, tru_non, tru_bl, tru_int, tru_tup, lt_int, le_int, gt_int, ge_int, eq_d, ne_d, is_d, isn_d, inn_d, nin_d, isNon_n, isNon_i, isNon_t, isNon_s, isNon_r, isNon_b, eq_int, eq_str, eq_bl, add_int, sub_int, neg_int, len_tup, bi_int_i, bi_int_b, bi_min, bi_max, rngW_i, seqW_t, newO_d, Bool.not_true, Bool.not_false, decide_true, decide_false, Bool.true_and, Bool.and_true, Bool.false_and, Bool.and_false, Bool.true_or, Bool.or_true, Bool.false_or, Bool.or_false, List.length_cons, List.length_nil, Nat.zero_add, Nat.reduceAdd, Nat.reduceLeDiff, SZ, ↓reduceIte, v_fld, t_fld, v_fnv, v_calll, t_calll, v_repr, v_dct0, s_raise0, s_raise1, s_tryk, thn_ex, thn_exS, fin_ex, truR_ex, keep_nx, keep_rt, eq_non_non, eq_non_int, eq_int_non, eq_str_non, eq_non_str, eq_int_str, eq_str_int, d14, uptoB]
/-- a dict of whole numbers -/
def F2 (fk : List (Int × Int)) : List (D × D) := fk.map fun p => (.int p.1, .int p.2)
def lookI (fk : List (Int × Int)) (i : Int) : Option Int := (fk.find? fun p => p.1 == i).map (·.2)
theorem look2 (fk : List (Int × Int)) (i : Int) : look (F2 fk) (.int i) = (lookI fk i).map .int := by
  unfold look lookI F2
  induction fk with
  | nil => rfl
  | cons p fk ih =>
    rw [List.map_cons, List.find?_cons, List.find?_cons]
    simp only [keyEq]
    cases q : p.1 == i with
    | true => rfl
    | false => exact ih
theorem any2 (fk : List (Int × Int)) (i : Int) : ((F2 fk).any fun p => keyEq p.1 (.int i)) = (lookI fk i).isSome := by
  unfold lookI F2
  induction fk with
  | nil => rfl
  | cons p fk ih =>
    rw [List.map_cons, List.any_cons, List.find?_cons]
    simp only [keyEq]
    cases q : p.1 == i with
    | true => rfl
    | false => rw [Bool.false_or]; exact ih
theorem put2 (fk : List (Int × Int)) (l f : Int) (e : lookI fk l = none) : putKV (F2 fk) (.int l) (.int f) = F2 (fk ++ [(l, f)]) := by
  unfold putKV
  rw [any2, e]
  simp [F2]
theorem five {xs : List D} (h : xs.length = 5) : ∃ a b c d e, xs = [a, b, c, d, e] := by
  match xs, h with
  | [a, b, c, d, e], _ => exact ⟨a, b, c, d, e, rfl⟩
theorem upto_int {v : D} {m : Int} (h : uptoB v m = true) : ∃ i, v = .int i ∧ 0 ≤ i ∧ i ≤ m := by
  cases v with
  | int i =>
    simp only [uptoB, Bool.and_eq_true, decide_eq_true_eq] at h
    exact ⟨i, rfl, h.1, h.2⟩
  | _ => cases h
theorem okv_bool {h : Hh} {v : D} (ok : okv h v) (hv : ∀ s, v ≠ .bl s) : isTys T h v [.bool] = some false := by
  cases v with
  | fn f => exact ok.elim
  | ref n =>
    obtain ⟨o, g, z⟩ := ok
    exact ty_ref2 (T := T) (t := .bool) g z (by simp) (by simp) (by simp)
  | bl s => exact absurd rfl (hv s)
  | _ => rfl
theorem ixt {xs : List D} {x : D} {h : Hh} (i : Nat) (e : xs[i]? = some x) : ixD (.tup xs) (.int (i : Int)) h = some (x, h) := by
  have hl := (List.getElem?_eq_some_iff.mp e).1
  have q : ix xs.length (i : Int) = some i := by rw [ix_nn (by omega) (by omega)]; simp
  simp only [ixD, q]
  simp [e]
theorem i0 {a b c d e : D} {h : Hh} : ixD (.tup [a, b, c, d, e]) (.int 0) h = some (a, h) := ixt 0 rfl
theorem i1 {a b c d e : D} {h : Hh} : ixD (.tup [a, b, c, d, e]) (.int 1) h = some (b, h) := ixt 1 rfl
theorem i2 {a b c d e : D} {h : Hh} : ixD (.tup [a, b, c, d, e]) (.int 2) h = some (c, h) := ixt 2 rfl
theorem i3 {a b c d e : D} {h : Hh} : ixD (.tup [a, b, c, d, e]) (.int 3) h = some (d, h) := ixt 3 rfl
theorem i4 {a b c d e : D} {h : Hh} : ixD (.tup [a, b, c, d, e]) (.int 4) h = some (e, h) := ixt 4 rfl
open Classical in
/-- a line begun on one ahead of it: its number and fork -/
noncomputable def tell (m : Int) (fk : List (Int × Int)) : D → Option (Int × Int)
  | .tup [.int l, .int ho, .int p, .int f, .bl _] => if (0 ≤ l ∧ l ≤ 1000000000) ∧ lookI fk l = none ∧ (0 ≤ ho ∧ ho ≤ m - 1) ∧ l % m = ho ∧ (0 ≤ p ∧ p ≤ 1000000000) ∧ p < l ∧ (0 ≤ f ∧ f ≤ 1000000) ∧ (∃ y, lookI fk p = some y ∧ y ≤ f) then some (l, f) else none
  | _ => none
theorem tell_none (m : Int) (fk : List (Int × Int)) (a b c d : D) (z : Bool) (q : uptoB a 1000000000 = false ∨ uptoB b (m - 1) = false ∨ uptoB c 1000000000 = false ∨ uptoB d 1000000 = false) : tell m fk (.tup [a, b, c, d, .bl z]) = none := by
  unfold tell
  split
  · rename_i e0
    simp only [D.tup.injEq, List.cons.injEq] at e0
    obtain ⟨rfl, rfl, rfl, rfl, _⟩ := e0
    rw [if_neg]
    rintro ⟨h1, _, h2, _, h3, _, h4, _⟩
    simp only [uptoB, Bool.and_eq_false_iff, decide_eq_false_iff_not] at q
    omega
  · rfl
theorem told_line (k : Nat) (v : D) (m : Int) (fk : List (Int × Int)) (N : Nat) (h : Hh) (g : h[N]? = some (.dct (F2 fk) false)) (ok : okP h v) (m1 : 1 ≤ m) : run T P (k + 2) 10 [v, .int m, .ref N] h = .ok (.bl (tell m fk v).isSome) h := by
  rw [u10]
  by_cases hv : ∃ xs, v = .tup xs
  · obtain ⟨xs, rfl⟩ := hv
    by_cases l5 : xs.length = 5
    · obtain ⟨a, b, c, d, e, rfl⟩ := five l5
      have n5 : decide (((5 : Nat) : Int) = 5) = true := rfl
      have oa := ok a (by simp)
      have ob' := ok b (by simp)
      have oc := ok c (by simp)
      have od := ok d (by simp)
      by_cases he : ∃ z, e = .bl z
      · obtain ⟨z, rfl⟩ := he
        have ub := uptoV k a 1000000000 h oa
        have uh := uptoV k b (m - 1) h ob'
        have up := uptoV k c 1000000000 h oc
        have uf := uptoV k d 1000000 h od
        cases qa : uptoB a 1000000000 with
        | false =>
          rw [qa] at ub
          rw [tell_none m fk a b c d z (.inl qa)]
          simp (implicitDefEqProofs := false) only [ss_cons, ss_nil, s_asg, s_asgc, s_ex, s_ret, s_pass, s_iff, s_forr, s_setix, s_asgs, v_non, v_bl, v_int, v_str, v_var, v_glob, v_bin, v_neg, v_not, v_and, v_or, v_cmp, v_chn, v_ife, v_tup, v_lst, v_ix, v_sl, v_call, v_bi, v_bm, v_isi, v_lrng1, v_lrng2, v_comp, t_bl, t_int, t_var, t_glob, t_not, t_and, t_or, t_cmp, t_chn, t_call, t_bi, t_isi, t_ix, es_nil, es_cons, eo_none, eo_some, ec_none, ec_some, ei_seq, ei_rng1, ei_rng2, ei_enum, ei_zip, var0, varS, tg_nm, tg_tup, tgs_nil, tgs_cons, seq_tup, Option.bind_some, wipe_nil, wipe_cons, bind_ok', bind_ex', thn_ok, thn_nx, thn_rt, thn_bk, thn_ct, fin_nx, fin_rt, of_some, ob_sm, iteR_t, iteR_f, iteS_t, iteS_f, andR_t, andR_f, orR_t, orR_f, truR_b, intR_i, putS_s, putS'_s, setS_s, List.set_cons_succ, List.set_cons_zero, ty_non_int, ty_non_bool, ty_non_str, ty_non_tup, ty_non_lst, ty_non_dct, ty_bl_int, ty_bl_bool, ty_bl_str, ty_bl_tup, ty_bl_lst, ty_bl_dct, ty_int_int, ty_int_bool, ty_int_str, ty_int_tup, ty_int_lst, ty_int_dct, ty_str_int, ty_str_bool, ty_str_str, ty_str_tup, ty_str_lst, ty_str_dct, ty_tup_int, ty_tup_bool, ty_tup_str, ty_tup_tup, ty_tup_lst, ty_tup_dct, tru_non, tru_bl, tru_int, tru_tup, lt_int, le_int, gt_int, ge_int, eq_d, ne_d, is_d, isn_d, inn_d, nin_d, isNon_n, isNon_i, isNon_t, isNon_s, isNon_r, isNon_b, eq_int, eq_str, eq_bl, add_int, sub_int, neg_int, len_tup, bi_int_i, bi_int_b, bi_min, bi_max, rngW_i, seqW_t, newO_d, Bool.not_true, Bool.not_false, decide_true, decide_false, Bool.true_and, Bool.and_true, Bool.false_and, Bool.and_false, Bool.true_or, Bool.or_true, Bool.false_or, Bool.or_false, List.length_cons, List.length_nil, Nat.zero_add, Nat.reduceAdd, Nat.reduceLeDiff, SZ, ↓reduceIte, v_fld, t_fld, v_fnv, v_calll, t_calll, v_repr, v_dct0, s_raise0, s_raise1, s_tryk, thn_ex, thn_exS, fin_ex, truR_ex, keep_nx, keep_rt, eq_non_non, eq_non_int, eq_int_non, eq_str_non, eq_non_str, eq_int_str, eq_str_int, d10, gT2, gT3, Option.isSome_none, n5, i4, ub]
        | true =>
          obtain ⟨l, rfl, la, lb⟩ := upto_int qa
          rw [qa] at ub
          have ind := in_dct (k := .int l) g rfl
          rw [look2] at ind
          cases ql : lookI fk l with
          | some y =>
            rw [ql] at ind
            have tn : tell m fk (.tup [.int l, b, c, d, .bl z]) = none := by
              unfold tell
              split
              · rename_i e0
                simp only [D.tup.injEq, List.cons.injEq, D.int.injEq] at e0
                rw [← e0.1, ql]; simp
              · rfl
            rw [tn]
            simp only [Option.map_some, Option.isSome_some] at ind
            simp (implicitDefEqProofs := false) only [ss_cons, ss_nil, s_asg, s_asgc, s_ex, s_ret, s_pass, s_iff, s_forr, s_setix, s_asgs, v_non, v_bl, v_int, v_str, v_var, v_glob, v_bin, v_neg, v_not, v_and, v_or, v_cmp, v_chn, v_ife, v_tup, v_lst, v_ix, v_sl, v_call, v_bi, v_bm, v_isi, v_lrng1, v_lrng2, v_comp, t_bl, t_int, t_var, t_glob, t_not, t_and, t_or, t_cmp, t_chn, t_call, t_bi, t_isi, t_ix, es_nil, es_cons, eo_none, eo_some, ec_none, ec_some, ei_seq, ei_rng1, ei_rng2, ei_enum, ei_zip, var0, varS, tg_nm, tg_tup, tgs_nil, tgs_cons, seq_tup, Option.bind_some, wipe_nil, wipe_cons, bind_ok', bind_ex', thn_ok, thn_nx, thn_rt, thn_bk, thn_ct, fin_nx, fin_rt, of_some, ob_sm, iteR_t, iteR_f, iteS_t, iteS_f, andR_t, andR_f, orR_t, orR_f, truR_b, intR_i, putS_s, putS'_s, setS_s, List.set_cons_succ, List.set_cons_zero, ty_non_int, ty_non_bool, ty_non_str, ty_non_tup, ty_non_lst, ty_non_dct, ty_bl_int, ty_bl_bool, ty_bl_str, ty_bl_tup, ty_bl_lst, ty_bl_dct, ty_int_int, ty_int_bool, ty_int_str, ty_int_tup, ty_int_lst, ty_int_dct, ty_str_int, ty_str_bool, ty_str_str, ty_str_tup, ty_str_lst, ty_str_dct, ty_tup_int, ty_tup_bool, ty_tup_str, ty_tup_tup, ty_tup_lst, ty_tup_dct, tru_non, tru_bl, tru_int, tru_tup, lt_int, le_int, gt_int, ge_int, eq_d, ne_d, is_d, isn_d, inn_d, nin_d, isNon_n, isNon_i, isNon_t, isNon_s, isNon_r, isNon_b, eq_int, eq_str, eq_bl, add_int, sub_int, neg_int, len_tup, bi_int_i, bi_int_b, bi_min, bi_max, rngW_i, seqW_t, newO_d, Bool.not_true, Bool.not_false, decide_true, decide_false, Bool.true_and, Bool.and_true, Bool.false_and, Bool.and_false, Bool.true_or, Bool.or_true, Bool.false_or, Bool.or_false, List.length_cons, List.length_nil, Nat.zero_add, Nat.reduceAdd, Nat.reduceLeDiff, SZ, ↓reduceIte, v_fld, t_fld, v_fnv, v_calll, t_calll, v_repr, v_dct0, s_raise0, s_raise1, s_tryk, thn_ex, thn_exS, fin_ex, truR_ex, keep_nx, keep_rt, eq_non_non, eq_non_int, eq_int_non, eq_str_non, eq_non_str, eq_int_str, eq_str_int, d10, gT2, gT3, Option.isSome_none, n5, i4, ub, ind]
          | none =>
            rw [ql] at ind
            simp only [Option.map_none, Option.isSome_none] at ind
            cases qb : uptoB b (m - 1) with
            | false =>
              rw [qb] at uh
              rw [tell_none m fk (.int l) b c d z (.inr (.inl qb))]
              simp (implicitDefEqProofs := false) only [ss_cons, ss_nil, s_asg, s_asgc, s_ex, s_ret, s_pass, s_iff, s_forr, s_setix, s_asgs, v_non, v_bl, v_int, v_str, v_var, v_glob, v_bin, v_neg, v_not, v_and, v_or, v_cmp, v_chn, v_ife, v_tup, v_lst, v_ix, v_sl, v_call, v_bi, v_bm, v_isi, v_lrng1, v_lrng2, v_comp, t_bl, t_int, t_var, t_glob, t_not, t_and, t_or, t_cmp, t_chn, t_call, t_bi, t_isi, t_ix, es_nil, es_cons, eo_none, eo_some, ec_none, ec_some, ei_seq, ei_rng1, ei_rng2, ei_enum, ei_zip, var0, varS, tg_nm, tg_tup, tgs_nil, tgs_cons, seq_tup, Option.bind_some, wipe_nil, wipe_cons, bind_ok', bind_ex', thn_ok, thn_nx, thn_rt, thn_bk, thn_ct, fin_nx, fin_rt, of_some, ob_sm, iteR_t, iteR_f, iteS_t, iteS_f, andR_t, andR_f, orR_t, orR_f, truR_b, intR_i, putS_s, putS'_s, setS_s, List.set_cons_succ, List.set_cons_zero, ty_non_int, ty_non_bool, ty_non_str, ty_non_tup, ty_non_lst, ty_non_dct, ty_bl_int, ty_bl_bool, ty_bl_str, ty_bl_tup, ty_bl_lst, ty_bl_dct, ty_int_int, ty_int_bool, ty_int_str, ty_int_tup, ty_int_lst, ty_int_dct, ty_str_int, ty_str_bool, ty_str_str, ty_str_tup, ty_str_lst, ty_str_dct, ty_tup_int, ty_tup_bool, ty_tup_str, ty_tup_tup, ty_tup_lst, ty_tup_dct, tru_non, tru_bl, tru_int, tru_tup, lt_int, le_int, gt_int, ge_int, eq_d, ne_d, is_d, isn_d, inn_d, nin_d, isNon_n, isNon_i, isNon_t, isNon_s, isNon_r, isNon_b, eq_int, eq_str, eq_bl, add_int, sub_int, neg_int, len_tup, bi_int_i, bi_int_b, bi_min, bi_max, rngW_i, seqW_t, newO_d, Bool.not_true, Bool.not_false, decide_true, decide_false, Bool.true_and, Bool.and_true, Bool.false_and, Bool.and_false, Bool.true_or, Bool.or_true, Bool.false_or, Bool.or_false, List.length_cons, List.length_nil, Nat.zero_add, Nat.reduceAdd, Nat.reduceLeDiff, SZ, ↓reduceIte, v_fld, t_fld, v_fnv, v_calll, t_calll, v_repr, v_dct0, s_raise0, s_raise1, s_tryk, thn_ex, thn_exS, fin_ex, truR_ex, keep_nx, keep_rt, eq_non_non, eq_non_int, eq_int_non, eq_str_non, eq_non_str, eq_int_str, eq_str_int, d10, gT2, gT3, Option.isSome_none, n5, i4, ub, ind, uh]
            | true =>
              obtain ⟨ho, rfl, ha, hb⟩ := upto_int qb
              rw [qb] at uh
              have md : binD .mod (.int l) (.int m) h = some (.int (l % m), h) := by rw [mod_int, if_pos (by omega)]
              by_cases qm : l % m = ho
              · cases qc : uptoB c 1000000000 with
                | false =>
                  rw [qc] at up
                  rw [tell_none m fk (.int l) (.int ho) c d z (.inr (.inr (.inl qc)))]
                  simp (implicitDefEqProofs := false) only [ss_cons, ss_nil, s_asg, s_asgc, s_ex, s_ret, s_pass, s_iff, s_forr, s_setix, s_asgs, v_non, v_bl, v_int, v_str, v_var, v_glob, v_bin, v_neg, v_not, v_and, v_or, v_cmp, v_chn, v_ife, v_tup, v_lst, v_ix, v_sl, v_call, v_bi, v_bm, v_isi, v_lrng1, v_lrng2, v_comp, t_bl, t_int, t_var, t_glob, t_not, t_and, t_or, t_cmp, t_chn, t_call, t_bi, t_isi, t_ix, es_nil, es_cons, eo_none, eo_some, ec_none, ec_some, ei_seq, ei_rng1, ei_rng2, ei_enum, ei_zip, var0, varS, tg_nm, tg_tup, tgs_nil, tgs_cons, seq_tup, Option.bind_some, wipe_nil, wipe_cons, bind_ok', bind_ex', thn_ok, thn_nx, thn_rt, thn_bk, thn_ct, fin_nx, fin_rt, of_some, ob_sm, iteR_t, iteR_f, iteS_t, iteS_f, andR_t, andR_f, orR_t, orR_f, truR_b, intR_i, putS_s, putS'_s, setS_s, List.set_cons_succ, List.set_cons_zero, ty_non_int, ty_non_bool, ty_non_str, ty_non_tup, ty_non_lst, ty_non_dct, ty_bl_int, ty_bl_bool, ty_bl_str, ty_bl_tup, ty_bl_lst, ty_bl_dct, ty_int_int, ty_int_bool, ty_int_str, ty_int_tup, ty_int_lst, ty_int_dct, ty_str_int, ty_str_bool, ty_str_str, ty_str_tup, ty_str_lst, ty_str_dct, ty_tup_int, ty_tup_bool, ty_tup_str, ty_tup_tup, ty_tup_lst, ty_tup_dct, tru_non, tru_bl, tru_int, tru_tup, lt_int, le_int, gt_int, ge_int, eq_d, ne_d, is_d, isn_d, inn_d, nin_d, isNon_n, isNon_i, isNon_t, isNon_s, isNon_r, isNon_b, eq_int, eq_str, eq_bl, add_int, sub_int, neg_int, len_tup, bi_int_i, bi_int_b, bi_min, bi_max, rngW_i, seqW_t, newO_d, Bool.not_true, Bool.not_false, decide_true, decide_false, Bool.true_and, Bool.and_true, Bool.false_and, Bool.and_false, Bool.true_or, Bool.or_true, Bool.false_or, Bool.or_false, List.length_cons, List.length_nil, Nat.zero_add, Nat.reduceAdd, Nat.reduceLeDiff, SZ, ↓reduceIte, v_fld, t_fld, v_fnv, v_calll, t_calll, v_repr, v_dct0, s_raise0, s_raise1, s_tryk, thn_ex, thn_exS, fin_ex, truR_ex, keep_nx, keep_rt, eq_non_non, eq_non_int, eq_int_non, eq_str_non, eq_non_str, eq_int_str, eq_str_int, d10, gT2, gT3, Option.isSome_none, n5, i4, ub, ind, uh, md, qm, up]
                | true =>
                  obtain ⟨p, rfl, pa, pb⟩ := upto_int qc
                  rw [qc] at up
                  have inp := in_dct (k := .int p) g rfl
                  rw [look2] at inp
                  cases qp : lookI fk p with
                  | none =>
                    rw [qp] at inp
                    simp only [Option.map_none, Option.isSome_none] at inp
                    have tn : tell m fk (.tup [.int l, .int ho, .int p, d, .bl z]) = none := by
                      unfold tell
                      split
                      · rename_i e0
                        simp only [D.tup.injEq, List.cons.injEq, D.int.injEq] at e0
                        rw [← e0.2.2.1, qp]; simp
                      · rfl
                    rw [tn]
                    simp (implicitDefEqProofs := false) only [ss_cons, ss_nil, s_asg, s_asgc, s_ex, s_ret, s_pass, s_iff, s_forr, s_setix, s_asgs, v_non, v_bl, v_int, v_str, v_var, v_glob, v_bin, v_neg, v_not, v_and, v_or, v_cmp, v_chn, v_ife, v_tup, v_lst, v_ix, v_sl, v_call, v_bi, v_bm, v_isi, v_lrng1, v_lrng2, v_comp, t_bl, t_int, t_var, t_glob, t_not, t_and, t_or, t_cmp, t_chn, t_call, t_bi, t_isi, t_ix, es_nil, es_cons, eo_none, eo_some, ec_none, ec_some, ei_seq, ei_rng1, ei_rng2, ei_enum, ei_zip, var0, varS, tg_nm, tg_tup, tgs_nil, tgs_cons, seq_tup, Option.bind_some, wipe_nil, wipe_cons, bind_ok', bind_ex', thn_ok, thn_nx, thn_rt, thn_bk, thn_ct, fin_nx, fin_rt, of_some, ob_sm, iteR_t, iteR_f, iteS_t, iteS_f, andR_t, andR_f, orR_t, orR_f, truR_b, intR_i, putS_s, putS'_s, setS_s, List.set_cons_succ, List.set_cons_zero, ty_non_int, ty_non_bool, ty_non_str, ty_non_tup, ty_non_lst, ty_non_dct, ty_bl_int, ty_bl_bool, ty_bl_str, ty_bl_tup, ty_bl_lst, ty_bl_dct, ty_int_int, ty_int_bool, ty_int_str, ty_int_tup, ty_int_lst, ty_int_dct, ty_str_int, ty_str_bool, ty_str_str, ty_str_tup, ty_str_lst, ty_str_dct, ty_tup_int, ty_tup_bool, ty_tup_str, ty_tup_tup, ty_tup_lst, ty_tup_dct, tru_non, tru_bl, tru_int, tru_tup, lt_int, le_int, gt_int, ge_int, eq_d, ne_d, is_d, isn_d, inn_d, nin_d, isNon_n, isNon_i, isNon_t, isNon_s, isNon_r, isNon_b, eq_int, eq_str, eq_bl, add_int, sub_int, neg_int, len_tup, bi_int_i, bi_int_b, bi_min, bi_max, rngW_i, seqW_t, newO_d, Bool.not_true, Bool.not_false, decide_true, decide_false, Bool.true_and, Bool.and_true, Bool.false_and, Bool.and_false, Bool.true_or, Bool.or_true, Bool.false_or, Bool.or_false, List.length_cons, List.length_nil, Nat.zero_add, Nat.reduceAdd, Nat.reduceLeDiff, SZ, ↓reduceIte, v_fld, t_fld, v_fnv, v_calll, t_calll, v_repr, v_dct0, s_raise0, s_raise1, s_tryk, thn_ex, thn_exS, fin_ex, truR_ex, keep_nx, keep_rt, eq_non_non, eq_non_int, eq_int_non, eq_str_non, eq_non_str, eq_int_str, eq_str_int, d10, gT2, gT3, Option.isSome_none, n5, i4, ub, ind, uh, md, qm, up, inp]
                  | some y =>
                    rw [qp] at inp
                    simp only [Option.map_some, Option.isSome_some] at inp
                    by_cases qlt : l ≤ p
                    · have tn : tell m fk (.tup [.int l, .int ho, .int p, d, .bl z]) = none := by
                        unfold tell
                        split
                        · rename_i e0
                          simp only [D.tup.injEq, List.cons.injEq, D.int.injEq] at e0
                          rw [if_neg (by rw [← e0.1, ← e0.2.2.1]; omega)]
                        · rfl
                      rw [tn]
                      simp (implicitDefEqProofs := false) only [ss_cons, ss_nil, s_asg, s_asgc, s_ex, s_ret, s_pass, s_iff, s_forr, s_setix, s_asgs, v_non, v_bl, v_int, v_str, v_var, v_glob, v_bin, v_neg, v_not, v_and, v_or, v_cmp, v_chn, v_ife, v_tup, v_lst, v_ix, v_sl, v_call, v_bi, v_bm, v_isi, v_lrng1, v_lrng2, v_comp, t_bl, t_int, t_var, t_glob, t_not, t_and, t_or, t_cmp, t_chn, t_call, t_bi, t_isi, t_ix, es_nil, es_cons, eo_none, eo_some, ec_none, ec_some, ei_seq, ei_rng1, ei_rng2, ei_enum, ei_zip, var0, varS, tg_nm, tg_tup, tgs_nil, tgs_cons, seq_tup, Option.bind_some, wipe_nil, wipe_cons, bind_ok', bind_ex', thn_ok, thn_nx, thn_rt, thn_bk, thn_ct, fin_nx, fin_rt, of_some, ob_sm, iteR_t, iteR_f, iteS_t, iteS_f, andR_t, andR_f, orR_t, orR_f, truR_b, intR_i, putS_s, putS'_s, setS_s, List.set_cons_succ, List.set_cons_zero, ty_non_int, ty_non_bool, ty_non_str, ty_non_tup, ty_non_lst, ty_non_dct, ty_bl_int, ty_bl_bool, ty_bl_str, ty_bl_tup, ty_bl_lst, ty_bl_dct, ty_int_int, ty_int_bool, ty_int_str, ty_int_tup, ty_int_lst, ty_int_dct, ty_str_int, ty_str_bool, ty_str_str, ty_str_tup, ty_str_lst, ty_str_dct, ty_tup_int, ty_tup_bool, ty_tup_str, ty_tup_tup, ty_tup_lst, ty_tup_dct, tru_non, tru_bl, tru_int, tru_tup, lt_int, le_int, gt_int, ge_int, eq_d, ne_d, is_d, isn_d, inn_d, nin_d, isNon_n, isNon_i, isNon_t, isNon_s, isNon_r, isNon_b, eq_int, eq_str, eq_bl, add_int, sub_int, neg_int, len_tup, bi_int_i, bi_int_b, bi_min, bi_max, rngW_i, seqW_t, newO_d, Bool.not_true, Bool.not_false, decide_true, decide_false, Bool.true_and, Bool.and_true, Bool.false_and, Bool.and_false, Bool.true_or, Bool.or_true, Bool.false_or, Bool.or_false, List.length_cons, List.length_nil, Nat.zero_add, Nat.reduceAdd, Nat.reduceLeDiff, SZ, ↓reduceIte, v_fld, t_fld, v_fnv, v_calll, t_calll, v_repr, v_dct0, s_raise0, s_raise1, s_tryk, thn_ex, thn_exS, fin_ex, truR_ex, keep_nx, keep_rt, eq_non_non, eq_non_int, eq_int_non, eq_str_non, eq_non_str, eq_int_str, eq_str_int, d10, gT2, gT3, Option.isSome_none, n5, i4, ub, ind, uh, md, qm, up, inp, decide_eq_true qlt]
                    · cases qf : uptoB d 1000000 with
                      | false =>
                        rw [qf] at uf
                        rw [tell_none m fk (.int l) (.int ho) (.int p) d z (.inr (.inr (.inr qf)))]
                        simp (implicitDefEqProofs := false) only [ss_cons, ss_nil, s_asg, s_asgc, s_ex, s_ret, s_pass, s_iff, s_forr, s_setix, s_asgs, v_non, v_bl, v_int, v_str, v_var, v_glob, v_bin, v_neg, v_not, v_and, v_or, v_cmp, v_chn, v_ife, v_tup, v_lst, v_ix, v_sl, v_call, v_bi, v_bm, v_isi, v_lrng1, v_lrng2, v_comp, t_bl, t_int, t_var, t_glob, t_not, t_and, t_or, t_cmp, t_chn, t_call, t_bi, t_isi, t_ix, es_nil, es_cons, eo_none, eo_some, ec_none, ec_some, ei_seq, ei_rng1, ei_rng2, ei_enum, ei_zip, var0, varS, tg_nm, tg_tup, tgs_nil, tgs_cons, seq_tup, Option.bind_some, wipe_nil, wipe_cons, bind_ok', bind_ex', thn_ok, thn_nx, thn_rt, thn_bk, thn_ct, fin_nx, fin_rt, of_some, ob_sm, iteR_t, iteR_f, iteS_t, iteS_f, andR_t, andR_f, orR_t, orR_f, truR_b, intR_i, putS_s, putS'_s, setS_s, List.set_cons_succ, List.set_cons_zero, ty_non_int, ty_non_bool, ty_non_str, ty_non_tup, ty_non_lst, ty_non_dct, ty_bl_int, ty_bl_bool, ty_bl_str, ty_bl_tup, ty_bl_lst, ty_bl_dct, ty_int_int, ty_int_bool, ty_int_str, ty_int_tup, ty_int_lst, ty_int_dct, ty_str_int, ty_str_bool, ty_str_str, ty_str_tup, ty_str_lst, ty_str_dct, ty_tup_int, ty_tup_bool, ty_tup_str, ty_tup_tup, ty_tup_lst, ty_tup_dct, tru_non, tru_bl, tru_int, tru_tup, lt_int, le_int, gt_int, ge_int, eq_d, ne_d, is_d, isn_d, inn_d, nin_d, isNon_n, isNon_i, isNon_t, isNon_s, isNon_r, isNon_b, eq_int, eq_str, eq_bl, add_int, sub_int, neg_int, len_tup, bi_int_i, bi_int_b, bi_min, bi_max, rngW_i, seqW_t, newO_d, Bool.not_true, Bool.not_false, decide_true, decide_false, Bool.true_and, Bool.and_true, Bool.false_and, Bool.and_false, Bool.true_or, Bool.or_true, Bool.false_or, Bool.or_false, List.length_cons, List.length_nil, Nat.zero_add, Nat.reduceAdd, Nat.reduceLeDiff, SZ, ↓reduceIte, v_fld, t_fld, v_fnv, v_calll, t_calll, v_repr, v_dct0, s_raise0, s_raise1, s_tryk, thn_ex, thn_exS, fin_ex, truR_ex, keep_nx, keep_rt, eq_non_non, eq_non_int, eq_int_non, eq_str_non, eq_non_str, eq_int_str, eq_str_int, d10, gT2, gT3, Option.isSome_none, n5, i4, ub, ind, uh, md, qm, up, inp, decide_eq_false qlt, uf]
                      | true =>
                        obtain ⟨f, rfl, fa, fb⟩ := upto_int qf
                        rw [qf] at uf
                        have ixp := ix_dct (k := .int p) (v := .int y) g rfl (by rw [look2, qp]; rfl)
                        by_cases qg : y ≤ f
                        · have ts : tell m fk (.tup [.int l, .int ho, .int p, .int f, .bl z]) = some (l, f) := by
                            unfold tell
                            simp only [ql, qp]
                            rw [if_pos (by simp; omega)]
                          rw [ts]
                          simp (implicitDefEqProofs := false) only [ss_cons, ss_nil, s_asg, s_asgc, s_ex, s_ret, s_pass, s_iff, s_forr, s_setix, s_asgs, v_non, v_bl, v_int, v_str, v_var, v_glob, v_bin, v_neg, v_not, v_and, v_or, v_cmp, v_chn, v_ife, v_tup, v_lst, v_ix, v_sl, v_call, v_bi, v_bm, v_isi, v_lrng1, v_lrng2, v_comp, t_bl, t_int, t_var, t_glob, t_not, t_and, t_or, t_cmp, t_chn, t_call, t_bi, t_isi, t_ix, es_nil, es_cons, eo_none, eo_some, ec_none, ec_some, ei_seq, ei_rng1, ei_rng2, ei_enum, ei_zip, var0, varS, tg_nm, tg_tup, tgs_nil, tgs_cons, seq_tup, Option.bind_some, wipe_nil, wipe_cons, bind_ok', bind_ex', thn_ok, thn_nx, thn_rt, thn_bk, thn_ct, fin_nx, fin_rt, of_some, ob_sm, iteR_t, iteR_f, iteS_t, iteS_f, andR_t, andR_f, orR_t, orR_f, truR_b, intR_i, putS_s, putS'_s, setS_s, List.set_cons_succ, List.set_cons_zero, ty_non_int, ty_non_bool, ty_non_str, ty_non_tup, ty_non_lst, ty_non_dct, ty_bl_int, ty_bl_bool, ty_bl_str, ty_bl_tup, ty_bl_lst, ty_bl_dct, ty_int_int, ty_int_bool, ty_int_str, ty_int_tup, ty_int_lst, ty_int_dct, ty_str_int, ty_str_bool, ty_str_str, ty_str_tup, ty_str_lst, ty_str_dct, ty_tup_int, ty_tup_bool, ty_tup_str, ty_tup_tup, ty_tup_lst, ty_tup_dct, tru_non, tru_bl, tru_int, tru_tup, lt_int, le_int, gt_int, ge_int, eq_d, ne_d, is_d, isn_d, inn_d, nin_d, isNon_n, isNon_i, isNon_t, isNon_s, isNon_r, isNon_b, eq_int, eq_str, eq_bl, add_int, sub_int, neg_int, len_tup, bi_int_i, bi_int_b, bi_min, bi_max, rngW_i, seqW_t, newO_d, Bool.not_true, Bool.not_false, decide_true, decide_false, Bool.true_and, Bool.and_true, Bool.false_and, Bool.and_false, Bool.true_or, Bool.or_true, Bool.false_or, Bool.or_false, List.length_cons, List.length_nil, Nat.zero_add, Nat.reduceAdd, Nat.reduceLeDiff, SZ, ↓reduceIte, v_fld, t_fld, v_fnv, v_calll, t_calll, v_repr, v_dct0, s_raise0, s_raise1, s_tryk, thn_ex, thn_exS, fin_ex, truR_ex, keep_nx, keep_rt, eq_non_non, eq_non_int, eq_int_non, eq_str_non, eq_non_str, eq_int_str, eq_str_int, d10, gT2, gT3, Option.isSome_none, n5, i4, ub, ind, uh, md, qm, up, inp, decide_eq_false qlt, uf, ixp, decide_eq_true qg, Option.isSome_some]
                        · have ts : tell m fk (.tup [.int l, .int ho, .int p, .int f, .bl z]) = none := by
                            unfold tell
                            simp only [ql, qp]
                            rw [if_neg (by simp; omega)]
                          rw [ts]
                          simp (implicitDefEqProofs := false) only [ss_cons, ss_nil, s_asg, s_asgc, s_ex, s_ret, s_pass, s_iff, s_forr, s_setix, s_asgs, v_non, v_bl, v_int, v_str, v_var, v_glob, v_bin, v_neg, v_not, v_and, v_or, v_cmp, v_chn, v_ife, v_tup, v_lst, v_ix, v_sl, v_call, v_bi, v_bm, v_isi, v_lrng1, v_lrng2, v_comp, t_bl, t_int, t_var, t_glob, t_not, t_and, t_or, t_cmp, t_chn, t_call, t_bi, t_isi, t_ix, es_nil, es_cons, eo_none, eo_some, ec_none, ec_some, ei_seq, ei_rng1, ei_rng2, ei_enum, ei_zip, var0, varS, tg_nm, tg_tup, tgs_nil, tgs_cons, seq_tup, Option.bind_some, wipe_nil, wipe_cons, bind_ok', bind_ex', thn_ok, thn_nx, thn_rt, thn_bk, thn_ct, fin_nx, fin_rt, of_some, ob_sm, iteR_t, iteR_f, iteS_t, iteS_f, andR_t, andR_f, orR_t, orR_f, truR_b, intR_i, putS_s, putS'_s, setS_s, List.set_cons_succ, List.set_cons_zero, ty_non_int, ty_non_bool, ty_non_str, ty_non_tup, ty_non_lst, ty_non_dct, ty_bl_int, ty_bl_bool, ty_bl_str, ty_bl_tup, ty_bl_lst, ty_bl_dct, ty_int_int, ty_int_bool, ty_int_str, ty_int_tup, ty_int_lst, ty_int_dct, ty_str_int, ty_str_bool, ty_str_str, ty_str_tup, ty_str_lst, ty_str_dct, ty_tup_int, ty_tup_bool, ty_tup_str, ty_tup_tup, ty_tup_lst, ty_tup_dct, tru_non, tru_bl, tru_int, tru_tup, lt_int, le_int, gt_int, ge_int, eq_d, ne_d, is_d, isn_d, inn_d, nin_d, isNon_n, isNon_i, isNon_t, isNon_s, isNon_r, isNon_b, eq_int, eq_str, eq_bl, add_int, sub_int, neg_int, len_tup, bi_int_i, bi_int_b, bi_min, bi_max, rngW_i, seqW_t, newO_d, Bool.not_true, Bool.not_false, decide_true, decide_false, Bool.true_and, Bool.and_true, Bool.false_and, Bool.and_false, Bool.true_or, Bool.or_true, Bool.false_or, Bool.or_false, List.length_cons, List.length_nil, Nat.zero_add, Nat.reduceAdd, Nat.reduceLeDiff, SZ, ↓reduceIte, v_fld, t_fld, v_fnv, v_calll, t_calll, v_repr, v_dct0, s_raise0, s_raise1, s_tryk, thn_ex, thn_exS, fin_ex, truR_ex, keep_nx, keep_rt, eq_non_non, eq_non_int, eq_int_non, eq_str_non, eq_non_str, eq_int_str, eq_str_int, d10, gT2, gT3, Option.isSome_none, n5, i4, ub, ind, uh, md, qm, up, inp, decide_eq_false qlt, uf, ixp, decide_eq_false qg, Option.isSome_none]
              · have tn : tell m fk (.tup [.int l, .int ho, c, d, .bl z]) = none := by
                  unfold tell
                  split
                  · rename_i e0
                    simp only [D.tup.injEq, List.cons.injEq, D.int.injEq] at e0
                    rw [if_neg (by rw [← e0.1, ← e0.2.1]; omega)]
                  · rfl
                rw [tn]
                simp (implicitDefEqProofs := false) only [ss_cons, ss_nil, s_asg, s_asgc, s_ex, s_ret, s_pass, s_iff, s_forr, s_setix, s_asgs, v_non, v_bl, v_int, v_str, v_var, v_glob, v_bin, v_neg, v_not, v_and, v_or, v_cmp, v_chn, v_ife, v_tup, v_lst, v_ix, v_sl, v_call, v_bi, v_bm, v_isi, v_lrng1, v_lrng2, v_comp, t_bl, t_int, t_var, t_glob, t_not, t_and, t_or, t_cmp, t_chn, t_call, t_bi, t_isi, t_ix, es_nil, es_cons, eo_none, eo_some, ec_none, ec_some, ei_seq, ei_rng1, ei_rng2, ei_enum, ei_zip, var0, varS, tg_nm, tg_tup, tgs_nil, tgs_cons, seq_tup, Option.bind_some, wipe_nil, wipe_cons, bind_ok', bind_ex', thn_ok, thn_nx, thn_rt, thn_bk, thn_ct, fin_nx, fin_rt, of_some, ob_sm, iteR_t, iteR_f, iteS_t, iteS_f, andR_t, andR_f, orR_t, orR_f, truR_b, intR_i, putS_s, putS'_s, setS_s, List.set_cons_succ, List.set_cons_zero, ty_non_int, ty_non_bool, ty_non_str, ty_non_tup, ty_non_lst, ty_non_dct, ty_bl_int, ty_bl_bool, ty_bl_str, ty_bl_tup, ty_bl_lst, ty_bl_dct, ty_int_int, ty_int_bool, ty_int_str, ty_int_tup, ty_int_lst, ty_int_dct, ty_str_int, ty_str_bool, ty_str_str, ty_str_tup, ty_str_lst, ty_str_dct, ty_tup_int, ty_tup_bool, ty_tup_str, ty_tup_tup, ty_tup_lst, ty_tup_dct, tru_non, tru_bl, tru_int, tru_tup, lt_int, le_int, gt_int, ge_int, eq_d, ne_d, is_d, isn_d, inn_d, nin_d, isNon_n, isNon_i, isNon_t, isNon_s, isNon_r, isNon_b, eq_int, eq_str, eq_bl, add_int, sub_int, neg_int, len_tup, bi_int_i, bi_int_b, bi_min, bi_max, rngW_i, seqW_t, newO_d, Bool.not_true, Bool.not_false, decide_true, decide_false, Bool.true_and, Bool.and_true, Bool.false_and, Bool.and_false, Bool.true_or, Bool.or_true, Bool.false_or, Bool.or_false, List.length_cons, List.length_nil, Nat.zero_add, Nat.reduceAdd, Nat.reduceLeDiff, SZ, ↓reduceIte, v_fld, t_fld, v_fnv, v_calll, t_calll, v_repr, v_dct0, s_raise0, s_raise1, s_tryk, thn_ex, thn_exS, fin_ex, truR_ex, keep_nx, keep_rt, eq_non_non, eq_non_int, eq_int_non, eq_str_non, eq_non_str, eq_int_str, eq_str_int, d10, gT2, gT3, Option.isSome_none, n5, i4, ub, ind, uh, md, decide_eq_false qm]
      · have te := okv_bool (ok e (by simp)) fun z q => he ⟨z, q⟩
        have tn : tell m fk (.tup [a, b, c, d, e]) = none := by
          unfold tell
          split
          · rename_i e0
            simp only [D.tup.injEq, List.cons.injEq] at e0
            exact absurd ⟨_, e0.2.2.2.2.1⟩ he
          · rfl
        rw [tn]
        simp (implicitDefEqProofs := false) only [ss_cons, ss_nil, s_asg, s_asgc, s_ex, s_ret, s_pass, s_iff, s_forr, s_setix, s_asgs, v_non, v_bl, v_int, v_str, v_var, v_glob, v_bin, v_neg, v_not, v_and, v_or, v_cmp, v_chn, v_ife, v_tup, v_lst, v_ix, v_sl, v_call, v_bi, v_bm, v_isi, v_lrng1, v_lrng2, v_comp, t_bl, t_int, t_var, t_glob, t_not, t_and, t_or, t_cmp, t_chn, t_call, t_bi, t_isi, t_ix, es_nil, es_cons, eo_none, eo_some, ec_none, ec_some, ei_seq, ei_rng1, ei_rng2, ei_enum, ei_zip, var0, varS, tg_nm, tg_tup, tgs_nil, tgs_cons, seq_tup, Option.bind_some, wipe_nil, wipe_cons, bind_ok', bind_ex', thn_ok, thn_nx, thn_rt, thn_bk, thn_ct, fin_nx, fin_rt, of_some, ob_sm, iteR_t, iteR_f, iteS_t, iteS_f, andR_t, andR_f, orR_t, orR_f, truR_b, intR_i, putS_s, putS'_s, setS_s, List.set_cons_succ, List.set_cons_zero, ty_non_int, ty_non_bool, ty_non_str, ty_non_tup, ty_non_lst, ty_non_dct, ty_bl_int, ty_bl_bool, ty_bl_str, ty_bl_tup, ty_bl_lst, ty_bl_dct, ty_int_int, ty_int_bool, ty_int_str, ty_int_tup, ty_int_lst, ty_int_dct, ty_str_int, ty_str_bool, ty_str_str, ty_str_tup, ty_str_lst, ty_str_dct, ty_tup_int, ty_tup_bool, ty_tup_str, ty_tup_tup, ty_tup_lst, ty_tup_dct, tru_non, tru_bl, tru_int, tru_tup, lt_int, le_int, gt_int, ge_int, eq_d, ne_d, is_d, isn_d, inn_d, nin_d, isNon_n, isNon_i, isNon_t, isNon_s, isNon_r, isNon_b, eq_int, eq_str, eq_bl, add_int, sub_int, neg_int, len_tup, bi_int_i, bi_int_b, bi_min, bi_max, rngW_i, seqW_t, newO_d, Bool.not_true, Bool.not_false, decide_true, decide_false, Bool.true_and, Bool.and_true, Bool.false_and, Bool.and_false, Bool.true_or, Bool.or_true, Bool.false_or, Bool.or_false, List.length_cons, List.length_nil, Nat.zero_add, Nat.reduceAdd, Nat.reduceLeDiff, SZ, ↓reduceIte, v_fld, t_fld, v_fnv, v_calll, t_calll, v_repr, v_dct0, s_raise0, s_raise1, s_tryk, thn_ex, thn_exS, fin_ex, truR_ex, keep_nx, keep_rt, eq_non_non, eq_non_int, eq_int_non, eq_str_non, eq_non_str, eq_int_str, eq_str_int, d10, gT2, gT3, Option.isSome_none, n5, i4, te]
    · have ln : decide (((xs.length : Nat) : Int) = 5) = false := decide_eq_false (by omega)
      have tn : tell m fk (.tup xs) = none := by
        unfold tell
        split
        · rename_i e0
          cases e0
          simp at l5
        · rfl
      rw [tn]
      simp (implicitDefEqProofs := false) only [ss_cons, ss_nil, s_asg, s_asgc, s_ex, s_ret, s_pass, s_iff, s_forr, s_setix, s_asgs, v_non, v_bl, v_int, v_str, v_var, v_glob, v_bin, v_neg, v_not, v_and, v_or, v_cmp, v_chn, v_ife, v_tup, v_lst, v_ix, v_sl, v_call, v_bi, v_bm, v_isi, v_lrng1, v_lrng2, v_comp, t_bl, t_int, t_var, t_glob, t_not, t_and, t_or, t_cmp, t_chn, t_call, t_bi, t_isi, t_ix, es_nil, es_cons, eo_none, eo_some, ec_none, ec_some, ei_seq, ei_rng1, ei_rng2, ei_enum, ei_zip, var0, varS, tg_nm, tg_tup, tgs_nil, tgs_cons, seq_tup, Option.bind_some, wipe_nil, wipe_cons, bind_ok', bind_ex', thn_ok, thn_nx, thn_rt, thn_bk, thn_ct, fin_nx, fin_rt, of_some, ob_sm, iteR_t, iteR_f, iteS_t, iteS_f, andR_t, andR_f, orR_t, orR_f, truR_b, intR_i, putS_s, putS'_s, setS_s, List.set_cons_succ, List.set_cons_zero, ty_non_int, ty_non_bool, ty_non_str, ty_non_tup, ty_non_lst, ty_non_dct, ty_bl_int, ty_bl_bool, ty_bl_str, ty_bl_tup, ty_bl_lst, ty_bl_dct, ty_int_int, ty_int_bool, ty_int_str, ty_int_tup, ty_int_lst, ty_int_dct, ty_str_int, ty_str_bool, ty_str_str, ty_str_tup, ty_str_lst, ty_str_dct, ty_tup_int, ty_tup_bool, ty_tup_str, ty_tup_tup, ty_tup_lst, ty_tup_dct, tru_non, tru_bl, tru_int, tru_tup, lt_int, le_int, gt_int, ge_int, eq_d, ne_d, is_d, isn_d, inn_d, nin_d, isNon_n, isNon_i, isNon_t, isNon_s, isNon_r, isNon_b, eq_int, eq_str, eq_bl, add_int, sub_int, neg_int, len_tup, bi_int_i, bi_int_b, bi_min, bi_max, rngW_i, seqW_t, newO_d, Bool.not_true, Bool.not_false, decide_true, decide_false, Bool.true_and, Bool.and_true, Bool.false_and, Bool.and_false, Bool.true_or, Bool.or_true, Bool.false_or, Bool.or_false, List.length_cons, List.length_nil, Nat.zero_add, Nat.reduceAdd, Nat.reduceLeDiff, SZ, ↓reduceIte, v_fld, t_fld, v_fnv, v_calll, t_calll, v_repr, v_dct0, s_raise0, s_raise1, s_tryk, thn_ex, thn_exS, fin_ex, truR_ex, keep_nx, keep_rt, eq_non_non, eq_non_int, eq_int_non, eq_str_non, eq_non_str, eq_int_str, eq_str_int, d10, gT2, gT3, Option.isSome_none, ln]
  · have ty := ty_tupv (T := T) ok.okv fun xs z => hv ⟨xs, z⟩
    have tn : tell m fk v = none := by
      unfold tell
      split
      · exact absurd ⟨_, rfl⟩ hv
      · rfl
    rw [tn]
    simp (implicitDefEqProofs := false) only [ss_cons, ss_nil, s_asg, s_asgc, s_ex, s_ret, s_pass, s_iff, s_forr, s_setix, s_asgs, v_non, v_bl, v_int, v_str, v_var, v_glob, v_bin, v_neg, v_not, v_and, v_or, v_cmp, v_chn, v_ife, v_tup, v_lst, v_ix, v_sl, v_call, v_bi, v_bm, v_isi, v_lrng1, v_lrng2, v_comp, t_bl, t_int, t_var, t_glob, t_not, t_and, t_or, t_cmp, t_chn, t_call, t_bi, t_isi, t_ix, es_nil, es_cons, eo_none, eo_some, ec_none, ec_some, ei_seq, ei_rng1, ei_rng2, ei_enum, ei_zip, var0, varS, tg_nm, tg_tup, tgs_nil, tgs_cons, seq_tup, Option.bind_some, wipe_nil, wipe_cons, bind_ok', bind_ex', thn_ok, thn_nx, thn_rt, thn_bk, thn_ct, fin_nx, fin_rt, of_some, ob_sm, iteR_t, iteR_f, iteS_t, iteS_f, andR_t, andR_f, orR_t, orR_f, truR_b, intR_i, putS_s, putS'_s, setS_s, List.set_cons_succ, List.set_cons_zero, ty_non_int, ty_non_bool, ty_non_str, ty_non_tup, ty_non_lst, ty_non_dct, ty_bl_int, ty_bl_bool, ty_bl_str, ty_bl_tup, ty_bl_lst, ty_bl_dct, ty_int_int, ty_int_bool, ty_int_str, ty_int_tup, ty_int_lst, ty_int_dct, ty_str_int, ty_str_bool, ty_str_str, ty_str_tup, ty_str_lst, ty_str_dct, ty_tup_int, ty_tup_bool, ty_tup_str, ty_tup_tup, ty_tup_lst, ty_tup_dct, tru_non, tru_bl, tru_int, tru_tup, lt_int, le_int, gt_int, ge_int, eq_d, ne_d, is_d, isn_d, inn_d, nin_d, isNon_n, isNon_i, isNon_t, isNon_s, isNon_r, isNon_b, eq_int, eq_str, eq_bl, add_int, sub_int, neg_int, len_tup, bi_int_i, bi_int_b, bi_min, bi_max, rngW_i, seqW_t, newO_d, Bool.not_true, Bool.not_false, decide_true, decide_false, Bool.true_and, Bool.and_true, Bool.false_and, Bool.and_false, Bool.true_or, Bool.or_true, Bool.false_or, Bool.or_false, List.length_cons, List.length_nil, Nat.zero_add, Nat.reduceAdd, Nat.reduceLeDiff, SZ, ↓reduceIte, v_fld, t_fld, v_fnv, v_calll, t_calll, v_repr, v_dct0, s_raise0, s_raise1, s_tryk, thn_ex, thn_exS, fin_ex, truR_ex, keep_nx, keep_rt, eq_non_non, eq_non_int, eq_int_non, eq_str_non, eq_non_str, eq_int_str, eq_str_int, d10, gT2, gT3, Option.isSome_none, ty]
theorem own_line (k : Nat) (v : D) (m : Int) (fk : List (Int × Int)) (N : Nat) (h : Hh) (g : h[N]? = some (.dct (F2 fk) false)) (ok : okP h v) (m1 : 1 ≤ m) : run T P (k + 2) 15 [v, .int m, .ref N] h = .ok (.bl (tell m fk v).isSome) h := by
  rw [u15]
  by_cases hv : ∃ xs, v = .tup xs
  · obtain ⟨xs, rfl⟩ := hv
    by_cases l5 : xs.length = 5
    · obtain ⟨a, b, c, d, e, rfl⟩ := five l5
      have n5 : decide (((5 : Nat) : Int) = 5) = true := rfl
      have oa := ok a (by simp)
      have ob' := ok b (by simp)
      have oc := ok c (by simp)
      have od := ok d (by simp)
      by_cases he : ∃ z, e = .bl z
      · obtain ⟨z, rfl⟩ := he
        have ub := fromV k a 1000000000 h oa
        have uh := fromV k b (m - 1) h ob'
        have up := fromV k c 1000000000 h oc
        have uf := fromV k d 1000000 h od
        cases qa : uptoB a 1000000000 with
        | false =>
          rw [qa] at ub
          rw [tell_none m fk a b c d z (.inl qa)]
          simp (implicitDefEqProofs := false) only [ss_cons, ss_nil, s_asg, s_asgc, s_ex, s_ret, s_pass, s_iff, s_forr, s_setix, s_asgs, v_non, v_bl, v_int, v_str, v_var, v_glob, v_bin, v_neg, v_not, v_and, v_or, v_cmp, v_chn, v_ife, v_tup, v_lst, v_ix, v_sl, v_call, v_bi, v_bm, v_isi, v_lrng1, v_lrng2, v_comp, t_bl, t_int, t_var, t_glob, t_not, t_and, t_or, t_cmp, t_chn, t_call, t_bi, t_isi, t_ix, es_nil, es_cons, eo_none, eo_some, ec_none, ec_some, ei_seq, ei_rng1, ei_rng2, ei_enum, ei_zip, var0, varS, tg_nm, tg_tup, tgs_nil, tgs_cons, seq_tup, Option.bind_some, wipe_nil, wipe_cons, bind_ok', bind_ex', thn_ok, thn_nx, thn_rt, thn_bk, thn_ct, fin_nx, fin_rt, of_some, ob_sm, iteR_t, iteR_f, iteS_t, iteS_f, andR_t, andR_f, orR_t, orR_f, truR_b, intR_i, putS_s, putS'_s, setS_s, List.set_cons_succ, List.set_cons_zero, ty_non_int, ty_non_bool, ty_non_str, ty_non_tup, ty_non_lst, ty_non_dct, ty_bl_int, ty_bl_bool, ty_bl_str, ty_bl_tup, ty_bl_lst, ty_bl_dct, ty_int_int, ty_int_bool, ty_int_str, ty_int_tup, ty_int_lst, ty_int_dct, ty_str_int, ty_str_bool, ty_str_str, ty_str_tup, ty_str_lst, ty_str_dct, ty_tup_int, ty_tup_bool, ty_tup_str, ty_tup_tup, ty_tup_lst, ty_tup_dct, tru_non, tru_bl, tru_int, tru_tup, lt_int, le_int, gt_int, ge_int, eq_d, ne_d, is_d, isn_d, inn_d, nin_d, isNon_n, isNon_i, isNon_t, isNon_s, isNon_r, isNon_b, eq_int, eq_str, eq_bl, add_int, sub_int, neg_int, len_tup, bi_int_i, bi_int_b, bi_min, bi_max, rngW_i, seqW_t, newO_d, Bool.not_true, Bool.not_false, decide_true, decide_false, Bool.true_and, Bool.and_true, Bool.false_and, Bool.and_false, Bool.true_or, Bool.or_true, Bool.false_or, Bool.or_false, List.length_cons, List.length_nil, Nat.zero_add, Nat.reduceAdd, Nat.reduceLeDiff, SZ, ↓reduceIte, v_fld, t_fld, v_fnv, v_calll, t_calll, v_repr, v_dct0, s_raise0, s_raise1, s_tryk, thn_ex, thn_exS, fin_ex, truR_ex, keep_nx, keep_rt, eq_non_non, eq_non_int, eq_int_non, eq_str_non, eq_non_str, eq_int_str, eq_str_int, d15, p9, p6, Option.isSome_none, n5, i4, ub]
        | true =>
          obtain ⟨l, rfl, la, lb⟩ := upto_int qa
          rw [qa] at ub
          have ind := in_dct (k := .int l) g rfl
          rw [look2] at ind
          cases ql : lookI fk l with
          | some y =>
            rw [ql] at ind
            have tn : tell m fk (.tup [.int l, b, c, d, .bl z]) = none := by
              unfold tell
              split
              · rename_i e0
                simp only [D.tup.injEq, List.cons.injEq, D.int.injEq] at e0
                rw [← e0.1, ql]; simp
              · rfl
            rw [tn]
            simp only [Option.map_some, Option.isSome_some] at ind
            simp (implicitDefEqProofs := false) only [ss_cons, ss_nil, s_asg, s_asgc, s_ex, s_ret, s_pass, s_iff, s_forr, s_setix, s_asgs, v_non, v_bl, v_int, v_str, v_var, v_glob, v_bin, v_neg, v_not, v_and, v_or, v_cmp, v_chn, v_ife, v_tup, v_lst, v_ix, v_sl, v_call, v_bi, v_bm, v_isi, v_lrng1, v_lrng2, v_comp, t_bl, t_int, t_var, t_glob, t_not, t_and, t_or, t_cmp, t_chn, t_call, t_bi, t_isi, t_ix, es_nil, es_cons, eo_none, eo_some, ec_none, ec_some, ei_seq, ei_rng1, ei_rng2, ei_enum, ei_zip, var0, varS, tg_nm, tg_tup, tgs_nil, tgs_cons, seq_tup, Option.bind_some, wipe_nil, wipe_cons, bind_ok', bind_ex', thn_ok, thn_nx, thn_rt, thn_bk, thn_ct, fin_nx, fin_rt, of_some, ob_sm, iteR_t, iteR_f, iteS_t, iteS_f, andR_t, andR_f, orR_t, orR_f, truR_b, intR_i, putS_s, putS'_s, setS_s, List.set_cons_succ, List.set_cons_zero, ty_non_int, ty_non_bool, ty_non_str, ty_non_tup, ty_non_lst, ty_non_dct, ty_bl_int, ty_bl_bool, ty_bl_str, ty_bl_tup, ty_bl_lst, ty_bl_dct, ty_int_int, ty_int_bool, ty_int_str, ty_int_tup, ty_int_lst, ty_int_dct, ty_str_int, ty_str_bool, ty_str_str, ty_str_tup, ty_str_lst, ty_str_dct, ty_tup_int, ty_tup_bool, ty_tup_str, ty_tup_tup, ty_tup_lst, ty_tup_dct, tru_non, tru_bl, tru_int, tru_tup, lt_int, le_int, gt_int, ge_int, eq_d, ne_d, is_d, isn_d, inn_d, nin_d, isNon_n, isNon_i, isNon_t, isNon_s, isNon_r, isNon_b, eq_int, eq_str, eq_bl, add_int, sub_int, neg_int, len_tup, bi_int_i, bi_int_b, bi_min, bi_max, rngW_i, seqW_t, newO_d, Bool.not_true, Bool.not_false, decide_true, decide_false, Bool.true_and, Bool.and_true, Bool.false_and, Bool.and_false, Bool.true_or, Bool.or_true, Bool.false_or, Bool.or_false, List.length_cons, List.length_nil, Nat.zero_add, Nat.reduceAdd, Nat.reduceLeDiff, SZ, ↓reduceIte, v_fld, t_fld, v_fnv, v_calll, t_calll, v_repr, v_dct0, s_raise0, s_raise1, s_tryk, thn_ex, thn_exS, fin_ex, truR_ex, keep_nx, keep_rt, eq_non_non, eq_non_int, eq_int_non, eq_str_non, eq_non_str, eq_int_str, eq_str_int, d15, p9, p6, Option.isSome_none, n5, i4, ub, ind]
          | none =>
            rw [ql] at ind
            simp only [Option.map_none, Option.isSome_none] at ind
            cases qb : uptoB b (m - 1) with
            | false =>
              rw [qb] at uh
              rw [tell_none m fk (.int l) b c d z (.inr (.inl qb))]
              simp (implicitDefEqProofs := false) only [ss_cons, ss_nil, s_asg, s_asgc, s_ex, s_ret, s_pass, s_iff, s_forr, s_setix, s_asgs, v_non, v_bl, v_int, v_str, v_var, v_glob, v_bin, v_neg, v_not, v_and, v_or, v_cmp, v_chn, v_ife, v_tup, v_lst, v_ix, v_sl, v_call, v_bi, v_bm, v_isi, v_lrng1, v_lrng2, v_comp, t_bl, t_int, t_var, t_glob, t_not, t_and, t_or, t_cmp, t_chn, t_call, t_bi, t_isi, t_ix, es_nil, es_cons, eo_none, eo_some, ec_none, ec_some, ei_seq, ei_rng1, ei_rng2, ei_enum, ei_zip, var0, varS, tg_nm, tg_tup, tgs_nil, tgs_cons, seq_tup, Option.bind_some, wipe_nil, wipe_cons, bind_ok', bind_ex', thn_ok, thn_nx, thn_rt, thn_bk, thn_ct, fin_nx, fin_rt, of_some, ob_sm, iteR_t, iteR_f, iteS_t, iteS_f, andR_t, andR_f, orR_t, orR_f, truR_b, intR_i, putS_s, putS'_s, setS_s, List.set_cons_succ, List.set_cons_zero, ty_non_int, ty_non_bool, ty_non_str, ty_non_tup, ty_non_lst, ty_non_dct, ty_bl_int, ty_bl_bool, ty_bl_str, ty_bl_tup, ty_bl_lst, ty_bl_dct, ty_int_int, ty_int_bool, ty_int_str, ty_int_tup, ty_int_lst, ty_int_dct, ty_str_int, ty_str_bool, ty_str_str, ty_str_tup, ty_str_lst, ty_str_dct, ty_tup_int, ty_tup_bool, ty_tup_str, ty_tup_tup, ty_tup_lst, ty_tup_dct, tru_non, tru_bl, tru_int, tru_tup, lt_int, le_int, gt_int, ge_int, eq_d, ne_d, is_d, isn_d, inn_d, nin_d, isNon_n, isNon_i, isNon_t, isNon_s, isNon_r, isNon_b, eq_int, eq_str, eq_bl, add_int, sub_int, neg_int, len_tup, bi_int_i, bi_int_b, bi_min, bi_max, rngW_i, seqW_t, newO_d, Bool.not_true, Bool.not_false, decide_true, decide_false, Bool.true_and, Bool.and_true, Bool.false_and, Bool.and_false, Bool.true_or, Bool.or_true, Bool.false_or, Bool.or_false, List.length_cons, List.length_nil, Nat.zero_add, Nat.reduceAdd, Nat.reduceLeDiff, SZ, ↓reduceIte, v_fld, t_fld, v_fnv, v_calll, t_calll, v_repr, v_dct0, s_raise0, s_raise1, s_tryk, thn_ex, thn_exS, fin_ex, truR_ex, keep_nx, keep_rt, eq_non_non, eq_non_int, eq_int_non, eq_str_non, eq_non_str, eq_int_str, eq_str_int, d15, p9, p6, Option.isSome_none, n5, i4, ub, ind, uh]
            | true =>
              obtain ⟨ho, rfl, ha, hb⟩ := upto_int qb
              rw [qb] at uh
              have md : binD .mod (.int l) (.int m) h = some (.int (l % m), h) := by rw [mod_int, if_pos (by omega)]
              by_cases qm : l % m = ho
              · cases qc : uptoB c 1000000000 with
                | false =>
                  rw [qc] at up
                  rw [tell_none m fk (.int l) (.int ho) c d z (.inr (.inr (.inl qc)))]
                  simp (implicitDefEqProofs := false) only [ss_cons, ss_nil, s_asg, s_asgc, s_ex, s_ret, s_pass, s_iff, s_forr, s_setix, s_asgs, v_non, v_bl, v_int, v_str, v_var, v_glob, v_bin, v_neg, v_not, v_and, v_or, v_cmp, v_chn, v_ife, v_tup, v_lst, v_ix, v_sl, v_call, v_bi, v_bm, v_isi, v_lrng1, v_lrng2, v_comp, t_bl, t_int, t_var, t_glob, t_not, t_and, t_or, t_cmp, t_chn, t_call, t_bi, t_isi, t_ix, es_nil, es_cons, eo_none, eo_some, ec_none, ec_some, ei_seq, ei_rng1, ei_rng2, ei_enum, ei_zip, var0, varS, tg_nm, tg_tup, tgs_nil, tgs_cons, seq_tup, Option.bind_some, wipe_nil, wipe_cons, bind_ok', bind_ex', thn_ok, thn_nx, thn_rt, thn_bk, thn_ct, fin_nx, fin_rt, of_some, ob_sm, iteR_t, iteR_f, iteS_t, iteS_f, andR_t, andR_f, orR_t, orR_f, truR_b, intR_i, putS_s, putS'_s, setS_s, List.set_cons_succ, List.set_cons_zero, ty_non_int, ty_non_bool, ty_non_str, ty_non_tup, ty_non_lst, ty_non_dct, ty_bl_int, ty_bl_bool, ty_bl_str, ty_bl_tup, ty_bl_lst, ty_bl_dct, ty_int_int, ty_int_bool, ty_int_str, ty_int_tup, ty_int_lst, ty_int_dct, ty_str_int, ty_str_bool, ty_str_str, ty_str_tup, ty_str_lst, ty_str_dct, ty_tup_int, ty_tup_bool, ty_tup_str, ty_tup_tup, ty_tup_lst, ty_tup_dct, tru_non, tru_bl, tru_int, tru_tup, lt_int, le_int, gt_int, ge_int, eq_d, ne_d, is_d, isn_d, inn_d, nin_d, isNon_n, isNon_i, isNon_t, isNon_s, isNon_r, isNon_b, eq_int, eq_str, eq_bl, add_int, sub_int, neg_int, len_tup, bi_int_i, bi_int_b, bi_min, bi_max, rngW_i, seqW_t, newO_d, Bool.not_true, Bool.not_false, decide_true, decide_false, Bool.true_and, Bool.and_true, Bool.false_and, Bool.and_false, Bool.true_or, Bool.or_true, Bool.false_or, Bool.or_false, List.length_cons, List.length_nil, Nat.zero_add, Nat.reduceAdd, Nat.reduceLeDiff, SZ, ↓reduceIte, v_fld, t_fld, v_fnv, v_calll, t_calll, v_repr, v_dct0, s_raise0, s_raise1, s_tryk, thn_ex, thn_exS, fin_ex, truR_ex, keep_nx, keep_rt, eq_non_non, eq_non_int, eq_int_non, eq_str_non, eq_non_str, eq_int_str, eq_str_int, d15, p9, p6, Option.isSome_none, n5, i4, ub, ind, uh, md, qm, up]
                | true =>
                  obtain ⟨p, rfl, pa, pb⟩ := upto_int qc
                  rw [qc] at up
                  have inp := in_dct (k := .int p) g rfl
                  rw [look2] at inp
                  cases qp : lookI fk p with
                  | none =>
                    rw [qp] at inp
                    simp only [Option.map_none, Option.isSome_none] at inp
                    have tn : tell m fk (.tup [.int l, .int ho, .int p, d, .bl z]) = none := by
                      unfold tell
                      split
                      · rename_i e0
                        simp only [D.tup.injEq, List.cons.injEq, D.int.injEq] at e0
                        rw [← e0.2.2.1, qp]; simp
                      · rfl
                    rw [tn]
                    simp (implicitDefEqProofs := false) only [ss_cons, ss_nil, s_asg, s_asgc, s_ex, s_ret, s_pass, s_iff, s_forr, s_setix, s_asgs, v_non, v_bl, v_int, v_str, v_var, v_glob, v_bin, v_neg, v_not, v_and, v_or, v_cmp, v_chn, v_ife, v_tup, v_lst, v_ix, v_sl, v_call, v_bi, v_bm, v_isi, v_lrng1, v_lrng2, v_comp, t_bl, t_int, t_var, t_glob, t_not, t_and, t_or, t_cmp, t_chn, t_call, t_bi, t_isi, t_ix, es_nil, es_cons, eo_none, eo_some, ec_none, ec_some, ei_seq, ei_rng1, ei_rng2, ei_enum, ei_zip, var0, varS, tg_nm, tg_tup, tgs_nil, tgs_cons, seq_tup, Option.bind_some, wipe_nil, wipe_cons, bind_ok', bind_ex', thn_ok, thn_nx, thn_rt, thn_bk, thn_ct, fin_nx, fin_rt, of_some, ob_sm, iteR_t, iteR_f, iteS_t, iteS_f, andR_t, andR_f, orR_t, orR_f, truR_b, intR_i, putS_s, putS'_s, setS_s, List.set_cons_succ, List.set_cons_zero, ty_non_int, ty_non_bool, ty_non_str, ty_non_tup, ty_non_lst, ty_non_dct, ty_bl_int, ty_bl_bool, ty_bl_str, ty_bl_tup, ty_bl_lst, ty_bl_dct, ty_int_int, ty_int_bool, ty_int_str, ty_int_tup, ty_int_lst, ty_int_dct, ty_str_int, ty_str_bool, ty_str_str, ty_str_tup, ty_str_lst, ty_str_dct, ty_tup_int, ty_tup_bool, ty_tup_str, ty_tup_tup, ty_tup_lst, ty_tup_dct, tru_non, tru_bl, tru_int, tru_tup, lt_int, le_int, gt_int, ge_int, eq_d, ne_d, is_d, isn_d, inn_d, nin_d, isNon_n, isNon_i, isNon_t, isNon_s, isNon_r, isNon_b, eq_int, eq_str, eq_bl, add_int, sub_int, neg_int, len_tup, bi_int_i, bi_int_b, bi_min, bi_max, rngW_i, seqW_t, newO_d, Bool.not_true, Bool.not_false, decide_true, decide_false, Bool.true_and, Bool.and_true, Bool.false_and, Bool.and_false, Bool.true_or, Bool.or_true, Bool.false_or, Bool.or_false, List.length_cons, List.length_nil, Nat.zero_add, Nat.reduceAdd, Nat.reduceLeDiff, SZ, ↓reduceIte, v_fld, t_fld, v_fnv, v_calll, t_calll, v_repr, v_dct0, s_raise0, s_raise1, s_tryk, thn_ex, thn_exS, fin_ex, truR_ex, keep_nx, keep_rt, eq_non_non, eq_non_int, eq_int_non, eq_str_non, eq_non_str, eq_int_str, eq_str_int, d15, p9, p6, Option.isSome_none, n5, i4, ub, ind, uh, md, qm, up, inp]
                  | some y =>
                    rw [qp] at inp
                    simp only [Option.map_some, Option.isSome_some] at inp
                    by_cases qlt : l ≤ p
                    · have tn : tell m fk (.tup [.int l, .int ho, .int p, d, .bl z]) = none := by
                        unfold tell
                        split
                        · rename_i e0
                          simp only [D.tup.injEq, List.cons.injEq, D.int.injEq] at e0
                          rw [if_neg (by rw [← e0.1, ← e0.2.2.1]; omega)]
                        · rfl
                      rw [tn]
                      simp (implicitDefEqProofs := false) only [ss_cons, ss_nil, s_asg, s_asgc, s_ex, s_ret, s_pass, s_iff, s_forr, s_setix, s_asgs, v_non, v_bl, v_int, v_str, v_var, v_glob, v_bin, v_neg, v_not, v_and, v_or, v_cmp, v_chn, v_ife, v_tup, v_lst, v_ix, v_sl, v_call, v_bi, v_bm, v_isi, v_lrng1, v_lrng2, v_comp, t_bl, t_int, t_var, t_glob, t_not, t_and, t_or, t_cmp, t_chn, t_call, t_bi, t_isi, t_ix, es_nil, es_cons, eo_none, eo_some, ec_none, ec_some, ei_seq, ei_rng1, ei_rng2, ei_enum, ei_zip, var0, varS, tg_nm, tg_tup, tgs_nil, tgs_cons, seq_tup, Option.bind_some, wipe_nil, wipe_cons, bind_ok', bind_ex', thn_ok, thn_nx, thn_rt, thn_bk, thn_ct, fin_nx, fin_rt, of_some, ob_sm, iteR_t, iteR_f, iteS_t, iteS_f, andR_t, andR_f, orR_t, orR_f, truR_b, intR_i, putS_s, putS'_s, setS_s, List.set_cons_succ, List.set_cons_zero, ty_non_int, ty_non_bool, ty_non_str, ty_non_tup, ty_non_lst, ty_non_dct, ty_bl_int, ty_bl_bool, ty_bl_str, ty_bl_tup, ty_bl_lst, ty_bl_dct, ty_int_int, ty_int_bool, ty_int_str, ty_int_tup, ty_int_lst, ty_int_dct, ty_str_int, ty_str_bool, ty_str_str, ty_str_tup, ty_str_lst, ty_str_dct, ty_tup_int, ty_tup_bool, ty_tup_str, ty_tup_tup, ty_tup_lst, ty_tup_dct, tru_non, tru_bl, tru_int, tru_tup, lt_int, le_int, gt_int, ge_int, eq_d, ne_d, is_d, isn_d, inn_d, nin_d, isNon_n, isNon_i, isNon_t, isNon_s, isNon_r, isNon_b, eq_int, eq_str, eq_bl, add_int, sub_int, neg_int, len_tup, bi_int_i, bi_int_b, bi_min, bi_max, rngW_i, seqW_t, newO_d, Bool.not_true, Bool.not_false, decide_true, decide_false, Bool.true_and, Bool.and_true, Bool.false_and, Bool.and_false, Bool.true_or, Bool.or_true, Bool.false_or, Bool.or_false, List.length_cons, List.length_nil, Nat.zero_add, Nat.reduceAdd, Nat.reduceLeDiff, SZ, ↓reduceIte, v_fld, t_fld, v_fnv, v_calll, t_calll, v_repr, v_dct0, s_raise0, s_raise1, s_tryk, thn_ex, thn_exS, fin_ex, truR_ex, keep_nx, keep_rt, eq_non_non, eq_non_int, eq_int_non, eq_str_non, eq_non_str, eq_int_str, eq_str_int, d15, p9, p6, Option.isSome_none, n5, i4, ub, ind, uh, md, qm, up, inp, decide_eq_true qlt]
                    · cases qf : uptoB d 1000000 with
                      | false =>
                        rw [qf] at uf
                        rw [tell_none m fk (.int l) (.int ho) (.int p) d z (.inr (.inr (.inr qf)))]
                        simp (implicitDefEqProofs := false) only [ss_cons, ss_nil, s_asg, s_asgc, s_ex, s_ret, s_pass, s_iff, s_forr, s_setix, s_asgs, v_non, v_bl, v_int, v_str, v_var, v_glob, v_bin, v_neg, v_not, v_and, v_or, v_cmp, v_chn, v_ife, v_tup, v_lst, v_ix, v_sl, v_call, v_bi, v_bm, v_isi, v_lrng1, v_lrng2, v_comp, t_bl, t_int, t_var, t_glob, t_not, t_and, t_or, t_cmp, t_chn, t_call, t_bi, t_isi, t_ix, es_nil, es_cons, eo_none, eo_some, ec_none, ec_some, ei_seq, ei_rng1, ei_rng2, ei_enum, ei_zip, var0, varS, tg_nm, tg_tup, tgs_nil, tgs_cons, seq_tup, Option.bind_some, wipe_nil, wipe_cons, bind_ok', bind_ex', thn_ok, thn_nx, thn_rt, thn_bk, thn_ct, fin_nx, fin_rt, of_some, ob_sm, iteR_t, iteR_f, iteS_t, iteS_f, andR_t, andR_f, orR_t, orR_f, truR_b, intR_i, putS_s, putS'_s, setS_s, List.set_cons_succ, List.set_cons_zero, ty_non_int, ty_non_bool, ty_non_str, ty_non_tup, ty_non_lst, ty_non_dct, ty_bl_int, ty_bl_bool, ty_bl_str, ty_bl_tup, ty_bl_lst, ty_bl_dct, ty_int_int, ty_int_bool, ty_int_str, ty_int_tup, ty_int_lst, ty_int_dct, ty_str_int, ty_str_bool, ty_str_str, ty_str_tup, ty_str_lst, ty_str_dct, ty_tup_int, ty_tup_bool, ty_tup_str, ty_tup_tup, ty_tup_lst, ty_tup_dct, tru_non, tru_bl, tru_int, tru_tup, lt_int, le_int, gt_int, ge_int, eq_d, ne_d, is_d, isn_d, inn_d, nin_d, isNon_n, isNon_i, isNon_t, isNon_s, isNon_r, isNon_b, eq_int, eq_str, eq_bl, add_int, sub_int, neg_int, len_tup, bi_int_i, bi_int_b, bi_min, bi_max, rngW_i, seqW_t, newO_d, Bool.not_true, Bool.not_false, decide_true, decide_false, Bool.true_and, Bool.and_true, Bool.false_and, Bool.and_false, Bool.true_or, Bool.or_true, Bool.false_or, Bool.or_false, List.length_cons, List.length_nil, Nat.zero_add, Nat.reduceAdd, Nat.reduceLeDiff, SZ, ↓reduceIte, v_fld, t_fld, v_fnv, v_calll, t_calll, v_repr, v_dct0, s_raise0, s_raise1, s_tryk, thn_ex, thn_exS, fin_ex, truR_ex, keep_nx, keep_rt, eq_non_non, eq_non_int, eq_int_non, eq_str_non, eq_non_str, eq_int_str, eq_str_int, d15, p9, p6, Option.isSome_none, n5, i4, ub, ind, uh, md, qm, up, inp, decide_eq_false qlt, uf]
                      | true =>
                        obtain ⟨f, rfl, fa, fb⟩ := upto_int qf
                        rw [qf] at uf
                        have ixp := ix_dct (k := .int p) (v := .int y) g rfl (by rw [look2, qp]; rfl)
                        by_cases qg : y ≤ f
                        · have ts : tell m fk (.tup [.int l, .int ho, .int p, .int f, .bl z]) = some (l, f) := by
                            unfold tell
                            simp only [ql, qp]
                            rw [if_pos (by simp; omega)]
                          rw [ts]
                          simp (implicitDefEqProofs := false) only [ss_cons, ss_nil, s_asg, s_asgc, s_ex, s_ret, s_pass, s_iff, s_forr, s_setix, s_asgs, v_non, v_bl, v_int, v_str, v_var, v_glob, v_bin, v_neg, v_not, v_and, v_or, v_cmp, v_chn, v_ife, v_tup, v_lst, v_ix, v_sl, v_call, v_bi, v_bm, v_isi, v_lrng1, v_lrng2, v_comp, t_bl, t_int, t_var, t_glob, t_not, t_and, t_or, t_cmp, t_chn, t_call, t_bi, t_isi, t_ix, es_nil, es_cons, eo_none, eo_some, ec_none, ec_some, ei_seq, ei_rng1, ei_rng2, ei_enum, ei_zip, var0, varS, tg_nm, tg_tup, tgs_nil, tgs_cons, seq_tup, Option.bind_some, wipe_nil, wipe_cons, bind_ok', bind_ex', thn_ok, thn_nx, thn_rt, thn_bk, thn_ct, fin_nx, fin_rt, of_some, ob_sm, iteR_t, iteR_f, iteS_t, iteS_f, andR_t, andR_f, orR_t, orR_f, truR_b, intR_i, putS_s, putS'_s, setS_s, List.set_cons_succ, List.set_cons_zero, ty_non_int, ty_non_bool, ty_non_str, ty_non_tup, ty_non_lst, ty_non_dct, ty_bl_int, ty_bl_bool, ty_bl_str, ty_bl_tup, ty_bl_lst, ty_bl_dct, ty_int_int, ty_int_bool, ty_int_str, ty_int_tup, ty_int_lst, ty_int_dct, ty_str_int, ty_str_bool, ty_str_str, ty_str_tup, ty_str_lst, ty_str_dct, ty_tup_int, ty_tup_bool, ty_tup_str, ty_tup_tup, ty_tup_lst, ty_tup_dct, tru_non, tru_bl, tru_int, tru_tup, lt_int, le_int, gt_int, ge_int, eq_d, ne_d, is_d, isn_d, inn_d, nin_d, isNon_n, isNon_i, isNon_t, isNon_s, isNon_r, isNon_b, eq_int, eq_str, eq_bl, add_int, sub_int, neg_int, len_tup, bi_int_i, bi_int_b, bi_min, bi_max, rngW_i, seqW_t, newO_d, Bool.not_true, Bool.not_false, decide_true, decide_false, Bool.true_and, Bool.and_true, Bool.false_and, Bool.and_false, Bool.true_or, Bool.or_true, Bool.false_or, Bool.or_false, List.length_cons, List.length_nil, Nat.zero_add, Nat.reduceAdd, Nat.reduceLeDiff, SZ, ↓reduceIte, v_fld, t_fld, v_fnv, v_calll, t_calll, v_repr, v_dct0, s_raise0, s_raise1, s_tryk, thn_ex, thn_exS, fin_ex, truR_ex, keep_nx, keep_rt, eq_non_non, eq_non_int, eq_int_non, eq_str_non, eq_non_str, eq_int_str, eq_str_int, d15, p9, p6, Option.isSome_none, n5, i4, ub, ind, uh, md, qm, up, inp, decide_eq_false qlt, uf, ixp, decide_eq_true qg, Option.isSome_some]
                        · have ts : tell m fk (.tup [.int l, .int ho, .int p, .int f, .bl z]) = none := by
                            unfold tell
                            simp only [ql, qp]
                            rw [if_neg (by simp; omega)]
                          rw [ts]
                          simp (implicitDefEqProofs := false) only [ss_cons, ss_nil, s_asg, s_asgc, s_ex, s_ret, s_pass, s_iff, s_forr, s_setix, s_asgs, v_non, v_bl, v_int, v_str, v_var, v_glob, v_bin, v_neg, v_not, v_and, v_or, v_cmp, v_chn, v_ife, v_tup, v_lst, v_ix, v_sl, v_call, v_bi, v_bm, v_isi, v_lrng1, v_lrng2, v_comp, t_bl, t_int, t_var, t_glob, t_not, t_and, t_or, t_cmp, t_chn, t_call, t_bi, t_isi, t_ix, es_nil, es_cons, eo_none, eo_some, ec_none, ec_some, ei_seq, ei_rng1, ei_rng2, ei_enum, ei_zip, var0, varS, tg_nm, tg_tup, tgs_nil, tgs_cons, seq_tup, Option.bind_some, wipe_nil, wipe_cons, bind_ok', bind_ex', thn_ok, thn_nx, thn_rt, thn_bk, thn_ct, fin_nx, fin_rt, of_some, ob_sm, iteR_t, iteR_f, iteS_t, iteS_f, andR_t, andR_f, orR_t, orR_f, truR_b, intR_i, putS_s, putS'_s, setS_s, List.set_cons_succ, List.set_cons_zero, ty_non_int, ty_non_bool, ty_non_str, ty_non_tup, ty_non_lst, ty_non_dct, ty_bl_int, ty_bl_bool, ty_bl_str, ty_bl_tup, ty_bl_lst, ty_bl_dct, ty_int_int, ty_int_bool, ty_int_str, ty_int_tup, ty_int_lst, ty_int_dct, ty_str_int, ty_str_bool, ty_str_str, ty_str_tup, ty_str_lst, ty_str_dct, ty_tup_int, ty_tup_bool, ty_tup_str, ty_tup_tup, ty_tup_lst, ty_tup_dct, tru_non, tru_bl, tru_int, tru_tup, lt_int, le_int, gt_int, ge_int, eq_d, ne_d, is_d, isn_d, inn_d, nin_d, isNon_n, isNon_i, isNon_t, isNon_s, isNon_r, isNon_b, eq_int, eq_str, eq_bl, add_int, sub_int, neg_int, len_tup, bi_int_i, bi_int_b, bi_min, bi_max, rngW_i, seqW_t, newO_d, Bool.not_true, Bool.not_false, decide_true, decide_false, Bool.true_and, Bool.and_true, Bool.false_and, Bool.and_false, Bool.true_or, Bool.or_true, Bool.false_or, Bool.or_false, List.length_cons, List.length_nil, Nat.zero_add, Nat.reduceAdd, Nat.reduceLeDiff, SZ, ↓reduceIte, v_fld, t_fld, v_fnv, v_calll, t_calll, v_repr, v_dct0, s_raise0, s_raise1, s_tryk, thn_ex, thn_exS, fin_ex, truR_ex, keep_nx, keep_rt, eq_non_non, eq_non_int, eq_int_non, eq_str_non, eq_non_str, eq_int_str, eq_str_int, d15, p9, p6, Option.isSome_none, n5, i4, ub, ind, uh, md, qm, up, inp, decide_eq_false qlt, uf, ixp, decide_eq_false qg, Option.isSome_none]
              · have tn : tell m fk (.tup [.int l, .int ho, c, d, .bl z]) = none := by
                  unfold tell
                  split
                  · rename_i e0
                    simp only [D.tup.injEq, List.cons.injEq, D.int.injEq] at e0
                    rw [if_neg (by rw [← e0.1, ← e0.2.1]; omega)]
                  · rfl
                rw [tn]
                simp (implicitDefEqProofs := false) only [ss_cons, ss_nil, s_asg, s_asgc, s_ex, s_ret, s_pass, s_iff, s_forr, s_setix, s_asgs, v_non, v_bl, v_int, v_str, v_var, v_glob, v_bin, v_neg, v_not, v_and, v_or, v_cmp, v_chn, v_ife, v_tup, v_lst, v_ix, v_sl, v_call, v_bi, v_bm, v_isi, v_lrng1, v_lrng2, v_comp, t_bl, t_int, t_var, t_glob, t_not, t_and, t_or, t_cmp, t_chn, t_call, t_bi, t_isi, t_ix, es_nil, es_cons, eo_none, eo_some, ec_none, ec_some, ei_seq, ei_rng1, ei_rng2, ei_enum, ei_zip, var0, varS, tg_nm, tg_tup, tgs_nil, tgs_cons, seq_tup, Option.bind_some, wipe_nil, wipe_cons, bind_ok', bind_ex', thn_ok, thn_nx, thn_rt, thn_bk, thn_ct, fin_nx, fin_rt, of_some, ob_sm, iteR_t, iteR_f, iteS_t, iteS_f, andR_t, andR_f, orR_t, orR_f, truR_b, intR_i, putS_s, putS'_s, setS_s, List.set_cons_succ, List.set_cons_zero, ty_non_int, ty_non_bool, ty_non_str, ty_non_tup, ty_non_lst, ty_non_dct, ty_bl_int, ty_bl_bool, ty_bl_str, ty_bl_tup, ty_bl_lst, ty_bl_dct, ty_int_int, ty_int_bool, ty_int_str, ty_int_tup, ty_int_lst, ty_int_dct, ty_str_int, ty_str_bool, ty_str_str, ty_str_tup, ty_str_lst, ty_str_dct, ty_tup_int, ty_tup_bool, ty_tup_str, ty_tup_tup, ty_tup_lst, ty_tup_dct, tru_non, tru_bl, tru_int, tru_tup, lt_int, le_int, gt_int, ge_int, eq_d, ne_d, is_d, isn_d, inn_d, nin_d, isNon_n, isNon_i, isNon_t, isNon_s, isNon_r, isNon_b, eq_int, eq_str, eq_bl, add_int, sub_int, neg_int, len_tup, bi_int_i, bi_int_b, bi_min, bi_max, rngW_i, seqW_t, newO_d, Bool.not_true, Bool.not_false, decide_true, decide_false, Bool.true_and, Bool.and_true, Bool.false_and, Bool.and_false, Bool.true_or, Bool.or_true, Bool.false_or, Bool.or_false, List.length_cons, List.length_nil, Nat.zero_add, Nat.reduceAdd, Nat.reduceLeDiff, SZ, ↓reduceIte, v_fld, t_fld, v_fnv, v_calll, t_calll, v_repr, v_dct0, s_raise0, s_raise1, s_tryk, thn_ex, thn_exS, fin_ex, truR_ex, keep_nx, keep_rt, eq_non_non, eq_non_int, eq_int_non, eq_str_non, eq_non_str, eq_int_str, eq_str_int, d15, p9, p6, Option.isSome_none, n5, i4, ub, ind, uh, md, decide_eq_false qm]
      · have te := okv_bool (ok e (by simp)) fun z q => he ⟨z, q⟩
        have tn : tell m fk (.tup [a, b, c, d, e]) = none := by
          unfold tell
          split
          · rename_i e0
            simp only [D.tup.injEq, List.cons.injEq] at e0
            exact absurd ⟨_, e0.2.2.2.2.1⟩ he
          · rfl
        rw [tn]
        simp (implicitDefEqProofs := false) only [ss_cons, ss_nil, s_asg, s_asgc, s_ex, s_ret, s_pass, s_iff, s_forr, s_setix, s_asgs, v_non, v_bl, v_int, v_str, v_var, v_glob, v_bin, v_neg, v_not, v_and, v_or, v_cmp, v_chn, v_ife, v_tup, v_lst, v_ix, v_sl, v_call, v_bi, v_bm, v_isi, v_lrng1, v_lrng2, v_comp, t_bl, t_int, t_var, t_glob, t_not, t_and, t_or, t_cmp, t_chn, t_call, t_bi, t_isi, t_ix, es_nil, es_cons, eo_none, eo_some, ec_none, ec_some, ei_seq, ei_rng1, ei_rng2, ei_enum, ei_zip, var0, varS, tg_nm, tg_tup, tgs_nil, tgs_cons, seq_tup, Option.bind_some, wipe_nil, wipe_cons, bind_ok', bind_ex', thn_ok, thn_nx, thn_rt, thn_bk, thn_ct, fin_nx, fin_rt, of_some, ob_sm, iteR_t, iteR_f, iteS_t, iteS_f, andR_t, andR_f, orR_t, orR_f, truR_b, intR_i, putS_s, putS'_s, setS_s, List.set_cons_succ, List.set_cons_zero, ty_non_int, ty_non_bool, ty_non_str, ty_non_tup, ty_non_lst, ty_non_dct, ty_bl_int, ty_bl_bool, ty_bl_str, ty_bl_tup, ty_bl_lst, ty_bl_dct, ty_int_int, ty_int_bool, ty_int_str, ty_int_tup, ty_int_lst, ty_int_dct, ty_str_int, ty_str_bool, ty_str_str, ty_str_tup, ty_str_lst, ty_str_dct, ty_tup_int, ty_tup_bool, ty_tup_str, ty_tup_tup, ty_tup_lst, ty_tup_dct, tru_non, tru_bl, tru_int, tru_tup, lt_int, le_int, gt_int, ge_int, eq_d, ne_d, is_d, isn_d, inn_d, nin_d, isNon_n, isNon_i, isNon_t, isNon_s, isNon_r, isNon_b, eq_int, eq_str, eq_bl, add_int, sub_int, neg_int, len_tup, bi_int_i, bi_int_b, bi_min, bi_max, rngW_i, seqW_t, newO_d, Bool.not_true, Bool.not_false, decide_true, decide_false, Bool.true_and, Bool.and_true, Bool.false_and, Bool.and_false, Bool.true_or, Bool.or_true, Bool.false_or, Bool.or_false, List.length_cons, List.length_nil, Nat.zero_add, Nat.reduceAdd, Nat.reduceLeDiff, SZ, ↓reduceIte, v_fld, t_fld, v_fnv, v_calll, t_calll, v_repr, v_dct0, s_raise0, s_raise1, s_tryk, thn_ex, thn_exS, fin_ex, truR_ex, keep_nx, keep_rt, eq_non_non, eq_non_int, eq_int_non, eq_str_non, eq_non_str, eq_int_str, eq_str_int, d15, p9, p6, Option.isSome_none, n5, i4, te]
    · have ln : decide (((xs.length : Nat) : Int) = 5) = false := decide_eq_false (by omega)
      have tn : tell m fk (.tup xs) = none := by
        unfold tell
        split
        · rename_i e0
          cases e0
          simp at l5
        · rfl
      rw [tn]
      simp (implicitDefEqProofs := false) only [ss_cons, ss_nil, s_asg, s_asgc, s_ex, s_ret, s_pass, s_iff, s_forr, s_setix, s_asgs, v_non, v_bl, v_int, v_str, v_var, v_glob, v_bin, v_neg, v_not, v_and, v_or, v_cmp, v_chn, v_ife, v_tup, v_lst, v_ix, v_sl, v_call, v_bi, v_bm, v_isi, v_lrng1, v_lrng2, v_comp, t_bl, t_int, t_var, t_glob, t_not, t_and, t_or, t_cmp, t_chn, t_call, t_bi, t_isi, t_ix, es_nil, es_cons, eo_none, eo_some, ec_none, ec_some, ei_seq, ei_rng1, ei_rng2, ei_enum, ei_zip, var0, varS, tg_nm, tg_tup, tgs_nil, tgs_cons, seq_tup, Option.bind_some, wipe_nil, wipe_cons, bind_ok', bind_ex', thn_ok, thn_nx, thn_rt, thn_bk, thn_ct, fin_nx, fin_rt, of_some, ob_sm, iteR_t, iteR_f, iteS_t, iteS_f, andR_t, andR_f, orR_t, orR_f, truR_b, intR_i, putS_s, putS'_s, setS_s, List.set_cons_succ, List.set_cons_zero, ty_non_int, ty_non_bool, ty_non_str, ty_non_tup, ty_non_lst, ty_non_dct, ty_bl_int, ty_bl_bool, ty_bl_str, ty_bl_tup, ty_bl_lst, ty_bl_dct, ty_int_int, ty_int_bool, ty_int_str, ty_int_tup, ty_int_lst, ty_int_dct, ty_str_int, ty_str_bool, ty_str_str, ty_str_tup, ty_str_lst, ty_str_dct, ty_tup_int, ty_tup_bool, ty_tup_str, ty_tup_tup, ty_tup_lst, ty_tup_dct, tru_non, tru_bl, tru_int, tru_tup, lt_int, le_int, gt_int, ge_int, eq_d, ne_d, is_d, isn_d, inn_d, nin_d, isNon_n, isNon_i, isNon_t, isNon_s, isNon_r, isNon_b, eq_int, eq_str, eq_bl, add_int, sub_int, neg_int, len_tup, bi_int_i, bi_int_b, bi_min, bi_max, rngW_i, seqW_t, newO_d, Bool.not_true, Bool.not_false, decide_true, decide_false, Bool.true_and, Bool.and_true, Bool.false_and, Bool.and_false, Bool.true_or, Bool.or_true, Bool.false_or, Bool.or_false, List.length_cons, List.length_nil, Nat.zero_add, Nat.reduceAdd, Nat.reduceLeDiff, SZ, ↓reduceIte, v_fld, t_fld, v_fnv, v_calll, t_calll, v_repr, v_dct0, s_raise0, s_raise1, s_tryk, thn_ex, thn_exS, fin_ex, truR_ex, keep_nx, keep_rt, eq_non_non, eq_non_int, eq_int_non, eq_str_non, eq_non_str, eq_int_str, eq_str_int, d15, p9, p6, Option.isSome_none, ln]
  · have ty := ty_tupv (T := T) ok.okv fun xs z => hv ⟨xs, z⟩
    have tn : tell m fk v = none := by
      unfold tell
      split
      · exact absurd ⟨_, rfl⟩ hv
      · rfl
    rw [tn]
    simp (implicitDefEqProofs := false) only [ss_cons, ss_nil, s_asg, s_asgc, s_ex, s_ret, s_pass, s_iff, s_forr, s_setix, s_asgs, v_non, v_bl, v_int, v_str, v_var, v_glob, v_bin, v_neg, v_not, v_and, v_or, v_cmp, v_chn, v_ife, v_tup, v_lst, v_ix, v_sl, v_call, v_bi, v_bm, v_isi, v_lrng1, v_lrng2, v_comp, t_bl, t_int, t_var, t_glob, t_not, t_and, t_or, t_cmp, t_chn, t_call, t_bi, t_isi, t_ix, es_nil, es_cons, eo_none, eo_some, ec_none, ec_some, ei_seq, ei_rng1, ei_rng2, ei_enum, ei_zip, var0, varS, tg_nm, tg_tup, tgs_nil, tgs_cons, seq_tup, Option.bind_some, wipe_nil, wipe_cons, bind_ok', bind_ex', thn_ok, thn_nx, thn_rt, thn_bk, thn_ct, fin_nx, fin_rt, of_some, ob_sm, iteR_t, iteR_f, iteS_t, iteS_f, andR_t, andR_f, orR_t, orR_f, truR_b, intR_i, putS_s, putS'_s, setS_s, List.set_cons_succ, List.set_cons_zero, ty_non_int, ty_non_bool, ty_non_str, ty_non_tup, ty_non_lst, ty_non_dct, ty_bl_int, ty_bl_bool, ty_bl_str, ty_bl_tup, ty_bl_lst, ty_bl_dct, ty_int_int, ty_int_bool, ty_int_str, ty_int_tup, ty_int_lst, ty_int_dct, ty_str_int, ty_str_bool, ty_str_str, ty_str_tup, ty_str_lst, ty_str_dct, ty_tup_int, ty_tup_bool, ty_tup_str, ty_tup_tup, ty_tup_lst, ty_tup_dct, tru_non, tru_bl, tru_int, tru_tup, lt_int, le_int, gt_int, ge_int, eq_d, ne_d, is_d, isn_d, inn_d, nin_d, isNon_n, isNon_i, isNon_t, isNon_s, isNon_r, isNon_b, eq_int, eq_str, eq_bl, add_int, sub_int, neg_int, len_tup, bi_int_i, bi_int_b, bi_min, bi_max, rngW_i, seqW_t, newO_d, Bool.not_true, Bool.not_false, decide_true, decide_false, Bool.true_and, Bool.and_true, Bool.false_and, Bool.and_false, Bool.true_or, Bool.or_true, Bool.false_or, Bool.or_false, List.length_cons, List.length_nil, Nat.zero_add, Nat.reduceAdd, Nat.reduceLeDiff, SZ, ↓reduceIte, v_fld, t_fld, v_fnv, v_calll, t_calll, v_repr, v_dct0, s_raise0, s_raise1, s_tryk, thn_ex, thn_exS, fin_ex, truR_ex, keep_nx, keep_rt, eq_non_non, eq_non_int, eq_int_non, eq_str_non, eq_non_str, eq_int_str, eq_str_int, d15, p9, p6, Option.isSome_none, ty]
end K42
namespace K42
open Py
open PySem (PyData)
def zeroB : D → Bool
  | .tup [.int a, .int b, .non, .int d, .bl z] => decide (a = 0) && (decide (b = 0) && (decide (d = 0) && !z))
  | _ => false
theorem zero_of {a b c d : D} {z : Bool} : zeroB (.tup [a, b, c, d, .bl z]) = (isNon c && !z && (uptoB a 0 && (uptoB b 0 && uptoB d 0))) := by
  have e : ∀ i : Int, (decide (0 ≤ i) && decide (i ≤ 0)) = decide (i = 0) := fun i => by
    by_cases q : i = 0
    · subst q; rfl
    · rw [decide_eq_false q]
      by_cases q2 : 0 ≤ i
      · rw [decide_eq_false (show ¬ i ≤ 0 by omega), Bool.and_false]
      · rw [decide_eq_false q2]; rfl
  cases a <;> cases b <;> cases c <;> cases d <;> first
    | (simp [zeroB, uptoB, isNon]; done)
    | (simp only [zeroB, uptoB, isNon, e]; cases z <;> simp)
theorem toP_non {h : Hh} {f : Nat} {v : D} (e : toP h f v = some .none) : v = .non := by
  cases v with
  | non => rfl
  | str s => unfold toP at e; split at e <;> cases e
  | tup xs => cases f with
    | zero => simp [toP] at e
    | succ f => simp [toP] at e
  | ref n => cases f with
    | zero => simp [toP] at e
    | succ f =>
      simp only [toP] at e
      split at e
      · simp at e
      · cases e
  | fn g => cases f <;> simp [toP] at e
  | bl b => cases f <;> simp [toP] at e
  | int i => cases f <;> simp [toP] at e
theorem toP_flat {h : Hh} {f : Nat} {i : Int} : toP h f (.int i) = some (.int i) := by cases f <;> rfl
theorem toP_bl {h : Hh} {f : Nat} {i : Bool} : toP h f (.bl i) = some (.bool i) := by cases f <;> rfl
theorem toP_no {h : Hh} {f : Nat} : toP h f .non = some .none := by cases f <;> rfl
theorem eqZ {h : Hh} {A : Nat → Prop} {n w : Nat} {a b c d : D} {z : Bool} (ds : Dats h A n w [a, b, c, d, .bl z]) (hn : n ≤ 23) :
    ∃ t, eqD h (.tup [a, b, c, d, .bl z]) (.tup [.int 0, .int 0, .non, .int 0, .bl false]) = some t ∧ (t = true → c = .non ∧ z = false) ∧ (a = .int 0 → b = .int 0 → c = .non → d = .int 0 → z = false → t = true) := by
  have hd : ∀ x ∈ [a, b, c, d, D.bl z], ∃ p, toP h 23 x = some p := fun x hx => by
    obtain ⟨a', dx⟩ := ds.mem x hx
    obtain ⟨p, _, e⟩ := dx.toP 23 hn
    exact ⟨p, e h Ag.refl⟩
  obtain ⟨pa, ea⟩ := hd a (by simp)
  obtain ⟨pb, eb⟩ := hd b (by simp)
  obtain ⟨pc, ec⟩ := hd c (by simp)
  obtain ⟨pd, ed⟩ := hd d (by simp)
  have e1 : toP h deepest (.tup [a, b, c, d, .bl z]) = some (.tuple [pa, pb, pc, pd, .bool z]) := by
    show toP h (23 + 1) _ = _
    simp only [toP, List.mapM_cons, List.mapM_nil, ea, eb, ec, ed, toP_bl]
    rfl
  have e2 : toP h deepest (.tup [.int 0, .int 0, .non, .int 0, .bl false]) = some (.tuple [.int 0, .int 0, .none, .int 0, .bool false]) := by
    show toP h (23 + 1) _ = _
    simp only [toP, List.mapM_cons, List.mapM_nil, toP_flat, toP_bl, toP_no]
    rfl
  refine ⟨PyData.eqv (.tuple [pa, pb, pc, pd, .bool z]) (.tuple [.int 0, .int 0, .none, .int 0, .bool false]), ?_, ?_, ?_⟩
  · simp only [eqD, e1, e2]
  · intro t
    simp only [PyData.eqv, PyData.eqvAll, Bool.and_eq_true] at t
    obtain ⟨_, _, t1, _, t2, _⟩ := t
    refine ⟨?_, by simpa using t2⟩
    have : pc = .none := by
      cases pc <;> first | rfl | simp [PyData.eqv] at t1
    rw [this] at ec
    exact toP_non ec
  · rintro rfl rfl rfl rfl rfl
    rw [toP_flat] at ea eb ed
    rw [toP_no] at ec
    cases ea; cases eb; cases ed; cases ec
    simp [PyData.eqv, PyData.eqvAll]
theorem line_zero (k : Nat) (v : D) (h : Hh) (A : Nat → Prop) (n w : Nat) (dv : Dat h A n w v) (hn : n ≤ 24) : run T P (k + 2) 9 [v] h = .ok (.bl (zeroB v)) h := by
  rw [u9]
  have ok := dv.okP
  by_cases hv : ∃ xs, v = .tup xs
  · obtain ⟨xs, rfl⟩ := hv
    by_cases l5 : xs.length = 5
    · obtain ⟨a, b, c, d, e, rfl⟩ := five l5
      have n5 : decide (((5 : Nat) : Int) = 5) = true := rfl
      by_cases he : ∃ z, e = .bl z
      · obtain ⟨z, rfl⟩ := he
        cases dv with
        | tup ds =>
          obtain ⟨t, et, t1, t2⟩ := eqZ ds (by omega)
          have u0 := uptoV k a 0 h (ok a (by simp))
          have u1 := uptoV k b 0 h (ok b (by simp))
          have u3 := uptoV k d 0 h (ok d (by simp))
          rw [zero_of]
          cases t with
          | false =>
            have zf : (isNon c && !z && (uptoB a 0 && (uptoB b 0 && uptoB d 0))) = false := by
              rw [Bool.eq_false_iff]
              intro q
              simp only [Bool.and_eq_true] at q
              obtain ⟨⟨q1, q2⟩, q3, q4, q5⟩ := q
              obtain ⟨i, rfl, x1, x2⟩ := upto_int q3
              obtain ⟨j, rfl, y1, y2⟩ := upto_int q4
              obtain ⟨l, rfl, z1, z2⟩ := upto_int q5
              have c0 : c = .non := by cases c <;> first | rfl | cases q1
              have := t2 (by rw [show i = 0 by omega]) (by rw [show j = 0 by omega]) c0 (by rw [show l = 0 by omega]) (by simpa using q2)
              cases this
            rw [zf]
            simp (implicitDefEqProofs := false) only [ss_cons, ss_nil, s_asg, s_asgc, s_ex, s_ret, s_pass, s_iff, s_forr, s_setix, s_asgs, v_non, v_bl, v_int, v_str, v_var, v_glob, v_bin, v_neg, v_not, v_and, v_or, v_cmp, v_chn, v_ife, v_tup, v_lst, v_ix, v_sl, v_call, v_bi, v_bm, v_isi, v_lrng1, v_lrng2, v_comp, t_bl, t_int, t_var, t_glob, t_not, t_and, t_or, t_cmp, t_chn, t_call, t_bi, t_isi, t_ix, es_nil, es_cons, eo_none, eo_some, ec_none, ec_some, ei_seq, ei_rng1, ei_rng2, ei_enum, ei_zip, var0, varS, tg_nm, tg_tup, tgs_nil, tgs_cons, seq_tup, Option.bind_some, wipe_nil, wipe_cons, bind_ok', bind_ex', thn_ok, thn_nx, thn_rt, thn_bk, thn_ct, fin_nx, fin_rt, of_some, ob_sm, iteR_t, iteR_f, iteS_t, iteS_f, andR_t, andR_f, orR_t, orR_f, truR_b, intR_i, putS_s, putS'_s, setS_s, List.set_cons_succ, List.set_cons_zero, ty_non_int, ty_non_bool, ty_non_str, ty_non_tup, ty_non_lst, ty_non_dct, ty_bl_int, ty_bl_bool, ty_bl_str, ty_bl_tup, ty_bl_lst, ty_bl_dct, ty_int_int, ty_int_bool, ty_int_str, ty_int_tup, ty_int_lst, ty_int_dct, ty_str_int, ty_str_bool, ty_str_str, ty_str_tup, ty_str_lst, ty_str_dct, ty_tup_int, ty_tup_bool, ty_tup_str, ty_tup_tup, ty_tup_lst, ty_tup_dct, tru_non, tru_bl, tru_int, tru_tup, lt_int, le_int, gt_int, ge_int, eq_d, ne_d, is_d, isn_d, inn_d, nin_d, isNon_n, isNon_i, isNon_t, isNon_s, isNon_r, isNon_b, eq_int, eq_str, eq_bl, add_int, sub_int, neg_int, len_tup, bi_int_i, bi_int_b, bi_min, bi_max, rngW_i, seqW_t, newO_d, Bool.not_true, Bool.not_false, decide_true, decide_false, Bool.true_and, Bool.and_true, Bool.false_and, Bool.and_false, Bool.true_or, Bool.or_true, Bool.false_or, Bool.or_false, List.length_cons, List.length_nil, Nat.zero_add, Nat.reduceAdd, Nat.reduceLeDiff, SZ, ↓reduceIte, v_fld, t_fld, v_fnv, v_calll, t_calll, v_repr, v_dct0, s_raise0, s_raise1, s_tryk, thn_ex, thn_exS, fin_ex, truR_ex, keep_nx, keep_rt, eq_non_non, eq_non_int, eq_int_non, eq_str_non, eq_non_str, eq_int_str, eq_str_int, d9, n5, i4, gT1, et]
          | true =>
            obtain ⟨rfl, rfl⟩ := t1 rfl
            cases q0 : uptoB a 0 with
            | false =>
              rw [q0] at u0
              simp (implicitDefEqProofs := false) only [ss_cons, ss_nil, s_asg, s_asgc, s_ex, s_ret, s_pass, s_iff, s_forr, s_setix, s_asgs, v_non, v_bl, v_int, v_str, v_var, v_glob, v_bin, v_neg, v_not, v_and, v_or, v_cmp, v_chn, v_ife, v_tup, v_lst, v_ix, v_sl, v_call, v_bi, v_bm, v_isi, v_lrng1, v_lrng2, v_comp, t_bl, t_int, t_var, t_glob, t_not, t_and, t_or, t_cmp, t_chn, t_call, t_bi, t_isi, t_ix, es_nil, es_cons, eo_none, eo_some, ec_none, ec_some, ei_seq, ei_rng1, ei_rng2, ei_enum, ei_zip, var0, varS, tg_nm, tg_tup, tgs_nil, tgs_cons, seq_tup, Option.bind_some, wipe_nil, wipe_cons, bind_ok', bind_ex', thn_ok, thn_nx, thn_rt, thn_bk, thn_ct, fin_nx, fin_rt, of_some, ob_sm, iteR_t, iteR_f, iteS_t, iteS_f, andR_t, andR_f, orR_t, orR_f, truR_b, intR_i, putS_s, putS'_s, setS_s, List.set_cons_succ, List.set_cons_zero, ty_non_int, ty_non_bool, ty_non_str, ty_non_tup, ty_non_lst, ty_non_dct, ty_bl_int, ty_bl_bool, ty_bl_str, ty_bl_tup, ty_bl_lst, ty_bl_dct, ty_int_int, ty_int_bool, ty_int_str, ty_int_tup, ty_int_lst, ty_int_dct, ty_str_int, ty_str_bool, ty_str_str, ty_str_tup, ty_str_lst, ty_str_dct, ty_tup_int, ty_tup_bool, ty_tup_str, ty_tup_tup, ty_tup_lst, ty_tup_dct, tru_non, tru_bl, tru_int, tru_tup, lt_int, le_int, gt_int, ge_int, eq_d, ne_d, is_d, isn_d, inn_d, nin_d, isNon_n, isNon_i, isNon_t, isNon_s, isNon_r, isNon_b, eq_int, eq_str, eq_bl, add_int, sub_int, neg_int, len_tup, bi_int_i, bi_int_b, bi_min, bi_max, rngW_i, seqW_t, newO_d, Bool.not_true, Bool.not_false, decide_true, decide_false, Bool.true_and, Bool.and_true, Bool.false_and, Bool.and_false, Bool.true_or, Bool.or_true, Bool.false_or, Bool.or_false, List.length_cons, List.length_nil, Nat.zero_add, Nat.reduceAdd, Nat.reduceLeDiff, SZ, ↓reduceIte, v_fld, t_fld, v_fnv, v_calll, t_calll, v_repr, v_dct0, s_raise0, s_raise1, s_tryk, thn_ex, thn_exS, fin_ex, truR_ex, keep_nx, keep_rt, eq_non_non, eq_non_int, eq_int_non, eq_str_non, eq_non_str, eq_int_str, eq_str_int, d9, n5, i0, i1, i3, i4, gT1, et, u0]
            | true =>
              rw [q0] at u0
              cases q1 : uptoB b 0 with
              | false =>
                rw [q1] at u1
                simp (implicitDefEqProofs := false) only [ss_cons, ss_nil, s_asg, s_asgc, s_ex, s_ret, s_pass, s_iff, s_forr, s_setix, s_asgs, v_non, v_bl, v_int, v_str, v_var, v_glob, v_bin, v_neg, v_not, v_and, v_or, v_cmp, v_chn, v_ife, v_tup, v_lst, v_ix, v_sl, v_call, v_bi, v_bm, v_isi, v_lrng1, v_lrng2, v_comp, t_bl, t_int, t_var, t_glob, t_not, t_and, t_or, t_cmp, t_chn, t_call, t_bi, t_isi, t_ix, es_nil, es_cons, eo_none, eo_some, ec_none, ec_some, ei_seq, ei_rng1, ei_rng2, ei_enum, ei_zip, var0, varS, tg_nm, tg_tup, tgs_nil, tgs_cons, seq_tup, Option.bind_some, wipe_nil, wipe_cons, bind_ok', bind_ex', thn_ok, thn_nx, thn_rt, thn_bk, thn_ct, fin_nx, fin_rt, of_some, ob_sm, iteR_t, iteR_f, iteS_t, iteS_f, andR_t, andR_f, orR_t, orR_f, truR_b, intR_i, putS_s, putS'_s, setS_s, List.set_cons_succ, List.set_cons_zero, ty_non_int, ty_non_bool, ty_non_str, ty_non_tup, ty_non_lst, ty_non_dct, ty_bl_int, ty_bl_bool, ty_bl_str, ty_bl_tup, ty_bl_lst, ty_bl_dct, ty_int_int, ty_int_bool, ty_int_str, ty_int_tup, ty_int_lst, ty_int_dct, ty_str_int, ty_str_bool, ty_str_str, ty_str_tup, ty_str_lst, ty_str_dct, ty_tup_int, ty_tup_bool, ty_tup_str, ty_tup_tup, ty_tup_lst, ty_tup_dct, tru_non, tru_bl, tru_int, tru_tup, lt_int, le_int, gt_int, ge_int, eq_d, ne_d, is_d, isn_d, inn_d, nin_d, isNon_n, isNon_i, isNon_t, isNon_s, isNon_r, isNon_b, eq_int, eq_str, eq_bl, add_int, sub_int, neg_int, len_tup, bi_int_i, bi_int_b, bi_min, bi_max, rngW_i, seqW_t, newO_d, Bool.not_true, Bool.not_false, decide_true, decide_false, Bool.true_and, Bool.and_true, Bool.false_and, Bool.and_false, Bool.true_or, Bool.or_true, Bool.false_or, Bool.or_false, List.length_cons, List.length_nil, Nat.zero_add, Nat.reduceAdd, Nat.reduceLeDiff, SZ, ↓reduceIte, v_fld, t_fld, v_fnv, v_calll, t_calll, v_repr, v_dct0, s_raise0, s_raise1, s_tryk, thn_ex, thn_exS, fin_ex, truR_ex, keep_nx, keep_rt, eq_non_non, eq_non_int, eq_int_non, eq_str_non, eq_non_str, eq_int_str, eq_str_int, d9, n5, i0, i1, i3, i4, gT1, et, u0, u1]
              | true =>
                rw [q1] at u1
                simp (implicitDefEqProofs := false) only [ss_cons, ss_nil, s_asg, s_asgc, s_ex, s_ret, s_pass, s_iff, s_forr, s_setix, s_asgs, v_non, v_bl, v_int, v_str, v_var, v_glob, v_bin, v_neg, v_not, v_and, v_or, v_cmp, v_chn, v_ife, v_tup, v_lst, v_ix, v_sl, v_call, v_bi, v_bm, v_isi, v_lrng1, v_lrng2, v_comp, t_bl, t_int, t_var, t_glob, t_not, t_and, t_or, t_cmp, t_chn, t_call, t_bi, t_isi, t_ix, es_nil, es_cons, eo_none, eo_some, ec_none, ec_some, ei_seq, ei_rng1, ei_rng2, ei_enum, ei_zip, var0, varS, tg_nm, tg_tup, tgs_nil, tgs_cons, seq_tup, Option.bind_some, wipe_nil, wipe_cons, bind_ok', bind_ex', thn_ok, thn_nx, thn_rt, thn_bk, thn_ct, fin_nx, fin_rt, of_some, ob_sm, iteR_t, iteR_f, iteS_t, iteS_f, andR_t, andR_f, orR_t, orR_f, truR_b, intR_i, putS_s, putS'_s, setS_s, List.set_cons_succ, List.set_cons_zero, ty_non_int, ty_non_bool, ty_non_str, ty_non_tup, ty_non_lst, ty_non_dct, ty_bl_int, ty_bl_bool, ty_bl_str, ty_bl_tup, ty_bl_lst, ty_bl_dct, ty_int_int, ty_int_bool, ty_int_str, ty_int_tup, ty_int_lst, ty_int_dct, ty_str_int, ty_str_bool, ty_str_str, ty_str_tup, ty_str_lst, ty_str_dct, ty_tup_int, ty_tup_bool, ty_tup_str, ty_tup_tup, ty_tup_lst, ty_tup_dct, tru_non, tru_bl, tru_int, tru_tup, lt_int, le_int, gt_int, ge_int, eq_d, ne_d, is_d, isn_d, inn_d, nin_d, isNon_n, isNon_i, isNon_t, isNon_s, isNon_r, isNon_b, eq_int, eq_str, eq_bl, add_int, sub_int, neg_int, len_tup, bi_int_i, bi_int_b, bi_min, bi_max, rngW_i, seqW_t, newO_d, Bool.not_true, Bool.not_false, decide_true, decide_false, Bool.true_and, Bool.and_true, Bool.false_and, Bool.and_false, Bool.true_or, Bool.or_true, Bool.false_or, Bool.or_false, List.length_cons, List.length_nil, Nat.zero_add, Nat.reduceAdd, Nat.reduceLeDiff, SZ, ↓reduceIte, v_fld, t_fld, v_fnv, v_calll, t_calll, v_repr, v_dct0, s_raise0, s_raise1, s_tryk, thn_ex, thn_exS, fin_ex, truR_ex, keep_nx, keep_rt, eq_non_non, eq_non_int, eq_int_non, eq_str_non, eq_non_str, eq_int_str, eq_str_int, d9, n5, i0, i1, i3, i4, gT1, et, u0, u1, u3]
      · have te := okv_bool (ok e (by simp)) fun z q => he ⟨z, q⟩
        have tn : zeroB (.tup [a, b, c, d, e]) = false := by
          unfold zeroB
          split
          · rename_i e0
            simp only [D.tup.injEq, List.cons.injEq] at e0
            exact absurd ⟨_, e0.2.2.2.2.1⟩ he
          · rfl
        rw [tn]
        simp (implicitDefEqProofs := false) only [ss_cons, ss_nil, s_asg, s_asgc, s_ex, s_ret, s_pass, s_iff, s_forr, s_setix, s_asgs, v_non, v_bl, v_int, v_str, v_var, v_glob, v_bin, v_neg, v_not, v_and, v_or, v_cmp, v_chn, v_ife, v_tup, v_lst, v_ix, v_sl, v_call, v_bi, v_bm, v_isi, v_lrng1, v_lrng2, v_comp, t_bl, t_int, t_var, t_glob, t_not, t_and, t_or, t_cmp, t_chn, t_call, t_bi, t_isi, t_ix, es_nil, es_cons, eo_none, eo_some, ec_none, ec_some, ei_seq, ei_rng1, ei_rng2, ei_enum, ei_zip, var0, varS, tg_nm, tg_tup, tgs_nil, tgs_cons, seq_tup, Option.bind_some, wipe_nil, wipe_cons, bind_ok', bind_ex', thn_ok, thn_nx, thn_rt, thn_bk, thn_ct, fin_nx, fin_rt, of_some, ob_sm, iteR_t, iteR_f, iteS_t, iteS_f, andR_t, andR_f, orR_t, orR_f, truR_b, intR_i, putS_s, putS'_s, setS_s, List.set_cons_succ, List.set_cons_zero, ty_non_int, ty_non_bool, ty_non_str, ty_non_tup, ty_non_lst, ty_non_dct, ty_bl_int, ty_bl_bool, ty_bl_str, ty_bl_tup, ty_bl_lst, ty_bl_dct, ty_int_int, ty_int_bool, ty_int_str, ty_int_tup, ty_int_lst, ty_int_dct, ty_str_int, ty_str_bool, ty_str_str, ty_str_tup, ty_str_lst, ty_str_dct, ty_tup_int, ty_tup_bool, ty_tup_str, ty_tup_tup, ty_tup_lst, ty_tup_dct, tru_non, tru_bl, tru_int, tru_tup, lt_int, le_int, gt_int, ge_int, eq_d, ne_d, is_d, isn_d, inn_d, nin_d, isNon_n, isNon_i, isNon_t, isNon_s, isNon_r, isNon_b, eq_int, eq_str, eq_bl, add_int, sub_int, neg_int, len_tup, bi_int_i, bi_int_b, bi_min, bi_max, rngW_i, seqW_t, newO_d, Bool.not_true, Bool.not_false, decide_true, decide_false, Bool.true_and, Bool.and_true, Bool.false_and, Bool.and_false, Bool.true_or, Bool.or_true, Bool.false_or, Bool.or_false, List.length_cons, List.length_nil, Nat.zero_add, Nat.reduceAdd, Nat.reduceLeDiff, SZ, ↓reduceIte, v_fld, t_fld, v_fnv, v_calll, t_calll, v_repr, v_dct0, s_raise0, s_raise1, s_tryk, thn_ex, thn_exS, fin_ex, truR_ex, keep_nx, keep_rt, eq_non_non, eq_non_int, eq_int_non, eq_str_non, eq_non_str, eq_int_str, eq_str_int, d9, n5, i4, te]
    · have ln : decide (((xs.length : Nat) : Int) = 5) = false := decide_eq_false (by omega)
      have tn : zeroB (.tup xs) = false := by
        unfold zeroB
        split
        · rename_i e0
          cases e0
          simp at l5
        · rfl
      rw [tn]
      simp (implicitDefEqProofs := false) only [ss_cons, ss_nil, s_asg, s_asgc, s_ex, s_ret, s_pass, s_iff, s_forr, s_setix, s_asgs, v_non, v_bl, v_int, v_str, v_var, v_glob, v_bin, v_neg, v_not, v_and, v_or, v_cmp, v_chn, v_ife, v_tup, v_lst, v_ix, v_sl, v_call, v_bi, v_bm, v_isi, v_lrng1, v_lrng2, v_comp, t_bl, t_int, t_var, t_glob, t_not, t_and, t_or, t_cmp, t_chn, t_call, t_bi, t_isi, t_ix, es_nil, es_cons, eo_none, eo_some, ec_none, ec_some, ei_seq, ei_rng1, ei_rng2, ei_enum, ei_zip, var0, varS, tg_nm, tg_tup, tgs_nil, tgs_cons, seq_tup, Option.bind_some, wipe_nil, wipe_cons, bind_ok', bind_ex', thn_ok, thn_nx, thn_rt, thn_bk, thn_ct, fin_nx, fin_rt, of_some, ob_sm, iteR_t, iteR_f, iteS_t, iteS_f, andR_t, andR_f, orR_t, orR_f, truR_b, intR_i, putS_s, putS'_s, setS_s, List.set_cons_succ, List.set_cons_zero, ty_non_int, ty_non_bool, ty_non_str, ty_non_tup, ty_non_lst, ty_non_dct, ty_bl_int, ty_bl_bool, ty_bl_str, ty_bl_tup, ty_bl_lst, ty_bl_dct, ty_int_int, ty_int_bool, ty_int_str, ty_int_tup, ty_int_lst, ty_int_dct, ty_str_int, ty_str_bool, ty_str_str, ty_str_tup, ty_str_lst, ty_str_dct, ty_tup_int, ty_tup_bool, ty_tup_str, ty_tup_tup, ty_tup_lst, ty_tup_dct, tru_non, tru_bl, tru_int, tru_tup, lt_int, le_int, gt_int, ge_int, eq_d, ne_d, is_d, isn_d, inn_d, nin_d, isNon_n, isNon_i, isNon_t, isNon_s, isNon_r, isNon_b, eq_int, eq_str, eq_bl, add_int, sub_int, neg_int, len_tup, bi_int_i, bi_int_b, bi_min, bi_max, rngW_i, seqW_t, newO_d, Bool.not_true, Bool.not_false, decide_true, decide_false, Bool.true_and, Bool.and_true, Bool.false_and, Bool.and_false, Bool.true_or, Bool.or_true, Bool.false_or, Bool.or_false, List.length_cons, List.length_nil, Nat.zero_add, Nat.reduceAdd, Nat.reduceLeDiff, SZ, ↓reduceIte, v_fld, t_fld, v_fnv, v_calll, t_calll, v_repr, v_dct0, s_raise0, s_raise1, s_tryk, thn_ex, thn_exS, fin_ex, truR_ex, keep_nx, keep_rt, eq_non_non, eq_non_int, eq_int_non, eq_str_non, eq_non_str, eq_int_str, eq_str_int, d9, ln]
  · have ty := ty_tupv (T := T) ok.okv fun xs z => hv ⟨xs, z⟩
    have tn : zeroB v = false := by
      unfold zeroB
      split
      · exact absurd ⟨_, rfl⟩ hv
      · rfl
    rw [tn]
    simp (implicitDefEqProofs := false) only [ss_cons, ss_nil, s_asg, s_asgc, s_ex, s_ret, s_pass, s_iff, s_forr, s_setix, s_asgs, v_non, v_bl, v_int, v_str, v_var, v_glob, v_bin, v_neg, v_not, v_and, v_or, v_cmp, v_chn, v_ife, v_tup, v_lst, v_ix, v_sl, v_call, v_bi, v_bm, v_isi, v_lrng1, v_lrng2, v_comp, t_bl, t_int, t_var, t_glob, t_not, t_and, t_or, t_cmp, t_chn, t_call, t_bi, t_isi, t_ix, es_nil, es_cons, eo_none, eo_some, ec_none, ec_some, ei_seq, ei_rng1, ei_rng2, ei_enum, ei_zip, var0, varS, tg_nm, tg_tup, tgs_nil, tgs_cons, seq_tup, Option.bind_some, wipe_nil, wipe_cons, bind_ok', bind_ex', thn_ok, thn_nx, thn_rt, thn_bk, thn_ct, fin_nx, fin_rt, of_some, ob_sm, iteR_t, iteR_f, iteS_t, iteS_f, andR_t, andR_f, orR_t, orR_f, truR_b, intR_i, putS_s, putS'_s, setS_s, List.set_cons_succ, List.set_cons_zero, ty_non_int, ty_non_bool, ty_non_str, ty_non_tup, ty_non_lst, ty_non_dct, ty_bl_int, ty_bl_bool, ty_bl_str, ty_bl_tup, ty_bl_lst, ty_bl_dct, ty_int_int, ty_int_bool, ty_int_str, ty_int_tup, ty_int_lst, ty_int_dct, ty_str_int, ty_str_bool, ty_str_str, ty_str_tup, ty_str_lst, ty_str_dct, ty_tup_int, ty_tup_bool, ty_tup_str, ty_tup_tup, ty_tup_lst, ty_tup_dct, tru_non, tru_bl, tru_int, tru_tup, lt_int, le_int, gt_int, ge_int, eq_d, ne_d, is_d, isn_d, inn_d, nin_d, isNon_n, isNon_i, isNon_t, isNon_s, isNon_r, isNon_b, eq_int, eq_str, eq_bl, add_int, sub_int, neg_int, len_tup, bi_int_i, bi_int_b, bi_min, bi_max, rngW_i, seqW_t, newO_d, Bool.not_true, Bool.not_false, decide_true, decide_false, Bool.true_and, Bool.and_true, Bool.false_and, Bool.and_false, Bool.true_or, Bool.or_true, Bool.false_or, Bool.or_false, List.length_cons, List.length_nil, Nat.zero_add, Nat.reduceAdd, Nat.reduceLeDiff, SZ, ↓reduceIte, v_fld, t_fld, v_fnv, v_calll, t_calll, v_repr, v_dct0, s_raise0, s_raise1, s_tryk, thn_ex, thn_exS, fin_ex, truR_ex, keep_nx, keep_rt, eq_non_non, eq_non_int, eq_int_non, eq_str_non, eq_non_str, eq_int_str, eq_str_int, d9, ty]
noncomputable def walk (m : Int) : List (Int × Int) → List D → Bool
  | _, [] => true
  | fk, y :: ys => match tell m fk y with
    | some p => walk m (fk ++ [p]) ys
    | none => false
noncomputable def rightV (m : Int) (h : Hh) (v : D) : Bool := match v with
  | .ref n => (match h[n]? with
    | some (.lst (x :: xs) _) => zeroB x && walk m [(0, 0)] xs
    | _ => false)
  | _ => false
theorem tell_some {m : Int} {fk : List (Int × Int)} {y : D} {p : Int × Int} (e : tell m fk y = some p) : ∃ b c z, y = .tup [.int p.1, b, c, .int p.2, .bl z] ∧ lookI fk p.1 = none := by
  unfold tell at e
  split at e
  · split at e
    · rename_i q
      cases e
      exact ⟨_, _, _, rfl, q.2.1⟩
    · cases e
  · cases e
theorem Dats.len {h : Hh} {A : Nat → Prop} : ∀ {n w : Nat} {xs : List D}, Dats h A n w xs → xs.length ≤ w
  | _, _, _, .nil => Nat.zero_le _
  | _, _, _, .cons _ ds hl => by have := Dats.len ds; simp; omega
theorem ty_lst {h : Hh} {v : D} (ok : okv h v) (hv : ∀ n xs f, v = .ref n → h[n]? ≠ some (.lst xs f)) : isTys T h v [.lst] = some false := by
  cases v with
  | fn f => exact ok.elim
  | ref n =>
    obtain ⟨o, g, z⟩ := ok
    cases o with
    | lst xs f => exact absurd g (hv n xs f rfl)
    | dct xs f => simp [isTys, isTy, g]; rfl
    | _ => exact z.elim
  | _ => rfl
theorem set1 {b e : Hh} {x y : O} : (b ++ [x] ++ e).set b.length y = b ++ [y] ++ e := by
  rw [List.append_assoc, List.set_append_right _ _ (Nat.le_refl _)]
  simp
theorem houses (k : Nat) (s : List Nat) (i : Int) (h : Hh) (h1 : 1 ≤ i) (h2 : i ≤ 8) : run T P (k + 2) 8 [.str s, .int i] h = .ok .non h := by
  rw [u8]
  have e : ¬ i = 0 := by omega
  have e1 : 0 ≤ i := by omega
  have u := uptoV k (.int i) 8 h trivial
  simp only [uptoB, decide_eq_true e1, decide_eq_true h2, Bool.and_self] at u
  simp (implicitDefEqProofs := false) only [ss_cons, ss_nil, s_asg, s_asgc, s_ex, s_ret, s_pass, s_iff, s_forr, s_setix, s_asgs, v_non, v_bl, v_int, v_str, v_var, v_glob, v_bin, v_neg, v_not, v_and, v_or, v_cmp, v_chn, v_ife, v_tup, v_lst, v_ix, v_sl, v_call, v_bi, v_bm, v_isi, v_lrng1, v_lrng2, v_comp, t_bl, t_int, t_var, t_glob, t_not, t_and, t_or, t_cmp, t_chn, t_call, t_bi, t_isi, t_ix, es_nil, es_cons, eo_none, eo_some, ec_none, ec_some, ei_seq, ei_rng1, ei_rng2, ei_enum, ei_zip, var0, varS, tg_nm, tg_tup, tgs_nil, tgs_cons, seq_tup, Option.bind_some, wipe_nil, wipe_cons, bind_ok', bind_ex', thn_ok, thn_nx, thn_rt, thn_bk, thn_ct, fin_nx, fin_rt, of_some, ob_sm, iteR_t, iteR_f, iteS_t, iteS_f, andR_t, andR_f, orR_t, orR_f, truR_b, intR_i, putS_s, putS'_s, setS_s, List.set_cons_succ, List.set_cons_zero, ty_non_int, ty_non_bool, ty_non_str, ty_non_tup, ty_non_lst, ty_non_dct, ty_bl_int, ty_bl_bool, ty_bl_str, ty_bl_tup, ty_bl_lst, ty_bl_dct, ty_int_int, ty_int_bool, ty_int_str, ty_int_tup, ty_int_lst, ty_int_dct, ty_str_int, ty_str_bool, ty_str_str, ty_str_tup, ty_str_lst, ty_str_dct, ty_tup_int, ty_tup_bool, ty_tup_str, ty_tup_tup, ty_tup_lst, ty_tup_dct, tru_non, tru_bl, tru_int, tru_tup, lt_int, le_int, gt_int, ge_int, eq_d, ne_d, is_d, isn_d, inn_d, nin_d, isNon_n, isNon_i, isNon_t, isNon_s, isNon_r, isNon_b, eq_int, eq_str, eq_bl, add_int, sub_int, neg_int, len_tup, bi_int_i, bi_int_b, bi_min, bi_max, rngW_i, seqW_t, newO_d, Bool.not_true, Bool.not_false, decide_true, decide_false, Bool.true_and, Bool.and_true, Bool.false_and, Bool.and_false, Bool.true_or, Bool.or_true, Bool.false_or, Bool.or_false, List.length_cons, List.length_nil, Nat.zero_add, Nat.reduceAdd, Nat.reduceLeDiff, SZ, ↓reduceIte, v_fld, t_fld, v_fnv, v_calll, t_calll, v_repr, v_dct0, s_raise0, s_raise1, s_tryk, thn_ex, thn_exS, fin_ex, truR_ex, keep_nx, keep_rt, eq_non_non, eq_non_int, eq_int_non, eq_str_non, eq_non_str, eq_int_str, eq_str_int, d8, u, gT0, e]
theorem right_lines (k : Nat) (m : Int) (v : D) (h : Hh) (A : Nat → Prop) (t : Thg A h v) (m1 : 1 ≤ m) (m2 : m ≤ 8) : ∃ e, run T P (k + 3) 4 [.int m, v] h = .ok (.bl (rightV m h v)) (h ++ e) := by
  rw [u4]
  have hs := houses k [104, 111, 117, 115, 101, 115] m h m1 m2
  by_cases hv : ∃ n xs f, v = .ref n ∧ h[n]? = some (.lst xs f)
  · obtain ⟨n, xs, f, rfl, g⟩ := hv
    have tl : isTys T h (.ref n) [.lst] = some true := by simp [isTys, isTy, g]
    obtain ⟨dn, dw, d1, d2, dv⟩ : ∃ dn dw, dn ≤ 24 ∧ dw ≤ 4000 ∧ Dat h A dn dw (.ref n) := by
      rcases t with t | ⟨m', _, e, g'⟩
      · exact t
      · cases e; rw [g] at g'; cases g'
    cases dv with
    | lst am g' ds =>
      rw [g] at g'
      cases g'
      cases xs with
      | nil =>
        refine ⟨[], ?_⟩
        have l0 := len_lst g
        simp (implicitDefEqProofs := false) only [ss_cons, ss_nil, s_asg, s_asgc, s_ex, s_ret, s_pass, s_iff, s_forr, s_setix, s_asgs, v_non, v_bl, v_int, v_str, v_var, v_glob, v_bin, v_neg, v_not, v_and, v_or, v_cmp, v_chn, v_ife, v_tup, v_lst, v_ix, v_sl, v_call, v_bi, v_bm, v_isi, v_lrng1, v_lrng2, v_comp, t_bl, t_int, t_var, t_glob, t_not, t_and, t_or, t_cmp, t_chn, t_call, t_bi, t_isi, t_ix, es_nil, es_cons, eo_none, eo_some, ec_none, ec_some, ei_seq, ei_rng1, ei_rng2, ei_enum, ei_zip, var0, varS, tg_nm, tg_tup, tgs_nil, tgs_cons, seq_tup, Option.bind_some, wipe_nil, wipe_cons, bind_ok', bind_ex', thn_ok, thn_nx, thn_rt, thn_bk, thn_ct, fin_nx, fin_rt, of_some, ob_sm, iteR_t, iteR_f, iteS_t, iteS_f, andR_t, andR_f, orR_t, orR_f, truR_b, intR_i, putS_s, putS'_s, setS_s, List.set_cons_succ, List.set_cons_zero, ty_non_int, ty_non_bool, ty_non_str, ty_non_tup, ty_non_lst, ty_non_dct, ty_bl_int, ty_bl_bool, ty_bl_str, ty_bl_tup, ty_bl_lst, ty_bl_dct, ty_int_int, ty_int_bool, ty_int_str, ty_int_tup, ty_int_lst, ty_int_dct, ty_str_int, ty_str_bool, ty_str_str, ty_str_tup, ty_str_lst, ty_str_dct, ty_tup_int, ty_tup_bool, ty_tup_str, ty_tup_tup, ty_tup_lst, ty_tup_dct, tru_non, tru_bl, tru_int, tru_tup, lt_int, le_int, gt_int, ge_int, eq_d, ne_d, is_d, isn_d, inn_d, nin_d, isNon_n, isNon_i, isNon_t, isNon_s, isNon_r, isNon_b, eq_int, eq_str, eq_bl, add_int, sub_int, neg_int, len_tup, bi_int_i, bi_int_b, bi_min, bi_max, rngW_i, seqW_t, newO_d, Bool.not_true, Bool.not_false, decide_true, decide_false, Bool.true_and, Bool.and_true, Bool.false_and, Bool.and_false, Bool.true_or, Bool.or_true, Bool.false_or, Bool.or_false, List.length_cons, List.length_nil, Nat.zero_add, Nat.reduceAdd, Nat.reduceLeDiff, SZ, ↓reduceIte, v_fld, t_fld, v_fnv, v_calll, t_calll, v_repr, v_dct0, s_raise0, s_raise1, s_tryk, thn_ex, thn_exS, fin_ex, truR_ex, keep_nx, keep_rt, eq_non_non, eq_non_int, eq_int_non, eq_str_non, eq_non_str, eq_int_str, eq_str_int, d4, hs, tl, l0, show decide (((0 : Nat) : Int) = 0) = true from rfl, rightV, g, List.append_nil]
      | cons x xs =>
        have ll := len_lst g
        have n0 : decide ((((xs.length + 1 : Nat)) : Int) = 0) = false := decide_eq_false (by omega)
        have ix : ixD (.ref n) (.int 0) h = some (x, h) := by
          have q : Py.ix (xs.length + 1) 0 = some 0 := by rw [ix_nn (by omega) (by omega)]; rfl
          rw [ix_lst g]
          simp only [List.length_cons, q]
          rfl
        have hlen := Dats.len ds
        cases ds with
        | cons dx dxs hw =>
          have lz := line_zero k x h A _ _ dx (by omega)
          have rv : rightV m h (.ref n) = (zeroB x && walk m [(0, 0)] xs) := by simp only [rightV, g]
          rw [rv]
          cases qz : zeroB x with
          | false =>
            refine ⟨[], ?_⟩
            rw [qz] at lz
            simp (implicitDefEqProofs := false) only [ss_cons, ss_nil, s_asg, s_asgc, s_ex, s_ret, s_pass, s_iff, s_forr, s_setix, s_asgs, v_non, v_bl, v_int, v_str, v_var, v_glob, v_bin, v_neg, v_not, v_and, v_or, v_cmp, v_chn, v_ife, v_tup, v_lst, v_ix, v_sl, v_call, v_bi, v_bm, v_isi, v_lrng1, v_lrng2, v_comp, t_bl, t_int, t_var, t_glob, t_not, t_and, t_or, t_cmp, t_chn, t_call, t_bi, t_isi, t_ix, es_nil, es_cons, eo_none, eo_some, ec_none, ec_some, ei_seq, ei_rng1, ei_rng2, ei_enum, ei_zip, var0, varS, tg_nm, tg_tup, tgs_nil, tgs_cons, seq_tup, Option.bind_some, wipe_nil, wipe_cons, bind_ok', bind_ex', thn_ok, thn_nx, thn_rt, thn_bk, thn_ct, fin_nx, fin_rt, of_some, ob_sm, iteR_t, iteR_f, iteS_t, iteS_f, andR_t, andR_f, orR_t, orR_f, truR_b, intR_i, putS_s, putS'_s, setS_s, List.set_cons_succ, List.set_cons_zero, ty_non_int, ty_non_bool, ty_non_str, ty_non_tup, ty_non_lst, ty_non_dct, ty_bl_int, ty_bl_bool, ty_bl_str, ty_bl_tup, ty_bl_lst, ty_bl_dct, ty_int_int, ty_int_bool, ty_int_str, ty_int_tup, ty_int_lst, ty_int_dct, ty_str_int, ty_str_bool, ty_str_str, ty_str_tup, ty_str_lst, ty_str_dct, ty_tup_int, ty_tup_bool, ty_tup_str, ty_tup_tup, ty_tup_lst, ty_tup_dct, tru_non, tru_bl, tru_int, tru_tup, lt_int, le_int, gt_int, ge_int, eq_d, ne_d, is_d, isn_d, inn_d, nin_d, isNon_n, isNon_i, isNon_t, isNon_s, isNon_r, isNon_b, eq_int, eq_str, eq_bl, add_int, sub_int, neg_int, len_tup, bi_int_i, bi_int_b, bi_min, bi_max, rngW_i, seqW_t, newO_d, Bool.not_true, Bool.not_false, decide_true, decide_false, Bool.true_and, Bool.and_true, Bool.false_and, Bool.and_false, Bool.true_or, Bool.or_true, Bool.false_or, Bool.or_false, List.length_cons, List.length_nil, Nat.zero_add, Nat.reduceAdd, Nat.reduceLeDiff, SZ, ↓reduceIte, v_fld, t_fld, v_fnv, v_calll, t_calll, v_repr, v_dct0, s_raise0, s_raise1, s_tryk, thn_ex, thn_exS, fin_ex, truR_ex, keep_nx, keep_rt, eq_non_non, eq_non_int, eq_int_non, eq_str_non, eq_non_str, eq_int_str, eq_str_int, d4, hs, tl, ll, n0, ix, lz, List.append_nil]
          | true =>
            rw [qz] at lz
            have dn : dct1R h.length (.int 0) (.int 0) (h ++ [O.dct [] false]) = .ok (.ref h.length) (h ++ [O.dct [(.int 0, .int 0)] false]) := by
              rw [dct1_at (by simp) rfl]
              congr 1
              rw [List.set_append_right _ _ (Nat.le_refl _)]
              simp
            have sl := sl_lst (lo := some 1) (hi := none) (get_app (e := [O.dct [(.int 0, .int 0)] false]) g)
            rw [cut_from1, List.drop_one, List.tail_cons] at sl
            have l1 : (h ++ [O.dct [(.int 0, .int 0)] false]).length = h.length + 1 := by simp
            have sw : seqW (.ref (h.length + 1)) (h ++ [O.dct [(.int 0, .int 0)] false] ++ [O.lst xs false]) = .ok ⟨xs, [(h.length + 1, .lst xs false)]⟩ _ := seqW_l (by simp)
            simp (implicitDefEqProofs := false) only [ss_cons, ss_nil, s_asg, s_asgc, s_ex, s_ret, s_pass, s_iff, s_forr, s_setix, s_asgs, v_non, v_bl, v_int, v_str, v_var, v_glob, v_bin, v_neg, v_not, v_and, v_or, v_cmp, v_chn, v_ife, v_tup, v_lst, v_ix, v_sl, v_call, v_bi, v_bm, v_isi, v_lrng1, v_lrng2, v_comp, t_bl, t_int, t_var, t_glob, t_not, t_and, t_or, t_cmp, t_chn, t_call, t_bi, t_isi, t_ix, es_nil, es_cons, eo_none, eo_some, ec_none, ec_some, ei_seq, ei_rng1, ei_rng2, ei_enum, ei_zip, var0, varS, tg_nm, tg_tup, tgs_nil, tgs_cons, seq_tup, Option.bind_some, wipe_nil, wipe_cons, bind_ok', bind_ex', thn_ok, thn_nx, thn_rt, thn_bk, thn_ct, fin_nx, fin_rt, of_some, ob_sm, iteR_t, iteR_f, iteS_t, iteS_f, andR_t, andR_f, orR_t, orR_f, truR_b, intR_i, putS_s, putS'_s, setS_s, List.set_cons_succ, List.set_cons_zero, ty_non_int, ty_non_bool, ty_non_str, ty_non_tup, ty_non_lst, ty_non_dct, ty_bl_int, ty_bl_bool, ty_bl_str, ty_bl_tup, ty_bl_lst, ty_bl_dct, ty_int_int, ty_int_bool, ty_int_str, ty_int_tup, ty_int_lst, ty_int_dct, ty_str_int, ty_str_bool, ty_str_str, ty_str_tup, ty_str_lst, ty_str_dct, ty_tup_int, ty_tup_bool, ty_tup_str, ty_tup_tup, ty_tup_lst, ty_tup_dct, tru_non, tru_bl, tru_int, tru_tup, lt_int, le_int, gt_int, ge_int, eq_d, ne_d, is_d, isn_d, inn_d, nin_d, isNon_n, isNon_i, isNon_t, isNon_s, isNon_r, isNon_b, eq_int, eq_str, eq_bl, add_int, sub_int, neg_int, len_tup, bi_int_i, bi_int_b, bi_min, bi_max, rngW_i, seqW_t, newO_d, Bool.not_true, Bool.not_false, decide_true, decide_false, Bool.true_and, Bool.and_true, Bool.false_and, Bool.and_false, Bool.true_or, Bool.or_true, Bool.false_or, Bool.or_false, List.length_cons, List.length_nil, Nat.zero_add, Nat.reduceAdd, Nat.reduceLeDiff, SZ, ↓reduceIte, v_fld, t_fld, v_fnv, v_calll, t_calll, v_repr, v_dct0, s_raise0, s_raise1, s_tryk, thn_ex, thn_exS, fin_ex, truR_ex, keep_nx, keep_rt, eq_non_non, eq_non_int, eq_int_non, eq_str_non, eq_non_str, eq_int_str, eq_str_int, d4, hs, tl, ll, n0, ix, lz, v_dct1, dn, sl, l1, sw]
            refine forL_x (Q := fun r => ∃ e, r.fin = R.ok (.bl (walk m [(0, 0)] xs)) (h ++ e)) (fun rest σ h' => ∃ fk r3, h' = h ++ [.dct (F2 fk) false] ++ [.lst xs false] ∧ σ = [some (.int m), some (.ref n), some (.ref h.length), r3] ∧ walk m [(0, 0)] xs = walk m fk rest ∧ (∀ y ∈ rest, y ∈ xs) ∧ fk.length + rest.length ≤ 5000) (fun rest σ h' ⟨fk, r3, e1, _⟩ => ?_)
              (fun y rest σ h' ⟨fk, r3, e1, e2, e3, e4, e5⟩ => ?_) (fun σ h' ⟨fk, r3, e1, e2, e3, e4, e5⟩ => ?_) ⟨[(0, 0)], none, rfl, rfl, rfl, fun _ hy => hy, by simp at hlen ⊢; omega⟩
            · subst e1
              exact ok_one (by simp)
            · subst e1 e2
              have gd : (h ++ [O.dct (F2 fk) false] ++ [O.lst xs false])[h.length]? = some (.dct (F2 fk) false) := by simp
              obtain ⟨_, dy⟩ := dxs.mem y (e4 y (by simp))
              have oy : okP (h ++ [O.dct (F2 fk) false] ++ [O.lst xs false]) y := dy.okP.app.app
              have tq := told_line k y m fk h.length _ gd oy m1
              rw [walk] at e3
              cases qt : tell m fk y with
              | none =>
                rw [qt] at e3 tq
                simp only at e3
                right; left
                refine ⟨.bl false, h ++ [O.dct (F2 fk) false] ++ [O.lst xs false], ?_, [.dct (F2 fk) false] ++ [.lst xs false], by rw [e3]; simp⟩
                simp (implicitDefEqProofs := false) only [ss_cons, ss_nil, s_asg, s_asgc, s_ex, s_ret, s_pass, s_iff, s_forr, s_setix, s_asgs, v_non, v_bl, v_int, v_str, v_var, v_glob, v_bin, v_neg, v_not, v_and, v_or, v_cmp, v_chn, v_ife, v_tup, v_lst, v_ix, v_sl, v_call, v_bi, v_bm, v_isi, v_lrng1, v_lrng2, v_comp, t_bl, t_int, t_var, t_glob, t_not, t_and, t_or, t_cmp, t_chn, t_call, t_bi, t_isi, t_ix, es_nil, es_cons, eo_none, eo_some, ec_none, ec_some, ei_seq, ei_rng1, ei_rng2, ei_enum, ei_zip, var0, varS, tg_nm, tg_tup, tgs_nil, tgs_cons, seq_tup, Option.bind_some, wipe_nil, wipe_cons, bind_ok', bind_ex', thn_ok, thn_nx, thn_rt, thn_bk, thn_ct, fin_nx, fin_rt, of_some, ob_sm, iteR_t, iteR_f, iteS_t, iteS_f, andR_t, andR_f, orR_t, orR_f, truR_b, intR_i, putS_s, putS'_s, setS_s, List.set_cons_succ, List.set_cons_zero, ty_non_int, ty_non_bool, ty_non_str, ty_non_tup, ty_non_lst, ty_non_dct, ty_bl_int, ty_bl_bool, ty_bl_str, ty_bl_tup, ty_bl_lst, ty_bl_dct, ty_int_int, ty_int_bool, ty_int_str, ty_int_tup, ty_int_lst, ty_int_dct, ty_str_int, ty_str_bool, ty_str_str, ty_str_tup, ty_str_lst, ty_str_dct, ty_tup_int, ty_tup_bool, ty_tup_str, ty_tup_tup, ty_tup_lst, ty_tup_dct, tru_non, tru_bl, tru_int, tru_tup, lt_int, le_int, gt_int, ge_int, eq_d, ne_d, is_d, isn_d, inn_d, nin_d, isNon_n, isNon_i, isNon_t, isNon_s, isNon_r, isNon_b, eq_int, eq_str, eq_bl, add_int, sub_int, neg_int, len_tup, bi_int_i, bi_int_b, bi_min, bi_max, rngW_i, seqW_t, newO_d, Bool.not_true, Bool.not_false, decide_true, decide_false, Bool.true_and, Bool.and_true, Bool.false_and, Bool.and_false, Bool.true_or, Bool.or_true, Bool.false_or, Bool.or_false, List.length_cons, List.length_nil, Nat.zero_add, Nat.reduceAdd, Nat.reduceLeDiff, SZ, ↓reduceIte, v_fld, t_fld, v_fnv, v_calll, t_calll, v_repr, v_dct0, s_raise0, s_raise1, s_tryk, thn_ex, thn_exS, fin_ex, truR_ex, keep_nx, keep_rt, eq_non_non, eq_non_int, eq_int_non, eq_str_non, eq_non_str, eq_int_str, eq_str_int, b4_0, tq, Option.isSome_none]
              | some p =>
                rw [qt] at e3 tq
                simp only at e3
                left
                obtain ⟨b, c, z, rfl, lo⟩ := tell_some qt
                have se : setIx (.ref h.length) (.int p.1) (.int p.2) (h ++ [O.dct (F2 fk) false] ++ [O.lst xs false]) = some (h ++ [O.dct (F2 (fk ++ [p])) false] ++ [O.lst xs false]) := by
                  rw [set_dct gd rfl (by simp [F2, SZ]; simp at e5; omega), put2 fk _ _ lo, set1]
                refine ⟨[some (.int m), some (.ref n), some (.ref h.length), some (.tup [.int p.1, b, c, .int p.2, .bl z])], _, .inl ?_, fk ++ [p], _, rfl, rfl, e3, fun y hy => e4 y (by simp [hy]), by simp at e5 ⊢; omega⟩
                simp (implicitDefEqProofs := false) only [ss_cons, ss_nil, s_asg, s_asgc, s_ex, s_ret, s_pass, s_iff, s_forr, s_setix, s_asgs, v_non, v_bl, v_int, v_str, v_var, v_glob, v_bin, v_neg, v_not, v_and, v_or, v_cmp, v_chn, v_ife, v_tup, v_lst, v_ix, v_sl, v_call, v_bi, v_bm, v_isi, v_lrng1, v_lrng2, v_comp, t_bl, t_int, t_var, t_glob, t_not, t_and, t_or, t_cmp, t_chn, t_call, t_bi, t_isi, t_ix, es_nil, es_cons, eo_none, eo_some, ec_none, ec_some, ei_seq, ei_rng1, ei_rng2, ei_enum, ei_zip, var0, varS, tg_nm, tg_tup, tgs_nil, tgs_cons, seq_tup, Option.bind_some, wipe_nil, wipe_cons, bind_ok', bind_ex', thn_ok, thn_nx, thn_rt, thn_bk, thn_ct, fin_nx, fin_rt, of_some, ob_sm, iteR_t, iteR_f, iteS_t, iteS_f, andR_t, andR_f, orR_t, orR_f, truR_b, intR_i, putS_s, putS'_s, setS_s, List.set_cons_succ, List.set_cons_zero, ty_non_int, ty_non_bool, ty_non_str, ty_non_tup, ty_non_lst, ty_non_dct, ty_bl_int, ty_bl_bool, ty_bl_str, ty_bl_tup, ty_bl_lst, ty_bl_dct, ty_int_int, ty_int_bool, ty_int_str, ty_int_tup, ty_int_lst, ty_int_dct, ty_str_int, ty_str_bool, ty_str_str, ty_str_tup, ty_str_lst, ty_str_dct, ty_tup_int, ty_tup_bool, ty_tup_str, ty_tup_tup, ty_tup_lst, ty_tup_dct, tru_non, tru_bl, tru_int, tru_tup, lt_int, le_int, gt_int, ge_int, eq_d, ne_d, is_d, isn_d, inn_d, nin_d, isNon_n, isNon_i, isNon_t, isNon_s, isNon_r, isNon_b, eq_int, eq_str, eq_bl, add_int, sub_int, neg_int, len_tup, bi_int_i, bi_int_b, bi_min, bi_max, rngW_i, seqW_t, newO_d, Bool.not_true, Bool.not_false, decide_true, decide_false, Bool.true_and, Bool.and_true, Bool.false_and, Bool.and_false, Bool.true_or, Bool.or_true, Bool.false_or, Bool.or_false, List.length_cons, List.length_nil, Nat.zero_add, Nat.reduceAdd, Nat.reduceLeDiff, SZ, ↓reduceIte, v_fld, t_fld, v_fnv, v_calll, t_calll, v_repr, v_dct0, s_raise0, s_raise1, s_tryk, thn_ex, thn_exS, fin_ex, truR_ex, keep_nx, keep_rt, eq_non_non, eq_non_int, eq_int_non, eq_str_non, eq_non_str, eq_int_str, eq_str_int, b4_0, tq, Option.isSome_some, i0, i3, se]
            · subst e1 e2
              rw [e3]
              exact ⟨[.dct (F2 fk) false] ++ [.lst xs false], by simp (implicitDefEqProofs := false) only [ss_cons, ss_nil, s_asg, s_asgc, s_ex, s_ret, s_pass, s_iff, s_forr, s_setix, s_asgs, v_non, v_bl, v_int, v_str, v_var, v_glob, v_bin, v_neg, v_not, v_and, v_or, v_cmp, v_chn, v_ife, v_tup, v_lst, v_ix, v_sl, v_call, v_bi, v_bm, v_isi, v_lrng1, v_lrng2, v_comp, t_bl, t_int, t_var, t_glob, t_not, t_and, t_or, t_cmp, t_chn, t_call, t_bi, t_isi, t_ix, es_nil, es_cons, eo_none, eo_some, ec_none, ec_some, ei_seq, ei_rng1, ei_rng2, ei_enum, ei_zip, var0, varS, tg_nm, tg_tup, tgs_nil, tgs_cons, seq_tup, Option.bind_some, wipe_nil, wipe_cons, bind_ok', bind_ex', thn_ok, thn_nx, thn_rt, thn_bk, thn_ct, fin_nx, fin_rt, of_some, ob_sm, iteR_t, iteR_f, iteS_t, iteS_f, andR_t, andR_f, orR_t, orR_f, truR_b, intR_i, putS_s, putS'_s, setS_s, List.set_cons_succ, List.set_cons_zero, ty_non_int, ty_non_bool, ty_non_str, ty_non_tup, ty_non_lst, ty_non_dct, ty_bl_int, ty_bl_bool, ty_bl_str, ty_bl_tup, ty_bl_lst, ty_bl_dct, ty_int_int, ty_int_bool, ty_int_str, ty_int_tup, ty_int_lst, ty_int_dct, ty_str_int, ty_str_bool, ty_str_str, ty_str_tup, ty_str_lst, ty_str_dct, ty_tup_int, ty_tup_bool, ty_tup_str, ty_tup_tup, ty_tup_lst, ty_tup_dct, tru_non, tru_bl, tru_int, tru_tup, lt_int, le_int, gt_int, ge_int, eq_d, ne_d, is_d, isn_d, inn_d, nin_d, isNon_n, isNon_i, isNon_t, isNon_s, isNon_r, isNon_b, eq_int, eq_str, eq_bl, add_int, sub_int, neg_int, len_tup, bi_int_i, bi_int_b, bi_min, bi_max, rngW_i, seqW_t, newO_d, Bool.not_true, Bool.not_false, decide_true, decide_false, Bool.true_and, Bool.and_true, Bool.false_and, Bool.and_false, Bool.true_or, Bool.or_true, Bool.false_or, Bool.or_false, List.length_cons, List.length_nil, Nat.zero_add, Nat.reduceAdd, Nat.reduceLeDiff, SZ, ↓reduceIte, v_fld, t_fld, v_fnv, v_calll, t_calll, v_repr, v_dct0, s_raise0, s_raise1, s_tryk, thn_ex, thn_exS, fin_ex, truR_ex, keep_nx, keep_rt, eq_non_non, eq_non_int, eq_int_non, eq_str_non, eq_non_str, eq_int_str, eq_str_int, walk]; simp⟩
  · have tl := ty_lst (Thg.okH t).okv fun n xs f e g => hv ⟨n, xs, f, e, g⟩
    have rv : rightV m h v = false := by
      unfold rightV
      split
      · split
        · rename_i g
          exact absurd ⟨_, _, _, rfl, g⟩ hv
        · rfl
      · rfl
    refine ⟨[], ?_⟩
    rw [rv]
    simp (implicitDefEqProofs := false) only [ss_cons, ss_nil, s_asg, s_asgc, s_ex, s_ret, s_pass, s_iff, s_forr, s_setix, s_asgs, v_non, v_bl, v_int, v_str, v_var, v_glob, v_bin, v_neg, v_not, v_and, v_or, v_cmp, v_chn, v_ife, v_tup, v_lst, v_ix, v_sl, v_call, v_bi, v_bm, v_isi, v_lrng1, v_lrng2, v_comp, t_bl, t_int, t_var, t_glob, t_not, t_and, t_or, t_cmp, t_chn, t_call, t_bi, t_isi, t_ix, es_nil, es_cons, eo_none, eo_some, ec_none, ec_some, ei_seq, ei_rng1, ei_rng2, ei_enum, ei_zip, var0, varS, tg_nm, tg_tup, tgs_nil, tgs_cons, seq_tup, Option.bind_some, wipe_nil, wipe_cons, bind_ok', bind_ex', thn_ok, thn_nx, thn_rt, thn_bk, thn_ct, fin_nx, fin_rt, of_some, ob_sm, iteR_t, iteR_f, iteS_t, iteS_f, andR_t, andR_f, orR_t, orR_f, truR_b, intR_i, putS_s, putS'_s, setS_s, List.set_cons_succ, List.set_cons_zero, ty_non_int, ty_non_bool, ty_non_str, ty_non_tup, ty_non_lst, ty_non_dct, ty_bl_int, ty_bl_bool, ty_bl_str, ty_bl_tup, ty_bl_lst, ty_bl_dct, ty_int_int, ty_int_bool, ty_int_str, ty_int_tup, ty_int_lst, ty_int_dct, ty_str_int, ty_str_bool, ty_str_str, ty_str_tup, ty_str_lst, ty_str_dct, ty_tup_int, ty_tup_bool, ty_tup_str, ty_tup_tup, ty_tup_lst, ty_tup_dct, tru_non, tru_bl, tru_int, tru_tup, lt_int, le_int, gt_int, ge_int, eq_d, ne_d, is_d, isn_d, inn_d, nin_d, isNon_n, isNon_i, isNon_t, isNon_s, isNon_r, isNon_b, eq_int, eq_str, eq_bl, add_int, sub_int, neg_int, len_tup, bi_int_i, bi_int_b, bi_min, bi_max, rngW_i, seqW_t, newO_d, Bool.not_true, Bool.not_false, decide_true, decide_false, Bool.true_and, Bool.and_true, Bool.false_and, Bool.and_false, Bool.true_or, Bool.or_true, Bool.false_or, Bool.or_false, List.length_cons, List.length_nil, Nat.zero_add, Nat.reduceAdd, Nat.reduceLeDiff, SZ, ↓reduceIte, v_fld, t_fld, v_fnv, v_calll, t_calll, v_repr, v_dct0, s_raise0, s_raise1, s_tryk, thn_ex, thn_exS, fin_ex, truR_ex, keep_nx, keep_rt, eq_non_non, eq_non_int, eq_int_non, eq_str_non, eq_non_str, eq_int_str, eq_str_int, d4, hs, tl, List.append_nil]
end K42
namespace K42
open Py
theorem isB_f {h : Hh} {a b : D} {op : CO} : True := trivial
theorem is_bl {h : Hh} {v : D} {b : Bool} : cmpD .isn v (.bl b) h = some (.bl (!isB b v), h) := by
  cases v <;> rfl
theorem is_non {h : Hh} {v : D} : cmpD .isn v .non h = some (.bl (!isNon v), h) := by
  cases v <;> rfl
/-- the comprehension over the places 0, 1, 3 -/
def bad3 (a b d : D) : List Int := (if uptoB a 0 = true then [] else [1]) ++ ((if uptoB b 0 = true then [] else [1]) ++ (if uptoB d 0 = true then [] else [1]))
theorem bad3_nil (a b d : D) : decide (bad3 a b d = []) = (uptoB a 0 && (uptoB b 0 && uptoB d 0)) := by
  unfold bad3
  cases uptoB a 0 <;> cases uptoB b 0 <;> cases uptoB d 0 <;> rfl
theorem own_right (k : Nat) (m : Int) (v : D) (h : Hh) (A : Nat → Prop) (t : Thg A h v) (m1 : 1 ≤ m) (m2 : m ≤ 8) : ∃ e, run T P (k + 3) 11 [.int m, v] h = .ok (.bl (rightV m h v)) (h ++ e) := by
  rw [u11]
  by_cases hv : ∃ n xs f, v = .ref n ∧ h[n]? = some (.lst xs f)
  · obtain ⟨n, xs, f, rfl, g⟩ := hv
    have tl : isTys T h (.ref n) [.lst] = some true := by simp [isTys, isTy, g]
    obtain ⟨dn, dw, d1, d2, dv⟩ : ∃ dn dw, dn ≤ 24 ∧ dw ≤ 4000 ∧ Dat h A dn dw (.ref n) := by
      rcases t with t | ⟨m', _, e, g'⟩
      · exact t
      · cases e; rw [g] at g'; cases g'
    cases dv with
    | lst am g' ds =>
      rw [g] at g'
      cases g'
      cases xs with
      | nil =>
        refine ⟨[], ?_⟩
        have l0 := len_lst g
        simp (implicitDefEqProofs := false) only [ss_cons, ss_nil, s_asg, s_asgc, s_ex, s_ret, s_pass, s_iff, s_forr, s_setix, s_asgs, v_non, v_bl, v_int, v_str, v_var, v_glob, v_bin, v_neg, v_not, v_and, v_or, v_cmp, v_chn, v_ife, v_tup, v_lst, v_ix, v_sl, v_call, v_bi, v_bm, v_isi, v_lrng1, v_lrng2, v_comp, t_bl, t_int, t_var, t_glob, t_not, t_and, t_or, t_cmp, t_chn, t_call, t_bi, t_isi, t_ix, es_nil, es_cons, eo_none, eo_some, ec_none, ec_some, ei_seq, ei_rng1, ei_rng2, ei_enum, ei_zip, var0, varS, tg_nm, tg_tup, tgs_nil, tgs_cons, seq_tup, Option.bind_some, wipe_nil, wipe_cons, bind_ok', bind_ex', thn_ok, thn_nx, thn_rt, thn_bk, thn_ct, fin_nx, fin_rt, of_some, ob_sm, iteR_t, iteR_f, iteS_t, iteS_f, andR_t, andR_f, orR_t, orR_f, truR_b, intR_i, putS_s, putS'_s, setS_s, List.set_cons_succ, List.set_cons_zero, ty_non_int, ty_non_bool, ty_non_str, ty_non_tup, ty_non_lst, ty_non_dct, ty_bl_int, ty_bl_bool, ty_bl_str, ty_bl_tup, ty_bl_lst, ty_bl_dct, ty_int_int, ty_int_bool, ty_int_str, ty_int_tup, ty_int_lst, ty_int_dct, ty_str_int, ty_str_bool, ty_str_str, ty_str_tup, ty_str_lst, ty_str_dct, ty_tup_int, ty_tup_bool, ty_tup_str, ty_tup_tup, ty_tup_lst, ty_tup_dct, tru_non, tru_bl, tru_int, tru_tup, lt_int, le_int, gt_int, ge_int, eq_d, ne_d, is_d, isn_d, inn_d, nin_d, isNon_n, isNon_i, isNon_t, isNon_s, isNon_r, isNon_b, eq_int, eq_str, eq_bl, add_int, sub_int, neg_int, len_tup, bi_int_i, bi_int_b, bi_min, bi_max, rngW_i, seqW_t, newO_d, Bool.not_true, Bool.not_false, decide_true, decide_false, Bool.true_and, Bool.and_true, Bool.false_and, Bool.and_false, Bool.true_or, Bool.or_true, Bool.false_or, Bool.or_false, List.length_cons, List.length_nil, Nat.zero_add, Nat.reduceAdd, Nat.reduceLeDiff, SZ, ↓reduceIte, v_fld, t_fld, v_fnv, v_calll, t_calll, v_repr, v_dct0, s_raise0, s_raise1, s_tryk, thn_ex, thn_exS, fin_ex, truR_ex, keep_nx, keep_rt, eq_non_non, eq_non_int, eq_int_non, eq_str_non, eq_non_str, eq_int_str, eq_str_int, d11, tl, l0, show decide (((0 : Nat) : Int) = 0) = true from rfl, rightV, g, List.append_nil]
      | cons x xs =>
        have ll := len_lst g
        have n0 : decide ((((xs.length + 1 : Nat)) : Int) = 0) = false := decide_eq_false (by omega)
        have ix : ixD (.ref n) (.int 0) h = some (x, h) := by
          have q : Py.ix (xs.length + 1) 0 = some 0 := by rw [ix_nn (by omega) (by omega)]; rfl
          rw [ix_lst g]
          simp only [List.length_cons, q]
          rfl
        have hlen := Dats.len ds
        cases ds with
        | cons dx dxs hw =>
          have ok := dx.okP
          have rv : rightV m h (.ref n) = (zeroB x && walk m [(0, 0)] xs) := by simp only [rightV, g]
          rw [rv]
          by_cases hx : ∃ ys, x = .tup ys
          · obtain ⟨ys, rfl⟩ := hx
            by_cases l5 : ys.length = 5
            · obtain ⟨a, b, c, d, e, rfl⟩ := five l5
              have n5 : decide (((5 : Nat) : Int) = 5) = true := rfl
              by_cases he : e = .bl false
              · subst he
                by_cases hc : c = .non
                · subst hc
                  rw [zero_of]
                  simp only [isNon, Bool.not_false, Bool.and_self, Bool.true_and]
                  rw [← bad3_nil]
                  -- the comprehension
                  have cq : compD ⟨[.int 0, .int 1, .int 3], []⟩ h.length (fun x h => Tg.put (.nm 3) x h (wipe [some (.int m), some (.ref n), some (.tup [a, b, .non, d, .bl false]), none, none, none] [3])) (denc T (run T P (k + 2)) q11_0) (den T (run T P (k + 2)) e11_0).v h = .ok (.ref h.length) (h ++ [.lst ((bad3 a b d).map .int) false]) := by
                    rw [compD_pure (fun i => if i matches .int 0 then (if uptoB a 0 = true then none else some (.int 1)) else if i matches .int 1 then (if uptoB b 0 = true then none else some (.int 1)) else (if uptoB d 0 = true then none else some (.int 1))) (by simp [SZ]) (fun _ => rfl)]
                    · congr 3
                      unfold bad3
                      cases uptoB a 0 <;> cases uptoB b 0 <;> cases uptoB d 0 <;> rfl
                    · intro x hx e'
                      simp only [List.mem_cons, List.not_mem_nil, or_false] at hx
                      have ua := fromV (k + 1) a 0 (h ++ e') (okv.app (ok a (by simp)))
                      have ub := fromV (k + 1) b 0 (h ++ e') (okv.app (ok b (by simp)))
                      have ud := fromV (k + 1) d 0 (h ++ e') (okv.app (ok d (by simp)))
                      rcases hx with rfl | rfl | rfl
                      · refine ⟨[some (.int m), some (.ref n), some (.tup [a, b, .non, d, .bl false]), some (.int 0), none, none], rfl, ?_⟩
                        simp only [if_true]
                        cases q : uptoB a 0 with
                        | true =>
                          rw [q] at ua
                          simp only [if_true, q11_0, ec_some]
                          simp (implicitDefEqProofs := false) only [ss_cons, ss_nil, s_asg, s_asgc, s_ex, s_ret, s_pass, s_iff, s_forr, s_setix, s_asgs, v_non, v_bl, v_int, v_str, v_var, v_glob, v_bin, v_neg, v_not, v_and, v_or, v_cmp, v_chn, v_ife, v_tup, v_lst, v_ix, v_sl, v_call, v_bi, v_bm, v_isi, v_lrng1, v_lrng2, v_comp, t_bl, t_int, t_var, t_glob, t_not, t_and, t_or, t_cmp, t_chn, t_call, t_bi, t_isi, t_ix, es_nil, es_cons, eo_none, eo_some, ec_none, ec_some, ei_seq, ei_rng1, ei_rng2, ei_enum, ei_zip, var0, varS, tg_nm, tg_tup, tgs_nil, tgs_cons, seq_tup, Option.bind_some, wipe_nil, wipe_cons, bind_ok', bind_ex', thn_ok, thn_nx, thn_rt, thn_bk, thn_ct, fin_nx, fin_rt, of_some, ob_sm, iteR_t, iteR_f, iteS_t, iteS_f, andR_t, andR_f, orR_t, orR_f, truR_b, intR_i, putS_s, putS'_s, setS_s, List.set_cons_succ, List.set_cons_zero, ty_non_int, ty_non_bool, ty_non_str, ty_non_tup, ty_non_lst, ty_non_dct, ty_bl_int, ty_bl_bool, ty_bl_str, ty_bl_tup, ty_bl_lst, ty_bl_dct, ty_int_int, ty_int_bool, ty_int_str, ty_int_tup, ty_int_lst, ty_int_dct, ty_str_int, ty_str_bool, ty_str_str, ty_str_tup, ty_str_lst, ty_str_dct, ty_tup_int, ty_tup_bool, ty_tup_str, ty_tup_tup, ty_tup_lst, ty_tup_dct, tru_non, tru_bl, tru_int, tru_tup, lt_int, le_int, gt_int, ge_int, eq_d, ne_d, is_d, isn_d, inn_d, nin_d, isNon_n, isNon_i, isNon_t, isNon_s, isNon_r, isNon_b, eq_int, eq_str, eq_bl, add_int, sub_int, neg_int, len_tup, bi_int_i, bi_int_b, bi_min, bi_max, rngW_i, seqW_t, newO_d, Bool.not_true, Bool.not_false, decide_true, decide_false, Bool.true_and, Bool.and_true, Bool.false_and, Bool.and_false, Bool.true_or, Bool.or_true, Bool.false_or, Bool.or_false, List.length_cons, List.length_nil, Nat.zero_add, Nat.reduceAdd, Nat.reduceLeDiff, SZ, ↓reduceIte, v_fld, t_fld, v_fnv, v_calll, t_calll, v_repr, v_dct0, s_raise0, s_raise1, s_tryk, thn_ex, thn_exS, fin_ex, truR_ex, keep_nx, keep_rt, eq_non_non, eq_non_int, eq_int_non, eq_str_non, eq_non_str, eq_int_str, eq_str_int, i0, ua]
                        | false =>
                          rw [q] at ua
                          simp only [Bool.false_eq_true, if_false, q11_0, e11_0, ec_some]
                          exact ⟨by simp (implicitDefEqProofs := false) only [ss_cons, ss_nil, s_asg, s_asgc, s_ex, s_ret, s_pass, s_iff, s_forr, s_setix, s_asgs, v_non, v_bl, v_int, v_str, v_var, v_glob, v_bin, v_neg, v_not, v_and, v_or, v_cmp, v_chn, v_ife, v_tup, v_lst, v_ix, v_sl, v_call, v_bi, v_bm, v_isi, v_lrng1, v_lrng2, v_comp, t_bl, t_int, t_var, t_glob, t_not, t_and, t_or, t_cmp, t_chn, t_call, t_bi, t_isi, t_ix, es_nil, es_cons, eo_none, eo_some, ec_none, ec_some, ei_seq, ei_rng1, ei_rng2, ei_enum, ei_zip, var0, varS, tg_nm, tg_tup, tgs_nil, tgs_cons, seq_tup, Option.bind_some, wipe_nil, wipe_cons, bind_ok', bind_ex', thn_ok, thn_nx, thn_rt, thn_bk, thn_ct, fin_nx, fin_rt, of_some, ob_sm, iteR_t, iteR_f, iteS_t, iteS_f, andR_t, andR_f, orR_t, orR_f, truR_b, intR_i, putS_s, putS'_s, setS_s, List.set_cons_succ, List.set_cons_zero, ty_non_int, ty_non_bool, ty_non_str, ty_non_tup, ty_non_lst, ty_non_dct, ty_bl_int, ty_bl_bool, ty_bl_str, ty_bl_tup, ty_bl_lst, ty_bl_dct, ty_int_int, ty_int_bool, ty_int_str, ty_int_tup, ty_int_lst, ty_int_dct, ty_str_int, ty_str_bool, ty_str_str, ty_str_tup, ty_str_lst, ty_str_dct, ty_tup_int, ty_tup_bool, ty_tup_str, ty_tup_tup, ty_tup_lst, ty_tup_dct, tru_non, tru_bl, tru_int, tru_tup, lt_int, le_int, gt_int, ge_int, eq_d, ne_d, is_d, isn_d, inn_d, nin_d, isNon_n, isNon_i, isNon_t, isNon_s, isNon_r, isNon_b, eq_int, eq_str, eq_bl, add_int, sub_int, neg_int, len_tup, bi_int_i, bi_int_b, bi_min, bi_max, rngW_i, seqW_t, newO_d, Bool.not_true, Bool.not_false, decide_true, decide_false, Bool.true_and, Bool.and_true, Bool.false_and, Bool.and_false, Bool.true_or, Bool.or_true, Bool.false_or, Bool.or_false, List.length_cons, List.length_nil, Nat.zero_add, Nat.reduceAdd, Nat.reduceLeDiff, SZ, ↓reduceIte, v_fld, t_fld, v_fnv, v_calll, t_calll, v_repr, v_dct0, s_raise0, s_raise1, s_tryk, thn_ex, thn_exS, fin_ex, truR_ex, keep_nx, keep_rt, eq_non_non, eq_non_int, eq_int_non, eq_str_non, eq_non_str, eq_int_str, eq_str_int, i0, ua], by simp (implicitDefEqProofs := false) only [ss_cons, ss_nil, s_asg, s_asgc, s_ex, s_ret, s_pass, s_iff, s_forr, s_setix, s_asgs, v_non, v_bl, v_int, v_str, v_var, v_glob, v_bin, v_neg, v_not, v_and, v_or, v_cmp, v_chn, v_ife, v_tup, v_lst, v_ix, v_sl, v_call, v_bi, v_bm, v_isi, v_lrng1, v_lrng2, v_comp, t_bl, t_int, t_var, t_glob, t_not, t_and, t_or, t_cmp, t_chn, t_call, t_bi, t_isi, t_ix, es_nil, es_cons, eo_none, eo_some, ec_none, ec_some, ei_seq, ei_rng1, ei_rng2, ei_enum, ei_zip, var0, varS, tg_nm, tg_tup, tgs_nil, tgs_cons, seq_tup, Option.bind_some, wipe_nil, wipe_cons, bind_ok', bind_ex', thn_ok, thn_nx, thn_rt, thn_bk, thn_ct, fin_nx, fin_rt, of_some, ob_sm, iteR_t, iteR_f, iteS_t, iteS_f, andR_t, andR_f, orR_t, orR_f, truR_b, intR_i, putS_s, putS'_s, setS_s, List.set_cons_succ, List.set_cons_zero, ty_non_int, ty_non_bool, ty_non_str, ty_non_tup, ty_non_lst, ty_non_dct, ty_bl_int, ty_bl_bool, ty_bl_str, ty_bl_tup, ty_bl_lst, ty_bl_dct, ty_int_int, ty_int_bool, ty_int_str, ty_int_tup, ty_int_lst, ty_int_dct, ty_str_int, ty_str_bool, ty_str_str, ty_str_tup, ty_str_lst, ty_str_dct, ty_tup_int, ty_tup_bool, ty_tup_str, ty_tup_tup, ty_tup_lst, ty_tup_dct, tru_non, tru_bl, tru_int, tru_tup, lt_int, le_int, gt_int, ge_int, eq_d, ne_d, is_d, isn_d, inn_d, nin_d, isNon_n, isNon_i, isNon_t, isNon_s, isNon_r, isNon_b, eq_int, eq_str, eq_bl, add_int, sub_int, neg_int, len_tup, bi_int_i, bi_int_b, bi_min, bi_max, rngW_i, seqW_t, newO_d, Bool.not_true, Bool.not_false, decide_true, decide_false, Bool.true_and, Bool.and_true, Bool.false_and, Bool.and_false, Bool.true_or, Bool.or_true, Bool.false_or, Bool.or_false, List.length_cons, List.length_nil, Nat.zero_add, Nat.reduceAdd, Nat.reduceLeDiff, SZ, ↓reduceIte, v_fld, t_fld, v_fnv, v_calll, t_calll, v_repr, v_dct0, s_raise0, s_raise1, s_tryk, thn_ex, thn_exS, fin_ex, truR_ex, keep_nx, keep_rt, eq_non_non, eq_non_int, eq_int_non, eq_str_non, eq_non_str, eq_int_str, eq_str_int]⟩
                      · refine ⟨[some (.int m), some (.ref n), some (.tup [a, b, .non, d, .bl false]), some (.int 1), none, none], rfl, ?_⟩
                        simp only [Bool.false_eq_true, if_false, if_true]
                        cases q : uptoB b 0 with
                        | true =>
                          rw [q] at ub
                          simp only [if_true, q11_0, ec_some]
                          simp (implicitDefEqProofs := false) only [ss_cons, ss_nil, s_asg, s_asgc, s_ex, s_ret, s_pass, s_iff, s_forr, s_setix, s_asgs, v_non, v_bl, v_int, v_str, v_var, v_glob, v_bin, v_neg, v_not, v_and, v_or, v_cmp, v_chn, v_ife, v_tup, v_lst, v_ix, v_sl, v_call, v_bi, v_bm, v_isi, v_lrng1, v_lrng2, v_comp, t_bl, t_int, t_var, t_glob, t_not, t_and, t_or, t_cmp, t_chn, t_call, t_bi, t_isi, t_ix, es_nil, es_cons, eo_none, eo_some, ec_none, ec_some, ei_seq, ei_rng1, ei_rng2, ei_enum, ei_zip, var0, varS, tg_nm, tg_tup, tgs_nil, tgs_cons, seq_tup, Option.bind_some, wipe_nil, wipe_cons, bind_ok', bind_ex', thn_ok, thn_nx, thn_rt, thn_bk, thn_ct, fin_nx, fin_rt, of_some, ob_sm, iteR_t, iteR_f, iteS_t, iteS_f, andR_t, andR_f, orR_t, orR_f, truR_b, intR_i, putS_s, putS'_s, setS_s, List.set_cons_succ, List.set_cons_zero, ty_non_int, ty_non_bool, ty_non_str, ty_non_tup, ty_non_lst, ty_non_dct, ty_bl_int, ty_bl_bool, ty_bl_str, ty_bl_tup, ty_bl_lst, ty_bl_dct, ty_int_int, ty_int_bool, ty_int_str, ty_int_tup, ty_int_lst, ty_int_dct, ty_str_int, ty_str_bool, ty_str_str, ty_str_tup, ty_str_lst, ty_str_dct, ty_tup_int, ty_tup_bool, ty_tup_str, ty_tup_tup, ty_tup_lst, ty_tup_dct, tru_non, tru_bl, tru_int, tru_tup, lt_int, le_int, gt_int, ge_int, eq_d, ne_d, is_d, isn_d, inn_d, nin_d, isNon_n, isNon_i, isNon_t, isNon_s, isNon_r, isNon_b, eq_int, eq_str, eq_bl, add_int, sub_int, neg_int, len_tup, bi_int_i, bi_int_b, bi_min, bi_max, rngW_i, seqW_t, newO_d, Bool.not_true, Bool.not_false, decide_true, decide_false, Bool.true_and, Bool.and_true, Bool.false_and, Bool.and_false, Bool.true_or, Bool.or_true, Bool.false_or, Bool.or_false, List.length_cons, List.length_nil, Nat.zero_add, Nat.reduceAdd, Nat.reduceLeDiff, SZ, ↓reduceIte, v_fld, t_fld, v_fnv, v_calll, t_calll, v_repr, v_dct0, s_raise0, s_raise1, s_tryk, thn_ex, thn_exS, fin_ex, truR_ex, keep_nx, keep_rt, eq_non_non, eq_non_int, eq_int_non, eq_str_non, eq_non_str, eq_int_str, eq_str_int, i1, ub]
                        | false =>
                          rw [q] at ub
                          simp only [Bool.false_eq_true, if_false, q11_0, e11_0, ec_some]
                          exact ⟨by simp (implicitDefEqProofs := false) only [ss_cons, ss_nil, s_asg, s_asgc, s_ex, s_ret, s_pass, s_iff, s_forr, s_setix, s_asgs, v_non, v_bl, v_int, v_str, v_var, v_glob, v_bin, v_neg, v_not, v_and, v_or, v_cmp, v_chn, v_ife, v_tup, v_lst, v_ix, v_sl, v_call, v_bi, v_bm, v_isi, v_lrng1, v_lrng2, v_comp, t_bl, t_int, t_var, t_glob, t_not, t_and, t_or, t_cmp, t_chn, t_call, t_bi, t_isi, t_ix, es_nil, es_cons, eo_none, eo_some, ec_none, ec_some, ei_seq, ei_rng1, ei_rng2, ei_enum, ei_zip, var0, varS, tg_nm, tg_tup, tgs_nil, tgs_cons, seq_tup, Option.bind_some, wipe_nil, wipe_cons, bind_ok', bind_ex', thn_ok, thn_nx, thn_rt, thn_bk, thn_ct, fin_nx, fin_rt, of_some, ob_sm, iteR_t, iteR_f, iteS_t, iteS_f, andR_t, andR_f, orR_t, orR_f, truR_b, intR_i, putS_s, putS'_s, setS_s, List.set_cons_succ, List.set_cons_zero, ty_non_int, ty_non_bool, ty_non_str, ty_non_tup, ty_non_lst, ty_non_dct, ty_bl_int, ty_bl_bool, ty_bl_str, ty_bl_tup, ty_bl_lst, ty_bl_dct, ty_int_int, ty_int_bool, ty_int_str, ty_int_tup, ty_int_lst, ty_int_dct, ty_str_int, ty_str_bool, ty_str_str, ty_str_tup, ty_str_lst, ty_str_dct, ty_tup_int, ty_tup_bool, ty_tup_str, ty_tup_tup, ty_tup_lst, ty_tup_dct, tru_non, tru_bl, tru_int, tru_tup, lt_int, le_int, gt_int, ge_int, eq_d, ne_d, is_d, isn_d, inn_d, nin_d, isNon_n, isNon_i, isNon_t, isNon_s, isNon_r, isNon_b, eq_int, eq_str, eq_bl, add_int, sub_int, neg_int, len_tup, bi_int_i, bi_int_b, bi_min, bi_max, rngW_i, seqW_t, newO_d, Bool.not_true, Bool.not_false, decide_true, decide_false, Bool.true_and, Bool.and_true, Bool.false_and, Bool.and_false, Bool.true_or, Bool.or_true, Bool.false_or, Bool.or_false, List.length_cons, List.length_nil, Nat.zero_add, Nat.reduceAdd, Nat.reduceLeDiff, SZ, ↓reduceIte, v_fld, t_fld, v_fnv, v_calll, t_calll, v_repr, v_dct0, s_raise0, s_raise1, s_tryk, thn_ex, thn_exS, fin_ex, truR_ex, keep_nx, keep_rt, eq_non_non, eq_non_int, eq_int_non, eq_str_non, eq_non_str, eq_int_str, eq_str_int, i1, ub], by simp (implicitDefEqProofs := false) only [ss_cons, ss_nil, s_asg, s_asgc, s_ex, s_ret, s_pass, s_iff, s_forr, s_setix, s_asgs, v_non, v_bl, v_int, v_str, v_var, v_glob, v_bin, v_neg, v_not, v_and, v_or, v_cmp, v_chn, v_ife, v_tup, v_lst, v_ix, v_sl, v_call, v_bi, v_bm, v_isi, v_lrng1, v_lrng2, v_comp, t_bl, t_int, t_var, t_glob, t_not, t_and, t_or, t_cmp, t_chn, t_call, t_bi, t_isi, t_ix, es_nil, es_cons, eo_none, eo_some, ec_none, ec_some, ei_seq, ei_rng1, ei_rng2, ei_enum, ei_zip, var0, varS, tg_nm, tg_tup, tgs_nil, tgs_cons, seq_tup, Option.bind_some, wipe_nil, wipe_cons, bind_ok', bind_ex', thn_ok, thn_nx, thn_rt, thn_bk, thn_ct, fin_nx, fin_rt, of_some, ob_sm, iteR_t, iteR_f, iteS_t, iteS_f, andR_t, andR_f, orR_t, orR_f, truR_b, intR_i, putS_s, putS'_s, setS_s, List.set_cons_succ, List.set_cons_zero, ty_non_int, ty_non_bool, ty_non_str, ty_non_tup, ty_non_lst, ty_non_dct, ty_bl_int, ty_bl_bool, ty_bl_str, ty_bl_tup, ty_bl_lst, ty_bl_dct, ty_int_int, ty_int_bool, ty_int_str, ty_int_tup, ty_int_lst, ty_int_dct, ty_str_int, ty_str_bool, ty_str_str, ty_str_tup, ty_str_lst, ty_str_dct, ty_tup_int, ty_tup_bool, ty_tup_str, ty_tup_tup, ty_tup_lst, ty_tup_dct, tru_non, tru_bl, tru_int, tru_tup, lt_int, le_int, gt_int, ge_int, eq_d, ne_d, is_d, isn_d, inn_d, nin_d, isNon_n, isNon_i, isNon_t, isNon_s, isNon_r, isNon_b, eq_int, eq_str, eq_bl, add_int, sub_int, neg_int, len_tup, bi_int_i, bi_int_b, bi_min, bi_max, rngW_i, seqW_t, newO_d, Bool.not_true, Bool.not_false, decide_true, decide_false, Bool.true_and, Bool.and_true, Bool.false_and, Bool.and_false, Bool.true_or, Bool.or_true, Bool.false_or, Bool.or_false, List.length_cons, List.length_nil, Nat.zero_add, Nat.reduceAdd, Nat.reduceLeDiff, SZ, ↓reduceIte, v_fld, t_fld, v_fnv, v_calll, t_calll, v_repr, v_dct0, s_raise0, s_raise1, s_tryk, thn_ex, thn_exS, fin_ex, truR_ex, keep_nx, keep_rt, eq_non_non, eq_non_int, eq_int_non, eq_str_non, eq_non_str, eq_int_str, eq_str_int]⟩
                      · refine ⟨[some (.int m), some (.ref n), some (.tup [a, b, .non, d, .bl false]), some (.int 3), none, none], rfl, ?_⟩
                        simp only [Bool.false_eq_true, if_false, if_true]
                        cases q : uptoB d 0 with
                        | true =>
                          rw [q] at ud
                          simp only [if_true, q11_0, ec_some]
                          simp (implicitDefEqProofs := false) only [ss_cons, ss_nil, s_asg, s_asgc, s_ex, s_ret, s_pass, s_iff, s_forr, s_setix, s_asgs, v_non, v_bl, v_int, v_str, v_var, v_glob, v_bin, v_neg, v_not, v_and, v_or, v_cmp, v_chn, v_ife, v_tup, v_lst, v_ix, v_sl, v_call, v_bi, v_bm, v_isi, v_lrng1, v_lrng2, v_comp, t_bl, t_int, t_var, t_glob, t_not, t_and, t_or, t_cmp, t_chn, t_call, t_bi, t_isi, t_ix, es_nil, es_cons, eo_none, eo_some, ec_none, ec_some, ei_seq, ei_rng1, ei_rng2, ei_enum, ei_zip, var0, varS, tg_nm, tg_tup, tgs_nil, tgs_cons, seq_tup, Option.bind_some, wipe_nil, wipe_cons, bind_ok', bind_ex', thn_ok, thn_nx, thn_rt, thn_bk, thn_ct, fin_nx, fin_rt, of_some, ob_sm, iteR_t, iteR_f, iteS_t, iteS_f, andR_t, andR_f, orR_t, orR_f, truR_b, intR_i, putS_s, putS'_s, setS_s, List.set_cons_succ, List.set_cons_zero, ty_non_int, ty_non_bool, ty_non_str, ty_non_tup, ty_non_lst, ty_non_dct, ty_bl_int, ty_bl_bool, ty_bl_str, ty_bl_tup, ty_bl_lst, ty_bl_dct, ty_int_int, ty_int_bool, ty_int_str, ty_int_tup, ty_int_lst, ty_int_dct, ty_str_int, ty_str_bool, ty_str_str, ty_str_tup, ty_str_lst, ty_str_dct, ty_tup_int, ty_tup_bool, ty_tup_str, ty_tup_tup, ty_tup_lst, ty_tup_dct, tru_non, tru_bl, tru_int, tru_tup, lt_int, le_int, gt_int, ge_int, eq_d, ne_d, is_d, isn_d, inn_d, nin_d, isNon_n, isNon_i, isNon_t, isNon_s, isNon_r, isNon_b, eq_int, eq_str, eq_bl, add_int, sub_int, neg_int, len_tup, bi_int_i, bi_int_b, bi_min, bi_max, rngW_i, seqW_t, newO_d, Bool.not_true, Bool.not_false, decide_true, decide_false, Bool.true_and, Bool.and_true, Bool.false_and, Bool.and_false, Bool.true_or, Bool.or_true, Bool.false_or, Bool.or_false, List.length_cons, List.length_nil, Nat.zero_add, Nat.reduceAdd, Nat.reduceLeDiff, SZ, ↓reduceIte, v_fld, t_fld, v_fnv, v_calll, t_calll, v_repr, v_dct0, s_raise0, s_raise1, s_tryk, thn_ex, thn_exS, fin_ex, truR_ex, keep_nx, keep_rt, eq_non_non, eq_non_int, eq_int_non, eq_str_non, eq_non_str, eq_int_str, eq_str_int, i3, ud]
                        | false =>
                          rw [q] at ud
                          simp only [Bool.false_eq_true, if_false, q11_0, e11_0, ec_some]
                          exact ⟨by simp (implicitDefEqProofs := false) only [ss_cons, ss_nil, s_asg, s_asgc, s_ex, s_ret, s_pass, s_iff, s_forr, s_setix, s_asgs, v_non, v_bl, v_int, v_str, v_var, v_glob, v_bin, v_neg, v_not, v_and, v_or, v_cmp, v_chn, v_ife, v_tup, v_lst, v_ix, v_sl, v_call, v_bi, v_bm, v_isi, v_lrng1, v_lrng2, v_comp, t_bl, t_int, t_var, t_glob, t_not, t_and, t_or, t_cmp, t_chn, t_call, t_bi, t_isi, t_ix, es_nil, es_cons, eo_none, eo_some, ec_none, ec_some, ei_seq, ei_rng1, ei_rng2, ei_enum, ei_zip, var0, varS, tg_nm, tg_tup, tgs_nil, tgs_cons, seq_tup, Option.bind_some, wipe_nil, wipe_cons, bind_ok', bind_ex', thn_ok, thn_nx, thn_rt, thn_bk, thn_ct, fin_nx, fin_rt, of_some, ob_sm, iteR_t, iteR_f, iteS_t, iteS_f, andR_t, andR_f, orR_t, orR_f, truR_b, intR_i, putS_s, putS'_s, setS_s, List.set_cons_succ, List.set_cons_zero, ty_non_int, ty_non_bool, ty_non_str, ty_non_tup, ty_non_lst, ty_non_dct, ty_bl_int, ty_bl_bool, ty_bl_str, ty_bl_tup, ty_bl_lst, ty_bl_dct, ty_int_int, ty_int_bool, ty_int_str, ty_int_tup, ty_int_lst, ty_int_dct, ty_str_int, ty_str_bool, ty_str_str, ty_str_tup, ty_str_lst, ty_str_dct, ty_tup_int, ty_tup_bool, ty_tup_str, ty_tup_tup, ty_tup_lst, ty_tup_dct, tru_non, tru_bl, tru_int, tru_tup, lt_int, le_int, gt_int, ge_int, eq_d, ne_d, is_d, isn_d, inn_d, nin_d, isNon_n, isNon_i, isNon_t, isNon_s, isNon_r, isNon_b, eq_int, eq_str, eq_bl, add_int, sub_int, neg_int, len_tup, bi_int_i, bi_int_b, bi_min, bi_max, rngW_i, seqW_t, newO_d, Bool.not_true, Bool.not_false, decide_true, decide_false, Bool.true_and, Bool.and_true, Bool.false_and, Bool.and_false, Bool.true_or, Bool.or_true, Bool.false_or, Bool.or_false, List.length_cons, List.length_nil, Nat.zero_add, Nat.reduceAdd, Nat.reduceLeDiff, SZ, ↓reduceIte, v_fld, t_fld, v_fnv, v_calll, t_calll, v_repr, v_dct0, s_raise0, s_raise1, s_tryk, thn_ex, thn_exS, fin_ex, truR_ex, keep_nx, keep_rt, eq_non_non, eq_non_int, eq_int_non, eq_str_non, eq_non_str, eq_int_str, eq_str_int, i3, ud], by simp (implicitDefEqProofs := false) only [ss_cons, ss_nil, s_asg, s_asgc, s_ex, s_ret, s_pass, s_iff, s_forr, s_setix, s_asgs, v_non, v_bl, v_int, v_str, v_var, v_glob, v_bin, v_neg, v_not, v_and, v_or, v_cmp, v_chn, v_ife, v_tup, v_lst, v_ix, v_sl, v_call, v_bi, v_bm, v_isi, v_lrng1, v_lrng2, v_comp, t_bl, t_int, t_var, t_glob, t_not, t_and, t_or, t_cmp, t_chn, t_call, t_bi, t_isi, t_ix, es_nil, es_cons, eo_none, eo_some, ec_none, ec_some, ei_seq, ei_rng1, ei_rng2, ei_enum, ei_zip, var0, varS, tg_nm, tg_tup, tgs_nil, tgs_cons, seq_tup, Option.bind_some, wipe_nil, wipe_cons, bind_ok', bind_ex', thn_ok, thn_nx, thn_rt, thn_bk, thn_ct, fin_nx, fin_rt, of_some, ob_sm, iteR_t, iteR_f, iteS_t, iteS_f, andR_t, andR_f, orR_t, orR_f, truR_b, intR_i, putS_s, putS'_s, setS_s, List.set_cons_succ, List.set_cons_zero, ty_non_int, ty_non_bool, ty_non_str, ty_non_tup, ty_non_lst, ty_non_dct, ty_bl_int, ty_bl_bool, ty_bl_str, ty_bl_tup, ty_bl_lst, ty_bl_dct, ty_int_int, ty_int_bool, ty_int_str, ty_int_tup, ty_int_lst, ty_int_dct, ty_str_int, ty_str_bool, ty_str_str, ty_str_tup, ty_str_lst, ty_str_dct, ty_tup_int, ty_tup_bool, ty_tup_str, ty_tup_tup, ty_tup_lst, ty_tup_dct, tru_non, tru_bl, tru_int, tru_tup, lt_int, le_int, gt_int, ge_int, eq_d, ne_d, is_d, isn_d, inn_d, nin_d, isNon_n, isNon_i, isNon_t, isNon_s, isNon_r, isNon_b, eq_int, eq_str, eq_bl, add_int, sub_int, neg_int, len_tup, bi_int_i, bi_int_b, bi_min, bi_max, rngW_i, seqW_t, newO_d, Bool.not_true, Bool.not_false, decide_true, decide_false, Bool.true_and, Bool.and_true, Bool.false_and, Bool.and_false, Bool.true_or, Bool.or_true, Bool.false_or, Bool.or_false, List.length_cons, List.length_nil, Nat.zero_add, Nat.reduceAdd, Nat.reduceLeDiff, SZ, ↓reduceIte, v_fld, t_fld, v_fnv, v_calll, t_calll, v_repr, v_dct0, s_raise0, s_raise1, s_tryk, thn_ex, thn_exS, fin_ex, truR_ex, keep_nx, keep_rt, eq_non_non, eq_non_int, eq_int_non, eq_str_non, eq_non_str, eq_int_str, eq_str_int]⟩
                  simp (implicitDefEqProofs := false) only [ss_cons, ss_nil, s_asg, s_asgc, s_ex, s_ret, s_pass, s_iff, s_forr, s_setix, s_asgs, v_non, v_bl, v_int, v_str, v_var, v_glob, v_bin, v_neg, v_not, v_and, v_or, v_cmp, v_chn, v_ife, v_tup, v_lst, v_ix, v_sl, v_call, v_bi, v_bm, v_isi, v_lrng1, v_lrng2, v_comp, t_bl, t_int, t_var, t_glob, t_not, t_and, t_or, t_cmp, t_chn, t_call, t_bi, t_isi, t_ix, es_nil, es_cons, eo_none, eo_some, ec_none, ec_some, ei_seq, ei_rng1, ei_rng2, ei_enum, ei_zip, var0, varS, tg_nm, tg_tup, tgs_nil, tgs_cons, seq_tup, Option.bind_some, wipe_nil, wipe_cons, bind_ok', bind_ex', thn_ok, thn_nx, thn_rt, thn_bk, thn_ct, fin_nx, fin_rt, of_some, ob_sm, iteR_t, iteR_f, iteS_t, iteS_f, andR_t, andR_f, orR_t, orR_f, truR_b, intR_i, putS_s, putS'_s, setS_s, List.set_cons_succ, List.set_cons_zero, ty_non_int, ty_non_bool, ty_non_str, ty_non_tup, ty_non_lst, ty_non_dct, ty_bl_int, ty_bl_bool, ty_bl_str, ty_bl_tup, ty_bl_lst, ty_bl_dct, ty_int_int, ty_int_bool, ty_int_str, ty_int_tup, ty_int_lst, ty_int_dct, ty_str_int, ty_str_bool, ty_str_str, ty_str_tup, ty_str_lst, ty_str_dct, ty_tup_int, ty_tup_bool, ty_tup_str, ty_tup_tup, ty_tup_lst, ty_tup_dct, tru_non, tru_bl, tru_int, tru_tup, lt_int, le_int, gt_int, ge_int, eq_d, ne_d, is_d, isn_d, inn_d, nin_d, isNon_n, isNon_i, isNon_t, isNon_s, isNon_r, isNon_b, eq_int, eq_str, eq_bl, add_int, sub_int, neg_int, len_tup, bi_int_i, bi_int_b, bi_min, bi_max, rngW_i, seqW_t, newO_d, Bool.not_true, Bool.not_false, decide_true, decide_false, Bool.true_and, Bool.and_true, Bool.false_and, Bool.and_false, Bool.true_or, Bool.or_true, Bool.false_or, Bool.or_false, List.length_cons, List.length_nil, Nat.zero_add, Nat.reduceAdd, Nat.reduceLeDiff, SZ, ↓reduceIte, v_fld, t_fld, v_fnv, v_calll, t_calll, v_repr, v_dct0, s_raise0, s_raise1, s_tryk, thn_ex, thn_exS, fin_ex, truR_ex, keep_nx, keep_rt, eq_non_non, eq_non_int, eq_int_non, eq_str_non, eq_non_str, eq_int_str, eq_str_int] at cq
                  obtain ⟨b1, hb1⟩ : ∃ z : Hh, h ++ [.lst ((bad3 a b d).map .int) false] ++ [.lst [] false] = z := ⟨_, rfl⟩
                  have en : eqD b1 (.ref h.length) (.ref (h.length + 1)) = some (decide (bad3 a b d = [])) := by
                    rw [← hb1]
                    exact eq_nil (f := false) (g := false) (by simp) (by simp)
                  have l0 : (h ++ [O.lst ((bad3 a b d).map .int) false]).length = h.length + 1 := by simp
                  cases qz : decide (bad3 a b d = []) with
                  | false =>
                    rw [qz] at en
                    refine ⟨[.lst ((bad3 a b d).map .int) false] ++ [.lst [] false], ?_⟩
                    rw [← List.append_assoc, hb1]
                    simp (implicitDefEqProofs := false) only [ss_cons, ss_nil, s_asg, s_asgc, s_ex, s_ret, s_pass, s_iff, s_forr, s_setix, s_asgs, v_non, v_bl, v_int, v_str, v_var, v_glob, v_bin, v_neg, v_not, v_and, v_or, v_cmp, v_chn, v_ife, v_tup, v_lst, v_ix, v_sl, v_call, v_bi, v_bm, v_isi, v_lrng1, v_lrng2, v_comp, t_bl, t_int, t_var, t_glob, t_not, t_and, t_or, t_cmp, t_chn, t_call, t_bi, t_isi, t_ix, es_nil, es_cons, eo_none, eo_some, ec_none, ec_some, ei_seq, ei_rng1, ei_rng2, ei_enum, ei_zip, var0, varS, tg_nm, tg_tup, tgs_nil, tgs_cons, seq_tup, Option.bind_some, wipe_nil, wipe_cons, bind_ok', bind_ex', thn_ok, thn_nx, thn_rt, thn_bk, thn_ct, fin_nx, fin_rt, of_some, ob_sm, iteR_t, iteR_f, iteS_t, iteS_f, andR_t, andR_f, orR_t, orR_f, truR_b, intR_i, putS_s, putS'_s, setS_s, List.set_cons_succ, List.set_cons_zero, ty_non_int, ty_non_bool, ty_non_str, ty_non_tup, ty_non_lst, ty_non_dct, ty_bl_int, ty_bl_bool, ty_bl_str, ty_bl_tup, ty_bl_lst, ty_bl_dct, ty_int_int, ty_int_bool, ty_int_str, ty_int_tup, ty_int_lst, ty_int_dct, ty_str_int, ty_str_bool, ty_str_str, ty_str_tup, ty_str_lst, ty_str_dct, ty_tup_int, ty_tup_bool, ty_tup_str, ty_tup_tup, ty_tup_lst, ty_tup_dct, tru_non, tru_bl, tru_int, tru_tup, lt_int, le_int, gt_int, ge_int, eq_d, ne_d, is_d, isn_d, inn_d, nin_d, isNon_n, isNon_i, isNon_t, isNon_s, isNon_r, isNon_b, eq_int, eq_str, eq_bl, add_int, sub_int, neg_int, len_tup, bi_int_i, bi_int_b, bi_min, bi_max, rngW_i, seqW_t, newO_d, Bool.not_true, Bool.not_false, decide_true, decide_false, Bool.true_and, Bool.and_true, Bool.false_and, Bool.and_false, Bool.true_or, Bool.or_true, Bool.false_or, Bool.or_false, List.length_cons, List.length_nil, Nat.zero_add, Nat.reduceAdd, Nat.reduceLeDiff, SZ, ↓reduceIte, v_fld, t_fld, v_fnv, v_calll, t_calll, v_repr, v_dct0, s_raise0, s_raise1, s_tryk, thn_ex, thn_exS, fin_ex, truR_ex, keep_nx, keep_rt, eq_non_non, eq_non_int, eq_int_non, eq_str_non, eq_non_str, eq_int_str, eq_str_int, d11, tl, ll, n0, ix, n5, i4, i2, is_bl, is_non, isB, isNon, cq, l0, hb1, en, Nat.zero_le]
                  | true =>
                    rw [qz] at en
                    have gb : b1[n]? = some (.lst (.tup [a, b, .non, d, .bl false] :: xs) f) := by rw [← hb1]; exact get_app (get_app g)
                    have dn : dct1R b1.length (.int 0) (.int 0) (b1 ++ [O.dct [] false]) = .ok (.ref b1.length) (b1 ++ [O.dct [(.int 0, .int 0)] false]) := by
                      rw [dct1_at (by simp) rfl]
                      congr 1
                      rw [List.set_append_right _ _ (Nat.le_refl _)]
                      simp
                    have sl := sl_lst (lo := some 1) (hi := none) (get_app (e := [O.dct [(.int 0, .int 0)] false]) gb)
                    rw [cut_from1, List.drop_one, List.tail_cons] at sl
                    have l1 : (b1 ++ [O.dct [(.int 0, .int 0)] false]).length = b1.length + 1 := by simp
                    have sw : seqW (.ref (b1.length + 1)) (b1 ++ [O.dct [(.int 0, .int 0)] false] ++ [O.lst xs false]) = .ok ⟨xs, [(b1.length + 1, .lst xs false)]⟩ _ := seqW_l (by simp)
                    have he1 : ∀ e, ∃ e', b1 ++ e = h ++ e' := fun e => ⟨_, by rw [← hb1, List.append_assoc, List.append_assoc]⟩
                    have ob1 : ∀ {y : D}, okP h y → okP b1 y := fun o => by rw [← hb1]; exact o.app.app
                    simp (implicitDefEqProofs := false) only [ss_cons, ss_nil, s_asg, s_asgc, s_ex, s_ret, s_pass, s_iff, s_forr, s_setix, s_asgs, v_non, v_bl, v_int, v_str, v_var, v_glob, v_bin, v_neg, v_not, v_and, v_or, v_cmp, v_chn, v_ife, v_tup, v_lst, v_ix, v_sl, v_call, v_bi, v_bm, v_isi, v_lrng1, v_lrng2, v_comp, t_bl, t_int, t_var, t_glob, t_not, t_and, t_or, t_cmp, t_chn, t_call, t_bi, t_isi, t_ix, es_nil, es_cons, eo_none, eo_some, ec_none, ec_some, ei_seq, ei_rng1, ei_rng2, ei_enum, ei_zip, var0, varS, tg_nm, tg_tup, tgs_nil, tgs_cons, seq_tup, Option.bind_some, wipe_nil, wipe_cons, bind_ok', bind_ex', thn_ok, thn_nx, thn_rt, thn_bk, thn_ct, fin_nx, fin_rt, of_some, ob_sm, iteR_t, iteR_f, iteS_t, iteS_f, andR_t, andR_f, orR_t, orR_f, truR_b, intR_i, putS_s, putS'_s, setS_s, List.set_cons_succ, List.set_cons_zero, ty_non_int, ty_non_bool, ty_non_str, ty_non_tup, ty_non_lst, ty_non_dct, ty_bl_int, ty_bl_bool, ty_bl_str, ty_bl_tup, ty_bl_lst, ty_bl_dct, ty_int_int, ty_int_bool, ty_int_str, ty_int_tup, ty_int_lst, ty_int_dct, ty_str_int, ty_str_bool, ty_str_str, ty_str_tup, ty_str_lst, ty_str_dct, ty_tup_int, ty_tup_bool, ty_tup_str, ty_tup_tup, ty_tup_lst, ty_tup_dct, tru_non, tru_bl, tru_int, tru_tup, lt_int, le_int, gt_int, ge_int, eq_d, ne_d, is_d, isn_d, inn_d, nin_d, isNon_n, isNon_i, isNon_t, isNon_s, isNon_r, isNon_b, eq_int, eq_str, eq_bl, add_int, sub_int, neg_int, len_tup, bi_int_i, bi_int_b, bi_min, bi_max, rngW_i, seqW_t, newO_d, Bool.not_true, Bool.not_false, decide_true, decide_false, Bool.true_and, Bool.and_true, Bool.false_and, Bool.and_false, Bool.true_or, Bool.or_true, Bool.false_or, Bool.or_false, List.length_cons, List.length_nil, Nat.zero_add, Nat.reduceAdd, Nat.reduceLeDiff, SZ, ↓reduceIte, v_fld, t_fld, v_fnv, v_calll, t_calll, v_repr, v_dct0, s_raise0, s_raise1, s_tryk, thn_ex, thn_exS, fin_ex, truR_ex, keep_nx, keep_rt, eq_non_non, eq_non_int, eq_int_non, eq_str_non, eq_non_str, eq_int_str, eq_str_int, d11, tl, ll, n0, ix, n5, i4, i2, is_bl, is_non, isB, isNon, cq, l0, hb1, en, Nat.zero_le, v_dct1, dn, sl, l1, sw]
                    refine forL_x (Q := fun r => ∃ e, r.fin = R.ok (.bl (walk m [(0, 0)] xs)) (h ++ e)) (fun rest σ h' => ∃ fk r3, h' = b1 ++ [.dct (F2 fk) false] ++ [.lst xs false] ∧ σ = [some (.int m), some (.ref n), some (.tup [a, b, .non, d, .bl false]), none, some (.ref b1.length), r3] ∧ walk m [(0, 0)] xs = walk m fk rest ∧ (∀ y ∈ rest, y ∈ xs) ∧ fk.length + rest.length ≤ 5000) (fun rest σ h' ⟨fk, r3, e1, _⟩ => ?_)
                      (fun y rest σ h' ⟨fk, r3, e1, e2, e3, e4, e5⟩ => ?_) (fun σ h' ⟨fk, r3, e1, e2, e3, e4, e5⟩ => ?_) ⟨[(0, 0)], none, rfl, rfl, rfl, fun _ hy => hy, by simp at hlen ⊢; omega⟩
                    · subst e1
                      exact ok_one (by simp)
                    · subst e1 e2
                      have gd : (b1 ++ [O.dct (F2 fk) false] ++ [O.lst xs false])[b1.length]? = some (.dct (F2 fk) false) := by simp
                      obtain ⟨_, dy⟩ := dxs.mem y (e4 y (by simp))
                      have oy : okP (b1 ++ [O.dct (F2 fk) false] ++ [O.lst xs false]) y := (ob1 dy.okP).app.app
                      have tq := own_line k y m fk b1.length _ gd oy m1
                      rw [walk] at e3
                      cases qt : tell m fk y with
                      | none =>
                        rw [qt] at e3 tq
                        simp only at e3
                        right; left
                        obtain ⟨e', q'⟩ := he1 ([.dct (F2 fk) false] ++ [.lst xs false])
                        refine ⟨.bl false, b1 ++ [O.dct (F2 fk) false] ++ [O.lst xs false], ?_, e', by rw [e3, ← q']; simp⟩
                        simp (implicitDefEqProofs := false) only [ss_cons, ss_nil, s_asg, s_asgc, s_ex, s_ret, s_pass, s_iff, s_forr, s_setix, s_asgs, v_non, v_bl, v_int, v_str, v_var, v_glob, v_bin, v_neg, v_not, v_and, v_or, v_cmp, v_chn, v_ife, v_tup, v_lst, v_ix, v_sl, v_call, v_bi, v_bm, v_isi, v_lrng1, v_lrng2, v_comp, t_bl, t_int, t_var, t_glob, t_not, t_and, t_or, t_cmp, t_chn, t_call, t_bi, t_isi, t_ix, es_nil, es_cons, eo_none, eo_some, ec_none, ec_some, ei_seq, ei_rng1, ei_rng2, ei_enum, ei_zip, var0, varS, tg_nm, tg_tup, tgs_nil, tgs_cons, seq_tup, Option.bind_some, wipe_nil, wipe_cons, bind_ok', bind_ex', thn_ok, thn_nx, thn_rt, thn_bk, thn_ct, fin_nx, fin_rt, of_some, ob_sm, iteR_t, iteR_f, iteS_t, iteS_f, andR_t, andR_f, orR_t, orR_f, truR_b, intR_i, putS_s, putS'_s, setS_s, List.set_cons_succ, List.set_cons_zero, ty_non_int, ty_non_bool, ty_non_str, ty_non_tup, ty_non_lst, ty_non_dct, ty_bl_int, ty_bl_bool, ty_bl_str, ty_bl_tup, ty_bl_lst, ty_bl_dct, ty_int_int, ty_int_bool, ty_int_str, ty_int_tup, ty_int_lst, ty_int_dct, ty_str_int, ty_str_bool, ty_str_str, ty_str_tup, ty_str_lst, ty_str_dct, ty_tup_int, ty_tup_bool, ty_tup_str, ty_tup_tup, ty_tup_lst, ty_tup_dct, tru_non, tru_bl, tru_int, tru_tup, lt_int, le_int, gt_int, ge_int, eq_d, ne_d, is_d, isn_d, inn_d, nin_d, isNon_n, isNon_i, isNon_t, isNon_s, isNon_r, isNon_b, eq_int, eq_str, eq_bl, add_int, sub_int, neg_int, len_tup, bi_int_i, bi_int_b, bi_min, bi_max, rngW_i, seqW_t, newO_d, Bool.not_true, Bool.not_false, decide_true, decide_false, Bool.true_and, Bool.and_true, Bool.false_and, Bool.and_false, Bool.true_or, Bool.or_true, Bool.false_or, Bool.or_false, List.length_cons, List.length_nil, Nat.zero_add, Nat.reduceAdd, Nat.reduceLeDiff, SZ, ↓reduceIte, v_fld, t_fld, v_fnv, v_calll, t_calll, v_repr, v_dct0, s_raise0, s_raise1, s_tryk, thn_ex, thn_exS, fin_ex, truR_ex, keep_nx, keep_rt, eq_non_non, eq_non_int, eq_int_non, eq_str_non, eq_non_str, eq_int_str, eq_str_int, b11_0, tq, Option.isSome_none]
                      | some p =>
                        rw [qt] at e3 tq
                        simp only at e3
                        left
                        obtain ⟨b', c', z, rfl, lo⟩ := tell_some qt
                        have se : setIx (.ref b1.length) (.int p.1) (.int p.2) (b1 ++ [O.dct (F2 fk) false] ++ [O.lst xs false]) = some (b1 ++ [O.dct (F2 (fk ++ [p])) false] ++ [O.lst xs false]) := by
                          rw [set_dct gd rfl (by simp [F2, SZ]; simp at e5; omega), put2 fk _ _ lo, set1]
                        refine ⟨[some (.int m), some (.ref n), some (.tup [a, b, .non, d, .bl false]), none, some (.ref b1.length), some (.tup [.int p.1, b', c', .int p.2, .bl z])], _, .inl ?_, fk ++ [p], _, rfl, rfl, e3, fun y hy => e4 y (by simp [hy]), by simp at e5 ⊢; omega⟩
                        simp (implicitDefEqProofs := false) only [ss_cons, ss_nil, s_asg, s_asgc, s_ex, s_ret, s_pass, s_iff, s_forr, s_setix, s_asgs, v_non, v_bl, v_int, v_str, v_var, v_glob, v_bin, v_neg, v_not, v_and, v_or, v_cmp, v_chn, v_ife, v_tup, v_lst, v_ix, v_sl, v_call, v_bi, v_bm, v_isi, v_lrng1, v_lrng2, v_comp, t_bl, t_int, t_var, t_glob, t_not, t_and, t_or, t_cmp, t_chn, t_call, t_bi, t_isi, t_ix, es_nil, es_cons, eo_none, eo_some, ec_none, ec_some, ei_seq, ei_rng1, ei_rng2, ei_enum, ei_zip, var0, varS, tg_nm, tg_tup, tgs_nil, tgs_cons, seq_tup, Option.bind_some, wipe_nil, wipe_cons, bind_ok', bind_ex', thn_ok, thn_nx, thn_rt, thn_bk, thn_ct, fin_nx, fin_rt, of_some, ob_sm, iteR_t, iteR_f, iteS_t, iteS_f, andR_t, andR_f, orR_t, orR_f, truR_b, intR_i, putS_s, putS'_s, setS_s, List.set_cons_succ, List.set_cons_zero, ty_non_int, ty_non_bool, ty_non_str, ty_non_tup, ty_non_lst, ty_non_dct, ty_bl_int, ty_bl_bool, ty_bl_str, ty_bl_tup, ty_bl_lst, ty_bl_dct, ty_int_int, ty_int_bool, ty_int_str, ty_int_tup, ty_int_lst, ty_int_dct, ty_str_int, ty_str_bool, ty_str_str, ty_str_tup, ty_str_lst, ty_str_dct, ty_tup_int, ty_tup_bool, ty_tup_str, ty_tup_tup, ty_tup_lst, ty_tup_dct, tru_non, tru_bl, tru_int, tru_tup, lt_int, le_int, gt_int, ge_int, eq_d, ne_d, is_d, isn_d, inn_d, nin_d, isNon_n, isNon_i, isNon_t, isNon_s, isNon_r, isNon_b, eq_int, eq_str, eq_bl, add_int, sub_int, neg_int, len_tup, bi_int_i, bi_int_b, bi_min, bi_max, rngW_i, seqW_t, newO_d, Bool.not_true, Bool.not_false, decide_true, decide_false, Bool.true_and, Bool.and_true, Bool.false_and, Bool.and_false, Bool.true_or, Bool.or_true, Bool.false_or, Bool.or_false, List.length_cons, List.length_nil, Nat.zero_add, Nat.reduceAdd, Nat.reduceLeDiff, SZ, ↓reduceIte, v_fld, t_fld, v_fnv, v_calll, t_calll, v_repr, v_dct0, s_raise0, s_raise1, s_tryk, thn_ex, thn_exS, fin_ex, truR_ex, keep_nx, keep_rt, eq_non_non, eq_non_int, eq_int_non, eq_str_non, eq_non_str, eq_int_str, eq_str_int, b11_0, tq, Option.isSome_some, i0, i3, se]
                    · subst e1 e2
                      rw [e3]
                      obtain ⟨e', q'⟩ := he1 ([.dct (F2 fk) false] ++ [.lst xs false])
                      exact ⟨e', by rw [← q']; simp (implicitDefEqProofs := false) only [ss_cons, ss_nil, s_asg, s_asgc, s_ex, s_ret, s_pass, s_iff, s_forr, s_setix, s_asgs, v_non, v_bl, v_int, v_str, v_var, v_glob, v_bin, v_neg, v_not, v_and, v_or, v_cmp, v_chn, v_ife, v_tup, v_lst, v_ix, v_sl, v_call, v_bi, v_bm, v_isi, v_lrng1, v_lrng2, v_comp, t_bl, t_int, t_var, t_glob, t_not, t_and, t_or, t_cmp, t_chn, t_call, t_bi, t_isi, t_ix, es_nil, es_cons, eo_none, eo_some, ec_none, ec_some, ei_seq, ei_rng1, ei_rng2, ei_enum, ei_zip, var0, varS, tg_nm, tg_tup, tgs_nil, tgs_cons, seq_tup, Option.bind_some, wipe_nil, wipe_cons, bind_ok', bind_ex', thn_ok, thn_nx, thn_rt, thn_bk, thn_ct, fin_nx, fin_rt, of_some, ob_sm, iteR_t, iteR_f, iteS_t, iteS_f, andR_t, andR_f, orR_t, orR_f, truR_b, intR_i, putS_s, putS'_s, setS_s, List.set_cons_succ, List.set_cons_zero, ty_non_int, ty_non_bool, ty_non_str, ty_non_tup, ty_non_lst, ty_non_dct, ty_bl_int, ty_bl_bool, ty_bl_str, ty_bl_tup, ty_bl_lst, ty_bl_dct, ty_int_int, ty_int_bool, ty_int_str, ty_int_tup, ty_int_lst, ty_int_dct, ty_str_int, ty_str_bool, ty_str_str, ty_str_tup, ty_str_lst, ty_str_dct, ty_tup_int, ty_tup_bool, ty_tup_str, ty_tup_tup, ty_tup_lst, ty_tup_dct, tru_non, tru_bl, tru_int, tru_tup, lt_int, le_int, gt_int, ge_int, eq_d, ne_d, is_d, isn_d, inn_d, nin_d, isNon_n, isNon_i, isNon_t, isNon_s, isNon_r, isNon_b, eq_int, eq_str, eq_bl, add_int, sub_int, neg_int, len_tup, bi_int_i, bi_int_b, bi_min, bi_max, rngW_i, seqW_t, newO_d, Bool.not_true, Bool.not_false, decide_true, decide_false, Bool.true_and, Bool.and_true, Bool.false_and, Bool.and_false, Bool.true_or, Bool.or_true, Bool.false_or, Bool.or_false, List.length_cons, List.length_nil, Nat.zero_add, Nat.reduceAdd, Nat.reduceLeDiff, SZ, ↓reduceIte, v_fld, t_fld, v_fnv, v_calll, t_calll, v_repr, v_dct0, s_raise0, s_raise1, s_tryk, thn_ex, thn_exS, fin_ex, truR_ex, keep_nx, keep_rt, eq_non_non, eq_non_int, eq_int_non, eq_str_non, eq_non_str, eq_int_str, eq_str_int, walk]; simp⟩
                · have zf : zeroB (.tup [a, b, c, d, .bl false]) = false := by
                    rw [zero_of, show isNon c = false by cases c <;> first | rfl | exact absurd rfl hc]; rfl
                  have nc : isNon c = false := by cases c <;> first | rfl | exact absurd rfl hc
                  rw [zf]
                  refine ⟨[], ?_⟩
                  simp (implicitDefEqProofs := false) only [ss_cons, ss_nil, s_asg, s_asgc, s_ex, s_ret, s_pass, s_iff, s_forr, s_setix, s_asgs, v_non, v_bl, v_int, v_str, v_var, v_glob, v_bin, v_neg, v_not, v_and, v_or, v_cmp, v_chn, v_ife, v_tup, v_lst, v_ix, v_sl, v_call, v_bi, v_bm, v_isi, v_lrng1, v_lrng2, v_comp, t_bl, t_int, t_var, t_glob, t_not, t_and, t_or, t_cmp, t_chn, t_call, t_bi, t_isi, t_ix, es_nil, es_cons, eo_none, eo_some, ec_none, ec_some, ei_seq, ei_rng1, ei_rng2, ei_enum, ei_zip, var0, varS, tg_nm, tg_tup, tgs_nil, tgs_cons, seq_tup, Option.bind_some, wipe_nil, wipe_cons, bind_ok', bind_ex', thn_ok, thn_nx, thn_rt, thn_bk, thn_ct, fin_nx, fin_rt, of_some, ob_sm, iteR_t, iteR_f, iteS_t, iteS_f, andR_t, andR_f, orR_t, orR_f, truR_b, intR_i, putS_s, putS'_s, setS_s, List.set_cons_succ, List.set_cons_zero, ty_non_int, ty_non_bool, ty_non_str, ty_non_tup, ty_non_lst, ty_non_dct, ty_bl_int, ty_bl_bool, ty_bl_str, ty_bl_tup, ty_bl_lst, ty_bl_dct, ty_int_int, ty_int_bool, ty_int_str, ty_int_tup, ty_int_lst, ty_int_dct, ty_str_int, ty_str_bool, ty_str_str, ty_str_tup, ty_str_lst, ty_str_dct, ty_tup_int, ty_tup_bool, ty_tup_str, ty_tup_tup, ty_tup_lst, ty_tup_dct, tru_non, tru_bl, tru_int, tru_tup, lt_int, le_int, gt_int, ge_int, eq_d, ne_d, is_d, isn_d, inn_d, nin_d, isNon_n, isNon_i, isNon_t, isNon_s, isNon_r, isNon_b, eq_int, eq_str, eq_bl, add_int, sub_int, neg_int, len_tup, bi_int_i, bi_int_b, bi_min, bi_max, rngW_i, seqW_t, newO_d, Bool.not_true, Bool.not_false, decide_true, decide_false, Bool.true_and, Bool.and_true, Bool.false_and, Bool.and_false, Bool.true_or, Bool.or_true, Bool.false_or, Bool.or_false, List.length_cons, List.length_nil, Nat.zero_add, Nat.reduceAdd, Nat.reduceLeDiff, SZ, ↓reduceIte, v_fld, t_fld, v_fnv, v_calll, t_calll, v_repr, v_dct0, s_raise0, s_raise1, s_tryk, thn_ex, thn_exS, fin_ex, truR_ex, keep_nx, keep_rt, eq_non_non, eq_non_int, eq_int_non, eq_str_non, eq_non_str, eq_int_str, eq_str_int, d11, tl, ll, n0, ix, n5, i4, i2, is_bl, is_non, isB, nc, List.append_nil]
              · have zf : zeroB (.tup [a, b, c, d, e]) = false := by
                  by_cases hz : ∃ z, e = .bl z
                  · obtain ⟨z, rfl⟩ := hz
                    cases z with
                    | false => exact absurd rfl he
                    | true => rw [zero_of]; simp
                  · unfold zeroB
                    split
                    · rename_i e0
                      simp only [D.tup.injEq, List.cons.injEq] at e0
                      exact absurd ⟨_, e0.2.2.2.2.1⟩ hz
                    · rfl
                have nb : isB false e = false := by
                  cases e with
                  | bl z => cases z with
                    | false => exact absurd rfl he
                    | true => rfl
                  | _ => rfl
                rw [zf]
                refine ⟨[], ?_⟩
                simp (implicitDefEqProofs := false) only [ss_cons, ss_nil, s_asg, s_asgc, s_ex, s_ret, s_pass, s_iff, s_forr, s_setix, s_asgs, v_non, v_bl, v_int, v_str, v_var, v_glob, v_bin, v_neg, v_not, v_and, v_or, v_cmp, v_chn, v_ife, v_tup, v_lst, v_ix, v_sl, v_call, v_bi, v_bm, v_isi, v_lrng1, v_lrng2, v_comp, t_bl, t_int, t_var, t_glob, t_not, t_and, t_or, t_cmp, t_chn, t_call, t_bi, t_isi, t_ix, es_nil, es_cons, eo_none, eo_some, ec_none, ec_some, ei_seq, ei_rng1, ei_rng2, ei_enum, ei_zip, var0, varS, tg_nm, tg_tup, tgs_nil, tgs_cons, seq_tup, Option.bind_some, wipe_nil, wipe_cons, bind_ok', bind_ex', thn_ok, thn_nx, thn_rt, thn_bk, thn_ct, fin_nx, fin_rt, of_some, ob_sm, iteR_t, iteR_f, iteS_t, iteS_f, andR_t, andR_f, orR_t, orR_f, truR_b, intR_i, putS_s, putS'_s, setS_s, List.set_cons_succ, List.set_cons_zero, ty_non_int, ty_non_bool, ty_non_str, ty_non_tup, ty_non_lst, ty_non_dct, ty_bl_int, ty_bl_bool, ty_bl_str, ty_bl_tup, ty_bl_lst, ty_bl_dct, ty_int_int, ty_int_bool, ty_int_str, ty_int_tup, ty_int_lst, ty_int_dct, ty_str_int, ty_str_bool, ty_str_str, ty_str_tup, ty_str_lst, ty_str_dct, ty_tup_int, ty_tup_bool, ty_tup_str, ty_tup_tup, ty_tup_lst, ty_tup_dct, tru_non, tru_bl, tru_int, tru_tup, lt_int, le_int, gt_int, ge_int, eq_d, ne_d, is_d, isn_d, inn_d, nin_d, isNon_n, isNon_i, isNon_t, isNon_s, isNon_r, isNon_b, eq_int, eq_str, eq_bl, add_int, sub_int, neg_int, len_tup, bi_int_i, bi_int_b, bi_min, bi_max, rngW_i, seqW_t, newO_d, Bool.not_true, Bool.not_false, decide_true, decide_false, Bool.true_and, Bool.and_true, Bool.false_and, Bool.and_false, Bool.true_or, Bool.or_true, Bool.false_or, Bool.or_false, List.length_cons, List.length_nil, Nat.zero_add, Nat.reduceAdd, Nat.reduceLeDiff, SZ, ↓reduceIte, v_fld, t_fld, v_fnv, v_calll, t_calll, v_repr, v_dct0, s_raise0, s_raise1, s_tryk, thn_ex, thn_exS, fin_ex, truR_ex, keep_nx, keep_rt, eq_non_non, eq_non_int, eq_int_non, eq_str_non, eq_non_str, eq_int_str, eq_str_int, d11, tl, ll, n0, ix, n5, i4, is_bl, nb, List.append_nil]
            · have ln : decide (((ys.length : Nat) : Int) = 5) = false := decide_eq_false (by omega)
              have tn : zeroB (.tup ys) = false := by
                unfold zeroB
                split
                · rename_i e0
                  cases e0
                  simp at l5
                · rfl
              rw [tn]
              refine ⟨[], ?_⟩
              simp (implicitDefEqProofs := false) only [ss_cons, ss_nil, s_asg, s_asgc, s_ex, s_ret, s_pass, s_iff, s_forr, s_setix, s_asgs, v_non, v_bl, v_int, v_str, v_var, v_glob, v_bin, v_neg, v_not, v_and, v_or, v_cmp, v_chn, v_ife, v_tup, v_lst, v_ix, v_sl, v_call, v_bi, v_bm, v_isi, v_lrng1, v_lrng2, v_comp, t_bl, t_int, t_var, t_glob, t_not, t_and, t_or, t_cmp, t_chn, t_call, t_bi, t_isi, t_ix, es_nil, es_cons, eo_none, eo_some, ec_none, ec_some, ei_seq, ei_rng1, ei_rng2, ei_enum, ei_zip, var0, varS, tg_nm, tg_tup, tgs_nil, tgs_cons, seq_tup, Option.bind_some, wipe_nil, wipe_cons, bind_ok', bind_ex', thn_ok, thn_nx, thn_rt, thn_bk, thn_ct, fin_nx, fin_rt, of_some, ob_sm, iteR_t, iteR_f, iteS_t, iteS_f, andR_t, andR_f, orR_t, orR_f, truR_b, intR_i, putS_s, putS'_s, setS_s, List.set_cons_succ, List.set_cons_zero, ty_non_int, ty_non_bool, ty_non_str, ty_non_tup, ty_non_lst, ty_non_dct, ty_bl_int, ty_bl_bool, ty_bl_str, ty_bl_tup, ty_bl_lst, ty_bl_dct, ty_int_int, ty_int_bool, ty_int_str, ty_int_tup, ty_int_lst, ty_int_dct, ty_str_int, ty_str_bool, ty_str_str, ty_str_tup, ty_str_lst, ty_str_dct, ty_tup_int, ty_tup_bool, ty_tup_str, ty_tup_tup, ty_tup_lst, ty_tup_dct, tru_non, tru_bl, tru_int, tru_tup, lt_int, le_int, gt_int, ge_int, eq_d, ne_d, is_d, isn_d, inn_d, nin_d, isNon_n, isNon_i, isNon_t, isNon_s, isNon_r, isNon_b, eq_int, eq_str, eq_bl, add_int, sub_int, neg_int, len_tup, bi_int_i, bi_int_b, bi_min, bi_max, rngW_i, seqW_t, newO_d, Bool.not_true, Bool.not_false, decide_true, decide_false, Bool.true_and, Bool.and_true, Bool.false_and, Bool.and_false, Bool.true_or, Bool.or_true, Bool.false_or, Bool.or_false, List.length_cons, List.length_nil, Nat.zero_add, Nat.reduceAdd, Nat.reduceLeDiff, SZ, ↓reduceIte, v_fld, t_fld, v_fnv, v_calll, t_calll, v_repr, v_dct0, s_raise0, s_raise1, s_tryk, thn_ex, thn_exS, fin_ex, truR_ex, keep_nx, keep_rt, eq_non_non, eq_non_int, eq_int_non, eq_str_non, eq_non_str, eq_int_str, eq_str_int, d11, tl, ll, n0, ix, ln, List.append_nil]
          · have ty := ty_tupv (T := T) ok.okv fun xs z => hx ⟨xs, z⟩
            have tn : zeroB x = false := by
              unfold zeroB
              split
              · exact absurd ⟨_, rfl⟩ hx
              · rfl
            rw [tn]
            refine ⟨[], ?_⟩
            simp (implicitDefEqProofs := false) only [ss_cons, ss_nil, s_asg, s_asgc, s_ex, s_ret, s_pass, s_iff, s_forr, s_setix, s_asgs, v_non, v_bl, v_int, v_str, v_var, v_glob, v_bin, v_neg, v_not, v_and, v_or, v_cmp, v_chn, v_ife, v_tup, v_lst, v_ix, v_sl, v_call, v_bi, v_bm, v_isi, v_lrng1, v_lrng2, v_comp, t_bl, t_int, t_var, t_glob, t_not, t_and, t_or, t_cmp, t_chn, t_call, t_bi, t_isi, t_ix, es_nil, es_cons, eo_none, eo_some, ec_none, ec_some, ei_seq, ei_rng1, ei_rng2, ei_enum, ei_zip, var0, varS, tg_nm, tg_tup, tgs_nil, tgs_cons, seq_tup, Option.bind_some, wipe_nil, wipe_cons, bind_ok', bind_ex', thn_ok, thn_nx, thn_rt, thn_bk, thn_ct, fin_nx, fin_rt, of_some, ob_sm, iteR_t, iteR_f, iteS_t, iteS_f, andR_t, andR_f, orR_t, orR_f, truR_b, intR_i, putS_s, putS'_s, setS_s, List.set_cons_succ, List.set_cons_zero, ty_non_int, ty_non_bool, ty_non_str, ty_non_tup, ty_non_lst, ty_non_dct, ty_bl_int, ty_bl_bool, ty_bl_str, ty_bl_tup, ty_bl_lst, ty_bl_dct, ty_int_int, ty_int_bool, ty_int_str, ty_int_tup, ty_int_lst, ty_int_dct, ty_str_int, ty_str_bool, ty_str_str, ty_str_tup, ty_str_lst, ty_str_dct, ty_tup_int, ty_tup_bool, ty_tup_str, ty_tup_tup, ty_tup_lst, ty_tup_dct, tru_non, tru_bl, tru_int, tru_tup, lt_int, le_int, gt_int, ge_int, eq_d, ne_d, is_d, isn_d, inn_d, nin_d, isNon_n, isNon_i, isNon_t, isNon_s, isNon_r, isNon_b, eq_int, eq_str, eq_bl, add_int, sub_int, neg_int, len_tup, bi_int_i, bi_int_b, bi_min, bi_max, rngW_i, seqW_t, newO_d, Bool.not_true, Bool.not_false, decide_true, decide_false, Bool.true_and, Bool.and_true, Bool.false_and, Bool.and_false, Bool.true_or, Bool.or_true, Bool.false_or, Bool.or_false, List.length_cons, List.length_nil, Nat.zero_add, Nat.reduceAdd, Nat.reduceLeDiff, SZ, ↓reduceIte, v_fld, t_fld, v_fnv, v_calll, t_calll, v_repr, v_dct0, s_raise0, s_raise1, s_tryk, thn_ex, thn_exS, fin_ex, truR_ex, keep_nx, keep_rt, eq_non_non, eq_non_int, eq_int_non, eq_str_non, eq_non_str, eq_int_str, eq_str_int, d11, tl, ll, n0, ix, ty, List.append_nil]
  · have tl := ty_lst (Thg.okH t).okv fun n xs f e g => hv ⟨n, xs, f, e, g⟩
    have rv : rightV m h v = false := by
      unfold rightV
      split
      · split
        · rename_i g
          exact absurd ⟨_, _, _, rfl, g⟩ hv
        · rfl
      · rfl
    refine ⟨[], ?_⟩
    rw [rv]
    simp (implicitDefEqProofs := false) only [ss_cons, ss_nil, s_asg, s_asgc, s_ex, s_ret, s_pass, s_iff, s_forr, s_setix, s_asgs, v_non, v_bl, v_int, v_str, v_var, v_glob, v_bin, v_neg, v_not, v_and, v_or, v_cmp, v_chn, v_ife, v_tup, v_lst, v_ix, v_sl, v_call, v_bi, v_bm, v_isi, v_lrng1, v_lrng2, v_comp, t_bl, t_int, t_var, t_glob, t_not, t_and, t_or, t_cmp, t_chn, t_call, t_bi, t_isi, t_ix, es_nil, es_cons, eo_none, eo_some, ec_none, ec_some, ei_seq, ei_rng1, ei_rng2, ei_enum, ei_zip, var0, varS, tg_nm, tg_tup, tgs_nil, tgs_cons, seq_tup, Option.bind_some, wipe_nil, wipe_cons, bind_ok', bind_ex', thn_ok, thn_nx, thn_rt, thn_bk, thn_ct, fin_nx, fin_rt, of_some, ob_sm, iteR_t, iteR_f, iteS_t, iteS_f, andR_t, andR_f, orR_t, orR_f, truR_b, intR_i, putS_s, putS'_s, setS_s, List.set_cons_succ, List.set_cons_zero, ty_non_int, ty_non_bool, ty_non_str, ty_non_tup, ty_non_lst, ty_non_dct, ty_bl_int, ty_bl_bool, ty_bl_str, ty_bl_tup, ty_bl_lst, ty_bl_dct, ty_int_int, ty_int_bool, ty_int_str, ty_int_tup, ty_int_lst, ty_int_dct, ty_str_int, ty_str_bool, ty_str_str, ty_str_tup, ty_str_lst, ty_str_dct, ty_tup_int, ty_tup_bool, ty_tup_str, ty_tup_tup, ty_tup_lst, ty_tup_dct, tru_non, tru_bl, tru_int, tru_tup, lt_int, le_int, gt_int, ge_int, eq_d, ne_d, is_d, isn_d, inn_d, nin_d, isNon_n, isNon_i, isNon_t, isNon_s, isNon_r, isNon_b, eq_int, eq_str, eq_bl, add_int, sub_int, neg_int, len_tup, bi_int_i, bi_int_b, bi_min, bi_max, rngW_i, seqW_t, newO_d, Bool.not_true, Bool.not_false, decide_true, decide_false, Bool.true_and, Bool.and_true, Bool.false_and, Bool.and_false, Bool.true_or, Bool.or_true, Bool.false_or, Bool.or_false, List.length_cons, List.length_nil, Nat.zero_add, Nat.reduceAdd, Nat.reduceLeDiff, SZ, ↓reduceIte, v_fld, t_fld, v_fnv, v_calll, t_calll, v_repr, v_dct0, s_raise0, s_raise1, s_tryk, thn_ex, thn_exS, fin_ex, truR_ex, keep_nx, keep_rt, eq_non_non, eq_non_int, eq_int_non, eq_str_non, eq_non_str, eq_int_str, eq_str_int, d11, tl, List.append_nil]
end K42
namespace K42
open Py
theorem says (k : Nat) (m : Int) (v : D) (h : Hh) (A : Nat → Prop) (t : Thg A h v) (m1 : 1 ≤ m) (m2 : m ≤ 8) : ∃ e, run T P (k + 4) 5 [.int m, v] h = .ok (.bl true) (h ++ e) := by
  obtain ⟨s, hs⟩ := t.repr
  obtain ⟨e1, q1⟩ := right_lines k m v h A t m1 m2
  have t1 : Thg A (h ++ e1) v := t.later (Ag.refl.app e1)
  obtain ⟨e2, q2⟩ := own_right k m v (h ++ e1) A t1 m1 m2
  have rv : rightV m (h ++ e1) v = rightV m h v := by
    cases v with
    | ref n =>
      have : (h ++ e1)[n]? = h[n]? := by
        rcases (Thg.okH t).okv with ⟨o, g, _⟩
        rw [g]; exact get_app g
      simp only [rightV, this]
    | _ => rfl
  rw [rv] at q2
  have r1 := hs h Ag.refl
  have r2 := hs (h ++ e1 ++ e2) ((Ag.refl.app e1).app e2)
  refine ⟨e1 ++ e2, ?_⟩
  rw [u5, ← List.append_assoc]
  simp (implicitDefEqProofs := false) only [ss_cons, ss_nil, s_asg, s_asgc, s_ex, s_ret, s_pass, s_iff, s_forr, s_setix, s_asgs, v_non, v_bl, v_int, v_str, v_var, v_glob, v_bin, v_neg, v_not, v_and, v_or, v_cmp, v_chn, v_ife, v_tup, v_lst, v_ix, v_sl, v_call, v_bi, v_bm, v_isi, v_lrng1, v_lrng2, v_comp, t_bl, t_int, t_var, t_glob, t_not, t_and, t_or, t_cmp, t_chn, t_call, t_bi, t_isi, t_ix, es_nil, es_cons, eo_none, eo_some, ec_none, ec_some, ei_seq, ei_rng1, ei_rng2, ei_enum, ei_zip, var0, varS, tg_nm, tg_tup, tgs_nil, tgs_cons, seq_tup, Option.bind_some, wipe_nil, wipe_cons, bind_ok', bind_ex', thn_ok, thn_nx, thn_rt, thn_bk, thn_ct, fin_nx, fin_rt, of_some, ob_sm, iteR_t, iteR_f, iteS_t, iteS_f, andR_t, andR_f, orR_t, orR_f, truR_b, intR_i, putS_s, putS'_s, setS_s, List.set_cons_succ, List.set_cons_zero, ty_non_int, ty_non_bool, ty_non_str, ty_non_tup, ty_non_lst, ty_non_dct, ty_bl_int, ty_bl_bool, ty_bl_str, ty_bl_tup, ty_bl_lst, ty_bl_dct, ty_int_int, ty_int_bool, ty_int_str, ty_int_tup, ty_int_lst, ty_int_dct, ty_str_int, ty_str_bool, ty_str_str, ty_str_tup, ty_str_lst, ty_str_dct, ty_tup_int, ty_tup_bool, ty_tup_str, ty_tup_tup, ty_tup_lst, ty_tup_dct, tru_non, tru_bl, tru_int, tru_tup, lt_int, le_int, gt_int, ge_int, eq_d, ne_d, is_d, isn_d, inn_d, nin_d, isNon_n, isNon_i, isNon_t, isNon_s, isNon_r, isNon_b, eq_int, eq_str, eq_bl, add_int, sub_int, neg_int, len_tup, bi_int_i, bi_int_b, bi_min, bi_max, rngW_i, seqW_t, newO_d, Bool.not_true, Bool.not_false, decide_true, decide_false, Bool.true_and, Bool.and_true, Bool.false_and, Bool.and_false, Bool.true_or, Bool.or_true, Bool.false_or, Bool.or_false, List.length_cons, List.length_nil, Nat.zero_add, Nat.reduceAdd, Nat.reduceLeDiff, SZ, ↓reduceIte, v_fld, t_fld, v_fnv, v_calll, t_calll, v_repr, v_dct0, s_raise0, s_raise1, s_tryk, thn_ex, thn_exS, fin_ex, truR_ex, keep_nx, keep_rt, eq_non_non, eq_non_int, eq_int_non, eq_str_non, eq_non_str, eq_int_str, eq_str_int, d5, r1, q1, q2, r2, eq_bl, eq_str]
def noMany (v : D) : Prop := uptoB v 8 = false ∨ v = .int 0
theorem refused (k : Nat) (v w : D) (h : Hh) (ok : okv h v) (hv : noMany v) : run T P (k + 4) 7 [v, w] h = .ok (.bl true) (h ++ [.exc 1 [(0, .str [104, 111, 117, 115, 101, 115])]]) := by
  have lh : run T P (k + 2) 8 [.str [104, 111, 117, 115, 101, 115], v] h = .ex ⟨1, [(0, .str [104, 111, 117, 115, 101, 115])]⟩ h := by
    rw [u8]
    rcases hv with hv | rfl
    · have u := uptoV k v 8 h ok
      rw [hv] at u
      simp (implicitDefEqProofs := false) only [ss_cons, ss_nil, s_asg, s_asgc, s_ex, s_ret, s_pass, s_iff, s_forr, s_setix, s_asgs, v_non, v_bl, v_int, v_str, v_var, v_glob, v_bin, v_neg, v_not, v_and, v_or, v_cmp, v_chn, v_ife, v_tup, v_lst, v_ix, v_sl, v_call, v_bi, v_bm, v_isi, v_lrng1, v_lrng2, v_comp, t_bl, t_int, t_var, t_glob, t_not, t_and, t_or, t_cmp, t_chn, t_call, t_bi, t_isi, t_ix, es_nil, es_cons, eo_none, eo_some, ec_none, ec_some, ei_seq, ei_rng1, ei_rng2, ei_enum, ei_zip, var0, varS, tg_nm, tg_tup, tgs_nil, tgs_cons, seq_tup, Option.bind_some, wipe_nil, wipe_cons, bind_ok', bind_ex', thn_ok, thn_nx, thn_rt, thn_bk, thn_ct, fin_nx, fin_rt, of_some, ob_sm, iteR_t, iteR_f, iteS_t, iteS_f, andR_t, andR_f, orR_t, orR_f, truR_b, intR_i, putS_s, putS'_s, setS_s, List.set_cons_succ, List.set_cons_zero, ty_non_int, ty_non_bool, ty_non_str, ty_non_tup, ty_non_lst, ty_non_dct, ty_bl_int, ty_bl_bool, ty_bl_str, ty_bl_tup, ty_bl_lst, ty_bl_dct, ty_int_int, ty_int_bool, ty_int_str, ty_int_tup, ty_int_lst, ty_int_dct, ty_str_int, ty_str_bool, ty_str_str, ty_str_tup, ty_str_lst, ty_str_dct, ty_tup_int, ty_tup_bool, ty_tup_str, ty_tup_tup, ty_tup_lst, ty_tup_dct, tru_non, tru_bl, tru_int, tru_tup, lt_int, le_int, gt_int, ge_int, eq_d, ne_d, is_d, isn_d, inn_d, nin_d, isNon_n, isNon_i, isNon_t, isNon_s, isNon_r, isNon_b, eq_int, eq_str, eq_bl, add_int, sub_int, neg_int, len_tup, bi_int_i, bi_int_b, bi_min, bi_max, rngW_i, seqW_t, newO_d, Bool.not_true, Bool.not_false, decide_true, decide_false, Bool.true_and, Bool.and_true, Bool.false_and, Bool.and_false, Bool.true_or, Bool.or_true, Bool.false_or, Bool.or_false, List.length_cons, List.length_nil, Nat.zero_add, Nat.reduceAdd, Nat.reduceLeDiff, SZ, ↓reduceIte, v_fld, t_fld, v_fnv, v_calll, t_calll, v_repr, v_dct0, s_raise0, s_raise1, s_tryk, thn_ex, thn_exS, fin_ex, truR_ex, keep_nx, keep_rt, eq_non_non, eq_non_int, eq_int_non, eq_str_non, eq_non_str, eq_int_str, eq_str_int, d8, u, gT0]
    · have u := uptoV k (.int 0) 8 h trivial
      simp (implicitDefEqProofs := false) only [ss_cons, ss_nil, s_asg, s_asgc, s_ex, s_ret, s_pass, s_iff, s_forr, s_setix, s_asgs, v_non, v_bl, v_int, v_str, v_var, v_glob, v_bin, v_neg, v_not, v_and, v_or, v_cmp, v_chn, v_ife, v_tup, v_lst, v_ix, v_sl, v_call, v_bi, v_bm, v_isi, v_lrng1, v_lrng2, v_comp, t_bl, t_int, t_var, t_glob, t_not, t_and, t_or, t_cmp, t_chn, t_call, t_bi, t_isi, t_ix, es_nil, es_cons, eo_none, eo_some, ec_none, ec_some, ei_seq, ei_rng1, ei_rng2, ei_enum, ei_zip, var0, varS, tg_nm, tg_tup, tgs_nil, tgs_cons, seq_tup, Option.bind_some, wipe_nil, wipe_cons, bind_ok', bind_ex', thn_ok, thn_nx, thn_rt, thn_bk, thn_ct, fin_nx, fin_rt, of_some, ob_sm, iteR_t, iteR_f, iteS_t, iteS_f, andR_t, andR_f, orR_t, orR_f, truR_b, intR_i, putS_s, putS'_s, setS_s, List.set_cons_succ, List.set_cons_zero, ty_non_int, ty_non_bool, ty_non_str, ty_non_tup, ty_non_lst, ty_non_dct, ty_bl_int, ty_bl_bool, ty_bl_str, ty_bl_tup, ty_bl_lst, ty_bl_dct, ty_int_int, ty_int_bool, ty_int_str, ty_int_tup, ty_int_lst, ty_int_dct, ty_str_int, ty_str_bool, ty_str_str, ty_str_tup, ty_str_lst, ty_str_dct, ty_tup_int, ty_tup_bool, ty_tup_str, ty_tup_tup, ty_tup_lst, ty_tup_dct, tru_non, tru_bl, tru_int, tru_tup, lt_int, le_int, gt_int, ge_int, eq_d, ne_d, is_d, isn_d, inn_d, nin_d, isNon_n, isNon_i, isNon_t, isNon_s, isNon_r, isNon_b, eq_int, eq_str, eq_bl, add_int, sub_int, neg_int, len_tup, bi_int_i, bi_int_b, bi_min, bi_max, rngW_i, seqW_t, newO_d, Bool.not_true, Bool.not_false, decide_true, decide_false, Bool.true_and, Bool.and_true, Bool.false_and, Bool.and_false, Bool.true_or, Bool.or_true, Bool.false_or, Bool.or_false, List.length_cons, List.length_nil, Nat.zero_add, Nat.reduceAdd, Nat.reduceLeDiff, SZ, ↓reduceIte, v_fld, t_fld, v_fnv, v_calll, t_calll, v_repr, v_dct0, s_raise0, s_raise1, s_tryk, thn_ex, thn_exS, fin_ex, truR_ex, keep_nx, keep_rt, eq_non_non, eq_non_int, eq_int_non, eq_str_non, eq_non_str, eq_int_str, eq_str_int, d8, u, gT0, uptoB, Int.le_refl, show decide ((0 : Int) ≤ 8) = true from rfl, show decide ((0 : Int) = 0) = true from rfl]
  have rl : run T P (k + 3) 4 [v, w] h = .ex ⟨1, [(0, .str [104, 111, 117, 115, 101, 115])]⟩ h := by
    rw [u4]
    simp (implicitDefEqProofs := false) only [ss_cons, ss_nil, s_asg, s_asgc, s_ex, s_ret, s_pass, s_iff, s_forr, s_setix, s_asgs, v_non, v_bl, v_int, v_str, v_var, v_glob, v_bin, v_neg, v_not, v_and, v_or, v_cmp, v_chn, v_ife, v_tup, v_lst, v_ix, v_sl, v_call, v_bi, v_bm, v_isi, v_lrng1, v_lrng2, v_comp, t_bl, t_int, t_var, t_glob, t_not, t_and, t_or, t_cmp, t_chn, t_call, t_bi, t_isi, t_ix, es_nil, es_cons, eo_none, eo_some, ec_none, ec_some, ei_seq, ei_rng1, ei_rng2, ei_enum, ei_zip, var0, varS, tg_nm, tg_tup, tgs_nil, tgs_cons, seq_tup, Option.bind_some, wipe_nil, wipe_cons, bind_ok', bind_ex', thn_ok, thn_nx, thn_rt, thn_bk, thn_ct, fin_nx, fin_rt, of_some, ob_sm, iteR_t, iteR_f, iteS_t, iteS_f, andR_t, andR_f, orR_t, orR_f, truR_b, intR_i, putS_s, putS'_s, setS_s, List.set_cons_succ, List.set_cons_zero, ty_non_int, ty_non_bool, ty_non_str, ty_non_tup, ty_non_lst, ty_non_dct, ty_bl_int, ty_bl_bool, ty_bl_str, ty_bl_tup, ty_bl_lst, ty_bl_dct, ty_int_int, ty_int_bool, ty_int_str, ty_int_tup, ty_int_lst, ty_int_dct, ty_str_int, ty_str_bool, ty_str_str, ty_str_tup, ty_str_lst, ty_str_dct, ty_tup_int, ty_tup_bool, ty_tup_str, ty_tup_tup, ty_tup_lst, ty_tup_dct, tru_non, tru_bl, tru_int, tru_tup, lt_int, le_int, gt_int, ge_int, eq_d, ne_d, is_d, isn_d, inn_d, nin_d, isNon_n, isNon_i, isNon_t, isNon_s, isNon_r, isNon_b, eq_int, eq_str, eq_bl, add_int, sub_int, neg_int, len_tup, bi_int_i, bi_int_b, bi_min, bi_max, rngW_i, seqW_t, newO_d, Bool.not_true, Bool.not_false, decide_true, decide_false, Bool.true_and, Bool.and_true, Bool.false_and, Bool.and_false, Bool.true_or, Bool.or_true, Bool.false_or, Bool.or_false, List.length_cons, List.length_nil, Nat.zero_add, Nat.reduceAdd, Nat.reduceLeDiff, SZ, ↓reduceIte, v_fld, t_fld, v_fnv, v_calll, t_calll, v_repr, v_dct0, s_raise0, s_raise1, s_tryk, thn_ex, thn_exS, fin_ex, truR_ex, keep_nx, keep_rt, eq_non_non, eq_non_int, eq_int_non, eq_str_non, eq_non_str, eq_int_str, eq_str_int, d4, lh]
  rw [u7]
  have ke : keepS T 0 3 2 (.ex ⟨1, [(0, .str [104, 111, 117, 115, 101, 115])]⟩ [some v, some w, some .non, none] h) = _ := keep_ex (by decide) (by decide)
  have gx : (h ++ [O.exc 1 [(0, .str [104, 111, 117, 115, 101, 115])]])[h.length]? = some (.exc 1 [(0, .str [104, 111, 117, 115, 101, 115])]) := by simp
  generalize hb : h ++ [O.exc 1 [(0, .str [104, 111, 117, 115, 101, 115])]] = b1 at ke gx
  have t1 : isTys T b1 (.ref h.length) [.ve] = some true := ty_exc_ve gx (by decide)
  have t2 : isTys T b1 (.ref h.length) [.cls 2, .cls 3, .cls 4] = some false := tys_exc gx (by decide) [2, 3, 4] (by decide)
  have t3 : isTys T b1 (.ref h.length) [.cls 1] = some true := tys_exc gx (by decide) [1] (by decide)
  have fd : fldR T (.ref h.length) 0 b1 = .ok (.str [104, 111, 117, 115, 101, 115]) _ := fld_exc gx (by decide) rfl
  simp (implicitDefEqProofs := false) only [ss_cons, ss_nil, s_asg, s_asgc, s_ex, s_ret, s_pass, s_iff, s_forr, s_setix, s_asgs, v_non, v_bl, v_int, v_str, v_var, v_glob, v_bin, v_neg, v_not, v_and, v_or, v_cmp, v_chn, v_ife, v_tup, v_lst, v_ix, v_sl, v_call, v_bi, v_bm, v_isi, v_lrng1, v_lrng2, v_comp, t_bl, t_int, t_var, t_glob, t_not, t_and, t_or, t_cmp, t_chn, t_call, t_bi, t_isi, t_ix, es_nil, es_cons, eo_none, eo_some, ec_none, ec_some, ei_seq, ei_rng1, ei_rng2, ei_enum, ei_zip, var0, varS, tg_nm, tg_tup, tgs_nil, tgs_cons, seq_tup, Option.bind_some, wipe_nil, wipe_cons, bind_ok', bind_ex', thn_ok, thn_nx, thn_rt, thn_bk, thn_ct, fin_nx, fin_rt, of_some, ob_sm, iteR_t, iteR_f, iteS_t, iteS_f, andR_t, andR_f, orR_t, orR_f, truR_b, intR_i, putS_s, putS'_s, setS_s, List.set_cons_succ, List.set_cons_zero, ty_non_int, ty_non_bool, ty_non_str, ty_non_tup, ty_non_lst, ty_non_dct, ty_bl_int, ty_bl_bool, ty_bl_str, ty_bl_tup, ty_bl_lst, ty_bl_dct, ty_int_int, ty_int_bool, ty_int_str, ty_int_tup, ty_int_lst, ty_int_dct, ty_str_int, ty_str_bool, ty_str_str, ty_str_tup, ty_str_lst, ty_str_dct, ty_tup_int, ty_tup_bool, ty_tup_str, ty_tup_tup, ty_tup_lst, ty_tup_dct, tru_non, tru_bl, tru_int, tru_tup, lt_int, le_int, gt_int, ge_int, eq_d, ne_d, is_d, isn_d, inn_d, nin_d, isNon_n, isNon_i, isNon_t, isNon_s, isNon_r, isNon_b, eq_int, eq_str, eq_bl, add_int, sub_int, neg_int, len_tup, bi_int_i, bi_int_b, bi_min, bi_max, rngW_i, seqW_t, newO_d, Bool.not_true, Bool.not_false, decide_true, decide_false, Bool.true_and, Bool.and_true, Bool.false_and, Bool.and_false, Bool.true_or, Bool.or_true, Bool.false_or, Bool.or_false, List.length_cons, List.length_nil, Nat.zero_add, Nat.reduceAdd, Nat.reduceLeDiff, SZ, ↓reduceIte, v_fld, t_fld, v_fnv, v_calll, t_calll, v_repr, v_dct0, s_raise0, s_raise1, s_tryk, thn_ex, thn_exS, fin_ex, truR_ex, keep_nx, keep_rt, eq_non_non, eq_non_int, eq_int_non, eq_str_non, eq_non_str, eq_int_str, eq_str_int, d7, b7_0, rl, ke, t1, t2, t3, fd]
/-! ### made lines -/
/-- a made line: its number, on which one, its fork, whether forced -/
structure Ln where
  l : Int
  p : Int
  f : Int
  b : Bool
def lnD (m : Int) (x : Ln) : D := .tup [.int x.l, .int (x.l % m), .int x.p, .int x.f, .bl x.b]
def zD : D := .tup [.int 0, .int 0, .non, .int 0, .bl false]
def fkOf (M : List Ln) : List (Int × Int) := (0, 0) :: M.map fun x => (x.l, x.f)
/-- what made lines keep -/
structure Good (m : Int) (M : List Ln) : Prop where
  w : ∀ ys, walk m [(0, 0)] (M.map (lnD m) ++ ys) = walk m (fkOf M) ys
  nd : ((fkOf M).map (·.1)).Nodup
  b : ∀ x ∈ M, 0 ≤ x.l ∧ x.l ≤ 10 * (M.length : Int) ∧ 0 ≤ x.f ∧ x.f ≤ 1000000 ∧ 0 ≤ x.p ∧ x.p ≤ 10 * (M.length : Int)
theorem Good.nil (m : Int) : Good m [] := ⟨fun ys => rfl, by simp [fkOf], fun x hx => by cases hx⟩
theorem look_none {fk : List (Int × Int)} {i : Int} : lookI fk i = none ↔ i ∉ fk.map (·.1) := by
  unfold lookI
  induction fk with
  | nil => simp
  | cons p fk ih =>
    rw [List.find?_cons, List.map_cons, List.mem_cons]
    cases q : p.1 == i with
    | true =>
      have : p.1 = i := by simpa using q
      simp [this]
    | false =>
      have : ¬ p.1 = i := by simpa using q
      simp only [not_or]
      rw [ih]
      exact ⟨fun z => ⟨fun w => this w.symm, z⟩, fun z => z.2⟩
theorem look_mem {fk : List (Int × Int)} (nd : (fk.map (·.1)).Nodup) {p : Int × Int} (hp : p ∈ fk) : lookI fk p.1 = some p.2 := by
  unfold lookI
  induction fk with
  | nil => cases hp
  | cons q fk ih =>
    rw [List.map_cons, List.nodup_cons] at nd
    rw [List.find?_cons]
    rcases List.mem_cons.mp hp with rfl | hp
    · simp
    · have : ¬ q.1 = p.1 := fun z => nd.1 (z ▸ List.mem_map.mpr ⟨p, hp, rfl⟩)
      have e : (q.1 == p.1) = false := by simpa using this
      rw [e]
      exact ih nd.2 hp
theorem Good.snoc {m : Int} {M : List Ln} (G : Good m M) (m1 : 1 ≤ m) (y : Ln) (l1 : 0 ≤ y.l) (l2 : y.l ≤ 10 * (M.length : Int) + 10) (hl : M.length ≤ 1000) (nw : lookI (fkOf M) y.l = none) (pl : 0 ≤ y.p) (lt : y.p < y.l) (f1 : 0 ≤ y.f) (f2 : y.f ≤ 1000000) (hp : ∃ g, lookI (fkOf M) y.p = some g ∧ g ≤ y.f) : Good m (M ++ [y]) := by
  have te : tell m (fkOf M) (lnD m y) = some (y.l, y.f) := by
    unfold tell lnD
    simp only
    have e1 := Int.emod_nonneg y.l (show m ≠ 0 by omega)
    have e2 := Int.emod_lt_of_pos y.l (show 0 < m by omega)
    exact if_pos ⟨⟨l1, by omega⟩, nw, ⟨e1, by omega⟩, trivial, ⟨pl, by omega⟩, lt, ⟨f1, f2⟩, hp⟩
  refine ⟨fun ys => ?_, ?_, fun x hx => ?_⟩
  · rw [List.map_append, List.append_assoc, G.w]
    show walk m (fkOf M) (lnD m y :: ys) = _
    rw [walk, te]
    simp [fkOf]
  · have e : fkOf (M ++ [y]) = fkOf M ++ [(y.l, y.f)] := by simp [fkOf]
    rw [e, List.map_append, List.nodup_append]
    refine ⟨G.nd, by simp, fun a ha b hb z => ?_⟩
    simp only [List.map_cons, List.map_nil, List.mem_singleton] at hb
    subst hb z
    exact look_none.mp nw ha
  · rw [List.length_append, List.length_singleton]
    rcases List.mem_append.mp hx with q | q
    · have := G.b x q
      omega
    · rw [List.mem_singleton] at q
      subst q
      omega
theorem Good.right {m : Int} {M : List Ln} (G : Good m M) : walk m [(0, 0)] (M.map (lnD m)) = true := by
  have := G.w []
  rw [List.append_nil] at this
  rw [this]
  rfl
end K42
namespace K42
open Py
theorem Deck.lt {h : Hh} {B : Nat} (x : Deck h B) : 7 < h.length := by
  obtain ⟨_, _, _, X⟩ := x
  exact (List.getElem?_eq_some_iff.mp X.d).1
theorem any_ints (x : Int) : ∀ xs : List Int, ((xs.map PySem.PyData.int).any fun q => PySem.PyData.eqv q (.int x)) = decide (x ∈ xs)
  | [] => rfl
  | y :: ys => by
    rw [List.map_cons, List.any_cons, any_ints x ys]
    have e : PySem.PyData.eqv (.int y) (.int x) = decide (x = y) := by
      simp only [PySem.PyData.eqv]
      by_cases q : x = y
      · subst q; simp
      · rw [decide_eq_false q, beq_eq_false_iff_ne]
        exact fun z => q z.symm
    rw [e]
    by_cases q : x = y
    · subst q; simp
    · simp [q]
theorem in_ints {h : Hh} {n : Nat} {x : Int} {xs : List Int} {f : Bool} (g : h[n]? = some (.lst (xs.map .int) f)) : inD (.int x) (.ref n) h = some (decide (x ∈ xs)) := by
  have e1 : toP h deepest (.int x) = some (.int x) := toP_flat
  have e2 : (xs.map D.int).mapM (toP h (deepest - 1)) = some (xs.map PySem.PyData.int) := toP_ints
  simp only [inD, g, inL, e1, e2, any_ints]
theorem set_keep {b : Hh} {n : Nat} {o : O} {m : Nat} {o' : O} (hm : m ≠ n) (g : b[m]? = some o') : (b.set n o)[m]? = some o' := by
  rw [List.getElem?_set_ne (Ne.symm hm)]; exact g
/-- the heap keeps, but for the deck and one list -/
structure Kx (h h' : Hh) (F : Nat) : Prop where
  k : ∀ n, n ≠ 6 → n ≠ 7 → n ≠ F → ∀ o, h[n]? = some o → h'[n]? = some o
  l : h.length ≤ h'.length
theorem Kx.of {h h' : Hh} {F : Nat} (k : Keep h h') : Kx h h' F := ⟨fun n a b _ o e => k.2 n a b o e, k.1⟩
theorem Kx.trans {a b c : Hh} {F : Nat} (x : Kx a b F) (y : Kx b c F) : Kx a c F := ⟨fun n p q r o e => y.k n p q r o (x.k n p q r o e), Nat.le_trans x.l y.l⟩
theorem Kx.set {h : Hh} {F : Nat} (o : O) : Kx h (h.set F o) F := ⟨fun n _ _ r o e => set_keep r e, by simp⟩
def LS (m : Int) (M : List Ln) : List D := zD :: M.map (lnD m)
/-- one of the made lines -/
theorem one_of {m : Int} {M : List Ln} (G : Good m M) {v : D} (hv : v ∈ LS m M) : ∃ l b c f z, v = .tup [.int l, b, c, .int f, .bl z] ∧ lookI (fkOf M) l = some f ∧ 0 ≤ l ∧ l ≤ 10 * (M.length : Int) ∧ 0 ≤ f ∧ f ≤ 1000000 := by
  rcases List.mem_cons.mp hv with rfl | hv
  · exact ⟨0, _, _, 0, _, rfl, rfl, by decide, by omega, by decide, by decide⟩
  · obtain ⟨x, hx, rfl⟩ := List.mem_map.mp hv
    have b := G.b x hx
    refine ⟨x.l, _, _, x.f, _, rfl, ?_, b.1, b.2.1, b.2.2.1, b.2.2.2.1⟩
    exact look_mem (p := (x.l, x.f)) G.nd (List.mem_cons_of_mem _ (List.mem_map.mpr ⟨x, hx, rfl⟩))
def fstF : D → Option D
  | .tup (x :: _) => some x
  | _ => none
theorem fst_fm (m : Int) (M : List Ln) : (LS m M).filterMap fstF = ((fkOf M).map (·.1)).map .int := by
  simp only [LS, zD, fkOf, List.filterMap_cons, fstF, List.map_cons, List.map_map]
  congr 1
  induction M with
  | nil => rfl
  | cons x M ih => simp [lnD, fstF, ih]
theorem made (k : Nat) (m : Int) (h : Hh) (B : Nat) (x : Deck h B) (hB : B ≤ 90000) (m1 : 1 ≤ m) (m2 : m ≤ 8) : ∃ M h', run T P (k + 2) 3 [.ref 7, .int m] h = .ok (.ref h.length) h' ∧ Good m M ∧ M.length ≤ 60 ∧ h'[h.length]? = some (.lst (LS m M) false) ∧ Deck h' (B + 700) ∧ 7 < h.length := by
  have lt := Deck.lt x
  obtain ⟨c1, h1, q1, a1, b1, D1, K1⟩ := take k 12 (h ++ [.lst [zD] false]) B (x.app _) (by omega) (by decide) (by decide)
  obtain ⟨c2, h2, q2, a2, b2, D2, K2⟩ := take k 8 h1 _ D1 (by omega) (by decide) (by decide)
  have main : ∀ (c : Int) (b : Hh), 0 ≤ c → c < 60 → Deck b (B + 10) → b[h.length]? = some (.lst [zD] false) → ∃ M h', (forL ⟨rngI 0 c.toNat, []⟩ (fun x σ h => putS' (Tg.put (.nm 4) x h σ) fun σ' => exSs T (run T P (k + 1)) b3_0 σ' h) (rngI 0 c.toNat) [some (.ref 7), some (.int m), some (.ref h.length), some (.int c), none, none, none, none, none] b |>.thn fun σ h => exSs T (run T P (k + 1)) (.cons (.ret (.var 2)) .nil) σ h).fin = R.ok (.ref h.length) h' ∧ Good m M ∧ M.length ≤ 60 ∧ h'[h.length]? = some (.lst (LS m M) false) ∧ Deck h' (B + 700) := by
    intro c b c0 c6 Db gb
    have lr : (rngI 0 c.toNat).length = c.toNat := by simp [rngI]
    refine forL_k (Q := fun z => ∃ M h', z.fin = R.ok (.ref h.length) h' ∧ Good m M ∧ M.length ≤ 60 ∧ h'[h.length]? = some (.lst (LS m M) false) ∧ Deck h' (B + 700)) (fun rest σ h' => ∃ (M : List Ln) (B' : Nat) (v4 v5 v6 v7 v8 : Option D), Good m M ∧ M.length + rest.length ≤ 60 ∧ B' + 10 * rest.length ≤ B + 690 ∧ Deck h' B' ∧ h'[h.length]? = some (.lst (LS m M) false) ∧ σ = [some (.ref 7), some (.int m), some (.ref h.length), some (.int c), v4, v5, v6, v7, v8]) (fun _ _ _ _ => rfl)
      (fun y rest σ h' ⟨M, B', v4, v5, v6, v7, v8, G, i1, i2, D', g, es⟩ => ?_) ⟨[], B + 10, _, _, _, _, _, Good.nil m, by rw [lr]; simp; omega, by rw [lr]; omega, Db, gb, rfl⟩ fun σ h' ⟨M, B', v4, v5, v6, v7, v8, G, i1, i2, D', g, es⟩ => ?_
    · subst es
      simp only [List.length_cons] at i1 i2
      have lL : (LS m M).length = M.length + 1 := by simp [LS]
      obtain ⟨n1, g1h, w1, s1, t1, E1, L1⟩ := take k (((LS m M).length : Nat) : Int) h' _ D' (by omega) (by omega) (by omega)
      obtain ⟨n, rfl⟩ := int_nat s1
      obtain ⟨Pv, hP⟩ : ∃ v, (LS m M)[n]? = some v := ⟨_, List.getElem?_eq_getElem (by omega)⟩
      have gg1 := L1.2 _ (by omega) (by omega) _ g
      have ip := ixl g1h _ _ n _ gg1 hP
      obtain ⟨lp, pb, pc, fp, pz, rfl, lk, p1, p2, p3, p4⟩ := one_of G (List.mem_of_getElem? hP)
      obtain ⟨r2, g2h, w2, s2, t2, E2, L2⟩ := take k 9 g1h _ E1 (by omega) (by decide) (by decide)
      have gg2 := L2.2 _ (by omega) (by omega) _ gg1
      have ltg : h.length < g2h.length := (List.getElem?_eq_some_iff.mp gg2).1
      -- the numbers so far
      have cq : compD ⟨LS m M, [(h.length, .lst (LS m M) false)]⟩ g2h.length (fun x h' => Tg.put (.nm 7) x h' (wipe [some (.ref 7), some (.int m), some (.ref h.length), some (.int c), some y, some (.tup [.int lp, pb, pc, .int fp, .bl pz]), some (.int (lp + 1 + r2)), v7, v8] [7])) (denc T (run T P (k + 1)) q3_0) (den T (run T P (k + 1)) e3_0).v g2h = .ok (.ref g2h.length) (g2h ++ [.lst (((fkOf M).map (·.1)).map .int) false]) := by
        rw [compD_pure fstF (by rw [lL]; unfold SZ; omega) (ok_at1 gg2)]
        · rw [fst_fm]
        · intro u hu e'
          obtain ⟨ul, ub, uc, uf, uz, rfl, _⟩ := one_of G hu
          refine ⟨_, tg_nm, ?_⟩
          simp only [fstF, q3_0, e3_0, ec_none, true_and]
          simp (implicitDefEqProofs := false) only [ss_cons, ss_nil, s_asg, s_asgc, s_ex, s_ret, s_pass, s_iff, s_forr, s_setix, s_asgs, v_non, v_bl, v_int, v_str, v_var, v_glob, v_bin, v_neg, v_not, v_and, v_or, v_cmp, v_chn, v_ife, v_tup, v_lst, v_ix, v_sl, v_call, v_bi, v_bm, v_isi, v_lrng1, v_lrng2, v_comp, t_bl, t_int, t_var, t_glob, t_not, t_and, t_or, t_cmp, t_chn, t_call, t_bi, t_isi, t_ix, es_nil, es_cons, eo_none, eo_some, ec_none, ec_some, ei_seq, ei_rng1, ei_rng2, ei_enum, ei_zip, var0, varS, tg_nm, tg_tup, tgs_nil, tgs_cons, seq_tup, Option.bind_some, wipe_nil, wipe_cons, bind_ok', bind_ex', thn_ok, thn_nx, thn_rt, thn_bk, thn_ct, fin_nx, fin_rt, of_some, ob_sm, iteR_t, iteR_f, iteS_t, iteS_f, andR_t, andR_f, orR_t, orR_f, truR_b, intR_i, putS_s, putS'_s, setS_s, List.set_cons_succ, List.set_cons_zero, ty_non_int, ty_non_bool, ty_non_str, ty_non_tup, ty_non_lst, ty_non_dct, ty_bl_int, ty_bl_bool, ty_bl_str, ty_bl_tup, ty_bl_lst, ty_bl_dct, ty_int_int, ty_int_bool, ty_int_str, ty_int_tup, ty_int_lst, ty_int_dct, ty_str_int, ty_str_bool, ty_str_str, ty_str_tup, ty_str_lst, ty_str_dct, ty_tup_int, ty_tup_bool, ty_tup_str, ty_tup_tup, ty_tup_lst, ty_tup_dct, tru_non, tru_bl, tru_int, tru_tup, lt_int, le_int, gt_int, ge_int, eq_d, ne_d, is_d, isn_d, inn_d, nin_d, isNon_n, isNon_i, isNon_t, isNon_s, isNon_r, isNon_b, eq_int, eq_str, eq_bl, add_int, sub_int, neg_int, len_tup, bi_int_i, bi_int_b, bi_min, bi_max, rngW_i, seqW_t, newO_d, Bool.not_true, Bool.not_false, decide_true, decide_false, Bool.true_and, Bool.and_true, Bool.false_and, Bool.and_false, Bool.true_or, Bool.or_true, Bool.false_or, Bool.or_false, List.length_cons, List.length_nil, Nat.zero_add, Nat.reduceAdd, Nat.reduceLeDiff, SZ, ↓reduceIte, v_fld, t_fld, v_fnv, v_calll, t_calll, v_repr, v_dct0, s_raise0, s_raise1, s_tryk, thn_ex, thn_exS, fin_ex, truR_ex, keep_nx, keep_rt, eq_non_non, eq_non_int, eq_int_non, eq_str_non, eq_non_str, eq_int_str, eq_str_int, i0]
      simp (implicitDefEqProofs := false) only [ss_cons, ss_nil, s_asg, s_asgc, s_ex, s_ret, s_pass, s_iff, s_forr, s_setix, s_asgs, v_non, v_bl, v_int, v_str, v_var, v_glob, v_bin, v_neg, v_not, v_and, v_or, v_cmp, v_chn, v_ife, v_tup, v_lst, v_ix, v_sl, v_call, v_bi, v_bm, v_isi, v_lrng1, v_lrng2, v_comp, t_bl, t_int, t_var, t_glob, t_not, t_and, t_or, t_cmp, t_chn, t_call, t_bi, t_isi, t_ix, es_nil, es_cons, eo_none, eo_some, ec_none, ec_some, ei_seq, ei_rng1, ei_rng2, ei_enum, ei_zip, var0, varS, tg_nm, tg_tup, tgs_nil, tgs_cons, seq_tup, Option.bind_some, wipe_nil, wipe_cons, bind_ok', bind_ex', thn_ok, thn_nx, thn_rt, thn_bk, thn_ct, fin_nx, fin_rt, of_some, ob_sm, iteR_t, iteR_f, iteS_t, iteS_f, andR_t, andR_f, orR_t, orR_f, truR_b, intR_i, putS_s, putS'_s, setS_s, List.set_cons_succ, List.set_cons_zero, ty_non_int, ty_non_bool, ty_non_str, ty_non_tup, ty_non_lst, ty_non_dct, ty_bl_int, ty_bl_bool, ty_bl_str, ty_bl_tup, ty_bl_lst, ty_bl_dct, ty_int_int, ty_int_bool, ty_int_str, ty_int_tup, ty_int_lst, ty_int_dct, ty_str_int, ty_str_bool, ty_str_str, ty_str_tup, ty_str_lst, ty_str_dct, ty_tup_int, ty_tup_bool, ty_tup_str, ty_tup_tup, ty_tup_lst, ty_tup_dct, tru_non, tru_bl, tru_int, tru_tup, lt_int, le_int, gt_int, ge_int, eq_d, ne_d, is_d, isn_d, inn_d, nin_d, isNon_n, isNon_i, isNon_t, isNon_s, isNon_r, isNon_b, eq_int, eq_str, eq_bl, add_int, sub_int, neg_int, len_tup, bi_int_i, bi_int_b, bi_min, bi_max, rngW_i, seqW_t, newO_d, Bool.not_true, Bool.not_false, decide_true, decide_false, Bool.true_and, Bool.and_true, Bool.false_and, Bool.and_false, Bool.true_or, Bool.or_true, Bool.false_or, Bool.or_false, List.length_cons, List.length_nil, Nat.zero_add, Nat.reduceAdd, Nat.reduceLeDiff, SZ, ↓reduceIte, v_fld, t_fld, v_fnv, v_calll, t_calll, v_repr, v_dct0, s_raise0, s_raise1, s_tryk, thn_ex, thn_exS, fin_ex, truR_ex, keep_nx, keep_rt, eq_non_non, eq_non_int, eq_int_non, eq_str_non, eq_non_str, eq_int_str, eq_str_int] at cq
      have gi : (g2h ++ [O.lst (((fkOf M).map (·.1)).map .int) false])[g2h.length]? = some (.lst (((fkOf M).map (·.1)).map .int) false) := by simp
      have ii := in_ints (x := lp + 1 + r2) gi
      have E2' := E2.app [.lst (((fkOf M).map (·.1)).map .int) false]
      have gg2' := get_app (e := [O.lst (((fkOf M).map (·.1)).map .int) false]) gg2
      have sw := seqW_l gg2
      by_cases hin : lp + 1 + r2 ∈ (fkOf M).map (·.1)
      · rw [decide_eq_true hin] at ii
        refine ⟨[some (.ref 7), some (.int m), some (.ref h.length), some (.int c), some y, some (.tup [.int lp, pb, pc, .int fp, .bl pz]), some (.int (lp + 1 + r2)), v7, v8], g2h ++ [.lst (((fkOf M).map (·.1)).map .int) false], ?_, M, B' + 2, _, _, _, _, _, G, by omega, by omega, E2'.mono (by omega), gg2', rfl⟩
        simp (implicitDefEqProofs := false) only [ss_cons, ss_nil, s_asg, s_asgc, s_ex, s_ret, s_pass, s_iff, s_forr, s_setix, s_asgs, v_non, v_bl, v_int, v_str, v_var, v_glob, v_bin, v_neg, v_not, v_and, v_or, v_cmp, v_chn, v_ife, v_tup, v_lst, v_ix, v_sl, v_call, v_bi, v_bm, v_isi, v_lrng1, v_lrng2, v_comp, t_bl, t_int, t_var, t_glob, t_not, t_and, t_or, t_cmp, t_chn, t_call, t_bi, t_isi, t_ix, es_nil, es_cons, eo_none, eo_some, ec_none, ec_some, ei_seq, ei_rng1, ei_rng2, ei_enum, ei_zip, var0, varS, tg_nm, tg_tup, tgs_nil, tgs_cons, seq_tup, Option.bind_some, wipe_nil, wipe_cons, bind_ok', bind_ex', thn_ok, thn_nx, thn_rt, thn_bk, thn_ct, fin_nx, fin_rt, of_some, ob_sm, iteR_t, iteR_f, iteS_t, iteS_f, andR_t, andR_f, orR_t, orR_f, truR_b, intR_i, putS_s, putS'_s, setS_s, List.set_cons_succ, List.set_cons_zero, ty_non_int, ty_non_bool, ty_non_str, ty_non_tup, ty_non_lst, ty_non_dct, ty_bl_int, ty_bl_bool, ty_bl_str, ty_bl_tup, ty_bl_lst, ty_bl_dct, ty_int_int, ty_int_bool, ty_int_str, ty_int_tup, ty_int_lst, ty_int_dct, ty_str_int, ty_str_bool, ty_str_str, ty_str_tup, ty_str_lst, ty_str_dct, ty_tup_int, ty_tup_bool, ty_tup_str, ty_tup_tup, ty_tup_lst, ty_tup_dct, tru_non, tru_bl, tru_int, tru_tup, lt_int, le_int, gt_int, ge_int, eq_d, ne_d, is_d, isn_d, inn_d, nin_d, isNon_n, isNon_i, isNon_t, isNon_s, isNon_r, isNon_b, eq_int, eq_str, eq_bl, add_int, sub_int, neg_int, len_tup, bi_int_i, bi_int_b, bi_min, bi_max, rngW_i, seqW_t, newO_d, Bool.not_true, Bool.not_false, decide_true, decide_false, Bool.true_and, Bool.and_true, Bool.false_and, Bool.and_false, Bool.true_or, Bool.or_true, Bool.false_or, Bool.or_false, List.length_cons, List.length_nil, Nat.zero_add, Nat.reduceAdd, Nat.reduceLeDiff, SZ, ↓reduceIte, v_fld, t_fld, v_fnv, v_calll, t_calll, v_repr, v_dct0, s_raise0, s_raise1, s_tryk, thn_ex, thn_exS, fin_ex, truR_ex, keep_nx, keep_rt, eq_non_non, eq_non_int, eq_int_non, eq_str_non, eq_non_str, eq_int_str, eq_str_int, b3_0, len_lst g, w1, ip, i0, w2, sw, cq, ii]
      · rw [decide_eq_false hin] at ii
        obtain ⟨r3, g3h, w3, s3, t3, E3, L3⟩ := take k 9 _ _ E2' (by omega) (by decide) (by decide)
        have gg3 := L3.2 _ (by omega) (by omega) _ gg2'
        have lt3 := Deck.lt E3
        obtain ⟨r4, g4h, w4, s4, t4, E4, L4⟩ := take k 2 (g3h ++ [.lst [.int 0, .int r3] false]) _ (E3.app _) (by omega) (by decide) (by decide)
        obtain ⟨n4, rfl⟩ := int_nat s4
        obtain ⟨av, hav⟩ : ∃ v, [D.int 0, .int r3][n4]? = some v := ⟨_, List.getElem?_eq_getElem (by simp; omega)⟩
        have i4' := ixl g4h g3h.length _ n4 _ (L4.2 _ (by omega) (by omega) _ (by simp)) hav
        obtain ⟨av, rfl, av1⟩ : ∃ a : Int, av = .int a ∧ 0 ≤ a := by
          have := List.mem_of_getElem? hav
          simp only [List.mem_cons, List.not_mem_nil, or_false] at this
          rcases this with rfl | rfl
          · exact ⟨_, rfl, by decide⟩
          · exact ⟨_, rfl, s3⟩
        have gg4 := L4.2 _ (by omega) (by omega) _ (get_app (e := [O.lst [.int 0, .int r3] false]) gg3)
        obtain ⟨r5, g5h, w5, s5, t5, E5, L5⟩ := take k 2 g4h _ E4 (by omega) (by decide) (by decide)
        have gg5 := L5.2 _ (by omega) (by omega) _ gg4
        have lt5 : h.length < g5h.length := (List.getElem?_eq_some_iff.mp gg5).1
        have md : ∀ hh, binD .mod (.int (lp + 1 + r2)) (.int m) hh = some (.int ((lp + 1 + r2) % m), hh) := fun hh => by rw [mod_int, if_pos (by omega)]
        obtain ⟨fk, hfk⟩ : ∃ f : Int, (if fp + av < 1000000 then fp + av else 1000000) = f := ⟨_, rfl⟩
        have f1 : fp ≤ fk ∧ 0 ≤ fk ∧ fk ≤ 1000000 := by rw [← hfk]; split <;> omega
        let Y : Ln := ⟨lp + 1 + r2, lp, fk, decide (r5 = 1)⟩
        have G' : Good m (M ++ [Y]) := G.snoc m1 Y (by show 0 ≤ lp + 1 + r2; omega) (by show lp + 1 + r2 ≤ _; omega) (by omega) (look_none.mpr hin) p1 (by show lp < lp + 1 + r2; omega) f1.2.1 f1.2.2 ⟨fp, lk, f1.1⟩
        have ap : bmD .append (.ref h.length) [lnD m Y] g5h = some (.non, g5h.set h.length (.lst (LS m (M ++ [Y])) false)) := by
          rw [app_lst gg5, if_pos (by rw [lL]; unfold SZ; omega)]
          simp [LS]
        have rc := recv_l (b := .append) (r := (R.of (bmD .append (.ref h.length) [lnD m Y] g5h))) gg5 rfl
        have gset : (g5h.set h.length (.lst (LS m (M ++ [Y])) false))[h.length]? = some (.lst (LS m (M ++ [Y])) false) := List.getElem?_set_self lt5
        have Eset : Deck (g5h.set h.length (.lst (LS m (M ++ [Y])) false)) (B' + 8) := by
          obtain ⟨cells, rests, cnt, X⟩ := E5
          have bb := X.b
          exact ⟨cells, rests, cnt, set_keep (by omega) X.c, set_keep (by omega) X.r, set_keep (by omega) X.d, X.p, X.l, X.n, by omega⟩
        refine ⟨[some (.ref 7), some (.int m), some (.ref h.length), some (.int c), some y, some (.tup [.int lp, pb, pc, .int fp, .bl pz]), some (.int (lp + 1 + r2)), v7, some (.int fk)], g5h.set h.length (.lst (LS m (M ++ [Y])) false), ?_, M ++ [Y], B' + 8, _, _, _, _, _, G', by simp; omega, by omega, Eset, gset, rfl⟩
        have gg2r : ∀ {r : R D}, recvR .append (.ref h.length) (g2h ++ [O.lst (((fkOf M).map (·.1)).map .int) false]) r = r := fun {r} => recv_l (b := .append) gg2' rfl
        have gg4r : ∀ {r : R D}, recvR .append (.ref h.length) g4h r = r := fun {r} => recv_l (b := .append) gg4 rfl
        simp only [lnD, Y] at ap
        simp (implicitDefEqProofs := false) only [ss_cons, ss_nil, s_asg, s_asgc, s_ex, s_ret, s_pass, s_iff, s_forr, s_setix, s_asgs, v_non, v_bl, v_int, v_str, v_var, v_glob, v_bin, v_neg, v_not, v_and, v_or, v_cmp, v_chn, v_ife, v_tup, v_lst, v_ix, v_sl, v_call, v_bi, v_bm, v_isi, v_lrng1, v_lrng2, v_comp, t_bl, t_int, t_var, t_glob, t_not, t_and, t_or, t_cmp, t_chn, t_call, t_bi, t_isi, t_ix, es_nil, es_cons, eo_none, eo_some, ec_none, ec_some, ei_seq, ei_rng1, ei_rng2, ei_enum, ei_zip, var0, varS, tg_nm, tg_tup, tgs_nil, tgs_cons, seq_tup, Option.bind_some, wipe_nil, wipe_cons, bind_ok', bind_ex', thn_ok, thn_nx, thn_rt, thn_bk, thn_ct, fin_nx, fin_rt, of_some, ob_sm, iteR_t, iteR_f, iteS_t, iteS_f, andR_t, andR_f, orR_t, orR_f, truR_b, intR_i, putS_s, putS'_s, setS_s, List.set_cons_succ, List.set_cons_zero, ty_non_int, ty_non_bool, ty_non_str, ty_non_tup, ty_non_lst, ty_non_dct, ty_bl_int, ty_bl_bool, ty_bl_str, ty_bl_tup, ty_bl_lst, ty_bl_dct, ty_int_int, ty_int_bool, ty_int_str, ty_int_tup, ty_int_lst, ty_int_dct, ty_str_int, ty_str_bool, ty_str_str, ty_str_tup, ty_str_lst, ty_str_dct, ty_tup_int, ty_tup_bool, ty_tup_str, ty_tup_tup, ty_tup_lst, ty_tup_dct, tru_non, tru_bl, tru_int, tru_tup, lt_int, le_int, gt_int, ge_int, eq_d, ne_d, is_d, isn_d, inn_d, nin_d, isNon_n, isNon_i, isNon_t, isNon_s, isNon_r, isNon_b, eq_int, eq_str, eq_bl, add_int, sub_int, neg_int, len_tup, bi_int_i, bi_int_b, bi_min, bi_max, rngW_i, seqW_t, newO_d, Bool.not_true, Bool.not_false, decide_true, decide_false, Bool.true_and, Bool.and_true, Bool.false_and, Bool.and_false, Bool.true_or, Bool.or_true, Bool.false_or, Bool.or_false, List.length_cons, List.length_nil, Nat.zero_add, Nat.reduceAdd, Nat.reduceLeDiff, SZ, ↓reduceIte, v_fld, t_fld, v_fnv, v_calll, t_calll, v_repr, v_dct0, s_raise0, s_raise1, s_tryk, thn_ex, thn_exS, fin_ex, truR_ex, keep_nx, keep_rt, eq_non_non, eq_non_int, eq_int_non, eq_str_non, eq_non_str, eq_int_str, eq_str_int, b3_0, len_lst g, w1, ip, i0, i3, w2, sw, cq, ii, p6, w3, w4, i4', hfk, md, gg4r, w5, ap, show (2 : Nat) ≤ 1000000 from by decide, show (5 : Nat) ≤ 1000000 from by decide]
        rfl
    · subst es
      exact ⟨M, h', by simp (implicitDefEqProofs := false) only [ss_cons, ss_nil, s_asg, s_asgc, s_ex, s_ret, s_pass, s_iff, s_forr, s_setix, s_asgs, v_non, v_bl, v_int, v_str, v_var, v_glob, v_bin, v_neg, v_not, v_and, v_or, v_cmp, v_chn, v_ife, v_tup, v_lst, v_ix, v_sl, v_call, v_bi, v_bm, v_isi, v_lrng1, v_lrng2, v_comp, t_bl, t_int, t_var, t_glob, t_not, t_and, t_or, t_cmp, t_chn, t_call, t_bi, t_isi, t_ix, es_nil, es_cons, eo_none, eo_some, ec_none, ec_some, ei_seq, ei_rng1, ei_rng2, ei_enum, ei_zip, var0, varS, tg_nm, tg_tup, tgs_nil, tgs_cons, seq_tup, Option.bind_some, wipe_nil, wipe_cons, bind_ok', bind_ex', thn_ok, thn_nx, thn_rt, thn_bk, thn_ct, fin_nx, fin_rt, of_some, ob_sm, iteR_t, iteR_f, iteS_t, iteS_f, andR_t, andR_f, orR_t, orR_f, truR_b, intR_i, putS_s, putS'_s, setS_s, List.set_cons_succ, List.set_cons_zero, ty_non_int, ty_non_bool, ty_non_str, ty_non_tup, ty_non_lst, ty_non_dct, ty_bl_int, ty_bl_bool, ty_bl_str, ty_bl_tup, ty_bl_lst, ty_bl_dct, ty_int_int, ty_int_bool, ty_int_str, ty_int_tup, ty_int_lst, ty_int_dct, ty_str_int, ty_str_bool, ty_str_str, ty_str_tup, ty_str_lst, ty_str_dct, ty_tup_int, ty_tup_bool, ty_tup_str, ty_tup_tup, ty_tup_lst, ty_tup_dct, tru_non, tru_bl, tru_int, tru_tup, lt_int, le_int, gt_int, ge_int, eq_d, ne_d, is_d, isn_d, inn_d, nin_d, isNon_n, isNon_i, isNon_t, isNon_s, isNon_r, isNon_b, eq_int, eq_str, eq_bl, add_int, sub_int, neg_int, len_tup, bi_int_i, bi_int_b, bi_min, bi_max, rngW_i, seqW_t, newO_d, Bool.not_true, Bool.not_false, decide_true, decide_false, Bool.true_and, Bool.and_true, Bool.false_and, Bool.and_false, Bool.true_or, Bool.or_true, Bool.false_or, Bool.or_false, List.length_cons, List.length_nil, Nat.zero_add, Nat.reduceAdd, Nat.reduceLeDiff, SZ, ↓reduceIte, v_fld, t_fld, v_fnv, v_calll, t_calll, v_repr, v_dct0, s_raise0, s_raise1, s_tryk, thn_ex, thn_exS, fin_ex, truR_ex, keep_nx, keep_rt, eq_non_non, eq_non_int, eq_int_non, eq_str_non, eq_non_str, eq_int_str, eq_str_int], G, by simp at i1; omega, g, D'.mono (by simp at i2; omega)⟩
  have gh2 : h2[h.length]? = some (.lst [zD] false) := K2.2 _ (by omega) (by omega) _ (K1.2 _ (by omega) (by omega) _ (by simp))
  have rgw : ∀ (c : Int) (b : Hh), 0 ≤ c → c < 60 → rngW (.int 0) (.int c) b = .ok ⟨rngI 0 c.toNat, []⟩ b := fun c b x1 x2 => by
    rw [rngW_i, if_pos (by omega)]
    simp
  simp only [zD] at q1
  by_cases z : c2 = 0
  · subst z
    obtain ⟨c3, h3, q3, a3, b3, D3, K3⟩ := take k 60 h2 _ D2 (by omega) (by decide) (by decide)
    obtain ⟨M, h', q, r⟩ := main c3 h3 a3 (by omega) (D3.mono (by omega)) (K3.2 _ (by omega) (by omega) _ gh2)
    refine ⟨M, h', ?_, r.1, r.2.1, r.2.2.1, r.2.2.2, lt⟩
    have rg := rgw c3 h3 a3 b3
    rw [rngW_i] at rg
    rw [u3]
    simp (implicitDefEqProofs := false) only [ss_cons, ss_nil, s_asg, s_asgc, s_ex, s_ret, s_pass, s_iff, s_forr, s_setix, s_asgs, v_non, v_bl, v_int, v_str, v_var, v_glob, v_bin, v_neg, v_not, v_and, v_or, v_cmp, v_chn, v_ife, v_tup, v_lst, v_ix, v_sl, v_call, v_bi, v_bm, v_isi, v_lrng1, v_lrng2, v_comp, t_bl, t_int, t_var, t_glob, t_not, t_and, t_or, t_cmp, t_chn, t_call, t_bi, t_isi, t_ix, es_nil, es_cons, eo_none, eo_some, ec_none, ec_some, ei_seq, ei_rng1, ei_rng2, ei_enum, ei_zip, var0, varS, tg_nm, tg_tup, tgs_nil, tgs_cons, seq_tup, Option.bind_some, wipe_nil, wipe_cons, bind_ok', bind_ex', thn_ok, thn_nx, thn_rt, thn_bk, thn_ct, fin_nx, fin_rt, of_some, ob_sm, iteR_t, iteR_f, iteS_t, iteS_f, andR_t, andR_f, orR_t, orR_f, truR_b, intR_i, putS_s, putS'_s, setS_s, List.set_cons_succ, List.set_cons_zero, ty_non_int, ty_non_bool, ty_non_str, ty_non_tup, ty_non_lst, ty_non_dct, ty_bl_int, ty_bl_bool, ty_bl_str, ty_bl_tup, ty_bl_lst, ty_bl_dct, ty_int_int, ty_int_bool, ty_int_str, ty_int_tup, ty_int_lst, ty_int_dct, ty_str_int, ty_str_bool, ty_str_str, ty_str_tup, ty_str_lst, ty_str_dct, ty_tup_int, ty_tup_bool, ty_tup_str, ty_tup_tup, ty_tup_lst, ty_tup_dct, tru_non, tru_bl, tru_int, tru_tup, lt_int, le_int, gt_int, ge_int, eq_d, ne_d, is_d, isn_d, inn_d, nin_d, isNon_n, isNon_i, isNon_t, isNon_s, isNon_r, isNon_b, eq_int, eq_str, eq_bl, add_int, sub_int, neg_int, len_tup, bi_int_i, bi_int_b, bi_min, bi_max, rngW_i, seqW_t, newO_d, Bool.not_true, Bool.not_false, decide_true, decide_false, Bool.true_and, Bool.and_true, Bool.false_and, Bool.and_false, Bool.true_or, Bool.or_true, Bool.false_or, Bool.or_false, List.length_cons, List.length_nil, Nat.zero_add, Nat.reduceAdd, Nat.reduceLeDiff, SZ, ↓reduceIte, v_fld, t_fld, v_fnv, v_calll, t_calll, v_repr, v_dct0, s_raise0, s_raise1, s_tryk, thn_ex, thn_exS, fin_ex, truR_ex, keep_nx, keep_rt, eq_non_non, eq_non_int, eq_int_non, eq_str_non, eq_non_str, eq_int_str, eq_str_int] at q
    simp (implicitDefEqProofs := false) only [ss_cons, ss_nil, s_asg, s_asgc, s_ex, s_ret, s_pass, s_iff, s_forr, s_setix, s_asgs, v_non, v_bl, v_int, v_str, v_var, v_glob, v_bin, v_neg, v_not, v_and, v_or, v_cmp, v_chn, v_ife, v_tup, v_lst, v_ix, v_sl, v_call, v_bi, v_bm, v_isi, v_lrng1, v_lrng2, v_comp, t_bl, t_int, t_var, t_glob, t_not, t_and, t_or, t_cmp, t_chn, t_call, t_bi, t_isi, t_ix, es_nil, es_cons, eo_none, eo_some, ec_none, ec_some, ei_seq, ei_rng1, ei_rng2, ei_enum, ei_zip, var0, varS, tg_nm, tg_tup, tgs_nil, tgs_cons, seq_tup, Option.bind_some, wipe_nil, wipe_cons, bind_ok', bind_ex', thn_ok, thn_nx, thn_rt, thn_bk, thn_ct, fin_nx, fin_rt, of_some, ob_sm, iteR_t, iteR_f, iteS_t, iteS_f, andR_t, andR_f, orR_t, orR_f, truR_b, intR_i, putS_s, putS'_s, setS_s, List.set_cons_succ, List.set_cons_zero, ty_non_int, ty_non_bool, ty_non_str, ty_non_tup, ty_non_lst, ty_non_dct, ty_bl_int, ty_bl_bool, ty_bl_str, ty_bl_tup, ty_bl_lst, ty_bl_dct, ty_int_int, ty_int_bool, ty_int_str, ty_int_tup, ty_int_lst, ty_int_dct, ty_str_int, ty_str_bool, ty_str_str, ty_str_tup, ty_str_lst, ty_str_dct, ty_tup_int, ty_tup_bool, ty_tup_str, ty_tup_tup, ty_tup_lst, ty_tup_dct, tru_non, tru_bl, tru_int, tru_tup, lt_int, le_int, gt_int, ge_int, eq_d, ne_d, is_d, isn_d, inn_d, nin_d, isNon_n, isNon_i, isNon_t, isNon_s, isNon_r, isNon_b, eq_int, eq_str, eq_bl, add_int, sub_int, neg_int, len_tup, bi_int_i, bi_int_b, bi_min, bi_max, rngW_i, seqW_t, newO_d, Bool.not_true, Bool.not_false, decide_true, decide_false, Bool.true_and, Bool.and_true, Bool.false_and, Bool.and_false, Bool.true_or, Bool.or_true, Bool.false_or, Bool.or_false, List.length_cons, List.length_nil, Nat.zero_add, Nat.reduceAdd, Nat.reduceLeDiff, SZ, ↓reduceIte, v_fld, t_fld, v_fnv, v_calll, t_calll, v_repr, v_dct0, s_raise0, s_raise1, s_tryk, thn_ex, thn_exS, fin_ex, truR_ex, keep_nx, keep_rt, eq_non_non, eq_non_int, eq_int_non, eq_str_non, eq_non_str, eq_int_str, eq_str_int, d3, q1, q2, q3, rg, show (1 : Nat) ≤ 1000000 from by decide, show (5 : Nat) ≤ 1000000 from by decide]
    exact q
  · obtain ⟨M, h', q, r⟩ := main c1 h2 a1 (by omega) (D2.mono (by omega)) gh2
    refine ⟨M, h', ?_, r.1, r.2.1, r.2.2.1, r.2.2.2, lt⟩
    have rg := rgw c1 h2 a1 (by omega)
    rw [rngW_i] at rg
    rw [u3]
    simp (implicitDefEqProofs := false) only [ss_cons, ss_nil, s_asg, s_asgc, s_ex, s_ret, s_pass, s_iff, s_forr, s_setix, s_asgs, v_non, v_bl, v_int, v_str, v_var, v_glob, v_bin, v_neg, v_not, v_and, v_or, v_cmp, v_chn, v_ife, v_tup, v_lst, v_ix, v_sl, v_call, v_bi, v_bm, v_isi, v_lrng1, v_lrng2, v_comp, t_bl, t_int, t_var, t_glob, t_not, t_and, t_or, t_cmp, t_chn, t_call, t_bi, t_isi, t_ix, es_nil, es_cons, eo_none, eo_some, ec_none, ec_some, ei_seq, ei_rng1, ei_rng2, ei_enum, ei_zip, var0, varS, tg_nm, tg_tup, tgs_nil, tgs_cons, seq_tup, Option.bind_some, wipe_nil, wipe_cons, bind_ok', bind_ex', thn_ok, thn_nx, thn_rt, thn_bk, thn_ct, fin_nx, fin_rt, of_some, ob_sm, iteR_t, iteR_f, iteS_t, iteS_f, andR_t, andR_f, orR_t, orR_f, truR_b, intR_i, putS_s, putS'_s, setS_s, List.set_cons_succ, List.set_cons_zero, ty_non_int, ty_non_bool, ty_non_str, ty_non_tup, ty_non_lst, ty_non_dct, ty_bl_int, ty_bl_bool, ty_bl_str, ty_bl_tup, ty_bl_lst, ty_bl_dct, ty_int_int, ty_int_bool, ty_int_str, ty_int_tup, ty_int_lst, ty_int_dct, ty_str_int, ty_str_bool, ty_str_str, ty_str_tup, ty_str_lst, ty_str_dct, ty_tup_int, ty_tup_bool, ty_tup_str, ty_tup_tup, ty_tup_lst, ty_tup_dct, tru_non, tru_bl, tru_int, tru_tup, lt_int, le_int, gt_int, ge_int, eq_d, ne_d, is_d, isn_d, inn_d, nin_d, isNon_n, isNon_i, isNon_t, isNon_s, isNon_r, isNon_b, eq_int, eq_str, eq_bl, add_int, sub_int, neg_int, len_tup, bi_int_i, bi_int_b, bi_min, bi_max, rngW_i, seqW_t, newO_d, Bool.not_true, Bool.not_false, decide_true, decide_false, Bool.true_and, Bool.and_true, Bool.false_and, Bool.and_false, Bool.true_or, Bool.or_true, Bool.false_or, Bool.or_false, List.length_cons, List.length_nil, Nat.zero_add, Nat.reduceAdd, Nat.reduceLeDiff, SZ, ↓reduceIte, v_fld, t_fld, v_fnv, v_calll, t_calll, v_repr, v_dct0, s_raise0, s_raise1, s_tryk, thn_ex, thn_exS, fin_ex, truR_ex, keep_nx, keep_rt, eq_non_non, eq_non_int, eq_int_non, eq_str_non, eq_non_str, eq_int_str, eq_str_int] at q
    simp (implicitDefEqProofs := false) only [ss_cons, ss_nil, s_asg, s_asgc, s_ex, s_ret, s_pass, s_iff, s_forr, s_setix, s_asgs, v_non, v_bl, v_int, v_str, v_var, v_glob, v_bin, v_neg, v_not, v_and, v_or, v_cmp, v_chn, v_ife, v_tup, v_lst, v_ix, v_sl, v_call, v_bi, v_bm, v_isi, v_lrng1, v_lrng2, v_comp, t_bl, t_int, t_var, t_glob, t_not, t_and, t_or, t_cmp, t_chn, t_call, t_bi, t_isi, t_ix, es_nil, es_cons, eo_none, eo_some, ec_none, ec_some, ei_seq, ei_rng1, ei_rng2, ei_enum, ei_zip, var0, varS, tg_nm, tg_tup, tgs_nil, tgs_cons, seq_tup, Option.bind_some, wipe_nil, wipe_cons, bind_ok', bind_ex', thn_ok, thn_nx, thn_rt, thn_bk, thn_ct, fin_nx, fin_rt, of_some, ob_sm, iteR_t, iteR_f, iteS_t, iteS_f, andR_t, andR_f, orR_t, orR_f, truR_b, intR_i, putS_s, putS'_s, setS_s, List.set_cons_succ, List.set_cons_zero, ty_non_int, ty_non_bool, ty_non_str, ty_non_tup, ty_non_lst, ty_non_dct, ty_bl_int, ty_bl_bool, ty_bl_str, ty_bl_tup, ty_bl_lst, ty_bl_dct, ty_int_int, ty_int_bool, ty_int_str, ty_int_tup, ty_int_lst, ty_int_dct, ty_str_int, ty_str_bool, ty_str_str, ty_str_tup, ty_str_lst, ty_str_dct, ty_tup_int, ty_tup_bool, ty_tup_str, ty_tup_tup, ty_tup_lst, ty_tup_dct, tru_non, tru_bl, tru_int, tru_tup, lt_int, le_int, gt_int, ge_int, eq_d, ne_d, is_d, isn_d, inn_d, nin_d, isNon_n, isNon_i, isNon_t, isNon_s, isNon_r, isNon_b, eq_int, eq_str, eq_bl, add_int, sub_int, neg_int, len_tup, bi_int_i, bi_int_b, bi_min, bi_max, rngW_i, seqW_t, newO_d, Bool.not_true, Bool.not_false, decide_true, decide_false, Bool.true_and, Bool.and_true, Bool.false_and, Bool.and_false, Bool.true_or, Bool.or_true, Bool.false_or, Bool.or_false, List.length_cons, List.length_nil, Nat.zero_add, Nat.reduceAdd, Nat.reduceLeDiff, SZ, ↓reduceIte, v_fld, t_fld, v_fnv, v_calll, t_calll, v_repr, v_dct0, s_raise0, s_raise1, s_tryk, thn_ex, thn_exS, fin_ex, truR_ex, keep_nx, keep_rt, eq_non_non, eq_non_int, eq_int_non, eq_str_non, eq_non_str, eq_int_str, eq_str_int, d3, q1, q2, z, rg, show (1 : Nat) ≤ 1000000 from by decide, show (5 : Nat) ≤ 1000000 from by decide]
    exact q
end K42
namespace K42
open Py
def X1 : E := (.lst (.cons (.bin .add (.sl (.var 1) .none (.some (.var 2))) (.sl (.var 1) (.some (.bin .add (.var 2) (.int 1))) .none)) (.cons (.bin .add (.var 1) (.lst (.cons (.var 5) .nil))) (.cons (.var 4) (.cons (.bi .tuple (.cons (.var 1) .nil)) (.cons .non (.cons (.bin .add (.var 1) (.lst (.cons .non .nil))) (.cons (.lst .nil) (.cons (.var 5) .nil)))))))))
def X2 : E := (.bin .add (.var 8) (.lst (.cons (.bin .add (.var 1) (.lst (.cons (.sl (.var 5) .none (.some (.int 4))) .nil))) (.cons (.bin .add (.var 1) (.lst (.cons (.bi .list (.cons (.var 5) .nil)) .nil))) (.cons (.lst (.cons (.var 1) .nil)) .nil)))))
def X3 : E := (.bin .add (.var 1) (.lst (.cons (.tup (.cons (.bin .pow (.int 10) (.int 9)) (.cons (.bin .mod (.bin .pow (.int 10) (.int 9)) (.int 8)) (.cons (.int 0) (.cons (.bin .pow (.int 10) (.int 6)) (.cons (.bl true) .nil)))))) .nil)))
def X4 : E := (.bin .add (.var 8) (.lst (.cons (.bin .add (.var 1) (.lst (.cons (.tup (.cons (.bin .add (.ix (.var 6) (.int 0)) (.bin .mul (.int 64) (.int 8))) (.cons (.ix (.var 6) (.int 1)) (.cons (.ix (.var 6) (.int 0)) (.cons (.ix (.var 6) (.int 3)) (.cons (.bl false) .nil)))))) .nil))) (.cons (.srev (.var 1)) (.cons .dct0 .nil)))))
def X5 : E := (.bin .add (.bin .add (.sl (.var 5) .none (.some (.var 7))) (.tup (.cons (.call 12 (.cons (.var 0) (.cons (.ix (.var 5) (.var 7)) (.cons (.var 5) .nil)))) .nil))) (.sl (.var 5) (.some (.bin .add (.var 7) (.int 1))) .none))
def X6 : E := (.bin .add (.bin .add (.sl (.var 1) .none (.some (.var 2))) (.lst (.cons (.var 9) .nil))) (.sl (.var 1) (.some (.bin .add (.var 2) (.int 1))) .none))
theorem d6b : d6.body = (.cons (.asg (.nm 2) (.call 2 (.cons (.var 0) (.cons (.bi .len (.cons (.var 1) .nil)) .nil)))) (.cons (.asg (.nm 3) (.call 2 (.cons (.var 0) (.cons (.bi .len (.cons (.var 1) .nil)) .nil)))) (.cons (.asg (.nm 4) (.bi .list (.cons (.var 1) .nil))) (.cons (.swap (.var 4) (.var 2) (.var 4) (.var 3) (.ix (.var 4) (.var 3)) (.ix (.var 4) (.var 2))) (.cons (.asg (.nm 5) (.ix (.var 1) (.var 2))) (.cons (.asg (.nm 6) (.ix (.var 1) (.var 3))) (.cons (.asg (.nm 7) (.call 2 (.cons (.var 0) (.cons (.int 5) .nil)))) (.cons (.asg (.nm 8) X1) (.cons (.asg (.nm 8) X2) (.cons (.ex (.bm .append (.var 8) (.cons X3 .nil))) (.cons (.asg (.nm 8) X4) (.cons (.iff (.cmp .eq (.call 2 (.cons (.var 0) (.cons (.int 3) .nil))) (.int 0)) (.cons (.ret (.ix (.var 8) (.call 2 (.cons (.var 0) (.cons (.int 15) .nil))))) .nil) .nil) (.cons (.asg (.nm 9) X5) (.cons (.ret X6) .nil)))))))))))))) := rfl
def Adk (m : Nat) : Prop := m ≠ 6 ∧ m ≠ 7
theorem kAg {h h' : Hh} (k : Keep h h') : Ag Adk h h' := fun m o a e => k.2 m a.1 a.2 o e
/-- flat and small -/
def sm : D → Prop
  | .non => True
  | .bl _ => True
  | .int i => 0 ≤ i ∧ i ≤ 1000000000
  | _ => False
theorem sm.dat {u : D} (x : sm u) {h : Hh} {n w : Nat} : Dat h Adk n w u := by
  cases u with
  | non => exact .non
  | bl b => exact .bl b
  | int i => exact .int i (natAbs_lt (by have := x.1; omega) (by have := x.2; omega))
  | _ => exact x.elim
theorem lines_small {m : Int} {M : List Ln} (G : Good m M) (m1 : 1 ≤ m) (m2 : m ≤ 8) (hl : M.length ≤ 60) {v : D} (hv : v ∈ LS m M) : ∃ l b c f z, v = .tup [.int l, b, c, .int f, .bl z] ∧ (0 ≤ l ∧ l ≤ 600) ∧ sm b ∧ sm c ∧ 0 ≤ f ∧ f ≤ 1000000 := by
  rcases List.mem_cons.mp hv with rfl | hv
  · exact ⟨0, _, _, 0, _, rfl, by decide, (show (0 : Int) ≤ 0 ∧ (0 : Int) ≤ 1000000000 from by decide), trivial, by decide, by decide⟩
  · obtain ⟨x, hx, rfl⟩ := List.mem_map.mp hv
    have b := G.b x hx
    have e1 := Int.emod_nonneg x.l (show m ≠ 0 by omega)
    have e2 := Int.emod_lt_of_pos x.l (show 0 < m by omega)
    exact ⟨x.l, _, _, x.f, _, rfl, by omega, ⟨e1, by omega⟩, ⟨b.2.2.2.2.1, by omega⟩, b.2.2.1, b.2.2.2.1⟩
theorem dats_all {h : Hh} {A : Nat → Prop} {n a : Nat} : ∀ {ys : List D}, (∀ v ∈ ys, Dat h A n a v) → Dats h A n ((a + 1) * ys.length) ys
  | [], _ => .nil
  | y :: ys, H => by
    refine .cons (H y (by simp)) (dats_all fun v hv => H v (by simp [hv])) ?_
    simp only [List.length_cons, Nat.mul_add, Nat.mul_one]
    omega
abbrev El (h : Hh) (v : D) : Prop := Dat h Adk 3 25 v
theorem thgL {h : Hh} {n : Nat} {ys : List D} {f : Bool} (a : 7 < n) (g : h[n]? = some (.lst ys f)) (H : ∀ v ∈ ys, El h v) (hl : ys.length ≤ 135) : Thg Adk h (.ref n) :=
  .inl ⟨4, 26 * ys.length, by decide, by omega, .lst ⟨by omega, by omega⟩ g (dats_all H)⟩
theorem thgT {h : Hh} {ys : List D} (H : ∀ v ∈ ys, El h v) (hl : ys.length ≤ 135) : Thg Adk h (.tup ys) :=
  .inl ⟨4, 26 * ys.length, by decide, by omega, .tup (dats_all H)⟩
theorem thgE {h : Hh} {v : D} (d : El h v) : Thg Adk h v := .inl ⟨3, 25, by decide, by decide, d⟩
theorem El.app {h : Hh} {v : D} (d : El h v) (e : Hh) : El (h ++ e) v := d.later (Ag.refl.app e)
theorem Thg.app {h : Hh} {v : D} (d : Thg Adk h v) (e : Hh) : Thg Adk (h ++ e) v := Thg.later d (Ag.refl.app e)
/-- an expression tells a thing, wherever the heap has grown -/
def Ev (C : Cl) (e : E) (σ : Sg) (b : Hh) (Pr : Hh → D → Prop) : Prop := ∀ x : Hh, ∃ v y, (den T C e).v σ (b ++ x) = .ok v (b ++ x ++ y) ∧ Pr (b ++ x ++ y) v
def Evs (C : Cl) (es : Es) (n : Nat) (σ : Sg) (b : Hh) : Prop := ∀ x : Hh, ∃ vs y, dens T C es σ (b ++ x) = .ok vs (b ++ x ++ y) ∧ vs.length = n ∧ ∀ v ∈ vs, Thg Adk (b ++ x ++ y) v
theorem evs_nil {C : Cl} {σ : Sg} {b : Hh} : Evs C .nil 0 σ b := fun x => ⟨[], [], by simp only [es_nil, List.append_nil], rfl, fun v hv => by cases hv⟩
theorem evs_cons {C : Cl} {e : E} {es : Es} {n : Nat} {σ : Sg} {b : Hh} (h1 : Ev C e σ b (Thg Adk)) (h2 : Evs C es n σ b) : Evs C (.cons e es) (n + 1) σ b := fun x => by
  obtain ⟨v, y, q, t⟩ := h1 x
  obtain ⟨vs, z, qs, l, ts⟩ := h2 (x ++ y)
  rw [← List.append_assoc] at qs ts
  refine ⟨v :: vs, y ++ z, ?_, by simp [l], fun u hu => ?_⟩
  · rw [← List.append_assoc]
    simp only [es_cons, q, bind_ok', qs]
  · rw [← List.append_assoc]
    rcases List.mem_cons.mp hu with rfl | hu
    · exact Thg.app t z
    · exact ts u hu
/-- a list of things is made -/
theorem lst_of {C : Cl} {es : Es} {n : Nat} {σ : Sg} {b : Hh} (h : Evs C es n σ b) (hn : n ≤ 1000000) : ∃ vs y, (den T C (.lst es)).v σ b = .ok (.ref (b ++ y).length) (b ++ y ++ [.lst vs false]) ∧ vs.length = n ∧ ∀ v ∈ vs, Thg Adk (b ++ y) v := by
  obtain ⟨vs, y, q, l, t⟩ := h []
  rw [List.append_nil] at q t
  refine ⟨vs, y, ?_, l, t⟩
  have hl : vs.length ≤ SZ := by unfold SZ; omega
  simp only [v_lst, q, bind_ok', if_pos hl, newO_d, of_some]
theorem ev_addl {C : Cl} {e : E} {σ : Sg} {b : Hh} {F : Nat} {ls : List D} (hσ : ∀ h, varR σ 1 h = .ok (.ref F) h) (gF : b[F]? = some (.lst ls false)) (lb : 7 < b.length) (hl : ls.length ≤ 65) (he : ∀ v ∈ ls, El b v) (h1 : Ev C e σ b El) : Ev C (.bin .add (.var 1) (.lst (.cons e .nil))) σ b (Thg Adk) := fun x => by
  obtain ⟨v, y, q, t⟩ := h1 x
  refine ⟨.ref (b ++ x ++ y ++ [O.lst [v] false]).length, y ++ [.lst [v] false] ++ [.lst (ls ++ [v]) false], ?_, ?_⟩
  · have g1 : (b ++ x ++ y ++ [O.lst [v] false])[F]? = some (.lst ls false) := get_app (get_app (get_app gF))
    have ad : binD .add (.ref F) (.ref (b ++ x ++ y).length) (b ++ x ++ y ++ [O.lst [v] false]) = some (.ref (b ++ x ++ y ++ [O.lst [v] false]).length, b ++ x ++ y ++ [O.lst [v] false] ++ [O.lst (ls ++ [v]) false]) := by
      rw [add_lst (a := ls) (b := [v]) g1 (by simp), if_pos (by simp [SZ]; omega)]
      rfl
    rw [show b ++ x ++ (y ++ [O.lst [v] false] ++ [O.lst (ls ++ [v]) false]) = b ++ x ++ y ++ [O.lst [v] false] ++ [O.lst (ls ++ [v]) false] by simp]
    simp (implicitDefEqProofs := false) only [ss_cons, ss_nil, s_asg, s_asgc, s_ex, s_ret, s_pass, s_iff, s_forr, s_setix, s_asgs, v_non, v_bl, v_int, v_str, v_var, v_glob, v_bin, v_neg, v_not, v_and, v_or, v_cmp, v_chn, v_ife, v_tup, v_lst, v_ix, v_sl, v_call, v_bi, v_bm, v_isi, v_lrng1, v_lrng2, v_comp, t_bl, t_int, t_var, t_glob, t_not, t_and, t_or, t_cmp, t_chn, t_call, t_bi, t_isi, t_ix, es_nil, es_cons, eo_none, eo_some, ec_none, ec_some, ei_seq, ei_rng1, ei_rng2, ei_enum, ei_zip, var0, varS, tg_nm, tg_tup, tgs_nil, tgs_cons, seq_tup, Option.bind_some, wipe_nil, wipe_cons, bind_ok', bind_ex', thn_ok, thn_nx, thn_rt, thn_bk, thn_ct, fin_nx, fin_rt, of_some, ob_sm, iteR_t, iteR_f, iteS_t, iteS_f, andR_t, andR_f, orR_t, orR_f, truR_b, intR_i, putS_s, putS'_s, setS_s, List.set_cons_succ, List.set_cons_zero, ty_non_int, ty_non_bool, ty_non_str, ty_non_tup, ty_non_lst, ty_non_dct, ty_bl_int, ty_bl_bool, ty_bl_str, ty_bl_tup, ty_bl_lst, ty_bl_dct, ty_int_int, ty_int_bool, ty_int_str, ty_int_tup, ty_int_lst, ty_int_dct, ty_str_int, ty_str_bool, ty_str_str, ty_str_tup, ty_str_lst, ty_str_dct, ty_tup_int, ty_tup_bool, ty_tup_str, ty_tup_tup, ty_tup_lst, ty_tup_dct, tru_non, tru_bl, tru_int, tru_tup, lt_int, le_int, gt_int, ge_int, eq_d, ne_d, is_d, isn_d, inn_d, nin_d, isNon_n, isNon_i, isNon_t, isNon_s, isNon_r, isNon_b, eq_int, eq_str, eq_bl, add_int, sub_int, neg_int, len_tup, bi_int_i, bi_int_b, bi_min, bi_max, rngW_i, seqW_t, newO_d, Bool.not_true, Bool.not_false, decide_true, decide_false, Bool.true_and, Bool.and_true, Bool.false_and, Bool.and_false, Bool.true_or, Bool.or_true, Bool.false_or, Bool.or_false, List.length_cons, List.length_nil, Nat.zero_add, Nat.reduceAdd, Nat.reduceLeDiff, SZ, ↓reduceIte, v_fld, t_fld, v_fnv, v_calll, t_calll, v_repr, v_dct0, s_raise0, s_raise1, s_tryk, thn_ex, thn_exS, fin_ex, truR_ex, keep_nx, keep_rt, eq_non_non, eq_non_int, eq_int_non, eq_str_non, eq_non_str, eq_int_str, eq_str_int, hσ, q, ad, show (1 : Nat) ≤ 1000000 from by decide]
  · rw [show b ++ x ++ (y ++ [O.lst [v] false] ++ [O.lst (ls ++ [v]) false]) = b ++ x ++ y ++ [O.lst [v] false] ++ [O.lst (ls ++ [v]) false] by simp]
    refine thgL (ys := ls ++ [v]) (f := false) (by simp; omega) (by simp) (fun u hu => ?_) (by simp; omega)
    rcases List.mem_append.mp hu with hu | hu
    · exact El.app (El.app (El.app (El.app (he u hu) x) y) _) _
    · rw [List.mem_singleton] at hu
      subst hu
      exact El.app (El.app t _) _
theorem ev_flat {C : Cl} {e : E} {σ : Sg} {b : Hh} {v : D} (h : ∀ h, (den T C e).v σ h = .ok v h) (d : Thg Adk b v) : Ev C e σ b (Thg Adk) := fun x => ⟨v, [], by rw [h, List.append_nil], by rw [List.append_nil]; exact Thg.app d x⟩
theorem ev_el {C : Cl} {e : E} {σ : Sg} {b : Hh} {v : D} (h : ∀ h, (den T C e).v σ h = .ok v h) (d : El b v) : Ev C e σ b El := fun x => ⟨v, [], by rw [h, List.append_nil], by rw [List.append_nil]; exact El.app d x⟩
/-- what bent works with -/
structure Sit (b : Hh) (F Hd : Nat) (ls hs : List D) (l : Int) (tb tc : D) (f : Int) (z : Bool) (wl : Int) (wb wc : D) (wf : Int) (wz : Bool) : Prop where
  gF : b[F]? = some (.lst ls false)
  gH : b[Hd]? = some (.lst hs false)
  lb : 7 < b.length
  lF : 7 < F
  lH : 7 < Hd
  el : ∀ v ∈ ls, El b v
  eh : ∀ v ∈ hs, El b v
  ll : ls.length ≤ 65
  lh : hs.length ≤ 65
  l1 : 0 ≤ l ∧ l ≤ 600
  sb : sm tb
  sc : sm tc
  f1 : 0 ≤ f ∧ f ≤ 1000000
  w1 : 0 ≤ wl ∧ wl ≤ 600
  swb : sm wb
  w2 : 0 ≤ wf ∧ wf ≤ 1000000
def sg (F Hd : Nat) (pl ot sp : Int) (l : Int) (tb tc : D) (f : Int) (z : Bool) (wl : Int) (wb wc : D) (wf : Int) (wz : Bool) (v8 v9 : Option D) : Sg := [some (.ref 7), some (.ref F), some (.int pl), some (.int ot), some (.ref Hd), some (.tup [.int l, tb, tc, .int f, .bl z]), some (.tup [.int wl, wb, wc, .int wf, .bl wz]), some (.int sp), v8, v9]
section
variable {C : Cl} {b : Hh} {F Hd : Nat} {ls hs : List D} {l : Int} {tb tc : D} {f : Int} {z : Bool} {wl : Int} {wb wc : D} {wf : Int} {wz : Bool} {pl ot sp : Int} {v8 v9 : Option D}
theorem Sit.th (S : Sit b F Hd ls hs l tb tc f z wl wb wc wf wz) : ∀ u ∈ [D.int l, tb, tc, .int f, .bl z], sm u := fun u hu => by
  simp only [List.mem_cons, List.not_mem_nil, or_false] at hu
  have := S.l1; have := S.f1
  rcases hu with rfl | rfl | rfl | rfl | rfl
  · exact ⟨by omega, by omega⟩
  · exact S.sb
  · exact S.sc
  · exact ⟨by omega, by omega⟩
  · trivial
theorem tup_el {h : Hh} {xs : List D} (H : ∀ u ∈ xs, sm u) (hl : xs.length ≤ 8) : El h (.tup xs) := (Dat.tup (dats_all (n := 0) (a := 0) fun u hu => (H u hu).dat)).mono (by decide) (by omega)
theorem x1_of (S : Sit b F Hd ls hs l tb tc f z wl wb wc wf wz) : ∃ vs y, (den T C X1).v (sg F Hd pl ot sp l tb tc f z wl wb wc wf wz v8 v9) b = .ok (.ref (b ++ y).length) (b ++ y ++ [.lst vs false]) ∧ vs.length = 8 ∧ ∀ v ∈ vs, Thg Adk (b ++ y) v := by
  have hσ : ∀ h, varR (sg F Hd pl ot sp l tb tc f z wl wb wc wf wz v8 v9) 1 h = .ok (.ref F) h := fun h => rfl
  have te : El b (.tup [.int l, tb, tc, .int f, .bl z]) := tup_el S.th (by simp)
  refine lst_of (n := 8) (evs_cons (fun x => ?_) (evs_cons (ev_addl hσ S.gF S.lb S.ll S.el (ev_el (v := .tup [.int l, tb, tc, .int f, .bl z]) (fun h => by simp (implicitDefEqProofs := false) only [ss_cons, ss_nil, s_asg, s_asgc, s_ex, s_ret, s_pass, s_iff, s_forr, s_setix, s_asgs, v_non, v_bl, v_int, v_str, v_var, v_glob, v_bin, v_neg, v_not, v_and, v_or, v_cmp, v_chn, v_ife, v_tup, v_lst, v_ix, v_sl, v_call, v_bi, v_bm, v_isi, v_lrng1, v_lrng2, v_comp, t_bl, t_int, t_var, t_glob, t_not, t_and, t_or, t_cmp, t_chn, t_call, t_bi, t_isi, t_ix, es_nil, es_cons, eo_none, eo_some, ec_none, ec_some, ei_seq, ei_rng1, ei_rng2, ei_enum, ei_zip, var0, varS, tg_nm, tg_tup, tgs_nil, tgs_cons, seq_tup, Option.bind_some, wipe_nil, wipe_cons, bind_ok', bind_ex', thn_ok, thn_nx, thn_rt, thn_bk, thn_ct, fin_nx, fin_rt, of_some, ob_sm, iteR_t, iteR_f, iteS_t, iteS_f, andR_t, andR_f, orR_t, orR_f, truR_b, intR_i, putS_s, putS'_s, setS_s, List.set_cons_succ, List.set_cons_zero, ty_non_int, ty_non_bool, ty_non_str, ty_non_tup, ty_non_lst, ty_non_dct, ty_bl_int, ty_bl_bool, ty_bl_str, ty_bl_tup, ty_bl_lst, ty_bl_dct, ty_int_int, ty_int_bool, ty_int_str, ty_int_tup, ty_int_lst, ty_int_dct, ty_str_int, ty_str_bool, ty_str_str, ty_str_tup, ty_str_lst, ty_str_dct, ty_tup_int, ty_tup_bool, ty_tup_str, ty_tup_tup, ty_tup_lst, ty_tup_dct, tru_non, tru_bl, tru_int, tru_tup, lt_int, le_int, gt_int, ge_int, eq_d, ne_d, is_d, isn_d, inn_d, nin_d, isNon_n, isNon_i, isNon_t, isNon_s, isNon_r, isNon_b, eq_int, eq_str, eq_bl, add_int, sub_int, neg_int, len_tup, bi_int_i, bi_int_b, bi_min, bi_max, rngW_i, seqW_t, newO_d, Bool.not_true, Bool.not_false, decide_true, decide_false, Bool.true_and, Bool.and_true, Bool.false_and, Bool.and_false, Bool.true_or, Bool.or_true, Bool.false_or, Bool.or_false, List.length_cons, List.length_nil, Nat.zero_add, Nat.reduceAdd, Nat.reduceLeDiff, SZ, ↓reduceIte, v_fld, t_fld, v_fnv, v_calll, t_calll, v_repr, v_dct0, s_raise0, s_raise1, s_tryk, thn_ex, thn_exS, fin_ex, truR_ex, keep_nx, keep_rt, eq_non_non, eq_non_int, eq_int_non, eq_str_non, eq_non_str, eq_int_str, eq_str_int, sg]) te)) (evs_cons (ev_flat (v := .ref Hd) (fun h => by simp (implicitDefEqProofs := false) only [ss_cons, ss_nil, s_asg, s_asgc, s_ex, s_ret, s_pass, s_iff, s_forr, s_setix, s_asgs, v_non, v_bl, v_int, v_str, v_var, v_glob, v_bin, v_neg, v_not, v_and, v_or, v_cmp, v_chn, v_ife, v_tup, v_lst, v_ix, v_sl, v_call, v_bi, v_bm, v_isi, v_lrng1, v_lrng2, v_comp, t_bl, t_int, t_var, t_glob, t_not, t_and, t_or, t_cmp, t_chn, t_call, t_bi, t_isi, t_ix, es_nil, es_cons, eo_none, eo_some, ec_none, ec_some, ei_seq, ei_rng1, ei_rng2, ei_enum, ei_zip, var0, varS, tg_nm, tg_tup, tgs_nil, tgs_cons, seq_tup, Option.bind_some, wipe_nil, wipe_cons, bind_ok', bind_ex', thn_ok, thn_nx, thn_rt, thn_bk, thn_ct, fin_nx, fin_rt, of_some, ob_sm, iteR_t, iteR_f, iteS_t, iteS_f, andR_t, andR_f, orR_t, orR_f, truR_b, intR_i, putS_s, putS'_s, setS_s, List.set_cons_succ, List.set_cons_zero, ty_non_int, ty_non_bool, ty_non_str, ty_non_tup, ty_non_lst, ty_non_dct, ty_bl_int, ty_bl_bool, ty_bl_str, ty_bl_tup, ty_bl_lst, ty_bl_dct, ty_int_int, ty_int_bool, ty_int_str, ty_int_tup, ty_int_lst, ty_int_dct, ty_str_int, ty_str_bool, ty_str_str, ty_str_tup, ty_str_lst, ty_str_dct, ty_tup_int, ty_tup_bool, ty_tup_str, ty_tup_tup, ty_tup_lst, ty_tup_dct, tru_non, tru_bl, tru_int, tru_tup, lt_int, le_int, gt_int, ge_int, eq_d, ne_d, is_d, isn_d, inn_d, nin_d, isNon_n, isNon_i, isNon_t, isNon_s, isNon_r, isNon_b, eq_int, eq_str, eq_bl, add_int, sub_int, neg_int, len_tup, bi_int_i, bi_int_b, bi_min, bi_max, rngW_i, seqW_t, newO_d, Bool.not_true, Bool.not_false, decide_true, decide_false, Bool.true_and, Bool.and_true, Bool.false_and, Bool.and_false, Bool.true_or, Bool.or_true, Bool.false_or, Bool.or_false, List.length_cons, List.length_nil, Nat.zero_add, Nat.reduceAdd, Nat.reduceLeDiff, SZ, ↓reduceIte, v_fld, t_fld, v_fnv, v_calll, t_calll, v_repr, v_dct0, s_raise0, s_raise1, s_tryk, thn_ex, thn_exS, fin_ex, truR_ex, keep_nx, keep_rt, eq_non_non, eq_non_int, eq_int_non, eq_str_non, eq_non_str, eq_int_str, eq_str_int, sg]) (thgL S.lH S.gH S.eh (by have := S.lh; omega))) (evs_cons (fun x => ?_) (evs_cons (ev_flat (v := .non) (fun h => by simp (implicitDefEqProofs := false) only [ss_cons, ss_nil, s_asg, s_asgc, s_ex, s_ret, s_pass, s_iff, s_forr, s_setix, s_asgs, v_non, v_bl, v_int, v_str, v_var, v_glob, v_bin, v_neg, v_not, v_and, v_or, v_cmp, v_chn, v_ife, v_tup, v_lst, v_ix, v_sl, v_call, v_bi, v_bm, v_isi, v_lrng1, v_lrng2, v_comp, t_bl, t_int, t_var, t_glob, t_not, t_and, t_or, t_cmp, t_chn, t_call, t_bi, t_isi, t_ix, es_nil, es_cons, eo_none, eo_some, ec_none, ec_some, ei_seq, ei_rng1, ei_rng2, ei_enum, ei_zip, var0, varS, tg_nm, tg_tup, tgs_nil, tgs_cons, seq_tup, Option.bind_some, wipe_nil, wipe_cons, bind_ok', bind_ex', thn_ok, thn_nx, thn_rt, thn_bk, thn_ct, fin_nx, fin_rt, of_some, ob_sm, iteR_t, iteR_f, iteS_t, iteS_f, andR_t, andR_f, orR_t, orR_f, truR_b, intR_i, putS_s, putS'_s, setS_s, List.set_cons_succ, List.set_cons_zero, ty_non_int, ty_non_bool, ty_non_str, ty_non_tup, ty_non_lst, ty_non_dct, ty_bl_int, ty_bl_bool, ty_bl_str, ty_bl_tup, ty_bl_lst, ty_bl_dct, ty_int_int, ty_int_bool, ty_int_str, ty_int_tup, ty_int_lst, ty_int_dct, ty_str_int, ty_str_bool, ty_str_str, ty_str_tup, ty_str_lst, ty_str_dct, ty_tup_int, ty_tup_bool, ty_tup_str, ty_tup_tup, ty_tup_lst, ty_tup_dct, tru_non, tru_bl, tru_int, tru_tup, lt_int, le_int, gt_int, ge_int, eq_d, ne_d, is_d, isn_d, inn_d, nin_d, isNon_n, isNon_i, isNon_t, isNon_s, isNon_r, isNon_b, eq_int, eq_str, eq_bl, add_int, sub_int, neg_int, len_tup, bi_int_i, bi_int_b, bi_min, bi_max, rngW_i, seqW_t, newO_d, Bool.not_true, Bool.not_false, decide_true, decide_false, Bool.true_and, Bool.and_true, Bool.false_and, Bool.and_false, Bool.true_or, Bool.or_true, Bool.false_or, Bool.or_false, List.length_cons, List.length_nil, Nat.zero_add, Nat.reduceAdd, Nat.reduceLeDiff, SZ, ↓reduceIte, v_fld, t_fld, v_fnv, v_calll, t_calll, v_repr, v_dct0, s_raise0, s_raise1, s_tryk, thn_ex, thn_exS, fin_ex, truR_ex, keep_nx, keep_rt, eq_non_non, eq_non_int, eq_int_non, eq_str_non, eq_non_str, eq_int_str, eq_str_int]) (thgE .non)) (evs_cons (ev_addl hσ S.gF S.lb S.ll S.el (ev_el (v := .non) (fun h => by simp (implicitDefEqProofs := false) only [ss_cons, ss_nil, s_asg, s_asgc, s_ex, s_ret, s_pass, s_iff, s_forr, s_setix, s_asgs, v_non, v_bl, v_int, v_str, v_var, v_glob, v_bin, v_neg, v_not, v_and, v_or, v_cmp, v_chn, v_ife, v_tup, v_lst, v_ix, v_sl, v_call, v_bi, v_bm, v_isi, v_lrng1, v_lrng2, v_comp, t_bl, t_int, t_var, t_glob, t_not, t_and, t_or, t_cmp, t_chn, t_call, t_bi, t_isi, t_ix, es_nil, es_cons, eo_none, eo_some, ec_none, ec_some, ei_seq, ei_rng1, ei_rng2, ei_enum, ei_zip, var0, varS, tg_nm, tg_tup, tgs_nil, tgs_cons, seq_tup, Option.bind_some, wipe_nil, wipe_cons, bind_ok', bind_ex', thn_ok, thn_nx, thn_rt, thn_bk, thn_ct, fin_nx, fin_rt, of_some, ob_sm, iteR_t, iteR_f, iteS_t, iteS_f, andR_t, andR_f, orR_t, orR_f, truR_b, intR_i, putS_s, putS'_s, setS_s, List.set_cons_succ, List.set_cons_zero, ty_non_int, ty_non_bool, ty_non_str, ty_non_tup, ty_non_lst, ty_non_dct, ty_bl_int, ty_bl_bool, ty_bl_str, ty_bl_tup, ty_bl_lst, ty_bl_dct, ty_int_int, ty_int_bool, ty_int_str, ty_int_tup, ty_int_lst, ty_int_dct, ty_str_int, ty_str_bool, ty_str_str, ty_str_tup, ty_str_lst, ty_str_dct, ty_tup_int, ty_tup_bool, ty_tup_str, ty_tup_tup, ty_tup_lst, ty_tup_dct, tru_non, tru_bl, tru_int, tru_tup, lt_int, le_int, gt_int, ge_int, eq_d, ne_d, is_d, isn_d, inn_d, nin_d, isNon_n, isNon_i, isNon_t, isNon_s, isNon_r, isNon_b, eq_int, eq_str, eq_bl, add_int, sub_int, neg_int, len_tup, bi_int_i, bi_int_b, bi_min, bi_max, rngW_i, seqW_t, newO_d, Bool.not_true, Bool.not_false, decide_true, decide_false, Bool.true_and, Bool.and_true, Bool.false_and, Bool.and_false, Bool.true_or, Bool.or_true, Bool.false_or, Bool.or_false, List.length_cons, List.length_nil, Nat.zero_add, Nat.reduceAdd, Nat.reduceLeDiff, SZ, ↓reduceIte, v_fld, t_fld, v_fnv, v_calll, t_calll, v_repr, v_dct0, s_raise0, s_raise1, s_tryk, thn_ex, thn_exS, fin_ex, truR_ex, keep_nx, keep_rt, eq_non_non, eq_non_int, eq_int_non, eq_str_non, eq_non_str, eq_int_str, eq_str_int]) .non)) (evs_cons (fun x => ?_) (evs_cons (ev_flat (v := .tup [.int l, tb, tc, .int f, .bl z]) (fun h => by simp (implicitDefEqProofs := false) only [ss_cons, ss_nil, s_asg, s_asgc, s_ex, s_ret, s_pass, s_iff, s_forr, s_setix, s_asgs, v_non, v_bl, v_int, v_str, v_var, v_glob, v_bin, v_neg, v_not, v_and, v_or, v_cmp, v_chn, v_ife, v_tup, v_lst, v_ix, v_sl, v_call, v_bi, v_bm, v_isi, v_lrng1, v_lrng2, v_comp, t_bl, t_int, t_var, t_glob, t_not, t_and, t_or, t_cmp, t_chn, t_call, t_bi, t_isi, t_ix, es_nil, es_cons, eo_none, eo_some, ec_none, ec_some, ei_seq, ei_rng1, ei_rng2, ei_enum, ei_zip, var0, varS, tg_nm, tg_tup, tgs_nil, tgs_cons, seq_tup, Option.bind_some, wipe_nil, wipe_cons, bind_ok', bind_ex', thn_ok, thn_nx, thn_rt, thn_bk, thn_ct, fin_nx, fin_rt, of_some, ob_sm, iteR_t, iteR_f, iteS_t, iteS_f, andR_t, andR_f, orR_t, orR_f, truR_b, intR_i, putS_s, putS'_s, setS_s, List.set_cons_succ, List.set_cons_zero, ty_non_int, ty_non_bool, ty_non_str, ty_non_tup, ty_non_lst, ty_non_dct, ty_bl_int, ty_bl_bool, ty_bl_str, ty_bl_tup, ty_bl_lst, ty_bl_dct, ty_int_int, ty_int_bool, ty_int_str, ty_int_tup, ty_int_lst, ty_int_dct, ty_str_int, ty_str_bool, ty_str_str, ty_str_tup, ty_str_lst, ty_str_dct, ty_tup_int, ty_tup_bool, ty_tup_str, ty_tup_tup, ty_tup_lst, ty_tup_dct, tru_non, tru_bl, tru_int, tru_tup, lt_int, le_int, gt_int, ge_int, eq_d, ne_d, is_d, isn_d, inn_d, nin_d, isNon_n, isNon_i, isNon_t, isNon_s, isNon_r, isNon_b, eq_int, eq_str, eq_bl, add_int, sub_int, neg_int, len_tup, bi_int_i, bi_int_b, bi_min, bi_max, rngW_i, seqW_t, newO_d, Bool.not_true, Bool.not_false, decide_true, decide_false, Bool.true_and, Bool.and_true, Bool.false_and, Bool.and_false, Bool.true_or, Bool.or_true, Bool.false_or, Bool.or_false, List.length_cons, List.length_nil, Nat.zero_add, Nat.reduceAdd, Nat.reduceLeDiff, SZ, ↓reduceIte, v_fld, t_fld, v_fnv, v_calll, t_calll, v_repr, v_dct0, s_raise0, s_raise1, s_tryk, thn_ex, thn_exS, fin_ex, truR_ex, keep_nx, keep_rt, eq_non_non, eq_non_int, eq_int_non, eq_str_non, eq_non_str, eq_int_str, eq_str_int, sg]) (thgE te)) evs_nil)))))))) (by decide)
  · have lb := S.lb
    have hl := S.ll
    have g0 : (b ++ x)[F]? = some (.lst ls false) := get_app S.gF
    obtain ⟨c1, e1⟩ : ∃ c, cut ls none (some pl) = c := ⟨_, rfl⟩
    obtain ⟨c2, e2⟩ : ∃ c, cut ls (some (pl + 1)) none = c := ⟨_, rfl⟩
    have s1 := sl_lst (lo := none) (hi := some pl) g0
    rw [e1] at s1
    have s2 := sl_lst (lo := some (pl + 1)) (hi := none) (get_app (e := [O.lst c1 false]) g0)
    rw [e2] at s2
    have k1 : c1.length ≤ ls.length := by rw [← e1]; exact cut_len
    have k2 : c2.length ≤ ls.length := by rw [← e2]; exact cut_len
    have ad : binD .add (.ref (b ++ x).length) (.ref (b ++ x ++ [O.lst c1 false]).length) (b ++ x ++ [O.lst c1 false] ++ [O.lst c2 false]) = some (.ref (b ++ x ++ [O.lst c1 false] ++ [O.lst c2 false]).length, b ++ x ++ [O.lst c1 false] ++ [O.lst c2 false] ++ [O.lst (c1 ++ c2) false]) := by
      rw [add_lst (a := c1) (b := c2) (by simp) (by simp), if_pos (by unfold SZ; omega)]
      rfl
    refine ⟨.ref (b ++ x ++ [O.lst c1 false] ++ [O.lst c2 false]).length, [O.lst c1 false] ++ [O.lst c2 false] ++ [O.lst (c1 ++ c2) false], ?_, ?_⟩
    · rw [show b ++ x ++ ([O.lst c1 false] ++ [O.lst c2 false] ++ [O.lst (c1 ++ c2) false]) = b ++ x ++ [O.lst c1 false] ++ [O.lst c2 false] ++ [O.lst (c1 ++ c2) false] by simp]
      simp (implicitDefEqProofs := false) only [ss_cons, ss_nil, s_asg, s_asgc, s_ex, s_ret, s_pass, s_iff, s_forr, s_setix, s_asgs, v_non, v_bl, v_int, v_str, v_var, v_glob, v_bin, v_neg, v_not, v_and, v_or, v_cmp, v_chn, v_ife, v_tup, v_lst, v_ix, v_sl, v_call, v_bi, v_bm, v_isi, v_lrng1, v_lrng2, v_comp, t_bl, t_int, t_var, t_glob, t_not, t_and, t_or, t_cmp, t_chn, t_call, t_bi, t_isi, t_ix, es_nil, es_cons, eo_none, eo_some, ec_none, ec_some, ei_seq, ei_rng1, ei_rng2, ei_enum, ei_zip, var0, varS, tg_nm, tg_tup, tgs_nil, tgs_cons, seq_tup, Option.bind_some, wipe_nil, wipe_cons, bind_ok', bind_ex', thn_ok, thn_nx, thn_rt, thn_bk, thn_ct, fin_nx, fin_rt, of_some, ob_sm, iteR_t, iteR_f, iteS_t, iteS_f, andR_t, andR_f, orR_t, orR_f, truR_b, intR_i, putS_s, putS'_s, setS_s, List.set_cons_succ, List.set_cons_zero, ty_non_int, ty_non_bool, ty_non_str, ty_non_tup, ty_non_lst, ty_non_dct, ty_bl_int, ty_bl_bool, ty_bl_str, ty_bl_tup, ty_bl_lst, ty_bl_dct, ty_int_int, ty_int_bool, ty_int_str, ty_int_tup, ty_int_lst, ty_int_dct, ty_str_int, ty_str_bool, ty_str_str, ty_str_tup, ty_str_lst, ty_str_dct, ty_tup_int, ty_tup_bool, ty_tup_str, ty_tup_tup, ty_tup_lst, ty_tup_dct, tru_non, tru_bl, tru_int, tru_tup, lt_int, le_int, gt_int, ge_int, eq_d, ne_d, is_d, isn_d, inn_d, nin_d, isNon_n, isNon_i, isNon_t, isNon_s, isNon_r, isNon_b, eq_int, eq_str, eq_bl, add_int, sub_int, neg_int, len_tup, bi_int_i, bi_int_b, bi_min, bi_max, rngW_i, seqW_t, newO_d, Bool.not_true, Bool.not_false, decide_true, decide_false, Bool.true_and, Bool.and_true, Bool.false_and, Bool.and_false, Bool.true_or, Bool.or_true, Bool.false_or, Bool.or_false, List.length_cons, List.length_nil, Nat.zero_add, Nat.reduceAdd, Nat.reduceLeDiff, SZ, ↓reduceIte, v_fld, t_fld, v_fnv, v_calll, t_calll, v_repr, v_dct0, s_raise0, s_raise1, s_tryk, thn_ex, thn_exS, fin_ex, truR_ex, keep_nx, keep_rt, eq_non_non, eq_non_int, eq_int_non, eq_str_non, eq_non_str, eq_int_str, eq_str_int, sg, s1, s2, ad]
    · rw [show b ++ x ++ ([O.lst c1 false] ++ [O.lst c2 false] ++ [O.lst (c1 ++ c2) false]) = b ++ x ++ [O.lst c1 false] ++ [O.lst c2 false] ++ [O.lst (c1 ++ c2) false] by simp]
      refine thgL (ys := c1 ++ c2) (f := false) (by simp; omega) (by simp) (fun u hu => ?_) (by rw [List.length_append]; omega)
      have hu' : u ∈ ls := by
        rcases List.mem_append.mp hu with q | q
        · rw [← e1] at q; exact cut_mem q
        · rw [← e2] at q; exact cut_mem q
      exact El.app (El.app (El.app (El.app (S.el u hu') x) _) _) _
  · have g0 : (b ++ x)[F]? = some (.lst ls false) := get_app S.gF
    refine ⟨.tup ls, [], ?_, ?_⟩
    · simp (implicitDefEqProofs := false) only [ss_cons, ss_nil, s_asg, s_asgc, s_ex, s_ret, s_pass, s_iff, s_forr, s_setix, s_asgs, v_non, v_bl, v_int, v_str, v_var, v_glob, v_bin, v_neg, v_not, v_and, v_or, v_cmp, v_chn, v_ife, v_tup, v_lst, v_ix, v_sl, v_call, v_bi, v_bm, v_isi, v_lrng1, v_lrng2, v_comp, t_bl, t_int, t_var, t_glob, t_not, t_and, t_or, t_cmp, t_chn, t_call, t_bi, t_isi, t_ix, es_nil, es_cons, eo_none, eo_some, ec_none, ec_some, ei_seq, ei_rng1, ei_rng2, ei_enum, ei_zip, var0, varS, tg_nm, tg_tup, tgs_nil, tgs_cons, seq_tup, Option.bind_some, wipe_nil, wipe_cons, bind_ok', bind_ex', thn_ok, thn_nx, thn_rt, thn_bk, thn_ct, fin_nx, fin_rt, of_some, ob_sm, iteR_t, iteR_f, iteS_t, iteS_f, andR_t, andR_f, orR_t, orR_f, truR_b, intR_i, putS_s, putS'_s, setS_s, List.set_cons_succ, List.set_cons_zero, ty_non_int, ty_non_bool, ty_non_str, ty_non_tup, ty_non_lst, ty_non_dct, ty_bl_int, ty_bl_bool, ty_bl_str, ty_bl_tup, ty_bl_lst, ty_bl_dct, ty_int_int, ty_int_bool, ty_int_str, ty_int_tup, ty_int_lst, ty_int_dct, ty_str_int, ty_str_bool, ty_str_str, ty_str_tup, ty_str_lst, ty_str_dct, ty_tup_int, ty_tup_bool, ty_tup_str, ty_tup_tup, ty_tup_lst, ty_tup_dct, tru_non, tru_bl, tru_int, tru_tup, lt_int, le_int, gt_int, ge_int, eq_d, ne_d, is_d, isn_d, inn_d, nin_d, isNon_n, isNon_i, isNon_t, isNon_s, isNon_r, isNon_b, eq_int, eq_str, eq_bl, add_int, sub_int, neg_int, len_tup, bi_int_i, bi_int_b, bi_min, bi_max, rngW_i, seqW_t, newO_d, Bool.not_true, Bool.not_false, decide_true, decide_false, Bool.true_and, Bool.and_true, Bool.false_and, Bool.and_false, Bool.true_or, Bool.or_true, Bool.false_or, Bool.or_false, List.length_cons, List.length_nil, Nat.zero_add, Nat.reduceAdd, Nat.reduceLeDiff, SZ, ↓reduceIte, v_fld, t_fld, v_fnv, v_calll, t_calll, v_repr, v_dct0, s_raise0, s_raise1, s_tryk, thn_ex, thn_exS, fin_ex, truR_ex, keep_nx, keep_rt, eq_non_non, eq_non_int, eq_int_non, eq_str_non, eq_non_str, eq_int_str, eq_str_int, sg, bi_tuple, seq_lst g0, List.append_nil]
    · rw [List.append_nil]
      exact thgT (fun u hu => El.app (S.el u hu) x) (by have := S.ll; omega)
  · refine ⟨.ref (b ++ x).length, [.lst [] false], by simp (implicitDefEqProofs := false) only [ss_cons, ss_nil, s_asg, s_asgc, s_ex, s_ret, s_pass, s_iff, s_forr, s_setix, s_asgs, v_non, v_bl, v_int, v_str, v_var, v_glob, v_bin, v_neg, v_not, v_and, v_or, v_cmp, v_chn, v_ife, v_tup, v_lst, v_ix, v_sl, v_call, v_bi, v_bm, v_isi, v_lrng1, v_lrng2, v_comp, t_bl, t_int, t_var, t_glob, t_not, t_and, t_or, t_cmp, t_chn, t_call, t_bi, t_isi, t_ix, es_nil, es_cons, eo_none, eo_some, ec_none, ec_some, ei_seq, ei_rng1, ei_rng2, ei_enum, ei_zip, var0, varS, tg_nm, tg_tup, tgs_nil, tgs_cons, seq_tup, Option.bind_some, wipe_nil, wipe_cons, bind_ok', bind_ex', thn_ok, thn_nx, thn_rt, thn_bk, thn_ct, fin_nx, fin_rt, of_some, ob_sm, iteR_t, iteR_f, iteS_t, iteS_f, andR_t, andR_f, orR_t, orR_f, truR_b, intR_i, putS_s, putS'_s, setS_s, List.set_cons_succ, List.set_cons_zero, ty_non_int, ty_non_bool, ty_non_str, ty_non_tup, ty_non_lst, ty_non_dct, ty_bl_int, ty_bl_bool, ty_bl_str, ty_bl_tup, ty_bl_lst, ty_bl_dct, ty_int_int, ty_int_bool, ty_int_str, ty_int_tup, ty_int_lst, ty_int_dct, ty_str_int, ty_str_bool, ty_str_str, ty_str_tup, ty_str_lst, ty_str_dct, ty_tup_int, ty_tup_bool, ty_tup_str, ty_tup_tup, ty_tup_lst, ty_tup_dct, tru_non, tru_bl, tru_int, tru_tup, lt_int, le_int, gt_int, ge_int, eq_d, ne_d, is_d, isn_d, inn_d, nin_d, isNon_n, isNon_i, isNon_t, isNon_s, isNon_r, isNon_b, eq_int, eq_str, eq_bl, add_int, sub_int, neg_int, len_tup, bi_int_i, bi_int_b, bi_min, bi_max, rngW_i, seqW_t, newO_d, Bool.not_true, Bool.not_false, decide_true, decide_false, Bool.true_and, Bool.and_true, Bool.false_and, Bool.and_false, Bool.true_or, Bool.or_true, Bool.false_or, Bool.or_false, List.length_cons, List.length_nil, Nat.zero_add, Nat.reduceAdd, Nat.reduceLeDiff, SZ, ↓reduceIte, v_fld, t_fld, v_fnv, v_calll, t_calll, v_repr, v_dct0, s_raise0, s_raise1, s_tryk, thn_ex, thn_exS, fin_ex, truR_ex, keep_nx, keep_rt, eq_non_non, eq_non_int, eq_int_non, eq_str_non, eq_non_str, eq_int_str, eq_str_int, Nat.zero_le], ?_⟩
    exact thgL (ys := []) (f := false) (by have := S.lb; simp; omega) (by simp) (fun u hu => by cases hu) (by decide)
/-- a list of things grows by others -/
theorem grow {es : Es} {n m q : Nat} {vs : List D} {σ : Sg} (g : b[q]? = some (.lst vs false)) (hσ : ∀ h, varR σ 8 h = .ok (.ref q) h) (lv : vs.length = m) (H : ∀ v ∈ vs, Thg Adk b v) (h : Evs C es n σ b) (hm : m + n ≤ 100) :
    ∃ us y, (den T C (.bin .add (.var 8) (.lst es))).v σ b = .ok (.ref (b ++ y).length) (b ++ y ++ [.lst us false]) ∧ us.length = m + n ∧ ∀ v ∈ us, Thg Adk (b ++ y) v := by
  obtain ⟨ws, y, e1, l1, t1⟩ := lst_of h (by omega)
  refine ⟨vs ++ ws, y ++ [.lst ws false], ?_, by rw [List.length_append]; omega, fun v hv => ?_⟩
  · have ad : binD .add (.ref q) (.ref (b ++ y).length) (b ++ y ++ [O.lst ws false]) = some (.ref (b ++ y ++ [O.lst ws false]).length, b ++ y ++ [O.lst ws false] ++ [O.lst (vs ++ ws) false]) := by
      rw [add_lst (a := vs) (b := ws) (get_app (get_app g)) (by simp), if_pos (by unfold SZ; omega)]
      rfl
    rw [← List.append_assoc]
    simp only [v_bin, v_var, hσ, bind_ok', e1, ad, of_some]
  · rw [← List.append_assoc]
    rcases List.mem_append.mp hv with q | q
    · exact Thg.app (Thg.app (H v q) y) _
    · exact Thg.app (t1 v q) _
theorem x2_of (S : Sit b F Hd ls hs l tb tc f z wl wb wc wf wz) {q : Nat} {vs : List D} (g : b[q]? = some (.lst vs false)) (lv : vs.length = 8) (H : ∀ v ∈ vs, Thg Adk b v) :
    ∃ us y, (den T C X2).v (sg F Hd pl ot sp l tb tc f z wl wb wc wf wz (some (.ref q)) v9) b = .ok (.ref (b ++ y).length) (b ++ y ++ [.lst us false]) ∧ us.length = 11 ∧ ∀ v ∈ us, Thg Adk (b ++ y) v := by
  have hσ : ∀ h, varR (sg F Hd pl ot sp l tb tc f z wl wb wc wf wz (some (.ref q)) v9) 1 h = .ok (.ref F) h := fun h => rfl
  refine grow g (fun h => rfl) lv H (evs_cons (ev_addl hσ S.gF S.lb S.ll S.el (ev_el (v := .tup [.int l, tb, tc, .int f]) (fun h => by simp (implicitDefEqProofs := false) only [ss_cons, ss_nil, s_asg, s_asgc, s_ex, s_ret, s_pass, s_iff, s_forr, s_setix, s_asgs, v_non, v_bl, v_int, v_str, v_var, v_glob, v_bin, v_neg, v_not, v_and, v_or, v_cmp, v_chn, v_ife, v_tup, v_lst, v_ix, v_sl, v_call, v_bi, v_bm, v_isi, v_lrng1, v_lrng2, v_comp, t_bl, t_int, t_var, t_glob, t_not, t_and, t_or, t_cmp, t_chn, t_call, t_bi, t_isi, t_ix, es_nil, es_cons, eo_none, eo_some, ec_none, ec_some, ei_seq, ei_rng1, ei_rng2, ei_enum, ei_zip, var0, varS, tg_nm, tg_tup, tgs_nil, tgs_cons, seq_tup, Option.bind_some, wipe_nil, wipe_cons, bind_ok', bind_ex', thn_ok, thn_nx, thn_rt, thn_bk, thn_ct, fin_nx, fin_rt, of_some, ob_sm, iteR_t, iteR_f, iteS_t, iteS_f, andR_t, andR_f, orR_t, orR_f, truR_b, intR_i, putS_s, putS'_s, setS_s, List.set_cons_succ, List.set_cons_zero, ty_non_int, ty_non_bool, ty_non_str, ty_non_tup, ty_non_lst, ty_non_dct, ty_bl_int, ty_bl_bool, ty_bl_str, ty_bl_tup, ty_bl_lst, ty_bl_dct, ty_int_int, ty_int_bool, ty_int_str, ty_int_tup, ty_int_lst, ty_int_dct, ty_str_int, ty_str_bool, ty_str_str, ty_str_tup, ty_str_lst, ty_str_dct, ty_tup_int, ty_tup_bool, ty_tup_str, ty_tup_tup, ty_tup_lst, ty_tup_dct, tru_non, tru_bl, tru_int, tru_tup, lt_int, le_int, gt_int, ge_int, eq_d, ne_d, is_d, isn_d, inn_d, nin_d, isNon_n, isNon_i, isNon_t, isNon_s, isNon_r, isNon_b, eq_int, eq_str, eq_bl, add_int, sub_int, neg_int, len_tup, bi_int_i, bi_int_b, bi_min, bi_max, rngW_i, seqW_t, newO_d, Bool.not_true, Bool.not_false, decide_true, decide_false, Bool.true_and, Bool.and_true, Bool.false_and, Bool.and_false, Bool.true_or, Bool.or_true, Bool.false_or, Bool.or_false, List.length_cons, List.length_nil, Nat.zero_add, Nat.reduceAdd, Nat.reduceLeDiff, SZ, ↓reduceIte, v_fld, t_fld, v_fnv, v_calll, t_calll, v_repr, v_dct0, s_raise0, s_raise1, s_tryk, thn_ex, thn_exS, fin_ex, truR_ex, keep_nx, keep_rt, eq_non_non, eq_non_int, eq_int_non, eq_str_non, eq_non_str, eq_int_str, eq_str_int, sg, sl_tup]; rfl) (tup_el (fun u hu => S.th u (by simp only [List.mem_cons, List.not_mem_nil, or_false] at hu ⊢; rcases hu with q | q | q | q <;> simp [q])) (by simp)))) (evs_cons (ev_addl hσ S.gF S.lb S.ll S.el (fun x => ?_)) (evs_cons (fun x => ?_) evs_nil))) (by decide)
  · refine ⟨.ref (b ++ x).length, [.lst [.int l, tb, tc, .int f, .bl z] false], by simp (implicitDefEqProofs := false) only [ss_cons, ss_nil, s_asg, s_asgc, s_ex, s_ret, s_pass, s_iff, s_forr, s_setix, s_asgs, v_non, v_bl, v_int, v_str, v_var, v_glob, v_bin, v_neg, v_not, v_and, v_or, v_cmp, v_chn, v_ife, v_tup, v_lst, v_ix, v_sl, v_call, v_bi, v_bm, v_isi, v_lrng1, v_lrng2, v_comp, t_bl, t_int, t_var, t_glob, t_not, t_and, t_or, t_cmp, t_chn, t_call, t_bi, t_isi, t_ix, es_nil, es_cons, eo_none, eo_some, ec_none, ec_some, ei_seq, ei_rng1, ei_rng2, ei_enum, ei_zip, var0, varS, tg_nm, tg_tup, tgs_nil, tgs_cons, seq_tup, Option.bind_some, wipe_nil, wipe_cons, bind_ok', bind_ex', thn_ok, thn_nx, thn_rt, thn_bk, thn_ct, fin_nx, fin_rt, of_some, ob_sm, iteR_t, iteR_f, iteS_t, iteS_f, andR_t, andR_f, orR_t, orR_f, truR_b, intR_i, putS_s, putS'_s, setS_s, List.set_cons_succ, List.set_cons_zero, ty_non_int, ty_non_bool, ty_non_str, ty_non_tup, ty_non_lst, ty_non_dct, ty_bl_int, ty_bl_bool, ty_bl_str, ty_bl_tup, ty_bl_lst, ty_bl_dct, ty_int_int, ty_int_bool, ty_int_str, ty_int_tup, ty_int_lst, ty_int_dct, ty_str_int, ty_str_bool, ty_str_str, ty_str_tup, ty_str_lst, ty_str_dct, ty_tup_int, ty_tup_bool, ty_tup_str, ty_tup_tup, ty_tup_lst, ty_tup_dct, tru_non, tru_bl, tru_int, tru_tup, lt_int, le_int, gt_int, ge_int, eq_d, ne_d, is_d, isn_d, inn_d, nin_d, isNon_n, isNon_i, isNon_t, isNon_s, isNon_r, isNon_b, eq_int, eq_str, eq_bl, add_int, sub_int, neg_int, len_tup, bi_int_i, bi_int_b, bi_min, bi_max, rngW_i, seqW_t, newO_d, Bool.not_true, Bool.not_false, decide_true, decide_false, Bool.true_and, Bool.and_true, Bool.false_and, Bool.and_false, Bool.true_or, Bool.or_true, Bool.false_or, Bool.or_false, List.length_cons, List.length_nil, Nat.zero_add, Nat.reduceAdd, Nat.reduceLeDiff, SZ, ↓reduceIte, v_fld, t_fld, v_fnv, v_calll, t_calll, v_repr, v_dct0, s_raise0, s_raise1, s_tryk, thn_ex, thn_exS, fin_ex, truR_ex, keep_nx, keep_rt, eq_non_non, eq_non_int, eq_int_non, eq_str_non, eq_non_str, eq_int_str, eq_str_int, sg, bi_list], ?_⟩
    have lb := S.lb
    exact (Dat.lst (n := 0) (w := 5) ⟨by simp; omega, by simp; omega⟩ (by simp; rfl) (dats_all (a := 0) fun u hu => (S.th u hu).dat)).mono (by decide) (by decide)
  · have lb := S.lb
    have hl := S.ll
    refine ⟨.ref (b ++ x).length, [.lst [.ref F] false], by simp (implicitDefEqProofs := false) only [ss_cons, ss_nil, s_asg, s_asgc, s_ex, s_ret, s_pass, s_iff, s_forr, s_setix, s_asgs, v_non, v_bl, v_int, v_str, v_var, v_glob, v_bin, v_neg, v_not, v_and, v_or, v_cmp, v_chn, v_ife, v_tup, v_lst, v_ix, v_sl, v_call, v_bi, v_bm, v_isi, v_lrng1, v_lrng2, v_comp, t_bl, t_int, t_var, t_glob, t_not, t_and, t_or, t_cmp, t_chn, t_call, t_bi, t_isi, t_ix, es_nil, es_cons, eo_none, eo_some, ec_none, ec_some, ei_seq, ei_rng1, ei_rng2, ei_enum, ei_zip, var0, varS, tg_nm, tg_tup, tgs_nil, tgs_cons, seq_tup, Option.bind_some, wipe_nil, wipe_cons, bind_ok', bind_ex', thn_ok, thn_nx, thn_rt, thn_bk, thn_ct, fin_nx, fin_rt, of_some, ob_sm, iteR_t, iteR_f, iteS_t, iteS_f, andR_t, andR_f, orR_t, orR_f, truR_b, intR_i, putS_s, putS'_s, setS_s, List.set_cons_succ, List.set_cons_zero, ty_non_int, ty_non_bool, ty_non_str, ty_non_tup, ty_non_lst, ty_non_dct, ty_bl_int, ty_bl_bool, ty_bl_str, ty_bl_tup, ty_bl_lst, ty_bl_dct, ty_int_int, ty_int_bool, ty_int_str, ty_int_tup, ty_int_lst, ty_int_dct, ty_str_int, ty_str_bool, ty_str_str, ty_str_tup, ty_str_lst, ty_str_dct, ty_tup_int, ty_tup_bool, ty_tup_str, ty_tup_tup, ty_tup_lst, ty_tup_dct, tru_non, tru_bl, tru_int, tru_tup, lt_int, le_int, gt_int, ge_int, eq_d, ne_d, is_d, isn_d, inn_d, nin_d, isNon_n, isNon_i, isNon_t, isNon_s, isNon_r, isNon_b, eq_int, eq_str, eq_bl, add_int, sub_int, neg_int, len_tup, bi_int_i, bi_int_b, bi_min, bi_max, rngW_i, seqW_t, newO_d, Bool.not_true, Bool.not_false, decide_true, decide_false, Bool.true_and, Bool.and_true, Bool.false_and, Bool.and_false, Bool.true_or, Bool.or_true, Bool.false_or, Bool.or_false, List.length_cons, List.length_nil, Nat.zero_add, Nat.reduceAdd, Nat.reduceLeDiff, SZ, ↓reduceIte, v_fld, t_fld, v_fnv, v_calll, t_calll, v_repr, v_dct0, s_raise0, s_raise1, s_tryk, thn_ex, thn_exS, fin_ex, truR_ex, keep_nx, keep_rt, eq_non_non, eq_non_int, eq_int_non, eq_str_non, eq_non_str, eq_int_str, eq_str_int, sg, show (1 : Nat) ≤ 1000000 from by decide], ?_⟩
    have lF := S.lF
    refine .inl ⟨5, 26 * ls.length + 1, by decide, by omega, .lst ⟨by simp; omega, by simp; omega⟩ (by simp; rfl) (Dats.one (.lst ⟨by omega, by omega⟩ (get_app (get_app S.gF)) (dats_all fun u hu => El.app (El.app (S.el u hu) x) _)))⟩
def T1 : D := .tup [.int 1000000000, .int 0, .int 0, .int 1000000, .bl true]
theorem t1_el {h : Hh} : El h T1 := tup_el (fun u hu => by
    simp only [List.mem_cons, List.not_mem_nil, or_false] at hu
    rcases hu with rfl | rfl | rfl | rfl | rfl <;> first | trivial | exact ⟨by decide, by decide⟩) (by simp)
theorem x3_of (S : Sit b F Hd ls hs l tb tc f z wl wb wc wf wz) : (den T C X3).v (sg F Hd pl ot sp l tb tc f z wl wb wc wf wz v8 v9) b = .ok (.ref (b.length + 1)) (b ++ [.lst [T1] false] ++ [.lst (ls ++ [T1]) false]) := by
  have m8 : ∀ h, binD .mod (.int 1000000000) (.int 8) h = some (.int 0, h) := fun h => by rw [mod_int, if_pos (by decide)]; rfl
  have hl := S.ll
  have ad : binD .add (.ref F) (.ref b.length) (b ++ [O.lst [T1] false]) = some (.ref (b.length + 1), b ++ [O.lst [T1] false] ++ [O.lst (ls ++ [T1]) false]) := by
    rw [add_lst (a := ls) (b := [T1]) (get_app S.gF) (by simp), if_pos (by simp [SZ]; omega)]
    simp
  simp only [T1] at ad ⊢
  unfold X3
  simp (implicitDefEqProofs := false) only [ss_cons, ss_nil, s_asg, s_asgc, s_ex, s_ret, s_pass, s_iff, s_forr, s_setix, s_asgs, v_non, v_bl, v_int, v_str, v_var, v_glob, v_bin, v_neg, v_not, v_and, v_or, v_cmp, v_chn, v_ife, v_tup, v_lst, v_ix, v_sl, v_call, v_bi, v_bm, v_isi, v_lrng1, v_lrng2, v_comp, t_bl, t_int, t_var, t_glob, t_not, t_and, t_or, t_cmp, t_chn, t_call, t_bi, t_isi, t_ix, es_nil, es_cons, eo_none, eo_some, ec_none, ec_some, ei_seq, ei_rng1, ei_rng2, ei_enum, ei_zip, var0, varS, tg_nm, tg_tup, tgs_nil, tgs_cons, seq_tup, Option.bind_some, wipe_nil, wipe_cons, bind_ok', bind_ex', thn_ok, thn_nx, thn_rt, thn_bk, thn_ct, fin_nx, fin_rt, of_some, ob_sm, iteR_t, iteR_f, iteS_t, iteS_f, andR_t, andR_f, orR_t, orR_f, truR_b, intR_i, putS_s, putS'_s, setS_s, List.set_cons_succ, List.set_cons_zero, ty_non_int, ty_non_bool, ty_non_str, ty_non_tup, ty_non_lst, ty_non_dct, ty_bl_int, ty_bl_bool, ty_bl_str, ty_bl_tup, ty_bl_lst, ty_bl_dct, ty_int_int, ty_int_bool, ty_int_str, ty_int_tup, ty_int_lst, ty_int_dct, ty_str_int, ty_str_bool, ty_str_str, ty_str_tup, ty_str_lst, ty_str_dct, ty_tup_int, ty_tup_bool, ty_tup_str, ty_tup_tup, ty_tup_lst, ty_tup_dct, tru_non, tru_bl, tru_int, tru_tup, lt_int, le_int, gt_int, ge_int, eq_d, ne_d, is_d, isn_d, inn_d, nin_d, isNon_n, isNon_i, isNon_t, isNon_s, isNon_r, isNon_b, eq_int, eq_str, eq_bl, add_int, sub_int, neg_int, len_tup, bi_int_i, bi_int_b, bi_min, bi_max, rngW_i, seqW_t, newO_d, Bool.not_true, Bool.not_false, decide_true, decide_false, Bool.true_and, Bool.and_true, Bool.false_and, Bool.and_false, Bool.true_or, Bool.or_true, Bool.false_or, Bool.or_false, List.length_cons, List.length_nil, Nat.zero_add, Nat.reduceAdd, Nat.reduceLeDiff, SZ, ↓reduceIte, v_fld, t_fld, v_fnv, v_calll, t_calll, v_repr, v_dct0, s_raise0, s_raise1, s_tryk, thn_ex, thn_exS, fin_ex, truR_ex, keep_nx, keep_rt, eq_non_non, eq_non_int, eq_int_non, eq_str_non, eq_non_str, eq_int_str, eq_str_int, sg, p9, p6, m8, ad, show (5 : Nat) ≤ 1000000 from by decide, show (1 : Nat) ≤ 1000000 from by decide]
theorem Sit.grow (S : Sit b F Hd ls hs l tb tc f z wl wb wc wf wz) {b' : Hh} (gF : b'[F]? = some (.lst ls false)) (gH : b'[Hd]? = some (.lst hs false)) (lb : 7 < b'.length) (el : ∀ v, El b v → El b' v) : Sit b' F Hd ls hs l tb tc f z wl wb wc wf wz :=
  ⟨gF, gH, lb, S.lF, S.lH, fun v hv => el v (S.el v hv), fun v hv => el v (S.eh v hv), S.ll, S.lh, S.l1, S.sb, S.sc, S.f1, S.w1, S.swb, S.w2⟩
theorem Sit.app (S : Sit b F Hd ls hs l tb tc f z wl wb wc wf wz) (e : Hh) : Sit (b ++ e) F Hd ls hs l tb tc f z wl wb wc wf wz :=
  S.grow (get_app S.gF) (get_app S.gH) (by have := S.lb; simp; omega) fun v d => El.app d e
theorem x4_of (S : Sit b F Hd ls hs l tb tc f z wl wb wc wf wz) {q : Nat} {vs : List D} (g : b[q]? = some (.lst vs false)) (lv : vs.length = 12) (H : ∀ v ∈ vs, Thg Adk b v) :
    ∃ us y, (den T C X4).v (sg F Hd pl ot sp l tb tc f z wl wb wc wf wz (some (.ref q)) v9) b = .ok (.ref (b ++ y).length) (b ++ y ++ [.lst us false]) ∧ us.length = 15 ∧ ∀ v ∈ us, Thg Adk (b ++ y) v := by
  have mu : ∀ h, binD .mul (.int 64) (.int 8) h = some (.int 512, h) := fun h => pmul (.inr (by decide))
  have w1 := S.w1
  have w2 := S.w2
  refine grow g (fun h => rfl) lv H (evs_cons (ev_addl (fun h => rfl) S.gF S.lb S.ll S.el (ev_el (v := .tup [.int (wl + 512), wb, .int wl, .int wf, .bl false]) (fun h => by simp (implicitDefEqProofs := false) only [ss_cons, ss_nil, s_asg, s_asgc, s_ex, s_ret, s_pass, s_iff, s_forr, s_setix, s_asgs, v_non, v_bl, v_int, v_str, v_var, v_glob, v_bin, v_neg, v_not, v_and, v_or, v_cmp, v_chn, v_ife, v_tup, v_lst, v_ix, v_sl, v_call, v_bi, v_bm, v_isi, v_lrng1, v_lrng2, v_comp, t_bl, t_int, t_var, t_glob, t_not, t_and, t_or, t_cmp, t_chn, t_call, t_bi, t_isi, t_ix, es_nil, es_cons, eo_none, eo_some, ec_none, ec_some, ei_seq, ei_rng1, ei_rng2, ei_enum, ei_zip, var0, varS, tg_nm, tg_tup, tgs_nil, tgs_cons, seq_tup, Option.bind_some, wipe_nil, wipe_cons, bind_ok', bind_ex', thn_ok, thn_nx, thn_rt, thn_bk, thn_ct, fin_nx, fin_rt, of_some, ob_sm, iteR_t, iteR_f, iteS_t, iteS_f, andR_t, andR_f, orR_t, orR_f, truR_b, intR_i, putS_s, putS'_s, setS_s, List.set_cons_succ, List.set_cons_zero, ty_non_int, ty_non_bool, ty_non_str, ty_non_tup, ty_non_lst, ty_non_dct, ty_bl_int, ty_bl_bool, ty_bl_str, ty_bl_tup, ty_bl_lst, ty_bl_dct, ty_int_int, ty_int_bool, ty_int_str, ty_int_tup, ty_int_lst, ty_int_dct, ty_str_int, ty_str_bool, ty_str_str, ty_str_tup, ty_str_lst, ty_str_dct, ty_tup_int, ty_tup_bool, ty_tup_str, ty_tup_tup, ty_tup_lst, ty_tup_dct, tru_non, tru_bl, tru_int, tru_tup, lt_int, le_int, gt_int, ge_int, eq_d, ne_d, is_d, isn_d, inn_d, nin_d, isNon_n, isNon_i, isNon_t, isNon_s, isNon_r, isNon_b, eq_int, eq_str, eq_bl, add_int, sub_int, neg_int, len_tup, bi_int_i, bi_int_b, bi_min, bi_max, rngW_i, seqW_t, newO_d, Bool.not_true, Bool.not_false, decide_true, decide_false, Bool.true_and, Bool.and_true, Bool.false_and, Bool.and_false, Bool.true_or, Bool.or_true, Bool.false_or, Bool.or_false, List.length_cons, List.length_nil, Nat.zero_add, Nat.reduceAdd, Nat.reduceLeDiff, SZ, ↓reduceIte, v_fld, t_fld, v_fnv, v_calll, t_calll, v_repr, v_dct0, s_raise0, s_raise1, s_tryk, thn_ex, thn_exS, fin_ex, truR_ex, keep_nx, keep_rt, eq_non_non, eq_non_int, eq_int_non, eq_str_non, eq_non_str, eq_int_str, eq_str_int, sg, i0, i1, i3, mu, show (5 : Nat) ≤ 1000000 from by decide]) (tup_el (fun u hu => by
    simp only [List.mem_cons, List.not_mem_nil, or_false] at hu
    rcases hu with rfl | rfl | rfl | rfl | rfl
    · exact ⟨by omega, by omega⟩
    · exact S.swb
    · exact ⟨by omega, by omega⟩
    · exact ⟨by omega, by omega⟩
    · trivial) (by simp)))) (evs_cons (fun x => ?_) (evs_cons (fun x => ?_) evs_nil))) (by decide)
  · have lb := S.lb
    have hl := S.ll
    have g0 : (b ++ x)[F]? = some (.lst ls false) := get_app S.gF
    refine ⟨.ref (b ++ x).length, [.lst ls.reverse false], by simp (implicitDefEqProofs := false) only [ss_cons, ss_nil, s_asg, s_asgc, s_ex, s_ret, s_pass, s_iff, s_forr, s_setix, s_asgs, v_non, v_bl, v_int, v_str, v_var, v_glob, v_bin, v_neg, v_not, v_and, v_or, v_cmp, v_chn, v_ife, v_tup, v_lst, v_ix, v_sl, v_call, v_bi, v_bm, v_isi, v_lrng1, v_lrng2, v_comp, t_bl, t_int, t_var, t_glob, t_not, t_and, t_or, t_cmp, t_chn, t_call, t_bi, t_isi, t_ix, es_nil, es_cons, eo_none, eo_some, ec_none, ec_some, ei_seq, ei_rng1, ei_rng2, ei_enum, ei_zip, var0, varS, tg_nm, tg_tup, tgs_nil, tgs_cons, seq_tup, Option.bind_some, wipe_nil, wipe_cons, bind_ok', bind_ex', thn_ok, thn_nx, thn_rt, thn_bk, thn_ct, fin_nx, fin_rt, of_some, ob_sm, iteR_t, iteR_f, iteS_t, iteS_f, andR_t, andR_f, orR_t, orR_f, truR_b, intR_i, putS_s, putS'_s, setS_s, List.set_cons_succ, List.set_cons_zero, ty_non_int, ty_non_bool, ty_non_str, ty_non_tup, ty_non_lst, ty_non_dct, ty_bl_int, ty_bl_bool, ty_bl_str, ty_bl_tup, ty_bl_lst, ty_bl_dct, ty_int_int, ty_int_bool, ty_int_str, ty_int_tup, ty_int_lst, ty_int_dct, ty_str_int, ty_str_bool, ty_str_str, ty_str_tup, ty_str_lst, ty_str_dct, ty_tup_int, ty_tup_bool, ty_tup_str, ty_tup_tup, ty_tup_lst, ty_tup_dct, tru_non, tru_bl, tru_int, tru_tup, lt_int, le_int, gt_int, ge_int, eq_d, ne_d, is_d, isn_d, inn_d, nin_d, isNon_n, isNon_i, isNon_t, isNon_s, isNon_r, isNon_b, eq_int, eq_str, eq_bl, add_int, sub_int, neg_int, len_tup, bi_int_i, bi_int_b, bi_min, bi_max, rngW_i, seqW_t, newO_d, Bool.not_true, Bool.not_false, decide_true, decide_false, Bool.true_and, Bool.and_true, Bool.false_and, Bool.and_false, Bool.true_or, Bool.or_true, Bool.false_or, Bool.or_false, List.length_cons, List.length_nil, Nat.zero_add, Nat.reduceAdd, Nat.reduceLeDiff, SZ, ↓reduceIte, v_fld, t_fld, v_fnv, v_calll, t_calll, v_repr, v_dct0, s_raise0, s_raise1, s_tryk, thn_ex, thn_exS, fin_ex, truR_ex, keep_nx, keep_rt, eq_non_non, eq_non_int, eq_int_non, eq_str_non, eq_non_str, eq_int_str, eq_str_int, sg, v_srev, srev_l g0], ?_⟩
    exact thgL (ys := ls.reverse) (f := false) (by simp; omega) (by simp) (fun u hu => El.app (El.app (S.el u (List.mem_reverse.mp hu)) x) _) (by simp; omega)
  · have lb := S.lb
    refine ⟨.ref (b ++ x).length, [.dct [] false], by simp (implicitDefEqProofs := false) only [ss_cons, ss_nil, s_asg, s_asgc, s_ex, s_ret, s_pass, s_iff, s_forr, s_setix, s_asgs, v_non, v_bl, v_int, v_str, v_var, v_glob, v_bin, v_neg, v_not, v_and, v_or, v_cmp, v_chn, v_ife, v_tup, v_lst, v_ix, v_sl, v_call, v_bi, v_bm, v_isi, v_lrng1, v_lrng2, v_comp, t_bl, t_int, t_var, t_glob, t_not, t_and, t_or, t_cmp, t_chn, t_call, t_bi, t_isi, t_ix, es_nil, es_cons, eo_none, eo_some, ec_none, ec_some, ei_seq, ei_rng1, ei_rng2, ei_enum, ei_zip, var0, varS, tg_nm, tg_tup, tgs_nil, tgs_cons, seq_tup, Option.bind_some, wipe_nil, wipe_cons, bind_ok', bind_ex', thn_ok, thn_nx, thn_rt, thn_bk, thn_ct, fin_nx, fin_rt, of_some, ob_sm, iteR_t, iteR_f, iteS_t, iteS_f, andR_t, andR_f, orR_t, orR_f, truR_b, intR_i, putS_s, putS'_s, setS_s, List.set_cons_succ, List.set_cons_zero, ty_non_int, ty_non_bool, ty_non_str, ty_non_tup, ty_non_lst, ty_non_dct, ty_bl_int, ty_bl_bool, ty_bl_str, ty_bl_tup, ty_bl_lst, ty_bl_dct, ty_int_int, ty_int_bool, ty_int_str, ty_int_tup, ty_int_lst, ty_int_dct, ty_str_int, ty_str_bool, ty_str_str, ty_str_tup, ty_str_lst, ty_str_dct, ty_tup_int, ty_tup_bool, ty_tup_str, ty_tup_tup, ty_tup_lst, ty_tup_dct, tru_non, tru_bl, tru_int, tru_tup, lt_int, le_int, gt_int, ge_int, eq_d, ne_d, is_d, isn_d, inn_d, nin_d, isNon_n, isNon_i, isNon_t, isNon_s, isNon_r, isNon_b, eq_int, eq_str, eq_bl, add_int, sub_int, neg_int, len_tup, bi_int_i, bi_int_b, bi_min, bi_max, rngW_i, seqW_t, newO_d, Bool.not_true, Bool.not_false, decide_true, decide_false, Bool.true_and, Bool.and_true, Bool.false_and, Bool.and_false, Bool.true_or, Bool.or_true, Bool.false_or, Bool.or_false, List.length_cons, List.length_nil, Nat.zero_add, Nat.reduceAdd, Nat.reduceLeDiff, SZ, ↓reduceIte, v_fld, t_fld, v_fnv, v_calll, t_calll, v_repr, v_dct0, s_raise0, s_raise1, s_tryk, thn_ex, thn_exS, fin_ex, truR_ex, keep_nx, keep_rt, eq_non_non, eq_non_int, eq_int_non, eq_str_non, eq_non_str, eq_int_str, eq_str_int], ?_⟩
    exact .inr ⟨_, ⟨by simp; omega, by simp; omega⟩, rfl, by simp⟩
end
end K42
namespace K42
open Py
abbrev Fl (v : D) : Prop := ∀ b : Hh, Dat b Adk 1 14 v
theorem odd (k : Nat) (u : D) (ts : List D) (h : Hh) (B : Nat) (x : Deck h B) (hB : B ≤ 90000) (su : sm u) (l5 : ts.length = 5) (st : ∀ v ∈ ts, sm v) :
    ∃ v h', run T P (k + 2) 12 [.ref 7, u, .tup ts] h = .ok v h' ∧ Fl v ∧ Deck h' (B + 3) ∧ Keep h h' := by
  obtain ⟨r1, h1, q1, a1, b1, D1, K1⟩ := take k 5 h B x (by omega) (by decide) (by decide)
  obtain ⟨n, rfl⟩ := int_nat a1
  obtain ⟨tv, htv⟩ : ∃ v, ts[n]? = some v := ⟨_, List.getElem?_eq_getElem (by omega)⟩
  have it := ixt (h := h1) n htv
  have stv := st tv (List.mem_of_getElem? htv)
  have lt1 := Deck.lt D1
  have ll : ∀ h, biD .len [.tup ts] h = some (.int 5, h) := fun h => by rw [len_tup, l5]; rfl
  obtain ⟨so, hso⟩ : ∃ z : List D, [.non, .bl true, .bl false, .int (-1), .int (10 ^ 40), .int (1000000000 + 1), .str [48], .tup [], .int 0, .int 1, tv] = z := ⟨_, rfl⟩
  have lso : so.length = 11 := by rw [← hso]; rfl
  have fl0 : ∀ v : D, sm v → Fl v := fun v s b => s.dat
  have Ds := D1.app [.lst so false]
  have fin : ∀ (h2 : Hh) (B2 : Nat), Deck h2 B2 → B2 ≤ B + 2 → Keep (h1 ++ [.lst so false]) h2 → ∃ v h', ∃ r : Int, run T P (k + 1) 2 [.ref 7, .int 11] h2 = .ok (.int r) h' ∧ ixD (.ref h1.length) (.int r) h' = some (v, h') ∧ Fl v ∧ Deck h' (B + 3) ∧ Keep h h' := by
    intro h2 B2 D2 b2 K2
    obtain ⟨r3, h3, q3, a3, b3, D3, K3⟩ := take k 11 h2 _ D2 (by omega) (by decide) (by decide)
    obtain ⟨j, rfl⟩ := int_nat a3
    obtain ⟨v, hv⟩ : ∃ v, so[j]? = some v := ⟨_, List.getElem?_eq_getElem (by omega)⟩
    refine ⟨v, h3, j, q3, ixl h3 _ _ j _ (K3.2 _ (by omega) (by omega) _ (K2.2 _ (by omega) (by omega) _ (by simp))) hv, ?_, D3.mono (by omega), K1.trans (((Keep.refl h1).app _).trans (K2.trans K3))⟩
    have hm := List.mem_of_getElem? hv
    rw [← hso] at hm
    simp only [List.mem_cons, List.not_mem_nil, or_false] at hm
    rcases hm with rfl | rfl | rfl | rfl | rfl | rfl | rfl | rfl | rfl | rfl | rfl
    · exact fun b => .non
    · exact fun b => .bl _
    · exact fun b => .bl _
    · exact fun b => .int _ (by decide)
    · exact fun b => .int _ (by decide)
    · exact fun b => .int _ (by decide)
    · exact fun b => .str _ (by decide) (by decide)
    · exact fun b => .tup .nil
    · exact fun b => .int _ (by decide)
    · exact fun b => .int _ (by decide)
    · exact fl0 v stv
  have ou : okv (h1 ++ [.lst so false]) u := by cases u <;> first | trivial | exact su.elim
  have fv := fromV k u 1000000000 (h1 ++ [.lst so false]) ou
  rw [u12]
  cases qf : uptoB u 1000000000 with
  | false =>
    rw [qf] at fv
    obtain ⟨v, h', r, e1, e2, e3, e4, e5⟩ := fin _ _ Ds (by omega) (Keep.refl _)
    refine ⟨v, h', ?_, e3, e4, e5⟩
    simp (implicitDefEqProofs := false) only [ss_cons, ss_nil, s_asg, s_asgc, s_ex, s_ret, s_pass, s_iff, s_forr, s_setix, s_asgs, v_non, v_bl, v_int, v_str, v_var, v_glob, v_bin, v_neg, v_not, v_and, v_or, v_cmp, v_chn, v_ife, v_tup, v_lst, v_ix, v_sl, v_call, v_bi, v_bm, v_isi, v_lrng1, v_lrng2, v_comp, t_bl, t_int, t_var, t_glob, t_not, t_and, t_or, t_cmp, t_chn, t_call, t_bi, t_isi, t_ix, es_nil, es_cons, eo_none, eo_some, ec_none, ec_some, ei_seq, ei_rng1, ei_rng2, ei_enum, ei_zip, var0, varS, tg_nm, tg_tup, tgs_nil, tgs_cons, seq_tup, Option.bind_some, wipe_nil, wipe_cons, bind_ok', bind_ex', thn_ok, thn_nx, thn_rt, thn_bk, thn_ct, fin_nx, fin_rt, of_some, ob_sm, iteR_t, iteR_f, iteS_t, iteS_f, andR_t, andR_f, orR_t, orR_f, truR_b, intR_i, putS_s, putS'_s, setS_s, List.set_cons_succ, List.set_cons_zero, ty_non_int, ty_non_bool, ty_non_str, ty_non_tup, ty_non_lst, ty_non_dct, ty_bl_int, ty_bl_bool, ty_bl_str, ty_bl_tup, ty_bl_lst, ty_bl_dct, ty_int_int, ty_int_bool, ty_int_str, ty_int_tup, ty_int_lst, ty_int_dct, ty_str_int, ty_str_bool, ty_str_str, ty_str_tup, ty_str_lst, ty_str_dct, ty_tup_int, ty_tup_bool, ty_tup_str, ty_tup_tup, ty_tup_lst, ty_tup_dct, tru_non, tru_bl, tru_int, tru_tup, lt_int, le_int, gt_int, ge_int, eq_d, ne_d, is_d, isn_d, inn_d, nin_d, isNon_n, isNon_i, isNon_t, isNon_s, isNon_r, isNon_b, eq_int, eq_str, eq_bl, add_int, sub_int, neg_int, len_tup, bi_int_i, bi_int_b, bi_min, bi_max, rngW_i, seqW_t, newO_d, Bool.not_true, Bool.not_false, decide_true, decide_false, Bool.true_and, Bool.and_true, Bool.false_and, Bool.and_false, Bool.true_or, Bool.or_true, Bool.false_or, Bool.or_false, List.length_cons, List.length_nil, Nat.zero_add, Nat.reduceAdd, Nat.reduceLeDiff, SZ, ↓reduceIte, v_fld, t_fld, v_fnv, v_calll, t_calll, v_repr, v_dct0, s_raise0, s_raise1, s_tryk, thn_ex, thn_exS, fin_ex, truR_ex, keep_nx, keep_rt, eq_non_non, eq_non_int, eq_int_non, eq_str_non, eq_non_str, eq_int_str, eq_str_int, d12, p40, p9, ll, q1, it, hso, lso, fv, e1, e2, Nat.zero_le]
  | true =>
    rw [qf] at fv
    obtain ⟨i, rfl, i1, i2⟩ := upto_int qf
    obtain ⟨r2, h2, q2, a2, b2, D2, K2⟩ := take k 3 _ _ Ds (by omega) (by decide) (by decide)
    by_cases z : 0 < r2
    · have lt2 := Deck.lt D2
      obtain ⟨s, es, sl, sc⟩ := bi_str_i (h := h2) (i := i) (by omega) (by omega)
      obtain ⟨al, hal⟩ : ∃ w : List D, [.int (i + 1), .int (i - 1), .int (i + 8), .str s, .bl (decide (i = 1)), .tup [.int i]] = w := ⟨_, rfl⟩
      have lal : al.length = 6 := by rw [← hal]; rfl
      obtain ⟨r3, h3, q3, a3, b3, D3, K3⟩ := take k 6 (h2 ++ [.lst al false]) _ (D2.app _) (by omega) (by decide) (by decide)
      obtain ⟨j, rfl⟩ := int_nat a3
      obtain ⟨v, hv⟩ : ∃ v, al[j]? = some v := ⟨_, List.getElem?_eq_getElem (by omega)⟩
      have ij := ixl h3 h2.length _ j _ (K3.2 _ (by omega) (by omega) _ (by simp)) hv
      refine ⟨v, h3, ?_, ?_, D3.mono (by omega), K1.trans (((Keep.refl h1).app _).trans (K2.trans (((Keep.refl h2).app _).trans K3)))⟩
      · simp (implicitDefEqProofs := false) only [ss_cons, ss_nil, s_asg, s_asgc, s_ex, s_ret, s_pass, s_iff, s_forr, s_setix, s_asgs, v_non, v_bl, v_int, v_str, v_var, v_glob, v_bin, v_neg, v_not, v_and, v_or, v_cmp, v_chn, v_ife, v_tup, v_lst, v_ix, v_sl, v_call, v_bi, v_bm, v_isi, v_lrng1, v_lrng2, v_comp, t_bl, t_int, t_var, t_glob, t_not, t_and, t_or, t_cmp, t_chn, t_call, t_bi, t_isi, t_ix, es_nil, es_cons, eo_none, eo_some, ec_none, ec_some, ei_seq, ei_rng1, ei_rng2, ei_enum, ei_zip, var0, varS, tg_nm, tg_tup, tgs_nil, tgs_cons, seq_tup, Option.bind_some, wipe_nil, wipe_cons, bind_ok', bind_ex', thn_ok, thn_nx, thn_rt, thn_bk, thn_ct, fin_nx, fin_rt, of_some, ob_sm, iteR_t, iteR_f, iteS_t, iteS_f, andR_t, andR_f, orR_t, orR_f, truR_b, intR_i, putS_s, putS'_s, setS_s, List.set_cons_succ, List.set_cons_zero, ty_non_int, ty_non_bool, ty_non_str, ty_non_tup, ty_non_lst, ty_non_dct, ty_bl_int, ty_bl_bool, ty_bl_str, ty_bl_tup, ty_bl_lst, ty_bl_dct, ty_int_int, ty_int_bool, ty_int_str, ty_int_tup, ty_int_lst, ty_int_dct, ty_str_int, ty_str_bool, ty_str_str, ty_str_tup, ty_str_lst, ty_str_dct, ty_tup_int, ty_tup_bool, ty_tup_str, ty_tup_tup, ty_tup_lst, ty_tup_dct, tru_non, tru_bl, tru_int, tru_tup, lt_int, le_int, gt_int, ge_int, eq_d, ne_d, is_d, isn_d, inn_d, nin_d, isNon_n, isNon_i, isNon_t, isNon_s, isNon_r, isNon_b, eq_int, eq_str, eq_bl, add_int, sub_int, neg_int, len_tup, bi_int_i, bi_int_b, bi_min, bi_max, rngW_i, seqW_t, newO_d, Bool.not_true, Bool.not_false, decide_true, decide_false, Bool.true_and, Bool.and_true, Bool.false_and, Bool.and_false, Bool.true_or, Bool.or_true, Bool.false_or, Bool.or_false, List.length_cons, List.length_nil, Nat.zero_add, Nat.reduceAdd, Nat.reduceLeDiff, SZ, ↓reduceIte, v_fld, t_fld, v_fnv, v_calll, t_calll, v_repr, v_dct0, s_raise0, s_raise1, s_tryk, thn_ex, thn_exS, fin_ex, truR_ex, keep_nx, keep_rt, eq_non_non, eq_non_int, eq_int_non, eq_str_non, eq_non_str, eq_int_str, eq_str_int, d12, p40, p9, ll, q1, it, hso, lso, fv, q2, decide_eq_true z, es, hal, lal, q3, ij, Nat.zero_le, show (1 : Nat) ≤ 1000000 from by decide]
      · have hm := List.mem_of_getElem? hv
        rw [← hal] at hm
        simp only [List.mem_cons, List.not_mem_nil, or_false] at hm
        have nb : ∀ w : Int, -2000000000 ≤ w → w ≤ 2000000000 → Fl (.int w) := fun w x1 x2 b => .int _ (natAbs_lt x1 x2)
        rcases hm with rfl | rfl | rfl | rfl | rfl | rfl
        · exact nb _ (by omega) (by omega)
        · exact nb _ (by omega) (by omega)
        · exact nb _ (by omega) (by omega)
        · exact fun b => .str _ (by omega) sc
        · exact fun b => .bl _
        · exact fun b => .tup ((Dats.one (n := 0) (a := 0) (.int _ (natAbs_lt (by omega) (by omega)))).mono (by decide) (by decide))
    · obtain ⟨v, h', r, e1, e2, e3, e4, e5⟩ := fin _ _ D2 (by omega) K2
      refine ⟨v, h', ?_, e3, e4, e5⟩
      simp (implicitDefEqProofs := false) only [ss_cons, ss_nil, s_asg, s_asgc, s_ex, s_ret, s_pass, s_iff, s_forr, s_setix, s_asgs, v_non, v_bl, v_int, v_str, v_var, v_glob, v_bin, v_neg, v_not, v_and, v_or, v_cmp, v_chn, v_ife, v_tup, v_lst, v_ix, v_sl, v_call, v_bi, v_bm, v_isi, v_lrng1, v_lrng2, v_comp, t_bl, t_int, t_var, t_glob, t_not, t_and, t_or, t_cmp, t_chn, t_call, t_bi, t_isi, t_ix, es_nil, es_cons, eo_none, eo_some, ec_none, ec_some, ei_seq, ei_rng1, ei_rng2, ei_enum, ei_zip, var0, varS, tg_nm, tg_tup, tgs_nil, tgs_cons, seq_tup, Option.bind_some, wipe_nil, wipe_cons, bind_ok', bind_ex', thn_ok, thn_nx, thn_rt, thn_bk, thn_ct, fin_nx, fin_rt, of_some, ob_sm, iteR_t, iteR_f, iteS_t, iteS_f, andR_t, andR_f, orR_t, orR_f, truR_b, intR_i, putS_s, putS'_s, setS_s, List.set_cons_succ, List.set_cons_zero, ty_non_int, ty_non_bool, ty_non_str, ty_non_tup, ty_non_lst, ty_non_dct, ty_bl_int, ty_bl_bool, ty_bl_str, ty_bl_tup, ty_bl_lst, ty_bl_dct, ty_int_int, ty_int_bool, ty_int_str, ty_int_tup, ty_int_lst, ty_int_dct, ty_str_int, ty_str_bool, ty_str_str, ty_str_tup, ty_str_lst, ty_str_dct, ty_tup_int, ty_tup_bool, ty_tup_str, ty_tup_tup, ty_tup_lst, ty_tup_dct, tru_non, tru_bl, tru_int, tru_tup, lt_int, le_int, gt_int, ge_int, eq_d, ne_d, is_d, isn_d, inn_d, nin_d, isNon_n, isNon_i, isNon_t, isNon_s, isNon_r, isNon_b, eq_int, eq_str, eq_bl, add_int, sub_int, neg_int, len_tup, bi_int_i, bi_int_b, bi_min, bi_max, rngW_i, seqW_t, newO_d, Bool.not_true, Bool.not_false, decide_true, decide_false, Bool.true_and, Bool.and_true, Bool.false_and, Bool.and_false, Bool.true_or, Bool.or_true, Bool.false_or, Bool.or_false, List.length_cons, List.length_nil, Nat.zero_add, Nat.reduceAdd, Nat.reduceLeDiff, SZ, ↓reduceIte, v_fld, t_fld, v_fnv, v_calll, t_calll, v_repr, v_dct0, s_raise0, s_raise1, s_tryk, thn_ex, thn_exS, fin_ex, truR_ex, keep_nx, keep_rt, eq_non_non, eq_non_int, eq_int_non, eq_str_non, eq_non_str, eq_int_str, eq_str_int, d12, p40, p9, ll, q1, it, hso, lso, fv, q2, decide_eq_false z, e1, e2, Nat.zero_le]
end K42
namespace K42
open Py
theorem setl {b : Hh} {xs : List D} {i : Nat} {v : D} (hi : i < xs.length) : setIx (.ref b.length) (.int (i : Int)) v (b ++ [.lst xs false]) = some (b ++ [.lst (xs.set i v) false]) := by
  have g : (b ++ [O.lst xs false])[b.length]? = some (.lst xs false) := by simp
  rw [set_lst g, ix_nn (by omega) (by omega)]
  simp
theorem bent (k : Nat) (m : Int) (M : List Ln) (F : Nat) (h : Hh) (B : Nat) (x : Deck h B) (hB : B ≤ 80000) (G : Good m M) (m1 : 1 ≤ m) (m2 : m ≤ 8) (hM : M.length ≤ 60) (lF : 7 < F) (g : h[F]? = some (.lst (LS m M) false)) :
    ∃ v h', run T P (k + 3) 6 [.ref 7, .ref F] h = .ok v h' ∧ Thg Adk h' v ∧ Deck h' (B + 20) ∧ Keep h h' := by
  obtain ⟨ls, els⟩ : ∃ z, LS m M = z := ⟨_, rfl⟩
  rw [els] at g
  have lls : ls.length = M.length + 1 := by rw [← els]; simp [LS]
  have small : ∀ v ∈ ls, ∃ l b c f z, v = .tup [.int l, b, c, .int f, .bl z] ∧ (0 ≤ l ∧ l ≤ 600) ∧ sm b ∧ sm c ∧ 0 ≤ f ∧ f ≤ 1000000 := fun v hv => lines_small G m1 m2 hM (els ▸ hv)
  have elA : ∀ (b : Hh), ∀ v ∈ ls, El b v := fun b v hv => by
    obtain ⟨l, tb, tc, f, z, rfl, l1, sb, sc, f1, f2⟩ := small v hv
    refine tup_el (fun u hu => ?_) (by simp)
    simp only [List.mem_cons, List.not_mem_nil, or_false] at hu
    rcases hu with rfl | rfl | rfl | rfl | rfl
    · exact ⟨by omega, by omega⟩
    · exact sb
    · exact sc
    · exact ⟨by omega, by omega⟩
    · trivial
  obtain ⟨r1, h1, q1, a1, b1, D1, K1⟩ := take (k + 1) ((ls.length : Nat) : Int) h B x (by omega) (by omega) (by omega)
  have g1 := K1.2 _ (by omega) (by omega) _ g
  obtain ⟨r2, h2, q2, a2, b2, D2, K2⟩ := take (k + 1) ((ls.length : Nat) : Int) h1 _ D1 (by omega) (by omega) (by omega)
  have g2 := K2.2 _ (by omega) (by omega) _ g1
  obtain ⟨pl, rfl⟩ := int_nat a1
  obtain ⟨ot, rfl⟩ := int_nat a2
  have lt2 := Deck.lt D2
  obtain ⟨th, hth⟩ : ∃ v, ls[pl]? = some v := ⟨_, List.getElem?_eq_getElem (by omega)⟩
  obtain ⟨tw, htw⟩ : ∃ v, ls[ot]? = some v := ⟨_, List.getElem?_eq_getElem (by omega)⟩
  have mth := List.mem_of_getElem? hth
  have mtw := List.mem_of_getElem? htw
  -- held, two exchanged
  have sq2 := seq_lst g2
  have gl : (h2 ++ [O.lst ls false])[h2.length]? = some (.lst ls false) := by simp
  have ia := ixl (h2 ++ [O.lst ls false]) h2.length _ ot _ gl htw
  have ib := ixl (h2 ++ [O.lst ls false]) h2.length _ pl _ gl hth
  have sa := setl (b := h2) (xs := ls) (i := pl) (v := tw) (by omega)
  have sb := setl (b := h2) (xs := ls.set pl tw) (i := ot) (v := th) (by rw [List.length_set]; omega)
  obtain ⟨hs, ehs⟩ : ∃ z, (ls.set pl tw).set ot th = z := ⟨_, rfl⟩
  rw [ehs] at sb
  have lhs : hs.length = ls.length := by rw [← ehs]; simp
  have mhs : ∀ v ∈ hs, v ∈ ls := fun v hv => by
    rw [← ehs] at hv
    rcases List.mem_or_eq_of_mem_set hv with q | q
    · rcases List.mem_or_eq_of_mem_set q with q | q
      · exact q
      · exact q ▸ mtw
    · exact q ▸ mth
  have gF2 : (h2 ++ [O.lst hs false])[F]? = some (.lst ls false) := get_app g2
  have ic := ixl (h2 ++ [O.lst hs false]) F _ pl _ gF2 hth
  have id' := ixl (h2 ++ [O.lst hs false]) F _ ot _ gF2 htw
  obtain ⟨r3, h3, q3, a3, b3, D3, K3⟩ := take (k + 1) 5 (h2 ++ [.lst hs false]) _ (D2.app _) (by omega) (by decide) (by decide)
  obtain ⟨sp, rfl⟩ := int_nat a3
  obtain ⟨l, tb, tc, f, z, rfl, l1, sb1, sc1, f1, f2⟩ := small th mth
  obtain ⟨wl, wb, wc, wf, wz, rfl, wl1, swb, swc, wf1, wf2⟩ := small tw mtw
  have S3 : Sit h3 F h2.length ls hs l tb tc f z wl wb wc wf wz := ⟨K3.2 _ (by omega) (by omega) _ gF2, K3.2 _ (by omega) (by omega) _ (by simp), Deck.lt D3, lF, lt2, elA h3, fun v hv => elA h3 v (mhs v hv), by omega, by omega, l1, sb1, sc1, ⟨f1, f2⟩, wl1, swb, ⟨wf1, wf2⟩⟩
  -- the first things
  obtain ⟨vs1, y1, e1, n1, t1⟩ := x1_of (C := run T P (k + 2)) (pl := pl) (ot := ot) (sp := sp) (v8 := none) (v9 := none) S3
  obtain ⟨c4, ec4⟩ : ∃ w : Hh, h3 ++ y1 = w := ⟨_, rfl⟩
  rw [ec4] at e1 t1
  have S4 : Sit (c4 ++ [.lst vs1 false]) F h2.length ls hs l tb tc f z wl wb wc wf wz := by rw [← ec4]; exact (S3.app y1).app _
  obtain ⟨us2, y2, e2, n2, t2⟩ := x2_of (C := run T P (k + 2)) (pl := pl) (ot := ot) (sp := sp) (v9 := none) (q := c4.length) (vs := vs1) S4 (by simp) n1 (fun v hv => Thg.app (t1 v hv) _)
  obtain ⟨c5, ec5⟩ : ∃ w : Hh, c4 ++ [.lst vs1 false] ++ y2 = w := ⟨_, rfl⟩
  rw [ec5] at e2 t2
  have S5 : Sit c5 F h2.length ls hs l tb tc f z wl wb wc wf wz := by rw [← ec5]; exact S4.app y2
  have e3 := x3_of (C := run T P (k + 2)) (pl := pl) (ot := ot) (sp := sp) (v8 := some (.ref c5.length)) (v9 := none) (S5.app [.lst us2 false])
  have lc5 := S5.lb
  have nn : (c5 ++ [O.lst us2 false]).length = c5.length + 1 := by simp
  rw [nn] at e3
  have g5 : (c5 ++ [O.lst us2 false])[c5.length]? = some (.lst us2 false) := by simp
  have ap : bmD .append (.ref c5.length) [.ref (c5.length + 1 + 1)] (c5 ++ [O.lst us2 false] ++ [.lst [T1] false] ++ [.lst (ls ++ [T1]) false]) = some (.non, c5 ++ [O.lst (us2 ++ [.ref (c5.length + 1 + 1)]) false] ++ [.lst [T1] false] ++ [.lst (ls ++ [T1]) false]) := by
    rw [app_lst (get_app (get_app g5)), if_pos (by unfold SZ; omega)]
    congr 2
    rw [List.append_assoc, set1, ← List.append_assoc]
  obtain ⟨vs3, ev3⟩ : ∃ w : List D, us2 ++ [.ref (c5.length + 1 + 1)] = w := ⟨_, rfl⟩
  rw [ev3] at ap
  obtain ⟨b7, eb7⟩ : ∃ w : Hh, c5 ++ [O.lst vs3 false] ++ [.lst [T1] false] ++ [.lst (ls ++ [T1]) false] = w := ⟨_, rfl⟩
  rw [eb7] at ap
  have g7 : b7[c5.length]? = some (.lst vs3 false) := by rw [← eb7]; simp
  have g72 : b7[c5.length + 1 + 1]? = some (.lst (ls ++ [T1]) false) := by
    show b7[c5.length + 2]? = _
    rw [← eb7]; simp
  have S7 : Sit b7 F h2.length ls hs l tb tc f z wl wb wc wf wz := by rw [← eb7]; exact ((S5.app _).app _).app _
  have t7 : ∀ v ∈ vs3, Thg Adk b7 v := fun v hv => by
    rw [← ev3] at hv
    rcases List.mem_append.mp hv with q | q
    · rw [← eb7]; exact Thg.app (Thg.app (Thg.app (t2 v q) _) _) _
    · rw [List.mem_singleton] at q
      subst q
      refine thgL (by omega) g72 (fun u hu => ?_) (by rw [List.length_append, List.length_singleton]; omega)
      rcases List.mem_append.mp hu with q | q
      · exact elA b7 u q
      · rw [List.mem_singleton] at q; subst q; exact t1_el
  obtain ⟨us4, y4, e4, n4, t4⟩ := x4_of (C := run T P (k + 2)) (pl := pl) (ot := ot) (sp := sp) (v9 := none) (q := c5.length) (vs := vs3) S7 g7 (by rw [← ev3]; simp; omega) t7
  obtain ⟨c8, ec8⟩ : ∃ w : Hh, b7 ++ y4 = w := ⟨_, rfl⟩
  rw [ec8] at e4 t4
  have S8 : Sit c8 F h2.length ls hs l tb tc f z wl wb wc wf wz := by rw [← ec8]; exact S7.app y4
  have lc8 := S8.lb
  -- the deck stands
  have K37 : Keep h3 (c8 ++ [.lst us4 false]) := by
    have k5 : Keep h3 c5 := by rw [← ec5, ← ec4]; exact (((Keep.refl h3).app _).app _).app _
    have k7 : Keep c5 b7 := by rw [← eb7]; exact (((Keep.refl c5).app _).app _).app _
    have k8 : Keep b7 c8 := by rw [← ec8]; exact (Keep.refl b7).app _
    exact (k5.trans (k7.trans k8)).app _
  have D8 : Deck (c8 ++ [.lst us4 false]) (B + 3) := by
    rw [← ec8, ← eb7, ← ec5, ← ec4]
    exact ((((((((((D3.app y1).app [.lst vs1 false]).app y2).app [.lst vs3 false]).app [.lst [T1] false]).app [.lst (ls ++ [T1]) false]).app y4).app [.lst us4 false]))).mono (by omega)
  obtain ⟨r9, h9, q9, a9, b9, D9, K9⟩ := take (k + 1) 3 _ _ D8 (by omega) (by decide) (by decide)
  have K0 : Keep h (c8 ++ [.lst us4 false]) := K1.trans (K2.trans (((Keep.refl h2).app _).trans (K3.trans K37)))
  simp only [sg] at e1 e2 e3 e4
  by_cases z9 : r9 = 0
  · subst z9
    obtain ⟨r10, h10, q10, a10, b10, D10, K10⟩ := take (k + 1) 15 h9 _ D9 (by omega) (by decide) (by decide)
    obtain ⟨j, rfl⟩ := int_nat a10
    obtain ⟨v, hv⟩ : ∃ v, us4[j]? = some v := ⟨_, List.getElem?_eq_getElem (by omega)⟩
    have ij := ixl h10 c8.length _ j _ (K10.2 _ (by omega) (by omega) _ (K9.2 _ (by omega) (by omega) _ (by simp))) hv
    refine ⟨v, h10, ?_, ?_, D10.mono (by omega), K0.trans (K9.trans K10)⟩
    · rw [u6, d6b]
      simp (implicitDefEqProofs := false) only [ss_cons, ss_nil, s_asg, s_asgc, s_ex, s_ret, s_pass, s_iff, s_forr, s_setix, s_asgs, v_non, v_bl, v_int, v_str, v_var, v_glob, v_bin, v_neg, v_not, v_and, v_or, v_cmp, v_chn, v_ife, v_tup, v_lst, v_ix, v_sl, v_call, v_bi, v_bm, v_isi, v_lrng1, v_lrng2, v_comp, t_bl, t_int, t_var, t_glob, t_not, t_and, t_or, t_cmp, t_chn, t_call, t_bi, t_isi, t_ix, es_nil, es_cons, eo_none, eo_some, ec_none, ec_some, ei_seq, ei_rng1, ei_rng2, ei_enum, ei_zip, var0, varS, tg_nm, tg_tup, tgs_nil, tgs_cons, seq_tup, Option.bind_some, wipe_nil, wipe_cons, bind_ok', bind_ex', thn_ok, thn_nx, thn_rt, thn_bk, thn_ct, fin_nx, fin_rt, of_some, ob_sm, iteR_t, iteR_f, iteS_t, iteS_f, andR_t, andR_f, orR_t, orR_f, truR_b, intR_i, putS_s, putS'_s, setS_s, List.set_cons_succ, List.set_cons_zero, ty_non_int, ty_non_bool, ty_non_str, ty_non_tup, ty_non_lst, ty_non_dct, ty_bl_int, ty_bl_bool, ty_bl_str, ty_bl_tup, ty_bl_lst, ty_bl_dct, ty_int_int, ty_int_bool, ty_int_str, ty_int_tup, ty_int_lst, ty_int_dct, ty_str_int, ty_str_bool, ty_str_str, ty_str_tup, ty_str_lst, ty_str_dct, ty_tup_int, ty_tup_bool, ty_tup_str, ty_tup_tup, ty_tup_lst, ty_tup_dct, tru_non, tru_bl, tru_int, tru_tup, lt_int, le_int, gt_int, ge_int, eq_d, ne_d, is_d, isn_d, inn_d, nin_d, isNon_n, isNon_i, isNon_t, isNon_s, isNon_r, isNon_b, eq_int, eq_str, eq_bl, add_int, sub_int, neg_int, len_tup, bi_int_i, bi_int_b, bi_min, bi_max, rngW_i, seqW_t, newO_d, Bool.not_true, Bool.not_false, decide_true, decide_false, Bool.true_and, Bool.and_true, Bool.false_and, Bool.and_false, Bool.true_or, Bool.or_true, Bool.false_or, Bool.or_false, List.length_cons, List.length_nil, Nat.zero_add, Nat.reduceAdd, Nat.reduceLeDiff, SZ, ↓reduceIte, v_fld, t_fld, v_fnv, v_calll, t_calll, v_repr, v_dct0, s_raise0, s_raise1, s_tryk, thn_ex, thn_exS, fin_ex, truR_ex, keep_nx, keep_rt, eq_non_non, eq_non_int, eq_int_non, eq_str_non, eq_non_str, eq_int_str, eq_str_int, len_lst g, q1, len_lst g1, q2, bi_list, sq2, s_swap, ia, ib, sa, setS'_s, sb, ic, id', q3, e1, e2, recv_l (b := .append) g5 rfl, e3, ap, e4, q9, q10, ij]
    · exact Thg.later (Thg.app (t4 v (List.mem_of_getElem? hv)) _) (kAg (K9.trans K10))
  · have st : ∀ u ∈ [D.int l, tb, tc, .int f, .bl z], sm u := S3.th
    obtain ⟨u, hu⟩ : ∃ v, [D.int l, tb, tc, .int f, .bl z][sp]? = some v := ⟨_, List.getElem?_eq_getElem (by simp; omega)⟩
    have iu := ixt (h := h9) sp hu
    obtain ⟨ov, h10, q10, fo, D10, K10⟩ := odd k u [D.int l, tb, tc, .int f, .bl z] h9 _ D9 (by omega) (st u (List.mem_of_getElem? hu)) rfl st
    obtain ⟨t1c, et1⟩ : ∃ w, cut [D.int l, tb, tc, .int f, .bl z] none (some (sp : Int)) = w := ⟨_, rfl⟩
    obtain ⟨t2c, et2⟩ : ∃ w, cut [D.int l, tb, tc, .int f, .bl z] (some ((sp : Int) + 1)) none = w := ⟨_, rfl⟩
    have lt1 : t1c.length ≤ 5 := by rw [← et1]; exact cut_len
    have lt2c : t2c.length ≤ 5 := by rw [← et2]; exact cut_len
    have ad1 : ∀ h, binD .add (.tup t1c) (.tup [ov]) h = some (.tup (t1c ++ [ov]), h) := fun h => if_pos (by simp [SZ]; omega)
    have ad2 : ∀ h, binD .add (.tup (t1c ++ [ov])) (.tup t2c) h = some (.tup (t1c ++ [ov] ++ t2c), h) := fun h => if_pos (by simp [SZ]; omega)
    obtain ⟨bh, ebh⟩ : ∃ w : D, .tup (t1c ++ [ov] ++ t2c) = w := ⟨_, rfl⟩
    have eb : ∀ b : Hh, El b bh := fun b => by
      rw [← ebh]
      have d1 : Dats b Adk 1 5 t1c := (dats_all (n := 1) (a := 0) fun u hu => (st u (by rw [← et1] at hu; exact cut_mem hu)).dat).mono (Nat.le_refl _) (by omega)
      have d2 : Dats b Adk 1 5 t2c := (dats_all (n := 1) (a := 0) fun u hu => (st u (by rw [← et2] at hu; exact cut_mem hu)).dat).mono (Nat.le_refl _) (by omega)
      exact (Dat.tup ((d1.app (Dats.one (fo b))).app d2)).mono (by decide) (by decide)
    have g10 := K10.2 _ (by omega) (by omega) _ (K9.2 _ (by omega) (by omega) _ (get_app (e := [O.lst us4 false]) S8.gF))
    obtain ⟨c1, ec1⟩ : ∃ w, cut ls none (some (pl : Int)) = w := ⟨_, rfl⟩
    obtain ⟨c2, ec2⟩ : ∃ w, cut ls (some ((pl : Int) + 1)) none = w := ⟨_, rfl⟩
    have lc1 : c1.length ≤ ls.length := by rw [← ec1]; exact cut_len
    have lc2 : c2.length ≤ ls.length := by rw [← ec2]; exact cut_len
    have s1 := sl_lst (lo := none) (hi := some (pl : Int)) g10
    rw [ec1] at s1
    have l1' : (h10 ++ [O.lst c1 false]).length = h10.length + 1 := by simp
    have l2' : (h10 ++ [O.lst c1 false] ++ [O.lst [bh] false] ++ [O.lst (c1 ++ [bh]) false]).length = h10.length + 3 := by simp
    have A1 : binD .add (.ref h10.length) (.ref (h10.length + 1)) (h10 ++ [O.lst c1 false] ++ [O.lst [bh] false]) = some (.ref (h10.length + 2), h10 ++ [O.lst c1 false] ++ [O.lst [bh] false] ++ [O.lst (c1 ++ [bh]) false]) := by
      rw [add_lst (a := c1) (b := [bh]) (by simp) (by simp), if_pos (by simp [SZ]; omega)]
      simp
    have s2 := sl_lst (lo := some ((pl : Int) + 1)) (hi := none) (get_app (e := [O.lst (c1 ++ [bh]) false]) (get_app (e := [O.lst [bh] false]) (get_app (e := [O.lst c1 false]) g10)))
    rw [ec2] at s2
    have A2 : binD .add (.ref (h10.length + 2)) (.ref (h10.length + 3)) (h10 ++ [O.lst c1 false] ++ [O.lst [bh] false] ++ [O.lst (c1 ++ [bh]) false] ++ [O.lst c2 false]) = some (.ref (h10.length + 4), h10 ++ [O.lst c1 false] ++ [O.lst [bh] false] ++ [O.lst (c1 ++ [bh]) false] ++ [O.lst c2 false] ++ [O.lst (c1 ++ [bh] ++ c2) false]) := by
      rw [add_lst (a := c1 ++ [bh]) (b := c2) (by simp) (by simp), if_pos (by simp [SZ]; omega)]
      simp
    have lt10 := Deck.lt D10
    refine ⟨.ref (h10.length + 4), h10 ++ [O.lst c1 false] ++ [O.lst [bh] false] ++ [O.lst (c1 ++ [bh]) false] ++ [O.lst c2 false] ++ [O.lst (c1 ++ [bh] ++ c2) false], ?_, ?_, ((((((D10.app _).app _).app _).app _).app _)).mono (by omega), (K0.trans (K9.trans K10)).trans ((((((Keep.refl h10).app _).app _).app _).app _).app _)⟩
    · rw [u6, d6b]
      simp (implicitDefEqProofs := false) only [ss_cons, ss_nil, s_asg, s_asgc, s_ex, s_ret, s_pass, s_iff, s_forr, s_setix, s_asgs, v_non, v_bl, v_int, v_str, v_var, v_glob, v_bin, v_neg, v_not, v_and, v_or, v_cmp, v_chn, v_ife, v_tup, v_lst, v_ix, v_sl, v_call, v_bi, v_bm, v_isi, v_lrng1, v_lrng2, v_comp, t_bl, t_int, t_var, t_glob, t_not, t_and, t_or, t_cmp, t_chn, t_call, t_bi, t_isi, t_ix, es_nil, es_cons, eo_none, eo_some, ec_none, ec_some, ei_seq, ei_rng1, ei_rng2, ei_enum, ei_zip, var0, varS, tg_nm, tg_tup, tgs_nil, tgs_cons, seq_tup, Option.bind_some, wipe_nil, wipe_cons, bind_ok', bind_ex', thn_ok, thn_nx, thn_rt, thn_bk, thn_ct, fin_nx, fin_rt, of_some, ob_sm, iteR_t, iteR_f, iteS_t, iteS_f, andR_t, andR_f, orR_t, orR_f, truR_b, intR_i, putS_s, putS'_s, setS_s, List.set_cons_succ, List.set_cons_zero, ty_non_int, ty_non_bool, ty_non_str, ty_non_tup, ty_non_lst, ty_non_dct, ty_bl_int, ty_bl_bool, ty_bl_str, ty_bl_tup, ty_bl_lst, ty_bl_dct, ty_int_int, ty_int_bool, ty_int_str, ty_int_tup, ty_int_lst, ty_int_dct, ty_str_int, ty_str_bool, ty_str_str, ty_str_tup, ty_str_lst, ty_str_dct, ty_tup_int, ty_tup_bool, ty_tup_str, ty_tup_tup, ty_tup_lst, ty_tup_dct, tru_non, tru_bl, tru_int, tru_tup, lt_int, le_int, gt_int, ge_int, eq_d, ne_d, is_d, isn_d, inn_d, nin_d, isNon_n, isNon_i, isNon_t, isNon_s, isNon_r, isNon_b, eq_int, eq_str, eq_bl, add_int, sub_int, neg_int, len_tup, bi_int_i, bi_int_b, bi_min, bi_max, rngW_i, seqW_t, newO_d, Bool.not_true, Bool.not_false, decide_true, decide_false, Bool.true_and, Bool.and_true, Bool.false_and, Bool.and_false, Bool.true_or, Bool.or_true, Bool.false_or, Bool.or_false, List.length_cons, List.length_nil, Nat.zero_add, Nat.reduceAdd, Nat.reduceLeDiff, SZ, ↓reduceIte, v_fld, t_fld, v_fnv, v_calll, t_calll, v_repr, v_dct0, s_raise0, s_raise1, s_tryk, thn_ex, thn_exS, fin_ex, truR_ex, keep_nx, keep_rt, eq_non_non, eq_non_int, eq_int_non, eq_str_non, eq_non_str, eq_int_str, eq_str_int, len_lst g, q1, len_lst g1, q2, bi_list, sq2, s_swap, ia, ib, sa, setS'_s, sb, ic, id', q3, e1, e2, recv_l (b := .append) g5 rfl, e3, ap, e4, q9, z9, X5, X6, sl_tup, et1, iu, q10, ad1, et2, ad2, ebh, s1, l1', A1, s2, l2', A2, show (1 : Nat) ≤ 1000000 from by decide]
    · refine thgL (ys := c1 ++ [bh] ++ c2) (f := false) (by omega) (by simp) (fun u hu => ?_) (by simp; omega)
      rcases List.mem_append.mp hu with q | q
      · rcases List.mem_append.mp q with q | q
        · exact elA _ u (by rw [← ec1] at q; exact cut_mem q)
        · rw [List.mem_singleton] at q; subst q; exact eb _
      · exact elA _ u (by rw [← ec2] at q; exact cut_mem q)
end K42
namespace K42
open Py
theorem law_holds : ∀ ns : List Int, ns.length ≤ 63 → ∃ h', run T P (dep + 1) 0 [.ref 0] [.lst (ns.map .int) true] = .ok (.bl true) h' := by
  intro ns hl
  obtain ⟨h0, q0, D0, _⟩ := deck 15 ns hl
  have dp : dep = 16 := rfl
  rw [u0, dp]
  obtain ⟨r1, h1, q1, a1, b1, D1, K1⟩ := take 15 8 h0 _ D0 (by omega) (by decide) (by decide)
  obtain ⟨m, em⟩ : ∃ m : Int, 1 + r1 = m := ⟨_, rfl⟩
  have m1 : 1 ≤ m := by omega
  have m2 : m ≤ 8 := by omega
  obtain ⟨M, h2, q2, G, hM, g2, D2, lF⟩ := made 14 m h1 _ D1 (by omega) m1 m2
  have elA : ∀ (b : Hh), ∀ v ∈ LS m M, El b v := fun b v hv => by
    obtain ⟨l, tb, tc, f, z, rfl, l1, sb, sc, f1, f2⟩ := lines_small G m1 m2 hM hv
    refine tup_el (fun u hu => ?_) (by simp)
    simp only [List.mem_cons, List.not_mem_nil, or_false] at hu
    rcases hu with rfl | rfl | rfl | rfl | rfl
    · exact ⟨by omega, by omega⟩
    · exact sb
    · exact sc
    · exact ⟨by omega, by omega⟩
    · trivial
  have thg : ∀ b : Hh, b[h1.length]? = some (.lst (LS m M) false) → Thg Adk b (.ref h1.length) := fun b g => thgL lF g (elA b) (by simp [LS]; omega)
  have rt : ∀ b : Hh, b[h1.length]? = some (.lst (LS m M) false) → rightV m b (.ref h1.length) = true := fun b g => by
    simp only [rightV, g, LS, G.right]
    rfl
  obtain ⟨e3, q3⟩ := right_lines 13 m (.ref h1.length) h2 Adk (thg h2 g2) m1 m2
  rw [rt h2 g2] at q3
  have c3 : (-1000000000 : Int) ≤ 0 ∧ (0 : Int) ≤ 1000000000 ∧ (-1000000000 : Int) ≤ 12 ∧ (12 : Int) ≤ 1000000000 := by decide
  have ib : ∀ h : Hh, cmpD .isn (.bl true) (.bl true) h = some (.bl false, h) := fun h => rfl
  simp (implicitDefEqProofs := false) only [ss_cons, ss_nil, s_asg, s_asgc, s_ex, s_ret, s_pass, s_iff, s_forr, s_setix, s_asgs, v_non, v_bl, v_int, v_str, v_var, v_glob, v_bin, v_neg, v_not, v_and, v_or, v_cmp, v_chn, v_ife, v_tup, v_lst, v_ix, v_sl, v_call, v_bi, v_bm, v_isi, v_lrng1, v_lrng2, v_comp, t_bl, t_int, t_var, t_glob, t_not, t_and, t_or, t_cmp, t_chn, t_call, t_bi, t_isi, t_ix, es_nil, es_cons, eo_none, eo_some, ec_none, ec_some, ei_seq, ei_rng1, ei_rng2, ei_enum, ei_zip, var0, varS, tg_nm, tg_tup, tgs_nil, tgs_cons, seq_tup, Option.bind_some, wipe_nil, wipe_cons, bind_ok', bind_ex', thn_ok, thn_nx, thn_rt, thn_bk, thn_ct, fin_nx, fin_rt, of_some, ob_sm, iteR_t, iteR_f, iteS_t, iteS_f, andR_t, andR_f, orR_t, orR_f, truR_b, intR_i, putS_s, putS'_s, setS_s, List.set_cons_succ, List.set_cons_zero, ty_non_int, ty_non_bool, ty_non_str, ty_non_tup, ty_non_lst, ty_non_dct, ty_bl_int, ty_bl_bool, ty_bl_str, ty_bl_tup, ty_bl_lst, ty_bl_dct, ty_int_int, ty_int_bool, ty_int_str, ty_int_tup, ty_int_lst, ty_int_dct, ty_str_int, ty_str_bool, ty_str_str, ty_str_tup, ty_str_lst, ty_str_dct, ty_tup_int, ty_tup_bool, ty_tup_str, ty_tup_tup, ty_tup_lst, ty_tup_dct, tru_non, tru_bl, tru_int, tru_tup, lt_int, le_int, gt_int, ge_int, eq_d, ne_d, is_d, isn_d, inn_d, nin_d, isNon_n, isNon_i, isNon_t, isNon_s, isNon_r, isNon_b, eq_int, eq_str, eq_bl, add_int, sub_int, neg_int, len_tup, bi_int_i, bi_int_b, bi_min, bi_max, rngW_i, seqW_t, newO_d, Bool.not_true, Bool.not_false, decide_true, decide_false, Bool.true_and, Bool.and_true, Bool.false_and, Bool.and_false, Bool.true_or, Bool.or_true, Bool.false_or, Bool.or_false, List.length_cons, List.length_nil, Nat.zero_add, Nat.reduceAdd, Nat.reduceLeDiff, SZ, ↓reduceIte, v_fld, t_fld, v_fnv, v_calll, t_calll, v_repr, v_dct0, s_raise0, s_raise1, s_tryk, thn_ex, thn_exS, fin_ex, truR_ex, keep_nx, keep_rt, eq_non_non, eq_non_int, eq_int_non, eq_str_non, eq_non_str, eq_int_str, eq_str_int, d0, q0, q1, em, q2, q3, ib, if_pos c3]
  refine forL_k (Q := fun r => ∃ h', r.fin = R.ok (D.bl true) h') (fun rest σ h => ∃ B a, B + 100 * rest.length ≤ 3000 ∧ Deck h B ∧ h[h1.length]? = some (.lst (LS m M) false) ∧ σ = [some (.ref 0), some (.ref 7), some (.int m), some (.ref h1.length), a, none])
    (fun _ _ _ _ => rfl) (fun x xs σ h ⟨B, a, i1, i2, i3, i4⟩ => ?_) ⟨1800, _, by decide, (D2.app e3).mono (by omega), get_app g2, rfl⟩ fun σ h ⟨B, a, i1, i2, i3, i4⟩ => ?_
  · subst i4
    simp only [List.length_cons] at i1
    obtain ⟨v, h4, q4, t4, D4, K4⟩ := bent 13 m M h1.length h B i2 (by omega) G m1 m2 hM lF i3
    obtain ⟨e5, q5⟩ := says 12 m v h4 Adk t4 m1 m2
    refine ⟨[some (.ref 0), some (.ref 7), some (.int m), some (.ref h1.length), some x, none], h4 ++ e5, ?_, B + 20, _, by omega, D4.app e5, get_app (K4.2 _ (by omega) (by omega) _ i3), rfl⟩
    simp (implicitDefEqProofs := false) only [ss_cons, ss_nil, s_asg, s_asgc, s_ex, s_ret, s_pass, s_iff, s_forr, s_setix, s_asgs, v_non, v_bl, v_int, v_str, v_var, v_glob, v_bin, v_neg, v_not, v_and, v_or, v_cmp, v_chn, v_ife, v_tup, v_lst, v_ix, v_sl, v_call, v_bi, v_bm, v_isi, v_lrng1, v_lrng2, v_comp, t_bl, t_int, t_var, t_glob, t_not, t_and, t_or, t_cmp, t_chn, t_call, t_bi, t_isi, t_ix, es_nil, es_cons, eo_none, eo_some, ec_none, ec_some, ei_seq, ei_rng1, ei_rng2, ei_enum, ei_zip, var0, varS, tg_nm, tg_tup, tgs_nil, tgs_cons, seq_tup, Option.bind_some, wipe_nil, wipe_cons, bind_ok', bind_ex', thn_ok, thn_nx, thn_rt, thn_bk, thn_ct, fin_nx, fin_rt, of_some, ob_sm, iteR_t, iteR_f, iteS_t, iteS_f, andR_t, andR_f, orR_t, orR_f, truR_b, intR_i, putS_s, putS'_s, setS_s, List.set_cons_succ, List.set_cons_zero, ty_non_int, ty_non_bool, ty_non_str, ty_non_tup, ty_non_lst, ty_non_dct, ty_bl_int, ty_bl_bool, ty_bl_str, ty_bl_tup, ty_bl_lst, ty_bl_dct, ty_int_int, ty_int_bool, ty_int_str, ty_int_tup, ty_int_lst, ty_int_dct, ty_str_int, ty_str_bool, ty_str_str, ty_str_tup, ty_str_lst, ty_str_dct, ty_tup_int, ty_tup_bool, ty_tup_str, ty_tup_tup, ty_tup_lst, ty_tup_dct, tru_non, tru_bl, tru_int, tru_tup, lt_int, le_int, gt_int, ge_int, eq_d, ne_d, is_d, isn_d, inn_d, nin_d, isNon_n, isNon_i, isNon_t, isNon_s, isNon_r, isNon_b, eq_int, eq_str, eq_bl, add_int, sub_int, neg_int, len_tup, bi_int_i, bi_int_b, bi_min, bi_max, rngW_i, seqW_t, newO_d, Bool.not_true, Bool.not_false, decide_true, decide_false, Bool.true_and, Bool.and_true, Bool.false_and, Bool.and_false, Bool.true_or, Bool.or_true, Bool.false_or, Bool.or_false, List.length_cons, List.length_nil, Nat.zero_add, Nat.reduceAdd, Nat.reduceLeDiff, SZ, ↓reduceIte, v_fld, t_fld, v_fnv, v_calll, t_calll, v_repr, v_dct0, s_raise0, s_raise1, s_tryk, thn_ex, thn_exS, fin_ex, truR_ex, keep_nx, keep_rt, eq_non_non, eq_non_int, eq_int_non, eq_str_non, eq_non_str, eq_int_str, eq_str_int, b0_0, q4, q5]
  · subst i4
    have ltd := Deck.lt i2
    obtain ⟨nm, hnm⟩ : ∃ w : List D, [.int 0, .int 9, .int (-1), .int (10 ^ 40), .bl true, .non, .str [49], .tup [.int 1]] = w := ⟨_, rfl⟩
    have lnm : nm.length = 8 := by rw [← hnm]; rfl
    obtain ⟨r4, h4, q4, a4, b4, D4, K4⟩ := take 15 8 (h ++ [.lst nm false]) _ (i2.app _) (by simp at i1; omega) (by decide) (by decide)
    obtain ⟨j, rfl⟩ := int_nat a4
    obtain ⟨v, hv⟩ : ∃ v, nm[j]? = some v := ⟨_, List.getElem?_eq_getElem (by omega)⟩
    have ij := ixl h4 h.length _ j _ (K4.2 _ (by omega) (by omega) _ (by simp)) hv
    have lt4 := Deck.lt D4
    obtain ⟨r5, h5, q5, a5, b5, D5, K5⟩ := take 15 2 (h4 ++ [.lst [.ref h1.length, .non] false]) _ (D4.app _) (by simp at i1; omega) (by decide) (by decide)
    obtain ⟨j5, rfl⟩ := int_nat a5
    obtain ⟨w, hw⟩ : ∃ v, [D.ref h1.length, .non][j5]? = some v := ⟨_, List.getElem?_eq_getElem (by simp; omega)⟩
    have ij5 := ixl h5 h4.length _ j5 _ (K5.2 _ (by omega) (by omega) _ (by simp)) hw
    have nmv : noMany v ∧ ∀ b, okv b v := by
      have hm := List.mem_of_getElem? hv
      rw [← hnm] at hm
      simp only [List.mem_cons, List.not_mem_nil, or_false] at hm
      rcases hm with rfl | rfl | rfl | rfl | rfl | rfl | rfl | rfl
      · exact ⟨.inr rfl, fun _ => trivial⟩
      · exact ⟨.inl rfl, fun _ => trivial⟩
      · exact ⟨.inl rfl, fun _ => trivial⟩
      · exact ⟨.inl (by decide), fun _ => trivial⟩
      · exact ⟨.inl rfl, fun _ => trivial⟩
      · exact ⟨.inl rfl, fun _ => trivial⟩
      · exact ⟨.inl rfl, fun _ => trivial⟩
      · exact ⟨.inl rfl, fun _ => trivial⟩
    have q6 := refused 12 v w h5 (nmv.2 _) nmv.1
    obtain ⟨b6, eb6⟩ : ∃ z : Hh, h5 ++ [.exc 1 [(0, .str [104, 111, 117, 115, 101, 115])]] = z := ⟨_, rfl⟩
    rw [eb6] at q6
    have D6 : Deck b6 4000 := by rw [← eb6]; exact (D5.app _).mono (by simp at i1; omega)
    have g6 : b6[h1.length]? = some (.lst (LS m M) false) := by
      rw [← eb6]
      exact get_app (K5.2 _ (by omega) (by omega) _ (get_app (K4.2 _ (by omega) (by omega) _ (get_app i3))))
    obtain ⟨r7, h7, q7, a7, b7, D7, K7⟩ := take 15 8 b6 _ D6 (by omega) (by decide) (by decide)
    have g7 := K7.2 _ (by omega) (by omega) _ g6
    obtain ⟨e8, q8⟩ := says 12 (1 + r7) (.ref h1.length) h7 Adk (thg h7 g7) (by omega) (by omega)
    obtain ⟨e9, q9⟩ := says 12 m (.ref h1.length) (h7 ++ e8) Adk (thg _ (get_app g7)) m1 m2
    refine ⟨h7 ++ e8 ++ e9, ?_⟩
    simp (implicitDefEqProofs := false) only [ss_cons, ss_nil, s_asg, s_asgc, s_ex, s_ret, s_pass, s_iff, s_forr, s_setix, s_asgs, v_non, v_bl, v_int, v_str, v_var, v_glob, v_bin, v_neg, v_not, v_and, v_or, v_cmp, v_chn, v_ife, v_tup, v_lst, v_ix, v_sl, v_call, v_bi, v_bm, v_isi, v_lrng1, v_lrng2, v_comp, t_bl, t_int, t_var, t_glob, t_not, t_and, t_or, t_cmp, t_chn, t_call, t_bi, t_isi, t_ix, es_nil, es_cons, eo_none, eo_some, ec_none, ec_some, ei_seq, ei_rng1, ei_rng2, ei_enum, ei_zip, var0, varS, tg_nm, tg_tup, tgs_nil, tgs_cons, seq_tup, Option.bind_some, wipe_nil, wipe_cons, bind_ok', bind_ex', thn_ok, thn_nx, thn_rt, thn_bk, thn_ct, fin_nx, fin_rt, of_some, ob_sm, iteR_t, iteR_f, iteS_t, iteS_f, andR_t, andR_f, orR_t, orR_f, truR_b, intR_i, putS_s, putS'_s, setS_s, List.set_cons_succ, List.set_cons_zero, ty_non_int, ty_non_bool, ty_non_str, ty_non_tup, ty_non_lst, ty_non_dct, ty_bl_int, ty_bl_bool, ty_bl_str, ty_bl_tup, ty_bl_lst, ty_bl_dct, ty_int_int, ty_int_bool, ty_int_str, ty_int_tup, ty_int_lst, ty_int_dct, ty_str_int, ty_str_bool, ty_str_str, ty_str_tup, ty_str_lst, ty_str_dct, ty_tup_int, ty_tup_bool, ty_tup_str, ty_tup_tup, ty_tup_lst, ty_tup_dct, tru_non, tru_bl, tru_int, tru_tup, lt_int, le_int, gt_int, ge_int, eq_d, ne_d, is_d, isn_d, inn_d, nin_d, isNon_n, isNon_i, isNon_t, isNon_s, isNon_r, isNon_b, eq_int, eq_str, eq_bl, add_int, sub_int, neg_int, len_tup, bi_int_i, bi_int_b, bi_min, bi_max, rngW_i, seqW_t, newO_d, Bool.not_true, Bool.not_false, decide_true, decide_false, Bool.true_and, Bool.and_true, Bool.false_and, Bool.and_false, Bool.true_or, Bool.or_true, Bool.false_or, Bool.or_false, List.length_cons, List.length_nil, Nat.zero_add, Nat.reduceAdd, Nat.reduceLeDiff, SZ, ↓reduceIte, v_fld, t_fld, v_fnv, v_calll, t_calll, v_repr, v_dct0, s_raise0, s_raise1, s_tryk, thn_ex, thn_exS, fin_ex, truR_ex, keep_nx, keep_rt, eq_non_non, eq_non_int, eq_int_non, eq_str_non, eq_non_str, eq_int_str, eq_str_int, p40, hnm, lnm, q4, ij, q5, ij5, q6, q7, q8, q9, Nat.zero_le, show (1 : Nat) ≤ 1000000 from by decide, show (2 : Nat) ≤ 1000000 from by decide]
end K42
namespace K42
open PySem L2 Py
def top (i : Nat) : Stmt := PySem.Challenge.pw_laterline_k42_told_lines_judged.main.body.getD i (.Pass ⟨0, 0, 0, 0⟩)
def inC (i k : Nat) : Stmt := match top i with
  | .ClassDef _ _ _ b _ _ _ _ _ _ _ => b.getD k (.Pass ⟨0, 0, 0, 0⟩)
  | s => s
def nfn : Nat → Option Str
  | 0 => some "law"
  | 1 => some "_law_deck"
  | 2 => some "_law_take"
  | 3 => some "_law_made"
  | 4 => some "right_lines"
  | 5 => some "_law_says"
  | 6 => some "_law_bent"
  | 7 => some "_law_refused"
  | 8 => some "look_houses"
  | 9 => some "is_line_zero"
  | 10 => some "is_told_line"
  | 11 => some "_law_right"
  | 12 => some "_law_odd"
  | 13 => some "is_upto"
  | 14 => some "_law_from"
  | 15 => some "_law_is_line"
  | _ => none
def ngl : Nat → Option Str
  | 0 => some "HOUSES"
  | 1 => some "LINE_ZERO"
  | 2 => some "LAST_LINE"
  | 3 => some "LAST_PLACE"
  | _ => none
def ncl : Nat → Option Str
  | 0 => some "LineError"
  | 1 => some "NoCount"
  | 2 => some "NoHouse"
  | 3 => some "NoPlace"
  | 4 => some "NoRule"
  | _ => none
def nfl : Nat → Option Str
  | 0 => some "what"
  | _ => none
def fnm : Nat → Str
  | 0 => "what"
  | _ => ""
def nx0 : Nat → Bool
  | _ => false
def nx1 : Nat → Option Nat
  | 1 => some 0
  | _ => none
def n : Nm := { fn := nfn, gl := ngl, cl := ncl, fl := nfl, x0 := nx0, x1 := nx1 }
def r0 : Dr := ⟨"law", top 29, ["_law_script", "_law_deck_here", "_law_many", "_law_lines", "_law_k", "_law_no_many"], ["_law_script"]⟩
theorem c0 : chkD n d0 r0 = true := by decide +kernel
def r1 : Dr := ⟨"_law_deck", top 19, ["_law_script", "_law_cells", "_law_cell"], ["_law_script"]⟩
theorem c1 : chkD n d1 r1 = true := by decide +kernel
def r2 : Dr := ⟨"_law_take", top 20, ["_law_deck_here", "_law_many", "_law_cells", "_law_count", "_law_rests", "_law_place", "_law_digits", "_law_mixed"], ["_law_deck_here", "_law_many"]⟩
theorem c2 : chkD n d2 r2 = true := by decide +kernel
def r3 : Dr := ⟨"_law_made", top 24, ["_law_deck_here", "_law_many", "_law_found", "_law_count", "_law_k", "_law_parent", "_law_line", "_law_told", "_law_fork"], ["_law_deck_here", "_law_many"]⟩
theorem c3 : chkD n d3 r3 = true := by decide +kernel
def r4 : Dr := ⟨"right_lines", top 17, ["houses", "lines", "forks", "line"], ["houses", "lines"]⟩
theorem c4 : chkD n d4 r4 = true := by decide +kernel
def r5 : Dr := ⟨"_law_says", top 27, ["_law_many", "_law_lines", "_law_was", "_law_found"], ["_law_many", "_law_lines"]⟩
theorem c5 : chkD n d5 r5 = true := by decide +kernel
def r6 : Dr := ⟨"_law_bent", top 26, ["_law_deck_here", "_law_lines", "_law_place", "_law_other", "_law_held", "_law_thing", "_law_twin", "_law_spot", "_law_some", "_law_bent_here"], ["_law_deck_here", "_law_lines"]⟩
theorem c6 : chkD n d6 r6 = true := by decide +kernel
def r7 : Dr := ⟨"_law_refused", top 28, ["_law_many", "_law_lines", "_law_caught", "error"], ["_law_many", "_law_lines"]⟩
theorem c7 : chkD n d7 r7 = true := by decide +kernel
def r8 : Dr := ⟨"look_houses", top 12, ["what", "thing"], ["what", "thing"]⟩
theorem c8 : chkD n d8 r8 = true := by decide +kernel
def r9 : Dr := ⟨"is_line_zero", top 16, ["thing"], ["thing"]⟩
theorem c9 : chkD n d9 r9 = true := by decide +kernel
def r10 : Dr := ⟨"is_told_line", top 15, ["thing", "houses", "forks", "line", "house", "parent", "fork", "forced"], ["thing", "houses", "forks"]⟩
theorem c10 : chkD n d10 r10 = true := by decide +kernel
def r11 : Dr := ⟨"_law_right", top 23, ["_law_many", "_law_lines", "_law_first", "_law_k", "_law_forks", "_law_thing"], ["_law_many", "_law_lines"]⟩
theorem c11 : chkD n d11 r11 = true := by decide +kernel
def r12 : Dr := ⟨"_law_odd", top 25, ["_law_deck_here", "_law_thing", "_law_told", "_law_some"], ["_law_deck_here", "_law_thing", "_law_told"]⟩
theorem c12 : chkD n d12 r12 = true := by decide +kernel
def r13 : Dr := ⟨"is_upto", top 9, ["thing", "most"], ["thing", "most"]⟩
theorem c13 : chkD n d13 r13 = true := by decide +kernel
def r14 : Dr := ⟨"_law_from", top 21, ["_law_thing", "_law_least", "_law_most"], ["_law_thing", "_law_least", "_law_most"]⟩
theorem c14 : chkD n d14 r14 = true := by decide +kernel
def r15 : Dr := ⟨"_law_is_line", top 22, ["_law_thing", "_law_many", "_law_forks", "_law_line", "_law_one", "_law_parent", "_law_fork", "_law_forced"], ["_law_thing", "_law_many", "_law_forks"]⟩
theorem c15 : chkD n d15 r15 = true := by decide +kernel
def ini1 : Stmt := inC 5 0
theorem ib1 : ∃ p1 p2 p3 p4, defBody ini1 = [.Assign [.Attribute (.Name "self" p1) "what" p2] (.Name "what" p3) p4] := ⟨_, _, _, _, rfl⟩
theorem is1 : scB ["self", "what"] ["self", "what"] (defScope ini1) = true := by decide +kernel
theorem iv1 : visB (defScope ini1) "self" = true ∧ visB (defScope ini1) "what" = true ∧ okB "what" = true := by decide +kernel
def fA (f0 f1 f2 f3 f4 f5 f6 f7 f8 f9 f10 f11 f12 f13 f14 f15 : Addr) : Nat → Addr
  | 0 => f0
  | 1 => f1
  | 2 => f2
  | 3 => f3
  | 4 => f4
  | 5 => f5
  | 6 => f6
  | 7 => f7
  | 8 => f8
  | 9 => f9
  | 10 => f10
  | 11 => f11
  | 12 => f12
  | 13 => f13
  | 14 => f14
  | 15 => f15
  | _ => 0
def cA (C0 C1 C2 C3 C4 : Addr) : Nat → Addr
  | 0 => C0
  | 1 => C1
  | 2 => C2
  | 3 => C3
  | 4 => C4
  | _ => 0
theorem selfC : ∀ c, c < 5 → c ∈ anc c := by decide
theorem lowC : ∀ c, c < 5 → ∀ i ∈ anc c, i < 5 := by decide
theorem getC_ {C0 C1 C2 C3 C4 : Addr} : ∀ c, c < 5 → [C0, C1, C2, C3, C4][c]? = some (cA C0 C1 C2 C3 C4 c)
  | 0, _ => rfl
  | 1, _ => rfl
  | 2, _ => rfl
  | 3, _ => rfl
  | 4, _ => rfl
  | _ + 5, h => absurd h (by omega)
theorem all_mk {l : PySem.W.OpenLaw} {w : World} {K : PySem.W.Frag} {h : Heap} {mg : Str → Option Value} {fa : Addr} {f0 f1 f2 f3 f4 f5 f6 f7 f8 f9 f10 f11 f12 f13 f14 f15 : Addr} {od0 an0 od1 an1 od2 an2 od3 an3 od4 an4 od5 an5 od6 an6 od7 an7 od8 an8 od9 an9 od10 an10 od11 an11 od12 an12 od13 an13 od14 an14 od15 an15 : Option Addr} {sl0 sl1 sl2 sl3 sl4 sl5 sl6 sl7 sl8 sl9 sl10 sl11 sl12 sl13 sl14 sl15 : Array (Option Value)} {oc0 kV0 dc0 pm0 cd0 ct0 oc1 kV1 dc1 pm1 cd1 ct1 oc2 kV2 dc2 pm2 cd2 ct2 oc3 kV3 dc3 pm3 cd3 ct3 oc4 kV4 dc4 pm4 cd4 ct4 oc5 kV5 dc5 pm5 cd5 ct5 oc6 kV6 dc6 pm6 cd6 ct6 oc7 kV7 dc7 pm7 cd7 ct7 oc8 kV8 dc8 pm8 cd8 ct8 oc9 kV9 dc9 pm9 cd9 ct9 oc10 kV10 dc10 pm10 cd10 ct10 oc11 kV11 dc11 pm11 cd11 ct11 oc12 kV12 dc12 pm12 cd12 ct12 oc13 kV13 dc13 pm13 cd13 ct13 oc14 kV14 dc14 pm14 cd14 ct14 oc15 kV15 dc15 pm15 cd15 ct15 : Value} {u0 : Value} {t1 : Addr} {to1 : Option Addr} {ti1 : Array Value} {tm1 : Nat} {ts1 : Array (Option Value)} {u2 : Value} {u3 : Value} {C0 C1 C2 C3 C4 : Addr} {nm0 qn0 : Str} {bs0 sb0 : List Value} {ns0 : Addr} {sn0 : List Str} {ab0 de0 : Bool} {co0 : Option Bool} {nm1 qn1 : Str} {bs1 sb1 : List Value} {ns1 : Addr} {sn1 : List Str} {ab1 de1 : Bool} {co1 : Option Bool} {nn1 qq1 : Str} {NN1 F1 : Addr} {bb1 ss1 : List Value} {sm1 : List Str} {aa1 : Bool} {cc1 : Option Bool} {dd1 : Option Addr} {q01 q11 q21 q31 q51 : Option Value} {io1 ia1 : Option Addr} {isl1 : Array (Option Value)} {ioc1 ikV1 idc1 ipm1 icd1 ict1 : Value} {nm2 qn2 : Str} {bs2 sb2 : List Value} {ns2 : Addr} {sn2 : List Str} {ab2 de2 : Bool} {co2 : Option Bool} {nm3 qn3 : Str} {bs3 sb3 : List Value} {ns3 : Addr} {sn3 : List Str} {ab3 de3 : Bool} {co3 : Option Bool} {nm4 qn4 : Str} {bs4 sb4 : List Value} {ns4 : Addr} {sn4 : List Str} {ab4 de4 : Bool} {co4 : Option Bool}
    (lawH : ∀ ns : List Int, ns.length ≤ 63 → ∃ h', Py.run T P (dep + 1) 0 [.ref 0] [.lst (ns.map .int) true] = .ok (.bl true) h') (X : K.In h) (H : h.Ns mainGlobals mg) (hfa : mg "law" = some (.ref fa))
    (a0 : PySem.W.nsIn K mainGlobals "law" = some (some (.ref f0)))
    (l0 : K.lookup f0 = some ⟨oc0, od0, .func (PySem.W.fnOf "law" "law" (defArgs r0.st) (defBody r0.st) (defScope r0.st) .none kV0 dc0 pm0 an0 cd0 ct0), sl0⟩)
    (c0 : PySem.W.codeIn K cd0 "law" = true)
    (k0 : PySem.W.keepIn K (.ref f0) = true)
    (a1 : PySem.W.nsIn K mainGlobals "_law_deck" = some (some (.ref f1)))
    (l1 : K.lookup f1 = some ⟨oc1, od1, .func (PySem.W.fnOf "_law_deck" "_law_deck" (defArgs r1.st) (defBody r1.st) (defScope r1.st) .none kV1 dc1 pm1 an1 cd1 ct1), sl1⟩)
    (c1 : PySem.W.codeIn K cd1 "_law_deck" = true)
    (k1 : PySem.W.keepIn K (.ref f1) = true)
    (a2 : PySem.W.nsIn K mainGlobals "_law_take" = some (some (.ref f2)))
    (l2 : K.lookup f2 = some ⟨oc2, od2, .func (PySem.W.fnOf "_law_take" "_law_take" (defArgs r2.st) (defBody r2.st) (defScope r2.st) .none kV2 dc2 pm2 an2 cd2 ct2), sl2⟩)
    (c2 : PySem.W.codeIn K cd2 "_law_take" = true)
    (k2 : PySem.W.keepIn K (.ref f2) = true)
    (a3 : PySem.W.nsIn K mainGlobals "_law_made" = some (some (.ref f3)))
    (l3 : K.lookup f3 = some ⟨oc3, od3, .func (PySem.W.fnOf "_law_made" "_law_made" (defArgs r3.st) (defBody r3.st) (defScope r3.st) .none kV3 dc3 pm3 an3 cd3 ct3), sl3⟩)
    (c3 : PySem.W.codeIn K cd3 "_law_made" = true)
    (k3 : PySem.W.keepIn K (.ref f3) = true)
    (a4 : PySem.W.nsIn K mainGlobals "right_lines" = some (some (.ref f4)))
    (l4 : K.lookup f4 = some ⟨oc4, od4, .func (PySem.W.fnOf "right_lines" "right_lines" (defArgs r4.st) (defBody r4.st) (defScope r4.st) .none kV4 dc4 pm4 an4 cd4 ct4), sl4⟩)
    (c4 : PySem.W.codeIn K cd4 "right_lines" = true)
    (k4 : PySem.W.keepIn K (.ref f4) = true)
    (a5 : PySem.W.nsIn K mainGlobals "_law_says" = some (some (.ref f5)))
    (l5 : K.lookup f5 = some ⟨oc5, od5, .func (PySem.W.fnOf "_law_says" "_law_says" (defArgs r5.st) (defBody r5.st) (defScope r5.st) .none kV5 dc5 pm5 an5 cd5 ct5), sl5⟩)
    (c5 : PySem.W.codeIn K cd5 "_law_says" = true)
    (k5 : PySem.W.keepIn K (.ref f5) = true)
    (a6 : PySem.W.nsIn K mainGlobals "_law_bent" = some (some (.ref f6)))
    (l6 : K.lookup f6 = some ⟨oc6, od6, .func (PySem.W.fnOf "_law_bent" "_law_bent" (defArgs r6.st) (defBody r6.st) (defScope r6.st) .none kV6 dc6 pm6 an6 cd6 ct6), sl6⟩)
    (c6 : PySem.W.codeIn K cd6 "_law_bent" = true)
    (k6 : PySem.W.keepIn K (.ref f6) = true)
    (a7 : PySem.W.nsIn K mainGlobals "_law_refused" = some (some (.ref f7)))
    (l7 : K.lookup f7 = some ⟨oc7, od7, .func (PySem.W.fnOf "_law_refused" "_law_refused" (defArgs r7.st) (defBody r7.st) (defScope r7.st) .none kV7 dc7 pm7 an7 cd7 ct7), sl7⟩)
    (c7 : PySem.W.codeIn K cd7 "_law_refused" = true)
    (k7 : PySem.W.keepIn K (.ref f7) = true)
    (a8 : PySem.W.nsIn K mainGlobals "look_houses" = some (some (.ref f8)))
    (l8 : K.lookup f8 = some ⟨oc8, od8, .func (PySem.W.fnOf "look_houses" "look_houses" (defArgs r8.st) (defBody r8.st) (defScope r8.st) .none kV8 dc8 pm8 an8 cd8 ct8), sl8⟩)
    (c8 : PySem.W.codeIn K cd8 "look_houses" = true)
    (k8 : PySem.W.keepIn K (.ref f8) = true)
    (a9 : PySem.W.nsIn K mainGlobals "is_line_zero" = some (some (.ref f9)))
    (l9 : K.lookup f9 = some ⟨oc9, od9, .func (PySem.W.fnOf "is_line_zero" "is_line_zero" (defArgs r9.st) (defBody r9.st) (defScope r9.st) .none kV9 dc9 pm9 an9 cd9 ct9), sl9⟩)
    (c9 : PySem.W.codeIn K cd9 "is_line_zero" = true)
    (k9 : PySem.W.keepIn K (.ref f9) = true)
    (a10 : PySem.W.nsIn K mainGlobals "is_told_line" = some (some (.ref f10)))
    (l10 : K.lookup f10 = some ⟨oc10, od10, .func (PySem.W.fnOf "is_told_line" "is_told_line" (defArgs r10.st) (defBody r10.st) (defScope r10.st) .none kV10 dc10 pm10 an10 cd10 ct10), sl10⟩)
    (c10 : PySem.W.codeIn K cd10 "is_told_line" = true)
    (k10 : PySem.W.keepIn K (.ref f10) = true)
    (a11 : PySem.W.nsIn K mainGlobals "_law_right" = some (some (.ref f11)))
    (l11 : K.lookup f11 = some ⟨oc11, od11, .func (PySem.W.fnOf "_law_right" "_law_right" (defArgs r11.st) (defBody r11.st) (defScope r11.st) .none kV11 dc11 pm11 an11 cd11 ct11), sl11⟩)
    (c11 : PySem.W.codeIn K cd11 "_law_right" = true)
    (k11 : PySem.W.keepIn K (.ref f11) = true)
    (a12 : PySem.W.nsIn K mainGlobals "_law_odd" = some (some (.ref f12)))
    (l12 : K.lookup f12 = some ⟨oc12, od12, .func (PySem.W.fnOf "_law_odd" "_law_odd" (defArgs r12.st) (defBody r12.st) (defScope r12.st) .none kV12 dc12 pm12 an12 cd12 ct12), sl12⟩)
    (c12 : PySem.W.codeIn K cd12 "_law_odd" = true)
    (k12 : PySem.W.keepIn K (.ref f12) = true)
    (a13 : PySem.W.nsIn K mainGlobals "is_upto" = some (some (.ref f13)))
    (l13 : K.lookup f13 = some ⟨oc13, od13, .func (PySem.W.fnOf "is_upto" "is_upto" (defArgs r13.st) (defBody r13.st) (defScope r13.st) .none kV13 dc13 pm13 an13 cd13 ct13), sl13⟩)
    (c13 : PySem.W.codeIn K cd13 "is_upto" = true)
    (k13 : PySem.W.keepIn K (.ref f13) = true)
    (a14 : PySem.W.nsIn K mainGlobals "_law_from" = some (some (.ref f14)))
    (l14 : K.lookup f14 = some ⟨oc14, od14, .func (PySem.W.fnOf "_law_from" "_law_from" (defArgs r14.st) (defBody r14.st) (defScope r14.st) .none kV14 dc14 pm14 an14 cd14 ct14), sl14⟩)
    (c14 : PySem.W.codeIn K cd14 "_law_from" = true)
    (k14 : PySem.W.keepIn K (.ref f14) = true)
    (a15 : PySem.W.nsIn K mainGlobals "_law_is_line" = some (some (.ref f15)))
    (l15 : K.lookup f15 = some ⟨oc15, od15, .func (PySem.W.fnOf "_law_is_line" "_law_is_line" (defArgs r15.st) (defBody r15.st) (defScope r15.st) .none kV15 dc15 pm15 an15 cd15 ct15), sl15⟩)
    (c15 : PySem.W.codeIn K cd15 "_law_is_line" = true)
    (k15 : PySem.W.keepIn K (.ref f15) = true)
    (wqg0 : PySem.W.nsIn K mainGlobals "HOUSES" = some (some u0))
    (wqgv0 : vB (.int (8)) u0 = true)
    (wqg1 : PySem.W.nsIn K mainGlobals "LINE_ZERO" = some (some (.ref t1)))
    (wqgl1 : K.lookup t1 = some ⟨.type "tuple", to1, .seq ti1 tm1, ts1⟩)
    (wqgv1 : vsB [(.int (0)), (.int (0)), .non, (.int (0)), (.bl false)] ti1.toList = true)
    (wqgz1 : decide (ti1.size ≤ sizeLine) = true)
    (wqg2 : PySem.W.nsIn K mainGlobals "LAST_LINE" = some (some u2))
    (wqgv2 : vB (.int (1000000000)) u2 = true)
    (wqg3 : PySem.W.nsIn K mainGlobals "LAST_PLACE" = some (some u3))
    (wqgv3 : vB (.int (1000000)) u3 = true)
    (z0 : PySem.W.nsIn K mainGlobals "len" = some none)
    (z1 : PySem.W.nsIn K mainGlobals "list" = some none)
    (z2 : PySem.W.nsIn K mainGlobals "tuple" = some none)
    (z3 : PySem.W.nsIn K mainGlobals "int" = some none)
    (z4 : PySem.W.nsIn K mainGlobals "abs" = some none)
    (z5 : PySem.W.nsIn K mainGlobals "min" = some none)
    (z6 : PySem.W.nsIn K mainGlobals "max" = some none)
    (z7 : PySem.W.nsIn K mainGlobals "sorted" = some none)
    (z8 : PySem.W.nsIn K mainGlobals "all" = some none)
    (z9 : PySem.W.nsIn K mainGlobals "isinstance" = some none)
    (z10 : PySem.W.nsIn K mainGlobals "range" = some none)
    (z11 : PySem.W.nsIn K mainGlobals "enumerate" = some none)
    (z12 : PySem.W.nsIn K mainGlobals "zip" = some none)
    (z13 : PySem.W.nsIn K mainGlobals "bool" = some none)
    (z14 : PySem.W.nsIn K mainGlobals "str" = some none)
    (z15 : PySem.W.nsIn K mainGlobals "dict" = some none)
    (z16 : PySem.W.nsIn K mainGlobals "ValueError" = some none)
    (z17 : PySem.W.nsIn K mainGlobals "repr" = some none)
    (z18 : PySem.W.nsIn K mainGlobals "reversed" = some none)
    (kn : PySem.W.specialIn K (.builtin "object.__class__") "__get__" = some (some (.builtin "getset_descriptor.__get__")))
    (kt : PySem.W.takesIn K (.builtin "object.__class__") = some true)
    (ka0 : PySem.W.nsIn K mainGlobals "LineError" = some (some (.ref C0)))
    (km0 : PySem.W.clsIn K C0 = some ⟨nm0, bs0, [.ref C0, .type "ValueError", .type "Exception", .type "BaseException", .type "object"], ns0, qn0, true, sn0, sb0, ab0, co0, de0⟩)
    (ky0 : PySem.W.typeIn K (.ref C0) = some (.type "type"))
    (kgc0 : PySem.W.findIn K (.ref C0) "__class__" = some (some (.builtin "object.__class__")))
    (kga0 : PySem.W.findIn K (.ref C0) "__getattribute__" = some (some (.builtin "BaseException.__getattribute__")))
    (kgg0 : PySem.W.findIn K (.ref C0) "__getattr__" = some none)
    (ka1 : PySem.W.nsIn K mainGlobals "NoCount" = some (some (.ref C1)))
    (km1 : PySem.W.clsIn K C1 = some ⟨nm1, bs1, [.ref C1, .ref C0, .type "ValueError", .type "Exception", .type "BaseException", .type "object"], ns1, qn1, true, sn1, sb1, ab1, co1, de1⟩)
    (ky1 : PySem.W.typeIn K (.ref C1) = some (.type "type"))
    (kgc1 : PySem.W.findIn K (.ref C1) "__class__" = some (some (.builtin "object.__class__")))
    (kga1 : PySem.W.findIn K (.ref C1) "__getattribute__" = some (some (.builtin "BaseException.__getattribute__")))
    (kgg1 : PySem.W.findIn K (.ref C1) "__getattr__" = some none)
    (kf1 : PySem.W.findIn K (.ref C1) "what" = some none)
    (kl1 : K.lookup C1 = some (excClassObj nn1 qq1 C1 NN1 bb1 ([.ref C0, .type "ValueError", .type "Exception", .type "BaseException", .type "object"] : List Value) true sm1 ss1 aa1 cc1 dd1 q01 q11 q21 q31 q51 "ValueError.__new__"))
    (ks1 : PySem.W.findIn K (.ref C1) "__setattr__" = some (some (.builtin "object.__setattr__")))
    (kk1 : PySem.W.keepIn K (.ref C1) = true)
    (ki1 : PySem.W.findIn K (.ref C1) "__init__" = some (some (.ref F1)))
    (kp1 : PySem.W.typeIn K (.ref F1) = some (.type "function"))
    (il1 : K.lookup F1 = some ⟨ioc1, io1, .func (PySem.W.fnOf "__init__" "NoCount.__init__" (defArgs ini1) (defBody ini1) (defScope ini1) .none ikV1 idc1 ipm1 ia1 icd1 ict1), isl1⟩)
    (ic1 : PySem.W.codeIn K icd1 "NoCount.__init__" = true)
    (ik1 : PySem.W.keepIn K (.ref F1) = true)
    (ka2 : PySem.W.nsIn K mainGlobals "NoHouse" = some (some (.ref C2)))
    (km2 : PySem.W.clsIn K C2 = some ⟨nm2, bs2, [.ref C2, .ref C0, .type "ValueError", .type "Exception", .type "BaseException", .type "object"], ns2, qn2, true, sn2, sb2, ab2, co2, de2⟩)
    (ky2 : PySem.W.typeIn K (.ref C2) = some (.type "type"))
    (kgc2 : PySem.W.findIn K (.ref C2) "__class__" = some (some (.builtin "object.__class__")))
    (kga2 : PySem.W.findIn K (.ref C2) "__getattribute__" = some (some (.builtin "BaseException.__getattribute__")))
    (kgg2 : PySem.W.findIn K (.ref C2) "__getattr__" = some none)
    (ka3 : PySem.W.nsIn K mainGlobals "NoPlace" = some (some (.ref C3)))
    (km3 : PySem.W.clsIn K C3 = some ⟨nm3, bs3, [.ref C3, .ref C0, .type "ValueError", .type "Exception", .type "BaseException", .type "object"], ns3, qn3, true, sn3, sb3, ab3, co3, de3⟩)
    (ky3 : PySem.W.typeIn K (.ref C3) = some (.type "type"))
    (kgc3 : PySem.W.findIn K (.ref C3) "__class__" = some (some (.builtin "object.__class__")))
    (kga3 : PySem.W.findIn K (.ref C3) "__getattribute__" = some (some (.builtin "BaseException.__getattribute__")))
    (kgg3 : PySem.W.findIn K (.ref C3) "__getattr__" = some none)
    (ka4 : PySem.W.nsIn K mainGlobals "NoRule" = some (some (.ref C4)))
    (km4 : PySem.W.clsIn K C4 = some ⟨nm4, bs4, [.ref C4, .ref C0, .type "ValueError", .type "Exception", .type "BaseException", .type "object"], ns4, qn4, true, sn4, sb4, ab4, co4, de4⟩)
    (ky4 : PySem.W.typeIn K (.ref C4) = some (.type "type"))
    (kgc4 : PySem.W.findIn K (.ref C4) "__class__" = some (some (.builtin "object.__class__")))
    (kga4 : PySem.W.findIn K (.ref C4) "__getattribute__" = some (some (.builtin "BaseException.__getattribute__")))
    (kgg4 : PySem.W.findIn K (.ref C4) "__getattr__" = some none)
    (kinj : ([C0, C1, C2, C3, C4] : List Addr).Nodup) :
    ∃ fd : FuncData, (∀ (s : Shared) (v : Value), BindsTo s fd ⟨[v], []⟩ [("_law_script", v)]) ∧ ∀ gr : Heap, K.In gr → gr.Ns mainGlobals mg → FnG l.prog w K mg gr (L2.CX l.prog w) (dep + 1 + 3) fa fd ["_law_script"] (spLaw 63 K) := by
  have e : f0 = fa := by
    have z := (PySem.W.mg_of X H a0).symm.trans hfa
    cases z
    rfl
  subst e
  have F0' := fun_mk (st := r0.st) l0 c0 k0
  have b0 := F0'.binds (ps := r0.ps) fun _ _ _ _ _ _ us hl => match us, hl with | [_], _ => rfl
  have F1' := fun_mk (st := r1.st) l1 c1 k1
  have b1 := F1'.binds (ps := r1.ps) fun _ _ _ _ _ _ us hl => match us, hl with | [_], _ => rfl
  have F2' := fun_mk (st := r2.st) l2 c2 k2
  have b2 := F2'.binds (ps := r2.ps) fun _ _ _ _ _ _ us hl => match us, hl with | [_, _], _ => rfl
  have F3' := fun_mk (st := r3.st) l3 c3 k3
  have b3 := F3'.binds (ps := r3.ps) fun _ _ _ _ _ _ us hl => match us, hl with | [_, _], _ => rfl
  have F4' := fun_mk (st := r4.st) l4 c4 k4
  have b4 := F4'.binds (ps := r4.ps) fun _ _ _ _ _ _ us hl => match us, hl with | [_, _], _ => rfl
  have F5' := fun_mk (st := r5.st) l5 c5 k5
  have b5 := F5'.binds (ps := r5.ps) fun _ _ _ _ _ _ us hl => match us, hl with | [_, _], _ => rfl
  have F6' := fun_mk (st := r6.st) l6 c6 k6
  have b6 := F6'.binds (ps := r6.ps) fun _ _ _ _ _ _ us hl => match us, hl with | [_, _], _ => rfl
  have F7' := fun_mk (st := r7.st) l7 c7 k7
  have b7 := F7'.binds (ps := r7.ps) fun _ _ _ _ _ _ us hl => match us, hl with | [_, _], _ => rfl
  have F8' := fun_mk (st := r8.st) l8 c8 k8
  have b8 := F8'.binds (ps := r8.ps) fun _ _ _ _ _ _ us hl => match us, hl with | [_, _], _ => rfl
  have F9' := fun_mk (st := r9.st) l9 c9 k9
  have b9 := F9'.binds (ps := r9.ps) fun _ _ _ _ _ _ us hl => match us, hl with | [_], _ => rfl
  have F10' := fun_mk (st := r10.st) l10 c10 k10
  have b10 := F10'.binds (ps := r10.ps) fun _ _ _ _ _ _ us hl => match us, hl with | [_, _, _], _ => rfl
  have F11' := fun_mk (st := r11.st) l11 c11 k11
  have b11 := F11'.binds (ps := r11.ps) fun _ _ _ _ _ _ us hl => match us, hl with | [_, _], _ => rfl
  have F12' := fun_mk (st := r12.st) l12 c12 k12
  have b12 := F12'.binds (ps := r12.ps) fun _ _ _ _ _ _ us hl => match us, hl with | [_, _, _], _ => rfl
  have F13' := fun_mk (st := r13.st) l13 c13 k13
  have b13 := F13'.binds (ps := r13.ps) fun _ _ _ _ _ _ us hl => match us, hl with | [_, _], _ => rfl
  have F14' := fun_mk (st := r14.st) l14 c14 k14
  have b14 := F14'.binds (ps := r14.ps) fun _ _ _ _ _ _ us hl => match us, hl with | [_, _, _], _ => rfl
  have F15' := fun_mk (st := r15.st) l15 c15 k15
  have b15 := F15'.binds (ps := r15.ps) fun _ _ _ _ _ _ us hl => match us, hl with | [_, _, _], _ => rfl
  have I1 := fun_mk (st := ini1) il1 ic1 ik1
  have ibd1 := I1.binds (ps := ["self", "what"]) fun _ _ _ _ _ _ us hl => match us, hl with | [_, _], _ => rfl
  have TT : Top ⟨K, T, fA f0 f1 f2 f3 f4 f5 f6 f7 f8 f9 f10 f11 f12 f13 f14 f15, (cA C0 C1 C2 C3 C4), fnm⟩ mg n P := by
    refine ⟨fun f x e => ?_, fun g x e => ?_, fun x hx => ?_, fun c x e => ?_, ?_, fun f hf => ?_, fun f y e => ?_, fun c e => ?_, fun c f e p w gr => ?_⟩
    · match f, e with
      | 0, e => cases e; exact ⟨PySem.W.mg_of X H a0, d0, r0, _, rfl, F0', b0, K42.c0⟩
      | 1, e => cases e; exact ⟨PySem.W.mg_of X H a1, d1, r1, _, rfl, F1', b1, K42.c1⟩
      | 2, e => cases e; exact ⟨PySem.W.mg_of X H a2, d2, r2, _, rfl, F2', b2, K42.c2⟩
      | 3, e => cases e; exact ⟨PySem.W.mg_of X H a3, d3, r3, _, rfl, F3', b3, K42.c3⟩
      | 4, e => cases e; exact ⟨PySem.W.mg_of X H a4, d4, r4, _, rfl, F4', b4, K42.c4⟩
      | 5, e => cases e; exact ⟨PySem.W.mg_of X H a5, d5, r5, _, rfl, F5', b5, K42.c5⟩
      | 6, e => cases e; exact ⟨PySem.W.mg_of X H a6, d6, r6, _, rfl, F6', b6, K42.c6⟩
      | 7, e => cases e; exact ⟨PySem.W.mg_of X H a7, d7, r7, _, rfl, F7', b7, K42.c7⟩
      | 8, e => cases e; exact ⟨PySem.W.mg_of X H a8, d8, r8, _, rfl, F8', b8, K42.c8⟩
      | 9, e => cases e; exact ⟨PySem.W.mg_of X H a9, d9, r9, _, rfl, F9', b9, K42.c9⟩
      | 10, e => cases e; exact ⟨PySem.W.mg_of X H a10, d10, r10, _, rfl, F10', b10, K42.c10⟩
      | 11, e => cases e; exact ⟨PySem.W.mg_of X H a11, d11, r11, _, rfl, F11', b11, K42.c11⟩
      | 12, e => cases e; exact ⟨PySem.W.mg_of X H a12, d12, r12, _, rfl, F12', b12, K42.c12⟩
      | 13, e => cases e; exact ⟨PySem.W.mg_of X H a13, d13, r13, _, rfl, F13', b13, K42.c13⟩
      | 14, e => cases e; exact ⟨PySem.W.mg_of X H a14, d14, r14, _, rfl, F14', b14, K42.c14⟩
      | 15, e => cases e; exact ⟨PySem.W.mg_of X H a15, d15, r15, _, rfl, F15', b15, K42.c15⟩
      | _ + 16, e => cases e
    · match g, e with
      | 0, e => cases e; exact gl_flat (PySem.W.mg_of X H wqg0) wqgv0
      | 1, e => cases e; exact gl_tup (PySem.W.mg_of X H wqg1) wqgl1 wqgv1 wqgz1
      | 2, e => cases e; exact gl_flat (PySem.W.mg_of X H wqg2) wqgv2
      | 3, e => cases e; exact gl_flat (PySem.W.mg_of X H wqg3) wqgv3
      | _ + 4, e => cases e
    · unfold bltNames at hx
      rcases List.mem_cons.mp hx with rfl | hx
      · exact PySem.W.mg_none_of X H z0
      rcases List.mem_cons.mp hx with rfl | hx
      · exact PySem.W.mg_none_of X H z1
      rcases List.mem_cons.mp hx with rfl | hx
      · exact PySem.W.mg_none_of X H z2
      rcases List.mem_cons.mp hx with rfl | hx
      · exact PySem.W.mg_none_of X H z3
      rcases List.mem_cons.mp hx with rfl | hx
      · exact PySem.W.mg_none_of X H z4
      rcases List.mem_cons.mp hx with rfl | hx
      · exact PySem.W.mg_none_of X H z5
      rcases List.mem_cons.mp hx with rfl | hx
      · exact PySem.W.mg_none_of X H z6
      rcases List.mem_cons.mp hx with rfl | hx
      · exact PySem.W.mg_none_of X H z7
      rcases List.mem_cons.mp hx with rfl | hx
      · exact PySem.W.mg_none_of X H z8
      rcases List.mem_cons.mp hx with rfl | hx
      · exact PySem.W.mg_none_of X H z9
      rcases List.mem_cons.mp hx with rfl | hx
      · exact PySem.W.mg_none_of X H z10
      rcases List.mem_cons.mp hx with rfl | hx
      · exact PySem.W.mg_none_of X H z11
      rcases List.mem_cons.mp hx with rfl | hx
      · exact PySem.W.mg_none_of X H z12
      rcases List.mem_cons.mp hx with rfl | hx
      · exact PySem.W.mg_none_of X H z13
      rcases List.mem_cons.mp hx with rfl | hx
      · exact PySem.W.mg_none_of X H z14
      rcases List.mem_cons.mp hx with rfl | hx
      · exact PySem.W.mg_none_of X H z15
      rcases List.mem_cons.mp hx with rfl | hx
      · exact PySem.W.mg_none_of X H z16
      rcases List.mem_cons.mp hx with rfl | hx
      · exact PySem.W.mg_none_of X H z17
      rcases List.mem_cons.mp hx with rfl | hx
      · exact PySem.W.mg_none_of X H z18
      cases hx
    · match c, e with
      | 0, e => cases e; exact PySem.W.mg_of X H ka0
      | 1, e => cases e; exact PySem.W.mg_of X H ka1
      | 2, e => cases e; exact PySem.W.mg_of X H ka2
      | 3, e => cases e; exact PySem.W.mg_of X H ka3
      | 4, e => cases e; exact PySem.W.mg_of X H ka4
      | _ + 5, e => cases e
    · refine clsF_mk anc (fun _ _ => rfl) (fun c hc => ?_) (fun c hc => ?_) (fun c hc => ?_) (fun c d hc hd e => ?_) (fun c hc => rfl) (fun c hc hx => ?_) (fun c hc hx => ?_) (fun c hc => ?_) kn kt (fun c hc hx => ?_)
      · match c, hc with
        | 0, _ => exact ⟨⟨_, km0, rfl, rfl⟩, ky0⟩
        | 1, _ => exact ⟨⟨_, km1, rfl, rfl⟩, ky1⟩
        | 2, _ => exact ⟨⟨_, km2, rfl, rfl⟩, ky2⟩
        | 3, _ => exact ⟨⟨_, km3, rfl, rfl⟩, ky3⟩
        | 4, _ => exact ⟨⟨_, km4, rfl, rfl⟩, ky4⟩
        | _ + 5, hc => exact absurd hc (by show ¬ (_ + 5 < 5); omega)
      · exact selfC c hc
      · exact lowC c hc
      · exact (List.getElem?_inj hc kinj).mp ((getC_ c hc).trans ((congrArg some e).trans (getC_ d hd).symm))
      · match c, hc with
        | 0, _ => exact kga0
        | 1, _ => exact kga1
        | 2, _ => exact kga2
        | 3, _ => exact kga3
        | 4, _ => exact kga4
        | _ + 5, hc => exact absurd hc (by show ¬ (_ + 5 < 5); omega)
      · match c, hc with
        | 0, _ => exact kgg0
        | 1, _ => exact kgg1
        | 2, _ => exact kgg2
        | 3, _ => exact kgg3
        | 4, _ => exact kgg4
        | _ + 5, hc => exact absurd hc (by show ¬ (_ + 5 < 5); omega)
      · match c, hc with
        | 0, _ => exact kgc0
        | 1, _ => exact kgc1
        | 2, _ => exact kgc2
        | 3, _ => exact kgc3
        | 4, _ => exact kgc4
        | _ + 5, hc => exact absurd hc (by show ¬ (_ + 5 < 5); omega)
      · match c, hc with
        | 0, _ => cases hx
        | 1, _ => cases hx
        | 2, _ => cases hx
        | 3, _ => cases hx
        | 4, _ => cases hx
        | _ + 5, hc => exact absurd hc (by show ¬ (_ + 5 < 5); omega)
    · have hf : decide (f < 16) = true := hf
      have hf := of_decide_eq_true hf
      match f, hf with
      | 0, _ => exact ⟨_, rfl⟩
      | 1, _ => exact ⟨_, rfl⟩
      | 2, _ => exact ⟨_, rfl⟩
      | 3, _ => exact ⟨_, rfl⟩
      | 4, _ => exact ⟨_, rfl⟩
      | 5, _ => exact ⟨_, rfl⟩
      | 6, _ => exact ⟨_, rfl⟩
      | 7, _ => exact ⟨_, rfl⟩
      | 8, _ => exact ⟨_, rfl⟩
      | 9, _ => exact ⟨_, rfl⟩
      | 10, _ => exact ⟨_, rfl⟩
      | 11, _ => exact ⟨_, rfl⟩
      | 12, _ => exact ⟨_, rfl⟩
      | 13, _ => exact ⟨_, rfl⟩
      | 14, _ => exact ⟨_, rfl⟩
      | 15, _ => exact ⟨_, rfl⟩
      | k + 16, hf => omega
    · match f, e with
      | 0, e =>
        cases e
        refine ⟨rfl, fun g hg => ?_, fun c hc hx hf => ?_⟩
        · match g, hg with
          | 0, hg => rfl
          | _ + 1, hg => exact absurd (show ("" : Str) = "what" from hg) (by decide +kernel)
        · match c, hc, hx, hf with
          | 0, _, hx, hf => first | cases hf | cases hx
          | 1, _, _, _ => exact kf1
          | 2, _, hx, hf => first | cases hf | cases hx
          | 3, _, hx, hf => first | cases hf | cases hx
          | 4, _, hx, hf => first | cases hf | cases hx
          | _ + 5, hc, _, _ => exact absurd hc (by show ¬ (_ + 5 < 5); omega)
      | _ + 1, e => cases e
    · cases e
    · match c, e with
      | 0, e => cases e
      | 1, e =>
        cases e
        obtain ⟨p1, p2, p3, p4, ib⟩ := ib1
        exact ex1_mk ⟨⟨_, _, _, _, _, _, _, _, _, _, _, _, _, _, _, kl1, rfl⟩, ks1, ((CA.mk ⟨_, km1, rfl, rfl⟩ ky1).mro rfl _).trans rfl, ky1, kk1⟩ ki1 kp1 I1 ibd1 is1 ib kf1 iv1.1 iv1.2.1 iv1.2.2
      | _ + 2, e => cases e
  exact ⟨_, fun s v => .of_eq rfl, fun gr _ _ => law_ok TT (x := "law") (P := P) (f := 0) (d := d0) (r := r0) rfl F0' K42.c0 lawH⟩
end K42
open PySem PySem.W PyProof.Rows
set_option maxHeartbeats 0 in
theorem PySem.Challenge.cw_laterline_k42_told_lines_judged_holds : PySem.Challenge.rw_laterline_k42_told_lines_judged.Holds := by
  w_on; o_law; k_head; (case hw => w_witness2)
  k_fill
  refine Py.walkL (l := PySem.Challenge.rw_laterline_k42_told_lines_judged) (N := 63) (k := K42.dep + 1 + 3) (x := "_law_script") rfl (by decide) ⟨rfl, by decide, by decide⟩ rfl (fun w h Y => PySem.W.kIn_of Y) ?F
  case F =>
    intro w mg fa h KX G hmg
    refine' K42.all_mk K42.law_holds KX G hmg ?a0 ?l0 ?c0 ?k0 ?a1 ?l1 ?c1 ?k1 ?a2 ?l2 ?c2 ?k2 ?a3 ?l3 ?c3 ?k3 ?a4 ?l4 ?c4 ?k4 ?a5 ?l5 ?c5 ?k5 ?a6 ?l6 ?c6 ?k6 ?a7 ?l7 ?c7 ?k7 ?a8 ?l8 ?c8 ?k8 ?a9 ?l9 ?c9 ?k9 ?a10 ?l10 ?c10 ?k10 ?a11 ?l11 ?c11 ?k11 ?a12 ?l12 ?c12 ?k12 ?a13 ?l13 ?c13 ?k13 ?a14 ?l14 ?c14 ?k14 ?a15 ?l15 ?c15 ?k15 ?wqg0 ?wqgv0 ?wqg1 ?wqgl1 ?wqgv1 ?wqgz1 ?wqg2 ?wqgv2 ?wqg3 ?wqgv3 ?z0 ?z1 ?z2 ?z3 ?z4 ?z5 ?z6 ?z7 ?z8 ?z9 ?z10 ?z11 ?z12 ?z13 ?z14 ?z15 ?z16 ?z17 ?z18 ?kn ?kt ?ka0 ?km0 ?ky0 ?kgc0 ?kga0 ?kgg0 ?ka1 ?km1 ?ky1 ?kgc1 ?kga1 ?kgg1 ?kf1 ?kl1 ?ks1 ?kk1 ?ki1 ?kp1 ?il1 ?ic1 ?ik1 ?ka2 ?km2 ?ky2 ?kgc2 ?kga2 ?kgg2 ?ka3 ?km3 ?ky3 ?kgc3 ?kga3 ?kgg3 ?ka4 ?km4 ?ky4 ?kgc4 ?kga4 ?kgg4 ?kinj
    (case a0 => k_is)
    (case l0 => k_is)
    (case c0 => k_is)
    (case k0 => k_is)
    (case a1 => k_is)
    (case l1 => k_is)
    (case c1 => k_is)
    (case k1 => k_is)
    (case a2 => k_is)
    (case l2 => k_is)
    (case c2 => k_is)
    (case k2 => k_is)
    (case a3 => k_is)
    (case l3 => k_is)
    (case c3 => k_is)
    (case k3 => k_is)
    (case a4 => k_is)
    (case l4 => k_is)
    (case c4 => k_is)
    (case k4 => k_is)
    (case a5 => k_is)
    (case l5 => k_is)
    (case c5 => k_is)
    (case k5 => k_is)
    (case a6 => k_is)
    (case l6 => k_is)
    (case c6 => k_is)
    (case k6 => k_is)
    (case a7 => k_is)
    (case l7 => k_is)
    (case c7 => k_is)
    (case k7 => k_is)
    (case a8 => k_is)
    (case l8 => k_is)
    (case c8 => k_is)
    (case k8 => k_is)
    (case a9 => k_is)
    (case l9 => k_is)
    (case c9 => k_is)
    (case k9 => k_is)
    (case a10 => k_is)
    (case l10 => k_is)
    (case c10 => k_is)
    (case k10 => k_is)
    (case a11 => k_is)
    (case l11 => k_is)
    (case c11 => k_is)
    (case k11 => k_is)
    (case a12 => k_is)
    (case l12 => k_is)
    (case c12 => k_is)
    (case k12 => k_is)
    (case a13 => k_is)
    (case l13 => k_is)
    (case c13 => k_is)
    (case k13 => k_is)
    (case a14 => k_is)
    (case l14 => k_is)
    (case c14 => k_is)
    (case k14 => k_is)
    (case a15 => k_is)
    (case l15 => k_is)
    (case c15 => k_is)
    (case k15 => k_is)
    (case wqg0 => k_is)
    (case wqg1 => k_is)
    (case wqgl1 => k_is)
    (case wqg2 => k_is)
    (case wqg3 => k_is)
    (case z0 => k_is)
    (case z1 => k_is)
    (case z2 => k_is)
    (case z3 => k_is)
    (case z4 => k_is)
    (case z5 => k_is)
    (case z6 => k_is)
    (case z7 => k_is)
    (case z8 => k_is)
    (case z9 => k_is)
    (case z10 => k_is)
    (case z11 => k_is)
    (case z12 => k_is)
    (case z13 => k_is)
    (case z14 => k_is)
    (case z15 => k_is)
    (case z16 => k_is)
    (case z17 => k_is)
    (case z18 => k_is)
    (case kn => k_is)
    (case kt => k_is)
    (case ka0 => k_is)
    (case km0 => k_is)
    (case ky0 => k_is)
    (case kgc0 => k_is)
    (case kga0 => k_is)
    (case kgg0 => k_is)
    (case ka1 => k_is)
    (case km1 => k_is)
    (case ky1 => k_is)
    (case kgc1 => k_is)
    (case kga1 => k_is)
    (case kgg1 => k_is)
    (case kf1 => k_is)
    (case kl1 => k_is)
    (case ks1 => k_is)
    (case kk1 => k_is)
    (case ki1 => k_is)
    (case kp1 => k_is)
    (case il1 => k_is)
    (case ic1 => k_is)
    (case ik1 => k_is)
    (case ka2 => k_is)
    (case km2 => k_is)
    (case ky2 => k_is)
    (case kgc2 => k_is)
    (case kga2 => k_is)
    (case kgg2 => k_is)
    (case ka3 => k_is)
    (case km3 => k_is)
    (case ky3 => k_is)
    (case kgc3 => k_is)
    (case kga3 => k_is)
    (case kgg3 => k_is)
    (case ka4 => k_is)
    (case km4 => k_is)
    (case ky4 => k_is)
    (case kgc4 => k_is)
    (case kga4 => k_is)
    (case kgg4 => k_is)
    (case wqgv0 => decide +kernel)
    (case wqgv1 => decide +kernel)
    (case wqgz1 => decide +kernel)
    (case wqgv2 => decide +kernel)
    (case wqgv3 => decide +kernel)
    (case kinj => decide +kernel)
