import PyProof.Rows.All
import Wide.All
import OpenK.AllK
import Wide.FinOn
import HandS.ForMost
import HandS.ForExc
import HandS.TupAny
import HandS.Style
import HandS.Deep
import HandS.Flow
import HandS.IsInst
import KE.KDictPairs
import HandS.Small
import KE.GoesMore
import HandS.CallLocal
import HandS.SetKeys
import HandS.Strs
import HandS.DictComp
import PyProof.Rows.SetFrom
import HandS.Defaults
import HandS.HeadHook1
import HandS.HeadHook2
import HandS.HeadHook3
import HandS.HeadHook4
import HandS.Ends
import HandS.Codes
import PySem.Challenge.RW_lacuna_k01_types_and_signatures
import HandS.Head0
import HandS.Head1
import HandS.Head2
import HandS.HeadEnd
-- LacA.lean
section
set_option Elab.async false
set_option linter.all false
set_option maxRecDepth 100000
/-! Lac, part A: data, the small heap, the embedded language, its reading as a weakest precondition. -/
set_option autoImplicit false
namespace Lac
open PySem L2

/-- a Python value: tuples are data, everything that changes is an address -/
inductive D where
  | non | bl (b : Bool) | int (i : Int) | str (s : Str) | tup (ds : List D) | ref (a : Addr)
  deriving Inhabited

mutual
/-- Python's == on data -/
def eqv : D → D → Bool
  | .non, .non => true
  | .bl a, .bl b => a == b
  | .bl a, .int j => (if a then 1 else 0) == j
  | .int i, .bl b => i == (if b then 1 else 0)
  | .int i, .int j => i == j
  | .str x, .str y => x == y
  | .tup xs, .tup ys => eqvs xs ys
  | _, _ => false
def eqvs : List D → List D → Bool
  | [], [] => true
  | x :: xs, y :: ys => eqv x y && eqvs xs ys
  | _, _ => false
end
mutual
/-- how deep tuples are nested; an address counts as too deep -/
def dep : D → Nat
  | .tup ds => deps ds + 1
  | .ref _ => 1000000
  | _ => 0
def deps : List D → Nat
  | [] => 0
  | x :: xs => max (dep x) (deps xs)
end

/-- what stands at an address: a list, a list that is only read, a dict by intsD and texts -/
inductive DO where
  | lst (ds : List D) | rd (ds : List D) | dct (kvs : List (Key × D))
abbrev SH := Addr → Option DO
def up (S : SH) (a : Addr) (o : DO) : SH := fun b => if b = a then some o else S b
def Sub (S' S : SH) : Prop := ∀ a o, S' a = some o → S a = some o
abbrev Env := List (Option D)
/-- what is wanted of an exception: its class, its datum -/
abbrev XW := Nat → Option D → SH → Prop
abbrev KD := D → SH → Prop
/-- a def's promise -/
abbrev DSp := List D → SH → KD → XW → Prop

/-! ### operations -/
inductive Op2 where
  | add | sub | mul | fdiv | mod | pow
  deriving DecidableEq
inductive Cm where
  | eq | ne | lt | le | gt | ge | inn | nin
  deriving DecidableEq
inductive Bf where
  | len | tuple | list | int | str | abs | max | min | sum | all | any | dict
  deriving DecidableEq
inductive Mt where
  | append | extend | pop | get | join | index
  deriving DecidableEq
inductive Ty where
  | int | bool | str | tuple | list
  deriving DecidableEq
inductive Ik where
  | any | range | enum | zip
  deriving DecidableEq

def seqOf (S : SH) : D → Option (List D)
  | .tup ds => some ds
  | .ref a => match S a with
    | some (.lst ds) => some ds
    | some (.rd ds) => some ds
    | _ => none
  | _ => none
def tru (S : SH) : D → Option Bool
  | .non => some false
  | .bl b => some b
  | .int i => some (i != 0)
  | .str s => some ((s.length : Int) != 0)
  | .tup ds => some (!ds.isEmpty)
  | .ref a => match S a with
    | some (.lst ds) => some (!ds.isEmpty)
    | some (.rd ds) => some (!ds.isEmpty)
    | some (.dct kvs) => some (!kvs.isEmpty)
    | none => none
def intsD : List D → Option (List Int)
  | [] => some []
  | .int i :: r => (intsD r).map (i :: ·)
  | _ :: _ => none
def boolsD : List D → Option (List Bool)
  | [] => some []
  | .bl i :: r => (boolsD r).map (i :: ·)
  | _ :: _ => none
def strsD : List D → Option (List Str)
  | [] => some []
  | .str i :: r => (strsD r).map (i :: ·)
  | _ :: _ => none
def keyD : D → Option Key
  | .int i => some (.inl i)
  | .str s => some (.inr s)
  | _ => none
def valD (kvs : List (Key × D)) (k : Key) : Option D := (kvs.find? fun kv => decide (kv.1 = k)).map (·.2)
def putD (kvs : List (Key × D)) (k : Key) (v : D) : List (Key × D) :=
  if (kvs.any fun kv => decide (kv.1 = k)) then kvs.map fun kv => if kv.1 = k then (kv.1, v) else kv else kvs ++ [(k, v)]
def mergeD (kvs more : List (Key × D)) : List (Key × D) := more.foldl (fun acc kv => putD acc kv.1 kv.2) kvs
def pairsD : List D → Option (List (Key × D))
  | [] => some []
  | .tup [k, v] :: r => match keyD k, pairsD r with
    | some k, some r => some ((k, v) :: r)
    | _, _ => none
  | _ :: _ => none

def mulOk (i j : Int) : Prop := (-(2 ^ 64) < i ∧ i < 2 ^ 64) ∨ (-(2 ^ 64) < j ∧ j < 2 ^ 64)
/-- ints and texts alone -/
def keysD : List D → Option (List Key)
  | [] => some []
  | d :: r => match keyD d, keysD r with
    | some k, some ks => some (k :: ks)
    | _, _ => none
def addK (σ : List Key) (k : Key) : List Key := if σ.any (fun z => decide (z = k)) then σ else σ ++ [k]
/-- a new list -/
def newL (ds : List D) (S : SH) (Q : KD) : Prop := ∀ p, S p = none → Q (.ref p) (up S p (.lst ds))

def dBin (op : Op2) (x y : D) (S : SH) (Q : KD) : Prop :=
  match op, x, y with
  | .add, .int i, .int j => Q (.int (i + j)) S
  | .add, .str s, .str t => s.length + t.length ≤ sizeLine ∧ Q (.str (s ++ t)) S
  | .add, .tup a, .tup b => a.length + b.length ≤ sizeLine ∧ Q (.tup (a ++ b)) S
  | .add, .ref a, .ref b => match S a, S b with
    | some (.lst xs), some (.lst ys) => xs.length + ys.length ≤ sizeLine ∧ newL (xs ++ ys) S Q
    | _, _ => False
  | .sub, .int i, .int j => Q (.int (i - j)) S
  | .mul, .int i, .int j => mulOk i j ∧ Q (.int (i * j)) S
  | .fdiv, .int i, .int j => (0 < j ∧ j < 1073741824) ∧ Q (.int (i / j)) S
  | .mod, .int i, .int j => 0 < j ∧ Q (.int (i % j)) S
  | .pow, .int i, .int j => (0 ≤ j ∧ j ≤ 1000000 ∧ i.natAbs < 2 ^ 64) ∧ Q (.int (i ^ j.toNat)) S
  | _, _, _ => False

/-- == of two values -/
def dEq (x y : D) (S : SH) (Q : Bool → Prop) : Prop :=
  match x, y with
  | .ref a, .ref b => match S a, S b with
    | some (.lst xs), some (.lst ys) => deps xs ≤ 420 ∧ deps ys ≤ 420 ∧ Q (eqvs xs ys)
    | _, _ => False
  | x, y => dep x ≤ 420 ∧ dep y ≤ 420 ∧ Q (eqv x y)
def dIn (x y : D) (S : SH) (Q : Bool → Prop) : Prop :=
  match x, y with
  | .str s, .str t => Q (!(Builtin.Str.occurrences t s 0 t.length 1).isEmpty)
  | x, .ref a => match S a with
    | some (.dct kvs) => match keyD x with
      | some k => Q (valD kvs k).isSome
      | none => False
    | some (.lst ds) => dep x ≤ 420 ∧ deps ds ≤ 420 ∧ Q (ds.any fun z => eqv z x)
    | _ => False
  | x, .tup ds => dep x ≤ 420 ∧ deps ds ≤ 420 ∧ Q (ds.any fun z => eqv z x)
  | _, _ => False
def dCmp (op : Cm) (x y : D) (S : SH) (Q : KD) : Prop :=
  match op with
  | .eq => dEq x y S fun b => Q (.bl b) S
  | .ne => dEq x y S fun b => Q (.bl (!b)) S
  | .inn => dIn x y S fun b => Q (.bl b) S
  | .nin => dIn x y S fun b => Q (.bl (!b)) S
  | .lt => match x, y with
    | .int i, .int j => Q (.bl (decide (i < j))) S
    | _, _ => False
  | .le => match x, y with
    | .int i, .int j => Q (.bl (decide (i ≤ j))) S
    | _, _ => False
  | .gt => match x, y with
    | .int i, .int j => Q (.bl (decide (j < i))) S
    | _, _ => False
  | .ge => match x, y with
    | .int i, .int j => Q (.bl (decide (j ≤ i))) S
    | _, _ => False

def isTy (S : SH) (t : Ty) : D → Option Bool
  | .non => some false
  | .bl _ => some (t == .bool || t == .int)
  | .int _ => some (t == .int)
  | .str _ => some (t == .str)
  | .tup _ => some (t == .tuple)
  | .ref a => match S a with
    | some (.lst _) => some (t == .list)
    | _ => none

def maxL : List Int → Int
  | [] => 0
  | x :: r => r.foldl (fun a b => if b > a then b else a) x
def minL : List Int → Int
  | [] => 0
  | x :: r => r.foldl (fun a b => if b < a then b else a) x

/-- a built-in's answer over the items of a sequence -/
def dBfL (f : Bf) (xs : List D) (S : SH) (Q : KD) : Prop :=
  match f with
  | .len => Q (.int xs.length) S
  | .tuple => Q (.tup xs) S
  | .list => newL xs S Q
  | .max => match intsD xs with
    | some ns => ns ≠ [] ∧ Q (.int (maxL ns)) S
    | none => False
  | .min => match intsD xs with
    | some ns => ns ≠ [] ∧ Q (.int (minL ns)) S
    | none => False
  | .sum => match intsD xs with
    | some ns => Q (.int ns.sum) S
    | none => False
  | .all => match boolsD xs with
    | some bs => Q (.bl (bs.all id)) S
    | none => False
  | .any => match boolsD xs with
    | some bs => Q (.bl (bs.any id)) S
    | none => False
  | .dict => match pairsD xs with
    | some kvs => ∀ p, S p = none → Q (.ref p) (up S p (.dct (mergeD [] kvs)))
    | none => False
  | _ => False
def dBf (f : Bf) (args : List D) (S : SH) (Q : KD) : Prop :=
  match f, args with
  | .int, [.int i] => Q (.int i) S
  | .int, [.bl b] => Q (.int (if b then 1 else 0)) S
  | .str, [.int i] => (i.natAbs.log2 < 1920 ∧ PyData.strOk (toString i : Str) = true ∧ (toString i : Str).length ≤ sizeLine) ∧ Q (.str (toString i : Str)) S
  | .abs, [.int i] => Q (.int (if i < 0 then -i else i)) S
  | .max, [.int i, .int j] => Q (.int (if j > i then j else i)) S
  | .min, [.int i, .int j] => Q (.int (if j < i then j else i)) S
  | .len, [.str s] => Q (.int s.length) S
  | .len, [.ref a] => match S a with
    | some (.lst ds) => Q (.int ds.length) S
    | some (.rd ds) => Q (.int ds.length) S
    | some (.dct kvs) => Q (.int kvs.length) S
    | none => False
  | f, [.tup ds] => match f with
    | .len | .tuple | .list | .dict => dBfL f ds S Q
    | _ => False
  | f, [.ref a] => match S a with
    | some (.lst ds) => dBfL f ds S Q
    | some (.rd ds) => dBfL f ds S Q
    | _ => False
  | _, _ => False

/-- the place of an index -/
def ixD (n : Nat) (i : Int) : Option Nat := if 0 ≤ i then (if i < n then some i.toNat else none) else if -(n : Int) ≤ i then some (i + n).toNat else none
def atD (ds : List D) (i : Int) : Option D := (ixD ds.length i).bind fun j => ds[j]?
def dIdx (x y : D) (S : SH) (Q : KD) : Prop :=
  match x, y with
  | .tup ds, .int i => match atD ds i with
    | some d => Q d S
    | none => False
  | .str s, .int i => match (ixN s.cps.toList.length i).bind fun j => s.cps.toList[j]? with
    | some c => Q (.str ⟨#[c]⟩) S
    | none => False
  | .ref a, y => match S a, y with
    | some (.lst ds), .int i => match atD ds i with
      | some d => Q d S
      | none => False
    | some (.rd ds), .int i => match atD ds i with
      | some d => Q d S
      | none => False
    | some (.dct kvs), y => match keyD y with
      | some k => match valD kvs k with
        | some d => Q d S
        | none => False
      | none => False
    | _, _ => False
  | _, _ => False
/-- where a slice begins or ends -/
def sIxD (n d : Nat) : Option Int → Nat
  | none => d
  | some v => if v < 0 then (v + n).toNat else min v.toNat n
def cutD {α : Type} (xs : List α) (lo hi : Option Int) : List α := (xs.drop (sIxD xs.length 0 lo)).take (sIxD xs.length xs.length hi - sIxD xs.length 0 lo)
def dSlc (x : D) (lo hi : Option Int) (S : SH) (Q : KD) : Prop :=
  match x with
  | .tup ds => Q (.tup (cutD ds lo hi)) S
  | .str s => Q (.str ⟨(cutD s.cps.toList lo hi).toArray⟩) S
  | .ref a => match S a with
    | some (.lst ds) => newL (cutD ds lo hi) S Q
    | some (.rd ds) => newL (cutD ds lo hi) S Q
    | _ => False
  | _ => False
def dRev (x : D) (S : SH) (Q : KD) : Prop :=
  match x with
  | .tup ds => Q (.tup ds.reverse) S
  | .ref a => match S a with
    | some (.lst ds) => newL ds.reverse S Q
    | _ => False
  | _ => False
def dMeth (m : Mt) (o : D) (args : List D) (S : SH) (Q : KD) : Prop :=
  match m, o, args with
  | .append, .ref a, [x] => match S a with
    | some (.lst ds) => ds.length < sizeLine ∧ Q .non (up S a (.lst (ds ++ [x])))
    | _ => False
  | .extend, .ref a, [x] => match S a with
    | some (.lst ds) => match x with
      | .tup es => ds.length + es.length ≤ sizeLine ∧ Q .non (up S a (.lst (ds ++ es)))
      | .ref b => match S b with
        | some (.lst es) => ds.length + es.length ≤ sizeLine ∧ Q .non (up S a (.lst (ds ++ es)))
        | _ => False
      | _ => False
    | _ => False
  | .pop, .ref a, [] => match S a with
    | some (.lst ds) => match ds.getLast? with
      | some d => Q d (up S a (.lst ds.dropLast))
      | none => False
    | _ => False
  | .get, .ref a, [k] => match S a with
    | some (.dct kvs) => match keyD k with
      | some k => Q ((valD kvs k).getD .non) S
      | none => False
    | _ => False
  | .get, .ref a, [k, d] => match S a with
    | some (.dct kvs) => match keyD k with
      | some k => Q ((valD kvs k).getD d) S
      | none => False
    | _ => False
  | .join, .str s, [x] => match seqOf S x with
    | some ds => match strsD ds with
      | some ys => (ys.map (·.length)).sum + ys.length * s.length ≤ 16777216 ∧ Q (.str (Txt.join s ys)) S
      | none => False
    | none => False
  | _, _, _ => False

/-- o[i] = d -/
def dPut (o i d : D) (S : SH) (Q : SH → Prop) : Prop :=
  match o with
  | .ref a => match S a, i with
    | some (.lst ds), .int k => match ixD ds.length k with
      | some j => Q (up S a (.lst (ds.set j d)))
      | none => False
    | some (.dct kvs), i => match keyD i with
      | some k => kvs.length < sizeLine ∧ Q (up S a (.dct (putD kvs k d)))
      | none => False
    | _, _ => False
  | _ => False
/-- the receiver of a method, ahead of its arguments -/
def mtTy (m : Mt) (o : D) (S : SH) : Prop := match m, o with
  | .append, .ref a | .extend, .ref a | .pop, .ref a | .index, .ref a => match S a with
    | some (.lst _) => True
    | _ => False
  | .get, .ref a => match S a with
    | some (.dct _) => True
    | _ => False
  | .join, .str _ => True
  | _, _ => False

/-! ### the language -/
inductive Tg where
  | nm (i : Nat) | tup (ts : List Tg)
inductive Ex (φ : Type) where
  | var (i : Nat) | lit (d : D) | gl (k : Nat)
  | tup (es : List (Ex φ)) | lst (es : List (Ex φ))
  | bin (op : Op2) (a b : Ex φ) | neg (a : Ex φ)
  | cmp (op : Cm) (a b : Ex φ) | chain (o1 o2 : Cm) (a b c : Ex φ)
  | isN (n : Bool) (a : Ex φ) | isB (b : Bool) (a : Ex φ)
  | and (a b : Ex φ) | or (a b : Ex φ) | not (a : Ex φ) | ite (c a b : Ex φ)
  | idx (a i : Ex φ) | slcL (a lo : Ex φ) | slcU (a hi : Ex φ) | slcB (a lo hi : Ex φ) | rev (a : Ex φ)
  | isi (t : Ty) (a : Ex φ)
  | call (f : φ) (es : List (Ex φ)) | bf (f : Bf) (es : List (Ex φ)) | meth (m : Mt) (o : Ex φ) (es : List (Ex φ))
  | comp (own : List (Str × Nat)) (ik : Ik) (es : List (Ex φ)) (tg : Tg) (cond elt : Ex φ)
  | bfc (f : Bf) (own : List (Str × Nat)) (ik : Ik) (es : List (Ex φ)) (tg : Tg) (cond elt : Ex φ)
  | dcomp (own : List (Str × Nat)) (ik : Ik) (es : List (Ex φ)) (tg : Tg) (cond k v : Ex φ)
  | lenset (a : Ex φ)
inductive St (φ : Type) where
  | expr (e : Ex φ) | asg (t : Tg) (e : Ex φ) | put (o i e : Ex φ) | par (is : List Nat) (es : List (Ex φ)) | aug (i : Nat) (op : Op2) (e : Ex φ)
  | ret (e : Ex φ) | retN | ifs (c : Ex φ) (a b : List (St φ)) | whl (c : Ex φ) (b : List (St φ))
  | forr (ik : Ik) (es : List (Ex φ)) (tg : Tg) (b : List (St φ)) | brk | cont | pass | nev

mutual
def gT : Tg → D → Env → (Env → Prop) → Prop
  | .nm i, d, ρ, Q => Q (ρ.set i (some d))
  | .tup ts, d, ρ, Q => match d with
    | .tup ds => gTs ts ds ρ Q
    | _ => False
def gTs : List Tg → List D → Env → (Env → Prop) → Prop
  | [], [], ρ, Q => Q ρ
  | t :: ts, d :: ds, ρ, Q => gT t d ρ fun ρ' => gTs ts ds ρ' Q
  | _, _, _, _ => False
end
def slot : Env → Nat → Option D
  | [], _ => none
  | x :: _, 0 => x
  | _ :: r, i + 1 => slot r i
def wipeD (ρ : Env) : List Nat → Env
  | [] => ρ
  | v :: vs => (wipeD ρ vs).set v none
def setN : Env → List Nat → List D → Env
  | ρ, i :: is, d :: ds => setN (ρ.set i (some d)) is ds
  | ρ, _, _ => ρ
def rangeD (a : Int) (n : Nat) : List D := (List.range n).map fun k => .int (a + (k : Nat))
def enumD (i : Nat) : List D → List D
  | [] => []
  | x :: r => .tup [.int i, x] :: enumD (i + 1) r
def zipD : List D → List D → List D
  | x :: r, y :: s => .tup [x, y] :: zipD r s
  | _, _ => []
/-- what holds while a sequence is walked -/
def stands (S : SH) (x : D) (S' : SH) : Prop := match x with
  | .ref a => S' a = S a
  | _ => True
def walk (ik : Ik) (ds : List D) (S : SH) (R : List D → (SH → Prop) → Prop) : Prop :=
  match ik, ds with
  | .any, [.str s] => R (s.cps.toList.map fun c => .str ⟨#[c]⟩) fun _ => True
  | .any, [x] => match seqOf S x with
    | some xs => R xs (stands S x)
    | none => False
  | .range, [.int n] => (-(2 ^ 62) ≤ n ∧ n ≤ sizeLine) ∧ R (rangeD 0 n.toNat) fun _ => True
  | .range, [.int a, .int b] => (-(2 ^ 62) ≤ a ∧ a < 2 ^ 62 ∧ -(2 ^ 62) ≤ b ∧ b < 2 ^ 62 ∧ b - a ≤ sizeLine) ∧ R (rangeD a (b - a).toNat) fun _ => True
  | .enum, [x] => match seqOf S x with
    | some xs => R (enumD 0 xs) (stands S x)
    | none => False
  | .zip, [x, y] => match seqOf S x, seqOf S y with
    | some xs, some ys => R (zipD xs ys) fun S' => stands S x S' ∧ stands S y S'
    | _, _ => False
  | _, _ => False
/-- a comprehension's turns -/
def wpC (g : D → (Env → Prop) → Prop) (cond elt : Env → SH → KD → Prop) (hold : SH → Prop) : List D → List D → SH → (List D → SH → Prop) → Prop
  | [], acc, S, Q => hold S ∧ Q acc S
  | x :: r, acc, S, Q => hold S ∧ g x fun ρ => cond ρ S fun c S1 => match tru S1 c with
    | some true => elt ρ S1 fun y S2 => wpC g cond elt hold r (acc ++ [y]) S2 Q
    | some false => wpC g cond elt hold r acc S1 Q
    | none => False
structure DEnds where
  nx : Env → SH → Prop
  rt : KD
  bk : Env → SH → Prop := fun _ _ => False
  ct : Env → SH → Prop := fun _ _ => False
/-- a for's turns -/
def wpF (g : D → Env → (Env → Prop) → Prop) (body : DEnds → Env → SH → Prop) (hold : SH → Prop) (e : DEnds) : List D → Env → SH → Prop
  | [], ρ, S => hold S ∧ e.nx ρ S
  | x :: r, ρ, S => hold S ∧ g x ρ fun ρ1 => body { nx := wpF g body hold e r, rt := e.rt, bk := e.nx, ct := wpF g body hold e r } ρ1 S

section
variable {φ : Type} (Γ : φ → DSp) (G : Nat → Option D)
mutual
def wpE : Ex φ → XW → Env → SH → KD → Prop
  | .var i, _, ρ, S, Q => match slot ρ i with
    | some d => Q d S
    | none => False
  | .lit d, _, _, S, Q => Q d S
  | .gl k, _, _, S, Q => match G k with
    | some d => Q d S
    | none => False
  | .tup es, x, ρ, S, Q => wpEs es x ρ S fun ds S' => Q (.tup ds) S'
  | .lst es, x, ρ, S, Q => wpEs es x ρ S fun ds S' => newL ds S' Q
  | .bin op a b, x, ρ, S, Q => wpE a x ρ S fun u S1 => wpE b x ρ S1 fun v S2 => dBin op u v S2 Q
  | .neg a, x, ρ, S, Q => wpE a x ρ S fun u S1 => match u with
    | .int i => Q (.int (-i)) S1
    | _ => False
  | .cmp op a b, x, ρ, S, Q => wpE a x ρ S fun u S1 => wpE b x ρ S1 fun v S2 => dCmp op u v S2 Q
  | .chain o1 o2 a b c, x, ρ, S, Q => wpE a x ρ S fun u S1 => wpE b x ρ S1 fun v S2 => dCmp o1 u v S2 fun z S3 => match z with
    | .bl true => wpE c x ρ S3 fun w S4 => dCmp o2 v w S4 Q
    | .bl false => Q (.bl false) S3
    | _ => False
  | .isN n a, x, ρ, S, Q => wpE a x ρ S fun u S1 => match u with
    | .non => Q (.bl !n) S1
    | _ => Q (.bl n) S1
  | .isB b a, x, ρ, S, Q => wpE a x ρ S fun u S1 => match u with
    | .bl c => Q (.bl (c == b)) S1
    | _ => False
  | .and a b, x, ρ, S, Q => wpE a x ρ S fun u S1 => match tru S1 u with
    | some true => wpE b x ρ S1 Q
    | some false => Q u S1
    | none => False
  | .or a b, x, ρ, S, Q => wpE a x ρ S fun u S1 => match tru S1 u with
    | some true => Q u S1
    | some false => wpE b x ρ S1 Q
    | none => False
  | .not a, x, ρ, S, Q => wpE a x ρ S fun u S1 => match tru S1 u with
    | some c => Q (.bl !c) S1
    | none => False
  | .ite c a b, x, ρ, S, Q => wpE c x ρ S fun u S1 => match tru S1 u with
    | some true => wpE a x ρ S1 Q
    | some false => wpE b x ρ S1 Q
    | none => False
  | .idx a i, x, ρ, S, Q => wpE a x ρ S fun u S1 => wpE i x ρ S1 fun v S2 => dIdx u v S2 Q
  | .slcL a lo, x, ρ, S, Q => wpE a x ρ S fun u S1 => wpE lo x ρ S1 fun v S2 => match v with
    | .int i => dSlc u (some i) none S2 Q
    | _ => False
  | .slcU a hi, x, ρ, S, Q => wpE a x ρ S fun u S1 => wpE hi x ρ S1 fun v S2 => match v with
    | .int i => dSlc u none (some i) S2 Q
    | _ => False
  | .slcB a lo hi, x, ρ, S, Q => wpE a x ρ S fun u S1 => wpE lo x ρ S1 fun v S2 => match v with
    | .int i => wpE hi x ρ S2 fun w S3 => match w with
      | .int j => dSlc u (some i) (some j) S3 Q
      | _ => False
    | _ => False
  | .rev a, x, ρ, S, Q => wpE a x ρ S fun u S1 => dRev u S1 Q
  | .isi t a, x, ρ, S, Q => wpE a x ρ S fun u S1 => match isTy S1 t u with
    | some b => Q (.bl b) S1
    | none => False
  | .call f es, x, ρ, S, Q => wpEs es x ρ S fun ds S1 => Γ f ds S1 Q x
  | .bf f es, x, ρ, S, Q => wpEs es x ρ S fun ds S1 => dBf f ds S1 Q
  | .meth m o es, x, ρ, S, Q => wpE o x ρ S fun u S1 => mtTy m u S1 ∧ wpEs es x ρ S1 fun ds S2 => dMeth m u ds S2 Q
  | .comp own ik es tg cond elt, x, ρ, S, Q => wpEs es x ρ S fun ds S1 => walk ik ds S1 fun items hold =>
      wpC (fun d R => gT tg d (wipeD ρ (own.map (·.2))) R) (wpE cond fun _ _ _ => False) (wpE elt fun _ _ _ => False) hold items [] S1 fun out S2 => newL out S2 Q
  | .bfc f own ik es tg cond elt, x, ρ, S, Q => wpEs es x ρ S fun ds S1 => walk ik ds S1 fun items hold =>
      wpC (fun d R => gT tg d (wipeD ρ (own.map (·.2))) R) (wpE cond fun _ _ _ => False) (wpE elt fun _ _ _ => False) hold items [] S1 fun out S2 => dBfL f out S2 Q
  | .dcomp own ik es tg cond k v, x, ρ, S, Q => wpEs es x ρ S fun ds S1 => walk ik ds S1 fun items hold =>
      wpC (fun d R => gT tg d (wipeD ρ (own.map (·.2))) R) (wpE cond fun _ _ _ => False) (fun ρ S Q => wpE k (fun _ _ _ => False) ρ S fun y S1 => (keyD y).isSome = true ∧ wpE v (fun _ _ _ => False) ρ S1 fun z S2 => Q (.tup [y, z]) S2) hold items [] S1 fun out S2 => dBfL .dict out S2 Q
  | .lenset a, x, ρ, S, Q => wpE a x ρ S fun u S1 => match u with
    | .ref p => match S1 p with
      | some (.lst ds) => match keysD ds with
        | some ks => ks.length ≤ 4000 ∧ Q (.int (ks.foldl addK []).length) S1
        | none => False
      | _ => False
    | _ => False
def wpEs : List (Ex φ) → XW → Env → SH → (List D → SH → Prop) → Prop
  | [], _, _, S, Q => Q [] S
  | e :: es, x, ρ, S, Q => wpE e x ρ S fun d S1 => wpEs es x ρ S1 fun ds S2 => Q (d :: ds) S2
end
mutual
def wpS : St φ → XW → DEnds → Env → SH → Prop
  | .expr e, x, D, ρ, S => wpE Γ G e x ρ S fun _ S1 => D.nx ρ S1
  | .asg t e, x, D, ρ, S => wpE Γ G e x ρ S fun d S1 => gT t d ρ fun ρ1 => D.nx ρ1 S1
  | .put o i e, x, D, ρ, S => wpE Γ G e x ρ S fun d S1 => wpE Γ G o x ρ S1 fun u S2 => wpE Γ G i x ρ S2 fun v S3 => dPut u v d S3 fun S4 => D.nx ρ S4
  | .par is es, x, D, ρ, S => wpEs Γ G es x ρ S fun ds S1 => D.nx (setN ρ is ds) S1
  | .aug i op e, x, D, ρ, S => match slot ρ i with
    | some (.int k) => wpE Γ G e x ρ S fun v S1 => match op, v with
      | .add, .int l => D.nx (ρ.set i (some (.int (k + l)))) S1
      | .sub, .int l => D.nx (ρ.set i (some (.int (k - l)))) S1
      | _, _ => False
    | _ => False
  | .ret e, x, D, ρ, S => wpE Γ G e x ρ S D.rt
  | .retN, _, D, _, S => D.rt .non S
  | .ifs c a b, x, D, ρ, S => wpE Γ G c x ρ S fun u S1 => match tru S1 u with
    | some true => wpSs a x D ρ S1
    | some false => wpSs b x D ρ S1
    | none => False
  | .whl c b, x, D, ρ, S => ∃ W : Nat → Env → SH → Prop, (∃ m, W m ρ S) ∧ ∀ m ρ S, W m ρ S → wpE Γ G c x ρ S fun u S1 => match tru S1 u with
    | some true => wpSs b x { nx := fun ρ' S' => ∃ m', m' < m ∧ W m' ρ' S', rt := D.rt, bk := D.nx, ct := fun ρ' S' => ∃ m', m' < m ∧ W m' ρ' S' } ρ S1
    | some false => D.nx ρ S1
    | none => False
  | .forr ik es tg b, x, D, ρ, S => wpEs Γ G es x ρ S fun ds S1 => walk ik ds S1 fun items hold => wpF (gT tg) (wpSs b x) hold D items ρ S1
  | .brk, _, D, ρ, S => D.bk ρ S
  | .cont, _, D, ρ, S => D.ct ρ S
  | .pass, _, D, ρ, S => D.nx ρ S
  | .nev, _, _, _, _ => False
def wpSs : List (St φ) → XW → DEnds → Env → SH → Prop
  | [], _, D, ρ, S => D.nx ρ S
  | s :: r, x, D, ρ, S => wpS s x { D with nx := fun ρ1 S1 => wpSs r x D ρ1 S1 } ρ S
end
/-- a def's body: behind it what it made for itself may be forgotten -/
def wpB (n : Nat) (body : List (St φ)) (ds : List D) (S : SH) (Q : KD) (x : XW) : Prop :=
  wpSs Γ G body x { nx := fun _ S' => ∃ S'', Sub S'' S' ∧ Q .non S'', rt := fun d S' => ∃ S'', Sub S'' S' ∧ Q d S'' } (ds.map some ++ List.replicate (n - ds.length) none) S
end
end Lac
end

-- LacB.lean
section
set_option Elab.async false
set_option linter.all false
set_option maxRecDepth 100000
/-! Lac, part B: how data stand in the layer's heap; steps; readings lifted. -/
set_option autoImplicit false
namespace Lac
open PySem L2

/-- an object with nothing but its class and items -/
def PlainT (o : Obj) : Prop := o.dict = none ∧ o.slots = #[]
/-- a tuple whose object is known (all data's tuples are such) -/
def TupR (K : PySem.W.Frag) (H : Hp) (a : Addr) (xs : List V) : Prop :=
  (∃ o, H a = some (.frz o (.tup xs)) ∧ PlainT o) ∨
    ∃ (o : Obj) (its : Array Value) (n : Nat), K.lookup a = some o ∧ o.cls = .type "tuple" ∧ PlainT o ∧ o.data = .seq its n ∧ its.size ≤ sizeLine ∧ Vals xs its.toList
theorem TupR.sq {K : PySem.W.Frag} {H : Hp} {a : Addr} {xs : List V} (h : TupR K H a xs) : SqT K H a xs := by
  rcases h with ⟨o, h, _⟩ | ⟨o, its, n, h1, h2, _, h3, h4, h5⟩
  · exact .inl (.inr ⟨o, h⟩)
  · exact .inr ⟨o, its, n, h1, h2, h3, h4, h5⟩
theorem TupR.of {K : PySem.W.Frag} {H : Hp} {a : Addr} {xs : List V} {o : Obj} (h : H a = some (.frz o (.tup xs))) (p : PlainT o) : TupR K H a xs := .inl ⟨o, h, p⟩
mutual
inductive Rp (K : PySem.W.Frag) (H : Hp) : V → D → Prop
  | non : Rp K H .non .non
  | bl (b : Bool) : Rp K H (.bl b) (.bl b)
  | int (i : Int) : Rp K H (.int i) (.int i)
  | str (s : Str) : PyData.strOk s = true → s.length ≤ sizeLine → Rp K H (.str s) (.str s)
  | ref (a : Addr) : Rp K H (.ref a) (.ref a)
  | tup {a : Addr} {xs : List V} {ds : List D} : TupR K H a xs → Rps K H xs ds → Rp K H (.ref a) (.tup ds)
inductive Rps (K : PySem.W.Frag) (H : Hp) : List V → List D → Prop
  | nil : Rps K H [] []
  | cons {v : V} {vs : List V} {d : D} {ds : List D} : Rp K H v d → Rps K H vs ds → Rps K H (v :: vs) (d :: ds)
end
def KR (K : PySem.W.Frag) (H : Hp) : List (Key × V) → List (Key × D) → Prop := Paired fun p q => p.1 = q.1 ∧ Rp K H p.2 q.2
def OR (K : PySem.W.Frag) (H : Hp) (a : Addr) : DO → Prop
  | .lst ds => ∃ vs, H a = some (.lst vs) ∧ Rps K H vs ds
  | .rd ds => ∃ o vs, H a = some (.frz o (.lst vs)) ∧ Rps K H vs ds
  | .dct kvs => ∃ ws, H a = some (.dK ws) ∧ KR K H ws kvs
def HR (K : PySem.W.Frag) (H : Hp) (S : SH) : Prop := ∀ a o, S a = some o → OR K H a o
def TE' (K : PySem.W.Frag) (H H' : Hp) : Prop := ∀ a xs, TupR K H a xs → TupR K H' a xs
/-- one heap leads to another -/
structure Ev (K : PySem.W.Frag) (H H' : Hp) (S S' : SH) : Prop where
  tup : TE' K H H'
  frm : ∀ a o, H a = some o → S a = none → H' a = some o
  dom : ∀ a, S' a ≠ none → S a ≠ none ∨ H a = none
def EnvR (K : PySem.W.Frag) (H : Hp) (σ : L2.St) (ρ : Env) : Prop := σ.length = ρ.length ∧ ∀ i d, slot ρ i = some d → ∃ v, σ[i]? = some (some v) ∧ Rp K H v d

section
variable {K : PySem.W.Frag} {H H' H1 H2 : Hp} {S S' S1 S2 : SH}
mutual
theorem Rp.mono (e : TE' K H H') : ∀ (d : D) {v : V}, Rp K H v d → Rp K H' v d
  | .non, _, h => by cases h; exact .non
  | .bl _, _, h => by cases h; exact .bl _
  | .int _, _, h => by cases h; exact .int _
  | .str _, _, h => by cases h with | str _ a b => exact .str _ a b
  | .ref _, _, h => by cases h; exact .ref _
  | .tup ds, _, h => by cases h with | tup a b => exact .tup (e _ _ a) (Rps.mono e ds b)
theorem Rps.mono (e : TE' K H H') : ∀ (ds : List D) {vs : List V}, Rps K H vs ds → Rps K H' vs ds
  | [], _, h => by cases h; exact .nil
  | d :: ds, _, h => by cases h with | cons a b => exact .cons (Rp.mono e d a) (Rps.mono e ds b)
end
theorem KR.mono (e : TE' K H H') {ws : List (Key × V)} {kvs : List (Key × D)} (h : KR K H ws kvs) : KR K H' ws kvs :=
  Paired.mapP h fun _ _ z => ⟨z.1, Rp.mono e _ z.2⟩
theorem Rps.length : ∀ {vs : List V} {ds : List D}, Rps K H vs ds → vs.length = ds.length
  | _, _, .nil => rfl
  | _, _, .cons _ b => by simp [Rps.length b]
theorem Rps.get : ∀ {vs : List V} {ds : List D} {i : Nat} {d : D}, Rps K H vs ds → ds[i]? = some d → ∃ v, vs[i]? = some v ∧ Rp K H v d
  | _, _, _, _, .nil, e => by simp at e
  | _, _, 0, _, .cons a _, e => by simp at e; subst e; exact ⟨_, rfl, a⟩
  | _, _, i + 1, d, .cons _ b, e => by
    obtain ⟨v, h1, h2⟩ := Rps.get (i := i) (d := d) b (by simpa using e)
    exact ⟨v, by simpa using h1, h2⟩
theorem Rps.app : ∀ {vs ws : List V} {ds es : List D}, Rps K H vs ds → Rps K H ws es → Rps K H (vs ++ ws) (ds ++ es)
  | _, _, _, _, .nil, s => s
  | _, _, _, _, .cons r t, s => .cons r (Rps.app t s)
theorem Rps.one {v : V} {d : D} (h : Rp K H v d) : Rps K H [v] [d] := .cons h .nil
theorem Rps.take : ∀ {vs : List V} {ds : List D} (n : Nat), Rps K H vs ds → Rps K H (vs.take n) (ds.take n)
  | _, _, 0, _ => .nil
  | _, _, _ + 1, .nil => .nil
  | _, _, n + 1, .cons r t => .cons r (Rps.take n t)
theorem Rps.drop : ∀ {vs : List V} {ds : List D} (n : Nat), Rps K H vs ds → Rps K H (vs.drop n) (ds.drop n)
  | _, _, 0, r => r
  | _, _, _ + 1, .nil => .nil
  | _, _, n + 1, .cons _ t => Rps.drop n t
theorem Rps.rev {vs : List V} {ds : List D} (h : Rps K H vs ds) : Rps K H vs.reverse ds.reverse := by
  induction ds generalizing vs with
  | nil => cases h; exact .nil
  | cons d ds ih => cases h with | cons a b => rw [List.reverse_cons, List.reverse_cons]; exact (ih b).app (.one a)
theorem Rps.set : ∀ {vs : List V} {ds : List D} {v : V} {d : D} (j : Nat), Rps K H vs ds → Rp K H v d → Rps K H (vs.set j v) (ds.set j d)
  | _, _, _, _, _, .nil, _ => .nil
  | _, _, _, _, 0, .cons _ t, h => .cons h t
  | _, _, _, _, j + 1, .cons r t, h => .cons r (Rps.set j t h)
theorem Rps.mem : ∀ {vs : List V} {ds : List D} {i : Nat} {v : V}, Rps K H vs ds → vs[i]? = some v → ∃ d, ds[i]? = some d ∧ Rp K H v d
  | _, _, _, _, .nil, e => by simp at e
  | _, _, 0, _, .cons a _, e => by simp at e; subst e; exact ⟨_, rfl, a⟩
  | _, _, i + 1, v, .cons _ b, e => by
    obtain ⟨d, h1, h2⟩ := Rps.mem (i := i) (v := v) b (by simpa using e)
    exact ⟨d, by simpa using h1, h2⟩
theorem Rps.dropLast {vs : List V} {ds : List D} (h : Rps K H vs ds) : Rps K H vs.dropLast ds.dropLast := by
  rw [List.dropLast_eq_take, List.dropLast_eq_take, h.length]
  exact h.take _

theorem te_refl : TE' K H H := fun _ _ h => h
theorem TE'.trans (a : TE' K H H1) (b : TE' K H1 H2) : TE' K H H2 := fun _ _ h => b _ _ (a _ _ h)
theorem Ev.refl : Ev K H H S S := ⟨te_refl, fun _ _ h _ => h, fun _ h => .inl h⟩
theorem Ev.trans (a : Ev K H H1 S S1) (b : Ev K H1 H2 S1 S2) : Ev K H H2 S S2 := by
  have key : ∀ x o, H x = some o → S x = none → S1 x = none := fun x o h1 h2 => by
    cases e : S1 x with
    | none => rfl
    | some u => rcases a.dom x (by rw [e]; simp) with z | z
                · exact absurd h2 z
                · rw [h1] at z; cases z
  refine ⟨a.tup.trans b.tup, fun x o h1 h2 => b.frm x o (a.frm x o h1 h2) (key x o h1 h2), fun x hx => ?_⟩
  rcases b.dom x hx with z | z
  · exact a.dom x z
  · cases e : H x with
    | none => exact .inr rfl
    | some o =>
      cases e2 : S x with
      | some u => exact .inl (by simp)
      | none => rw [a.frm x o e e2] at z; cases z
theorem Ev.drop (a : Ev K H H' S S') (h : Sub S1 S') : Ev K H H' S S1 := ⟨a.tup, a.frm, fun x hx => a.dom x fun z => by
  cases e : S1 x with
  | none => exact hx e
  | some o => rw [h x o e] at z; cases z⟩
theorem te_upd {p : Addr} {o : HO} (h : ∀ ob w, H p ≠ some (.frz ob w)) : TE' K H (upd H p o) := fun a xs q => by
  rcases q with ⟨ob, q, z⟩ | q
  · refine .inl ⟨ob, ?_, z⟩
    by_cases e : a = p
    · subst e; exact absurd q (h _ _)
    · rw [upd_ne e]; exact q
  · exact .inr q
theorem te_new {p : Addr} {o : HO} (h : H p = none) : TE' K H (upd H p o) := te_upd fun ob w e => by rw [h] at e; cases e
theorem HR.free (r : HR K H S) {p : Addr} (h : H p = none) : S p = none := by
  cases e : S p with
  | none => rfl
  | some o =>
    have q := r p o e
    cases o with
    | lst ds => obtain ⟨_, q, _⟩ := q; rw [h] at q; cases q
    | rd ds => obtain ⟨_, _, q, _⟩ := q; rw [h] at q; cases q
    | dct ds => obtain ⟨_, q, _⟩ := q; rw [h] at q; cases q
theorem up_same {a : Addr} {o : DO} : up S a o a = some o := by unfold up; rw [if_pos rfl]
theorem up_ne {a b : Addr} {o : DO} (h : b ≠ a) : up S a o b = S b := by unfold up; rw [if_neg h]
theorem up_up {a : Addr} {o u : DO} : up (up S a o) a u = up S a u := by
  funext b; unfold up; split <;> rfl
theorem OR.keep {a : Addr} {o : DO} (h : OR K H a o) (t : TE' K H H') (k : ∀ u, H a = some u → H' a = some u) : OR K H' a o := by
  cases o with
  | lst ds => obtain ⟨vs, q, r⟩ := h; exact ⟨vs, k _ q, Rps.mono t _ r⟩
  | rd ds => obtain ⟨o, vs, q, r⟩ := h; exact ⟨o, vs, k _ q, Rps.mono t _ r⟩
  | dct ds => obtain ⟨vs, q, r⟩ := h; exact ⟨vs, k _ q, KR.mono t r⟩
theorem HR.newN (r : HR K H S) {p : Addr} {o : HO} (h : H p = none) : HR K (upd H p o) S := fun a u e =>
  (r a u e).keep (te_new h) fun w q => by rw [upd_ne (ne_of_none q h)]; exact q
theorem Ev.newN {p : Addr} {o : HO} (h : H p = none) : Ev K H (upd H p o) S S :=
  ⟨te_new h, fun a u e _ => by rw [upd_ne (ne_of_none e h)]; exact e, fun _ z => .inl z⟩
/-- an object is laid or changed, and tracked as o -/
theorem HR.put (r : HR K H S) {p : Addr} {u : HO} {o : DO} (t : TE' K H (upd H p u)) (q : OR K (upd H p u) p o) : HR K (upd H p u) (up S p o) := fun a w e => by
  by_cases ha : a = p
  · subst ha; rw [up_same] at e; cases e; exact q
  · rw [up_ne ha] at e
    exact (r a w e).keep t fun z hz => by rw [upd_ne ha]; exact hz
theorem HR.newL (r : HR K H S) {p : Addr} {vs : List V} {ds : List D} (h : H p = Option.none) (q : Rps K H vs ds) : HR K (upd H p (.lst vs)) (up S p (.lst ds)) :=
  r.put (te_new h) ⟨vs, upd_same, Rps.mono (te_new h) _ q⟩
theorem Ev.new {p : Addr} {u : HO} {o : DO} (h : H p = none) : Ev K H (upd H p u) S (up S p o) :=
  ⟨te_new h, fun a w e _ => by rw [upd_ne (ne_of_none e h)]; exact e, fun a z => by
    by_cases e : a = p
    · subst e; exact .inr h
    · rw [up_ne e] at z; exact .inl z⟩
theorem te_lst {p : Addr} {xs : List V} {u : HO} (h : H p = some (.lst xs)) : TE' K H (upd H p u) := te_upd fun ob w e => by rw [h] at e; cases e
theorem te_dK {p : Addr} {xs : List (Key × V)} {u : HO} (h : H p = some (.dK xs)) : TE' K H (upd H p u) := te_upd fun ob w e => by rw [h] at e; cases e
theorem Ev.write {p : Addr} {u : HO} {o : DO} (t : TE' K H (upd H p u)) (h : S p ≠ none) : Ev K H (upd H p u) S (up S p o) :=
  ⟨t, fun a w e n => by
    by_cases ha : a = p
    · subst ha; exact absurd n h
    · rw [upd_ne ha]; exact e, fun a z => by
    by_cases ha : a = p
    · subst ha; exact .inl h
    · rw [up_ne ha] at z; exact .inl z⟩
theorem HR.sub (r : HR K H S) (h : Sub S' S) : HR K H S' := fun a o e => r a o (h a o e)

theorem slot_set : ∀ {ρ : Env} {i j : Nat} {o : Option D} {d : D}, slot (ρ.set i o) j = some d → (j = i ∧ o = some d ∧ i < ρ.length) ∨ (j ≠ i ∧ slot ρ j = some d)
  | [], _, _, _, _, h => by simp [slot] at h
  | x :: r, 0, 0, o, d, h => by
    have e : o = some d := h
    exact .inl ⟨rfl, e, by simp⟩
  | x :: r, 0, j + 1, o, d, h => .inr ⟨by omega, h⟩
  | x :: r, i + 1, 0, o, d, h => .inr ⟨by omega, h⟩
  | x :: r, i + 1, j + 1, o, d, h => by
    rcases slot_set (ρ := r) (i := i) (j := j) (o := o) (d := d) h with ⟨e, q, l⟩ | ⟨e, q⟩
    · exact .inl ⟨by omega, q, by simp; omega⟩
    · exact .inr ⟨by omega, q⟩
theorem EnvR.mono {σ : L2.St} {ρ : Env} (e : EnvR K H σ ρ) (t : TE' K H H') : EnvR K H' σ ρ := ⟨e.1, fun i d h => by
  obtain ⟨v, q, r⟩ := e.2 i d h
  exact ⟨v, q, Rp.mono t _ r⟩⟩
theorem EnvR.set {σ : L2.St} {ρ : Env} (e : EnvR K H σ ρ) {i : Nat} {v : V} {d : D} (r : Rp K H v d) : EnvR K H (σ.set i (some v)) (ρ.set i (some d)) := ⟨by simp [e.1], fun j u h => by
  rcases slot_set h with ⟨rfl, q, l⟩ | ⟨n, q⟩
  · cases q
    exact ⟨v, by rw [List.getElem?_set_self (by rw [e.1]; exact l)], r⟩
  · obtain ⟨w, z, rw'⟩ := e.2 j u q
    exact ⟨w, by rw [List.getElem?_set_ne (Ne.symm n)]; exact z, rw'⟩⟩
theorem EnvR.clear {σ : L2.St} {ρ : Env} (e : EnvR K H σ ρ) (i : Nat) : EnvR K H (σ.set i none) (ρ.set i none) := ⟨by simp [e.1], fun j u h => by
  rcases slot_set h with ⟨_, q, _⟩ | ⟨n, q⟩
  · cases q
  · obtain ⟨w, z, rw'⟩ := e.2 j u q
    exact ⟨w, by rw [List.getElem?_set_ne (Ne.symm n)]; exact z, rw'⟩⟩
theorem EnvR.wipe {σ : L2.St} {ρ : Env} (e : EnvR K H σ ρ) : ∀ vs : List Nat, EnvR K H (L2.wipe σ vs) (wipeD ρ vs)
  | [] => e
  | v :: vs => (EnvR.wipe e vs).clear v
end

/-! ### lifted readings -/
section
variable (K : PySem.W.Frag)
def Cl (H : Hp) (S : SH) (Kc : KD) (Q : VK) : Prop := ∀ d S', Kc d S' → ∀ v H', Ev K H H' S S' → Rp K H' v d → HR K H' S' → Q v H'
def liftE (t : Env → SH → KD → Prop) : TE := fun σ H Q => ∃ ρ S Kc, EnvR K H σ ρ ∧ HR K H S ∧ t ρ S Kc ∧ Cl K H S Kc Q
def liftT (t : Env → SH → (Bool → SH → Prop) → Prop) : TT := fun σ H Q => ∃ ρ S, ∃ Kc : Bool → SH → Prop, EnvR K H σ ρ ∧ HR K H S ∧ t ρ S Kc ∧ ∀ b S', Kc b S' → ∀ H', Ev K H H' S S' → HR K H' S' → Q b H'
def liftA (n : Nat) (t : Env → SH → (List D → SH → Prop) → Prop) : TA := fun σ H Q => ∃ ρ S, ∃ Kc : List D → SH → Prop, EnvR K H σ ρ ∧ HR K H S ∧ t ρ S Kc ∧ ∀ ds S', Kc ds S' → ∀ vs H', vs.length = n → Ev K H H' S S' → Rps K H' vs ds → HR K H' S' → Q vs H'
def lift2 (r : D → D → SH → KD → Prop) : R2 := fun x y H Q => ∃ d e S Kc, Rp K H x d ∧ Rp K H y e ∧ HR K H S ∧ r d e S Kc ∧ Cl K H S Kc Q
def liftC (r : List D → SH → KD → Prop) : List V → Hp → VK → Prop := fun xs H Q => ∃ ds S Kc, Rps K H xs ds ∧ HR K H S ∧ r ds S Kc ∧ Cl K H S Kc Q
def EndR (H : Hp) (S : SH) (De : DEnds) (D : Ends) : Prop :=
  (∀ ρ' S', De.nx ρ' S' → ∀ σ' H', Ev K H H' S S' → EnvR K H' σ' ρ' → HR K H' S' → D.nx σ' H') ∧
  Cl K H S De.rt D.rt ∧
  (∀ ρ' S', De.bk ρ' S' → ∀ σ' H', Ev K H H' S S' → EnvR K H' σ' ρ' → HR K H' S' → D.bk σ' H') ∧
  (∀ ρ' S', De.ct ρ' S' → ∀ σ' H', Ev K H H' S S' → EnvR K H' σ' ρ' → HR K H' S' → D.ct σ' H')
def liftS (t : DEnds → Env → SH → Prop) : TS := fun D σ H => ∃ ρ S De, EnvR K H σ ρ ∧ HR K H S ∧ t De ρ S ∧ EndR K H S De D
end
section
variable {K : PySem.W.Frag} {H H' : Hp} {S S' : SH}
theorem Cl.later {Kc : KD} {Q : VK} (c : Cl K H S Kc Q) (e : Ev K H H' S S') : Cl K H' S' Kc Q := fun d S2 k v H2 e2 r h => c d S2 k v H2 (e.trans e2) r h
theorem Cl.self {Kc : KD} {Q : VK} (c : Cl K H S Kc Q) {d : D} {v : V} (k : Kc d S) (r : Rp K H v d) (h : HR K H S) : Q v H := c d S k v H Ev.refl r h
theorem EndR.later {De : DEnds} {D : Ends} (c : EndR K H S De D) (e : Ev K H H' S S') : EndR K H' S' De D :=
  ⟨fun ρ S2 k σ H2 e2 r h => c.1 ρ S2 k σ H2 (e.trans e2) r h, c.2.1.later e, fun ρ S2 k σ H2 e2 r h => c.2.2.1 ρ S2 k σ H2 (e.trans e2) r h, fun ρ S2 k σ H2 e2 r h => c.2.2.2 ρ S2 k σ H2 (e.trans e2) r h⟩
end
section
variable {X : Cx} {pins : List (Addr × Obj)} {σ : L2.St} {H : Hp} {s : Shared}
theorem tup_at (I : Inv X pins σ H s) {a : Addr} {xs : List V} (h : TupR X.K H a xs) : ∃ (o : Obj) (its : List Value) (n : Nat), s.heap.get? a = some o ∧ o.cls = .type "tuple" ∧ PlainT o ∧ o.data = .seq its.toArray n ∧ Vals xs its ∧ xs.length ≤ sizeLine := by
  rcases h with ⟨o, h, p⟩ | ⟨o, its, n, h1, h2, p, h3, h4, h5⟩
  · obtain ⟨e, z, its, r, o', e', c, n, d⟩ := I.hok a _ h
    rw [e] at e'
    cases e'
    exact ⟨o, its, n, e, c, p, d, r, z⟩
  · refine ⟨o, its.toList, n, I.kIn a o h1, h2, p, by simpa using h3, h5, ?_⟩
    rw [h5.length]
    simpa using h4
/-- a new tuple of known object -/
def tupN (its : List Value) : Obj := { cls := .type "tuple", data := .seq its.toArray }
theorem plainN (its : List Value) : PlainT (tupN its) := ⟨rfl, rfl⟩
theorem laidT (I : Inv X pins σ H s) {xs : List V} {its : List Value} (r : Vals xs its) (z : xs.length ≤ sizeLine) :
    Inv X pins σ (upd H s.heap.objs.size (.frz (tupN its) (.tup xs))) { s with heap := s.heap.push (tupN its) } :=
  I.laid (t' := s.toks) (fun b ob q => Heap.get?_push_of_some _ q) (Nat.le_refl _) ⟨Heap.get?_push_size _ rfl, z, its, r, _, Heap.get?_push_size _ rfl, rfl, _, rfl⟩
/-- what a rule gives of a new tuple -/
abbrev NewT (H : Hp) (xs : List V) (Q : VK) : Prop := ∀ p o, H p = none → PlainT o → Q (.ref p) (upd H p (.frz o (.tup xs)))
end
section
variable {X : Cx}
theorem pe_mono {e : Expr} {t t' : TE} (h : PE X e t) (m : ∀ σ H Q, t' σ H Q → t σ H Q) : PE X e t' := ⟨fun pins s σ H Q I q => h.run pins s σ H Q I (m σ H Q q)⟩
theorem pt_mono {e : Expr} {t t' : TT} (h : PT X e t) (m : ∀ σ H Q, t' σ H Q → t σ H Q) : PT X e t' := ⟨fun pins s σ H Q I q => h.run pins s σ H Q I (m σ H Q q)⟩
theorem pw_mono {e : Expr} {t t' : TT} (h : PW X e t) (m : ∀ σ H Q, t' σ H Q → t σ H Q) : PW X e t' := ⟨fun wh pins s σ H Q I q => h.run wh pins s σ H Q I (m σ H Q q)⟩
theorem pa_mono {e : List Expr} {t t' : TA} (h : PA X e t) (m : ∀ σ H Q, t' σ H Q → t σ H Q) : PA X e t' := ⟨fun pos pins s σ H Q I q => h.run pos pins s σ H Q I (m σ H Q q)⟩
theorem ps_mono {e : Stmt} {t t' : TS} (h : PS X e t) (m : ∀ D σ H, t' D σ H → t D σ H) : PS X e t' := ⟨fun pins s σ H D I q => h.run pins s σ H D I (m D σ H q)⟩
theorem pss_mono {e : List Stmt} {t t' : TS} (h : PSs X e t) (m : ∀ D σ H, t' D σ H → t D σ H) : PSs X e t' := ⟨fun pins s σ H D I q => h.run pins s σ H D I (m D σ H q)⟩
end
end Lac
end

-- LacC.lean
section
set_option Elab.async false
set_option linter.all false
set_option maxRecDepth 100000
set_option maxHeartbeats 1000000
/-! Lac, part C: operations by values. -/
set_option autoImplicit false
namespace Lac
open PySem L2

/-! ### data as the library's -/
mutual
def py : D → PyData
  | .non => .none
  | .bl b => .bool b
  | .int i => .int i
  | .str s => .str s
  | .tup ds => .tuple (pys ds)
  | .ref _ => .none
def pys : List D → List PyData
  | [] => []
  | d :: ds => py d :: pys ds
end
section
variable {K : PySem.W.Frag} {H : Hp}
mutual
theorem dp_of : ∀ (d : D) {v : V}, dep d ≤ 420 → Rp K H v d → Dp K H v (py d)
  | .non, _, _, h => by cases h; exact .non
  | .bl _, _, _, h => by cases h; exact .bl _
  | .int _, _, _, h => by cases h; exact .int _
  | .str _, _, _, h => by cases h; exact .str _
  | .ref _, _, l, h => by simp [dep] at l
  | .tup ds, _, l, h => by
    cases h with
    | tup a b => exact .tup a.sq (dps_of ds (by simp [dep] at l; omega) b)
theorem dps_of : ∀ (ds : List D) {vs : List V}, deps ds ≤ 420 → Rps K H vs ds → DpAll K H vs (pys ds)
  | [], _, _, h => by cases h; exact .nil
  | d :: ds, _, l, h => by
    simp only [deps] at l
    cases h with
    | cons a b => exact .cons (dp_of d (by omega) a) (dps_of ds (by omega) b)
end
mutual
theorem lay_of : ∀ (d : D) {v : V}, Rp K H v d → (py d).canLay0 = true
  | .non, _, h => by simp [py, PyData.canLay0]
  | .bl _, _, h => by simp [py, PyData.canLay0]
  | .int _, _, h => by simp [py, PyData.canLay0]
  | .str _, _, h => by cases h with | str _ a b => simpa [py, PyData.canLay0] using a
  | .ref _, _, h => by simp [py, PyData.canLay0]
  | .tup ds, _, h => by
    cases h with
    | tup a b => simpa [py, PyData.canLay0] using lays_of ds b
theorem lays_of : ∀ (ds : List D) {vs : List V}, Rps K H vs ds → PyData.canLayAll0 (pys ds) = true
  | [], _, h => by simp [pys, PyData.canLayAll0]
  | d :: ds, _, h => by
    cases h with
    | cons a b => simp [pys, PyData.canLayAll0, lay_of d a, lays_of ds b]
end
mutual
theorem pydep : ∀ d : D, (py d).depth ≤ dep d
  | .non | .bl _ | .int _ | .str _ => by simp [py, PyData.depth]
  | .ref _ => by simp [py, PyData.depth]
  | .tup ds => by simp [py, PyData.depth, dep, pydeps ds]
theorem pydeps : ∀ ds : List D, PyData.depthAll (pys ds) ≤ deps ds
  | [] => by simp [pys, PyData.depthAll]
  | d :: ds => by
    have h1 := pydep d
    have h2 := pydeps ds
    simp only [pys, PyData.depthAll, deps]
    omega
end
mutual
theorem py_eqv : ∀ d e : D, dep d ≤ 420 → dep e ≤ 420 → PyData.eqv (py d) (py e) = eqv d e
  | .ref _, _, h, _ => by simp [dep] at h
  | .non, e, _, h => by cases e <;> first | rfl | (simp [dep] at h)
  | .bl _, e, _, h => by cases e <;> first | rfl | (simp [dep] at h)
  | .int _, e, _, h => by cases e <;> first | rfl | (simp [dep] at h)
  | .str _, e, _, h => by cases e <;> first | rfl | (simp [dep] at h)
  | .tup ds, .tup es, h, h' => by
    simp only [dep] at h h'
    simp only [py, PyData.eqv, eqv]
    exact py_eqvs ds es (by omega) (by omega)
  | .tup ds, .non, _, _ => by simp [py, PyData.eqv, eqv]
  | .tup ds, .bl _, _, _ => by simp [py, PyData.eqv, eqv]
  | .tup ds, .int _, _, _ => by simp [py, PyData.eqv, eqv]
  | .tup ds, .str _, _, _ => by simp [py, PyData.eqv, eqv]
  | .tup ds, .ref _, _, h => by simp [dep] at h
theorem py_eqvs : ∀ ds es : List D, deps ds ≤ 420 → deps es ≤ 420 → PyData.eqvAll (pys ds) (pys es) = eqvs ds es
  | [], [], _, _ => by simp [pys, PyData.eqvAll, eqvs]
  | [], _ :: _, _, _ => by simp [pys, PyData.eqvAll, eqvs]
  | _ :: _, [], _, _ => by simp [pys, PyData.eqvAll, eqvs]
  | d :: ds, e :: es, h, h' => by
    simp only [deps] at h h'
    simp only [pys, PyData.eqvAll, eqvs]
    rw [py_eqv d e (by omega) (by omega), py_eqvs ds es (by omega) (by omega)]
end
theorem any_eqv (x : D) (hx : dep x ≤ 420) : ∀ ds : List D, deps ds ≤ 420 → (pys ds).any (fun y => PyData.eqv y (py x)) = ds.any fun z => eqv z x
  | [], _ => rfl
  | d :: ds, h => by
    simp only [deps] at h
    simp only [pys, List.any_cons]
    rw [py_eqv d x (by omega) hx, any_eqv x hx ds (by omega)]
theorem okS_app {a b : Str} (h : PyData.strOk a = true) (h' : PyData.strOk b = true) : PyData.strOk (a ++ b) = true := by
  unfold PyData.strOk at *
  show ((a.cps ++ b.cps).all _) = true
  rw [Array.all_append, h, h']
  rfl
theorem len_app (a b : Str) : (a ++ b).length = a.length + b.length := by
  show (a.cps ++ b.cps).size = _
  rw [Array.size_append]
  rfl
end

section
variable {X : Cx}
def opx : Op2 → Operator
  | .add => .Add
  | .sub => .Sub
  | .mul => .Mult
  | .fdiv => .FloorDiv
  | .mod => .Mod
  | .pow => .Pow
def cmx : Cm → CmpOp
  | .eq => .Eq
  | .ne => .NotEq
  | .lt => .Lt
  | .le => .LtE
  | .gt => .Gt
  | .ge => .GtE
  | .inn => .In
  | .nin => .NotIn
/-- t + u -/
def rCatP (K : PySem.W.Frag) : R2 := fun x y H Q => ∃ a b xs ys, x = .ref a ∧ y = .ref b ∧ TupR K H a xs ∧ TupR K H b ys ∧ xs.length + ys.length ≤ sizeLine ∧
  (xs = [] → Q (.ref b) H) ∧ (xs ≠ [] → ys = [] → Q (.ref a) H) ∧ NewT H (xs ++ ys) Q
theorem op_catP : OpR X (binaryOp .Add) (rCatP X.K) := by
  intro pins s σ H x y v u Q I rx ry h
  obtain ⟨a, b, xs, ys, rfl, rfl, ha, hb, hz, q0, q1, q2⟩ := h
  cases rx
  cases ry
  obtain ⟨its, r1, p1, _⟩ := I.tuple ha.sq
  obtain ⟨its2, r2, p2, _⟩ := I.tuple hb.sq
  by_cases hx : xs = []
  · subst hx
    cases r1
    exact cat_tup0 p1 p2 ⟨.ref b, H, I, rfl, q0 rfl⟩
  · refine HT.cat_tup p1 p2 (fun z => hx (r1.nil_iff.mp z)) (fun z => ⟨.ref a, H, I, rfl, q1 hx (r2.nil_iff.mp z)⟩) (fun z => ?_) (by rw [← r1.length, ← r2.length]; exact hz)
    exact ⟨.ref s.heap.objs.size, _, laidT I (r1.append r2) (by rw [List.length_append]; exact hz), rfl, q2 _ _ (I.hok.fresh (Nat.le_refl _)) (plainN _)⟩
theorem HR.lst {K : PySem.W.Frag} {H : Hp} {S : SH} (r : HR K H S) {a : Addr} {ds : List D} (e : S a = some (.lst ds)) : ∃ vs, H a = some (.lst vs) ∧ Rps K H vs ds := r a _ e
theorem op_bin (op : Op2) : OpR X (binaryOp (opx op)) (lift2 X.K (dBin op)) := by
  intro pins s σ H x y v u Q I rx ry ⟨d, e, S, Kc, rd, re, hs, h, cl⟩
  have int2 : ∀ (g : Int → Int → Int) (C : Int → Int → Prop), OpR X (binaryOp (opx op)) (rI C fun i j => .int (g i j)) → ∀ i j, d = .int i → e = .int j → C i j → Kc (.int (g i j)) S → wpAny (model X.prog X.w) X.A (binaryOp (opx op) v u) (EP X pins σ Q) X.xe s := by
    intro g C ho i j e1 e2 c k
    subst e1 e2
    cases rd; cases re
    exact ho pins s σ H _ _ v u Q I rx ry ⟨i, j, rfl, rfl, c, cl.self k (.int _) hs⟩
  cases op with
  | add =>
    cases d with
    | int i => cases e with
      | int j =>
        cases rd; cases re
        exact op_add pins s σ H _ _ v u Q I rx ry ⟨i, j, rfl, rfl, cl.self h (.int _) hs⟩
      | _ => exact False.elim h
    | str a => cases e with
      | str b =>
        obtain ⟨hl, k⟩ := h
        cases rd with | str _ o1 l1 => cases re with | str _ o2 l2 =>
        exact op_add_str pins s σ H _ _ v u Q I rx ry ⟨a, b, rfl, rfl, hl, cl.self k (.str _ (okS_app o1 o2) (by rw [len_app]; exact hl)) hs⟩
      | _ => exact False.elim h
    | tup a => cases e with
      | tup b =>
        obtain ⟨hl, k⟩ := h
        cases rd with | tup s1 r1 => cases re with | tup s2 r2 =>
        refine op_catP pins s σ H _ _ v u Q I rx ry ⟨_, _, _, _, rfl, rfl, s1, s2, by rw [r1.length, r2.length]; exact hl, fun z => ?_, fun _ z => ?_, fun p o hp po => ?_⟩
        · subst z; cases r1; exact cl.self k (.tup s2 r2) hs
        · subst z; cases r2; rw [List.append_nil] at k; exact cl.self k (.tup s1 r1) hs
        · exact cl _ _ k _ _ (Ev.newN hp) (.tup (TupR.of upd_same po) (Rps.mono (te_new hp) _ (r1.app r2))) (hs.newN hp)
      | _ => exact False.elim h
    | ref a => cases e with
      | ref b =>
        cases rd; cases re
        have h' : (match S a, S b with
          | some (.lst xs), some (.lst ys) => xs.length + ys.length ≤ sizeLine ∧ newL (xs ++ ys) S Kc
          | _, _ => False) := h
        split at h'
        · rename_i xs ys ea eb
          obtain ⟨vs, q1, r1⟩ := hs.lst ea
          obtain ⟨ws, q2, r2⟩ := hs.lst eb
          exact op_cat pins s σ H _ _ v u Q I rx ry ⟨a, b, vs, ws, rfl, rfl, q1, q2, by rw [r1.length, r2.length]; exact h'.1, fun p hp => cl _ _ (h'.2 p (hs.free hp)) _ _ (Ev.new hp) (.ref _) (hs.newL hp (r1.app r2))⟩
        · exact h'.elim
      | _ => exact False.elim h
    | _ => exact False.elim h
  | sub =>
    cases d with
    | int i => cases e with
      | int j =>
        cases rd; cases re
        exact op_sub pins s σ H _ _ v u Q I rx ry ⟨i, j, rfl, rfl, cl.self h (.int _) hs⟩
      | _ => exact False.elim h
    | _ => exact False.elim h
  | mul =>
    cases d with
    | int i => cases e with
      | int j => exact int2 _ _ op_mul i j rfl rfl h.1 h.2
      | _ => exact False.elim h
    | _ => exact False.elim h
  | fdiv =>
    cases d with
    | int i => cases e with
      | int j => exact int2 _ _ op_fdiv i j rfl rfl h.1 h.2
      | _ => exact False.elim h
    | _ => exact False.elim h
  | mod =>
    cases d with
    | int i => cases e with
      | int j => exact int2 _ _ op_mod i j rfl rfl h.1 h.2
      | _ => exact False.elim h
    | _ => exact False.elim h
  | pow =>
    cases d with
    | int i => cases e with
      | int j => exact int2 (fun i j => i ^ j.toNat) _ op_pow i j rfl rfl h.1 h.2
      | _ => exact False.elim h
    | _ => exact False.elim h

/-! ### == and in -/
theorem ne_ref {d : D} (h : dep d ≤ 420) : ∀ a, d ≠ .ref a := fun a e => by subst e; simp [dep] at h
theorem lst_dp {K : PySem.W.Frag} {H : Hp} {a : Addr} {vs : List V} {ds : List D} (q : H a = some (.lst vs)) (r : Rps K H vs ds) (l : deps ds ≤ 420) : Dp K H (.ref a) (.list (pys ds)) := .lst (SqL.of q) (dps_of ds l r)
/-- == and != of data -/
theorem eq_core (hu : X.A.units + 880 < cLine) {pins : List (Addr × Obj)} {s : Shared} {σ : L2.St} {H : Hp} {x y : V} {v u : Value} {d e : D} {S : SH} {B : Bool → Prop} (I : Inv X pins σ H s) (rx : RelV x v) (ry : RelV y u)
    (rd : Rp X.K H x d) (re : Rp X.K H y e) (hs : HR X.K H S) (h : dEq d e S B) :
    ∃ (dx dy : PyData) (as bs : List Addr), Reads s.heap v dx as ∧ Reads s.heap u dy bs ∧ dx.canLay0 = true ∧ dy.canLay0 = true ∧ X.A.units + min dx.depth dy.depth < cLine ∧ B (PyData.eqv dx dy) := by
  have pure_ : dep d ≤ 420 → dep e ≤ 420 → B (eqv d e) → ∃ (dx dy : PyData) (as bs : List Addr), Reads s.heap v dx as ∧ Reads s.heap u dy bs ∧ dx.canLay0 = true ∧ dy.canLay0 = true ∧ X.A.units + min dx.depth dy.depth < cLine ∧ B (PyData.eqv dx dy) := fun l1 l2 b => by
    obtain ⟨as, r1⟩ := Dp.reads I _ x v (dp_of d l1 rd) rx
    obtain ⟨bs, r2⟩ := Dp.reads I _ y u (dp_of e l2 re) ry
    have := pydep d
    exact ⟨_, _, as, bs, r1, r2, lay_of d rd, lay_of e re, by omega, by rw [py_eqv d e l1 l2]; exact b⟩
  cases d with
  | ref a =>
    cases e with
    | ref b =>
      cases rd; cases re
      have h' : (match S a, S b with
        | some (.lst xs), some (.lst ys) => deps xs ≤ 420 ∧ deps ys ≤ 420 ∧ B (eqvs xs ys)
        | _, _ => False) := h
      split at h'
      · rename_i xs ys ea eb
        obtain ⟨l1, l2, b'⟩ := h'
        obtain ⟨vs, q1, r1⟩ := hs.lst ea
        obtain ⟨ws, q2, r2⟩ := hs.lst eb
        obtain ⟨as, z1⟩ := Dp.reads I _ _ v (lst_dp q1 r1 l1) rx
        obtain ⟨bs, z2⟩ := Dp.reads I _ _ u (lst_dp q2 r2 l2) ry
        have := pydeps xs
        exact ⟨_, _, as, bs, z1, z2, by simpa [PyData.canLay0] using lays_of xs r1, by simpa [PyData.canLay0] using lays_of ys r2, by simp only [PyData.depth]; omega, by simp only [PyData.eqv]; rw [py_eqvs xs ys l1 l2]; exact b'⟩
      · exact h'.elim
    | _ => exact absurd h.1 (by simp [dep])
  | _ =>
    cases e with
    | ref b => exact absurd h.2.1 (by simp [dep])
    | _ => exact pure_ h.1 h.2.1 h.2.2
theorem in_core (hu : X.A.units + 880 < cLine) (neg : Bool) {pins : List (Addr × Obj)} {s : Shared} {σ : L2.St} {H : Hp} {x y : V} {v u : Value} {Q : VK} {d e : D} {S : SH} {B : Bool → Prop} (I : Inv X pins σ H s) (rx : RelV x v) (ry : RelV y u)
    (rd : Rp X.K H x d) (re : Rp X.K H y e) (hs : HR X.K H S) (h : dIn d e S B) (hB : ∀ b, B b → Q (.bl (if neg then !b else b)) H) :
    wpAny (model X.prog X.w) X.A (compareOp (if neg then .NotIn else .In) v u) (EP X pins σ Q) X.xe s := by
  have hu1 : X.A.units + 1 < cLine := by omega
  have fin : ∀ {b : Bool}, B b → EP X pins σ Q (.bool (if neg then !b else b)) s := fun {b} hb => ⟨.bl _, H, I, rfl, hB b hb⟩
  have seqc : ∀ (ds : List D), dep d ≤ 420 → deps ds ≤ 420 → B (ds.any fun z => eqv z d) → (Dp X.K H y (.list (pys ds)) ∨ Dp X.K H y (.tuple (pys ds))) → PyData.canLayAll0 (pys ds) = true →
      wpAny (model X.prog X.w) X.A (compareOp (if neg then .NotIn else .In) v u) (EP X pins σ Q) X.xe s := fun ds l1 l2 b hy lay => by
    obtain ⟨as, r1⟩ := Dp.reads I _ x v (dp_of d l1 rd) rx
    have q := pydeps ds
    have room : X.A.units + 1 + min (PyData.depthAll (pys ds)) (py d).depth < cLine := by omega
    rw [← any_eqv d l1 ds l2] at b
    rcases hy with hy | hy
    · obtain ⟨bs, r2⟩ := Dp.reads I _ y u hy ry
      cases neg with
      | false => exact SeqAt.in_list_reads r2 r1 lay (lay_of d rd) room (fin b)
      | true => exact SeqAt.notIn_list_reads r2 r1 lay (lay_of d rd) room (fin b)
    · obtain ⟨bs, r2⟩ := Dp.reads I _ y u hy ry
      cases neg with
      | false => exact SeqAt.in_tuple_reads r2 r1 lay (lay_of d rd) room (fin b)
      | true => exact SeqAt.notIn_tuple_reads r2 r1 lay (lay_of d rd) room (fin b)
  cases e with
  | str t =>
    cases d with
    | str a =>
      cases rd; cases re
      cases neg with
      | false => exact op_in_str pins s σ H _ _ v u Q I rx ry ⟨a, t, rfl, rfl, hB _ h⟩
      | true => exact op_notin_str pins s σ H _ _ v u Q I rx ry ⟨a, t, rfl, rfl, hB _ h⟩
    | _ => exact False.elim h
  | tup ds =>
    have h' : dep d ≤ 420 ∧ deps ds ≤ 420 ∧ B (ds.any fun z => eqv z d) := by cases d <;> exact h
    obtain ⟨l1, l2, b⟩ := h'
    cases re with
    | tup q r => exact seqc ds l1 l2 b (.inr (.tup q.sq (dps_of ds l2 r))) (lays_of ds r)
  | ref a =>
    have h' : (match S a with
      | some (.dct kvs) => (match keyD d with
        | some k => B (valD kvs k).isSome
        | none => False)
      | some (.lst ds) => dep d ≤ 420 ∧ deps ds ≤ 420 ∧ B (ds.any fun z => eqv z d)
      | _ => False) := by cases d <;> exact h
    cases re
    split at h'
    · rename_i kvs ea
      split at h'
      · rename_i k ek
        obtain ⟨ws, q, r⟩ := hs a _ ea
        have hk : x = kV k := by
          cases d with
          | int i => cases rd; cases ek; rfl
          | str z => cases rd; cases ek; rfl
          | _ => cases ek
        subst hk
        have hv : (valV ws k).isSome = (valD kvs k).isSome := by
          clear h' h hB fin seqc ea q
          induction r with
          | nil => rfl
          | @cons p q' ps qs hpq r ih =>
            obtain ⟨e1, _⟩ := hpq
            by_cases hk : q'.1 = k
            · simp [valV, valD, List.find?_cons, e1, hk]
            · simpa [valV, valD, List.find?_cons, e1, hk] using ih
        rw [← hv] at h'
        obtain rfl : u = Value.ref a := ry
        cases neg with
        | false => exact d_in hu1 I (DGet.k q) rx fun s' I' => ⟨.bl _, H, I', rfl, hB _ h'⟩
        | true => exact d_notIn hu1 I (DGet.k q) rx fun s' I' => ⟨.bl _, H, I', rfl, hB _ h'⟩
      · exact h'.elim
    · rename_i ds ea
      obtain ⟨l1, l2, b⟩ := h'
      obtain ⟨vs, q1, r1⟩ := hs.lst ea
      exact seqc ds l1 l2 b (.inl (lst_dp q1 r1 l2)) (lays_of ds r1)
    · exact h'.elim
  | _ => cases d <;> exact False.elim h
theorem op_cmp (hu : X.A.units + 880 < cLine) (op : Cm) : OpR X (compareOp (cmx op)) (lift2 X.K (dCmp op)) := by
  intro pins s σ H x y v u Q I rx ry ⟨d, e, S, Kc, rd, re, hs, h, cl⟩
  cases op with
  | eq =>
    obtain ⟨dx, dy, as, bs, r1, r2, c1, c2, room, b⟩ := eq_core (B := fun b => Kc (.bl b) S) hu I rx ry rd re hs h
    exact SeqAt.compareEq_reads r1 r2 c1 c2 room ⟨.bl _, H, I, rfl, cl.self b (.bl _) hs⟩
  | ne =>
    obtain ⟨dx, dy, as, bs, r1, r2, c1, c2, room, b⟩ := eq_core (B := fun b => Kc (.bl (!b)) S) hu I rx ry rd re hs h
    exact SeqAt.compareNe_reads r1 r2 c1 c2 room ⟨.bl _, H, I, rfl, cl.self b (.bl _) hs⟩
  | inn => exact in_core (B := fun b => Kc (.bl b) S) hu false I rx ry rd re hs h fun b k => cl.self k (.bl _) hs
  | nin => exact in_core (B := fun b => Kc (.bl (!b)) S) hu true I rx ry rd re hs h fun b k => cl.self k (.bl _) hs
  | lt =>
    cases d with
    | int i => cases e with
      | int j => cases rd; cases re; exact op_lt pins s σ H _ _ v u Q I rx ry ⟨i, j, rfl, rfl, cl.self h (.bl _) hs⟩
      | _ => exact False.elim h
    | _ => exact False.elim h
  | le =>
    cases d with
    | int i => cases e with
      | int j => cases rd; cases re; exact op_le pins s σ H _ _ v u Q I rx ry ⟨i, j, rfl, rfl, cl.self h (.bl _) hs⟩
      | _ => exact False.elim h
    | _ => exact False.elim h
  | gt =>
    cases d with
    | int i => cases e with
      | int j => cases rd; cases re; exact op_gt pins s σ H _ _ v u Q I rx ry ⟨i, j, rfl, rfl, cl.self h (.bl _) hs⟩
      | _ => exact False.elim h
    | _ => exact False.elim h
  | ge =>
    cases d with
    | int i => cases e with
      | int j => cases rd; cases re; exact op_ge pins s σ H _ _ v u Q I rx ry ⟨i, j, rfl, rfl, cl.self h (.bl _) hs⟩
      | _ => exact False.elim h
    | _ => exact False.elim h
end
end Lac
end

-- LacD.lean
section
set_option Elab.async false
set_option linter.all false
set_option maxRecDepth 100000
set_option maxHeartbeats 1000000
set_option autoImplicit false
/-! Lac, part D: subscripts, slices, truth, types, built-ins, methods. -/
namespace Lac
open PySem PySem.Spec PyProof.Rows L2

section
variable {K : PySem.W.Frag} {H : Hp} {S : SH}
theorem HR.seq (r : HR K H S) {a : Addr} {ds : List D} (h : S a = some (.lst ds) ∨ S a = some (.rd ds)) : ∃ vs, SqL K H a vs ∧ Rps K H vs ds := by
  rcases h with h | h
  · obtain ⟨vs, q, z⟩ := r a _ h; exact ⟨vs, SqL.of q, z⟩
  · obtain ⟨o, vs, q, z⟩ := r a _ h; exact ⟨vs, .inl (.inr ⟨o, q⟩), z⟩
theorem KR.val {ws : List (Key × V)} {kvs : List (Key × D)} (r : KR K H ws kvs) (k : Key) : (∀ d, valD kvs k = some d → ∃ v, valV ws k = some v ∧ Rp K H v d) ∧ (valD kvs k = none → valV ws k = none) := by
  induction r with
  | nil => exact ⟨fun _ e => by simp [valD] at e, fun _ => rfl⟩
  | @cons p q ps qs hpq r ih =>
    obtain ⟨e1, e2⟩ := hpq
    by_cases hk : q.1 = k
    · refine ⟨fun d e => ?_, fun e => ?_⟩
      · simp [valD, List.find?_cons, hk] at e
        subst e
        exact ⟨p.2, by simp [valV, List.find?_cons, e1, hk], e2⟩
      · simp [valD, List.find?_cons, hk] at e
    · have h1 : valD (q :: qs) k = valD qs k := by simp [valD, List.find?_cons, hk]
      have h2 : valV (p :: ps) k = valV ps k := by simp [valV, List.find?_cons, e1, hk]
      rw [h1, h2]
      exact ih
theorem key_rp {d : D} {k : Key} {x : V} (e : keyD d = some k) (r : Rp K H x d) : x = kV k := by
  cases d with
  | int i => cases r; cases e; rfl
  | str z => cases r; cases e; rfl
  | _ => cases e
theorem rp_key {d : D} {k : Key} (e : keyD d = some k) {x : V} (r : Rp K H x d) : Rp K H (kV k) d := by rw [← key_rp e r]; exact r
theorem okS_char (c : Nat) (h : c < 0x110000) : PyData.strOk ⟨#[c]⟩ = true := by simp [PyData.strOk, h]
theorem okS_mem {s : Str} (h : PyData.strOk s = true) {c : Nat} (e : c ∈ s.cps.toList) : c < 0x110000 := by
  unfold PyData.strOk at h
  rw [Array.all_eq_true'] at h
  have := h c (by simpa using e)
  simpa using this
theorem one_le_line : 1 ≤ sizeLine := by rw [sizeLine_eq]; decide
theorem tru_rp {d : D} {v : V} {b : Bool} (hs : HR K H S) (r : Rp K H v d) (h : tru S d = some b) : TruV K v H b := by
  cases d with
  | non => cases r; cases h; rfl
  | bl c => cases r; cases h; rfl
  | int i => cases r; cases h; rfl
  | str z => cases r with | str _ o l => cases h; exact ⟨l, rfl⟩
  | tup ds => cases r with
    | tup q r =>
      cases h
      refine .inr (.inl ⟨_, q.sq, ?_⟩)
      cases r <;> rfl
  | ref a =>
    cases r
    have h' : (match S a with
      | some (.lst ds) => some (!ds.isEmpty)
      | some (.rd ds) => some (!ds.isEmpty)
      | some (.dct kvs) => some (!kvs.isEmpty)
      | none => none) = some b := h
    split at h'
    · rename_i ds e
      cases h'
      obtain ⟨vs, q, r⟩ := hs.seq (.inl e)
      exact .inl ⟨vs, q, by cases r <;> rfl⟩
    · rename_i ds e
      cases h'
      obtain ⟨vs, q, r⟩ := hs.seq (.inr e)
      exact .inl ⟨vs, q, by cases r <;> rfl⟩
    · rename_i kvs e
      cases h'
      obtain ⟨ws, q, r⟩ := hs a _ e
      exact .inr (.inr ⟨ws, q, by cases r <;> rfl⟩)
    · cases h'
end
section
variable {X : Cx}
theorem ixD_seq (n : Nat) (i : Int) : ixD n i = ixN n i := rfl
theorem at_rps {K : PySem.W.Frag} {H : Hp} {vs : List V} {ds : List D} {i : Int} {d : D} (r : Rps K H vs ds) (h : atD ds i = some d) : ∃ v, atI vs i = some v ∧ Rp K H v d := by
  unfold atD at h
  rw [Option.bind_eq_some_iff] at h
  obtain ⟨j, h1, h2⟩ := h
  obtain ⟨v, e, q⟩ := r.get h2
  refine ⟨v, ?_, q⟩
  unfold atI
  rw [r.length, ← ixD_seq, h1]
  exact e
theorem ix_all (hu : X.A.units + 880 < cLine) : IxR X (lift2 X.K dIdx) := by
  intro value slice pins s σ H x y v u Q I rx ry ⟨d, e, S, Kc, rd, re, hs, h, cl⟩ hsub
  have dict_case : ∀ a kvs, d = .ref a → S a = some (.dct kvs) → ∀ k z, keyD e = some k → valD kvs k = some z → Kc z S → wpAny (model X.prog X.w) X.A (subscriptTail value slice v u) (EP X pins σ Q) X.xe s := by
    intro a kvs ed ea k z ek ez kc
    subst ed
    cases rd
    obtain ⟨ws, q, r⟩ := hs a _ ea
    obtain ⟨w', e1, e2⟩ := (KR.val r k).1 z ez
    have hy : y = kV k := key_rp ek re
    subst hy
    obtain rfl : v = Value.ref a := rx
    have g : DGet H a (kV k) (some w') := by rw [← e1]; exact DGet.k q
    refine PyProof.Rows.tail_any (dict_typeIs I g) PySem.F.slot_dict_getitem.lookup (d_getItem (A := X.A) (by omega) I g ry fun w2 s' I' r' => ⟨w', H, I', r', cl.self kc e2 hs⟩) hsub
  cases d with
  | tup ds =>
    cases e with
    | int i =>
      have h' : (match atD ds i with
        | some d => Kc d S
        | none => False) := h
      split at h'
      · rename_i z ez
        cases rd with
        | tup q r =>
          cases re
          obtain ⟨w', e1, e2⟩ := at_rps r ez
          exact ix_tup value slice pins s σ H _ _ v u Q I rx ry ⟨_, _, i, w', rfl, rfl, q.sq, e1, cl.self h' e2 hs⟩ hsub
      · exact h'.elim
    | _ => exact False.elim h
  | str z =>
    cases e with
    | int i =>
      have h' : (match (ixN z.cps.toList.length i).bind fun j => z.cps.toList[j]? with
        | some c => Kc (.str ⟨#[c]⟩) S
        | none => False) := h
      split at h'
      · rename_i c ec
        cases rd with
        | str _ o l =>
          cases re
          have hc : c ∈ z.cps.toList := by
            rw [Option.bind_eq_some_iff] at ec
            obtain ⟨j, _, q⟩ := ec
            exact List.mem_of_getElem? q
          exact ix_str value slice pins s σ H _ _ v u Q I rx ry ⟨z, i, c, rfl, rfl, l, ec, cl.self h' (.str _ (okS_char c (okS_mem o hc)) one_le_line) hs⟩ hsub
      · exact h'.elim
    | _ => exact False.elim h
  | ref a =>
    have lst_case : ∀ ds i z, (S a = some (.lst ds) ∨ S a = some (.rd ds)) → e = .int i → atD ds i = some z → Kc z S → wpAny (model X.prog X.w) X.A (subscriptTail value slice v u) (EP X pins σ Q) X.xe s := by
      intro ds i z ea ee ez kc
      subst ee
      cases rd
      cases re
      obtain ⟨vs, q, r⟩ := hs.seq ea
      obtain ⟨w', e1, e2⟩ := at_rps r ez
      exact ix_list value slice pins s σ H _ _ v u Q I rx ry ⟨_, _, i, w', rfl, rfl, q, e1, cl.self kc e2 hs⟩ hsub
    unfold dIdx at h
    simp only at h
    split at h
    · rename_i ds i ea
      split at h
      · rename_i z ez; exact lst_case ds i z (.inl ea) rfl ez h
      · exact h.elim
    · rename_i ds i ea
      split at h
      · rename_i z ez; exact lst_case ds i z (.inr ea) rfl ez h
      · exact h.elim
    · rename_i kvs ea
      split at h
      · rename_i k ek
        split at h
        · rename_i z ez; exact dict_case a kvs rfl ea k z ek ez h
        · exact h.elim
      · exact h.elim
    · exact h.elim
  | _ => exact False.elim h

/-! ### slices -/
theorem cut_rps {K : PySem.W.Frag} {H : Hp} {vs : List V} {ds : List D} (r : Rps K H vs ds) (lo hi : Option Int) : Rps K H (cutV vs lo hi) (cutD ds lo hi) := by
  unfold cutV cutD
  rw [r.length]
  exact (r.drop _).take _
def liftSl (K : PySem.W.Frag) (r : D → Option Int → Option Int → SH → KD → Prop) : V → Option Int → Option Int → Hp → VK → Prop := fun x lo hi H Q => ∃ d S Kc, Rp K H x d ∧ HR K H S ∧ r d lo hi S Kc ∧ Cl K H S Kc Q
theorem okS_sub {s t : Str} (h : PyData.strOk s = true) (m : ∀ c ∈ t.cps.toList, c ∈ s.cps.toList) : PyData.strOk t = true := by
  unfold PyData.strOk
  rw [Array.all_eq_true']
  intro c hc
  have := okS_mem h (m c (by simpa using hc))
  simpa using this
theorem sl_all : SlR X (liftSl X.K dSlc) := by
  intro pins s σ H x v vl vu lo hi sl Q I rx hsl pl pu ⟨d, S, Kc, rd, hs, h, cl⟩
  cases d with
  | tup ds =>
    cases rd with
    | @tup a xs _ q r =>
      have k : Kc (.tup (cutD ds lo hi)) S := h
      have c := cut_rps r lo hi
      by_cases hw : HT.sIx xs.length 0 lo = 0 ∧ HT.sIx xs.length xs.length hi = xs.length
      · refine sl_tupA pins s σ H _ v vl vu lo hi sl Q I rx hsl pl pu ⟨_, _, rfl, q.sq, fun _ => ?_, fun z => absurd hw z⟩
        have e : cutD ds lo hi = ds := by
          unfold cutD
          have h1 : sIxD ds.length 0 lo = 0 := by rw [← r.length]; exact hw.1
          have h2 : sIxD ds.length ds.length hi = ds.length := by rw [← r.length]; exact hw.2
          rw [h1, h2, Nat.sub_zero, List.drop_zero, List.take_length]
        rw [e] at k
        exact cl.self k (.tup q r) hs
      · cases rx
        obtain ⟨its, rv, ht, hz⟩ := I.tuple q.sq
        have hlen : its.toArray.size = xs.length := by rw [List.size_toArray]; exact rv.length.symm
        refine ⟨"tuple", _, PyProof.Rows.slot_tuple_getitem.lookup, ht.typeIs, ?_⟩
        refine HT.getItem_tuple_cut ht hsl pl pu (by rw [hlen]; exact hw) ?_ (by rw [hlen]; exact hz)
        rw [hlen]
        refine ⟨.ref s.heap.objs.size, _, laidT I (xs := cutV xs lo hi) ((rv.drop (HT.sIx xs.length 0 lo)).take (HT.sIx xs.length xs.length hi - HT.sIx xs.length 0 lo)) (Nat.le_trans (cutV_length xs lo hi) hz), rfl, ?_⟩
        have hp := I.hok.fresh (Nat.le_refl s.heap.objs.size)
        exact cl _ _ k _ _ (Ev.newN hp) (.tup (TupR.of upd_same (plainN _)) (Rps.mono (te_new hp) _ c)) (hs.newN hp)
  | str z =>
    cases rd with
    | str _ o l =>
      have k : Kc (.str ⟨(cutD z.cps.toList lo hi).toArray⟩) S := h
      have e : (⟨(cutD z.cps.toList lo hi).toArray⟩ : Str) = cutS z lo hi := by
        unfold cutD cutS
        have : z.cps.toList.length = z.length := by simp [Str.length]
        rw [this]
        rfl
      rw [e] at k
      refine sl_str pins s σ H _ v vl vu lo hi sl Q I rx hsl pl pu ⟨z, rfl, l, cl.self k (.str _ (okS_sub o fun c hc => ?_) (Nat.le_trans (cutS_length z lo hi) l)) hs⟩
      unfold cutS at hc
      simp only [List.toList_toArray] at hc
      exact List.mem_of_mem_drop (List.mem_of_mem_take hc)
  | ref a =>
    cases rd
    have lst_case : ∀ ds, (S a = some (.lst ds) ∨ S a = some (.rd ds)) → newL (cutD ds lo hi) S Kc → ∃ T id, typeLookup (.type T) "__getitem__" = pure (some (.builtin id)) ∧ s.TypeIs v T ∧ wpAny (model X.prog X.w) X.A (getItem v (.ref sl)) (EP X pins σ Q) X.xe s := by
      intro ds ea k
      obtain ⟨vs, q, r⟩ := hs.seq ea
      refine sl_list pins s σ H _ v vl vu lo hi sl Q I rx hsl pl pu ⟨a, vs, rfl, q, fun p hp => ?_⟩
      exact cl _ _ (k p (hs.free hp)) _ _ (Ev.new hp) (.ref _) (hs.newL hp (cut_rps r lo hi))
    have h' : (match S a with
      | some (.lst ds) => newL (cutD ds lo hi) S Kc
      | some (.rd ds) => newL (cutD ds lo hi) S Kc
      | _ => False) := h
    split at h'
    · rename_i ds ea; exact lst_case ds (.inl ea) h'
    · rename_i ds ea; exact lst_case ds (.inr ea) h'
    · exact h'.elim
  | _ => exact False.elim h

/-! ### types -/
def tyN : Ty → String
  | .int => "int"
  | .bool => "bool"
  | .str => "str"
  | .tuple => "tuple"
  | .list => "list"
theorem isTy_ok {K : PySem.W.Frag} {H : Hp} {S : SH} {d : D} {x : V} {t : Ty} {b : Bool} (hs : HR K H S) (r : Rp K H x d) (h : isTy S t d = some b) : ∃ u : Value, TyX K H x u ∧ PySem.W.kitOne K u (.type (tyN t)) = some b := by
  cases d with
  | non => cases r; cases h; exact ⟨_, .base .non, kit_ty (by cases t <;> decide +kernel)⟩
  | bl c => cases r; cases h; exact ⟨_, .base (.bl _), kit_ty (by cases t <;> decide +kernel)⟩
  | int c => cases r; cases h; exact ⟨_, .base (.int _), kit_ty (by cases t <;> decide +kernel)⟩
  | str c => cases r; cases h; exact ⟨_, .base (.str _), kit_ty (by cases t <;> decide +kernel)⟩
  | tup ds =>
    cases r with
    | tup q r =>
      cases h
      rcases q with ⟨o, q, _⟩ | ⟨o, its, n, q, c, _⟩
      · exact ⟨_, .fTuple q, kit_ty (by cases t <;> decide +kernel)⟩
      · exact ⟨_, .kTuple q c, kit_ty (by cases t <;> decide +kernel)⟩
  | ref a =>
    cases r
    have h' : (match S a with
      | some (.lst _) => some (t == .list)
      | _ => none) = some b := h
    split at h'
    · rename_i ds e
      cases h'
      obtain ⟨vs, q, _⟩ := hs.lst e
      exact ⟨_, .base (.lst q), kit_ty (by cases t <;> decide +kernel)⟩
    · cases h'

/-! ### built-ins -/
def Bf.fn : Bf → Value
  | .len => .builtin "len"
  | .tuple => .type "tuple"
  | .list => .type "list"
  | .int => .type "int"
  | .str => .type "str"
  | .abs => .builtin "abs"
  | .max => .builtin "max"
  | .min => .builtin "min"
  | .sum => .builtin "sum"
  | .all => .builtin "all"
  | .any => .builtin "any"
  | .dict => .type "dict"
theorem ints_rps {K : PySem.W.Frag} {H : Hp} : ∀ {vs : List V} {ds : List D} {ns : List Int}, Rps K H vs ds → intsD ds = some ns → vs = ns.map V.int
  | _, [], _, .nil, h => by cases h; rfl
  | _, d :: ds, ns, .cons a b, h => by
    cases d with
    | int i =>
      cases a
      have h' : (intsD ds).map (i :: ·) = some ns := h
      cases e : intsD ds with
      | none => rw [e] at h'; cases h'
      | some ms => rw [e] at h'; cases h'; rw [ints_rps b e]; rfl
    | _ => cases h
theorem bools_rps {K : PySem.W.Frag} {H : Hp} : ∀ {vs : List V} {ds : List D} {ns : List Bool}, Rps K H vs ds → boolsD ds = some ns → vs = ns.map V.bl
  | _, [], _, .nil, h => by cases h; rfl
  | _, d :: ds, ns, .cons a b, h => by
    cases d with
    | bl i =>
      cases a
      have h' : (boolsD ds).map (i :: ·) = some ns := h
      cases e : boolsD ds with
      | none => rw [e] at h'; cases h'
      | some ms => rw [e] at h'; cases h'; rw [bools_rps b e]; rfl
    | _ => cases h
theorem strs_rps {K : PySem.W.Frag} {H : Hp} : ∀ {vs : List V} {ds : List D} {ns : List Str}, Rps K H vs ds → strsD ds = some ns → vs = ns.map V.str ∧ ∀ x ∈ ns, PyData.strOk x = true
  | _, [], _, .nil, h => by cases h; exact ⟨rfl, by simp⟩
  | _, d :: ds, ns, .cons a b, h => by
    cases d with
    | str i =>
      cases a with
      | str _ o l =>
        have h' : (strsD ds).map (i :: ·) = some ns := h
        cases e : strsD ds with
        | none => rw [e] at h'; cases h'
        | some ms =>
          rw [e] at h'; cases h'
          obtain ⟨h1, h2⟩ := strs_rps b e
          rw [h1]
          exact ⟨rfl, fun x hx => by
            rcases List.mem_cons.mp hx with rfl | hx
            · exact o
            · exact h2 x hx⟩
    | _ => cases h
theorem fold_max (r : List Int) : ∀ x : Int, (r.foldl (fun a b => if b > a then b else a) x ∈ x :: r) ∧ ∀ y ∈ x :: r, y ≤ r.foldl (fun a b => if b > a then b else a) x := by
  induction r with
  | nil => intro x; exact ⟨by simp, fun y h => by simp at h; simp [h]⟩
  | cons z r ih =>
    intro x
    obtain ⟨h1, h2⟩ := ih (if z > x then z else x)
    refine ⟨?_, fun y hy => ?_⟩
    · simp only [List.foldl_cons]
      rcases List.mem_cons.mp h1 with q | q
      · rw [q]; split <;> simp
      · simp [q]
    · simp only [List.foldl_cons]
      have h3 := h2 (if z > x then z else x) (by simp)
      have h4 : x ≤ if z > x then z else x := by split <;> omega
      have h5 : z ≤ if z > x then z else x := by split <;> omega
      rcases List.mem_cons.mp hy with rfl | hy
      · exact Int.le_trans h4 h3
      · rcases List.mem_cons.mp hy with rfl | hy
        · exact Int.le_trans h5 h3
        · exact h2 y (by simp [hy])
theorem fold_min (r : List Int) : ∀ x : Int, (r.foldl (fun a b => if b < a then b else a) x ∈ x :: r) ∧ ∀ y ∈ x :: r, r.foldl (fun a b => if b < a then b else a) x ≤ y := by
  induction r with
  | nil => intro x; exact ⟨by simp, fun y h => by simp at h; simp [h]⟩
  | cons z r ih =>
    intro x
    obtain ⟨h1, h2⟩ := ih (if z < x then z else x)
    refine ⟨?_, fun y hy => ?_⟩
    · simp only [List.foldl_cons]
      rcases List.mem_cons.mp h1 with q | q
      · rw [q]; split <;> simp
      · simp [q]
    · simp only [List.foldl_cons]
      have h3 := h2 (if z < x then z else x) (by simp)
      have h4 : (if z < x then z else x) ≤ x := by split <;> omega
      have h5 : (if z < x then z else x) ≤ z := by split <;> omega
      rcases List.mem_cons.mp hy with rfl | hy
      · exact Int.le_trans h3 h4
      · rcases List.mem_cons.mp hy with rfl | hy
        · exact Int.le_trans h3 h5
        · exact h2 y (by simp [hy])
theorem maxL_eq {ns : List Int} (h : ns ≠ []) {m : Int} (h1 : m ∈ ns) (h2 : ∀ y, y ∈ ns → y ≤ m) : maxL ns = m := by
  cases ns with
  | nil => exact absurd rfl h
  | cons x r =>
    obtain ⟨q1, q2⟩ := fold_max r x
    have := h2 _ q1
    have := q2 m h1
    show r.foldl _ x = m
    omega
theorem minL_eq {ns : List Int} (h : ns ≠ []) {m : Int} (h1 : m ∈ ns) (h2 : ∀ y, y ∈ ns → m ≤ y) : minL ns = m := by
  cases ns with
  | nil => exact absurd rfl h
  | cons x r =>
    obtain ⟨q1, q2⟩ := fold_min r x
    have := h2 _ q1
    have := q2 m h1
    show r.foldl _ x = m
    omega
end
end Lac
end

-- LacE.lean
section
set_option Elab.async false
set_option linter.all false
set_option maxRecDepth 100000
set_option maxHeartbeats 1000000
set_option autoImplicit false
/-! Lac, part E: built-ins and methods. -/
namespace Lac
open PySem PySem.Spec PyProof.Rows L2

section
variable {K : PySem.W.Frag} {H : Hp} {S : SH}
theorem KR.any {ws : List (Key × V)} {kvs : List (Key × D)} (r : KR K H ws kvs) (k : Key) : (ws.any fun kv => decide (kv.1 = k)) = kvs.any fun kv => decide (kv.1 = k) := by
  induction r with
  | nil => rfl
  | @cons p q ps qs hpq r ih => rw [List.any_cons, List.any_cons, hpq.1, ih]
theorem KR.app {ws ws' : List (Key × V)} {kvs kvs' : List (Key × D)} (r : KR K H ws kvs) (q : KR K H ws' kvs') : KR K H (ws ++ ws') (kvs ++ kvs') := by
  induction r with
  | nil => exact q
  | cons h r ih => exact .cons h ih
theorem KR.put {ws : List (Key × V)} {kvs : List (Key × D)} (r : KR K H ws kvs) (k : Key) {v : V} {d : D} (q : Rp K H v d) : KR K H (putK ws k v) (putD kvs k d) := by
  unfold putK putD
  rw [r.any k]
  split
  · induction r with
    | nil => exact .nil
    | @cons p q' ps qs hpq r ih =>
      refine .cons ?_ ?_
      · obtain ⟨e1, e2⟩ := hpq
        by_cases hk : q'.1 = k
        · simp only [e1, hk, if_true]; exact ⟨by first | trivial | rfl, q⟩
        · simp only [e1, hk, if_false]; exact ⟨by first | trivial | exact e1, e2⟩
      · rename_i h
        clear h ih
        induction r with
        | nil => exact .nil
        | @cons p2 q2 ps2 qs2 hpq2 r2 ih2 =>
          refine .cons ?_ ih2
          obtain ⟨e1, e2⟩ := hpq2
          by_cases hk : q2.1 = k
          · simp only [e1, hk, if_true]; exact ⟨by first | trivial | rfl, q⟩
          · simp only [e1, hk, if_false]; exact ⟨by first | trivial | exact e1, e2⟩
  · exact r.app (.cons ⟨rfl, q⟩ .nil)
theorem KR.merge {more : List (Key × V)} {moreD : List (Key × D)} (r : KR K H more moreD) : ∀ {ws : List (Key × V)} {kvs : List (Key × D)}, KR K H ws kvs → KR K H (mergeK ws more) (mergeD kvs moreD) := by
  induction r with
  | nil => intro ws kvs q; exact q
  | @cons p q ps qs hpq r ih =>
    intro ws kvs z
    show KR K H (mergeK (putK ws p.1 p.2) ps) (mergeD (putD kvs q.1 q.2) qs)
    rw [hpq.1]
    exact ih (z.put q.1 hpq.2)
theorem pairs_rps : ∀ {vs : List V} {ds : List D} {kvs : List (Key × D)}, Rps K H vs ds → pairsD ds = some kvs →
    ∃ (ps : List Addr) (ws : List (Key × V)), vs = ps.map V.ref ∧ Paired (fun p kv => SqT K H p [kV kv.1, kv.2]) ps ws ∧ KR K H ws kvs
  | _, [], _, .nil, h => by cases h; exact ⟨[], [], rfl, .nil, .nil⟩
  | _, d :: ds, kvs, .cons a b, h => by
    cases d with
    | tup es =>
      match es, a, h with
      | [k, v], a, h =>
        have h' : (match keyD k, pairsD ds with
          | some k, some r => some ((k, v) :: r)
          | _, _ => none) = some kvs := h
        split at h'
        · rename_i k' r ek er
          cases h'
          obtain ⟨ps, ws, e1, e2, e3⟩ := pairs_rps b er
          cases a with
          | @tup p xs _ q r =>
            cases r with
            | @cons x xs' _ _ r1 r2 =>
              cases r2 with
              | @cons y ys _ _ r3 r4 =>
                cases r4
                have hx : x = kV k' := key_rp ek r1
                subst hx
                exact ⟨p :: ps, (k', y) :: ws, by rw [e1]; rfl, .cons q.sq e2, .cons ⟨rfl, r3⟩ e3⟩
        · cases h'
      | [], _, h => cases h
      | [_], _, h => cases h
      | _ :: _ :: _ :: _, _, h => cases h
    | _ => cases h
end
section
variable {X : Cx}
/-- a built-in's call on a list that stands in the heap (tracked by the small heap or not) -/
theorem bfL_core (hc : X.calm = true) {pins : List (Addr × Obj)} {s : Shared} {σ : L2.St} {H : Hp} {Q : VK} {S : SH} {Kc : KD} {a : Addr} {vs : List V} {ds : List D} (f : Bf) (I : Inv X pins σ H s) (hq : SqL X.K H a vs) (r : Rps X.K H vs ds) (hs : HR X.K H S)
    (h : dBfL f ds S Kc) (cl : Cl X.K H S Kc Q) : wpAny (model X.prog X.w) X.A (call f.fn [.ref a]) (EP X pins σ Q) X.xe s := by
  have rv : Vals [V.ref a] [Value.ref a] := .cons rfl .nil
  cases f with
  | len => exact call_len_seq pins s σ H _ _ Q I rv ⟨a, vs, rfl, .inl hq, by rw [r.length]; exact cl.self h (.int _) hs⟩
  | tuple =>
    obtain ⟨its, r', pl, hz⟩ := I.list hq
    have hlen := r'.length
    refine call_tuple_list pl.isList (fun h' kp => ?_) (by simp only [List.size_toArray] <;> omega)
    have I1 : Inv X pins σ H { s with heap := h' } := I.kept (t' := s.toks) kp
    have hp := I1.hok.fresh (Nat.le_refl h'.objs.size)
    exact ⟨.ref h'.objs.size, _, laidT I1 r' hz, rfl, cl _ _ h _ _ (Ev.newN hp) (.tup (TupR.of upd_same (plainN _)) (Rps.mono (te_new hp) _ r)) (hs.newN hp)⟩
  | list => exact call_list_of pins s σ H _ _ Q I rv ⟨a, vs, rfl, .inl hq, fun p hp => cl _ _ (h p (hs.free hp)) _ _ (Ev.new hp) (.ref _) (hs.newL hp r)⟩
  | max =>
    unfold dBfL at h
    simp only at h
    split at h
    · rename_i ns e
      rw [ints_rps r e] at hq
      exact cr_max hc pins s σ H _ _ Q I rv ⟨a, ns, rfl, hq, List.length_pos_iff.mpr h.1, fun m h1 h2 => by rw [← maxL_eq h.1 h1 h2]; exact cl.self h.2 (.int _) hs⟩
    · exact h.elim
  | min =>
    unfold dBfL at h
    simp only at h
    split at h
    · rename_i ns e
      rw [ints_rps r e] at hq
      exact cr_min hc pins s σ H _ _ Q I rv ⟨a, ns, rfl, hq, List.length_pos_iff.mpr h.1, fun m h1 h2 => by rw [← minL_eq h.1 h1 h2]; exact cl.self h.2 (.int _) hs⟩
    · exact h.elim
  | sum =>
    unfold dBfL at h
    simp only at h
    split at h
    · rename_i ns e
      rw [ints_rps r e] at hq
      exact cr_sum hc pins s σ H _ _ Q I rv ⟨a, ns, rfl, hq, cl.self h (.int _) hs⟩
    · exact h.elim
  | all =>
    unfold dBfL at h
    simp only at h
    split at h
    · rename_i ns e
      rw [bools_rps r e] at hq
      exact cr_all hc pins s σ H _ _ Q I rv ⟨a, ns, rfl, hq, cl.self h (.bl _) hs⟩
    · exact h.elim
  | any =>
    unfold dBfL at h
    simp only at h
    split at h
    · rename_i ns e
      rw [bools_rps r e] at hq
      exact cr_any hc pins s σ H _ _ Q I rv ⟨a, ns, rfl, hq, cl.self h (.bl _) hs⟩
    · exact h.elim
  | dict =>
    unfold dBfL at h
    simp only at h
    split at h
    · rename_i kvs e
      obtain ⟨ps, ws, e1, e2, e3⟩ := pairs_rps r e
      rw [e1] at hq
      refine call_dictP hc pins s σ H _ _ Q I rv ⟨a, ps, ws, rfl, hq, e2, fun p hp => ?_⟩
      exact cl _ _ (h p (hs.free hp)) _ _ (Ev.new hp) (.ref _) (hs.put (te_new hp) ⟨_, upd_same, KR.mono (te_new hp) (KR.merge e3 .nil)⟩)
    · exact h.elim
  | _ => exact False.elim h
/-- dict(t), t a tuple of pairs -/
theorem dict_tup (hc : X.calm = true) {pins : List (Addr × Obj)} {s : Shared} {σ : L2.St} {H : Hp} {Q : VK} {a : Addr} {ps : List Addr} {ws : List (Key × V)} (I : Inv X pins σ H s) (hq : TupR X.K H a (ps.map V.ref)) (hp : Paired (fun p kv => SqT X.K H p [kV kv.1, kv.2]) ps ws)
    (q : ∀ p, H p = none → Q (.ref p) (upd H p (.dK (mergeK [] ws)))) : wpAny (model X.prog X.w) X.A (call (.type "dict") [.ref a]) (EP X pins σ Q) X.xe s := by
  obtain ⟨o, its, n, ho, hcl, ⟨hd, _⟩, hdat, rv, hz⟩ := tup_at I hq
  have ei := refs_at rv
  subst ei
  rw [List.length_map] at hz
  obtain ⟨prs, rel, hl, hpr⟩ := pairs_of I hp
  -- the pairs as values
  have ex : ∀ j : Nat, ∃ u : Value, ∀ q : Key × Value, prs[j]? = some q → ∃ b, ps[j]? = some b ∧ IsTup s.heap b #[u, q.2] ∧ keyIs q.1 u = true := fun j => by
    cases e : prs[j]? with
    | none => exact ⟨.none, fun q z => by cases z⟩
    | some q =>
      obtain ⟨b, u, e1, e2, e3⟩ := hpr j q e
      exact ⟨u, fun q' z => by cases z; exact ⟨b, e1, e2, e3⟩⟩
  let us : Nat → Value := fun j => Classical.choose (ex j)
  have hus : ∀ (j : Nat) (q : Key × Value), prs[j]? = some q → ∃ b, ps[j]? = some b ∧ IsTup s.heap b #[us j, q.2] ∧ keyIs q.1 (us j) = true := fun j => Classical.choose_spec (ex j)
  let vps : List (Value × Value) := (List.range prs.length).map fun j => (us j, ((prs[j]?).map (·.2)).getD .none)
  have vat : ∀ j k v, vps[j]? = some (k, v) → ∃ q, prs[j]? = some q ∧ k = us j ∧ v = q.2 := fun j k v e => by
    have hj : j < prs.length := by
      have := (List.getElem?_eq_some_iff.mp e).1
      simpa [vps] using this
    refine ⟨prs[j], by simp [hj], ?_⟩
    simp only [vps, List.getElem?_map, List.getElem?_range hj, Option.map_some, Option.some.injEq, Prod.mk.injEq] at e
    refine ⟨e.1.symm, ?_⟩
    rw [← e.2]
    simp [hj]
  have vlen : vps.length = prs.length := by simp [vps]
  have P := PySem.PairArg.tuple (prog := X.prog) (w := X.w) a (ps.map Value.ref).toArray (fun j => (ps[j]?).getD 0) vps
  refine PySem.call_dict_pairs (knd := mixKind X.prog X.w) (kvs := prs) P (I.ok.hd hc) ⟨⟨o, n, ho, hcl, hd, hdat⟩, ?_, ?_⟩ ⟨vlen.symm, ?_⟩ (by rw [vlen, hl]; exact hz) fun h' tk hd' k => ?_
  · simp [vlen, hl]
  · intro j k v e
    obtain ⟨q', e1, e2, e3⟩ := vat j k v e
    obtain ⟨b, e4, e5, _⟩ := hus j q' e1
    subst e2 e3
    refine ⟨by simp [e4], .inl ?_⟩
    show s.heap.IsTuple ((ps[j]?).getD 0) _
    rw [e4]
    exact e5
  · intro j k v e
    obtain ⟨q', e1, e2, e3⟩ := vat j k v e
    obtain ⟨b, e4, e5, e6⟩ := hus j q' e1
    subst e2 e3
    exact ⟨q'.1, e1, e6⟩
  · have hm : (s.heap.objs.size == sysModules) = false := beq_eq_false_iff_ne.mpr (Nat.ne_of_gt I.big)
    have hlen : (mergeK [] ws).length ≤ sizeLine := by
      refine Nat.le_trans (length_mergeK ws []) ?_
      rw [List.length_nil, Nat.zero_add, rel.length, hl]
      exact hz
    exact ⟨.ref s.heap.objs.size, upd H s.heap.objs.size (.dK (mergeK [] ws)), I.laid (t' := tk) (fun b o e => k b o (by simp) e) (Nat.le_refl _) (show ObjOk X.prog X.w _ _ _ (.dK (mergeK [] ws)) from ⟨hlen, hm, merged [] prs, KV.merge rel .nil, hd'⟩), rfl, q _ (I.hok.fresh (Nat.le_refl _))⟩
theorem vals_1 {x : V} {us : List Value} (r : Vals [x] us) : ∃ u, us = [u] ∧ RelV x u := vals1 r
theorem bf_all (hc : X.calm = true) (f : Bf) : CallR X f.fn (liftC X.K (dBf f)) := by
  intro pins s σ H xs us Q I rv ⟨ds, S, Kc, rs, hs, h, cl⟩
  have lst_case : ∀ a es, ds = [.ref a] → (S a = some (.lst es) ∨ S a = some (.rd es)) → dBfL f es S Kc → wpAny (model X.prog X.w) X.A (call f.fn us) (EP X pins σ Q) X.xe s := by
    intro a es e ea k
    subst e
    cases rs with
    | cons a1 a2 =>
      cases a1; cases a2
      rw [Vals.ref1 rv]
      obtain ⟨vs, q, r⟩ := hs.seq ea
      exact bfL_core hc f I q r hs k cl
  have tup_case : ∀ es, ds = [.tup es] → (f = .len ∨ f = .tuple ∨ f = .list ∨ f = .dict) → dBfL f es S Kc → wpAny (model X.prog X.w) X.A (call f.fn us) (EP X pins σ Q) X.xe s := by
    intro es e hf k
    subst e
    cases rs with
    | cons a1 a2 =>
      cases a2
      cases a1 with
      | @tup a vs _ q r =>
        rcases hf with rfl | rfl | rfl | rfl
        · exact call_len_seq pins s σ H _ _ Q I rv ⟨a, vs, rfl, .inr q.sq, by rw [r.length]; exact cl.self k (.int _) hs⟩
        · exact call_tupleT pins s σ H _ _ Q I rv ⟨a, vs, rfl, q.sq, cl.self k (.tup q r) hs⟩
        · exact call_list_of pins s σ H _ _ Q I rv ⟨a, vs, rfl, .inr q.sq, fun p hp => cl _ _ (k p (hs.free hp)) _ _ (Ev.new hp) (.ref _) (hs.newL hp r)⟩
        · unfold dBfL at k
          simp only at k
          split at k
          · rename_i kvs e
            obtain ⟨ps, ws, e1, e2, e3⟩ := pairs_rps r e
            rw [e1] at q
            rw [Vals.ref1 rv]
            refine dict_tup hc I q e2 fun p hp => ?_
            exact cl _ _ (k p (hs.free hp)) _ _ (Ev.new hp) (.ref _) (hs.put (te_new hp) ⟨_, upd_same, KR.mono (te_new hp) (KR.merge e3 .nil)⟩)
          · exact k.elim
  unfold dBf at h
  split at h
  · cases rs with
    | cons a1 a2 => cases a1; cases a2; exact call_int1 pins s σ H _ _ Q I rv (.inl ⟨_, rfl, cl.self h (.int _) hs⟩)
  · cases rs with
    | cons a1 a2 => cases a1; cases a2; exact call_int1 pins s σ H _ _ Q I rv (.inr ⟨_, rfl, cl.self h (.int _) hs⟩)
  · cases rs with
    | cons a1 a2 => cases a1; cases a2; exact call_str_int pins s σ H _ _ Q I rv ⟨_, rfl, h.1.1, cl.self h.2 (.str _ h.1.2.1 h.1.2.2) hs⟩
  · cases rs with
    | cons a1 a2 => cases a1; cases a2; exact call_abs pins s σ H _ _ Q I rv ⟨_, rfl, cl.self h (.int _) hs⟩
  · cases rs with
    | cons a1 a2 => cases a1; cases a2 with
      | cons a1 a2 => cases a1; cases a2; exact call_max2 hc pins s σ H _ _ Q I rv ⟨_, _, rfl, cl.self h (.int _) hs⟩
  · cases rs with
    | cons a1 a2 => cases a1; cases a2 with
      | cons a1 a2 => cases a1; cases a2; exact call_min2 hc pins s σ H _ _ Q I rv ⟨_, _, rfl, cl.self h (.int _) hs⟩
  · cases rs with
    | cons a1 a2 => cases a2; cases a1 with
      | str _ o l => exact call_len_str pins s σ H _ _ Q I rv ⟨_, rfl, l, cl.self h (.int _) hs⟩
  · rename_i a
    split at h
    · rename_i es e; exact lst_case a es rfl (.inl e) h
    · rename_i es e; exact lst_case a es rfl (.inr e) h
    · rename_i kvs e
      cases rs with
      | cons a1 a2 =>
        cases a1; cases a2
        rw [Vals.ref1 rv]
        obtain ⟨ws, q, r⟩ := hs a _ e
        refine d_len I (.inl q) fun t s' I' => ⟨.int _, H, I', ⟨_, rfl⟩, ?_⟩
        rw [Paired.length r]
        exact cl.self h (.int _) hs
    · exact h.elim
  · rename_i es
    split at h
    · exact tup_case es rfl (.inl rfl) h
    · exact tup_case es rfl (.inr (.inl rfl)) h
    · exact tup_case es rfl (.inr (.inr (.inl rfl))) h
    · exact tup_case es rfl (.inr (.inr (.inr rfl))) h
    · exact h.elim
  · rename_i a _
    split at h
    · rename_i es e; exact lst_case a es rfl (.inl e) h
    · rename_i es e; exact lst_case a es rfl (.inr e) h
    · exact h.elim
  · exact h.elim
end
end Lac
end

-- LacF.lean
section
set_option Elab.async false
set_option linter.all false
set_option maxRecDepth 100000
set_option maxHeartbeats 1000000
set_option autoImplicit false
/-! Lac, part F: methods, stores, reversed slices. -/
namespace Lac
open PySem PySem.Spec PyProof.Rows L2
section
variable {X : Cx}
def mtId : Mt → String
  | .append => "list.append"
  | .extend => "list.extend"
  | .pop => "list.pop"
  | .get => "dict.get"
  | .join => "str.join"
  | .index => "list.index"
def mtNm : Mt → Str
  | .append => "append"
  | .extend => "extend"
  | .pop => "pop"
  | .get => "get"
  | .join => "join"
  | .index => "index"
def mtT : Mt → String
  | .get => "dict"
  | .join => "str"
  | _ => "list"
def liftM (K : PySem.W.Frag) (m : Mt) : V → List V → Hp → VK → Prop := fun x xs H Q => ∃ d ds S Kc, Rp K H x d ∧ Rps K H xs ds ∧ HR K H S ∧ dMeth m d ds S Kc ∧ Cl K H S Kc Q
theorem mtTy_ok {K : PySem.W.Frag} {H : Hp} {S : SH} {m : Mt} {d : D} {x : V} (hs : HR K H S) (r : Rp K H x d) (h : mtTy m d S) : tyV K (mtT m) x H := by
  have lst_case : ∀ a, d = .ref a → (match S a with
      | some (.lst _) => True
      | _ => False) → tyV K "list" x H := by
    intro a e k
    subst e
    cases r
    split at k
    · rename_i ds e
      obtain ⟨vs, q, _⟩ := hs.lst e
      exact .inl ⟨rfl, vs, SqL.of q⟩
    · exact k.elim
  cases m with
  | append => cases d with
    | ref a => exact lst_case a rfl h
    | _ => exact False.elim h
  | extend => cases d with
    | ref a => exact lst_case a rfl h
    | _ => exact False.elim h
  | pop => cases d with
    | ref a => exact lst_case a rfl h
    | _ => exact False.elim h
  | index => cases d with
    | ref a => exact lst_case a rfl h
    | _ => exact False.elim h
  | get => cases d with
    | ref a =>
      cases r
      have k : (match S a with
        | some (.dct _) => True
        | _ => False) := h
      split at k
      · rename_i ds e
        obtain ⟨ws, q, _⟩ := hs a _ e
        exact .inr (.inr (.inl ⟨rfl, .inl ⟨ws, q⟩⟩))
      · exact k.elim
    | _ => exact False.elim h
  | join => cases d with
    | str z => cases r; rfl
    | _ => exact False.elim h
theorem okS_join (a : Str) (ys : List Str) (ha : PyData.strOk a = true) (hy : ∀ x ∈ ys, PyData.strOk x = true) : PyData.strOk (Txt.join a ys) = true := by
  rw [show Txt.join a ys = Str.join a ys from PySem.StrLaws.glued_eq_join a ys]
  induction ys with
  | nil => show PyData.strOk Str.empty = true; decide +kernel
  | cons x r ih =>
    cases r with
    | nil => exact hy x (by simp)
    | cons z r =>
      show PyData.strOk (x ++ a ++ Str.join a (z :: r)) = true
      exact okS_app (okS_app (hy x (by simp)) ha) (ih fun w hw => hy w (List.mem_cons_of_mem _ hw))
theorem len_join (a : Str) (ys : List Str) : (Txt.join a ys).length ≤ (ys.map (·.length)).sum + ys.length * a.length := by
  rw [show Txt.join a ys = Str.join a ys from PySem.StrLaws.glued_eq_join a ys]
  induction ys with
  | nil => exact Nat.zero_le _
  | cons x r ih =>
    cases r with
    | nil =>
      show x.length ≤ _
      simp
    | cons z r =>
      show (x ++ a ++ Str.join a (z :: r)).length ≤ _
      rw [len_app, len_app]
      simp only [List.map_cons, List.sum_cons, List.length_cons, Nat.add_mul, Nat.one_mul] at ih ⊢
      omega
theorem mt_all (hu : X.A.units + 880 < cLine) (m : Mt) : MtR X (mtId m) (liftM X.K m) := by
  intro pins s σ H x xs v us Q I rx rv ⟨d, ds, S, Kc, rd, rs, hs, h, cl⟩
  cases m with
  | append =>
    match d, ds, rd, rs, h with
    | .ref a, [y], rd, rs, h =>
      cases rd
      have h' : (match S a with
        | some (.lst ds) => ds.length < sizeLine ∧ Kc .non (up S a (.lst (ds ++ [y])))
        | _ => False) := h
      split at h'
      · rename_i es e
        obtain ⟨vs, q, r⟩ := hs.lst e
        cases rs with
        | @cons w ws _ _ r1 r2 =>
          cases r2
          exact mt_append pins s σ H _ _ v us Q I rx rv ⟨a, vs, w, rfl, rfl, q, by rw [r.length]; exact h'.1,
            cl _ _ h'.2 _ _ (Ev.write (te_lst q) (by rw [e]; simp)) .non (hs.put (te_lst q) ⟨_, upd_same, Rps.mono (te_lst q) _ (r.app (.one r1))⟩)⟩
      · exact h'.elim
  | extend =>
    match d, ds, rd, rs, h with
    | .ref a, [y], rd, rs, h =>
      cases rd
      cases rs with
      | @cons w ws _ _ r1 r2 =>
        cases r2
        unfold dMeth at h
        simp only at h
        split at h
        · rename_i es e
          obtain ⟨vs, q, r⟩ := hs.lst e
          cases y with
          | tup ts =>
            obtain ⟨hz, k⟩ := h
            cases r1 with
            | @tup b ys _ q1 r1 =>
              cases rx
              obtain ⟨u, rfl, ru⟩ := rv.one
              cases ru
              obtain ⟨z, its, n, rr, hl, ea⟩ := I.lstM q
              obtain ⟨o, its2, n2, ho, hcl, ⟨hd, hsl⟩, hdat, rr2, hz2⟩ := tup_at I q1
              obtain ⟨oc, od, dt, sl⟩ := o
              simp only at hcl hd hsl hdat
              subst hcl hd hsl hdat
              have e1 := rr.length
              have e2 := rr2.length
              have e3 := r.length
              have e4 := r1.length
              have hsz : its.toArray.size + its2.toArray.size ≤ sizeLine := by rw [List.size_toArray, List.size_toArray]; omega
              have hlong : ¬ (!its.toArray.isEmpty && Builtin.List.listTooLong (its.toArray.size + its2.toArray.size)) = true := by
                rw [notLongL hsz, Bool.and_false]
                exact Bool.false_ne_true
              refine call_meets F.slot_list_extend ⟨_, ea, rfl⟩ F.entry_list_extend (F.args_list_extend_2 _ _)
                (AutoSeq1.list_extend_list_tuple_0 a its.toArray n b its2.toArray n2 hlong (by rw [List.size_toArray]; omega) (by omega)) ⟨ea, ho, ?_⟩
              refine ⟨.non, _, I.lset (its' := its ++ its2) (t' := s.toks) q ea (by simp) (rr.append rr2) ?_, rfl, ?_⟩
              · rw [List.length_append]; omega
              · exact cl _ _ k _ _ (Ev.write (te_lst q) (by rw [e]; simp)) .non (hs.put (te_lst q) ⟨_, upd_same, Rps.mono (te_lst q) _ (r.app r1)⟩)
          | ref b =>
            simp only at h
            split at h
            · rename_i ts eb
              obtain ⟨hz, k⟩ := h
              cases r1
              obtain ⟨ws, q2, r2⟩ := hs.lst eb
              exact mt_extend pins s σ H _ _ v us Q I rx rv ⟨a, b, vs, ws, rfl, rfl, q, q2, by rw [r.length, r2.length]; exact hz,
                cl _ _ k _ _ (Ev.write (te_lst q) (by rw [e]; simp)) .non (hs.put (te_lst q) ⟨_, upd_same, Rps.mono (te_lst q) _ (r.app r2)⟩)⟩
            · exact h.elim
          | _ => exact False.elim h
        · exact h.elim
  | pop =>
    match d, ds, rd, rs, h with
    | .ref a, [], rd, rs, h =>
      cases rd
      cases rs
      unfold dMeth at h
      simp only at h
      split at h
      · rename_i es e
        split at h
        · rename_i z ez
          obtain ⟨vs, q, r⟩ := hs.lst e
          have ez' : es[es.length - 1]? = some z := by rw [← List.getLast?_eq_getElem?]; exact ez
          obtain ⟨w, e1, e2⟩ := r.get ez'
          exact mt_pop pins s σ H _ _ v us Q I rx rv ⟨a, vs, w, rfl, rfl, q, by rw [r.length]; exact e1,
            cl _ _ h _ _ (Ev.write (te_lst q) (by rw [e]; simp)) (Rp.mono (te_lst q) _ e2) (hs.put (te_lst q) ⟨_, upd_same, Rps.mono (te_lst q) _ r.dropLast⟩)⟩
        · exact h.elim
      · exact h.elim
  | get =>
    match d, ds, rd, rs, h with
    | .ref a, [y], rd, rs, h =>
      cases rd
      cases rs with
      | @cons w ws _ _ r1 r2 =>
        cases r2
        unfold dMeth at h
        simp only at h
        split at h
        · rename_i kvs e
          split at h
          · rename_i k ek
            obtain ⟨ws, q, r⟩ := hs a _ e
            have hk := key_rp ek r1
            subst hk
            obtain rfl : v = Value.ref a := rx
            obtain ⟨u, rfl, ru⟩ := rv.one
            refine d_get1 (by omega) I (DGet.k q) ru fun w' s' I' rw' => ⟨_, H, I', rw', ?_⟩
            cases ev : valD kvs k with
            | some d =>
              obtain ⟨w2, e1, e2⟩ := (KR.val r k).1 d ev
              rw [e1]
              rw [ev] at h
              exact cl.self h e2 hs
            | none =>
              rw [(KR.val r k).2 ev]
              rw [ev] at h
              exact cl.self h .non hs
          · exact h.elim
        · exact h.elim
    | .ref a, [y, y2], rd, rs, h =>
      cases rd
      cases rs with
      | @cons w ws _ _ r1 r2 =>
        cases r2 with
        | @cons w2 ws _ _ r2 r3 =>
          cases r3
          unfold dMeth at h
          simp only at h
          split at h
          · rename_i kvs e
            split at h
            · rename_i k ek
              obtain ⟨ws, q, r⟩ := hs a _ e
              have hk := key_rp ek r1
              subst hk
              obtain rfl : v = Value.ref a := rx
              obtain ⟨u, u2, rfl, ru, ru2⟩ := rv.two
              refine d_get2 (by omega) I (DGet.k q) ru ru2 fun w' s' I' rw' => ⟨_, H, I', rw', ?_⟩
              cases ev : valD kvs k with
              | some d =>
                obtain ⟨w2, e1, e2⟩ := (KR.val r k).1 d ev
                rw [e1]
                rw [ev] at h
                exact cl.self h e2 hs
              | none =>
                rw [(KR.val r k).2 ev]
                rw [ev] at h
                exact cl.self h r2 hs
            · exact h.elim
          · exact h.elim
  | join =>
    match d, ds, rd, rs, h with
    | .str z, [y], rd, rs, h =>
      cases rd with
      | str _ o l =>
        cases rs with
        | @cons w ws _ _ r1 r2 =>
          cases r2
          unfold dMeth at h
          simp only at h
          split at h
          · rename_i es e
            split at h
            · rename_i ys ey
              have go : ∀ vs p, w = .ref p → Rps X.K H vs es → (SqL X.K H p vs ∨ SqT X.K H p vs) → wpAny (model X.prog X.w) X.A (call (.builtin "str.join") (v :: us)) (EP X pins σ Q) X.xe s := by
                intro vs p ew r q
                subst ew
                obtain ⟨e1, e2⟩ := strs_rps r ey
                rw [e1] at q
                refine mt_join pins s σ H _ _ v us Q I rx rv ⟨z, p, ys, rfl, rfl, q, h.1, cl.self h.2 (.str _ (okS_join z ys o e2) ?_) hs⟩
                have := len_join z ys
                rw [sizeLine_eq]
                omega
              cases y with
              | tup ts =>
                cases e
                cases r1 with
                | tup q r => exact go _ _ rfl r (.inr q.sq)
              | ref b =>
                cases r1
                have e' : (match S b with
                  | some (.lst ds) => some ds
                  | some (.rd ds) => some ds
                  | _ => none) = some es := e
                split at e'
                · rename_i ts eb; cases e'; obtain ⟨vs, q, r⟩ := hs.seq (.inl eb); exact go vs b rfl r (.inl q)
                · rename_i ts eb; cases e'; obtain ⟨vs, q, r⟩ := hs.seq (.inr eb); exact go vs b rfl r (.inl q)
                · cases e'
              | _ => cases e
            · exact h.elim
          · exact h.elim
  | index => cases d <;> exact False.elim h
/-! ### o[i] = v -/
def liftPut (K : PySem.W.Frag) : TSet := fun o i v H Q => ∃ od id d S, ∃ Kc : SH → Prop, Rp K H o od ∧ Rp K H i id ∧ Rp K H v d ∧ HR K H S ∧ dPut od id d S Kc ∧ ∀ S', Kc S' → ∀ H', Ev K H H' S S' → HR K H' S' → Q H'
theorem set_all (hu : X.A.units + 880 < cLine) : PSet X (liftPut X.K) := by
  intro pins s σ H o i v ov iv u Q I ro ri rv ⟨od, id, d, S, Kc, r1, r2, r3, hs, h, cl⟩
  cases od with
  | ref a =>
    cases r1
    unfold dPut at h
    simp only at h
    split at h
    · rename_i ds k e
      split at h
      · rename_i j ej
        cases r2
        obtain ⟨vs, q, r⟩ := hs.lst e
        exact set_list pins s σ H _ _ _ ov iv u Q I ro ri rv ⟨a, vs, k, j, rfl, rfl, q, by rw [r.length]; exact ej,
          cl _ h _ (Ev.write (te_lst q) (by rw [e]; simp)) (hs.put (te_lst q) ⟨_, upd_same, Rps.mono (te_lst q) _ (r.set j r3)⟩)⟩
      · exact h.elim
    · rename_i kvs e
      split at h
      · rename_i k ek
        obtain ⟨ws, q, r⟩ := hs a _ e
        have hk := key_rp ek r2
        subst hk
        refine set_dict (by omega) pins s σ H _ _ _ ov iv u Q I ro ri rv ⟨a, _, rfl, DPut.k q (by rw [Paired.length r]; exact h.1), ?_⟩
        exact cl _ h.2 _ (Ev.write (te_dK q) (by rw [e]; simp)) (hs.put (te_dK q) ⟨_, upd_same, KR.mono (te_dK q) (r.put k r3)⟩)
      · exact h.elim
    · exact h.elim
  | _ => exact False.elim h

/-! ### x[::-1] -/
theorem sliceApplied_rev {prog : Program} {w : World} {A : Around} {E : Value → Shared → Prop} {s : Shared} {sl : Addr} {vs : Value} {n : Nat} {Q : Int × Int × Nat → Shared → Prop} (hs : s.heap.IsSliceOf sl .none .none vs) (ps : IsPart vs (some (-1)))
    (h : Q ((n : Int) - 1, -1, n) s) : wpAny (model prog w) A (Builtin.Slice.sliceApplied (.ref sl) (pure (n : Int))) Q E s := by
  obtain ⟨os, hos, hcs, hds⟩ := id hs
  unfold Builtin.Slice.sliceApplied Builtin.Slice.sliceFields
  refine wpAny_bind (wpAny_bind (wpAny_field hos hds (x := .none) rfl (wpAny_bind (wpAny_field hos hds (x := .none) rfl (wpAny_bind (wpAny_field hos hds (x := vs) rfl (wpAny_pure ?_)))))))
  refine wpAny_bind (HT.slicePart_ ps ?_)
  show wpAny _ _ (if ((-1 : Int) == 0) = true then _ else _) _ _ s
  rw [if_neg (by decide)]
  refine wpAny_bind (slicePart_none (wpAny_bind (slicePart_none (wpAny_bind (wpAny_pure ?_)))))
  have e1 : Builtin.Slice.sliceAdjust none none (-1) (n : Int) = ((n : Int) - 1, -1) := by
    unfold Builtin.Slice.sliceAdjust
    simp
  have e2 : Builtin.Slice.slicePlaces ((n : Int) - 1) (-1) (-1) = n := by
    unfold Builtin.Slice.slicePlaces
    simp
    omega
  show wpAny _ _ (match Builtin.Slice.sliceAdjust none none (-1) (n : Int) with | (lo, hi) => pure (lo, (-1 : Int), Builtin.Slice.slicePlaces lo hi (-1))) _ _ s
  rw [e1]
  show wpAny _ _ (pure (((n : Int) - 1), (-1 : Int), Builtin.Slice.slicePlaces ((n : Int) - 1) (-1) (-1))) _ _ s
  rw [e2]
  exact wpAny_pure h
theorem fm_congr {α β : Type} {f g : α → Option β} : ∀ l : List α, (∀ x ∈ l, f x = g x) → l.filterMap f = l.filterMap g
  | [], _ => rfl
  | x :: r, h => by
    have e := fm_congr r fun y hy => h y (List.mem_cons_of_mem _ hy)
    simp only [List.filterMap_cons, h x List.mem_cons_self, e]
theorem fm_range {α : Type} : ∀ l : List α, (List.range l.length).filterMap (fun i => l[i]?) = l
  | [] => rfl
  | x :: r => by
    rw [List.length_cons, List.range_succ_eq_map, List.filterMap_cons, List.filterMap_map]
    have e : ((fun i => (x :: r)[i]?) ∘ Nat.succ) = fun i => r[i]? := by
      funext i
      simp
    rw [e, fm_range r]
    rfl
theorem pick_rev (xs : Array Value) : ((List.range xs.size).filterMap fun (m : Nat) => xs[((xs.size : Int) - 1 + (m : Int) * (-1)).toNat]?).toArray = xs.toList.reverse.toArray := by
  have e : (List.range xs.size).filterMap (fun (m : Nat) => xs[((xs.size : Int) - 1 + (m : Int) * (-1)).toNat]?) = xs.toList.reverse := by
    have h : ∀ m, m < xs.size → xs[((xs.size : Int) - 1 + (m : Int) * (-1)).toNat]? = xs.toList.reverse[m]? := fun m hm => by
      rw [List.getElem?_reverse (by simpa using hm)]
      have : ((xs.size : Int) - 1 + (m : Int) * (-1)).toNat = xs.toList.length - 1 - m := by simp; omega
      rw [this, Array.getElem?_toList]
    rw [fm_congr (g := fun m => xs.toList.reverse[m]?) _ fun m hm => h m (List.mem_range.mp hm)]
    have hl : xs.size = xs.toList.reverse.length := by simp
    rw [hl]
    exact fm_range _
  rw [e]
theorem getItem_tuple_rev {prog : Program} {w : World} {A : Around} {E : Value → Shared → Prop} {s : Shared} {t sl : Addr} {items : Array Value} {vs : Value} {Q : Value → Shared → Prop} (ht : IsTup s.heap t items) (hs : s.heap.IsSliceOf sl .none .none vs) (ps : IsPart vs (some (-1)))
    (h : Q (.ref s.heap.objs.size) { s with heap := s.heap.push (tupN items.toList.reverse) })
    (hsz : items.size ≤ sizeLine) : wpAny (model prog w) A (getItem (.ref t) (.ref sl)) Q E s := by
  have htake : sizeOk (.seq items.toList.reverse.toArray) := by
    show items.toList.reverse.toArray.size ≤ sizeLine
    simpa using hsz
  obtain ⟨os, hos, hcs, hds⟩ := id hs
  have hTs : s.TypeIs (.ref sl) "slice" := ⟨os, hos, hcs⟩
  unfold getItem
  try with_reducible refine wpAny_holding ?_
  first | refine wpAny_bind (wpAny_pure ?_) | skip
  refine wpAny_bind (wpAny_sequenceKey ht.typeIs (by decide) ?_)
  refine wpAny_bind (wpAny_callSpecial?_slot (name := Str.ofString "__getitem__") ht.typeIs PyProof.Rows.slot_tuple_getitem
    (wpAny_call_entry PyProof.Rows.slot_tuple_getitem ht.typeIs entry_tuple_getitem ?_ (args_tuple_getitem _ _)))
  show wpAny _ _ (Builtin.Tuple.tupleItemsOf (.ref t) >>= _) _ _ s
  refine wpAny_bind (tupleItemsOf_ ht ?_)
  refine wpAny_bind (wpAny_typeOf hTs ?_)
  rw [if_pos (by decide)]
  refine wpAny_bind (sliceApplied_rev hs ps ?_)
  have hno : ¬ ((((items.size : Int) - 1) == 0 && (-1 : Int) == 1 && items.size == items.size) = true) := by simp
  show wpAny _ _ (if (((items.size : Int) - 1) == 0 && (-1 : Int) == 1 && items.size == items.size) = true then _ else _) _ _ s
  rw [if_neg hno, pick_rev]
  first
    | exact wpAny_bind (m := Builtin.Tuple.tupleExact _) (wpAny_newObj_type (wpAny_pure ⟨_, rfl, wpAny_pure h⟩) htake)
    | exact wpAny_bind (m := Builtin.Tuple.tupleExact _) (wpAny_newObj_type (wpAny_bind (wpAny_pure (wpAny_pure ⟨_, rfl, wpAny_pure h⟩))) htake)
    | exact wpAny_bind (wpAny_bind (m := Builtin.Tuple.tupleExact _) (wpAny_newObj_type (wpAny_pure (wpAny_pure ⟨_, rfl, wpAny_pure h⟩)) htake))
    | exact wpAny_bind (wpAny_bind (m := Builtin.Tuple.tupleExact _) (wpAny_newObj_type (wpAny_pure ⟨_, rfl, wpAny_pure h⟩) htake))
def tRevA (K : PySem.W.Frag) (te : TE) : TE := fun σ H Q => te σ H fun x H1 => ∃ a xs, x = .ref a ∧ ((SqL K H1 a xs ∧ ∀ p, H1 p = none → Q (.ref p) (upd H1 p (.lst xs.reverse))) ∨ (TupR K H1 a xs ∧ NewT H1 xs.reverse Q))
theorem pe_revA {e : Expr} {te : TE} {k : Nat} {p1 p2 p3 pos : Pos} (he : PE X e te) : PE X (.Subscript e (.Slice none none (some (.UnaryOp .USub (.Constant (.int 1) k p1) p2)) p3) pos) (tRevA X.K te) := by
  refine ⟨fun pins s σ H Q I h => ?_⟩
  refine Subscript_ (thn (he.run pins s σ H _ I h) fun v s1 ⟨x, H1, I1, r1, q1⟩ => ?_)
  obtain ⟨a, xs, ex, q1⟩ := q1
  subst ex
  cases r1
  have hst : PO X (some (.UnaryOp .USub (.Constant (.int 1) k p1) p2)) (tPart (tUn (rU fun i => .int (-i)) (tC (.int 1)))) := po_some (pe_un un_neg pe_int)
  refine wpAny_Slice (thn (po_none.run pins s1 σ H1 (fun o H2 => o = none ∧ H2 = H1) I1 ⟨rfl, rfl⟩) fun vl s2 ⟨l, H2, I2, pl, el, e2⟩ => ?_)
  subst el e2
  refine thn (po_none.run pins s2 σ H2 (fun o H3 => o = none ∧ H3 = H2) I2 ⟨rfl, rfl⟩) fun vu s3 ⟨u, H3, I3, pu, eu, e3⟩ => ?_
  subst eu e3
  refine thn (hst.run pins s3 σ H3 (fun o H4 => o = some (-1) ∧ H4 = H3) I3 ⟨1, rfl, -1, rfl, rfl, rfl⟩) fun vs s4 ⟨o, H4, I4, ps, eo, e4⟩ => ?_
  subst eo e4
  have I5 : Inv X pins σ H4 { s4 with heap := s4.heap.push { cls := .type "slice", data := .fields #[vl, vu, vs] } } := I4.kept (t' := s4.toks) fun b ob q => Heap.get?_push_of_some _ q
  show wpAny (model X.prog X.w) X.A (subscriptTail e (.Slice none none (some (.UnaryOp .USub (.Constant (.int 1) k p1) p2)) p3) (.ref a) (.ref s4.heap.objs.size)) (EP X pins σ Q) X.xe { s4 with heap := s4.heap.push { cls := .type "slice", data := .fields #[vl, vu, vs] } }
  rcases q1 with ⟨hx, q⟩ | ⟨hx, q⟩
  · obtain ⟨its, r, ht, hz⟩ := I5.list hx
    have hlen := r.length
    refine tail_any (ops := [.ref a, .ref s4.heap.objs.size]) ht.isList.typeIs (PySem.slot_list_getitem.lookup) ?_ (by with_unfolding_all rfl)
    refine wpAny_getItem_list_slice ht.isList (Heap.IsSliceOf.new _ vl vu vs) pl pu ps (by decide) ?_ (by rw [List.size_toArray]; omega)
    rw [PySem.W.krv_pick]
    refine ⟨.ref _, _, I5.laid (t' := s4.toks) (o := .lst xs.reverse) (fun b ob q => Heap.get?_push_of_some _ q) (Nat.le_refl _) ?_, rfl, q _ (I5.hok.fresh (Nat.le_refl _))⟩
    exact ⟨by rw [List.length_reverse]; exact hz, _, 0, r.reverse, Heap.get?_push_size _ rfl⟩
  · obtain ⟨its, r, ht, hz⟩ := I5.tuple hx.sq
    have hlen := r.length
    refine tail_any (ops := [.ref a, .ref s4.heap.objs.size]) ht.typeIs (PyProof.Rows.slot_tuple_getitem.lookup) ?_ (by with_unfolding_all rfl)
    have evl : vl = .none := by cases pl; rfl
    have evu : vu = .none := by cases pu; rfl
    subst evl evu
    refine getItem_tuple_rev ht (Heap.IsSliceOf.new _ .none .none vs) ps ?_ (by rw [List.size_toArray]; omega)
    exact ⟨.ref _, _, laidT I5 (xs := xs.reverse) (its := its.reverse) r.reverse (by rw [List.length_reverse]; exact hz), rfl, q _ _ (I5.hok.fresh (Nat.le_refl _)) (plainN _)⟩
end
end Lac
end

-- LacG.lean
section
set_option Elab.async false
set_option linter.all false
set_option maxRecDepth 100000
set_option maxHeartbeats 1000000
set_option autoImplicit false
/-! Lac, part G: what is walked. -/
namespace Lac
open PySem PySem.Spec PyProof.Rows L2

/-- items that a walk gives, told by data; hold: what must stand -/
structure WalkD (K : PySem.W.Frag) (H0 : Hp) (J : It) (items : List D) (hold : SH → Prop) : Prop where
  goes : ∀ i H S, i < items.length → TE' K H0 H → HR K H S → hold S → J.go i H
  stops : ∀ H S, TE' K H0 H → HR K H S → hold S → J.stop items.length H
  yields : ∀ i H S x H', i < items.length → TE' K H0 H → HR K H S → hold S → J.yld i H x H' →
    ∃ d, items[i]? = some d ∧ Rp K H' x d ∧ Ev K H H' S S ∧ HR K H' S ∧ (∀ a o, H a = some o → H' a = some o)
section
variable {K : PySem.W.Frag} {H0 : Hp}
theorem wd_list {a : Addr} {ds : List D} {S0 : SH} (h : S0 a = some (.lst ds) ∨ S0 a = some (.rd ds)) : WalkD K H0 (Itl K a) ds (fun S => S a = S0 a) := by
  have key : ∀ {H : Hp} {S : SH}, HR K H S → S a = S0 a → ∃ vs, SqL K H a vs ∧ Rps K H vs ds := fun {H S} r e => r.seq (by rw [e]; exact h)
  refine ⟨fun i H S hi _ r e => ?_, fun H S _ r e => ?_, fun i H S x H' hi _ r e y => ?_⟩
  · obtain ⟨vs, q, z⟩ := key r e
    obtain ⟨v, e1, _⟩ := z.get (List.getElem?_eq_getElem hi)
    exact ⟨vs, v, q, e1⟩
  · obtain ⟨vs, q, z⟩ := key r e
    exact ⟨vs, q, by rw [z.length]; exact Nat.le_refl _⟩
  · obtain ⟨vs, q, z⟩ := key r e
    obtain ⟨rfl, y⟩ := y
    obtain ⟨d, e1, e2⟩ := z.mem (y vs q)
    exact ⟨d, e1, e2, Ev.refl, r, fun _ _ z => z⟩
theorem wd_tup {a : Addr} {ds : List D} {xs : List V} (q : TupR K H0 a xs) (z : Rps K H0 xs ds) : WalkD K H0 (Itt K a) ds (fun _ => True) := by
  refine ⟨fun i H S hi t r _ => ?_, fun H S t r _ => ?_, fun i H S x H' hi t r _ y => ?_⟩
  · obtain ⟨v, e1, _⟩ := z.get (List.getElem?_eq_getElem hi)
    exact ⟨xs, v, (t _ _ q).sq, e1⟩
  · exact ⟨xs, (t _ _ q).sq, by rw [z.length]; exact Nat.le_refl _⟩
  · obtain ⟨rfl, y⟩ := y
    obtain ⟨d, e1, e2⟩ := z.mem (y xs (t _ _ q).sq)
    exact ⟨d, e1, Rp.mono t _ e2, Ev.refl, r, fun _ _ z => z⟩
theorem wd_str {z : Str} (o : PyData.strOk z = true) : WalkD K H0 (Its z) (z.cps.toList.map fun c => .str ⟨#[c]⟩) (fun _ => True) := by
  refine ⟨fun i H S hi t r _ => ?_, fun H S t r _ => ?_, fun i H S x H' hi t r _ y => ?_⟩
  · show i < _
    simpa using hi
  · show z.cps.size ≤ _
    simp
  · obtain ⟨rfl, c, e, rfl⟩ := y
    refine ⟨.str ⟨#[c]⟩, by simp [e], .str _ (okS_char c (okS_mem o ?_)) one_le_line, Ev.refl, r, fun _ _ z => z⟩
    exact List.mem_of_getElem? (by rw [Array.getElem?_toList]; exact e)
theorem wd_range {lo : Int} {n : Nat} : WalkD K H0 (Itr lo n) (rangeD lo n) (fun _ => True) := by
  refine ⟨fun i H S hi t r _ => ?_, fun H S t r _ => ?_, fun i H S x H' hi t r _ y => ?_⟩
  · show i < _
    simpa [rangeD] using hi
  · show n ≤ _
    simp [rangeD]
  · obtain ⟨rfl, rfl⟩ := y
    have hn : i < n := by simpa [rangeD] using hi
    exact ⟨.int (lo + i), by simp [rangeD, hn], .int _, Ev.refl, r, fun _ _ z => z⟩
theorem enumD_get : ∀ (xs : List D) (k i : Nat) (d : D), xs[i]? = some d → (enumD k xs)[i]? = some (.tup [.int ((k + i : Nat) : Int), d])
  | [], _, _, _, h => by simp at h
  | x :: r, k, 0, d, h => by simp at h; subst h; simp [enumD]
  | x :: r, k, i + 1, d, h => by
    have := enumD_get r (k + 1) i d (by simpa using h)
    simp only [enumD, List.getElem?_cons_succ, this]
    rw [show k + 1 + i = k + (i + 1) by omega]
theorem enumD_length : ∀ (xs : List D) (k : Nat), (enumD k xs).length = xs.length
  | [], _ => rfl
  | x :: r, k => by simp [enumD, enumD_length r (k + 1)]
/-- the items of a sequence in new pairs with their numbers: R tells the sequence -/
def ItE (R : Hp → List V → Prop) : It :=
  ⟨fun i H => ∃ (xs : List V) (x : V), R H xs ∧ xs[i]? = some x, fun i H v H' => ∃ T x o, v = .ref T ∧ H T = none ∧ PlainT o ∧ H' = upd H T (.frz o (.tup [.int (i : Nat), x])) ∧ ∀ xs, R H xs → xs[i]? = some x, fun i H => ∃ xs : List V, R H xs ∧ xs.length ≤ i⟩
theorem wd_enumL {a : Addr} {ds : List D} {S0 : SH} (h : S0 a = some (.lst ds) ∨ S0 a = some (.rd ds)) : WalkD K H0 (ItE fun H xs => SqL K H a xs) (enumD 0 ds) (fun S => S a = S0 a) := by
  have key : ∀ {H : Hp} {S : SH}, HR K H S → S a = S0 a → ∃ vs, SqL K H a vs ∧ Rps K H vs ds := fun {H S} r e => r.seq (by rw [e]; exact h)
  refine ⟨fun i H S hi _ r e => ?_, fun H S _ r e => ?_, fun i H S x H' hi _ r e y => ?_⟩
  · obtain ⟨vs, q, z⟩ := key r e
    rw [enumD_length] at hi
    obtain ⟨v, e1, _⟩ := z.get (List.getElem?_eq_getElem hi)
    exact ⟨vs, v, q, e1⟩
  · obtain ⟨vs, q, z⟩ := key r e
    exact ⟨vs, q, by rw [z.length, enumD_length]; exact Nat.le_refl _⟩
  · obtain ⟨vs, q, z⟩ := key r e
    obtain ⟨T, v, o, rfl, hT, po, rfl, y⟩ := y
    obtain ⟨d, e1, e2⟩ := z.mem (y vs q)
    refine ⟨_, enumD_get ds 0 i d e1, ?_, Ev.newN hT, r.newN hT, fun b u q => by rw [upd_ne (ne_of_none q hT)]; exact q⟩
    rw [Nat.zero_add]
    exact .tup (TupR.of upd_same po) (.cons (.int _) (.one (Rp.mono (te_new hT) _ e2)))
theorem wd_enumT {a : Addr} {ds : List D} {xs : List V} (q : TupR K H0 a xs) (z : Rps K H0 xs ds) : WalkD K H0 (ItE fun H xs => SqT K H a xs) (enumD 0 ds) (fun _ => True) := by
  refine ⟨fun i H S hi t r _ => ?_, fun H S t r _ => ?_, fun i H S x H' hi t r _ y => ?_⟩
  · rw [enumD_length] at hi
    obtain ⟨v, e1, _⟩ := z.get (List.getElem?_eq_getElem hi)
    exact ⟨xs, v, (t _ _ q).sq, e1⟩
  · exact ⟨xs, (t _ _ q).sq, by rw [z.length, enumD_length]; exact Nat.le_refl _⟩
  · obtain ⟨T, v, o, rfl, hT, po, rfl, y⟩ := y
    obtain ⟨d, e1, e2⟩ := z.mem (y xs (t _ _ q).sq)
    refine ⟨_, enumD_get ds 0 i d e1, ?_, Ev.newN hT, r.newN hT, fun b u q => by rw [upd_ne (ne_of_none q hT)]; exact q⟩
    rw [Nat.zero_add]
    exact .tup (TupR.of upd_same po) (.cons (.int _) (.one (Rp.mono (te_new hT) _ (Rp.mono t _ e2))))
end
/-! ### enumerate -/
theorem turn_enumP {P : Program} {w : World} {K : PySem.W.Frag} {elts : List Expr} {kk : Nat} {tpos : Pos} (a e it : Addr) :
    Turn P w K (.Tuple elts kk tpos) (ItE fun H xs => SqL K H a xs) [e, it] e (fun i h => (∃ old, IsEnum h e it ((i : Nat) : Int) old) ∧ h.IsListIter it a i ∧ e ≠ it) where
  mem := by simp
  obj := (turn_enum (P := P) (w := w) (K := K) (elts := elts) (kk := kk) (tpos := tpos) a e it).obj
  keep := (turn_enum (P := P) (w := w) (K := K) (elts := elts) (kk := kk) (tpos := tpos) a e it).keep
  item := by
    intro X hP hw hK hc i pins s σ H E I hf st hg
    subst hP hw hK
    obtain ⟨⟨old, he⟩, hit, hne⟩ := st
    obtain ⟨xs, x, hq, hx⟩ := hg
    obtain ⟨its, rv, p, hz⟩ := I.list hq
    obtain ⟨u, hu, ru⟩ := rv.get hx
    have hel : e < s.heap.objs.size := Heap.lt_size he
    have hil : it < s.heap.objs.size := by obtain ⟨_, q, _⟩ := hit; exact Heap.lt_size q
    refine wpAny_pyNext_enum_item he hit p.isList (x := u) (by simpa using hu) hne fun h' ho hit' hT hsz hk => ?_
    refine ⟨_, rfl, wpAny_letOwnedTupleGo_enum (s := { s with heap := h', toks := s.toks + 1 }) ho fun h'' he' sb => ?_⟩
    have hT2 : h''.get? s.heap.objs.size = some (tupN [.int i s.toks, u]) := (sb.2 _ (Nat.ne_of_gt hel)).trans hT
    have new : ObjOk X.prog X.w (upd H s.heap.objs.size (.frz (tupN [.int i s.toks, u]) (.tup [.int (i : Nat), x]))) h'' s.heap.objs.size (.frz (tupN [.int i s.toks, u]) (.tup [.int (i : Nat), x])) :=
      ⟨hT2, by show 2 ≤ sizeLine; decide, [.int i s.toks, u], .cons ⟨_, rfl⟩ (.cons ru .nil), ⟨_, hT2, rfl, _, rfl⟩⟩
    have I1 := I.turnedNew (t' := s.toks + 1) (ch := [e, it]) (fun b ob hb q => (sb.2 b (fun z => hb (by simp [z]))).trans (hk b ob (fun z => hb (by simp [z])) (fun z => hb (by simp [z])) q)) hf (Nat.le_refl _) new
    refine ⟨.ref s.heap.objs.size, _, I1, rfl, ⟨_, x, _, rfl, I.hok.fresh (Nat.le_refl _), plainN _, rfl, fun ys hy => by rw [I.list_inj hy hq]; exact hx⟩, ⟨⟨u, ?_⟩, hit'.at fun o q => (sb.2 it (Ne.symm hne)).trans q, hne⟩, fun b hb => ?_⟩
    · have e1 : ((i + 1 : Nat) : Int) = (i : Int) + 1 := by omega
      rw [e1]; exact he'
    · have hb' : b < s.heap.objs.size := by
        have e' : b = e ∨ b = it := by simpa using hb
        rcases e' with z | z
        · rw [z]; exact hel
        · rw [z]; exact hil
      rw [upd_ne (Nat.ne_of_lt hb')]
      exact (hf b hb).1
  done := by
    intro X hP hw hK hc i pins s σ H E I hf st hg
    obtain ⟨xs, hq, hx⟩ := hg
    exact (turn_enum (P := P) (w := w) (K := K) (elts := elts) (kk := kk) (tpos := tpos) a e it).done X hP hw hK hc i pins s σ H E I hf st ⟨xs, hq, hx⟩
  self := (turn_enum (P := P) (w := w) (K := K) (elts := elts) (kk := kk) (tpos := tpos) a e it).self
theorem turn_enumT {P : Program} {w : World} {K : PySem.W.Frag} {elts : List Expr} {kk : Nat} {tpos : Pos} (a e it : Addr) :
    Turn P w K (.Tuple elts kk tpos) (ItE fun H xs => SqT K H a xs) [e, it] e (fun i h => (∃ old, IsEnum h e it ((i : Nat) : Int) old) ∧ h.IsTupleIter it a i ∧ e ≠ it ∧ a ≠ it ∧ a ≠ e) where
  mem := by simp
  obj := fun i h st b hb => by
    obtain ⟨⟨old, he⟩, ⟨o, ho, hc, hd⟩, _⟩ := st
    have e' : b = e ∨ b = it := by simpa using hb
    rcases e' with z | z
    · rw [z]; exact ⟨_, he, fun v q => nomatch q⟩
    · rw [z]; exact ⟨o, ho, fun v q => by rw [hd] at q; cases q⟩
  keep := fun i h h' st k => let ⟨⟨old, he⟩, hi, hne⟩ := st; ⟨⟨old, k e (by simp) _ he⟩, hi.at fun o q => k it (by simp) o q, hne⟩
  item := by
    intro X hP hw hK hc i pins s σ H E I hf st hg
    subst hP hw hK
    obtain ⟨⟨old, he⟩, hit, hne, hai, hae⟩ := st
    obtain ⟨xs, x, hq, hx⟩ := hg
    obtain ⟨its, rv, p, hz⟩ := I.tuple hq
    have hel : e < s.heap.objs.size := Heap.lt_size he
    have hil : it < s.heap.objs.size := by obtain ⟨_, q, _⟩ := hit; exact Heap.lt_size q
    have hlt : i < its.toArray.size := by
      have := (List.getElem?_eq_some_iff.mp hx).1
      rw [List.size_toArray, ← rv.length]
      exact this
    have Dr := PySem.Draws.tuple (prog := X.prog) (w := X.w) (A := X.A.in1) (show X.A.in1.handled = none from I.ok.hd hc) it a hai its.toArray
    refine wpAny_pyNext_enum_itemD Dr he ⟨hit, (show s.heap.IsTuple a its.toArray from p)⟩ hlt hne (by simp; exact ⟨hne, Ne.symm hae⟩) fun u h' tk hu ho hst' hT hsz hk => ?_
    obtain ⟨y, e1, ru⟩ : ∃ y, xs[i]? = some y ∧ RelV y u := by
      obtain ⟨u', e1, e2⟩ := rv.get hx
      have : its.toArray[i]? = some u := hu
      simp only [List.getElem?_toArray] at this
      rw [e1] at this
      cases this
      exact ⟨x, hx, e2⟩
    refine ⟨_, rfl, wpAny_letOwnedTupleGo_enum (s := { s with heap := h', toks := tk + 1 }) ho fun h'' he' sb => ?_⟩
    have hT2 : h''.get? s.heap.objs.size = some (tupN [.int i tk, u]) := (sb.2 _ (Nat.ne_of_gt hel)).trans hT
    have new : ObjOk X.prog X.w (upd H s.heap.objs.size (.frz (tupN [.int i tk, u]) (.tup [.int (i : Nat), y]))) h'' s.heap.objs.size (.frz (tupN [.int i tk, u]) (.tup [.int (i : Nat), y])) :=
      ⟨hT2, by show 2 ≤ sizeLine; decide, [.int i tk, u], .cons ⟨_, rfl⟩ (.cons ru .nil), ⟨_, hT2, rfl, _, rfl⟩⟩
    have I1 := I.turnedNew (t' := tk + 1) (ch := [e, it]) (fun b ob hb q => (sb.2 b (fun z => hb (by simp [z]))).trans (hk b ob (fun z => hb (by simp [z])) (fun z => hb (by simp [z])) q)) hf (Nat.le_refl _) new
    refine ⟨.ref s.heap.objs.size, _, I1, rfl, ⟨_, y, _, rfl, I.hok.fresh (Nat.le_refl _), plainN _, rfl, fun ys hy => by rw [I.tuple_inj hy hq]; exact e1⟩, ⟨⟨u, ?_⟩, hst'.1.at fun o q => (sb.2 it (Ne.symm hne)).trans q, hne, hai, hae⟩, fun b hb => ?_⟩
    · have e1 : ((i + 1 : Nat) : Int) = (i : Int) + 1 := by omega
      rw [e1]; exact he'
    · have hb' : b < s.heap.objs.size := by
        have e' : b = e ∨ b = it := by simpa using hb
        rcases e' with z | z
        · rw [z]; exact hel
        · rw [z]; exact hil
      rw [upd_ne (Nat.ne_of_lt hb')]
      exact (hf b hb).1
  done := by
    intro X hP hw hK hc i pins s σ H E I hf st hg
    subst hP hw hK
    obtain ⟨⟨old, he⟩, hit, hne, hai, hae⟩ := st
    obtain ⟨xs, hq, hx⟩ := hg
    obtain ⟨its, rv, p, hz⟩ := I.tuple hq
    obtain ⟨f0, f1, f2, f3, f4, f5⟩ := hf it (by simp)
    have hl := rv.length
    -- the end is at the very end: one draws beyond it as well
    have Dn : ∀ (Q : Option Value → Shared → Prop), (∀ h', Heap.ExtBut it s.heap h' → Q none { s with heap := h' }) → wpAny (model X.prog X.w) X.A (pyNext (.ref e)) Q E s := fun Q hQ => by
      have hT : s.TypeIs (.ref e) "enumerate" := ⟨_, he, rfl⟩
      unfold pyNext
      refine wpAny_bind (wpAny_attempt (wpAny_callSpecial?_slot (name := Str.ofString "__next__") hT F.slot_enumerate_next
        (wpAny_call_entry F.slot_enumerate_next hT F.entry_enumerate_next ?_ (F.args_enumerate_next_1 _))))
      show wpAny _ _ (field (.ref e) 2 >>= _) _ _ _
      refine wpAny_bind (wpAny_field he rfl (x := .ref it) rfl ?_)
      refine wpAny_bind (PySem.wpAny_nextOf_tuple_end (show X.A.in1.handled = none from I.ok.hd hc) hit (show s.heap.IsTuple a its.toArray from p) (by simp; omega) fun h' x he' hx' => ?_)
      obtain ⟨o, ho, hcl⟩ := hx'
      refine wpAny_bind (wpAny_isInstance (T := "StopIteration") (b := true) ⟨o, ho, hcl⟩ isSubtype_stop ?_)
      exact wpAny_pure (hQ _ he')
    exact Dn _ fun h' eb => ⟨rfl, I.turned (t' := s.toks) (fun b o hb q => eb b o hb q) f0 f1 f3 f4 f5⟩
  self := fun A i s Q E st h => let ⟨⟨_, he⟩, _⟩ := st; wpAny_pyIter_enum he h
theorem meets_enumerate_newT (l : Addr) (items : Array Value) (n : Nat) (dct : Option Addr) (sl : Array (Option Value)) :
    Meets (Builtin.«enumerate.__new__» ⟨[.type "enumerate", .ref l], []⟩) (fun _ R s => s.heap.get? l = some { cls := .type "tuple", dict := dct, data := .seq items n, slots := sl } ∧
      R (.ok (.ret (.ref (s.heap.push { cls := .type "tuple_iterator", data := .fields #[.ref l, .int 0 0] }).objs.size)))
        { s with heap := (s.heap.push { cls := .type "tuple_iterator", data := .fields #[.ref l, .int 0 0] }).push { cls := .type "enumerate", data := .fields #[.none, .bool false, .ref s.heap.objs.size, rawInt 0, .none, .none] } }) :=
  .of_wp fun prog w A R s h => by
    obtain ⟨hp, g, d, tk, os⟩ := s; obtain ⟨hl, h⟩ := h
    have hsub := sub_enumerate
    have hL : Heap.IsTuple (Shared.heap ⟨hp, g, d, tk, os⟩) l items := ⟨_, hl, rfl, n, rfl⟩
    wp_walk using wpAny_loadPart' hl
    refine wpAny_stack_any fun st => wpAny_pure ?_
    split
    · rename_i c _ _ _ _ _
      cases (c == Value.type "enumerate")
      · wp_walk using wpAny_loadPart' hl, wpAny_pyIter_tuple hL
        exact ⟨_, rfl, h⟩
      · wp_walk using wpAny_loadPart' hl, wpAny_pyIter_tuple hL
        exact ⟨_, rfl, h⟩
    · wp_walk using wpAny_loadPart' hl, wpAny_pyIter_tuple hL
      exact ⟨_, rfl, h⟩
theorem call_enumerate_tuple {prog : Program} {w : World} {A : Around} {E : Value → Shared → Prop} {s : Shared} {l : Addr} {items : Array Value} {Q : Value → Shared → Prop} (hL : s.heap.IsTuple l items)
    (h : ∀ h', IsEnum h' (s.heap.objs.size + 1) s.heap.objs.size 0 .none → h'.IsTupleIter s.heap.objs.size l 0 → h'.objs.size = s.heap.objs.size + 2 →
      (∀ b o, s.heap.get? b = some o → h'.get? b = some o) → Q (.ref (s.heap.objs.size + 1)) { s with heap := h' }) :
    wpAny (model prog w) A (call (.type "enumerate") [.ref l]) Q E s := by
  obtain ⟨⟨c, dct, dt, sl⟩, hl, hc, n, hd⟩ := hL
  replace hc : c = .type "tuple" := hc
  replace hd : dt = .seq items n := hd
  subst hc hd
  refine callType_new F.called_enumerate (by decide) (F.typeCall_enumerate_1 _) (F.newCall_enumerate_1 _) (fun obj => F.args_object_init_2 obj _) F.entry_enumerate_new
    (meets_enumerate_newT l items n dct sl) ⟨hl, ?_⟩
  have hz : (s.heap.push { cls := .type "tuple_iterator", data := .fields #[.ref l, .int 0 0] }).objs.size = s.heap.objs.size + 1 := Heap.size_push ..
  show _ ∧ _
  rw [hz]
  have he : IsEnum ((s.heap.push { cls := .type "tuple_iterator", data := .fields #[.ref l, .int 0 0] }).push
      { cls := .type "enumerate", data := .fields #[.none, .bool false, .ref s.heap.objs.size, rawInt 0, .none, .none] }) (s.heap.objs.size + 1) s.heap.objs.size 0 .none := by
    have := Heap.get?_push_size (s.heap.push { cls := .type "tuple_iterator", data := .fields #[.ref l, .int 0 0] })
      (o := { cls := .type "enumerate", data := .fields #[.none, .bool false, .ref s.heap.objs.size, rawInt 0, .none, .none] }) rfl
    rw [hz] at this; exact this
  refine ⟨⟨_, he, rfl⟩, h _ he ⟨_, Heap.get?_push_of_some _ (Heap.get?_push_size _ rfl), rfl, rfl⟩ (by rw [Heap.size_push, hz]) fun b o x => Heap.get?_push_of_some _ (Heap.get?_push_of_some _ x)⟩

/-! ### the rules -/
def liftI (K : PySem.W.Frag) (t : Env → SH → (List D → (SH → Prop) → SH → Prop) → Prop) : TI := fun σ H R => ∃ ρ S, ∃ Kc : List D → (SH → Prop) → SH → Prop, EnvR K H σ ρ ∧ HR K H S ∧ t ρ S Kc ∧
  ∀ items hold S', Kc items hold S' → ∀ H', Ev K H H' S S' → HR K H' S' → items.length ≤ sizeLine → ∀ J, WalkD K H' J items hold → R J H'
def wkD (ik : Ik) (es : SH → (List D → SH → Prop) → Prop) (S : SH) (R : List D → (SH → Prop) → SH → Prop) : Prop := es S fun ds S1 => walk ik ds S1 fun items hold => R items hold S1
section
variable {X : Cx} {tg : Expr}
theorem pi_mono {e : Expr} {t t' : TI} (h : PI X tg e t) (m : ∀ σ H R, t' σ H R → t σ H R) : PI X tg e t' := ⟨fun pins s σ H Q I q => h.run pins s σ H Q I (m σ H Q q)⟩
/-- for .. in x: a list, a tuple, a text -/
theorem pi_anyD {e : Expr} {t : Env → SH → KD → Prop} (he : PE X e (liftE X.K t)) : PI X tg e (liftI X.K fun ρ S R => t ρ S fun d S1 => walk .any [d] S1 fun items hold => R items hold S1) := by
  refine ⟨fun pins s σ H R I ⟨ρ, S, Kc, hρ, hs, ht, hk⟩ => ?_⟩
  refine thn (he.run pins s σ H (fun v H1 => ∃ d S1, Ev X.K H H1 S S1 ∧ Rp X.K H1 v d ∧ HR X.K H1 S1 ∧ walk .any [d] S1 fun items hold => Kc items hold S1) I
    ⟨ρ, S, _, hρ, hs, ht, fun d S' q v H' e1 e2 e3 => ⟨d, S', e1, e2, e3, q⟩⟩) fun v s1 ⟨x, H1, I1, r1, d, S1, ev, rp, hs1, q⟩ => ?_
  have sq : ∀ xs, seqOf S1 d = some xs → Kc xs (stands S1 d) S1 → wpAny (model X.prog X.w) X.A (pyIter v) (PIE X pins σ tg R) X.xe s1 := by
    intro xs e q
    cases d with
    | tup ds =>
      cases e
      cases rp with
      | @tup a vs _ tq r =>
        cases r1
        obtain ⟨its, rv, p, hz⟩ := I1.tuple tq.sq
        refine wpAny_pyIter_tuple (show s1.heap.IsTuple a its.toArray from p) ?_
        refine ⟨s1.heap.objs.size, [s1.heap.objs.size], _, _, H1, rfl, I1.kept (t' := s1.toks) fun b o e => Heap.get?_push_of_some _ e, turn_tuple a _, ⟨_, Heap.get?_push_size _ rfl, rfl, rfl⟩, fun b hb => ?_, ?_⟩
        · have e : b = s1.heap.objs.size := by simpa using hb
          subst e
          exact I1.fpOk (Nat.le_refl _) (I1.hok.fresh (Nat.le_refl _))
        · exact hk _ _ _ q _ ev hs1 (by rw [← r.length]; exact hz) _ (wd_tup tq r)
    | ref a =>
      cases rp
      have go : (S1 a = some (.lst xs) ∨ S1 a = some (.rd xs)) → wpAny (model X.prog X.w) X.A (pyIter v) (PIE X pins σ tg R) X.xe s1 := fun ea => by
        cases r1
        obtain ⟨vs, q1, r⟩ := hs1.seq ea
        obtain ⟨its, rv, p, hz⟩ := I1.list q1
        refine wpAny_pyIter_list p.isList ?_
        refine ⟨s1.heap.objs.size, [s1.heap.objs.size], _, _, H1, rfl, I1.kept (t' := s1.toks) fun b o e => Heap.get?_push_of_some _ e, turn_list a _, ⟨_, Heap.get?_push_size _ rfl, rfl, rfl⟩, fun b hb => ?_, ?_⟩
        · have e : b = s1.heap.objs.size := by simpa using hb
          subst e
          exact I1.fpOk (Nat.le_refl _) (I1.hok.fresh (Nat.le_refl _))
        · exact hk _ _ _ q _ ev hs1 (by rw [← r.length]; exact hz) _ (wd_list ea)
      have e' : (match S1 a with
        | some (.lst ds) => some ds
        | some (.rd ds) => some ds
        | _ => none) = some xs := e
      split at e'
      · rename_i ds ea; cases e'; exact go (.inl ea)
      · rename_i ds ea; cases e'; exact go (.inr ea)
      · cases e'
    | _ => cases e
  cases d with
  | str z =>
    have q' : Kc (z.cps.toList.map fun c => .str ⟨#[c]⟩) (fun _ => True) S1 := q
    cases rp with
    | str _ o l =>
      obtain ⟨t, rfl⟩ := r1
      have fin := hk _ _ _ q' _ ev hs1 (by rw [List.length_map, Array.length_toList]; exact l) _ (wd_str o)
      cases ha : z.cps.all (· < 128)
      · exact wpAny_pyIter_wide ha (pi_one (tk := s1.toks) I1 _ (turn_str _ z t "str_iterator" (.inr rfl)) ⟨_, Heap.get?_push_size _ rfl, rfl, rfl⟩ fin)
      · exact wpAny_pyIter_ascii ha (pi_one (tk := s1.toks) I1 _ (turn_str _ z t "str_ascii_iterator" (.inl rfl)) ⟨_, Heap.get?_push_size _ rfl, rfl, rfl⟩ fin)
  | _ =>
    have q' := q
    unfold walk at q'
    simp only at q'
    split at q'
    · rename_i xs e; exact sq xs e q'
    · exact q'.elim
theorem pi_range1D {a : Expr} {t : Env → SH → (List D → SH → Prop) → Prop} {p pos : Pos} (hg : Gl X "range") (hm : X.mg "range" = none) (ha : PA X [a] (liftA X.K 1 t)) (hs : starEach [a] X.env = [(false, eval a X.env)]) :
    PI X tg (.Call (.Name "range" p) [a] [] pos) (liftI X.K fun ρ S R => t ρ S fun ds S1 => ∃ n, ds = [.int n] ∧ walk .range [.int n] S1 fun items hold => R items hold S1) := by
  refine pi_mono (pi_range1 hg hm ha hs) fun σ H R ⟨ρ, S, Kc, hρ, hs, ht, hk⟩ => ?_
  refine ⟨ρ, S, _, hρ, hs, ht, fun ds S' q vs H' _ ev r hs' => ?_⟩
  obtain ⟨n, rfl, ⟨b1, b2⟩, q⟩ := q
  cases r with
  | cons r1 r2 =>
    cases r2; cases r1
    have hz : sizeLine = 16777216 := sizeLine_eq
    exact ⟨n, rfl, b1, by omega, hk _ _ _ q _ ev hs' (by simp [rangeD]; omega) _ wd_range⟩
theorem pi_range2D {a b : Expr} {t : Env → SH → (List D → SH → Prop) → Prop} {p pos : Pos} (hg : Gl X "range") (hm : X.mg "range" = none) (ha : PA X [a, b] (liftA X.K 2 t)) (hs : starEach [a, b] X.env = [(false, eval a X.env), (false, eval b X.env)]) (hs2 : starEach [b] X.env = [(false, eval b X.env)]) :
    PI X tg (.Call (.Name "range" p) [a, b] [] pos) (liftI X.K fun ρ S R => t ρ S fun ds S1 => ∃ m n, ds = [.int m, .int n] ∧ walk .range [.int m, .int n] S1 fun items hold => R items hold S1) := by
  refine pi_mono (pi_range2 hg hm ha hs hs2) fun σ H R ⟨ρ, S, Kc, hρ, hs, ht, hk⟩ => ?_
  refine ⟨ρ, S, _, hρ, hs, ht, fun ds S' q vs H' _ ev r hs' => ?_⟩
  obtain ⟨m, n, rfl, ⟨b1, b2, b3, b4, b5⟩, q⟩ := q
  cases r with
  | cons r1 r2 =>
    cases r2 with
    | cons r2 r3 =>
      cases r3; cases r1; cases r2
      have hz : sizeLine = 16777216 := sizeLine_eq
      exact ⟨m, n, rfl, ⟨b1, b2, b3, b4⟩, hk _ _ _ q _ ev hs' (by simp [rangeD]; omega) _ wd_range⟩
theorem pi_enumD {e : Expr} {t : Env → SH → (List D → SH → Prop) → Prop} {p pos tpos : Pos} {elts : List Expr} {kk : Nat} (hg : Gl X "enumerate") (hm : X.mg "enumerate" = none) (ha : PA X [e] (liftA X.K 1 t)) (hs : starEach [e] X.env = [(false, eval e X.env)]) :
    PI X (.Tuple elts kk tpos) (.Call (.Name "enumerate" p) [e] [] pos) (liftI X.K fun ρ S R => t ρ S fun ds S1 => ∃ d, ds = [d] ∧ walk .enum [d] S1 fun items hold => R items hold S1) := by
  refine ⟨fun pins s σ H R I ⟨ρ, S, Kc, hρ, hs0, ht, hk⟩ => ?_⟩
  refine Call_ (ld_blt I hg hm boot_enumerate (PyProof.Rows.callWith_type1 (thn (ha.run pos pins s σ H (fun vs H1 => ∃ d S1 v, vs = [v] ∧ Ev X.K H H1 S S1 ∧ Rp X.K H1 v d ∧ HR X.K H1 S1 ∧ walk .enum [d] S1 fun items hold => Kc items hold S1) I
    ⟨ρ, S, _, hρ, hs0, ht, fun ds S' q vs H' _ e1 e2 e3 => ?_⟩) fun us s1 ⟨vs, H1, I1, r1, q1⟩ => ?_) hs rfl))
  · obtain ⟨d, rfl, q⟩ := q
    cases e2 with
    | cons a b => cases b; exact ⟨d, S', _, rfl, e1, a, e3, q⟩
  obtain ⟨d, S1, x, rfl, ev, rp, hs1, q⟩ := q1
  obtain ⟨v, rfl, r1'⟩ := vals1 r1
  have fp : ∀ b ∈ [s1.heap.objs.size + 1, s1.heap.objs.size], FpOk X pins H1 b := fun b hb => by
    have e' : b = s1.heap.objs.size + 1 ∨ b = s1.heap.objs.size := by simpa using hb
    have hle : s1.heap.objs.size ≤ b := by
      rcases e' with z | z
      · rw [z]; exact Nat.le_add_right _ _
      · rw [z]; exact Nat.le_refl _
    exact I1.fpOk hle (I1.hok.fresh hle)
  have q' : (match seqOf S1 d with
    | some xs => Kc (enumD 0 xs) (stands S1 d) S1
    | none => False) := by cases d <;> exact q
  split at q'
  · rename_i xs e
    cases d with
    | tup ds =>
      cases e
      cases rp with
      | @tup a vs _ tq r =>
        have ev' : v = Value.ref a := r1'
        rw [ev']
        obtain ⟨its, rv, p', hz⟩ := I1.tuple tq.sq
        have ha : a < s1.heap.objs.size := p'.lt
        refine call_enumerate_tuple (show s1.heap.IsTuple a its.toArray from p') ?_
        intro h' he hit hsz hk2
        refine wpAny_pyIter_enum he ?_
        have I2 : Inv X pins σ H1 { s1 with heap := h' } := I1.kept (t' := s1.toks) hk2
        exact ⟨s1.heap.objs.size + 1, [s1.heap.objs.size + 1, s1.heap.objs.size], _, _, H1, rfl, I2, turn_enumT a (s1.heap.objs.size + 1) s1.heap.objs.size, ⟨⟨.none, he⟩, hit, Nat.succ_ne_self _, Nat.ne_of_lt ha, Nat.ne_of_lt (Nat.lt_succ_of_lt ha)⟩, fp,
          hk _ _ _ q' _ ev hs1 (by rw [enumD_length, ← r.length]; exact hz) _ (wd_enumT tq r)⟩
    | ref a =>
      cases rp
      have go : (S1 a = some (.lst xs) ∨ S1 a = some (.rd xs)) → wpAny (model X.prog X.w) X.A (call (.type "enumerate") [v]) (fun v s1 => wpAny (model X.prog X.w) X.A (pyIter v) (PIE X pins σ (.Tuple elts kk tpos) R) X.xe s1) X.xe s1 := fun ea => by
        have ev' : v = Value.ref a := r1'
        rw [ev']
        obtain ⟨vs, q1, r⟩ := hs1.seq ea
        obtain ⟨its, rv, p', hz⟩ := I1.list q1
        refine call_enumerate_list p'.isList ?_
        intro h' he hit hsz hk2
        refine wpAny_pyIter_enum he ?_
        have I2 : Inv X pins σ H1 { s1 with heap := h' } := I1.kept (t' := s1.toks) hk2
        exact ⟨s1.heap.objs.size + 1, [s1.heap.objs.size + 1, s1.heap.objs.size], _, _, H1, rfl, I2, turn_enumP a (s1.heap.objs.size + 1) s1.heap.objs.size, ⟨⟨.none, he⟩, hit, Nat.succ_ne_self _⟩, fp,
          hk _ _ _ q' _ ev hs1 (by rw [enumD_length, ← r.length]; exact hz) _ (wd_enumL ea)⟩
      have e' : (match S1 a with
        | some (.lst ds) => some ds
        | some (.rd ds) => some ds
        | _ => none) = some xs := e
      split at e'
      · rename_i ds ea; cases e'; exact go (.inl ea)
      · rename_i ds ea; cases e'; exact go (.inr ea)
      · cases e'
    | _ => cases e
  · exact q'.elim
end
end Lac
end

-- LacH.lean
section
set_option Elab.async false
set_option linter.all false
set_option maxRecDepth 100000
set_option maxHeartbeats 1000000
set_option autoImplicit false
/-! Lac, part H: the checker, and that a checked text does what it is read as. -/
namespace Lac
open PySem PySem.Spec PyProof.Rows L2

/-! ### the text and its embedded form -/
structure Pg (φ : Type) where
  nm : φ → Str
  ps : φ → List Str
  gn : List Str
  bl : List Str
def visB (sc : Scope) (x : Str) : Bool := match sc.names.lookup x with
  | some .local => true
  | some .cell => true
  | some .free => true
  | _ => false
def locB (sc : Scope) (x : Str) : Bool := match sc.names.lookup x with
  | some .local => true
  | some .cell => true
  | _ => false
def isLoc (sc : Scope) (x : Str) : Bool := match sc.names.lookup x with
  | some .local => true
  | _ => false
def glB (sc : Scope) (x : Str) : Bool := match sc.names.lookup x with
  | some .globalImplicit => true
  | _ => false
def ndB (x : Str) : Bool := !(x == ("__debug__" : Str)) && (!(x == ("__classdict__" : Str)) && !(x == ("__name__" : Str)))
def litB : D → Const → Bool
  | .non, .none => true
  | .bl b, .bool c => b == c
  | .int i, .int j => i == j
  | .str s, .str t => decide (s = t) && (PyData.strOk s && decide (s.length ≤ sizeLine))
  | _, _ => false
def bfNm : Bf → Str
  | .len => "len"
  | .tuple => "tuple"
  | .list => "list"
  | .int => "int"
  | .str => "str"
  | .abs => "abs"
  | .max => "max"
  | .min => "min"
  | .sum => "sum"
  | .all => "all"
  | .any => "any"
  | .dict => "dict"
mutual
def ckT (N : List Str) (st : Str → Bool) : Tg → Expr → Bool
  | .nm i, .Name x _ => decide (N[i]? = some x) && st x
  | .tup ts, .Tuple es _ _ => ckTs N st ts es
  | _, _ => false
def ckTs (N : List Str) (st : Str → Bool) : List Tg → List Expr → Bool
  | [], [] => true
  | t :: ts, e :: es => ckT N st t e && ckTs N st ts es
  | _, _ => false
end
mutual
def slotsT : Tg → List Nat
  | .nm i => [i]
  | .tup ts => slotsTs ts
def slotsTs : List Tg → List Nat
  | [] => []
  | t :: ts => slotsT t ++ slotsTs ts
end
def isTup : Tg → Bool
  | .tup _ => true
  | _ => false
def notCall0 : Expr → Bool
  | .Call (.Name _ _) [] [] _ => false
  | _ => true
section
variable {φ : Type} (pg : Pg φ) (N : List Str)
/-- a built-in's name is free for use -/
def bltB (sc : Scope) (x : Str) : Bool := glB sc x && (ndB x && pg.bl.contains x)
mutual
def ckE : Scope → Ex φ → Expr → Bool
  | sc, .var i, .Name x _ => decide (N[i]? = some x) && (visB sc x && ndB x)
  | _, .lit d, .Constant c _ _ => litB d c
  | sc, .gl k, .Name x _ => decide (pg.gn[k]? = some x) && (glB sc x && ndB x)
  | sc, .tup es, .Tuple fs _ _ => ckEs sc es fs && decide (es.length ≤ 1000)
  | sc, .lst es, .List fs _ => ckEs sc es fs && decide (es.length ≤ 1000)
  | sc, .bin op a b, .BinOp x o y _ => decide (opx op = o) && (ckE sc a x && ckE sc b y)
  | sc, .neg a, .UnaryOp .USub x _ => ckE sc a x
  | sc, .cmp op a b, .Compare x [o] [y] _ => decide (cmx op = o) && (ckE sc a x && ckE sc b y)
  | sc, .chain o1 o2 a b c, .Compare x [p, q] [y, z] _ => decide (cmx o1 = p) && (decide (cmx o2 = q) && (ckE sc a x && (ckE sc b y && ckE sc c z)))
  | sc, .isN n a, .Compare x [o] [.Constant .none _ _] _ => decide (o = if n then .IsNot else .Is) && ckE sc a x
  | sc, .isB b a, .Compare x [.Is] [.Constant (.bool c) _ _] _ => decide (b = c) && ckE sc a x
  | sc, .and a b, .BoolOp .And (x :: y :: r) pos => ckE sc a x && (match r with
    | [] => ckE sc b y
    | z :: r => ckE sc b (.BoolOp .And (y :: z :: r) pos))
  | sc, .or a b, .BoolOp .Or (x :: y :: r) pos => ckE sc a x && (match r with
    | [] => ckE sc b y
    | z :: r => ckE sc b (.BoolOp .Or (y :: z :: r) pos))
  | sc, .not a, .UnaryOp .Not x _ => ckE sc a x
  | sc, .ite c a b, .IfExp x y z _ => ckE sc c x && (ckE sc a y && ckE sc b z)
  | sc, .idx a i, .Subscript x y _ => ckE sc a x && ckE sc i y
  | sc, .slcL a lo, .Subscript x (.Slice (some y) none none _) _ => ckE sc a x && ckE sc lo y
  | sc, .slcU a hi, .Subscript x (.Slice none (some y) none _) _ => ckE sc a x && ckE sc hi y
  | sc, .slcB a lo hi, .Subscript x (.Slice (some y) (some z) none _) _ => ckE sc a x && (ckE sc lo y && ckE sc hi z)
  | sc, .rev a, .Subscript x (.Slice none none (some (.UnaryOp .USub (.Constant (.int 1) _ _) _)) _) _ => ckE sc a x
  | sc, .isi t a, .Call (.Name f _) [x, .Name y _] [] _ => decide (f = "isinstance") && (bltB pg sc "isinstance" && (decide (y = (tyN t : Str)) && (bltB pg sc y && ckE sc a x)))
  | sc, .call f es, .Call (.Name x _) fs [] _ => decide (pg.nm f = x) && (glB sc x && (ndB x && (ckEs sc es fs && decide (es.length = (pg.ps f).length))))
  | sc, .bf f es, .Call (.Name x _) (y :: fs) [] _ => decide (bfNm f = x) && (bltB pg sc x && ckEs sc es (y :: fs))
  | sc, .meth m o es, .Call (.Attribute x a apos) fs [] cpos => decide (mtNm m = a) && (ckE sc o x && (ckEs sc es fs && ((apos.endLine == cpos.line) && (decide (fs.length < 20) && notCall0 x))))
  | sc, .comp own ik es tg cond elt, .ListComp y [⟨t, it, ifs, 0⟩] scope _ => blkC N sc scope own && ((match ik with
      | .any => ckEs sc es [it]
      | .range => (match it with
        | .Call (.Name x _) fs [] _ => decide (x = "range") && (bltB pg sc x && (ckEs sc es fs && (fs.length == 1 || fs.length == 2)))
        | _ => false)
      | .enum => (match it with
        | .Call (.Name x _) fs [] _ => decide (x = "enumerate") && (bltB pg sc x && (ckEs sc es fs && (fs.length == 1 && isTup tg)))
        | _ => false)
      | .zip => false) && (ckT N (locB scope) tg t && ((slotsT tg).all (fun i => (own.map (·.2)).contains i) && ((match ifs with
        | [] => (match cond with
          | .lit (.bl true) => true
          | _ => false)
        | [c] => ckE (relS scope sc) cond c
        | _ => false) && ckE (relS scope sc) elt y))))
  | sc, .bfc f own ik es tg cond elt, .Call (.Name g _) [.ListComp y [⟨t, it, ifs, 0⟩] scope _] [] _ => decide (bfNm f = g) && (bltB pg sc g && (blkC N sc scope own && ((match ik with
      | .any => ckEs sc es [it]
      | .range => (match it with
        | .Call (.Name x _) fs [] _ => decide (x = "range") && (bltB pg sc x && (ckEs sc es fs && (fs.length == 1 || fs.length == 2)))
        | _ => false)
      | .enum => (match it with
        | .Call (.Name x _) fs [] _ => decide (x = "enumerate") && (bltB pg sc x && (ckEs sc es fs && (fs.length == 1 && isTup tg)))
        | _ => false)
      | .zip => false) && (ckT N (locB scope) tg t && ((slotsT tg).all (fun i => (own.map (·.2)).contains i) && ((match ifs with
        | [] => (match cond with
          | .lit (.bl true) => true
          | _ => false)
        | [c] => ckE (relS scope sc) cond c
        | _ => false) && ckE (relS scope sc) elt y))))))
  | sc, .dcomp own ik es tg cond k v, .DictComp y z [⟨t, it, ifs, 0⟩] scope _ => blkC N sc scope own && ((match ik with
      | .any => ckEs sc es [it]
      | .range => (match it with
        | .Call (.Name x _) fs [] _ => decide (x = "range") && (bltB pg sc x && (ckEs sc es fs && (fs.length == 1 || fs.length == 2)))
        | _ => false)
      | .enum => (match it with
        | .Call (.Name x _) fs [] _ => decide (x = "enumerate") && (bltB pg sc x && (ckEs sc es fs && (fs.length == 1 && isTup tg)))
        | _ => false)
      | .zip => false) && (ckT N (locB scope) tg t && ((slotsT tg).all (fun i => (own.map (·.2)).contains i) && ((match ifs with
        | [] => (match cond with
          | .lit (.bl true) => true
          | _ => false)
        | [c] => ckE (relS scope sc) cond c
        | _ => false) && (ckE (relS scope sc) k y && ckE (relS scope sc) v z)))))
  | sc, .lenset a, .Call (.Name f _) [.Call (.Name g _) [x] [] _] [] _ => decide (f = "len") && (decide (g = "set") && (bltB pg sc "len" && (bltB pg sc "set" && ckE sc a x)))
  | _, _, _ => false
def ckEs : Scope → List (Ex φ) → List Expr → Bool
  | _, [], [] => true
  | sc, e :: es, x :: xs => ckE sc e x && ckEs sc es xs
  | _, _, _ => false
end
end
end Lac
end

-- LacI.lean
section
set_option Elab.async false
set_option linter.all false
set_option maxRecDepth 100000
set_option maxHeartbeats 2000000
set_option autoImplicit false
/-! Lac, part I: soundness of expressions. -/
namespace Lac
open PySem PySem.Spec PyProof.Rows L2

/-- a def's promise, lifted -/
def liftSp (K : PySem.W.Frag) (n : Nat) (sp : DSp) : Sp := fun vs H Q _ => vs.length = n ∧ ∃ ds S Kc x, Rps K H vs ds ∧ HR K H S ∧ sp ds S Kc x ∧ Cl K H S Kc Q
/-- where one stands -/
structure Sit {φ : Type} (pg : Pg φ) (Γ : φ → DSp) (G : Nat → Option D) (N : List Str) (sc : Scope) (X : Cx) : Prop where
  n : X.N = N
  nd : N.Nodup
  calm : X.calm = true
  hu : X.A.units + 880 < cLine
  xe : X.xe = fun _ _ => False
  sc : X.env.scope = sc
  fns : ∀ f, ∃ (k : Nat) (a : Addr) (fd : FuncData), Room k X.A ∧ X.mg (pg.nm f) = some (.ref a) ∧ PySem.W.keepIn X.K (.ref a) = true ∧ Binds X.K fd (pg.ps f) [] ∧ FnOk X.prog X.w X.K X.mg X.base CX0 k a fd (pg.ps f) (liftSp X.K (pg.ps f).length (Γ f))
  blt : ∀ y ∈ pg.bl, X.mg y = none
  gls : ∀ (k : Nat) (y : Str) (d : D), pg.gn[k]? = some y → G k = some d → ∃ v u, X.mg y = some u ∧ RelV v u ∧ ∀ H, Rp X.K H v d
section
variable {φ : Type} {pg : Pg φ} {Γ : φ → DSp} {G : Nat → Option D} {N : List Str} {sc : Scope} {X : Cx}
def wpT (Γ : φ → DSp) (G : Nat → Option D) (e : Ex φ) (x : XW) (ρ : Env) (S : SH) (Kb : Bool → SH → Prop) : Prop := wpE Γ G e x ρ S fun d S1 => match tru S1 d with
  | some b => Kb b S1
  | none => False
structure Snd (Γ : φ → DSp) (G : Nat → Option D) (X : Cx) (x : XW) (e : Ex φ) (ex : Expr) : Prop where
  pe : PE X ex (liftE X.K (wpE Γ G e x))
  pt : PT X ex (liftT X.K (wpT Γ G e x))
  pw : ∀ op vs pos, ex = .BoolOp op vs pos → PW X ex (liftT X.K (wpT Γ G e x))
theorem Sit.blk (s : Sit pg Γ G N sc X) (st : Shared) (H : Hp) (scope : Scope) (cl : List (Str × Addr)) (C : Addr) (fp : List Addr) : Sit pg Γ G N (relS scope sc) (X.blk st H scope (compEnvC scope cl C X.env) fp) :=
  ⟨s.n, s.nd, s.calm, s.hu, rfl, by rw [← s.sc]; rfl, s.fns, s.blt, s.gls⟩
theorem ba {a b : Bool} (h : (a && b) = true) : a = true ∧ b = true := Bool.and_eq_true_iff.mp h
theorem nd_of {x : Str} (h : ndB x = true) : (x == ("__debug__" : Str)) = false ∧ (x == ("__classdict__" : Str)) = false ∧ x ≠ ("__name__" : Str) := by
  unfold ndB at h
  simp only [Bool.and_eq_true, Bool.not_eq_true'] at h
  exact ⟨h.1, h.2.1, fun e => by rw [e] at h; simp at h⟩
theorem vis_of (s : Sit pg Γ G N sc X) {x : Str} (h : visB sc x = true) : Vis X.env.scope x := by
  rw [s.sc]
  unfold visB at h
  split at h
  · rename_i e; exact .inl e
  · rename_i e; exact .inr (.inl e)
  · rename_i e; exact .inr (.inr e)
  · cases h
theorem gl_of (s : Sit pg Γ G N sc X) {x : Str} (h : glB sc x = true) : Gl X x := by
  unfold glB at h
  split at h
  · rename_i e
    show X.env.scope.names.lookup x = _
    rw [s.sc]; exact e
  · cases h
theorem blt_of (s : Sit pg Γ G N sc X) {x : Str} (h : bltB pg sc x = true) : Gl X x ∧ X.mg x = none ∧ (x == ("__debug__" : Str)) = false ∧ x ≠ ("__name__" : Str) := by
  obtain ⟨h1, h2⟩ := ba h
  obtain ⟨h3, h4⟩ := ba h2
  obtain ⟨n1, n2, n3⟩ := nd_of h3
  exact ⟨gl_of s h1, s.blt x (by simpa using h4), n1, n3⟩
/-- an expression whose test is its value's truth -/
def plain : Expr → Bool
  | .UnaryOp .Not _ _ => false
  | .BoolOp _ _ _ => false
  | .IfExp _ _ _ _ => false
  | .Compare _ _ _ _ => false
  | _ => true
theorem plain_of {ex : Expr} (h : plain ex = true) (env : PySem.Env) (whole : Sem Value) : isTrue ex env whole = (do let v ← whole; standAt ex.pos; holding [v] (truthy v)) := by
  cases ex with
  | UnaryOp op x pos => cases op <;> first | rfl | cases h
  | BoolOp => cases h
  | IfExp => cases h
  | Compare => cases h
  | _ => rfl
theorem Snd.mk1 {x : XW} {e : Ex φ} {ex : Expr} (h : PE X ex (liftE X.K (wpE Γ G e x))) (p : plain ex = true) : Snd Γ G X x e ex := by
  refine ⟨h, ?_, fun op vs pos e => by subst e; cases p⟩
  refine pt_mono (pt_truth h (plain_of p X.env)) fun σ H Q ⟨ρ, S, Kc, hρ, hs, ht, hk⟩ => ?_
  refine ⟨ρ, S, _, hρ, hs, ht, fun d S' q v H' e1 e2 e3 => ?_⟩
  split at q
  · rename_i b e
    exact ⟨b, tru_rp e3 e2 e, hk b S' q H' e1 e3⟩
  · exact q.elim
theorem slot_at (s : Sit pg Γ G N sc X) {K : PySem.W.Frag} {H : Hp} {σ : L2.St} {ρ : Env} {i : Nat} {d : D} (e : EnvR K H σ ρ) (h : slot ρ i = some d) : ∃ v, σ[i]? = some (some v) ∧ Rp K H v d := e.2 i d h

/-! ### one lemma a form -/
variable {x : XW}
theorem snd_var (s : Sit pg Γ G N sc X) {i : Nat} {y : Str} {pos : Pos} (h : (decide (N[i]? = some y) && (visB sc y && ndB y)) = true) : Snd Γ G X x (.var i) (.Name y pos) := by
  obtain ⟨h1, h2⟩ := ba h
  obtain ⟨h3, h4⟩ := ba h2
  obtain ⟨n1, n2, n3⟩ := nd_of h4
  refine .mk1 (pe_mono (pe_var (i := i) (by rw [s.n]; exact of_decide_eq_true h1) (vis_of s h3) n1 n2) fun σ H Q ⟨ρ, S, Kc, hρ, hs, ht, hk⟩ => ?_) rfl
  simp only [wpE] at ht
  split at ht
  · rename_i d e
    obtain ⟨v, q, r⟩ := hρ.2 i d e
    exact ⟨v, q, hk _ _ ht _ _ Ev.refl r hs⟩
  · exact ht.elim
theorem snd_lit {d : D} {c : Const} {k : Nat} {pos : Pos} (h : litB d c = true) : Snd Γ G X x (.lit d) (.Constant c k pos) := by
  have go : ∀ v, PE X (.Constant c k pos) (tC v) → (∀ H, Rp X.K H v d) → Snd Γ G X x (.lit d) (.Constant c k pos) := fun v p r =>
    .mk1 (pe_mono p fun σ H Q ⟨ρ, S, Kc, hρ, hs, ht, hk⟩ => hk _ _ ht _ _ Ev.refl (r H) hs) rfl
  cases d with
  | non => cases c with
    | none => exact go _ pe_non fun _ => .non
    | _ => cases h
  | bl b => cases c with
    | bool b' =>
      have e : b = b' := by simpa [litB] using h
      subst e
      exact go _ pe_bl fun _ => .bl _
    | _ => cases h
  | int b => cases c with
    | int b' =>
      have e : b = b' := by simpa [litB] using h
      subst e
      exact go _ pe_int fun _ => .int _
    | _ => cases h
  | str b => cases c with
    | str b' =>
      obtain ⟨h1, h2⟩ := ba (show (decide (b = b') && (PyData.strOk b && decide (b.length ≤ sizeLine))) = true from h)
      obtain ⟨h3, h4⟩ := ba h2
      have e : b = b' := of_decide_eq_true h1
      subst e
      exact go _ pe_str fun _ => .str _ h3 (of_decide_eq_true h4)
    | _ => cases h
  | _ => cases c <;> cases h
theorem snd_gl (s : Sit pg Γ G N sc X) {k : Nat} {y : Str} {pos : Pos} (h : (decide (pg.gn[k]? = some y) && (glB sc y && ndB y)) = true) : Snd Γ G X x (.gl k) (.Name y pos) := by
  obtain ⟨h1, h2⟩ := ba h
  obtain ⟨h3, h4⟩ := ba h2
  obtain ⟨n1, n2, n3⟩ := nd_of h4
  refine .mk1 ⟨fun pins st σ H Q I ⟨ρ, S, Kc, hρ, hs, ht, hk⟩ => ?_⟩ rfl
  simp only [wpE] at ht
  split at ht
  · rename_i d e
    obtain ⟨v, u, m, r, q⟩ := s.gls k y d (of_decide_eq_true h1) e
    exact (pe_glob (gl_of s h3) m r n1).run pins st σ H Q I (hk _ _ ht _ _ Ev.refl (q H) hs)
  · exact ht.elim
theorem star_cons {e : Expr} {es : List Expr} {env : PySem.Env} (h : ∀ y p, e ≠ .Starred y p) : starEach (e :: es) env = (false, eval e env) :: starEach es env := by
  cases e <;> first | rfl | exact absurd rfl (h _ _)
theorem ck_nostar : ∀ {e : Ex φ} {ex : Expr}, ckE pg N sc e ex = true → ∀ y p, ex ≠ .Starred y p := fun {e ex} h y p q => by
  subst q
  cases e <;> exact (Bool.false_ne_true h).elim
theorem star_any {es : List (Ex φ)} {exs : List Expr} (h : ckEs pg N sc es exs = true) (env : PySem.Env) : (starEach exs env).any (·.1) = false := by
  induction exs generalizing es with
  | nil => rfl
  | cons y ys ih =>
    cases es with
    | nil => cases h
    | cons e es =>
      obtain ⟨h1, h2⟩ := ba (show (ckE pg N sc e y && ckEs pg N sc es ys) = true from h)
      rw [star_cons (ck_nostar h1)]
      exact ih h2
theorem back_any (pos : Pos) {l : List (Bool × Sem Value)} (h : l.any (·.1) = false) : (backTo pos l).any (·.1) = false := by
  unfold backTo
  rw [List.any_map]
  exact h
theorem snd_nil : PA X [] (liftA X.K 0 (wpEs Γ G [] x)) := pa_mono pa_nil fun σ H Q ⟨ρ, S, Kc, hρ, hs, ht, hk⟩ => hk _ _ ht _ _ rfl Ev.refl .nil hs
theorem snd_cons {e : Ex φ} {es : List (Ex φ)} {ex : Expr} {exs : List Expr} (hn : ∀ y p, ex ≠ .Starred y p) (h1 : Snd Γ G X x e ex) (h2 : PA X exs (liftA X.K es.length (wpEs Γ G es x))) : PA X (ex :: exs) (liftA X.K (e :: es).length (wpEs Γ G (e :: es) x)) := by
  refine pa_mono (pa_cons h1.pe h2 (star_cons hn)) fun σ H Q ⟨ρ, S, Kc, hρ, hs, ht, hk⟩ => ?_
  refine ⟨ρ, S, _, hρ, hs, ht, fun d S1 q v H1 e1 r1 hs1 => ⟨ρ, S1, _, hρ.mono e1.tup, hs1, q, fun ds S2 q2 vs H2 hl e2 r2 hs2 => ?_⟩⟩
  exact hk _ _ q2 _ _ (by simp [hl]) (e1.trans e2) (.cons (Rp.mono e2.tup _ r1) r2) hs2
theorem small_line {n : Nat} (h : n ≤ 1000) : n ≤ sizeLine := Nat.le_trans h (by rw [sizeLine_eq]; decide)
theorem snd_tup {es : List (Ex φ)} {exs : List Expr} {k : Nat} {pos : Pos} (hz : es.length ≤ 1000) (h : PA X exs (liftA X.K es.length (wpEs Γ G es x))) : Snd Γ G X x (.tup es) (.Tuple exs k pos) := by
  refine .mk1 ⟨fun pins s σ H Q I ⟨ρ, S, Kc, hρ, hs, ht, hk⟩ => ?_⟩ rfl
  refine wpAny_Tuple_spliced (thn (h.run pos pins s σ H (fun vs H1 => vs.length ≤ sizeLine ∧ NewT H1 vs Q) I ⟨ρ, S, _, hρ, hs, ht, fun ds S1 q vs H1 hl e1 r1 hs1 => ⟨by rw [hl]; exact small_line hz, fun p o hp po => ?_⟩⟩) fun us s1 ⟨vs, H1, I1, r, z, q⟩ => ⟨by rw [← r.length]; exact z, ?_⟩)
  · exact hk _ _ q _ _ (e1.trans (Ev.newN hp)) (.tup (TupR.of upd_same po) (Rps.mono (te_new hp) _ r1)) (hs1.newN hp)
  · exact ⟨.ref s1.heap.objs.size, _, laidT I1 r z, rfl, q _ _ (I1.hok.fresh (Nat.le_refl _)) (plainN _)⟩
theorem snd_lst {es : List (Ex φ)} {exs : List Expr} {pos : Pos} (hz : es.length ≤ 1000) (h : PA X exs (liftA X.K es.length (wpEs Γ G es x))) : Snd Γ G X x (.lst es) (.List exs pos) := by
  refine .mk1 (pe_mono (pe_lst h) fun σ H Q ⟨ρ, S, Kc, hρ, hs, ht, hk⟩ => ?_) rfl
  refine ⟨ρ, S, _, hρ, hs, ht, fun ds S1 q vs H1 hl e1 r1 hs1 => ⟨by rw [hl]; exact small_line hz, fun p hp => ?_⟩⟩
  exact hk _ _ (q p (hs1.free hp)) _ _ (e1.trans (Ev.new hp)) (.ref _) (hs1.newL hp r1)
/-- two in a row, then an operation by values -/
theorem two_of {K : PySem.W.Frag} {ta tb : Env → SH → KD → Prop} {r : D → D → SH → KD → Prop} {σ : L2.St} {H : Hp} {Q : VK} (h : liftE K (fun ρ S Q => ta ρ S fun u S1 => tb ρ S1 fun v S2 => r u v S2 Q) σ H Q) :
    liftE K ta σ H fun x H1 => liftE K tb σ H1 fun y H2 => lift2 K r x y H2 Q := by
  obtain ⟨ρ, S, Kc, hρ, hs, ht, hk⟩ := h
  exact ⟨ρ, S, _, hρ, hs, ht, fun d S1 q v H1 e1 r1 hs1 => ⟨ρ, S1, _, hρ.mono e1.tup, hs1, q, fun e S2 q2 u H2 e2 r2 hs2 => ⟨d, e, S2, Kc, Rp.mono e2.tup _ r1, r2, hs2, q2, (hk : Cl K H S Kc Q).later (e1.trans e2)⟩⟩⟩
theorem snd_bin {op : Op2} {a b : Ex φ} {y z : Expr} {pos : Pos} (ha : Snd Γ G X x a y) (hb : Snd Γ G X x b z) : Snd Γ G X x (.bin op a b) (.BinOp y (opx op) z pos) :=
  .mk1 (pe_mono (pe_op (op_bin op) ha.pe hb.pe) fun σ H Q h => two_of h) rfl
theorem snd_neg {a : Ex φ} {y : Expr} {pos : Pos} (ha : Snd Γ G X x a y) : Snd Γ G X x (.neg a) (.UnaryOp .USub y pos) := by
  refine .mk1 (pe_mono (pe_un un_neg ha.pe) fun σ H Q ⟨ρ, S, Kc, hρ, hs, ht, hk⟩ => ?_) rfl
  refine ⟨ρ, S, _, hρ, hs, ht, fun d S1 q v H1 e1 r1 hs1 => ?_⟩
  cases d with
  | int i => cases r1; exact ⟨i, rfl, hk _ _ q _ _ e1 (.int _) hs1⟩
  | _ => exact False.elim q
theorem dCmp_bl {op : Cm} {u v : D} {S : SH} {K1 K2 : KD} (m : ∀ b, K1 (.bl b) S → K2 (.bl b) S) (h : dCmp op u v S K1) : dCmp op u v S K2 := by
  have eqm : ∀ {B1 B2 : Bool → Prop}, (∀ b, B1 b → B2 b) → dEq u v S B1 → dEq u v S B2 := fun {B1 B2} m h => by
    have pure_ : (dep u ≤ 420 ∧ dep v ≤ 420 ∧ B1 (eqv u v)) → (dep u ≤ 420 ∧ dep v ≤ 420 ∧ B2 (eqv u v)) := fun h => ⟨h.1, h.2.1, m _ h.2.2⟩
    cases u with
    | ref a => cases v with
      | ref b =>
        unfold dEq at h ⊢
        simp only at h ⊢
        split at h
        · exact ⟨h.1, h.2.1, m _ h.2.2⟩
        · exact h.elim
      | _ => exact pure_ h
    | _ => cases v <;> exact pure_ h
  have inm : ∀ {B1 B2 : Bool → Prop}, (∀ b, B1 b → B2 b) → dIn u v S B1 → dIn u v S B2 := fun {B1 B2} m h => by
    cases v with
    | str t => cases u with
      | str z => exact m _ h
      | _ => exact False.elim h
    | tup ds => cases u <;> exact ⟨h.1, h.2.1, m _ h.2.2⟩
    | ref a =>
      have h' : (match S a with
        | some (.dct kvs) => (match keyD u with
          | some k => B1 (valD kvs k).isSome
          | none => False)
        | some (.lst ds) => dep u ≤ 420 ∧ deps ds ≤ 420 ∧ B1 (ds.any fun z => eqv z u)
        | _ => False) := by cases u <;> exact h
      have g' : (match S a with
        | some (.dct kvs) => (match keyD u with
          | some k => B2 (valD kvs k).isSome
          | none => False)
        | some (.lst ds) => dep u ≤ 420 ∧ deps ds ≤ 420 ∧ B2 (ds.any fun z => eqv z u)
        | _ => False) := by
        split at h'
        · split at h'
          · exact m _ h'
          · exact h'.elim
        · exact ⟨h'.1, h'.2.1, m _ h'.2.2⟩
        · exact h'.elim
      cases u <;> exact g'
    | _ => cases u <;> exact False.elim h
  cases op with
  | eq => exact eqm (fun b => m b) h
  | ne => exact eqm (fun b => m (!b)) h
  | inn => exact inm (fun b => m b) h
  | nin => exact inm (fun b => m (!b)) h
  | lt => cases u with
    | int i => cases v with
      | int j => exact m _ h
      | _ => exact False.elim h
    | _ => exact False.elim h
  | le => cases u with
    | int i => cases v with
      | int j => exact m _ h
      | _ => exact False.elim h
    | _ => exact False.elim h
  | gt => cases u with
    | int i => cases v with
      | int j => exact m _ h
      | _ => exact False.elim h
    | _ => exact False.elim h
  | ge => cases u with
    | int i => cases v with
      | int j => exact m _ h
      | _ => exact False.elim h
    | _ => exact False.elim h
theorem nomark_of {op : CmpOp} {e : Ex φ} {ex : Expr} (h : ckE pg N sc e ex = true) : behindInMarks op ex = false := by
  cases ex with
  | Set es k pos => cases e <;> exact (Bool.false_ne_true h).elim
  | _ => rfl
/-- a comparison's answer is a bool -/
theorem bl_of {K : PySem.W.Frag} {op : Cm} {a b : D} {S : SH} {H : Hp} {v u : V} {Kb : Bool → SH → Prop} {Q : Bool → Hp → Prop} (h : lift2 K (fun p q S Q => dCmp op p q S Q) v u H fun z H' => ∃ k, z = .bl k ∧ Q k H') : lift2 K (dCmp op) v u H fun z H' => ∃ k, z = .bl k ∧ Q k H' := h
theorem snd_cmp (s : Sit pg Γ G N sc X) {op : Cm} {a b : Ex φ} {y z : Expr} {pos : Pos} (ha : Snd Γ G X x a y) (hb : Snd Γ G X x b z) (hm : ckE pg N sc b z = true) : Snd Γ G X x (.cmp op a b) (.Compare y [cmx op] [z] pos) := by
  refine ⟨pe_mono (pe_cmpR (op_cmp s.hu op) ha.pe hb.pe (nomark_of hm)) fun σ H Q h => two_of h, ?_, fun _ _ _ e => by cases e⟩
  refine pt_mono (pt_cmpR (op_cmp s.hu op) ha.pe hb.pe (nomark_of hm)) fun σ H Q ⟨ρ, S, Kc, hρ, hs, ht, hk⟩ => ?_
  refine ⟨ρ, S, _, hρ, hs, ht, fun d S1 q v H1 e1 r1 hs1 => ⟨ρ, S1, _, hρ.mono e1.tup, hs1, q, fun e S2 q2 u H2 e2 r2 hs2 => ?_⟩⟩
  refine ⟨d, e, S2, fun w S3 => ∃ b, w = .bl b ∧ Kc b S3, Rp.mono e2.tup _ r1, r2, hs2, dCmp_bl (fun b hb => ⟨b, rfl, hb⟩) q2, fun w S3 q3 v3 H3 e3 r3 hs3 => ?_⟩
  obtain ⟨b, rfl, q3⟩ := q3
  cases r3
  exact ⟨b, rfl, hk b S3 q3 H3 ((e1.trans e2).trans e3) hs3⟩
end
end Lac
end

-- LacJ.lean
section
set_option Elab.async false
set_option linter.all false
set_option maxRecDepth 100000
set_option maxHeartbeats 2000000
set_option autoImplicit false
/-! Lac, part J: soundness of expressions, further forms. -/
namespace Lac
open PySem PySem.Spec PyProof.Rows L2
section
variable {φ : Type} {pg : Pg φ} {Γ : φ → DSp} {G : Nat → Option D} {N : List Str} {sc : Scope} {X : Cx} {x : XW}
theorem chain_core {o1 o2 : Cm} {a b c : Ex φ} {y z w : Expr} {σ : L2.St} {H : Hp} {Q : VK} (h : liftE X.K (wpE Γ G (.chain o1 o2 a b c) x) σ H Q) :
    tChain (lift2 X.K (dCmp o1)) (lift2 X.K (dCmp o2)) (liftE X.K (wpE Γ G a x)) (liftE X.K (wpE Γ G b x)) (liftE X.K (wpE Γ G c x)) σ H Q := by
  obtain ⟨ρ, S, Kc, hρ, hs, ht, hk⟩ := h
  refine ⟨ρ, S, _, hρ, hs, ht, fun d S1 q v H1 e1 r1 hs1 => ⟨ρ, S1, _, hρ.mono e1.tup, hs1, q, fun e S2 q2 u H2 e2 r2 hs2 => ?_⟩⟩
  refine ⟨d, e, S2, _, Rp.mono e2.tup _ r1, r2, hs2, dCmp_bl (K2 := fun w S3 => ∃ k, w = .bl k ∧ S3 = S2 ∧ (match (D.bl k) with
    | .bl true => wpE Γ G c x ρ S2 fun w S4 => dCmp o2 e w S4 Kc
    | .bl false => Kc (.bl false) S2
    | _ => False)) (fun k hb => ⟨k, rfl, rfl, hb⟩) q2, fun w S3 q3 v3 H3 e3 r3 hs3 => ?_⟩
  obtain ⟨k, rfl, rfl, q3⟩ := q3
  cases r3
  refine ⟨k, rfl, ?_⟩
  have e123 := (e1.trans e2).trans e3
  cases k with
  | true =>
    rw [if_pos rfl]
    exact ⟨ρ, S3, _, hρ.mono e123.tup, hs3, q3, fun f S4 q4 v4 H4 e4 r4 hs4 => ⟨e, f, S4, Kc, Rp.mono (e3.tup.trans e4.tup) _ r2, r4, hs4, q4, (hk : Cl X.K H S Kc Q).later (e123.trans e4)⟩⟩
  | false =>
    rw [if_neg Bool.false_ne_true]
    exact hk _ _ q3 _ _ e123 (.bl _) hs3
theorem marks_of {p q : CmpOp} {b c : Ex φ} {z w : Expr} (hb : ckE pg N sc b z = true) (hc : ckE pg N sc c w = true) : lastMarks [p, q] [z, w] = false := nomark_of hc
theorem snd_chain (s : Sit pg Γ G N sc X) {o1 o2 : Cm} {a b c : Ex φ} {y z w : Expr} {pos : Pos} (ha : Snd Γ G X x a y) (hb : Snd Γ G X x b z) (hc : Snd Γ G X x c w) (kb : ckE pg N sc b z = true) (kc : ckE pg N sc c w = true) :
    Snd Γ G X x (.chain o1 o2 a b c) (.Compare y [cmx o1, cmx o2] [z, w] pos) := by
  refine ⟨pe_mono (pe_chain (op_cmp s.hu o1) (op_cmp s.hu o2) ha.pe hb.pe hc.pe (marks_of kb kc)) fun σ H Q h => chain_core (y := y) (z := z) (w := w) h, ?_, fun _ _ _ e => by cases e⟩
  refine pt_mono (pt_chain (op_cmp s.hu o1) (op_cmp s.hu o2) ha.pe hb.pe hc.pe (marks_of kb kc)) fun σ H Q ⟨ρ, S, Kc, hρ, hs, ht, hk⟩ => ?_
  show tChain (lift2 X.K (dCmp o1)) (lift2 X.K (dCmp o2)) (liftE X.K (wpE Γ G a x)) (liftE X.K (wpE Γ G b x)) (liftE X.K (wpE Γ G c x)) σ H (fun v H' => ∃ k, v = .bl k ∧ Q k H')
  refine chain_core (y := y) (z := z) (w := w) ⟨ρ, S, fun w S3 => ∃ b, w = .bl b ∧ Kc b S3, hρ, hs, ?_, fun d S' q v H' e1 r1 hs1 => ?_⟩
  · -- the answers are bools
    have ht' : wpE Γ G a x ρ S fun u S1 => wpE Γ G b x ρ S1 fun v S2 => dCmp o1 u v S2 fun z S3 => match z with
      | .bl true => wpE Γ G c x ρ S3 fun w S4 => dCmp o2 v w S4 fun d S1 => match tru S1 d with
        | some b => Kc b S1
        | none => False
      | .bl false => (match tru S3 (.bl false) with
        | some b => Kc b S3
        | none => False)
      | _ => False := ht
    show wpE Γ G a x ρ S fun u S1 => wpE Γ G b x ρ S1 fun v S2 => dCmp o1 u v S2 fun z S3 => match z with
      | .bl true => wpE Γ G c x ρ S3 fun w S4 => dCmp o2 v w S4 fun w S3 => ∃ b, w = .bl b ∧ Kc b S3
      | .bl false => ∃ b, D.bl false = .bl b ∧ Kc b S3
      | _ => False
    have e : (fun (v : D) (S2 : SH) (u : D) => dCmp o1 u v S2 fun z S3 => match z with
      | .bl true => wpE Γ G c x ρ S3 fun w S4 => dCmp o2 v w S4 fun d S1 => match tru S1 d with
        | some b => Kc b S1
        | none => False
      | .bl false => (match tru S3 (.bl false) with
        | some b => Kc b S3
        | none => False)
      | _ => False) = fun v S2 u => dCmp o1 u v S2 fun z S3 => match z with
      | .bl true => wpE Γ G c x ρ S3 fun w S4 => dCmp o2 v w S4 fun w S3 => ∃ b, w = .bl b ∧ Kc b S3
      | .bl false => ∃ b, D.bl false = .bl b ∧ Kc b S3
      | _ => False := by
      funext v S2 u
      have e2 : ∀ (w : D) (S4 : SH), (dCmp o2 v w S4 fun d S1 => match tru S1 d with
        | some b => Kc b S1
        | none => False) = dCmp o2 v w S4 fun w S3 => ∃ b, w = .bl b ∧ Kc b S3 := fun w S4 => by
        apply propext
        constructor
        · exact dCmp_bl fun b hb => ⟨b, rfl, hb⟩
        · refine dCmp_bl fun b hb => ?_
          obtain ⟨b', e, q⟩ := hb
          cases e
          exact q
      simp only [e2]
      apply propext
      constructor
      · refine dCmp_bl fun b hb => ?_
        cases b with
        | true => exact hb
        | false => exact ⟨false, rfl, hb⟩
      · refine dCmp_bl fun b hb => ?_
        cases b with
        | true => exact hb
        | false =>
          obtain ⟨b', e, q⟩ := hb
          cases e
          exact q
    have e' : (fun (u : D) (S1 : SH) => wpE Γ G b x ρ S1 fun v S2 => dCmp o1 u v S2 fun z S3 => match z with
      | .bl true => wpE Γ G c x ρ S3 fun w S4 => dCmp o2 v w S4 fun d S1 => match tru S1 d with
        | some b => Kc b S1
        | none => False
      | .bl false => (match tru S3 (.bl false) with
        | some b => Kc b S3
        | none => False)
      | _ => False) = fun (u : D) (S1 : SH) => wpE Γ G b x ρ S1 fun v S2 => dCmp o1 u v S2 fun z S3 => match z with
      | .bl true => wpE Γ G c x ρ S3 fun w S4 => dCmp o2 v w S4 fun w S3 => ∃ b, w = .bl b ∧ Kc b S3
      | .bl false => ∃ b, D.bl false = .bl b ∧ Kc b S3
      | _ => False := by
      funext u S1
      congr 1
      funext v S2
      exact congrFun (congrFun (congrFun e v) S2) u
    rw [← e']
    exact ht'
  · obtain ⟨b, rfl, q⟩ := q
    cases r1
    exact ⟨b, rfl, hk b S' q H' e1 hs1⟩
theorem snd_isN {n : Bool} {a : Ex φ} {y : Expr} {k : Nat} {p pos : Pos} (ha : Snd Γ G X x a y) : Snd Γ G X x (.isN n a) (.Compare y [if n then .IsNot else .Is] [.Constant .none k p] pos) := by
  have core : ∀ σ H Q, liftE X.K (wpE Γ G (.isN n a) x) σ H Q → liftE X.K (wpE Γ G a x) σ H fun v H1 => Q (.bl (if n then !decide (v = .non) else decide (v = .non))) H1 := fun σ H Q ⟨ρ, S, Kc, hρ, hs, ht, hk⟩ =>
    ⟨ρ, S, _, hρ, hs, ht, fun d S1 q v H1 e1 r1 hs1 => by
      have fin : ∀ c : Bool, decide (v = .non) = c → Kc (.bl (if n then !c else c)) S1 → Q (.bl (if n then !decide (v = .non) else decide (v = .non))) H1 := fun c ec k => by
        rw [ec]
        exact hk _ _ k _ _ e1 (.bl _) hs1
      cases d with
      | non => cases r1; exact fin true (decide_eq_true rfl) (by cases n <;> exact q)
      | bl _ => cases r1; exact fin false (decide_eq_false (by simp)) (by cases n <;> exact q)
      | int _ => cases r1; exact fin false (decide_eq_false (by simp)) (by cases n <;> exact q)
      | str _ => cases r1; exact fin false (decide_eq_false (by simp)) (by cases n <;> exact q)
      | ref _ => cases r1; exact fin false (decide_eq_false (by simp)) (by cases n <;> exact q)
      | tup _ => cases r1; exact fin false (decide_eq_false (by simp)) (by cases n <;> exact q)⟩
  have coreT : ∀ σ H Q, liftT X.K (wpT Γ G (.isN n a) x) σ H Q → liftE X.K (wpE Γ G a x) σ H fun v H1 => ∃ c, V.bl (if n then !decide (v = .non) else decide (v = .non)) = .bl c ∧ Q c H1 := fun σ H Q ⟨ρ, S, Kc, hρ, hs, ht, hk⟩ =>
    ⟨ρ, S, _, hρ, hs, ht, fun d S1 q v H1 e1 r1 hs1 => by
      have fin : ∀ c : Bool, decide (v = .non) = c → Kc (if n then !c else c) S1 → ∃ c, V.bl (if n then !decide (v = .non) else decide (v = .non)) = .bl c ∧ Q c H1 := fun c ec k => by
        rw [ec]
        exact ⟨_, rfl, hk _ _ k _ e1 hs1⟩
      cases d with
      | non => cases r1; exact fin true (decide_eq_true rfl) (by cases n <;> exact q)
      | bl _ => cases r1; exact fin false (decide_eq_false (by simp)) (by cases n <;> exact q)
      | int _ => cases r1; exact fin false (decide_eq_false (by simp)) (by cases n <;> exact q)
      | str _ => cases r1; exact fin false (decide_eq_false (by simp)) (by cases n <;> exact q)
      | ref _ => cases r1; exact fin false (decide_eq_false (by simp)) (by cases n <;> exact q)
      | tup _ => cases r1; exact fin false (decide_eq_false (by simp)) (by cases n <;> exact q)⟩
  cases n with
  | false => exact ⟨pe_mono (pe_cmp (pc_isN ha.pe)) core, pt_mono (pt_cmp (pc_isN ha.pe)) coreT, fun _ _ _ e => by cases e⟩
  | true => exact ⟨pe_mono (pe_cmp (pc_notN ha.pe)) core, pt_mono (pt_cmp (pc_notN ha.pe)) coreT, fun _ _ _ e => by cases e⟩
theorem snd_isB {b : Bool} {a : Ex φ} {y : Expr} {k : Nat} {p pos : Pos} (ha : Snd Γ G X x a y) : Snd Γ G X x (.isB b a) (.Compare y [.Is] [.Constant (.bool b) k p] pos) := by
  have core : ∀ σ H Q, liftE X.K (wpE Γ G (.isB b a) x) σ H Q → tOp rIsB (liftE X.K (wpE Γ G a x)) (tC (.bl b)) σ H Q := fun σ H Q ⟨ρ, S, Kc, hρ, hs, ht, hk⟩ =>
    ⟨ρ, S, _, hρ, hs, ht, fun d S1 q v H1 e1 r1 hs1 => by
      cases d with
      | bl c =>
        cases r1
        refine ⟨c, b, rfl, rfl, ?_⟩
        have e : decide (c = b) = (c == b) := by cases c <;> cases b <;> rfl
        rw [e]
        exact hk _ _ q _ _ e1 (.bl _) hs1
      | _ => exact False.elim q⟩
  have coreT : ∀ σ H Q, liftT X.K (wpT Γ G (.isB b a) x) σ H Q → tTest (tOp rIsB (liftE X.K (wpE Γ G a x)) (tC (.bl b))) σ H Q := fun σ H Q ⟨ρ, S, Kc, hρ, hs, ht, hk⟩ =>
    ⟨ρ, S, _, hρ, hs, ht, fun d S1 q v H1 e1 r1 hs1 => by
      cases d with
      | bl c =>
        cases r1
        refine ⟨c, b, rfl, rfl, _, rfl, ?_⟩
        have e : decide (c = b) = (c == b) := by cases c <;> cases b <;> rfl
        rw [e]
        exact hk _ _ q _ e1 hs1
      | _ => exact False.elim q⟩
  exact ⟨pe_mono (pe_cmpR op_isBl ha.pe pe_bl (nomark _)) core, pt_mono (pt_cmpR op_isBl ha.pe pe_bl (nomark _)) coreT, fun _ _ _ e => by cases e⟩

/-! ### and, or, not, if else -/
theorem and_core {a b : Ex φ} {σ : L2.St} {H : Hp} {Q : VK} (h : liftE X.K (wpE Γ G (.and a b) x) σ H Q) : tAndT X.K (liftE X.K (wpE Γ G a x)) (liftE X.K (wpE Γ G b x)) σ H Q := by
  obtain ⟨ρ, S, Kc, hρ, hs, ht, hk⟩ := h
  refine ⟨ρ, S, _, hρ, hs, ht, fun d S1 q v H1 e1 r1 hs1 => ?_⟩
  split at q
  · rename_i e
    exact ⟨true, tru_rp hs1 r1 e, by rw [if_pos rfl]; exact ⟨ρ, S1, Kc, hρ.mono e1.tup, hs1, q, (hk : Cl X.K H S Kc Q).later e1⟩⟩
  · rename_i e
    exact ⟨false, tru_rp hs1 r1 e, by rw [if_neg Bool.false_ne_true]; exact hk _ _ q _ _ e1 r1 hs1⟩
  · exact q.elim
theorem or_core {a b : Ex φ} {σ : L2.St} {H : Hp} {Q : VK} (h : liftE X.K (wpE Γ G (.or a b) x) σ H Q) : tOrT X.K (liftE X.K (wpE Γ G a x)) (liftE X.K (wpE Γ G b x)) σ H Q := by
  obtain ⟨ρ, S, Kc, hρ, hs, ht, hk⟩ := h
  refine ⟨ρ, S, _, hρ, hs, ht, fun d S1 q v H1 e1 r1 hs1 => ?_⟩
  split at q
  · rename_i e
    exact ⟨true, tru_rp hs1 r1 e, by rw [if_pos rfl]; exact hk _ _ q _ _ e1 r1 hs1⟩
  · rename_i e
    exact ⟨false, tru_rp hs1 r1 e, by rw [if_neg Bool.false_ne_true]; exact ⟨ρ, S1, Kc, hρ.mono e1.tup, hs1, q, (hk : Cl X.K H S Kc Q).later e1⟩⟩
  · exact q.elim
theorem andT_core {a b : Ex φ} {σ : L2.St} {H : Hp} {Q : Bool → Hp → Prop} (h : liftT X.K (wpT Γ G (.and a b) x) σ H Q) : tAnd (liftT X.K (wpT Γ G a x)) (liftT X.K (wpT Γ G b x)) σ H Q := by
  obtain ⟨ρ, S, Kc, hρ, hs, ht, hk⟩ := h
  refine ⟨ρ, S, fun c S1 => if c = true then wpT Γ G b x ρ S1 Kc else Kc false S1, hρ, hs, ?_, fun c S1 q H1 e1 hs1 => ?_⟩
  · have e : (fun (d : D) (S1 : SH) => match tru S1 d with
      | some b_1 => if b_1 = true then wpT Γ G b x ρ S1 Kc else Kc false S1
      | none => False) = fun d S1 => match tru S1 d with
      | some true => wpE Γ G b x ρ S1 fun d S1 => match tru S1 d with
        | some b => Kc b S1
        | none => False
      | some false => (match tru S1 d with
        | some b => Kc b S1
        | none => False)
      | none => False := by
      funext d S1
      cases h : tru S1 d with
      | none => rfl
      | some c => cases c <;> rfl
    exact Eq.mpr (congrArg (wpE Γ G a x ρ S) e) ht
  · cases c with
    | true =>
      rw [if_pos rfl] at q ⊢
      exact ⟨ρ, S1, Kc, hρ.mono e1.tup, hs1, q, fun b' S' k H' e2 h2 => hk b' S' k H' (e1.trans e2) h2⟩
    | false =>
      rw [if_neg Bool.false_ne_true] at q ⊢
      exact hk _ _ q _ e1 hs1
theorem orT_core {a b : Ex φ} {σ : L2.St} {H : Hp} {Q : Bool → Hp → Prop} (h : liftT X.K (wpT Γ G (.or a b) x) σ H Q) : tOr (liftT X.K (wpT Γ G a x)) (liftT X.K (wpT Γ G b x)) σ H Q := by
  obtain ⟨ρ, S, Kc, hρ, hs, ht, hk⟩ := h
  refine ⟨ρ, S, fun c S1 => if c = true then Kc true S1 else wpT Γ G b x ρ S1 Kc, hρ, hs, ?_, fun c S1 q H1 e1 hs1 => ?_⟩
  · have e : (fun (d : D) (S1 : SH) => match tru S1 d with
      | some b_1 => if b_1 = true then Kc true S1 else wpT Γ G b x ρ S1 Kc
      | none => False) = fun d S1 => match tru S1 d with
      | some true => (match tru S1 d with
        | some b => Kc b S1
        | none => False)
      | some false => wpE Γ G b x ρ S1 fun d S1 => match tru S1 d with
        | some b => Kc b S1
        | none => False
      | none => False := by
      funext d S1
      cases h : tru S1 d with
      | none => rfl
      | some c => cases c <;> rfl
    exact Eq.mpr (congrArg (wpE Γ G a x ρ S) e) ht
  · cases c with
    | false =>
      rw [if_neg Bool.false_ne_true] at q ⊢
      exact ⟨ρ, S1, Kc, hρ.mono e1.tup, hs1, q, fun b' S' k H' e2 h2 => hk b' S' k H' (e1.trans e2) h2⟩
    | true =>
      rw [if_pos rfl] at q ⊢
      exact hk _ _ q _ e1 hs1
/-- the last one of a chain of and, or -/
theorem snd_last {op : BoolOp} {b : Ex φ} {y : Expr} {pos : Pos} (hb : Snd Γ G X x b y) : Snd Γ G X x b (.BoolOp op [y] pos) := by
  have w : PW X (.BoolOp op [y] pos) (liftT X.K (wpT Γ G b x)) := by
    cases op with
    | And => exact pw_and1 hb.pt
    | Or => exact pw_or1 hb.pt
  exact ⟨pe_one hb.pe, w.pt, fun _ _ _ _ => w⟩
theorem snd_and {a b : Ex φ} {y z : Expr} {r : List Expr} {pos : Pos} (ha : Snd Γ G X x a y) (hb : Snd Γ G X x b (.BoolOp .And (z :: r) pos)) : Snd Γ G X x (.and a b) (.BoolOp .And (y :: z :: r) pos) := by
  have w := pw_mono (pw_and ha.pt (hb.pw _ _ _ rfl)) fun σ H Q h => andT_core (x := x) h
  exact ⟨pe_mono (pe_andT ha.pe hb.pe) fun σ H Q h => and_core h, w.pt, fun _ _ _ _ => w⟩
theorem snd_or {a b : Ex φ} {y z : Expr} {r : List Expr} {pos : Pos} (ha : Snd Γ G X x a y) (hb : Snd Γ G X x b (.BoolOp .Or (z :: r) pos)) : Snd Γ G X x (.or a b) (.BoolOp .Or (y :: z :: r) pos) := by
  have w := pw_mono (pw_or ha.pt (hb.pw _ _ _ rfl)) fun σ H Q h => orT_core (x := x) h
  exact ⟨pe_mono (pe_orT ha.pe hb.pe) fun σ H Q h => or_core h, w.pt, fun _ _ _ _ => w⟩
theorem snd_not {a : Ex φ} {y : Expr} {pos : Pos} (ha : Snd Γ G X x a y) : Snd Γ G X x (.not a) (.UnaryOp .Not y pos) := by
  refine ⟨pe_mono (pe_notT ha.pe) fun σ H Q ⟨ρ, S, Kc, hρ, hs, ht, hk⟩ => ⟨ρ, S, _, hρ, hs, ht, fun d S1 q v H1 e1 r1 hs1 => ?_⟩,
    pt_mono (pt_not ha.pt) fun σ H Q ⟨ρ, S, Kc, hρ, hs, ht, hk⟩ => ⟨ρ, S, fun c S1 => Kc (!c) S1, hρ, hs, ?_, fun c S1 q H1 e1 hs1 => hk _ _ q _ e1 hs1⟩, fun _ _ _ e => by cases e⟩
  · split at q
    · rename_i c e
      exact ⟨c, tru_rp hs1 r1 e, hk _ _ q _ _ e1 (.bl _) hs1⟩
    · exact q.elim
  · exact ht
theorem snd_ite {c a b : Ex φ} {y z w : Expr} {pos : Pos} (hc : Snd Γ G X x c y) (ha : Snd Γ G X x a z) (hb : Snd Γ G X x b w) : Snd Γ G X x (.ite c a b) (.IfExp y z w pos) := by
  refine ⟨pe_mono (pe_ifExp hc.pt ha.pe hb.pe) fun σ H Q ⟨ρ, S, Kc, hρ, hs, ht, hk⟩ => ?_, ?_, fun _ _ _ e => by cases e⟩
  · refine ⟨ρ, S, fun k S1 => if k = true then wpE Γ G a x ρ S1 Kc else wpE Γ G b x ρ S1 Kc, hρ, hs, ?_, fun k S1 q H1 e1 hs1 => ?_⟩
    · have e : (fun (d : D) (S1 : SH) => match tru S1 d with
        | some k => if k = true then wpE Γ G a x ρ S1 Kc else wpE Γ G b x ρ S1 Kc
        | none => False) = fun d S1 => match tru S1 d with
        | some true => wpE Γ G a x ρ S1 Kc
        | some false => wpE Γ G b x ρ S1 Kc
        | none => False := by
        funext d S1
        cases h : tru S1 d with
        | none => rfl
        | some c => cases c <;> rfl
      exact Eq.mpr (congrArg (wpE Γ G c x ρ S) e) ht
    · cases k with
      | true => rw [if_pos rfl] at q ⊢; exact ⟨ρ, S1, Kc, hρ.mono e1.tup, hs1, q, (hk : Cl X.K H S Kc Q).later e1⟩
      | false => rw [if_neg Bool.false_ne_true] at q ⊢; exact ⟨ρ, S1, Kc, hρ.mono e1.tup, hs1, q, (hk : Cl X.K H S Kc Q).later e1⟩
  · refine ⟨fun pins st σ H Q I ⟨ρ, S, Kc, hρ, hs, ht, hk⟩ => ?_⟩
    have go : liftT X.K (wpT Γ G c x) σ H fun k H1 => if k = true then liftT X.K (wpT Γ G a x) σ H1 Q else liftT X.K (wpT Γ G b x) σ H1 Q := by
      refine ⟨ρ, S, fun k S1 => if k = true then wpT Γ G a x ρ S1 Kc else wpT Γ G b x ρ S1 Kc, hρ, hs, ?_, fun k S1 q H1 e1 hs1 => ?_⟩
      · have e : (fun (d : D) (S1 : SH) => match tru S1 d with
          | some k => if k = true then wpT Γ G a x ρ S1 Kc else wpT Γ G b x ρ S1 Kc
          | none => False) = fun d S1 => match tru S1 d with
          | some true => wpT Γ G a x ρ S1 Kc
          | some false => wpT Γ G b x ρ S1 Kc
          | none => False := by
          funext d S1
          cases h : tru S1 d with
          | none => rfl
          | some c => cases c <;> rfl
        exact Eq.mpr (congrArg (wpE Γ G c x ρ S) e) ht
      · cases k with
        | true => rw [if_pos rfl] at q ⊢; exact ⟨ρ, S1, Kc, hρ.mono e1.tup, hs1, q, fun b' S' k H' e2 h2 => hk b' S' k H' (e1.trans e2) h2⟩
        | false => rw [if_neg Bool.false_ne_true] at q ⊢; exact ⟨ρ, S1, Kc, hρ.mono e1.tup, hs1, q, fun b' S' k H' e2 h2 => hk b' S' k H' (e1.trans e2) h2⟩
    refine isTrue_IfExp (thn (hc.pt.run pins st σ H _ I go) fun d s1 ⟨H1, I1, q1⟩ => ?_)
    cases d with
    | true => exact ha.pt.run pins s1 σ H1 Q I1 q1
    | false => exact hb.pt.run pins s1 σ H1 Q I1 q1
end
end Lac
end

-- LacK.lean
section
set_option Elab.async false
set_option linter.all false
set_option maxRecDepth 100000
set_option maxHeartbeats 2000000
set_option autoImplicit false
/-! Lac, part K: subscripts, calls, comprehensions; the soundness of every expression. -/
namespace Lac
open PySem PySem.Spec PyProof.Rows L2
section
variable {φ : Type} {pg : Pg φ} {Γ : φ → DSp} {G : Nat → Option D} {N : List Str} {sc : Scope} {X : Cx} {x : XW}
theorem noslice {e : Ex φ} {ex : Expr} (h : ckE pg N sc e ex = true) : ∀ o i, subscripted ex false o i = operate [o, i] (getItem o i) := by
  cases ex with
  | Slice a b c p => cases e <;> exact (Bool.false_ne_true h).elim
  | _ => exact fun _ _ => rfl
theorem snd_idx (s : Sit pg Γ G N sc X) {a i : Ex φ} {y z : Expr} {pos : Pos} (ha : Snd Γ G X x a y) (hi : Snd Γ G X x i z) (k : ckE pg N sc i z = true) : Snd Γ G X x (.idx a i) (.Subscript y z pos) :=
  .mk1 (pe_mono (pe_ix (ix_all s.hu) ha.pe hi.pe (noslice k)) fun σ H Q h => two_of h) rfl
theorem po_of {e : Ex φ} {ex : Expr} (h : Snd Γ G X x e ex) : PO X (some ex) (tPart (liftE X.K (wpE Γ G e x))) := po_some h.pe
theorem snd_slcL {a lo : Ex φ} {y z : Expr} {p pos : Pos} (ha : Snd Γ G X x a y) (hl : Snd Γ G X x lo z) : Snd Γ G X x (.slcL a lo) (.Subscript y (.Slice (some z) none none p) pos) := by
  refine .mk1 (pe_mono (pe_slice sl_all ha.pe (po_of hl) po_none) fun σ H Q ⟨ρ, S, Kc, hρ, hs, ht, hk⟩ => ?_) rfl
  refine ⟨ρ, S, _, hρ, hs, ht, fun d S1 q v H1 e1 r1 hs1 => ⟨ρ, S1, _, hρ.mono e1.tup, hs1, q, fun e S2 q2 u H2 e2 r2 hs2 => ?_⟩⟩
  cases e with
  | int i =>
    cases r2
    exact ⟨i, rfl, d, S2, Kc, Rp.mono e2.tup _ r1, hs2, q2, (hk : Cl X.K H S Kc Q).later (e1.trans e2)⟩
  | _ => exact False.elim q2
theorem snd_slcU {a hi : Ex φ} {y z : Expr} {p pos : Pos} (ha : Snd Γ G X x a y) (hl : Snd Γ G X x hi z) : Snd Γ G X x (.slcU a hi) (.Subscript y (.Slice none (some z) none p) pos) := by
  refine .mk1 (pe_mono (pe_slice sl_all ha.pe po_none (po_of hl)) fun σ H Q ⟨ρ, S, Kc, hρ, hs, ht, hk⟩ => ?_) rfl
  refine ⟨ρ, S, _, hρ, hs, ht, fun d S1 q v H1 e1 r1 hs1 => ⟨ρ, S1, _, hρ.mono e1.tup, hs1, q, fun e S2 q2 u H2 e2 r2 hs2 => ?_⟩⟩
  cases e with
  | int i =>
    cases r2
    exact ⟨i, rfl, d, S2, Kc, Rp.mono e2.tup _ r1, hs2, q2, (hk : Cl X.K H S Kc Q).later (e1.trans e2)⟩
  | _ => exact False.elim q2
theorem snd_slcB {a lo hi : Ex φ} {y z w : Expr} {p pos : Pos} (ha : Snd Γ G X x a y) (hl : Snd Γ G X x lo z) (hh : Snd Γ G X x hi w) : Snd Γ G X x (.slcB a lo hi) (.Subscript y (.Slice (some z) (some w) none p) pos) := by
  refine .mk1 (pe_mono (pe_slice sl_all ha.pe (po_of hl) (po_of hh)) fun σ H Q ⟨ρ, S, Kc, hρ, hs, ht, hk⟩ => ?_) rfl
  refine ⟨ρ, S, _, hρ, hs, ht, fun d S1 q v H1 e1 r1 hs1 => ⟨ρ, S1, _, hρ.mono e1.tup, hs1, q, fun e S2 q2 u H2 e2 r2 hs2 => ?_⟩⟩
  cases e with
  | int i =>
    cases r2
    refine ⟨i, rfl, ρ, S2, _, hρ.mono (e1.trans e2).tup, hs2, q2, fun f S3 q3 w H3 e3 r3 hs3 => ?_⟩
    cases f with
    | int j =>
      cases r3
      exact ⟨j, rfl, d, S3, Kc, Rp.mono (e2.trans e3).tup _ r1, hs3, q3, (hk : Cl X.K H S Kc Q).later ((e1.trans e2).trans e3)⟩
    | _ => exact False.elim q3
  | _ => exact False.elim q2
theorem snd_rev {a : Ex φ} {y : Expr} {k : Nat} {p1 p2 p3 pos : Pos} (ha : Snd Γ G X x a y) : Snd Γ G X x (.rev a) (.Subscript y (.Slice none none (some (.UnaryOp .USub (.Constant (.int 1) k p1) p2)) p3) pos) := by
  refine .mk1 (pe_mono (pe_revA ha.pe) fun σ H Q ⟨ρ, S, Kc, hρ, hs, ht, hk⟩ => ⟨ρ, S, _, hρ, hs, ht, fun d S1 q v H1 e1 r1 hs1 => ?_⟩) rfl
  cases d with
  | tup ds =>
    cases r1 with
    | tup tq r => exact ⟨_, _, rfl, .inr ⟨tq, fun p o hp po => hk _ _ q _ _ (e1.trans (Ev.newN hp)) (.tup (TupR.of upd_same po) (Rps.mono (te_new hp) _ r.rev)) (hs1.newN hp)⟩⟩
  | ref a =>
    cases r1
    have q' : (match S1 a with
      | some (.lst ds) => newL ds.reverse S1 Kc
      | _ => False) := q
    split at q'
    · rename_i ds e
      obtain ⟨vs, hq, r⟩ := hs1.lst e
      exact ⟨a, vs, rfl, .inl ⟨SqL.of hq, fun p hp => hk _ _ (q' p (hs1.free hp)) _ _ (e1.trans (Ev.new hp)) (.ref _) (hs1.newL hp r.rev)⟩⟩
    · exact q'.elim
  | _ => exact False.elim q

/-! ### calls -/
theorem few_of {cpos : Pos} {l : List (Bool × Sem Value)} (h : l.any (·.1) = false) : (backTo cpos l).all (fun x => !x.1) = true := by
  have := back_any cpos h
  rw [List.any_eq_false] at this
  rw [List.all_eq_true]
  intro y hy
  have := this y hy
  simpa using this
theorem star_of_ck {e : Ex φ} {es : List (Ex φ)} {y : Expr} {ys : List Expr} (h : ckEs pg N sc (e :: es) (y :: ys) = true) (env : PySem.Env) : starEach (y :: ys) env = (false, eval y env) :: starEach ys env :=
  star_cons (ck_nostar (ba (show (ckE pg N sc e y && ckEs pg N sc es ys) = true from h)).1)
theorem tail_ck {e : Ex φ} {es : List (Ex φ)} {y : Expr} {ys : List Expr} (h : ckEs pg N sc (e :: es) (y :: ys) = true) : ckEs pg N sc es ys = true :=
  (ba (show (ckE pg N sc e y && ckEs pg N sc es ys) = true from h)).2
theorem snd_call (s : Sit pg Γ G N sc X) {f : φ} {es : List (Ex φ)} {y : Str} {fs : List Expr} {p pos : Pos} (hn : pg.nm f = y) (hg : glB sc y = true) (hd : ndB y = true) (hl : es.length = (pg.ps f).length) (ck : ckEs pg N sc es fs = true)
    (ha : PA X fs (liftA X.K es.length (wpEs Γ G es x))) : Snd Γ G X x (.call f es) (.Call (.Name y p) fs [] pos) := by
  subst hn
  obtain ⟨n1, n2, n3⟩ := nd_of hd
  obtain ⟨k, a, fd, hr, hm, hk, hb, F⟩ := s.fns f
  have go : ∀ σ H Q, liftE X.K (wpE Γ G (.call f es) x) σ H Q → (liftA X.K es.length (wpEs Γ G es x)) σ H fun vs H1 => liftSp X.K (pg.ps f).length (Γ f) (vs ++ []) H1 Q E0 := fun σ H Q ⟨ρ, S, Kc, hρ, hs, ht, hk⟩ =>
    ⟨ρ, S, _, hρ, hs, ht, fun ds S1 q vs H1 hz e1 r1 hs1 => ⟨by rw [List.append_nil, hz, hl], ds, S1, Kc, x, by rw [List.append_nil]; exact r1, hs1, q, (hk : Cl X.K H S Kc Q).later e1⟩⟩
  cases fs with
  | nil =>
    cases es with
    | nil => exact .mk1 (pe_mono (pe_call0 F hr (gl_of s hg) hm hk hb .nil pass0 n1) fun σ H Q h => by
        obtain ⟨ρ, S, Kc, hρ, hs, ht, hk2⟩ := go σ H Q h
        exact hk2 [] S ht [] H rfl Ev.refl .nil hs) rfl
    | cons => cases ck
  | cons z zs =>
    cases es with
    | nil => cases ck
    | cons e es =>
      exact .mk1 (pe_mono (pe_call F hr (gl_of s hg) hm hk hb .nil pass0 ha n1 (star_of_ck ck _) (back_any _ (star_any (tail_ck ck) _))) go) rfl
theorem tyN_ty (t : Ty) : bootBuiltins (tyN t : Str) = some (.type (tyN t)) := by cases t <;> decide +kernel
theorem snd_isi (s : Sit pg Γ G N sc X) {t : Ty} {a : Ex φ} {y : Expr} {p p2 pos : Pos} (h1 : bltB pg sc "isinstance" = true) (h2 : bltB pg sc (tyN t) = true) (k : ckE pg N sc a y = true) (ha : Snd Γ G X x a y) :
    Snd Γ G X x (.isi t a) (.Call (.Name "isinstance" p) [y, .Name (tyN t) p2] [] pos) := by
  obtain ⟨g1, m1, d1, n1⟩ := blt_of s h1
  obtain ⟨g2, m2, d2, n2⟩ := blt_of s h2
  have st : PE X (.Name (tyN t) p2) (tC (.ty (tyN t))) := pe_bltn (u := .type (tyN t)) g2 m2 (tyN_ty t) rfl n2 d2
  have hs1 : starEach (y :: [.Name (tyN t) p2]) X.env = (false, eval y X.env) :: starEach [.Name (tyN t) p2] X.env := star_cons (ck_nostar k)
  refine .mk1 (pe_mono (pe_callB call_isi g1 m1 (by decide +kernel) (pa_cons ha.pe (pa_cons st pa_nil rfl) hs1) n1 d1 hs1 rfl) fun σ H Q ⟨ρ, S, Kc, hρ, hs, ht, hk⟩ => ?_) rfl
  refine ⟨ρ, S, _, hρ, hs, ht, fun d S1 q v H1 e1 r1 hs1 => ?_⟩
  split at q
  · rename_i b e
    obtain ⟨u, ty, ko⟩ := isTy_ok hs1 r1 e
    exact ⟨v, .ty (tyN t), u, _, b, rfl, .ty _, ty, ko, hk _ _ q _ _ e1 (.bl _) hs1⟩
  · exact q.elim
theorem bf_boot (f : Bf) : bootBuiltins (bfNm f) = some f.fn := by cases f <;> decide +kernel
theorem snd_bf (s : Sit pg Γ G N sc X) {f : Bf} {es : List (Ex φ)} {y : Str} {z : Expr} {fs : List Expr} {p pos : Pos} (hn : bfNm f = y) (hg : bltB pg sc y = true) (ck : ckEs pg N sc es (z :: fs) = true)
    (ha : PA X (z :: fs) (liftA X.K es.length (wpEs Γ G es x))) : Snd Γ G X x (.bf f es) (.Call (.Name y p) (z :: fs) [] pos) := by
  subst hn
  obtain ⟨g1, m1, d1, n1⟩ := blt_of s hg
  cases es with
  | nil => cases ck
  | cons e es =>
    have st := star_of_ck ck X.env
    have bk := back_any pos (star_any (tail_ck ck) X.env)
    have go : ∀ σ H Q, liftE X.K (wpE Γ G (.bf f (e :: es)) x) σ H Q → tCB (liftC X.K (dBf f)) (liftA X.K (e :: es).length (wpEs Γ G (e :: es) x)) σ H Q := fun σ H Q ⟨ρ, S, Kc, hρ, hs, ht, hk⟩ =>
      ⟨ρ, S, _, hρ, hs, ht, fun ds S1 q vs H1 hz e1 r1 hs1 => ⟨ds, S1, Kc, r1, hs1, q, (hk : Cl X.K H S Kc Q).later e1⟩⟩
    have C := bf_all (X := X) s.calm f
    have B := bf_boot f
    have viaB : ∀ id, f.fn = .builtin id → Snd Γ G X x (.bf f (e :: es)) (.Call (.Name (bfNm f) p) (z :: fs) [] pos) := fun id q => by
      rw [q] at C B
      exact .mk1 (pe_mono (pe_callB C g1 m1 B ha n1 d1 st bk) go) rfl
    have viaT : ∀ id, f.fn = .type id → Snd Γ G X x (.bf f (e :: es)) (.Call (.Name (bfNm f) p) (z :: fs) [] pos) := fun id q => by
      rw [q] at C B
      exact .mk1 (pe_mono (pe_callTy C g1 m1 B ha n1 d1 st bk) go) rfl
    cases f <;> first | exact viaB _ rfl | exact viaT _ rfl
theorem base_of {o : Expr} {m : Str} (h : notCall0 o = true) (env : PySem.Env) : attributeBase o m env (eval o env) = eval o env := by
  unfold attributeBase
  split
  · cases h
  · rfl
theorem snd_meth (s : Sit pg Γ G N sc X) {m : Mt} {o : Ex φ} {es : List (Ex φ)} {y : Expr} {fs : List Expr} {apos cpos : Pos} (hline : (apos.endLine == cpos.line) = true) (h0 : notCall0 y = true) (hfew : fs.length < 20) (ck : ckEs pg N sc es fs = true)
    (ho : Snd Γ G X x o y) (ha : PA X fs (liftA X.K es.length (wpEs Γ G es x))) : Snd Γ G X x (.meth m o es) (.Call (.Attribute y (mtNm m) apos) fs [] cpos) := by
  have M := mt_all (X := X) s.hu m
  have few : ((backTo cpos (starEach fs X.env)).all (fun x => !x.1) && (backToKw cpos (keywordEach [] X.env)).all (fun x => x.1.isSome)
      && decide (fs.length + ([] : List Keyword).length + (if ([] : List Keyword).isEmpty then 0 else 1) < 30)) = true := by
    rw [few_of (star_any ck X.env)]
    simp only [Bool.true_and]
    have : decide (fs.length + ([] : List Keyword).length + (if ([] : List Keyword).isEmpty then 0 else 1) < 30) = true := decide_eq_true (by simp; omega)
    rw [this]
    rfl
  have go : ∀ T, T = mtT m → ∀ σ H Q, liftE X.K (wpE Γ G (.meth m o es) x) σ H Q → tBM X.K T (liftM X.K m) (liftE X.K (wpE Γ G o x)) (liftA X.K es.length (wpEs Γ G es x)) σ H Q := fun T eT σ H Q ⟨ρ, S, Kc, hρ, hs, ht, hk⟩ =>
    ⟨ρ, S, _, hρ, hs, ht, fun d S1 q v H1 e1 r1 hs1 => ⟨by rw [eT]; exact mtTy_ok hs1 r1 q.1, ρ, S1, _, hρ.mono e1.tup, hs1, q.2, fun ds S2 q2 vs H2 hz e2 r2 hs2 =>
      ⟨d, ds, S2, Kc, Rp.mono e2.tup _ r1, r2, hs2, q2, (hk : Cl X.K H S Kc Q).later (e1.trans e2)⟩⟩⟩
  have go0 : es = [] → ∀ T, T = mtT m → ∀ σ H Q, liftE X.K (wpE Γ G (.meth m o es) x) σ H Q → tBM0 X.K T (liftM X.K m) (liftE X.K (wpE Γ G o x)) σ H Q := fun ee T eT σ H Q ⟨ρ, S, Kc, hρ, hs, ht, hk⟩ => by
    subst ee
    exact ⟨ρ, S, _, hρ, hs, ht, fun d S1 q v H1 e1 r1 hs1 => ⟨by rw [eT]; exact mtTy_ok hs1 r1 q.1, d, [], S1, Kc, r1, .nil, hs1, q.2, (hk : Cl X.K H S Kc Q).later e1⟩⟩
  cases fs with
  | nil =>
    have ee : es = [] := by
      cases es with
      | nil => rfl
      | cons => cases ck
    cases m with
    | append => exact .mk1 (pe_mono (pe_bm0 PySem.F.plainAttrs_list PySem.F.slot_list_append PySem.F.type_list_append M ho.pe (base_of h0 _) hline) (go0 ee _ rfl)) rfl
    | extend => exact .mk1 (pe_mono (pe_bm0 PySem.F.plainAttrs_list PySem.F.slot_list_extend PySem.F.type_list_extend M ho.pe (base_of h0 _) hline) (go0 ee _ rfl)) rfl
    | pop => exact .mk1 (pe_mono (pe_bm0 PySem.F.plainAttrs_list PySem.F.slot_list_pop PySem.F.type_list_pop M ho.pe (base_of h0 _) hline) (go0 ee _ rfl)) rfl
    | get => exact .mk1 (pe_mono (pe_bm0 PySem.F.plainAttrs_dict PySem.F.slot_dict_get PySem.F.type_dict_get M ho.pe (base_of h0 _) hline) (go0 ee _ rfl)) rfl
    | join => exact .mk1 (pe_mono (pe_bm0 PySem.F.plainAttrs_str PySem.F.slot_str_join PySem.F.type_str_join M ho.pe (base_of h0 _) hline) (go0 ee _ rfl)) rfl
    | index => exact .mk1 (pe_mono (pe_bm0 PySem.F.plainAttrs_list PySem.F.slot_list_index PySem.F.type_list_index M ho.pe (base_of h0 _) hline) (go0 ee _ rfl)) rfl
  | cons z zs =>
    cases es with
    | nil => cases ck
    | cons e es =>
      have st := star_of_ck ck X.env
      have bk := back_any cpos (star_any (tail_ck ck) X.env)
      cases m with
      | append => exact .mk1 (pe_mono (pe_bm PySem.F.plainAttrs_list PySem.F.slot_list_append PySem.F.type_list_append M ho.pe ha (base_of h0 _) few hline st bk) (go _ rfl)) rfl
      | extend => exact .mk1 (pe_mono (pe_bm PySem.F.plainAttrs_list PySem.F.slot_list_extend PySem.F.type_list_extend M ho.pe ha (base_of h0 _) few hline st bk) (go _ rfl)) rfl
      | pop => exact .mk1 (pe_mono (pe_bm PySem.F.plainAttrs_list PySem.F.slot_list_pop PySem.F.type_list_pop M ho.pe ha (base_of h0 _) few hline st bk) (go _ rfl)) rfl
      | get => exact .mk1 (pe_mono (pe_bm PySem.F.plainAttrs_dict PySem.F.slot_dict_get PySem.F.type_dict_get M ho.pe ha (base_of h0 _) few hline st bk) (go _ rfl)) rfl
      | join => exact .mk1 (pe_mono (pe_bm PySem.F.plainAttrs_str PySem.F.slot_str_join PySem.F.type_str_join M ho.pe ha (base_of h0 _) few hline st bk) (go _ rfl)) rfl
      | index => exact .mk1 (pe_mono (pe_bm PySem.F.plainAttrs_list PySem.F.slot_list_index PySem.F.type_list_index M ho.pe ha (base_of h0 _) few hline st bk) (go _ rfl)) rfl
end
end Lac
end

-- LacL.lean
section
set_option Elab.async false
set_option linter.all false
set_option maxRecDepth 100000
set_option maxHeartbeats 2000000
set_option autoImplicit false
/-! Lac, part L: comprehensions; the soundness of every expression. -/
namespace Lac
open PySem PySem.Spec PyProof.Rows L2
/-! ### targets -/
theorem wipe_set_in {σ : L2.St} {o : Option V} {i : Nat} : ∀ {vs : List Nat}, i ∈ vs → wipe (σ.set i o) vs = wipe σ vs
  | [], h => by cases h
  | v :: vs, h => by
    by_cases hv : i ∈ vs
    · show (wipe (σ.set i o) vs).set v none = (wipe σ vs).set v none
      rw [wipe_set_in hv]
    · have e : v = i := by
        rcases List.mem_cons.mp h with q | q
        · exact q.symm
        · exact absurd q hv
      subst e
      show (wipe (σ.set v o) vs).set v none = (wipe σ vs).set v none
      have : wipe (σ.set v o) vs = (wipe σ vs).set v o := by
        clear h
        induction vs with
        | nil => rfl
        | cons u us ih =>
          show (wipe (σ.set v o) us).set u none = ((wipe σ us).set u none).set v o
          have hu : v ≠ u := fun e => hv (by simp [e])
          rw [ih fun q => hv (List.mem_cons_of_mem _ q), List.set_comm _ _ hu]
      rw [this, List.set_set]
theorem wipe_wipe {σ : L2.St} : ∀ {vs ws : List Nat}, (∀ v ∈ vs, v ∈ ws) → wipe (wipe σ vs) ws = wipe σ ws
  | [], _, _ => rfl
  | v :: vs, ws, h => by
    show wipe ((wipe σ vs).set v none) ws = _
    rw [wipe_set_in (h v (by simp)), wipe_wipe fun u hu => h u (List.mem_cons_of_mem _ hu)]
mutual
theorem gT_ex : ∀ (t : Tg) (d : D) (ρ : Env) (Q : Env → Prop), gT t d ρ Q → ∃ ρ', Q ρ'
  | .nm i, d, ρ, Q, h => ⟨_, h⟩
  | .tup ts, d, ρ, Q, h => by
    cases d with
    | tup ds => exact (gTs_ex ts ds ρ Q h).2
    | _ => exact False.elim h
theorem gTs_ex : ∀ (ts : List Tg) (ds : List D) (ρ : Env) (Q : Env → Prop), gTs ts ds ρ Q → ds.length = ts.length ∧ ∃ ρ', Q ρ'
  | [], [], ρ, Q, h => ⟨rfl, _, h⟩
  | [], _ :: _, _, _, h => False.elim h
  | _ :: _, [], _, _, h => False.elim h
  | t :: ts, d :: ds, ρ, Q, h => by
    obtain ⟨ρ1, h1⟩ := gT_ex t d ρ _ h
    obtain ⟨l, r⟩ := gTs_ex ts ds ρ1 Q h1
    exact ⟨by simp [l], r⟩
end
/-- a target's reading, told by data -/
structure TgOk (K : PySem.W.Frag) (t : Tg) (g : TG) : Prop where
  run : ∀ v σ H d ρ (Kc : Env → Prop) (Q : L2.St → Hp → Prop), Rp K H v d → EnvR K H σ ρ → gT t d ρ Kc →
    (∀ σ' ρ', Kc ρ' → EnvR K H σ' ρ' → (∀ vs, (∀ i ∈ slotsT t, i ∈ vs) → wipe σ' vs = wipe σ vs) → Q σ' H) → g v σ H Q
structure TgsOk (K : PySem.W.Frag) (ts : List Tg) (g : TGs) : Prop where
  run : ∀ xs σ H ds ρ (Kc : Env → Prop) (Q : L2.St → Hp → Prop), Rps K H xs ds → EnvR K H σ ρ → gTs ts ds ρ Kc →
    (∀ σ' ρ', Kc ρ' → EnvR K H σ' ρ' → (∀ vs, (∀ i ∈ slotsTs ts, i ∈ vs) → wipe σ' vs = wipe σ vs) → Q σ' H) → g xs σ H Q
/-- which names may be stored -/
structure StOk (X : Cx) (N : List Str) (st : Str → Bool) : Prop where
  n : X.N = N
  nd : N.Nodup
  calm : X.calm = true
  loc : ∀ y, st y = true → Loc X.env.scope y
  fn : ∀ y, st y = true → X.fn y = true ∨ X.env.scope.names.lookup y = some .local
theorem ckT_nostar {N : List Str} {st : Str → Bool} {t : Tg} {ex : Expr} (h : ckT N st t ex = true) (env : PySem.Env) (es : List Expr) : (assignEach (ex :: es) env).map (·.2) = assign ex env :: (assignEach es env).map (·.2) ∧ ((assignEach (ex :: es) env).findIdx? (·.1) = none ↔ (assignEach es env).findIdx? (·.1) = none) ∧ (assignEach (ex :: es) env).length = (assignEach es env).length + 1 := by
  have key : assignEach (ex :: es) env = (false, assign ex env) :: assignEach es env := by
    cases ex with
    | Starred => cases t <;> exact (Bool.false_ne_true h).elim
    | _ => rfl
  rw [key]
  exact ⟨rfl, by simp [List.findIdx?_cons], rfl⟩
theorem ckTs_star {N : List Str} {st : Str → Bool} : ∀ {ts : List Tg} {es : List Expr}, ckTs N st ts es = true → ∀ env : PySem.Env, (assignEach es env).findIdx? (·.1) = none ∧ (assignEach es env).length = ts.length
  | [], [], _, _ => ⟨rfl, rfl⟩
  | [], _ :: _, h, _ => (Bool.false_ne_true h).elim
  | _ :: _, [], h, _ => (Bool.false_ne_true h).elim
  | t :: ts, e :: es, h, env => by
    obtain ⟨h1, h2⟩ := ba (show (ckT N st t e && ckTs N st ts es) = true from h)
    obtain ⟨_, k1, k2⟩ := ckT_nostar h1 env es
    obtain ⟨r1, r2⟩ := ckTs_star h2 env
    exact ⟨k1.mpr r1, by rw [k2, r2]; rfl⟩
mutual
theorem sndT {X : Cx} {N : List Str} {st : Str → Bool} (s : StOk X N st) : ∀ (t : Tg) (ex : Expr), ckT N st t ex = true → ∃ g, PG X ex g ∧ TgOk X.K t g
  | .nm i, .Name y pos, h => by
    obtain ⟨h1, h2⟩ := ba (show (decide (N[i]? = some y) && st y) = true from h)
    refine ⟨gName i, pg_name (by rw [s.n]; exact s.nd) (by rw [s.n]; exact of_decide_eq_true h1) (s.loc y h2) (s.fn y h2), ⟨fun v σ H d ρ Kc Q r e q k => ?_⟩⟩
    exact k _ _ q (e.set r) fun vs hv => wipe_set_in (hv i (by simp [slotsT]))
  | .tup ts, .Tuple es kk pos, h => by
    have h : ckTs N st ts es = true := h
    obtain ⟨g, p, r⟩ := sndTs s ts es h
    obtain ⟨r1, r2⟩ := ckTs_star h X.env
    refine ⟨gTup X.K ts.length g, pg_tup s.calm p r2 r1, ⟨fun v σ H d ρ Kc Q rp e q k => ?_⟩⟩
    cases d with
    | tup ds =>
      cases rp with
      | @tup a xs _ tq rr =>
        exact ⟨a, xs, rfl, tq.sq, by rw [rr.length]; exact (gTs_ex ts ds ρ Kc q).1, r.run xs σ H ds ρ Kc Q rr e q k⟩
    | _ => exact False.elim q
  | .nm _, .BoolOp .., h | .nm _, .NamedExpr .., h | .nm _, .BinOp .., h | .nm _, .UnaryOp .., h | .nm _, .Lambda .., h | .nm _, .IfExp .., h | .nm _, .Dict .., h | .nm _, .Set .., h | .nm _, .ListComp .., h | .nm _, .SetComp .., h
  | .nm _, .DictComp .., h | .nm _, .GeneratorExp .., h | .nm _, .Await .., h | .nm _, .Yield .., h | .nm _, .YieldFrom .., h | .nm _, .Compare .., h | .nm _, .Call .., h | .nm _, .FormattedValue .., h | .nm _, .JoinedStr .., h
  | .nm _, .Constant .., h | .nm _, .Attribute .., h | .nm _, .Subscript .., h | .nm _, .Starred .., h | .nm _, .List .., h | .nm _, .Tuple .., h | .nm _, .Slice .., h => (Bool.false_ne_true h).elim
  | .tup _, .BoolOp .., h | .tup _, .NamedExpr .., h | .tup _, .BinOp .., h | .tup _, .UnaryOp .., h | .tup _, .Lambda .., h | .tup _, .IfExp .., h | .tup _, .Dict .., h | .tup _, .Set .., h | .tup _, .ListComp .., h | .tup _, .SetComp .., h
  | .tup _, .DictComp .., h | .tup _, .GeneratorExp .., h | .tup _, .Await .., h | .tup _, .Yield .., h | .tup _, .YieldFrom .., h | .tup _, .Compare .., h | .tup _, .Call .., h | .tup _, .FormattedValue .., h | .tup _, .JoinedStr .., h
  | .tup _, .Constant .., h | .tup _, .Attribute .., h | .tup _, .Subscript .., h | .tup _, .Starred .., h | .tup _, .List .., h | .tup _, .Name .., h | .tup _, .Slice .., h => (Bool.false_ne_true h).elim
theorem sndTs {X : Cx} {N : List Str} {st : Str → Bool} (s : StOk X N st) : ∀ (ts : List Tg) (es : List Expr), ckTs N st ts es = true → ∃ g, PGs X es g ∧ TgsOk X.K ts g
  | [], [], h => ⟨gNil, pgs_nil, ⟨fun xs σ H ds ρ Kc Q r e q k => by
      cases ds with
      | nil => cases r; exact ⟨rfl, k _ _ q e fun _ _ => rfl⟩
      | cons => exact False.elim q⟩⟩
  | t :: ts, e :: es, h => by
    obtain ⟨h1, h2⟩ := ba (show (ckT N st t e && ckTs N st ts es) = true from h)
    obtain ⟨g1, p1, r1⟩ := sndT s t e h1
    obtain ⟨g2, p2, r2⟩ := sndTs s ts es h2
    refine ⟨gCons g1 g2, pgs_cons p1 p2 (ckT_nostar h1 X.env es).1, ⟨fun xs σ H ds ρ Kc Q r e q k => ?_⟩⟩
    cases ds with
    | nil => exact False.elim q
    | cons d ds =>
      cases r with
      | @cons v vs _ _ a b =>
        refine ⟨v, vs, rfl, r1.run v σ H d ρ _ _ a e q fun σ1 ρ1 q1 e1 w1 => ?_⟩
        refine r2.run vs σ1 H ds ρ1 Kc Q b e1 q1 fun σ2 ρ2 q2 e2 w2 => k σ2 ρ2 q2 e2 fun vs hv => ?_
        rw [w2 vs fun i hi => hv i (by simp [slotsTs, hi]), w1 vs fun i hi => hv i (by simp [slotsTs, hi])]
  | [], _ :: _, h => (Bool.false_ne_true h).elim
  | _ :: _, [], h => (Bool.false_ne_true h).elim
end
/-! ### comprehensions -/
section
variable {φ : Type} {pg : Pg φ} {Γ : φ → DSp} {G : Nat → Option D} {N : List Str} {sc : Scope} {X : Cx} {x : XW}
theorem relS_loc {scope sc0 : Scope} {y : Str} (h : locB scope y = true) : (relS scope sc0).names.lookup y = some .local ∨ ((relS scope sc0).names.lookup y = some .cell ∧ scope.names.lookup y = some .cell) := by
  unfold locB at h
  split at h
  · rename_i e; exact .inl (lookup_relS_keep (by simp) e)
  · rename_i e; exact .inr ⟨lookup_relS_keep (by simp) e, e⟩
  · cases h
theorem stok_blk (s : Sit pg Γ G N sc X) (st : Shared) (H : Hp) (scope : Scope) (cl : List (Str × Addr)) (C : Addr) (fp : List Addr) : StOk (X.blk st H scope (compEnvC scope cl C X.env) fp) N (locB scope) := by
  have e : (X.blk st H scope (compEnvC scope cl C X.env) fp).env.scope = relS scope X.env.scope := rfl
  refine ⟨s.n, s.nd, s.calm, fun y h => ?_, fun y h => ?_⟩
  · show Loc (relS scope X.env.scope) y
    rcases relS_loc (sc0 := X.env.scope) h with q | q
    · exact .inl q
    · exact .inr q.1
  · rcases relS_loc (sc0 := X.env.scope) h with q | q
    · exact .inr q
    · exact .inl (by show (scope.names.lookup y == some .cell) = true; rw [q.2]; rfl)
/-- a comprehension's tests, by data -/
structure TtOk (K : PySem.W.Frag) (cond : Env → SH → KD → Prop) (tt : TT) : Prop where
  run : ∀ σ H ρ S (Kb : Bool → SH → Prop) (Q : Bool → Hp → Prop), EnvR K H σ ρ → HR K H S → cond ρ S (fun d S1 => match tru S1 d with
    | some b => Kb b S1
    | none => False) → (∀ b S', Kb b S' → ∀ H', Ev K H H' S S' → HR K H' S' → Q b H') → tt σ H Q
theorem lc_core' {K : PySem.W.Frag} {t : Tg} {g : TG} {cond elt : Env → SH → KD → Prop} {tt : TT} {te : TE} {vs : List Nat} {wi : TI} {σ : L2.St} {H0 : Hp} {S0 : SH} {ρ : Env} {Q : VK}
    (hg : TgOk K t g) (hv : ∀ i ∈ slotsT t, i ∈ vs) (ht : TtOk K cond tt) (he : te = liftE K elt) (hρ : EnvR K H0 σ ρ)
    (Kf : List D → SH → Prop)
    (hw : wi σ H0 fun J H1 => ∃ items hold S1, Ev K H0 H1 S0 S1 ∧ HR K H1 S1 ∧ items.length ≤ sizeLine ∧ WalkD K H1 J items hold ∧ wpC (fun d R => gT t d (wipeD ρ vs) R) cond elt hold items [] S1 Kf)
    (fin : ∀ out S2 H2 D vo, Kf out S2 → Ev K H0 H2 S0 S2 → HR K H2 S2 → S2 D = none → H2 D = some (.lst vo) → Rps K H2 vo out → (S0 D = none → H0 D = none) → Q (.ref D) H2)
    (wm : ∀ σ H (R R' : It → Hp → Prop), (∀ J H1, R J H1 → R' J H1) → wi σ H R → wi σ H R') : tLc wi g tt te vs σ H0 Q := by
  refine wm σ H0 _ _ (fun J H1 h => ?_) hw
  obtain ⟨items, hold, S1, ev, hs1, hz, wd, h⟩ := h
  intro D hD
  subst he
  have hSD : S1 D = none := hs1.free hD
  refine ⟨fun i m H => m = items.length - i ∧ i ≤ items.length ∧ ∃ S acc accV, Ev K H1 H S1 S ∧ HR K H S ∧ S D = none ∧ H D = some (.lst accV) ∧ Rps K H accV acc ∧ acc.length ≤ i ∧ wpC (fun d R => gT t d (wipeD ρ vs) R) cond elt hold (items.drop i) acc S Kf,
    ⟨_, rfl, Nat.zero_le _, S1, [], [], Ev.newN hD, hs1.newN hD, hSD, upd_same, .nil, Nat.le_refl _, h⟩, ?_⟩
  rintro i m H ⟨rfl, hi, S, acc, accV, ev2, hs, hSD2, hHD, ra, hl, q⟩
  have ev12 : Ev K H1 H S1 S := ev2
  have ev02 : Ev K H0 H S0 S := ev.trans ev12
  by_cases hlt : i < items.length
  · have ed : items.drop i = items[i] :: items.drop (i + 1) := List.drop_eq_getElem_cons hlt
    rw [ed] at q
    obtain ⟨hh, q⟩ := q
    refine .inr ⟨wd.goes i H S hlt ev12.tup hs hh, fun H' => ∃ m', m' < items.length - i ∧ (m' = items.length - (i + 1) ∧ i + 1 ≤ items.length ∧ ∃ S acc accV, Ev K H1 H' S1 S ∧ HR K H' S ∧ S D = none ∧ H' D = some (.lst accV) ∧ Rps K H' accV acc ∧ acc.length ≤ i + 1 ∧ wpC (fun d R => gT t d (wipeD ρ vs) R) cond elt hold (items.drop (i + 1)) acc S Kf),
      fun H' h => h, fun v H' hy => ?_⟩
    obtain ⟨d, e1, rd, ev3, hs3, kp⟩ := wd.yields i H S v H' hlt ev12.tup hs hh hy
    have ed2 : d = items[i] := by
      rw [List.getElem?_eq_getElem hlt] at e1
      exact (Option.some.inj e1).symm
    subst ed2
    have ev03 := ev02.trans ev3
    have hHD3 : H' D = some (.lst accV) := kp _ _ hHD
    refine hg.run v (wipe σ vs) H' _ (wipeD ρ vs) _ _ rd ((hρ.mono ev03.tup).wipe vs) q fun σ' ρ' q1 eρ' hwip => ?_
    refine ⟨by rw [hwip vs hv, wipe_wipe fun u hu => hu], ?_⟩
    refine ht.run σ' H' ρ' S (fun b S1 => if b = true then elt ρ' S1 fun y S2 => wpC (fun d R => gT t d (wipeD ρ vs) R) cond elt hold (items.drop (i + 1)) (acc ++ [y]) S2 Kf else wpC (fun d R => gT t d (wipeD ρ vs) R) cond elt hold (items.drop (i + 1)) acc S1 Kf) _ eρ' hs3
      (Eq.mp (congrArg (cond ρ' S) (by funext c S1; cases tru S1 c with
        | none => rfl
        | some b => cases b <;> rfl)) q1) fun b S4 q4 H4 ev4 hs4 => ?_
    cases b with
    | true =>
      rw [if_pos rfl] at q4 ⊢
      refine ⟨ρ', S4, _, eρ'.mono ev4.tup, hs4, q4, fun y S5 q5 w H5 ev5 r5 hs5 => ?_⟩
      have ev45 := ev4.trans ev5
      have hD5 : H5 D = some (.lst accV) := ev45.frm _ _ hHD3 hSD2
      have hS5 : S5 D = none := by
        cases e : S5 D with
        | none => rfl
        | some u => rcases ev45.dom D (by rw [e]; simp) with z | z
                    · exact absurd hSD2 z
                    · rw [hHD3] at z; cases z
      have ra5 : Rps K H5 accV acc := Rps.mono (ev3.tup.trans ev45.tup) _ ra
      refine ⟨accV, hD5, by rw [ra5.length]; omega, items.length - (i + 1), by omega, rfl, by omega, S5, acc ++ [y], accV ++ [w], ?_, ?_, hS5, upd_same, Rps.mono (te_lst hD5) _ (ra5.app (.one r5)), by simp; omega, q5⟩
      · have eb := ev2.trans (ev3.trans ev45)
        exact ⟨eb.tup.trans (te_lst hD5), fun a o ha hn => by rw [upd_ne (ne_of_none ha hD)]; exact eb.frm a o ha hn, eb.dom⟩
      · intro a o ea
        have hne : a ≠ D := fun e => by rw [e, hS5] at ea; cases ea
        exact (hs5 a o ea).keep (te_lst hD5) fun u hu => by rw [upd_ne hne]; exact hu
    | false =>
      rw [if_neg Bool.false_ne_true] at q4 ⊢
      have hD4 : H4 D = some (.lst accV) := ev4.frm _ _ hHD3 hSD2
      have hS4 : S4 D = none := by
        cases e : S4 D with
        | none => rfl
        | some u => rcases ev4.dom D (by rw [e]; simp) with z | z
                    · exact absurd hSD2 z
                    · rw [hHD3] at z; cases z
      exact ⟨items.length - (i + 1), by omega, rfl, by omega, S4, acc, accV, ev2.trans (ev3.trans ev4), hs4, hS4, hD4, Rps.mono (ev3.tup.trans ev4.tup) _ ra, by omega, q4⟩
  · have e : i = items.length := by omega
    subst e
    rw [List.drop_length] at q
    obtain ⟨hh, q⟩ := q
    refine .inl ⟨wd.stops H S ev12.tup hs hh, fin acc S H D accV q ev02 hs hSD2 hHD ra fun hn => ?_⟩
    cases e : H0 D with
    | none => rfl
    | some o => have := ev.frm D o e hn; rw [hD] at this; cases this

/-- what a comprehension makes, read -/
def wpCm (Γ : φ → DSp) (G : Nat → Option D) (x : XW) (vs : List Nat) (ik : Ik) (es : List (Ex φ)) (tg : Tg) (cond elt : Ex φ) (ρ : Env) (S : SH) (Q : List D → SH → Prop) : Prop :=
  wpEs Γ G es x ρ S fun ds S1 => walk ik ds S1 fun items hold => wpC (fun d R => gT tg d (wipeD ρ vs) R) (wpE Γ G cond fun _ _ _ => False) (wpE Γ G elt fun _ _ _ => False) hold items [] S1 Q
abbrev wpI (Γ : φ → DSp) (G : Nat → Option D) (x : XW) (ik : Ik) (es : List (Ex φ)) : Env → SH → (List D → (SH → Prop) → SH → Prop) → Prop :=
  fun ρ S R => wpEs Γ G es x ρ S fun ds S1 => walk ik ds S1 fun items hold => R items hold S1
theorem liftI_mono {K : PySem.W.Frag} {t : Env → SH → (List D → (SH → Prop) → SH → Prop) → Prop} (σ : L2.St) (H : Hp) (R R' : It → Hp → Prop) (m : ∀ J H1, R J H1 → R' J H1) (h : liftI K t σ H R) : liftI K t σ H R' := by
  obtain ⟨ρ, S, Kc, h1, h2, h3, h4⟩ := h
  exact ⟨ρ, S, Kc, h1, h2, h3, fun items hold S' q H' e1 e2 e3 J w => m _ _ (h4 items hold S' q H' e1 e2 e3 J w)⟩
theorem comp_core (s : Sit pg Γ G N sc X) {own : List (Str × Nat)} {ik : Ik} {es : List (Ex φ)} {tg : Tg} {cond elt : Ex φ} {y t it : Expr} {ifs : List Expr} {scope : Scope} {pos : Pos}
    (hb : blkC N sc scope own = true) (hi : PI X t it (liftI X.K (wpI Γ G x ik es))) (hf : ∀ z, foldedSetIterable it X.env z = pure z) (hT : ckT N (locB scope) tg t = true) (hv : (slotsT tg).all (fun i => (own.map (·.2)).contains i) = true)
    (hcond : (ifs = [] ∧ cond = .lit (.bl true)) ∨ ∃ c, ifs = [c] ∧ ∀ X', Sit pg Γ G N (relS scope sc) X' → Snd Γ G X' (fun _ _ _ => False) cond c) (helt : ∀ X', Sit pg Γ G N (relS scope sc) X' → Snd Γ G X' (fun _ _ _ => False) elt y) :
    ∃ te : TE, PE X (.ListComp y [⟨t, it, ifs, 0⟩] scope pos) te ∧ ∀ σ H Q ρ S Kf, EnvR X.K H σ ρ → HR X.K H S → wpCm Γ G x (own.map (·.2)) ik es tg cond elt ρ S Kf →
      (∀ out S2 H2 D vo, Kf out S2 → Ev X.K H H2 S S2 → HR X.K H2 S2 → S2 D = none → H2 D = some (.lst vo) → Rps X.K H2 vo out → (S D = none → H D = none) → Q (.ref D) H2) → te σ H Q := by
  have blk : ∀ (st : Shared) (H : Hp) (C : Addr) (cl : List (Str × Addr)) (fp : List Addr), Sit pg Γ G N (relS scope sc) (X.blk st H scope (compEnvC scope cl C X.env) fp) := fun st H C cl fp => s.blk st H scope cl C fp
  have ok : BlkOk X.N X.env.scope scope own := blkOk_by (by rw [s.n, s.sc]; exact hb)
  -- one target reading for all blocks
  have hgt : ∃ g, (∀ (st : Shared) (H : Hp) (C : Addr) (cl : List (Str × Addr)) (fp : List Addr), PG (X.blk st H scope (compEnvC scope cl C X.env) fp) t g) ∧ TgOk X.K tg g := by
    refine ⟨fun v σ H Q => ∃ d ρ Kc, Rp X.K H v d ∧ EnvR X.K H σ ρ ∧ gT tg d ρ Kc ∧ ∀ σ' ρ', Kc ρ' → EnvR X.K H σ' ρ' → (∀ vs, (∀ i ∈ slotsT tg, i ∈ vs) → wipe σ' vs = wipe σ vs) → Q σ' H, fun st H C cl fp => ?_, ⟨fun v σ H d ρ Kc Q a b c k => ⟨d, ρ, Kc, a, b, c, k⟩⟩⟩
    obtain ⟨g, p, r⟩ := sndT (stok_blk s st H scope cl C fp) tg t hT
    exact ⟨fun pins st' σ' H' v u Q I' rv ⟨d, ρ, Kc, a, b, c, k⟩ => p.run pins st' σ' H' v u Q I' rv (r.run v σ' H' d ρ Kc Q a b c k)⟩
  obtain ⟨g, pg', rg⟩ := hgt
  have hv' : ∀ i ∈ slotsT tg, i ∈ own.map (·.2) := fun i hi => by
    have := List.all_eq_true.mp hv i hi
    simpa using this
  have fin : ∀ (tt : TT), (∀ (st : Shared) (H : Hp) (C : Addr) (cl : List (Str × Addr)) (fp : List Addr), PTs (X.blk st H scope (compEnvC scope cl C X.env) fp) ifs tt) → TtOk X.K (wpE Γ G cond fun _ _ _ => False) tt → ∃ te : TE, PE X (.ListComp y [⟨t, it, ifs, 0⟩] scope pos) te ∧ ∀ σ H Q ρ S Kf, EnvR X.K H σ ρ → HR X.K H S → wpCm Γ G x (own.map (·.2)) ik es tg cond elt ρ S Kf →
      (∀ out S2 H2 D vo, Kf out S2 → Ev X.K H H2 S S2 → HR X.K H2 S2 → S2 D = none → H2 D = some (.lst vo) → Rps X.K H2 vo out → (S D = none → H D = none) → Q (.ref D) H2) → te σ H Q := fun tt ptt rtt => by
    refine ⟨_, pe_lc (te := liftE X.K (wpE Γ G elt fun _ _ _ => False)) s.calm (by rw [s.n]; exact s.nd) hi ok pg' ptt (fun st H C cl fp => (helt _ (blk st H C cl fp)).pe) hf, fun σ H Q ρ S Kf hρ hs h k => ?_⟩
    exact lc_core' rg hv' rtt rfl hρ Kf ⟨ρ, S, _, hρ, hs, h, fun items hold S1 q H1 ev hs1 hz J w => ⟨items, hold, S1, ev, hs1, hz, w, q⟩⟩ k liftI_mono
  rcases hcond with ⟨rfl, rfl⟩ | ⟨c, rfl, hc⟩
  · exact fin tYes (fun _ _ _ _ _ => pts_nil) ⟨fun σ H ρ S Kb Q hρ hs h k => k true S h H Ev.refl hs⟩
  · exact fin (liftT X.K (wpT Γ G cond fun _ _ _ => False)) (fun st H C cl fp => pts_one (hc _ (blk st H C cl fp)).pt) ⟨fun σ H ρ S Kb Q hρ hs h k => ⟨ρ, S, Kb, hρ, hs, h, k⟩⟩
end
end Lac
end

-- LacS.lean
section
set_option Elab.async false
set_option linter.all false
set_option maxRecDepth 100000
set_option maxHeartbeats 4000000
set_option autoImplicit false
/-! Lac, part S: set(list) of ints and texts, its len. -/
namespace Lac
open PySem PySem.Spec PyProof.Rows L2

theorem addK_any (σ : List Key) (v k : Key) : (addK σ v).any (fun z => decide (z = k)) = (σ.any (fun z => decide (z = k)) || decide (k = v)) := by
  unfold addK
  split
  · rename_i h
    by_cases e : k = v
    · subst e; rw [h]; simp
    · simp [e]
  · rename_i h
    rw [List.any_append]
    by_cases e : k = v
    · subst e; simp
    · have : ¬ v = k := fun q => e q.symm
      simp [e, this]
theorem addK_len (σ : List Key) (v : Key) : (addK σ v).length = if σ.any (fun z => decide (z = v)) then σ.length else σ.length + 1 := by
  unfold addK; split <;> simp
def metK (ks : List Key) (i : Nat) : List Key := (ks.take i).foldl addK []
theorem setOf_congr' {prog : Program} {w : World} {h : Heap} {a : Addr} {S S' : Key → Bool} {n n' : Nat}
    (hS : h.SetOf (mixKind prog w) a S n) (e : ∀ k, S k = S' k) (en : n = n') : h.SetOf (mixKind prog w) a S' n' := by
  have : S = S' := funext e
  subst this; subst en; exact hS
theorem metK_succ {ks : List Key} {i : Nat} {k : Key} (h : ks[i]? = some k) : metK ks (i + 1) = addK (metK ks i) k := by
  unfold metK
  obtain ⟨hl, e⟩ := List.getElem?_eq_some_iff.mp h
  rw [List.take_add_one, List.foldl_append, h]
  rfl
theorem metK_le (ks : List Key) : ∀ i, (metK ks i).length ≤ i
  | 0 => by simp [metK]
  | i + 1 => by
    cases h : ks[i]? with
    | none =>
      have : metK ks (i + 1) = metK ks i := by unfold metK; rw [List.take_add_one, h]; simp
      rw [this]; have := metK_le ks i; omega
    | some k =>
      rw [metK_succ h, addK_len]
      have := metK_le ks i
      split <;> omega

section
variable {prog : Program} {w : World} {A : Around} {R : Result → Shared → Prop} {I : Addr} {fp wr : List Addr} {G : Array GenState → Array GenState → Prop} {n : Nat} {P : Nat → Value → Prop} {St : Nat → Shared → Prop}
theorem set_loopK (W : WalksS prog w A.in1 I fp wr G n P St) (S : Addr) (hSf : S ∉ fp) (ks : List Key) (hz : ks.length = n)
    (hval : ∀ i v, P i v → ∃ k, ks[i]? = some k ∧ RelV (kV k) v) (hb : n + 1 < scanBound) :
    ∀ (k i : Nat) (s : Shared), n - i = k → i ≤ n → St i s →
      s.heap.SetOf (mixKind prog w) S (fun k' => (metK ks i).any (fun z => decide (z = k'))) (metK ks i).length →
      (∀ s', Moved (S :: wr) G s s' → s'.heap.SetOf (mixKind prog w) S (fun k' => (metK ks n).any (fun z => decide (z = k'))) (metK ks n).length → R (.ok (.ret .none)) s') →
      codeAny (model prog w) A (.builtin "set.update.loop" ⟨[.ref S, .ref I], []⟩) R s := by
  have hSw : S ∉ wr := fun h => hSf (W.sub _ h)
  have hsub : ∀ b ∈ wr, b ∈ S :: wr := fun b hb => List.mem_cons_of_mem _ hb
  intro k
  induction k with
  | zero =>
    intro i s hk hi hst hS hR
    have hin : i = n := by omega
    subst hin
    refine codeAny_builtin PyProof.Rows.F.entry_set_update_loop ?_
    rw [Around.under_plainId PyProof.Rows.F.plain_set_update_loop _]
    show wpAny _ A.in1 (pyNext (.ref I) >>= _) _ _ s
    refine wpAny_bind (W.done s _ _ hst fun s' hm => ?_)
    show wpAny _ A.in1 (ret Value.none) _ _ s'
    exact wpAny_pure (hR s' (hm.mono hsub) (by
      obtain ⟨o, es, ep, t, ho, rest⟩ := hS
      exact ⟨o, es, ep, t, hm.heap S _ hSw ho, rest⟩))
  | succ k ih =>
    intro i s hk hi hst hS hR
    have hlt : i < n := by omega
    refine codeAny_builtin PyProof.Rows.F.entry_set_update_loop ?_
    rw [Around.under_plainId PyProof.Rows.F.plain_set_update_loop _]
    show wpAny _ A.in1 (pyNext (.ref I) >>= _) _ _ s
    refine wpAny_bind (W.item i s _ _ hlt hst fun v s' hP hst' hm => ?_)
    obtain ⟨ky, hky, rv⟩ := hval i v hP
    have hS' : s'.heap.SetOf (mixKind prog w) S (fun k' => (metK ks i).any (fun z => decide (z = k'))) (metK ks i).length := by
      obtain ⟨o, es, ep, tb, ho, rest⟩ := hS
      exact ⟨o, es, ep, tb, hm.heap S _ hSw ho, rest⟩
    show wpAny _ A.in1 (holding [v] (setAdd S v) >>= _) _ _ s'
    refine wpAny_bind (wpAny_holding ?_)
    unfold setAdd
    refine wpAny_holding ?_
    refine wpAny_bind ((mixKind prog w).pyHash (k := ky) (kV_is rv) ?_)
    have hroom : (metK ks i).length + 1 < scanBound := by have := metK_le ks i; omega
    refine wpAny_setAddHashed_of (knd := mixKind prog w) (s := { s' with toks := s'.toks + 1 }) (kV_is rv) (key_scan rv) hS' hroom fun h' hsb hS2 => ?_
    have hSi : h'.SetOf (mixKind prog w) S (fun k' => (metK ks (i + 1)).any (fun z => decide (z = k'))) (metK ks (i + 1)).length :=
      setOf_congr' hS2 (fun k' => by rw [metK_succ hky, addK_any]) (by rw [metK_succ hky, addK_len])
    refine wpAny_pure ⟨plainId_quiet PyProof.Rows.F.plain_set_update_loop _, ih (i + 1) _ (by omega) hlt (W.frame _ s' _ _ hst' (Nat.le_succ _) fun b hb o e => ?_) hSi fun s'' hm'' hS'' => ?_⟩
    · rw [hsb.2 b (fun h : b = S => hSf (by rw [← h]; exact hb))]; exact e
    · refine hR s'' (Moved.trans W.gtrans ((hm.mono hsub).then_heap (Nat.le_succ _) fun b o hb e => ?_) hm'') hS''
      rw [hsb.2 b (fun h : b = S => hb (by rw [h]; exact List.mem_cons_self))]; exact e
end
section
variable {prog : Program} {w : World} {A : Around} {E : Value → Shared → Prop} {s : Shared}
theorem call_set_listK {l : Addr} {items : Array Value} (ks : List Key) {Q : Value → Shared → Prop}
    (hh : A.handled = none) (hl : s.heap.IsList l items) (hi : Vals (ks.map kV) items.toList) (hb : items.size + 1 < scanBound)
    (h : ∀ (h' : Heap) (tk : Nat), h'.SetOf (mixKind prog w) s.heap.objs.size (fun k' => (metK ks items.size).any (fun z => decide (z = k'))) (metK ks items.size).length →
      (∀ b o, b < s.heap.objs.size → s.heap.get? b = some o → h'.get? b = some o) → Q (.ref s.heap.objs.size) { s with heap := h', toks := tk }) :
    wpAny (model prog w) A (call (.type "set") [.ref l]) Q E s := by
  obtain ⟨c, tl, hmro⟩ := PySem.F.called_set.mro
  have hmade := PySem.F.called_set.made
  have hsub := PySem.F.called_set.sub
  refine wpAny_call (codeAny_of_tree ?_)
  show wpAny _ _ (callAny (.type "set") _) _ _ _
  refine wpAny_pure ⟨Code.quiet_builtin _ (by decide +kernel), codeAny_builtin PySem.F.entry_type_call ?_⟩
  rw [Around.under_plain (weight_type_call_type "set" [.ref l] []) rfl]
  have h1 := PySem.F.called_set.notType
  have h2 := PySem.F.called_set.canCreate
  have hct := PySem.F.typeCall_set_1 (.ref l)
  repeat (any_goals (first | assumption | wp_step))
  refine codeAny_mono (code_set_new_1 (.ref l) (E := E) (Q₁ := fun obj s₁ => ∃ led : Bool, obj = .ref s.heap.objs.size ∧ s₁ = { s with heap := s.heap.push { cls := .type "set", dict := none, data := .set #[] 0 (.fresh 0 0 led) } }) fun led => ⟨led, rfl, rfl⟩) fun r s₁ hr => ?_
  cases r with
  | error e => exact hr
  | ok fl =>
    cases fl with
    | ret obj =>
      obtain ⟨led, rfl, rfl⟩ := hr
      have hS : (s.heap.push { cls := .type "set", dict := none, data := .set #[] 0 (.fresh 0 0 led) }).get? s.heap.objs.size = some { cls := .type "set", dict := none, data := .set #[] 0 (.fresh 0 0 led) } := Heap.get?_push_size _ rfl
      have hT : Shared.TypeIs { s with heap := s.heap.push { cls := .type "set", dict := none, data := .set #[] 0 (.fresh 0 0 led) } } (.ref s.heap.objs.size) "set" := ⟨_, hS, rfl⟩
      have hli := PySem.F.called_set.init.lookup
      have hbi := PySem.F.called_set.init.bind (.ref s.heap.objs.size)
      repeat (any_goals (first | assumption | wp_step))
      refine codeAny_mono (codeAny_call_builtin (R := wants (fun r s₂ => r = .none ∧ ∃ h' tk, s₂ = { s with heap := h', toks := tk } ∧
          h'.SetOf (mixKind prog w) s.heap.objs.size (fun k' => (metK ks items.size).any (fun z => decide (z = k'))) (metK ks items.size).length ∧
          (∀ b o, b < s.heap.objs.size → s.heap.get? b = some o → h'.get? b = some o)) E) PySem.F.called_set.init.plain PySem.F.entry_set_init (check_set_init_1 hT ?_)) fun r₂ s₂ hr₂ => ?_
      · obtain ⟨ol, hol, hcl, nl, hdl⟩ := hl
        obtain ⟨ocls, odict, odata, oslots⟩ := ol
        simp only at hcl hdl
        subst hcl; subst hdl
        have hol' : (s.heap.push { cls := .type "set", dict := none, data := .set #[] 0 (.fresh 0 0 led) }).get? l = some { cls := .type "list", dict := odict, data := .seq items nl, slots := oslots } := Heap.get?_push_of_some _ hol
        have hsls := PySem.F.sub_list_set
        have hslf := PySem.F.sub_list_frozenset
        have hne : (Value.type "list" == Value.type "dict") = false := by decide
        have hl1 : (s.heap.push { cls := .type "set", dict := none, data := .set #[] 0 (.fresh 0 0 led) }).IsList l items := ⟨_, hol', rfl, nl, rfl⟩
        unfold Builtin.«set.__init__» noKeywords Builtin.Frozenset.updateFrom
        generalize hPI : pyIter = PI
        wp_walk
        subst hPI
        refine wpAny_pyIter_list hl1 ?_
        refine wpAny_bind (wpAny_runValue ?_)
        have hlS : l < s.heap.objs.size := Heap.lt_size hol
        have hh3 : A.in1.in1.in1.handled = none := by simp [hh]
        have hneI : l ≠ (s.heap.push { cls := .type "set", dict := none, data := .set #[] 0 (.fresh 0 0 led) }).objs.size := by
          rw [Heap.size_push]; exact Nat.ne_of_lt (Nat.lt_succ_of_lt hlS)
        have hSf : s.heap.objs.size ∉ [(s.heap.push { cls := .type "set", dict := none, data := .set #[] 0 (.fresh 0 0 led) }).objs.size, l] := by
          rw [Heap.size_push]; simp only [List.mem_cons, List.mem_singleton, List.not_mem_nil, or_false, not_or]
          exact ⟨Nat.ne_of_lt (Nat.lt_succ_self _), Nat.ne_of_gt hlS⟩
        have hsz : ks.length = items.size := by have := hi.length; simpa using this
        have hval : ∀ (i : Nat) (v : Value), items[i]? = some v → ∃ k, ks[i]? = some k ∧ RelV (kV k) v := fun i v hv => by
          have hlt : i < ks.length := by rw [hsz]; exact (Array.getElem?_eq_some_iff.mp hv).1
          obtain ⟨u, hu, ru⟩ := hi.get (i := i) (x := kV ks[i]) (by simp [hlt])
          rw [Array.getElem?_toList, hv] at hu
          cases hu
          exact ⟨ks[i], by simp [hlt], ru⟩
        refine set_loopK ((Walks.list hh3 _ l hneI items).toS) s.heap.objs.size
          hSf ks hsz hval hb (items.size - 0) 0 _ (by omega) (Nat.zero_le _)
          ⟨⟨_, Heap.get?_push_size _ rfl, rfl, rfl⟩, (hl1.push _)⟩ ?hS0 ?hR
        case hS0 =>
          have hget : ((s.heap.push { cls := .type "set", dict := none, data := .set #[] 0 (.fresh 0 0 led) }).push { cls := .type "list_iterator", data := .fields #[.ref l, .int 0 0] }).get? s.heap.objs.size
              = some { cls := .type "set", dict := none, data := .set #[] 0 (.fresh 0 0 led) } := Heap.get?_push_of_some _ hS
          exact ⟨_, #[], 0, _, hget, ⟨rfl, rfl, rfl⟩, rfl, (fun e he => by simp at he), (fun k => by simp [metK]), (by decide), (by rfl), rfl⟩
        case hR =>
          intro s' hm hS'
          obtain ⟨h', g', d', tk', os'⟩ := s'
          have eg : g' = s.gens := hm.gens
          have ed : d' = s.drawn := hm.drawn
          have eo : os' = s.os := hm.os
          subst eg; subst ed; subst eo
          show wpAny _ _ _ _ _ _
          refine wpAny_pure ?_
          show wpAny _ _ (ret Value.none) _ _ _
          refine wpAny_pure ⟨rfl, h', tk', rfl, hS', fun b o hb e => ?_⟩
          have hb1 : b ≠ s.heap.objs.size := Nat.ne_of_lt hb
          have hb2 : b ≠ (s.heap.push { cls := .type "set", dict := none, data := .set #[] 0 (.fresh 0 0 led) }).objs.size := by
            rw [Heap.size_push]; exact Nat.ne_of_lt (Nat.lt_succ_of_lt hb)
          exact hm.heap b o (by simp only [List.mem_cons, List.mem_singleton, List.not_mem_nil, or_false, not_or]; exact ⟨hb1, hb2⟩) (Heap.get?_push_of_some _ (Heap.get?_push_of_some _ e))
      · cases r₂ with
        | error e => exact hr₂
        | ok fl₂ =>
          cases fl₂ with
          | ret r =>
            obtain ⟨rfl, h', tk, rfl, hS', hk'⟩ := hr₂
            repeat (any_goals (first | assumption | wp_step))
            exact h _ _ hS' hk'
          | _ => exact hr₂.elim
    | _ => exact hr.elim
end
/-- len(set(xs)), xs a list of ints and texts -/
def tLenSetK (K : PySem.W.Frag) (ta : TE) : TE := fun σ H Q => ta σ H fun x H1 => ∃ l, ∃ ks : List Key, x = .ref l ∧ SqL K H1 l (ks.map kV) ∧ ks.length + 1 < scanBound ∧ Q (.int (metK ks ks.length).length) H1
theorem pe_lenSetK {X : Cx} {a : Expr} {ta : TE} {p p2 q pos : Pos} (hc : X.calm = true) (hg : Gl X "len") (hm : X.mg "len" = none) (hg2 : Gl X "set") (hm2 : X.mg "set" = none) (ha : PE X a ta)
    (na : starEach [a] X.env = (false, eval a X.env) :: starEach [] X.env) : PE X (.Call (.Name "len" p) [.Call (.Name "set" p2) [a] [] q] [] pos) (tLenSetK X.K ta) := by
  refine ⟨fun pins s σ H Q I h => ?_⟩
  refine Call_ (ld_blt I hg hm boot_len ?_)
  refine PyProof.Rows.callWith_builtin1 (PyProof.Rows.args_cons ?_ rfl) rfl rfl
  refine Call_ (ld_blt I hg2 hm2 boot_set ?_)
  refine PyProof.Rows.callWith_type1 (PyProof.Rows.args_cons (thn (ha.run pins s σ H _ I h) fun v s1 ⟨x, H1, I1, r1, q1⟩ => PyProof.Rows.args_nil ?_) na) na rfl
  obtain ⟨l, ks, rfl, hq, h1, q1⟩ := q1
  cases r1
  obtain ⟨its, r, pl, hz⟩ := I1.list hq
  have hl : its.toArray.size = ks.length := by rw [List.size_toArray, ← r.length, List.length_map]
  refine call_set_listK ks (I1.ok.hd hc) pl.isList (by simpa using r) (by rw [hl]; exact h1) fun h' tk hS hk => ?_
  refine PyProof.Rows.args_nil ?_
  rw [hl] at hS
  obtain ⟨o, es, ep, t, ho, hex, hd, _, _, _, hf, hn⟩ := hS
  have I2 : Inv X pins σ H1 { s1 with heap := h', toks := tk } := I1.kept fun b o e => hk b o (Heap.lt_size e) e
  have hle := metK_le ks ks.length
  refine call_len_set ho hex hd hf (by rw [hn]; unfold scanBound at h1; omega) ⟨.int (metK ks ks.length).length, H1, I2.tok _, ⟨_, by rw [hn]⟩, q1⟩
end Lac
end

-- LacM.lean
section
set_option Elab.async false
set_option linter.all false
set_option maxRecDepth 100000
set_option maxHeartbeats 2000000
set_option autoImplicit false
/-! Lac, part M: dict comprehensions; comprehensions as expressions. -/
namespace Lac
open PySem PySem.Spec PyProof.Rows L2
section
variable {φ : Type} {pg : Pg φ} {Γ : φ → DSp} {G : Nat → Option D} {N : List Str} {sc : Scope} {X : Cx} {x : XW}
theorem pairsD_snoc {kvs : List (Key × D)} {y z : D} {k : Key} : ∀ {acc : List D} {kvs : List (Key × D)}, pairsD acc = some kvs → keyD y = some k → pairsD (acc ++ [.tup [y, z]]) = some (kvs ++ [(k, z)])
  | [], kvs, h, e => by cases h; simp [pairsD, e]
  | a :: r, kvs, h, e => by
    cases a with
    | tup ds =>
      match ds, h with
      | [u, v], h =>
        have h' : (match keyD u, pairsD r with
          | some k, some r => some ((k, v) :: r)
          | _, _ => none) = some kvs := h
        cases ek : keyD u with
        | none => rw [ek] at h'; cases h'
        | some k1 =>
          cases er : pairsD r with
          | none => rw [ek, er] at h'; cases h'
          | some kr =>
            rw [ek, er] at h'
            cases h'
            have := pairsD_snoc (kvs := []) (z := z) er e
            show (match keyD u, pairsD (r ++ [.tup [y, z]]) with
              | some k, some r => some ((k, v) :: r)
              | _, _ => none) = _
            rw [ek, this]
            rfl
      | [], h => cases h
      | [_], h => cases h
      | _ :: _ :: _ :: _, h => cases h
    | _ => cases h
/-- key and value of a dict comprehension, read -/
abbrev wpKV (Γ : φ → DSp) (G : Nat → Option D) (k v : Ex φ) : Env → SH → KD → Prop :=
  fun ρ S Q => wpE Γ G k (fun _ _ _ => False) ρ S fun y S1 => (keyD y).isSome = true ∧ wpE Γ G v (fun _ _ _ => False) ρ S1 fun z S2 => Q (.tup [y, z]) S2
theorem dc_core' {K : PySem.W.Frag} {t : Tg} {g : TG} {cond : Env → SH → KD → Prop} {ke ve : Ex φ} {tt : TT} {vs : List Nat} {wi : TI} {σ : L2.St} {H0 : Hp} {S0 : SH} {ρ : Env} {Q : VK}
    (hg : TgOk K t g) (hv : ∀ i ∈ slotsT t, i ∈ vs) (ht : TtOk K cond tt) (hρ : EnvR K H0 σ ρ)
    (Kf : List D → SH → Prop)
    (hw : wi σ H0 fun J H1 => ∃ items hold S1, Ev K H0 H1 S0 S1 ∧ HR K H1 S1 ∧ items.length ≤ sizeLine ∧ WalkD K H1 J items hold ∧ wpC (fun d R => gT t d (wipeD ρ vs) R) cond (wpKV Γ G ke ve) hold items [] S1 Kf)
    (fin : ∀ out kvs S2 H2 D ws, Kf out S2 → pairsD out = some kvs → Ev K H0 H2 S0 S2 → HR K H2 S2 → S2 D = none → H2 D = some (.dK ws) → KR K H2 ws (mergeD [] kvs) → (S0 D = none → H0 D = none) → Q (.ref D) H2)
    (wm : ∀ σ H (R R' : It → Hp → Prop), (∀ J H1, R J H1 → R' J H1) → wi σ H R → wi σ H R') : tDc wi g tt (liftE K (wpE Γ G ke fun _ _ _ => False)) (liftE K (wpE Γ G ve fun _ _ _ => False)) vs σ H0 Q := by
  refine wm σ H0 _ _ (fun J H1 h => ?_) hw
  obtain ⟨items, hold, S1, ev, hs1, hz, wd, h⟩ := h
  intro D hD
  have hSD : S1 D = none := hs1.free hD
  refine ⟨fun i m H => m = items.length - i ∧ i ≤ items.length ∧ ∃ S acc kvs ws, Ev K H1 H S1 S ∧ HR K H S ∧ S D = none ∧ H D = some (.dK ws) ∧ pairsD acc = some kvs ∧ KR K H ws (mergeD [] kvs) ∧ ws.length ≤ i ∧ wpC (fun d R => gT t d (wipeD ρ vs) R) cond (wpKV Γ G ke ve) hold (items.drop i) acc S Kf,
    ⟨_, rfl, Nat.zero_le _, S1, [], [], [], Ev.newN hD, hs1.newN hD, hSD, upd_same, rfl, .nil, Nat.le_refl _, h⟩, ?_⟩
  rintro i m H ⟨rfl, hi, S, acc, kvs, ws, ev2, hs, hSD2, hHD, hp, ra, hl, q⟩
  have ev02 : Ev K H0 H S0 S := ev.trans ev2
  by_cases hlt : i < items.length
  · have ed : items.drop i = items[i] :: items.drop (i + 1) := List.drop_eq_getElem_cons hlt
    rw [ed] at q
    obtain ⟨hh, q⟩ := q
    refine .inr ⟨wd.goes i H S hlt ev2.tup hs hh, fun H' => ∃ m', m' < items.length - i ∧ (m' = items.length - (i + 1) ∧ i + 1 ≤ items.length ∧ ∃ S acc kvs ws, Ev K H1 H' S1 S ∧ HR K H' S ∧ S D = none ∧ H' D = some (.dK ws) ∧ pairsD acc = some kvs ∧ KR K H' ws (mergeD [] kvs) ∧ ws.length ≤ i + 1 ∧ wpC (fun d R => gT t d (wipeD ρ vs) R) cond (wpKV Γ G ke ve) hold (items.drop (i + 1)) acc S Kf),
      fun H' h => h, fun v H' hy => ?_⟩
    obtain ⟨d, e1, rd, ev3, hs3, kp⟩ := wd.yields i H S v H' hlt ev2.tup hs hh hy
    have ed2 : d = items[i] := by
      rw [List.getElem?_eq_getElem hlt] at e1
      exact (Option.some.inj e1).symm
    subst ed2
    have ev03 := ev02.trans ev3
    have hHD3 : H' D = some (.dK ws) := kp _ _ hHD
    refine hg.run v (wipe σ vs) H' _ (wipeD ρ vs) _ _ rd ((hρ.mono ev03.tup).wipe vs) q fun σ' ρ' q1 eρ' hwip => ?_
    refine ⟨by rw [hwip vs hv, wipe_wipe fun u hu => hu], ?_⟩
    refine ht.run σ' H' ρ' S (fun b S1 => if b = true then wpKV Γ G ke ve ρ' S1 fun y S2 => wpC (fun d R => gT t d (wipeD ρ vs) R) cond (wpKV Γ G ke ve) hold (items.drop (i + 1)) (acc ++ [y]) S2 Kf else wpC (fun d R => gT t d (wipeD ρ vs) R) cond (wpKV Γ G ke ve) hold (items.drop (i + 1)) acc S1 Kf) _ eρ' hs3
      (Eq.mp (congrArg (cond ρ' S) (by funext c S1; cases tru S1 c with
        | none => rfl
        | some b => cases b <;> rfl)) q1) fun b S4 q4 H4 ev4 hs4 => ?_
    have stays : ∀ {H5 S5}, Ev K H' H5 S S5 → S5 D = none := fun {H5 S5} ev45 => by
      cases e : S5 D with
      | none => rfl
      | some u => rcases ev45.dom D (by rw [e]; simp) with z | z
                  · exact absurd hSD2 z
                  · rw [hHD3] at z; cases z
    cases b with
    | true =>
      rw [if_pos rfl] at q4 ⊢
      refine ⟨ρ', S4, _, eρ'.mono ev4.tup, hs4, q4, fun y S5 q5 w H5 ev5 r5 hs5 => ?_⟩
      obtain ⟨hk, q5⟩ := q5
      refine ⟨ρ', S5, _, eρ'.mono (ev4.trans ev5).tup, hs5, q5, fun z S6 q6 w6 H6 ev6 r6 hs6 => ?_⟩
      have ev46 := ev4.trans (ev5.trans ev6)
      have hD6 : H6 D = some (.dK ws) := ev46.frm _ _ hHD3 hSD2
      have hS6 : S6 D = none := stays ev46
      obtain ⟨k, ek⟩ := Option.isSome_iff_exists.mp hk
      have ra6 : KR K H6 ws (mergeD [] kvs) := KR.mono (ev3.tup.trans ev46.tup) ra
      refine ⟨ws, k, key_rp ek r5, hD6, by omega, items.length - (i + 1), by omega, rfl, by omega, S6, acc ++ [.tup [y, z]], kvs ++ [(k, z)], putK ws k w6, ?_, ?_, hS6, upd_same, pairsD_snoc (kvs := []) hp ek, ?_, ?_, q6⟩
      · have eb := ev2.trans (ev3.trans ev46)
        exact ⟨eb.tup.trans (te_dK hD6), fun a o ha hn => by rw [upd_ne (ne_of_none ha hD)]; exact eb.frm a o ha hn, eb.dom⟩
      · intro a o ea
        have hne : a ≠ D := fun e => by rw [e, hS6] at ea; cases ea
        exact (hs6 a o ea).keep (te_dK hD6) fun u hu => by rw [upd_ne hne]; exact hu
      · have : mergeD [] (kvs ++ [(k, z)]) = putD (mergeD [] kvs) k z := by unfold mergeD; rw [List.foldl_append]; rfl
        rw [this]
        exact KR.mono (te_dK hD6) (ra6.put k r6)
      · have := length_putK ws k w6
        omega
    | false =>
      rw [if_neg Bool.false_ne_true] at q4 ⊢
      have hD4 : H4 D = some (.dK ws) := ev4.frm _ _ hHD3 hSD2
      exact ⟨items.length - (i + 1), by omega, rfl, by omega, S4, acc, kvs, ws, ev2.trans (ev3.trans ev4), hs4, stays ev4, hD4, hp, KR.mono (ev3.tup.trans ev4.tup) ra, by omega, q4⟩
  · have e : i = items.length := by omega
    subst e
    rw [List.drop_length] at q
    obtain ⟨hh, q⟩ := q
    refine .inl ⟨wd.stops H S ev2.tup hs hh, fin acc kvs S H D ws q hp ev02 hs hSD2 hHD ra fun hn => ?_⟩
    cases e : H0 D with
    | none => rfl
    | some o => have := ev.frm D o e hn; rw [hD] at this; cases this

/-! ### what a block needs -/
theorem tg_blk (s : Sit pg Γ G N sc X) {tg : Tg} {t : Expr} {scope : Scope} (hT : ckT N (locB scope) tg t = true) :
    ∃ g, (∀ (st : Shared) (H : Hp) (C : Addr) (cl : List (Str × Addr)) (fp : List Addr), PG (X.blk st H scope (compEnvC scope cl C X.env) fp) t g) ∧ TgOk X.K tg g := by
  refine ⟨fun v σ H Q => ∃ d ρ Kc, Rp X.K H v d ∧ EnvR X.K H σ ρ ∧ gT tg d ρ Kc ∧ ∀ σ' ρ', Kc ρ' → EnvR X.K H σ' ρ' → (∀ vs, (∀ i ∈ slotsT tg, i ∈ vs) → wipe σ' vs = wipe σ vs) → Q σ' H, fun st H C cl fp => ?_, ⟨fun v σ H d ρ Kc Q a b c k => ⟨d, ρ, Kc, a, b, c, k⟩⟩⟩
  obtain ⟨g, p, r⟩ := sndT (stok_blk s st H scope cl C fp) tg t hT
  exact ⟨fun pins st' σ' H' v u Q I' rv ⟨d, ρ, Kc, a, b, c, k⟩ => p.run pins st' σ' H' v u Q I' rv (r.run v σ' H' d ρ Kc Q a b c k)⟩
theorem tt_blk (s : Sit pg Γ G N sc X) {cond : Ex φ} {ifs : List Expr} {scope : Scope} (hcond : (ifs = [] ∧ cond = .lit (.bl true)) ∨ ∃ c, ifs = [c] ∧ ∀ X', Sit pg Γ G N (relS scope sc) X' → Snd Γ G X' (fun _ _ _ => False) cond c) :
    ∃ tt, (∀ (st : Shared) (H : Hp) (C : Addr) (cl : List (Str × Addr)) (fp : List Addr), PTs (X.blk st H scope (compEnvC scope cl C X.env) fp) ifs tt) ∧ TtOk X.K (wpE Γ G cond fun _ _ _ => False) tt := by
  rcases hcond with ⟨rfl, rfl⟩ | ⟨c, rfl, hc⟩
  · exact ⟨tYes, fun _ _ _ _ _ => pts_nil, ⟨fun σ H ρ S Kb Q hρ hs h k => k true S h H Ev.refl hs⟩⟩
  · exact ⟨liftT X.K (wpT Γ G cond fun _ _ _ => False), fun st H C cl fp => pts_one (hc _ (s.blk st H scope cl C fp)).pt, ⟨fun σ H ρ S Kb Q hρ hs h k => ⟨ρ, S, Kb, hρ, hs, h, k⟩⟩⟩
theorem snd_comp (s : Sit pg Γ G N sc X) {own : List (Str × Nat)} {ik : Ik} {es : List (Ex φ)} {tg : Tg} {cond elt : Ex φ} {y t it : Expr} {ifs : List Expr} {scope : Scope} {pos : Pos}
    (hb : blkC N sc scope own = true) (hi : PI X t it (liftI X.K (wpI Γ G x ik es))) (hf : ∀ z, foldedSetIterable it X.env z = pure z) (hT : ckT N (locB scope) tg t = true) (hv : (slotsT tg).all (fun i => (own.map (·.2)).contains i) = true)
    (hcond : (ifs = [] ∧ cond = .lit (.bl true)) ∨ ∃ c, ifs = [c] ∧ ∀ X', Sit pg Γ G N (relS scope sc) X' → Snd Γ G X' (fun _ _ _ => False) cond c) (helt : ∀ X', Sit pg Γ G N (relS scope sc) X' → Snd Γ G X' (fun _ _ _ => False) elt y) :
    Snd Γ G X x (.comp own ik es tg cond elt) (.ListComp y [⟨t, it, ifs, 0⟩] scope pos) := by
  obtain ⟨te, p, r⟩ := comp_core s (x := x) (pos := pos) hb hi hf hT hv hcond helt
  refine .mk1 (pe_mono p fun σ H Q ⟨ρ, S, Kc, hρ, hs, ht, hk⟩ => ?_) rfl
  refine r σ H Q ρ S _ hρ hs ht fun out S2 H2 D vo q ev hs2 hSD hHD ro fr => ?_
  refine hk _ _ (q D hSD) _ _ ⟨ev.tup, ev.frm, fun a z => ?_⟩ (.ref D) ?_
  · by_cases e : a = D
    · subst e
      cases e0 : S a with
      | some o => exact .inl (by simp)
      | none => exact .inr (fr e0)
    · rw [up_ne e] at z; exact ev.dom a z
  · intro a o ea
    by_cases e : a = D
    · subst e; rw [up_same] at ea; cases ea; exact ⟨vo, hHD, ro⟩
    · rw [up_ne e] at ea; exact hs2 a o ea
theorem snd_bfc (s : Sit pg Γ G N sc X) {f : Bf} {own : List (Str × Nat)} {ik : Ik} {es : List (Ex φ)} {tg : Tg} {cond elt : Ex φ} {y t it : Expr} {ifs : List Expr} {scope : Scope} {p pos cpos : Pos} {nm : Str} (hn : bfNm f = nm) (hgl : bltB pg sc nm = true)
    (hb : blkC N sc scope own = true) (hi : PI X t it (liftI X.K (wpI Γ G x ik es))) (hf : ∀ z, foldedSetIterable it X.env z = pure z) (hT : ckT N (locB scope) tg t = true) (hv : (slotsT tg).all (fun i => (own.map (·.2)).contains i) = true)
    (hcond : (ifs = [] ∧ cond = .lit (.bl true)) ∨ ∃ c, ifs = [c] ∧ ∀ X', Sit pg Γ G N (relS scope sc) X' → Snd Γ G X' (fun _ _ _ => False) cond c) (helt : ∀ X', Sit pg Γ G N (relS scope sc) X' → Snd Γ G X' (fun _ _ _ => False) elt y) :
    Snd Γ G X x (.bfc f own ik es tg cond elt) (.Call (.Name nm p) [.ListComp y [⟨t, it, ifs, 0⟩] scope pos] [] cpos) := by
  subst hn
  obtain ⟨te, pl, r⟩ := comp_core s (x := x) (pos := pos) hb hi hf hT hv hcond helt
  obtain ⟨g1, m1, d1, n1⟩ := blt_of s hgl
  -- the call on a list that only the heap knows
  have C : CallR X f.fn fun xs H Q => ∃ a vs ds S Kc, xs = [V.ref a] ∧ SqL X.K H a vs ∧ Rps X.K H vs ds ∧ HR X.K H S ∧ dBfL f ds S Kc ∧ Cl X.K H S Kc Q := by
    intro pins st σ H xs us Q I rv ⟨a, vs, ds, S, Kc, e, hq, ra, hs, h, cl⟩
    subst e
    rw [Vals.ref1 rv]
    exact bfL_core s.calm f I hq ra hs h cl
  have B := bf_boot f
  have go : ∀ σ H Q, liftE X.K (wpE Γ G (.bfc f own ik es tg cond elt) x) σ H Q → te σ H fun v H1 => ∃ a vs ds S Kc, [v] = [V.ref a] ∧ SqL X.K H1 a vs ∧ Rps X.K H1 vs ds ∧ HR X.K H1 S ∧ dBfL f ds S Kc ∧ Cl X.K H1 S Kc Q := fun σ H Q ⟨ρ, S, Kc, hρ, hs, ht, hk⟩ =>
    r σ H _ ρ S _ hρ hs ht fun out S2 H2 D vo q ev hs2 hSD hHD ro fr => ⟨D, vo, out, S2, Kc, rfl, SqL.of hHD, ro, hs2, q, (hk : Cl X.K H S Kc Q).later ev⟩
  have pa : PA X [.ListComp y [⟨t, it, ifs, 0⟩] scope pos] (fun σ H Q => te σ H fun v H1 => tNil σ H1 fun vs H2 => Q (v :: vs) H2) := pa_cons pl pa_nil rfl
  have viaB : ∀ id, f.fn = .builtin id → Snd Γ G X x (.bfc f own ik es tg cond elt) (.Call (.Name (bfNm f) p) [.ListComp y [⟨t, it, ifs, 0⟩] scope pos] [] cpos) := fun id q => by
    rw [q] at C B
    exact .mk1 (pe_mono (pe_callB C g1 m1 B pa n1 d1 rfl rfl) go) rfl
  have viaT : ∀ id, f.fn = .type id → Snd Γ G X x (.bfc f own ik es tg cond elt) (.Call (.Name (bfNm f) p) [.ListComp y [⟨t, it, ifs, 0⟩] scope pos] [] cpos) := fun id q => by
    rw [q] at C B
    exact .mk1 (pe_mono (pe_callTy C g1 m1 B pa n1 d1 rfl rfl) go) rfl
  cases f <;> first | exact viaB _ rfl | exact viaT _ rfl
theorem snd_dcomp (s : Sit pg Γ G N sc X) {own : List (Str × Nat)} {ik : Ik} {es : List (Ex φ)} {tg : Tg} {cond k v : Ex φ} {y z t it : Expr} {ifs : List Expr} {scope : Scope} {pos : Pos}
    (hb : blkC N sc scope own = true) (hi : PI X t it (liftI X.K (wpI Γ G x ik es))) (hf : ∀ z, foldedSetIterable it X.env z = pure z) (hT : ckT N (locB scope) tg t = true) (hv : (slotsT tg).all (fun i => (own.map (·.2)).contains i) = true)
    (hcond : (ifs = [] ∧ cond = .lit (.bl true)) ∨ ∃ c, ifs = [c] ∧ ∀ X', Sit pg Γ G N (relS scope sc) X' → Snd Γ G X' (fun _ _ _ => False) cond c)
    (hk : ∀ X', Sit pg Γ G N (relS scope sc) X' → Snd Γ G X' (fun _ _ _ => False) k y) (hve : ∀ X', Sit pg Γ G N (relS scope sc) X' → Snd Γ G X' (fun _ _ _ => False) v z) :
    Snd Γ G X x (.dcomp own ik es tg cond k v) (.DictComp y z [⟨t, it, ifs, 0⟩] scope pos) := by
  obtain ⟨g, pg', rg⟩ := tg_blk s hT
  obtain ⟨tt, ptt, rtt⟩ := tt_blk s hcond
  have ok : BlkOk X.N X.env.scope scope own := blkOk_by (by rw [s.n, s.sc]; exact hb)
  have hv' : ∀ i ∈ slotsT tg, i ∈ own.map (·.2) := fun i hi => by
    have := List.all_eq_true.mp hv i hi
    simpa using this
  refine .mk1 (pe_mono (pe_dc (tk := liftE X.K (wpE Γ G k fun _ _ _ => False)) (tv := liftE X.K (wpE Γ G v fun _ _ _ => False)) s.calm (by rw [s.n]; exact s.nd) hi ok pg' ptt (fun st H C cl fp => (hk _ (s.blk st H scope cl C fp)).pe) (fun st H C cl fp => (hve _ (s.blk st H scope cl C fp)).pe) hf) fun σ H Q ⟨ρ, S, Kc, hρ, hs, ht, hk'⟩ => ?_) rfl
  refine dc_core' rg hv' rtt hρ (fun out S2 => dBfL .dict out S2 Kc) ⟨ρ, S, _, hρ, hs, ht, fun items hold S1 q H1 ev hs1 hz J w => ⟨items, hold, S1, ev, hs1, hz, w, q⟩⟩ (fun out kvs S2 H2 D ws q hp ev hs2 hSD hHD ra fr => ?_) liftI_mono
  have q' : ∀ p, S2 p = none → Kc (.ref p) (up S2 p (.dct (mergeD [] kvs))) := by
    unfold dBfL at q
    simp only at q
    rw [hp] at q
    exact q
  refine hk' _ _ (q' D hSD) _ _ ⟨ev.tup, ev.frm, fun a z => ?_⟩ (.ref D) ?_
  · by_cases e : a = D
    · subst e
      cases e0 : S a with
      | some o => exact .inl (by simp)
      | none => exact .inr (fr e0)
    · rw [up_ne e] at z; exact ev.dom a z
  · intro a o ea
    by_cases e : a = D
    · subst e; rw [up_same] at ea; cases ea; exact ⟨ws, hHD, ra⟩
    · rw [up_ne e] at ea; exact hs2 a o ea
theorem keys_rps {K : PySem.W.Frag} {H : Hp} : ∀ {ds : List D} {ks : List Key} {vs : List V}, keysD ds = some ks → Rps K H vs ds → vs = ks.map kV
  | [], ks, vs, h, r => by cases h; cases r; rfl
  | d :: ds, ks, vs, h, r => by
    have h' : (match keyD d, keysD ds with
      | some k, some ks => some (k :: ks)
      | _, _ => none) = some ks := h
    cases r with
    | cons a b =>
      cases ek : keyD d with
      | none => rw [ek] at h'; cases h'
      | some k =>
        cases er : keysD ds with
        | none => rw [ek, er] at h'; cases h'
        | some kr =>
          rw [ek, er] at h'
          cases h'
          rw [key_rp ek a, keys_rps er b]
          rfl
theorem snd_lenset (s : Sit pg Γ G N sc X) {a : Ex φ} {y : Expr} {p p2 q pos : Pos} (h1 : bltB pg sc "len" = true) (h2 : bltB pg sc "set" = true) (ck : ckE pg N sc a y = true) (ha : Snd Γ G X x a y) :
    Snd Γ G X x (.lenset a) (.Call (.Name "len" p) [.Call (.Name "set" p2) [y] [] q] [] pos) := by
  obtain ⟨g1, m1, d1, n1⟩ := blt_of s h1
  obtain ⟨g2, m2, d2, n2⟩ := blt_of s h2
  refine .mk1 (pe_mono (pe_lenSetK s.calm g1 m1 g2 m2 ha.pe (star_cons (ck_nostar ck))) fun σ H Q ⟨ρ, S, Kc, hρ, hs, ht, hk⟩ => ⟨ρ, S, _, hρ, hs, ht, fun d S1 q v H1 e1 r1 hs1 => ?_⟩) rfl
  cases d with
  | ref a =>
    cases r1
    have q' : (match S1 a with
      | some (.lst ds) => (match keysD ds with
        | some ks => ks.length ≤ 4000 ∧ Kc (.int (ks.foldl addK []).length) S1
        | none => False)
      | _ => False) := q
    split at q'
    · rename_i ds e
      split at q'
      · rename_i ks ek
        obtain ⟨vs, hq, r⟩ := hs1.lst e
        have e3 := keys_rps ek r
        subst e3
        refine ⟨a, ks, rfl, SqL.of hq, by unfold scanBound; have := q'.1; omega, ?_⟩
        have e4 : metK ks ks.length = ks.foldl addK [] := by unfold metK; rw [List.take_length]
        rw [e4]
        exact hk _ _ q'.2 _ _ e1 (.int _) hs1
      · exact q'.elim
    · exact q'.elim
  | _ => exact False.elim q
end
end Lac
end

-- LacN.lean
section
set_option Elab.async false
set_option linter.all false
set_option maxRecDepth 100000
set_option maxHeartbeats 2000000
set_option autoImplicit false
/-! Lac, part N: every checked expression does what it is read as. -/
namespace Lac
open PySem PySem.Spec PyProof.Rows L2
section
variable {φ : Type} {pg : Pg φ} {Γ : φ → DSp} {G : Nat → Option D} {N : List Str} {sc : Scope} {X : Cx} {x : XW}
/-- the check of what is walked -/
def ckI (pg : Pg φ) (N : List Str) (sc : Scope) (ik : Ik) (es : List (Ex φ)) (tg : Tg) (it : Expr) : Bool := match ik with
  | .any => ckEs pg N sc es [it]
  | .range => (match it with
    | .Call (.Name x _) fs [] _ => decide (x = "range") && (bltB pg sc x && (ckEs pg N sc es fs && (fs.length == 1 || fs.length == 2)))
    | _ => false)
  | .enum => (match it with
    | .Call (.Name x _) fs [] _ => decide (x = "enumerate") && (bltB pg sc x && (ckEs pg N sc es fs && (fs.length == 1 && isTup tg)))
    | _ => false)
  | .zip => false
/-- expressions of a list -/
structure SndEs (Γ : φ → DSp) (G : Nat → Option D) (X : Cx) (x : XW) (es : List (Ex φ)) (exs : List Expr) : Prop where
  pa : PA X exs (liftA X.K es.length (wpEs Γ G es x))
  one : ∀ e ex, es = [e] → exs = [ex] → Snd Γ G X x e ex
/-- a reading of arguments that knows how many they are -/
def wpEsN (Γ : φ → DSp) (G : Nat → Option D) (x : XW) (es : List (Ex φ)) (n : Nat) (ρ : Env) (S : SH) (Q : List D → SH → Prop) : Prop := ∃ Q', wpEs Γ G es x ρ S Q' ∧ ∀ ds S, ds.length = n → Q' ds S → Q ds S
theorem pa_len {es : List (Ex φ)} {exs : List Expr} {n : Nat} (hn : es.length = n) (h : PA X exs (liftA X.K es.length (wpEs Γ G es x))) : PA X exs (liftA X.K n (wpEsN Γ G x es n)) := by
  subst hn
  refine pa_mono h fun σ H Q ⟨ρ, S, Kc, hρ, hs, ⟨Q', q, m⟩, k⟩ => ⟨ρ, S, Q', hρ, hs, q, fun ds S' z vs H' hl ev r hs' => k ds S' (m ds S' ?_ z) vs H' hl ev r hs'⟩
  rw [← r.length, hl]
theorem ckEs_len {es : List (Ex φ)} {exs : List Expr} (h : ckEs pg N sc es exs = true) : es.length = exs.length := by
  induction exs generalizing es with
  | nil =>
    cases es with
    | nil => rfl
    | cons => cases h
  | cons y ys ih =>
    cases es with
    | nil => cases h
    | cons e es => simp [ih (tail_ck h)]
theorem pi_ck (s : Sit pg Γ G N sc X) {ik : Ik} {es : List (Ex φ)} {tg : Tg} {t it : Expr} {st : Str → Bool} (ht : ckT N st tg t = true) (h : ckI pg N sc ik es tg it = true) (hes : ∀ exs, ckEs pg N sc es exs = true → SndEs Γ G X x es exs) :
    PI X t it (liftI X.K (wpI Γ G x ik es)) ∧ ∀ z, foldedSetIterable it X.env z = pure z := by
  have fcall : ∀ f fs ks p z, foldedSetIterable (.Call f fs ks p) X.env z = pure z := fun _ _ _ _ _ => rfl
  cases ik with
  | any =>
    have h : ckEs pg N sc es [it] = true := h
    have hz := ckEs_len h
    match es, hz, h with
    | [e], _, h =>
      have hs := (hes _ h).one e it rfl rfl
      refine ⟨pi_anyD (tg := t) hs.pe, fun z => ?_⟩
      have hck : ckE pg N sc e it = true := (ba (show (ckE pg N sc e it && ckEs pg N sc [] []) = true from h)).1
      cases it with
      | Set => cases e <;> exact (Bool.false_ne_true hck).elim
      | _ => rfl
  | range =>
    cases it with
    | Call f fs ks pos =>
      cases f with
      | Name y p =>
        cases ks with
        | nil =>
          have h : (decide (y = "range") && (bltB pg sc y && (ckEs pg N sc es fs && (fs.length == 1 || fs.length == 2)))) = true := h
          obtain ⟨h1, h⟩ := ba h
          obtain ⟨h2, h⟩ := ba h
          obtain ⟨h3, h4⟩ := ba h
          have e1 := of_decide_eq_true h1
          subst e1
          obtain ⟨g1, m1, d1, n1⟩ := blt_of s h2
          refine ⟨?_, fcall _ _ _ _⟩
          have hl := ckEs_len h3
          have pa := (hes _ h3).pa
          match fs, h3, h4, hl, pa with
          | [a], h3, _, hl, pa =>
            refine pi_mono (pi_range1D g1 m1 (pa_len hl pa) (star_any1 h3 _)) fun σ H R ⟨ρ, S, Kc, hρ, hs, q, k⟩ => ⟨ρ, S, Kc, hρ, hs, ⟨_, q, fun ds S' e w => ?_⟩, k⟩
            match ds, e, w with
            | [.int n], _, w => exact ⟨n, rfl, w⟩
            | [.non], _, w => exact w.elim
            | [.bl _], _, w => exact w.elim
            | [.str _], _, w => exact w.elim
            | [.tup _], _, w => exact w.elim
            | [.ref _], _, w => exact w.elim
          | [a, b], h3, _, hl, pa =>
            refine pi_mono (pi_range2D g1 m1 (pa_len hl pa) (star_any2 h3 _) (star_any1 (tail_ck2 h3) _)) fun σ H R ⟨ρ, S, Kc, hρ, hs, q, k⟩ => ⟨ρ, S, Kc, hρ, hs, ⟨_, q, fun ds S' e w => ?_⟩, k⟩
            match ds, e with
            | [u, v], _ =>
              cases u <;> cases v <;> first | exact ⟨_, _, rfl, w⟩ | exact False.elim w
        | cons => exact (Bool.false_ne_true h).elim
      | _ => exact (Bool.false_ne_true h).elim
    | _ => exact (Bool.false_ne_true h).elim
  | enum =>
    cases it with
    | Call f fs ks pos =>
      cases f with
      | Name y p =>
        cases ks with
        | nil =>
          have h : (decide (y = "enumerate") && (bltB pg sc y && (ckEs pg N sc es fs && (fs.length == 1 && isTup tg)))) = true := h
          obtain ⟨h1, h⟩ := ba h
          obtain ⟨h2, h⟩ := ba h
          obtain ⟨h3, h⟩ := ba h
          obtain ⟨h4, h5⟩ := ba h
          have e1 := of_decide_eq_true h1
          subst e1
          obtain ⟨g1, m1, d1, n1⟩ := blt_of s h2
          refine ⟨?_, fcall _ _ _ _⟩
          have hl := ckEs_len h3
          have pa := (hes _ h3).pa
          cases tg with
          | nm => cases h5
          | tup ts =>
            cases t with
            | Tuple elts kk tpos =>
              match fs, h3, h4, hl, pa with
              | [a], h3, _, hl, pa =>
                refine pi_mono (pi_enumD g1 m1 (pa_len hl pa) (star_any1 h3 _)) fun σ H R ⟨ρ, S, Kc, hρ, hs, q, k⟩ => ⟨ρ, S, Kc, hρ, hs, ⟨_, q, fun ds S' e w => ?_⟩, k⟩
                match ds, e with
                | [u], _ => exact ⟨_, rfl, w⟩
            | _ => exact (Bool.false_ne_true ht).elim
        | cons => exact (Bool.false_ne_true h).elim
      | _ => exact (Bool.false_ne_true h).elim
    | _ => exact (Bool.false_ne_true h).elim
  | zip => exact (Bool.false_ne_true h).elim
where
  star_any1 {es : List (Ex φ)} {a : Expr} (h : ckEs pg N sc es [a] = true) (env : PySem.Env) : starEach [a] env = [(false, eval a env)] := by
    match es, h with
    | e :: r, h => rw [star_of_ck h env]; rfl
    | [], h => cases h
  star_any2 {es : List (Ex φ)} {a b : Expr} (h : ckEs pg N sc es [a, b] = true) (env : PySem.Env) : starEach [a, b] env = [(false, eval a env), (false, eval b env)] := by
    match es, h with
    | e :: r, h => rw [star_of_ck h env, star_any1 (tail_ck h) env]
    | [], h => cases h
  tail_ck2 {es : List (Ex φ)} {a b : Expr} (h : ckEs pg N sc es [a, b] = true) : ckEs pg N sc es.tail [b] = true := by
    match es, h with
    | e :: r, h => exact tail_ck h
    | [], h => cases h
end
end Lac
end

-- LacO.lean
section
set_option Elab.async false
set_option linter.all false
set_option maxRecDepth 100000
set_option maxHeartbeats 4000000
set_option autoImplicit false
/-! Lac, part O: every checked expression does what it is read as. -/
namespace Lac
open PySem PySem.Spec PyProof.Rows L2
section
variable {φ : Type} {pg : Pg φ} {Γ : φ → DSp} {G : Nat → Option D} {N : List Str}
/-- the rest of a comprehension's check -/
def ckR (pg : Pg φ) (N : List Str) (sc : Scope) (scope : Scope) (own : List (Str × Nat)) (tg : Tg) (t : Expr) (cond : Ex φ) (ifs : List Expr) (r : Bool) : Bool :=
  ckT N (locB scope) tg t && ((slotsT tg).all (fun i => (own.map (·.2)).contains i) && ((match ifs with
        | [] => (match cond with
          | .lit (.bl true) => true
          | _ => false)
        | [c] => ckE pg N (relS scope sc) cond c
        | _ => false) && r))
theorem ckR_cond {sc scope : Scope} {cond : Ex φ} {ifs : List Expr} (h : (match ifs with
        | [] => (match cond with
          | .lit (.bl true) => true
          | _ => false)
        | [c] => ckE pg N (relS scope sc) cond c
        | _ => false) = true) : (ifs = [] ∧ cond = .lit (.bl true)) ∨ ∃ c, ifs = [c] ∧ ckE pg N (relS scope sc) cond c = true := by
  match ifs, h with
  | [], h =>
    refine .inl ⟨rfl, ?_⟩
    cases cond with
    | lit d =>
      cases d with
      | bl b =>
        cases b with
        | true => rfl
        | false => exact (Bool.false_ne_true h).elim
      | _ => exact (Bool.false_ne_true h).elim
    | _ => exact (Bool.false_ne_true h).elim
  | [c], h => exact .inr ⟨c, rfl, h⟩
  | _ :: _ :: _, h => exact (Bool.false_ne_true h).elim
theorem ckE_bin {sc : Scope} {op : Op2} {a b : Ex φ} {ex : Expr} (h : ckE pg N sc (.bin op a b) ex = true) : ∃ y z pos, ex = .BinOp y (opx op) z pos ∧ ckE pg N sc a y = true ∧ ckE pg N sc b z = true := by
  cases ex with
  | BinOp y o z pos =>
    obtain ⟨h1, h2⟩ := ba (show (decide (opx op = o) && (ckE pg N sc a y && ckE pg N sc b z)) = true from h)
    obtain ⟨h2, h3⟩ := ba h2
    exact ⟨y, z, pos, by rw [of_decide_eq_true h1], h2, h3⟩
  | _ => exact (Bool.false_ne_true h).elim
theorem ckE_cmp {sc : Scope} {op : Cm} {a b : Ex φ} {ex : Expr} (h : ckE pg N sc (.cmp op a b) ex = true) : ∃ y z pos, ex = .Compare y [cmx op] [z] pos ∧ ckE pg N sc a y = true ∧ ckE pg N sc b z = true := by
  cases ex with
  | Compare y ops cs pos =>
    rcases ops with _ | ⟨o, _ | ⟨o2, os⟩⟩ <;> rcases cs with _ | ⟨z, _ | ⟨z2, zs⟩⟩ <;> first | exact (Bool.false_ne_true h).elim | skip
    obtain ⟨h1, h2⟩ := ba (show (decide (cmx op = o) && (ckE pg N sc a y && ckE pg N sc b z)) = true from h)
    obtain ⟨h2, h3⟩ := ba h2
    exact ⟨y, z, pos, by rw [of_decide_eq_true h1], h2, h3⟩
  | _ => exact (Bool.false_ne_true h).elim
theorem ckE_chain {sc : Scope} {o1 o2 : Cm} {a b c : Ex φ} {ex : Expr} (h : ckE pg N sc (.chain o1 o2 a b c) ex = true) : ∃ y z w pos, ex = .Compare y [cmx o1, cmx o2] [z, w] pos ∧ ckE pg N sc a y = true ∧ ckE pg N sc b z = true ∧ ckE pg N sc c w = true := by
  cases ex with
  | Compare y ops cs pos =>
    rcases ops with _ | ⟨p, _ | ⟨q, _ | ⟨q2, qs⟩⟩⟩ <;> rcases cs with _ | ⟨z, _ | ⟨w, _ | ⟨w2, ws⟩⟩⟩ <;> first | exact (Bool.false_ne_true h).elim | skip
    obtain ⟨h1, h2⟩ := ba (show (decide (cmx o1 = p) && (decide (cmx o2 = q) && (ckE pg N sc a y && (ckE pg N sc b z && ckE pg N sc c w)))) = true from h)
    obtain ⟨h2, h3⟩ := ba h2
    obtain ⟨h3, h4⟩ := ba h3
    obtain ⟨h4, h5⟩ := ba h4
    exact ⟨y, z, w, pos, by rw [of_decide_eq_true h1, of_decide_eq_true h2], h3, h4, h5⟩
  | _ => exact (Bool.false_ne_true h).elim
theorem ckE_isN {sc : Scope} {n : Bool} {a : Ex φ} {ex : Expr} (h : ckE pg N sc (.isN n a) ex = true) : ∃ y k p pos, ex = .Compare y [if n then .IsNot else .Is] [.Constant .none k p] pos ∧ ckE pg N sc a y = true := by
  cases ex with
  | Compare y ops cs pos =>
    rcases ops with _ | ⟨o, _ | ⟨q, os⟩⟩ <;> rcases cs with _ | ⟨z, cs⟩ <;> first | exact (Bool.false_ne_true h).elim | skip
    cases z with
    | Constant c k p =>
      cases c with
      | none =>
        rcases cs with _ | ⟨z2, zs⟩ <;> first | exact (Bool.false_ne_true h).elim | skip
        obtain ⟨h1, h2⟩ := ba (show (decide (o = if n then .IsNot else .Is) && ckE pg N sc a y) = true from h)
        exact ⟨y, k, p, pos, by rw [of_decide_eq_true h1], h2⟩
      | _ => exact (Bool.false_ne_true h).elim
    | _ => exact (Bool.false_ne_true h).elim
  | _ => exact (Bool.false_ne_true h).elim
theorem ckE_isB {sc : Scope} {b : Bool} {a : Ex φ} {ex : Expr} (h : ckE pg N sc (.isB b a) ex = true) : ∃ y k p pos, ex = .Compare y [.Is] [.Constant (.bool b) k p] pos ∧ ckE pg N sc a y = true := by
  cases ex with
  | Compare y ops cs pos =>
    rcases ops with _ | ⟨o, os⟩
    · exact (Bool.false_ne_true h).elim
    cases o with
    | Is =>
      rcases os with _ | ⟨q, os⟩ <;> rcases cs with _ | ⟨z, cs⟩ <;> first | exact (Bool.false_ne_true h).elim | skip
      cases z with
      | Constant c k p =>
        cases c with
        | bool c =>
          rcases cs with _ | ⟨z2, zs⟩ <;> first | exact (Bool.false_ne_true h).elim | skip
          obtain ⟨h1, h2⟩ := ba (show (decide (b = c) && ckE pg N sc a y) = true from h)
          exact ⟨y, k, p, pos, by rw [of_decide_eq_true h1], h2⟩
        | _ => exact (Bool.false_ne_true h).elim
      | _ => exact (Bool.false_ne_true h).elim
    | _ => exact (Bool.false_ne_true h).elim
  | _ => exact (Bool.false_ne_true h).elim
theorem ckE_and {sc : Scope} {a b : Ex φ} {ex : Expr} (h : ckE pg N sc (.and a b) ex = true) : ∃ y z r pos, ex = .BoolOp .And (y :: z :: r) pos ∧ ckE pg N sc a y = true ∧ ((r = [] ∧ ckE pg N sc b z = true) ∨ ckE pg N sc b (.BoolOp .And (z :: r) pos) = true) := by
  cases ex with
  | BoolOp op vs pos =>
    cases op with
    | And =>
      rcases vs with _ | ⟨y, _ | ⟨z, r⟩⟩ <;> first | exact (Bool.false_ne_true h).elim | skip
      cases r with
      | nil =>
        obtain ⟨h1, h2⟩ := ba (show (ckE pg N sc a y && ckE pg N sc b z) = true from h)
        exact ⟨y, z, [], pos, rfl, h1, .inl ⟨rfl, h2⟩⟩
      | cons w r =>
        obtain ⟨h1, h2⟩ := ba (show (ckE pg N sc a y && ckE pg N sc b (.BoolOp .And (z :: w :: r) pos)) = true from h)
        exact ⟨y, z, _, pos, rfl, h1, .inr h2⟩
    | Or => exact (Bool.false_ne_true h).elim
  | _ => exact (Bool.false_ne_true h).elim
theorem ckE_or {sc : Scope} {a b : Ex φ} {ex : Expr} (h : ckE pg N sc (.or a b) ex = true) : ∃ y z r pos, ex = .BoolOp .Or (y :: z :: r) pos ∧ ckE pg N sc a y = true ∧ ((r = [] ∧ ckE pg N sc b z = true) ∨ ckE pg N sc b (.BoolOp .Or (z :: r) pos) = true) := by
  cases ex with
  | BoolOp op vs pos =>
    cases op with
    | Or =>
      rcases vs with _ | ⟨y, _ | ⟨z, r⟩⟩ <;> first | exact (Bool.false_ne_true h).elim | skip
      cases r with
      | nil =>
        obtain ⟨h1, h2⟩ := ba (show (ckE pg N sc a y && ckE pg N sc b z) = true from h)
        exact ⟨y, z, [], pos, rfl, h1, .inl ⟨rfl, h2⟩⟩
      | cons w r =>
        obtain ⟨h1, h2⟩ := ba (show (ckE pg N sc a y && ckE pg N sc b (.BoolOp .Or (z :: w :: r) pos)) = true from h)
        exact ⟨y, z, _, pos, rfl, h1, .inr h2⟩
    | And => exact (Bool.false_ne_true h).elim
  | _ => exact (Bool.false_ne_true h).elim
theorem ckE_slcL {sc : Scope} {a lo : Ex φ} {ex : Expr} (h : ckE pg N sc (.slcL a lo) ex = true) : ∃ y z p pos, ex = .Subscript y (.Slice (some z) none none p) pos ∧ ckE pg N sc a y = true ∧ ckE pg N sc lo z = true := by
  cases ex with
  | Subscript y s pos =>
    cases s with
    | Slice l u st p =>
      rcases l with _ | l <;> rcases u with _ | u <;> rcases st with _ | st <;> first | exact (Bool.false_ne_true h).elim | skip
      obtain ⟨h1, h2⟩ := ba (show (ckE pg N sc a y && ckE pg N sc lo l) = true from h)
      exact ⟨y, l, p, pos, rfl, h1, h2⟩
    | _ => exact (Bool.false_ne_true h).elim
  | _ => exact (Bool.false_ne_true h).elim
theorem ckE_slcU {sc : Scope} {a lo : Ex φ} {ex : Expr} (h : ckE pg N sc (.slcU a lo) ex = true) : ∃ y z p pos, ex = .Subscript y (.Slice none (some z) none p) pos ∧ ckE pg N sc a y = true ∧ ckE pg N sc lo z = true := by
  cases ex with
  | Subscript y s pos =>
    cases s with
    | Slice l u st p =>
      rcases l with _ | l <;> rcases u with _ | u <;> rcases st with _ | st <;> first | exact (Bool.false_ne_true h).elim | skip
      obtain ⟨h1, h2⟩ := ba (show (ckE pg N sc a y && ckE pg N sc lo u) = true from h)
      exact ⟨y, u, p, pos, rfl, h1, h2⟩
    | _ => exact (Bool.false_ne_true h).elim
  | _ => exact (Bool.false_ne_true h).elim
theorem ckE_slcB {sc : Scope} {a lo hi : Ex φ} {ex : Expr} (h : ckE pg N sc (.slcB a lo hi) ex = true) : ∃ y z w p pos, ex = .Subscript y (.Slice (some z) (some w) none p) pos ∧ ckE pg N sc a y = true ∧ ckE pg N sc lo z = true ∧ ckE pg N sc hi w = true := by
  cases ex with
  | Subscript y s pos =>
    cases s with
    | Slice l u st p =>
      rcases l with _ | l <;> rcases u with _ | u <;> rcases st with _ | st <;> first | exact (Bool.false_ne_true h).elim | skip
      obtain ⟨h1, h2⟩ := ba (show (ckE pg N sc a y && (ckE pg N sc lo l && ckE pg N sc hi u)) = true from h)
      obtain ⟨h2, h3⟩ := ba h2
      exact ⟨y, l, u, p, pos, rfl, h1, h2, h3⟩
    | _ => exact (Bool.false_ne_true h).elim
  | _ => exact (Bool.false_ne_true h).elim
theorem ckE_rev {sc : Scope} {a : Ex φ} {ex : Expr} (h : ckE pg N sc (.rev a) ex = true) : ∃ y k p1 p2 p3 pos, ex = .Subscript y (.Slice none none (some (.UnaryOp .USub (.Constant (.int 1) k p1) p2)) p3) pos ∧ ckE pg N sc a y = true := by
  cases ex with
  | Subscript y s pos =>
    cases s with
    | Slice l u st p =>
      rcases l with _ | l <;> rcases u with _ | u <;> rcases st with _ | st <;> first | exact (Bool.false_ne_true h).elim | skip
      cases st with
      | UnaryOp op c p2 =>
        cases op with
        | USub =>
          cases c with
          | Constant c k p1 =>
            cases c with
            | int i =>
              by_cases e : i = 1
              · subst e
                exact ⟨y, k, p1, p2, p, pos, rfl, h⟩
              · exfalso
                rcases i with i | i
                · rcases i with _ | _ | i
                  · exact Bool.false_ne_true h
                  · exact e rfl
                  · exact Bool.false_ne_true h
                · exact Bool.false_ne_true h
            | _ => exact (Bool.false_ne_true h).elim
          | _ => exact (Bool.false_ne_true h).elim
        | _ => exact (Bool.false_ne_true h).elim
      | _ => exact (Bool.false_ne_true h).elim
    | _ => exact (Bool.false_ne_true h).elim
  | _ => exact (Bool.false_ne_true h).elim
end
end Lac
end

-- LacP.lean
section
set_option Elab.async false
set_option linter.all false
set_option maxRecDepth 100000
set_option maxHeartbeats 4000000
set_option autoImplicit false
/-! Lac, part P: the soundness of every checked expression. -/
namespace Lac
open PySem PySem.Spec PyProof.Rows L2
section
variable {φ : Type} {pg : Pg φ} {Γ : φ → DSp} {G : Nat → Option D} {N : List Str}
mutual
theorem sndE : ∀ (e : Ex φ) (sc : Scope) (ex : Expr) (X : Cx) (x : XW), ckE pg N sc e ex = true → Sit pg Γ G N sc X → Snd Γ G X x e ex
  | .var i, sc, ex, X, x, h, s => by
    cases ex with
    | Name y p => exact snd_var s h
    | _ => exact (Bool.false_ne_true h).elim
  | .lit d, sc, ex, X, x, h, s => by
    cases ex with
    | Constant c k p => exact snd_lit h
    | _ => exact (Bool.false_ne_true h).elim
  | .gl k, sc, ex, X, x, h, s => by
    cases ex with
    | Name y p => exact snd_gl s h
    | _ => exact (Bool.false_ne_true h).elim
  | .tup es, sc, ex, X, x, h, s => by
    cases ex with
    | Tuple fs k p =>
      obtain ⟨h1, h2⟩ := ba (show (ckEs pg N sc es fs && decide (es.length ≤ 1000)) = true from h)
      exact snd_tup (of_decide_eq_true h2) (sndEs es sc fs X x h1 s).pa
    | _ => exact (Bool.false_ne_true h).elim
  | .lst es, sc, ex, X, x, h, s => by
    cases ex with
    | List fs p =>
      obtain ⟨h1, h2⟩ := ba (show (ckEs pg N sc es fs && decide (es.length ≤ 1000)) = true from h)
      exact snd_lst (of_decide_eq_true h2) (sndEs es sc fs X x h1 s).pa
    | _ => exact (Bool.false_ne_true h).elim
  | .bin op a b, sc, ex, X, x, h, s => by
    obtain ⟨y, z, pos, rfl, h1, h2⟩ := ckE_bin h
    exact snd_bin (sndE a sc y X x h1 s) (sndE b sc z X x h2 s)
  | .neg a, sc, ex, X, x, h, s => by
    cases ex with
    | UnaryOp op y p =>
      cases op with
      | USub => exact snd_neg (sndE a sc y X x h s)
      | _ => exact (Bool.false_ne_true h).elim
    | _ => exact (Bool.false_ne_true h).elim
  | .cmp op a b, sc, ex, X, x, h, s => by
    obtain ⟨y, z, pos, rfl, h1, h2⟩ := ckE_cmp h
    exact snd_cmp s (sndE a sc y X x h1 s) (sndE b sc z X x h2 s) h2
  | .chain o1 o2 a b c, sc, ex, X, x, h, s => by
    obtain ⟨y, z, w, pos, rfl, h1, h2, h3⟩ := ckE_chain h
    exact snd_chain s (sndE a sc y X x h1 s) (sndE b sc z X x h2 s) (sndE c sc w X x h3 s) h2 h3
  | .isN n a, sc, ex, X, x, h, s => by
    obtain ⟨y, k, p, pos, rfl, h1⟩ := ckE_isN h
    exact snd_isN (sndE a sc y X x h1 s)
  | .isB b a, sc, ex, X, x, h, s => by
    obtain ⟨y, k, p, pos, rfl, h1⟩ := ckE_isB h
    exact snd_isB (sndE a sc y X x h1 s)
  | .and a b, sc, ex, X, x, h, s => by
    obtain ⟨y, z, r, pos, rfl, h1, ⟨rfl, h2⟩ | h2⟩ := ckE_and h
    · exact snd_and (sndE a sc y X x h1 s) (snd_last (sndE b sc z X x h2 s))
    · exact snd_and (sndE a sc y X x h1 s) (sndE b sc _ X x h2 s)
  | .or a b, sc, ex, X, x, h, s => by
    obtain ⟨y, z, r, pos, rfl, h1, ⟨rfl, h2⟩ | h2⟩ := ckE_or h
    · exact snd_or (sndE a sc y X x h1 s) (snd_last (sndE b sc z X x h2 s))
    · exact snd_or (sndE a sc y X x h1 s) (sndE b sc _ X x h2 s)
  | .not a, sc, ex, X, x, h, s => by
    cases ex with
    | UnaryOp op y p =>
      cases op with
      | Not => exact snd_not (sndE a sc y X x h s)
      | _ => exact (Bool.false_ne_true h).elim
    | _ => exact (Bool.false_ne_true h).elim
  | .ite c a b, sc, ex, X, x, h, s => by
    cases ex with
    | IfExp y z w p =>
      obtain ⟨h1, h2⟩ := ba (show (ckE pg N sc c y && (ckE pg N sc a z && ckE pg N sc b w)) = true from h)
      obtain ⟨h2, h3⟩ := ba h2
      exact snd_ite (sndE c sc y X x h1 s) (sndE a sc z X x h2 s) (sndE b sc w X x h3 s)
    | _ => exact (Bool.false_ne_true h).elim
  | .idx a i, sc, ex, X, x, h, s => by
    cases ex with
    | Subscript y z p =>
      obtain ⟨h1, h2⟩ := ba (show (ckE pg N sc a y && ckE pg N sc i z) = true from h)
      exact snd_idx s (sndE a sc y X x h1 s) (sndE i sc z X x h2 s) h2
    | _ => exact (Bool.false_ne_true h).elim
  | .slcL a lo, sc, ex, X, x, h, s => by
    obtain ⟨y, z, p, pos, rfl, h1, h2⟩ := ckE_slcL h
    exact snd_slcL (sndE a sc y X x h1 s) (sndE lo sc z X x h2 s)
  | .slcU a hi, sc, ex, X, x, h, s => by
    obtain ⟨y, z, p, pos, rfl, h1, h2⟩ := ckE_slcU h
    exact snd_slcU (sndE a sc y X x h1 s) (sndE hi sc z X x h2 s)
  | .slcB a lo hi, sc, ex, X, x, h, s => by
    obtain ⟨y, z, w, p, pos, rfl, h1, h2, h3⟩ := ckE_slcB h
    exact snd_slcB (sndE a sc y X x h1 s) (sndE lo sc z X x h2 s) (sndE hi sc w X x h3 s)
  | .rev a, sc, ex, X, x, h, s => by
    obtain ⟨y, k, p1, p2, p3, pos, rfl, h1⟩ := ckE_rev h
    exact snd_rev (sndE a sc y X x h1 s)
  | .isi t a, sc, ex, X, x, h, s => by
    cases ex with
    | Call f fs ks pos =>
      cases f with
      | Name f p =>
        rcases fs with _ | ⟨y, _ | ⟨z, fs⟩⟩ <;> first | exact (Bool.false_ne_true h).elim | skip
        cases z with
        | Name z p2 =>
          rcases fs with _ | ⟨w, fs⟩ <;> rcases ks with _ | ⟨k, ks⟩ <;> first | exact (Bool.false_ne_true h).elim | skip
          obtain ⟨h1, h⟩ := ba (show (decide (f = "isinstance") && (bltB pg sc "isinstance" && (decide (z = (tyN t : Str)) && (bltB pg sc z && ckE pg N sc a y)))) = true from h)
          obtain ⟨h2, h⟩ := ba h
          obtain ⟨h3, h⟩ := ba h
          obtain ⟨h4, h5⟩ := ba h
          rw [of_decide_eq_true h3] at h4
          rw [of_decide_eq_true h1, of_decide_eq_true h3]
          exact snd_isi s h2 h4 h5 (sndE a sc y X x h5 s)
        | _ => exact (Bool.false_ne_true h).elim
      | _ => exact (Bool.false_ne_true h).elim
    | _ => exact (Bool.false_ne_true h).elim
  | .call f es, sc, ex, X, x, h, s => by
    cases ex with
    | Call g fs ks pos =>
      cases g with
      | Name y p =>
        cases ks with
        | nil =>
          obtain ⟨h1, h⟩ := ba (show (decide (pg.nm f = y) && (glB sc y && (ndB y && (ckEs pg N sc es fs && decide (es.length = (pg.ps f).length))))) = true from h)
          obtain ⟨h2, h⟩ := ba h
          obtain ⟨h3, h⟩ := ba h
          obtain ⟨h4, h5⟩ := ba h
          exact snd_call s (of_decide_eq_true h1) h2 h3 (of_decide_eq_true h5) h4 (sndEs es sc fs X x h4 s).pa
        | cons => exact (Bool.false_ne_true h).elim
      | _ => exact (Bool.false_ne_true h).elim
    | _ => exact (Bool.false_ne_true h).elim
  | .bf f es, sc, ex, X, x, h, s => by
    cases ex with
    | Call g fs ks pos =>
      cases g with
      | Name y p =>
        rcases fs with _ | ⟨z, fs⟩ <;> rcases ks with _ | ⟨k, ks⟩ <;> first | exact (Bool.false_ne_true h).elim | skip
        obtain ⟨h1, h⟩ := ba (show (decide (bfNm f = y) && (bltB pg sc y && ckEs pg N sc es (z :: fs))) = true from h)
        obtain ⟨h2, h3⟩ := ba h
        exact snd_bf s (of_decide_eq_true h1) h2 h3 (sndEs es sc _ X x h3 s).pa
      | _ => exact (Bool.false_ne_true h).elim
    | _ => exact (Bool.false_ne_true h).elim
  | .meth m o es, sc, ex, X, x, h, s => by
    cases ex with
    | Call g fs ks cpos =>
      cases g with
      | Attribute y a apos =>
        cases ks with
        | nil =>
          obtain ⟨h1, h⟩ := ba (show (decide (mtNm m = a) && (ckE pg N sc o y && (ckEs pg N sc es fs && ((apos.endLine == cpos.line) && (decide (fs.length < 20) && notCall0 y))))) = true from h)
          obtain ⟨h2, h⟩ := ba h
          obtain ⟨h3, h⟩ := ba h
          obtain ⟨h4, h⟩ := ba h
          obtain ⟨h5, h6⟩ := ba h
          have e1 := of_decide_eq_true h1
          subst e1
          exact snd_meth s h4 h6 (of_decide_eq_true h5) h3 (sndE o sc y X x h2 s) (sndEs es sc fs X x h3 s).pa
        | cons => exact (Bool.false_ne_true h).elim
      | _ => exact (Bool.false_ne_true h).elim
    | _ => exact (Bool.false_ne_true h).elim
  | .comp own ik es tg cond elt, sc, ex, X, x, h, s => by
    cases ex with
    | ListComp y gs scope pos =>
      rcases gs with _ | ⟨⟨t, it, ifs, a⟩, gs⟩
      · exact (Bool.false_ne_true h).elim
      rcases a with (_ | a) | a
      · cases gs with
        | nil =>
          obtain ⟨h1, h⟩ := ba h
          obtain ⟨h2, h⟩ := ba h
          obtain ⟨h3, h⟩ := ba h
          obtain ⟨h4, h⟩ := ba h
          obtain ⟨h5, h6⟩ := ba h
          have h2' : ckI pg N sc ik es tg it = true := by cases ik <;> exact h2
          have pp := pi_ck s (x := x) h3 h2' fun exs hx => sndEs es sc exs X x hx s
          refine snd_comp s h1 pp.1 pp.2 h3 h4 ?_ fun X' s' => sndE elt _ y X' _ h6 s'
          rcases ckR_cond (sc := sc) (scope := scope) h5 with q | ⟨c, q, r⟩
          · exact .inl q
          · exact .inr ⟨c, q, fun X' s' => sndE cond _ c X' _ r s'⟩
        | cons => exact (Bool.false_ne_true h).elim
      · cases gs <;> exact (Bool.false_ne_true h).elim
      · cases gs <;> exact (Bool.false_ne_true h).elim
    | _ => exact (Bool.false_ne_true h).elim
  | .bfc f own ik es tg cond elt, sc, ex, X, x, h, s => by
    cases ex with
    | Call g fs ks cpos =>
      cases g with
      | Name nm p =>
        rcases fs with _ | ⟨z, fs⟩
        · exact (Bool.false_ne_true h).elim
        cases z with
        | ListComp y gs scope pos =>
          rcases gs with _ | ⟨⟨t, it, ifs, a⟩, gs⟩
          · exact (Bool.false_ne_true h).elim
          rcases a with (_ | a) | a
          · cases gs with
            | nil =>
              rcases fs with _ | ⟨w, fs⟩ <;> rcases ks with _ | ⟨k, ks⟩ <;> first | exact (Bool.false_ne_true h).elim | skip
              obtain ⟨hn, h⟩ := ba h
              obtain ⟨hg, h⟩ := ba h
              obtain ⟨h1, h⟩ := ba h
              obtain ⟨h2, h⟩ := ba h
              obtain ⟨h3, h⟩ := ba h
              obtain ⟨h4, h⟩ := ba h
              obtain ⟨h5, h6⟩ := ba h
              have h2' : ckI pg N sc ik es tg it = true := by cases ik <;> exact h2
              have pp := pi_ck s (x := x) h3 h2' fun exs hx => sndEs es sc exs X x hx s
              refine snd_bfc s (of_decide_eq_true hn) hg h1 pp.1 pp.2 h3 h4 ?_ fun X' s' => sndE elt _ y X' _ h6 s'
              rcases ckR_cond (sc := sc) (scope := scope) h5 with q | ⟨c, q, r⟩
              · exact .inl q
              · exact .inr ⟨c, q, fun X' s' => sndE cond _ c X' _ r s'⟩
            | cons => exact (Bool.false_ne_true h).elim
          · cases gs <;> exact (Bool.false_ne_true h).elim
          · cases gs <;> exact (Bool.false_ne_true h).elim
        | _ => exact (Bool.false_ne_true h).elim
      | _ => exact (Bool.false_ne_true h).elim
    | _ => exact (Bool.false_ne_true h).elim
  | .dcomp own ik es tg cond k v, sc, ex, X, x, h, s => by
    cases ex with
    | DictComp y z gs scope pos =>
      rcases gs with _ | ⟨⟨t, it, ifs, a⟩, gs⟩
      · exact (Bool.false_ne_true h).elim
      rcases a with (_ | a) | a
      · cases gs with
        | nil =>
          obtain ⟨h1, h⟩ := ba h
          obtain ⟨h2, h⟩ := ba h
          obtain ⟨h3, h⟩ := ba h
          obtain ⟨h4, h⟩ := ba h
          obtain ⟨h5, h⟩ := ba h
          obtain ⟨h6, h7⟩ := ba h
          have h2' : ckI pg N sc ik es tg it = true := by cases ik <;> exact h2
          have pp := pi_ck s (x := x) h3 h2' fun exs hx => sndEs es sc exs X x hx s
          refine snd_dcomp s h1 pp.1 pp.2 h3 h4 ?_ (fun X' s' => sndE k _ y X' _ h6 s') fun X' s' => sndE v _ z X' _ h7 s'
          rcases ckR_cond (sc := sc) (scope := scope) h5 with q | ⟨c, q, r⟩
          · exact .inl q
          · exact .inr ⟨c, q, fun X' s' => sndE cond _ c X' _ r s'⟩
        | cons => exact (Bool.false_ne_true h).elim
      · cases gs <;> exact (Bool.false_ne_true h).elim
      · cases gs <;> exact (Bool.false_ne_true h).elim
    | _ => exact (Bool.false_ne_true h).elim
  | .lenset a, sc, ex, X, x, h, s => by
    cases ex with
    | Call g fs ks cpos =>
      cases g with
      | Name nm p =>
        rcases fs with _ | ⟨z, fs⟩
        · exact (Bool.false_ne_true h).elim
        cases z with
        | Call g2 fs2 ks2 pos2 =>
          cases g2 with
          | Name nm2 p2 =>
            rcases fs2 with _ | ⟨y, fs2⟩
            · exact (Bool.false_ne_true h).elim
            rcases fs2 with _ | ⟨y2, fs2⟩ <;> rcases ks2 with _ | ⟨k2, ks2⟩ <;> first | exact (Bool.false_ne_true h).elim | skip
            rcases fs with _ | ⟨w, fs⟩ <;> rcases ks with _ | ⟨k, ks⟩ <;> first | exact (Bool.false_ne_true h).elim | skip
            obtain ⟨h1, h⟩ := ba (show (decide (nm = "len") && (decide (nm2 = "set") && (bltB pg sc "len" && (bltB pg sc "set" && ckE pg N sc a y)))) = true from h)
            obtain ⟨h2, h⟩ := ba h
            obtain ⟨h3, h⟩ := ba h
            obtain ⟨h4, h5⟩ := ba h
            rw [of_decide_eq_true h1, of_decide_eq_true h2]
            exact snd_lenset s h3 h4 h5 (sndE a sc y X x h5 s)
          | _ => exact (Bool.false_ne_true h).elim
        | _ => exact (Bool.false_ne_true h).elim
      | _ => exact (Bool.false_ne_true h).elim
    | _ => exact (Bool.false_ne_true h).elim
theorem sndEs : ∀ (es : List (Ex φ)) (sc : Scope) (exs : List Expr) (X : Cx) (x : XW), ckEs pg N sc es exs = true → Sit pg Γ G N sc X → SndEs Γ G X x es exs
  | [], sc, exs, X, x, h, s => by
    cases exs with
    | nil => exact ⟨snd_nil, fun _ _ e => by cases e⟩
    | cons => exact (Bool.false_ne_true h).elim
  | e :: es, sc, exs, X, x, h, s => by
    cases exs with
    | nil => exact (Bool.false_ne_true h).elim
    | cons y ys =>
      obtain ⟨h1, h2⟩ := ba (show (ckE pg N sc e y && ckEs pg N sc es ys) = true from h)
      have q := sndE e sc y X x h1 s
      exact ⟨snd_cons (ck_nostar h1) q (sndEs es sc ys X x h2 s).pa, fun e' ex' e1 e2 => by cases e1; cases e2; exact q⟩
end
end
end Lac
end

-- LacQ.lean
section
set_option Elab.async false
set_option linter.all false
set_option maxRecDepth 100000
set_option maxHeartbeats 4000000
set_option autoImplicit false
/-! Lac, part Q: statements: the checker and what it needs of the compiler's own turns. -/
namespace Lac
open PySem PySem.Spec PyProof.Rows L2

def isComp : Expr → Bool
  | .ListComp .. => true
  | .SetComp .. => true
  | .DictComp .. => true
  | _ => false
/-- does the compiler's turn of a comprehension's value and its store come in -/
def swapB (sc : Scope) (tg v : Expr) : Bool := match v with
  | .ListComp _ _ s vp => (match tg with
    | .Name t pos => isLoc sc t && ((pos.line == vp.line) && !(s.names.any fun (n, k) => n == t && (k == .local || k == .cell)))
    | _ => false)
  | .SetComp _ _ s vp => (match tg with
    | .Name t pos => isLoc sc t && ((pos.line == vp.line) && !(s.names.any fun (n, k) => n == t && (k == .local || k == .cell)))
    | _ => false)
  | .DictComp _ _ _ s vp => (match tg with
    | .Name t pos => isLoc sc t && ((pos.line == vp.line) && !(s.names.any fun (n, k) => n == t && (k == .local || k == .cell)))
    | _ => false)
  | _ => false
def locName (sc : Scope) (line : Nat) : Expr → Option Str
  | .Name id pos => if isLoc sc id && pos.line == line then some id else none
  | _ => none
def isStar : Expr → Bool
  | .Starred .. => true
  | _ => false
/-- the turned stores of a, b = x, y -/
def swC (sc : Scope) (ts vs : List Expr) : Option (Option (List Str)) :=
  if (!(ts.length == 2 || ts.length == 3) || vs.length != ts.length) = true then some none
  else if vs.any isStar = true then some none
  else
    let names := ts.filterMap (locName sc ((ts.head?.map (·.pos.line)).getD 0))
    if (names.length != ts.length || names.eraseDups.length != names.length) = true then some none
    else if vs.all (foldedForSure 8) = true then some none
    else if vs.all (constantsAlone 8) = true then none
    else some (some names)
def swNone (sc : Scope) (tg v : Expr) : Bool := match tg, v with
  | .Tuple ts _ _, .Tuple vs _ _ => (match swC sc ts vs with
    | some none => true
    | _ => false)
  | .List _ _, .Tuple _ _ _ => false
  | _, _ => true
theorem kindOf_loc {env : PySem.Env} {sc : Scope} (he : env.scope = sc) (t : Str) : (env.kindOf t == some .local) = isLoc sc t := by
  subst he
  show (env.scope.names.lookup t == some .local) = isLoc env.scope t
  unfold isLoc
  cases env.scope.names.lookup t with
  | none => rfl
  | some k => cases k <;> rfl
theorem blockKind_of {env : PySem.Env} {sc : Scope} (he : env.scope = sc) (hk : sc.kind = .function) : env.blockKind = .function := by
  unfold PySem.Env.blockKind
  rw [he, hk]
  rfl
theorem swap_of {env : PySem.Env} {sc : Scope} (he : env.scope = sc) (hk : sc.kind = .function) (tg v : Expr) (line : Nat) : swapsWithSole [tg] v line env = pure (swapB sc tg v) := by
  have hb := blockKind_of he hk
  have go : ∀ (s : Scope) (vp : Pos) (t : Str) (pos : Pos), (env.blockKind == .function && env.kindOf t == some .local && pos.line == vp.line && !(s.names.any fun (n, k) => n == t && (k == .local || k == .cell))) = (isLoc sc t && ((pos.line == vp.line) && !(s.names.any fun (n, k) => n == t && (k == .local || k == .cell)))) := fun s vp t pos => by
    rw [hb, kindOf_loc he]
    show ((true && _) && _ && _) = _
    rw [Bool.true_and, Bool.and_assoc]
  cases v with
  | ListComp e g s vp =>
    cases tg with
    | Name t pos => exact congrArg pure (go s vp t pos)
    | _ => rfl
  | SetComp e g s vp =>
    cases tg with
    | Name t pos => exact congrArg pure (go s vp t pos)
    | _ => rfl
  | DictComp e e2 g s vp =>
    cases tg with
    | Name t pos => exact congrArg pure (go s vp t pos)
    | _ => rfl
  | _ => rfl
theorem swC_of {env : PySem.Env} {sc : Scope} (he : env.scope = sc) (hk : sc.kind = .function) {ts vs : List Expr} {k k2 : Nat} {p p2 : Pos} {r : Option (List Str)} (h : swC sc ts vs = some r) : swappedStores [.Tuple ts k p] (.Tuple vs k2 p2) env = pure r := by
  have hb := blockKind_of he hk
  have hA : ∀ f : Expr → Bool, (∀ e, f e = isStar e) → vs.any f = vs.any isStar := fun f h => by rw [funext h]
  have hF : ∀ f : Expr → Option Str, (∀ e, f e = locName sc ((ts.head?.map (·.pos.line)).getD 0) e) → ts.filterMap f = ts.filterMap (locName sc ((ts.head?.map (·.pos.line)).getD 0)) := fun f h => by rw [funext h]
  unfold swappedStores
  simp only [hb]
  unfold swC at h
  rw [hA, hF]
  rotate_left
  · intro e
    cases e with
    | Name id pos =>
      show (if _ then _ else _) = (if _ then _ else _)
      rw [kindOf_loc he]
    | _ => rfl
  · intro e; cases e <;> rfl
  split at h
  · rename_i c1
    cases h
    have c1' : (!(ts.length == 2 || ts.length == 3) || vs.length != ts.length || (ScopeKind.function != ScopeKind.function)) = true := by rw [c1]; rfl
    rw [if_pos c1']
  · rename_i c1
    have c1' : ¬ (!(ts.length == 2 || ts.length == 3) || vs.length != ts.length || (ScopeKind.function != ScopeKind.function)) = true := by
      have : (ScopeKind.function != ScopeKind.function) = false := by decide
      rw [this, Bool.or_false]; exact c1
    rw [if_neg c1']
    split at h
    · rename_i c2
      cases h
      rw [if_pos c2]
    · rename_i c2
      rw [if_neg c2]
      simp only at h
      split at h
      · rename_i c3
        cases h
        rw [if_pos c3]
      · rename_i c3
        rw [if_neg c3]
        split at h
        · rename_i c4
          cases h
          rw [if_pos c4]
        · rename_i c4
          rw [if_neg c4]
          split at h
          · cases h
          · rename_i c5
            cases h
            rw [if_neg c5]
end Lac
end

-- LacR.lean
section
set_option Elab.async false
set_option linter.all false
set_option maxRecDepth 100000
set_option maxHeartbeats 4000000
set_option autoImplicit false
/-! Lac, part R: statements do what they are read as. -/
namespace Lac
open PySem PySem.Spec PyProof.Rows L2
section
variable {φ : Type} (pg : Pg φ) (N : List Str) (sc : Scope)
def nmsB (is : List Nat) (names : List Str) : Bool := match is, names with
  | [], [] => true
  | i :: is, n :: ns => decide (N[i]? = some n) && nmsB is ns
  | _, _ => false
mutual
def ckS : St φ → Stmt → Bool
  | .expr e, .Expr x _ => ckE pg N sc e x && !isComp x
  | .asg t e, .Assign [tg] v _ => (ckT N (locB sc) t tg && ckE pg N sc e v) && ((swNone sc tg v && (match v, tg with
      | .ListComp _ _ s vp, .Name y py => !(swapB sc tg v) || (isLoc sc y && ((py.line == vp.line) && !(s.names.any fun (n, k) => n == y && (k == .local || k == .cell))))
      | _, _ => !(swapB sc tg v))))
  | .put o i e, .Assign [.Subscript y z _] v _ => ckE pg N sc o y && (ckE pg N sc i z && ckE pg N sc e v)
  | .par [i, j] es, .Assign [.Tuple [.Name x px, .Name y py] _ _] (.Tuple [a, b] _ _) _ => decide (N[i]? = some x) && (decide (N[j]? = some y) && (decide (i ≠ j) && (isLoc sc x && (isLoc sc y && (ckEs pg N sc es [a, b] && decide (swC sc [.Name x px, .Name y py] [a, b] = some (some [x, y])))))))
  | .par [i, j, l] es, .Assign [.Tuple [.Name x px, .Name y py, .Name z pz] _ _] (.Tuple [a, b, c] _ _) _ => decide (N[i]? = some x) && (decide (N[j]? = some y) && (decide (N[l]? = some z) && (decide (i ≠ j) && (decide (i ≠ l) && (decide (j ≠ l) && (isLoc sc x && (isLoc sc y && (isLoc sc z && (ckEs pg N sc es [a, b, c] && decide (swC sc [.Name x px, .Name y py, .Name z pz] [a, b, c] = some (some [x, y, z])))))))))))
  | .aug i op e, .AugAssign (.Name x _) o v _ => decide (N[i]? = some x) && (locB sc x && (decide (opx op = o) && ((op == .add || op == .sub) && ckE pg N sc e v)))
  | .ret e, .Return (some v) _ => ckE pg N sc e v
  | .retN, .Return none _ => true
  | .ifs c a b, .If x y z _ => ckE pg N sc c x && (ckSs a y && ckSs b z)
  | .whl c b, .While x y [] _ => ckE pg N sc c x && ckSs b y
  | .forr ik es tg b, .For t it y [] _ => ckT N (locB sc) tg t && (ckI pg N sc ik es tg it && ckSs b y)
  | .brk, .Break _ => true
  | .cont, .Continue _ => true
  | .pass, .Pass _ => true
  | .nev, _ => true
  | _, _ => false
def ckSs : List (St φ) → List Stmt → Bool
  | [], [] => true
  | s :: r, x :: xs => ckS s x && ckSs r xs
  | _, _ => false
end
end
/-- where a def's body stands -/
structure SitS {φ : Type} (pg : Pg φ) (Γ : φ → DSp) (G : Nat → Option D) (N : List Str) (sc : Scope) (X : Cx) : Prop where
  toSit : Sit pg Γ G N sc X
  fnT : ∀ y, X.fn y = true
  kind : sc.kind = .function
section
variable {φ : Type} {pg : Pg φ} {Γ : φ → DSp} {G : Nat → Option D} {N : List Str} {sc : Scope} {X : Cx} {x : XW}
theorem SitS.stok (s : SitS pg Γ G N sc X) : StOk X N (locB sc) := ⟨s.toSit.n, s.toSit.nd, s.toSit.calm, fun y h => by
  unfold locB at h
  show Loc X.env.scope y
  rw [s.toSit.sc]
  split at h
  · rename_i e; exact .inl e
  · rename_i e; exact .inr e
  · exact (Bool.false_ne_true h).elim, fun y _ => .inl (s.fnT y)⟩
theorem loc_is {y : Str} (h : isLoc sc y = true) : sc.names.lookup y = some .local := by
  unfold isLoc at h
  split at h
  · assumption
  · cases h
theorem SitS.own (s : SitS pg Γ G N sc X) : PassesOwn (model X.prog X.w) X.A X.env X.xe := by
  rw [s.toSit.xe]
  exact PassesOwn.never
theorem EndR.nx {K : PySem.W.Frag} {H : Hp} {S : SH} {De : DEnds} {D : Ends} (c : EndR K H S De D) {nx' : Env → SH → Prop} {N : L2.St → Hp → Prop} (h : ∀ ρ' S', nx' ρ' S' → ∀ σ' H', Ev K H H' S S' → EnvR K H' σ' ρ' → HR K H' S' → N σ' H') : EndR K H S { De with nx := nx' } { D with nx := N } := ⟨h, c.2.1, c.2.2.1, c.2.2.2⟩

/-! ### one lemma a form -/
theorem sts_expr (s : SitS pg Γ G N sc X) {e : Ex φ} {ex : Expr} {pos : Pos} (h : Snd Γ G X x e ex) (hn : isComp ex = false) : PS X (.Expr ex pos) (liftS X.K (wpS Γ G (.expr e) x)) := by
  refine ps_mono (ps_expr h.pe (by cases ex <;> first | rfl | cases hn)) fun D σ H ⟨ρ, S, De, hρ, hs, ht, hk⟩ => ?_
  exact ⟨ρ, S, _, hρ, hs, ht, fun d S' q v H' ev r hs' => hk.1 _ _ q _ _ ev (hρ.mono ev.tup) hs'⟩
theorem sts_ret {e : Ex φ} {ex : Expr} {pos : Pos} (h : Snd Γ G X x e ex) : PS X (.Return (some ex) pos) (liftS X.K (wpS Γ G (.ret e) x)) :=
  ps_mono (ps_ret h.pe) fun D σ H ⟨ρ, S, De, hρ, hs, ht, hk⟩ => ⟨ρ, S, _, hρ, hs, ht, hk.2.1⟩
theorem sts_retN {pos : Pos} : PS X (.Return none pos) (liftS X.K (wpS Γ G .retN x)) :=
  ps_mono ps_retN fun D σ H ⟨ρ, S, De, hρ, hs, ht, hk⟩ => hk.2.1 _ _ ht _ _ Ev.refl .non hs
theorem sts_pass {pos : Pos} : PS X (.Pass pos) (liftS X.K (wpS Γ G .pass x)) :=
  ps_mono ps_pass fun D σ H ⟨ρ, S, De, hρ, hs, ht, hk⟩ => hk.1 _ _ ht _ _ Ev.refl hρ hs
theorem sts_brk {pos : Pos} : PS X (.Break pos) (liftS X.K (wpS Γ G .brk x)) :=
  ps_mono ps_break fun D σ H ⟨ρ, S, De, hρ, hs, ht, hk⟩ => hk.2.2.1 _ _ ht _ _ Ev.refl hρ hs
theorem sts_cont {pos : Pos} : PS X (.Continue pos) (liftS X.K (wpS Γ G .cont x)) :=
  ps_mono ps_continue fun D σ H ⟨ρ, S, De, hρ, hs, ht, hk⟩ => hk.2.2.2 _ _ ht _ _ Ev.refl hρ hs
theorem sts_nev {st : Stmt} : PS X st (liftS X.K (wpS Γ G .nev x)) :=
  ps_mono ps_never fun D σ H ⟨ρ, S, De, hρ, hs, ht, hk⟩ => ht
/-- a target's reading after a value's -/
theorem asg_core {t : Tg} {g : TG} {te : TE} {e : Ex φ} (hg : TgOk X.K t g) (hte : ∀ σ H Q, liftE X.K (wpE Γ G e x) σ H Q → te σ H Q) (D : Ends) (σ : L2.St) (H : Hp) (h : liftS X.K (wpS Γ G (.asg t e) x) D σ H) : tAsg te g D σ H := by
  obtain ⟨ρ, S, De, hρ, hs, ht, hk⟩ := h
  refine hte _ _ _ ⟨ρ, S, _, hρ, hs, ht, fun d S' q v H' ev r hs' => ?_⟩
  exact hg.run v σ H' d ρ _ _ r (hρ.mono ev.tup) q fun σ' ρ' q' e' _ => hk.1 _ _ q' _ _ ev e' hs'
theorem swNone_of (s : SitS pg Γ G N sc X) {tg v : Expr} (h : swNone sc tg v = true) : swappedStores [tg] v X.env = pure none := by
  cases tg with
  | Tuple ts k p =>
    cases v with
    | Tuple vs k2 p2 =>
      have h' : (match swC sc ts vs with
        | some none => true
        | _ => false) = true := h
      split at h'
      · rename_i e
        exact swC_of s.toSit.sc s.kind e
      · cases h'
    | _ => rfl
  | List ts p =>
    cases v with
    | Tuple => cases h
    | _ => rfl
  | _ => cases v <;> rfl
theorem asg_each {st : Str → Bool} {t : Tg} {tg : Expr} (h : ckT N st t tg = true) (env : PySem.Env) : (assignEach [tg] env).map (·.2) = [assign tg env] := (ckT_nostar h env []).1
theorem sts_asg (s : SitS pg Γ G N sc X) {t : Tg} {e : Ex φ} {tg v : Expr} {pos : Pos} (hT : ckT N (locB sc) t tg = true) (h : Snd Γ G X x e v) (hw : swNone sc tg v = true) (hb : swapB sc tg v = false) : PS X (.Assign [tg] v pos) (liftS X.K (wpS Γ G (.asg t e) x)) := by
  obtain ⟨g, p, r⟩ := sndT s.stok t tg hT
  exact ps_mono (ps_asg h.pe p (by rw [swap_of s.toSit.sc s.kind, hb]) (swNone_of s hw) (asg_each hT _)) fun D σ H q => asg_core r (fun _ _ _ z => z) D σ H q
theorem sts_put (s : SitS pg Γ G N sc X) {o i e : Ex φ} {y z v : Expr} {p pos : Pos} (ho : Snd Γ G X x o y) (hi : Snd Γ G X x i z) (hz : ckE pg N sc i z = true) (h : Snd Γ G X x e v) : PS X (.Assign [.Subscript y z p] v pos) (liftS X.K (wpS Γ G (.put o i e) x)) := by
  refine ps_mono (ps_asg h.pe (pg_sub ho.pe hi.pe (set_all (X := X) (by have := s.toSit.hu; omega)) (by
      intro v; cases z with
      | Slice => cases i <;> exact (Bool.false_ne_true hz).elim
      | _ => rfl)) (by rw [swap_of s.toSit.sc s.kind]; cases v <;> rfl) (by cases v <;> rfl) rfl) fun D σ H ⟨ρ, S, De, hρ, hs, ht, hk⟩ => ?_
  refine ⟨ρ, S, _, hρ, hs, ht, fun d S1 q1 u H1 e1 r1 hs1 => ⟨ρ, S1, _, hρ.mono e1.tup, hs1, q1, fun od S2 q2 u2 H2 e2 r2 hs2 => ⟨ρ, S2, _, hρ.mono (e1.trans e2).tup, hs2, q2, fun id S3 q3 u3 H3 e3 r3 hs3 => ?_⟩⟩⟩
  exact ⟨od, id, d, S3, _, Rp.mono e3.tup _ r2, r3, Rp.mono (e2.trans e3).tup _ r1, hs3, q3, fun S4 q4 H4 e4 hs4 => hk.1 _ _ q4 _ _ ((e1.trans e2).trans (e3.trans e4)) (hρ.mono ((e1.trans e2).trans (e3.trans e4)).tup) hs4⟩
theorem sts_par2 (s : SitS pg Γ G N sc X) {i j : Nat} {es : List (Ex φ)} {y z : Str} {a b : Expr} {p1 p2 p3 p4 pos : Pos} {k1 k2 : Nat} (hi : N[i]? = some y) (hj : N[j]? = some z) (hij : i ≠ j) (hy : isLoc sc y = true) (hz : isLoc sc z = true)
    (h : SndEs Γ G X x es [a, b]) (hl : es.length = 2) (hw : swC sc [.Name y p1, .Name z p2] [a, b] = some (some [y, z])) : PS X (.Assign [.Tuple [.Name y p1, .Name z p2] k1 p3] (.Tuple [a, b] k2 p4) pos) (liftS X.K (wpS Γ G (.par [i, j] es) x)) := by
  refine ps_mono (ps_par s.toSit.calm (by rw [s.toSit.n]; exact s.toSit.nd) (by rw [s.toSit.n]; exact hi) (by rw [s.toSit.n]; exact hj) hij (by rw [s.toSit.sc]; exact loc_is hy) (by rw [s.toSit.sc]; exact loc_is hz) h.pa (swC_of s.toSit.sc s.kind hw) rfl) fun D σ H ⟨ρ, S, De, hρ, hs, ht, hk⟩ => ?_
  refine ⟨ρ, S, _, hρ, hs, ht, fun ds S1 q vs H1 hz' e1 r1 hs1 => ?_⟩
  cases r1 with
  | nil => rw [hl] at hz'; cases hz'
  | cons ra r1 =>
    cases r1 with
    | nil => rw [hl] at hz'; cases hz'
    | cons rb r1 =>
      cases r1 with
      | nil => exact ⟨_, _, rfl, hk.1 _ _ q _ _ e1 (((hρ.mono e1.tup).set ra).set rb) hs1⟩
      | cons => rw [hl] at hz'; simp at hz'
theorem sts_par3 (s : SitS pg Γ G N sc X) {i j l : Nat} {es : List (Ex φ)} {y z w : Str} {a b c : Expr} {p1 p2 p3 p4 p5 pos : Pos} {k1 k2 : Nat} (hi : N[i]? = some y) (hj : N[j]? = some z) (hl' : N[l]? = some w) (hij : i ≠ j) (hil : i ≠ l) (hjl : j ≠ l) (hy : isLoc sc y = true) (hz : isLoc sc z = true) (hw' : isLoc sc w = true)
    (h : SndEs Γ G X x es [a, b, c]) (hl : es.length = 3) (hw : swC sc [.Name y p1, .Name z p2, .Name w p5] [a, b, c] = some (some [y, z, w])) : PS X (.Assign [.Tuple [.Name y p1, .Name z p2, .Name w p5] k1 p3] (.Tuple [a, b, c] k2 p4) pos) (liftS X.K (wpS Γ G (.par [i, j, l] es) x)) := by
  refine ps_mono (ps_par3 s.toSit.calm (by rw [s.toSit.n]; exact s.toSit.nd) (by rw [s.toSit.n]; exact hi) (by rw [s.toSit.n]; exact hj) (by rw [s.toSit.n]; exact hl') hij hil hjl (by rw [s.toSit.sc]; exact loc_is hy) (by rw [s.toSit.sc]; exact loc_is hz) (by rw [s.toSit.sc]; exact loc_is hw') h.pa (swC_of s.toSit.sc s.kind hw) rfl) fun D σ H ⟨ρ, S, De, hρ, hs, ht, hk⟩ => ?_
  refine ⟨ρ, S, _, hρ, hs, ht, fun ds S1 q vs H1 hz' e1 r1 hs1 => ?_⟩
  cases r1 with
  | nil => rw [hl] at hz'; cases hz'
  | cons ra r1 =>
    cases r1 with
    | nil => rw [hl] at hz'; cases hz'
    | cons rb r1 =>
      cases r1 with
      | nil => rw [hl] at hz'; cases hz'
      | cons rc r1 =>
        cases r1 with
        | nil => exact ⟨_, _, _, rfl, hk.1 _ _ q _ _ e1 ((((hρ.mono e1.tup).set ra).set rb).set rc) hs1⟩
        | cons => rw [hl] at hz'; simp at hz'
theorem loc_of (s : SitS pg Γ G N sc X) {y : Str} (h : locB sc y = true) : Loc X.env.scope y := s.stok.loc y h
theorem sts_aug (s : SitS pg Γ G N sc X) {i : Nat} {op : Op2} {e : Ex φ} {y : Str} {v : Expr} {p pos : Pos} (hi : N[i]? = some y) (hy : locB sc y = true) (ho : (op == .add || op == .sub) = true) (h : Snd Γ G X x e v) : PS X (.AugAssign (.Name y p) (opx op) v pos) (liftS X.K (wpS Γ G (.aug i op e) x)) := by
  have hi' : X.N[i]? = some y := by rw [s.toSit.n]; exact hi
  have hnd : X.N.Nodup := by rw [s.toSit.n]; exact s.toSit.nd
  cases op with
  | add =>
    refine ps_mono (ps_aug hnd hi' (loc_of s hy) h.pe ip_add (.inl (s.fnT y))) fun D σ H ⟨ρ, S, De, hρ, hs, ht, hk⟩ => ?_
    unfold wpS at ht
    split at ht
    · rename_i k ek
      obtain ⟨v, hv, rv⟩ := hρ.2 _ _ ek
      cases rv
      refine ⟨_, hv, ρ, S, _, hρ, hs, ht, fun d S1 q v H1 e1 r1 hs1 => ?_⟩
      cases d with
      | int l => cases r1; exact ⟨_, _, rfl, rfl, hk.1 _ _ q _ _ e1 ((hρ.mono e1.tup).set (.int _)) hs1⟩
      | _ => exact False.elim q
    · exact ht.elim
  | sub =>
    refine ps_mono (ps_aug hnd hi' (loc_of s hy) h.pe ip_sub (.inl (s.fnT y))) fun D σ H ⟨ρ, S, De, hρ, hs, ht, hk⟩ => ?_
    unfold wpS at ht
    split at ht
    · rename_i k ek
      obtain ⟨v, hv, rv⟩ := hρ.2 _ _ ek
      cases rv
      refine ⟨_, hv, ρ, S, _, hρ, hs, ht, fun d S1 q v H1 e1 r1 hs1 => ?_⟩
      cases d with
      | int l => cases r1; exact ⟨_, _, rfl, rfl, hk.1 _ _ q _ _ e1 ((hρ.mono e1.tup).set (.int _)) hs1⟩
      | _ => exact False.elim q
    · exact ht.elim
  | _ => cases ho
theorem sts_if {c : Ex φ} {a b : List (St φ)} {y : Expr} {z w : List Stmt} {pos : Pos} (hc : Snd Γ G X x c y) (ha : PSs X z (liftS X.K (wpSs Γ G a x))) (hb : PSs X w (liftS X.K (wpSs Γ G b x))) : PS X (.If y z w pos) (liftS X.K (wpS Γ G (.ifs c a b) x)) := by
  refine ps_mono (ps_if hc.pt ha hb) fun D σ H ⟨ρ, S, De, hρ, hs, ht, hk⟩ => ?_
  refine ⟨ρ, S, fun k S1 => if k = true then wpSs Γ G a x De ρ S1 else wpSs Γ G b x De ρ S1, hρ, hs, ?_, fun k S1 q H1 e1 hs1 => ?_⟩
  · have e : (fun (d : Lac.D) (S1 : SH) => match tru S1 d with
      | some b' => (if b' = true then wpSs Γ G a x De ρ S1 else wpSs Γ G b x De ρ S1)
      | none => False) = fun u S1 => match tru S1 u with
      | some true => wpSs Γ G a x De ρ S1
      | some false => wpSs Γ G b x De ρ S1
      | none => False := by
      funext d S1
      cases tru S1 d with
      | none => rfl
      | some b' => cases b' <;> rfl
    exact Eq.mpr (congrArg (wpE Γ G c x ρ S) e) ht
  · cases k with
    | true => rw [if_pos rfl] at q ⊢; exact ⟨ρ, S1, De, hρ.mono e1.tup, hs1, q, hk.later e1⟩
    | false => rw [if_neg Bool.false_ne_true] at q ⊢; exact ⟨ρ, S1, De, hρ.mono e1.tup, hs1, q, hk.later e1⟩
theorem sts_whl (s : SitS pg Γ G N sc X) {c : Ex φ} {b : List (St φ)} {y : Expr} {z : List Stmt} {pos : Pos} (hc : Snd Γ G X x c y) (hb : PSs X z (liftS X.K (wpSs Γ G b x))) : PS X (.While y z [] pos) (liftS X.K (wpS Γ G (.whl c b) x)) := by
  refine ps_mono (ps_while s.own hc.pt hb) fun D σ H ⟨ρ, S, De, hρ, hs, ht, hk⟩ => ?_
  obtain ⟨W, ⟨m0, w0⟩, turn⟩ := ht
  refine ⟨fun m σ' H' => ∃ ρ' S', Ev X.K H H' S S' ∧ EnvR X.K H' σ' ρ' ∧ HR X.K H' S' ∧ W m ρ' S', ⟨m0, ρ, S, Ev.refl, hρ, hs, w0⟩, ?_⟩
  rintro m σ' H' ⟨ρ', S', ev, hρ', hs', w⟩
  have q0 := turn m ρ' S' w
  refine ⟨ρ', S', fun k S1 => if k = true then wpSs Γ G b x { nx := fun ρ' S' => ∃ m', m' < m ∧ W m' ρ' S', rt := De.rt, bk := De.nx, ct := fun ρ' S' => ∃ m', m' < m ∧ W m' ρ' S' } ρ' S1 else De.nx ρ' S1, hρ', hs', ?_, fun k S1 q H1 e1 hs1 => ?_⟩
  · have e : (fun (d : Lac.D) (S1 : SH) => match tru S1 d with
      | some k => (if k = true then wpSs Γ G b x { nx := fun ρ' S' => ∃ m', m' < m ∧ W m' ρ' S', rt := De.rt, bk := De.nx, ct := fun ρ' S' => ∃ m', m' < m ∧ W m' ρ' S' } ρ' S1 else De.nx ρ' S1)
      | none => False) = fun u S1 => match tru S1 u with
      | some true => wpSs Γ G b x { nx := fun ρ' S' => ∃ m', m' < m ∧ W m' ρ' S', rt := De.rt, bk := De.nx, ct := fun ρ' S' => ∃ m', m' < m ∧ W m' ρ' S' } ρ' S1
      | some false => De.nx ρ' S1
      | none => False := by
      funext d S1
      cases tru S1 d with
      | none => rfl
      | some b' => cases b' <;> rfl
    exact Eq.mpr (congrArg (wpE Γ G c x ρ' S') e) q0
  · have ev1 := ev.trans e1
    cases k with
    | true =>
      rw [if_pos rfl] at q
      show ∃ N : L2.St → Hp → Prop, _ ∧ _
      refine ⟨_, fun _ _ h => h, ρ', S1, _, hρ'.mono e1.tup, hs1, q, fun ρ2 S2 q2 σ2 H2 e2 hρ2 hs2 => ?_, hk.2.1.later ev1, fun ρ2 S2 q2 σ2 H2 e2 hρ2 hs2 => hk.1 _ _ q2 _ _ (ev1.trans e2) hρ2 hs2, fun ρ2 S2 q2 σ2 H2 e2 hρ2 hs2 => ?_⟩
      · obtain ⟨m', hm, w'⟩ := q2; exact ⟨m', hm, ρ2, S2, ev1.trans e2, hρ2, hs2, w'⟩
      · obtain ⟨m', hm, w'⟩ := q2; exact ⟨m', hm, ρ2, S2, ev1.trans e2, hρ2, hs2, w'⟩
    | false =>
      rw [if_neg Bool.false_ne_true] at q
      show D.nx σ' H1
      exact hk.1 _ _ q _ _ ev1 (hρ'.mono e1.tup) hs1
theorem sts_for (s : SitS pg Γ G N sc X) {ik : Ik} {es : List (Ex φ)} {tg : Tg} {b : List (St φ)} {t it : Expr} {z : List Stmt} {pos : Pos} (hT : ckT N (locB sc) tg t = true) (hi : PI X t it (liftI X.K (wpI Γ G x ik es))) (hf : ∀ z, foldedSetIterable it X.env z = pure z) (hb : PSs X z (liftS X.K (wpSs Γ G b x))) :
    PS X (.For t it z [] pos) (liftS X.K (wpS Γ G (.forr ik es tg b) x)) := by
  obtain ⟨g, p, r⟩ := sndT s.stok tg t hT
  refine ps_mono (ps_for s.own s.toSit.calm hi p hb hf) fun D σ H ⟨ρ, S, De, hρ, hs, ht, hk⟩ => ?_
  refine ⟨ρ, S, _, hρ, hs, ht, fun items hold S1 q H1 ev hs1 hz J wd => ?_⟩
  refine ⟨fun i m σ' H' => m = items.length - i ∧ i ≤ items.length ∧ ∃ ρ' S', Ev X.K H1 H' S1 S' ∧ EnvR X.K H' σ' ρ' ∧ HR X.K H' S' ∧ wpF (gT tg) (wpSs Γ G b x) hold De (items.drop i) ρ' S', ⟨_, rfl, Nat.zero_le _, ρ, S1, Ev.refl, hρ.mono ev.tup, hs1, q⟩, ?_⟩
  rintro i m σ' H' ⟨rfl, hi', ρ', S', ev2, hρ', hs', q⟩
  have ev3 := ev.trans ev2
  by_cases hlt : i < items.length
  · have ed : items.drop i = items[i] :: items.drop (i + 1) := List.drop_eq_getElem_cons hlt
    rw [ed] at q
    obtain ⟨hh, q⟩ := q
    refine .inr ⟨wd.goes i H' S' hlt ev2.tup hs' hh, fun σ3 H3 => ∃ m', m' < items.length - i ∧ (m' = items.length - (i + 1) ∧ i + 1 ≤ items.length ∧ ∃ ρ' S', Ev X.K H1 H3 S1 S' ∧ EnvR X.K H3 σ3 ρ' ∧ HR X.K H3 S' ∧ wpF (gT tg) (wpSs Γ G b x) hold De (items.drop (i + 1)) ρ' S'), fun _ _ h => h, fun v H3 hy => ?_⟩
    obtain ⟨d, e1, rd, ev4, hs4, kp⟩ := wd.yields i H' S' v H3 hlt ev2.tup hs' hh hy
    have ed2 : d = items[i] := by
      rw [List.getElem?_eq_getElem hlt] at e1
      exact (Option.some.inj e1).symm
    subst ed2
    refine r.run v σ' H3 _ ρ' _ _ rd (hρ'.mono ev4.tup) q fun σ5 ρ5 q5 e5 _ => ?_
    have back : ∀ ρ2 S2, wpF (gT tg) (wpSs Γ G b x) hold De (items.drop (i + 1)) ρ2 S2 → ∀ σ2 H2, Ev X.K H3 H2 S' S2 → EnvR X.K H2 σ2 ρ2 → HR X.K H2 S2 → ∃ m', m' < items.length - i ∧ (m' = items.length - (i + 1) ∧ i + 1 ≤ items.length ∧ ∃ ρ' S', Ev X.K H1 H2 S1 S' ∧ EnvR X.K H2 σ2 ρ' ∧ HR X.K H2 S' ∧ wpF (gT tg) (wpSs Γ G b x) hold De (items.drop (i + 1)) ρ' S') := fun ρ2 S2 q2 σ2 H2 e2 hρ2 hs2 =>
      ⟨items.length - (i + 1), by omega, rfl, by omega, ρ2, S2, ev2.trans (ev4.trans e2), hρ2, hs2, q2⟩
    exact ⟨ρ5, S', _, e5, hs4, q5, back, hk.2.1.later (ev3.trans ev4), fun ρ2 S2 q2 σ2 H2 e2 hρ2 hs2 => hk.1 _ _ q2 _ _ ((ev3.trans ev4).trans e2) hρ2 hs2, back⟩
  · have e : i = items.length := by omega
    subst e
    rw [List.drop_length] at q
    obtain ⟨hh, q⟩ := q
    exact .inl ⟨wd.stops H' S' ev2.tup hs' hh, hk.1 _ _ q _ _ ev3 hρ' hs'⟩
end
end Lac
end

-- LacT.lean
section
set_option Elab.async false
set_option linter.all false
set_option maxRecDepth 100000
set_option maxHeartbeats 4000000
set_option autoImplicit false
/-! Lac, part T: the soundness of every checked statement. -/
namespace Lac
open PySem PySem.Spec PyProof.Rows L2
section
variable {φ : Type} {pg : Pg φ} {Γ : φ → DSp} {G : Nat → Option D} {N : List Str} {sc : Scope} {X : Cx} {x : XW}
theorem sts_setLc (s : SitS pg Γ G N sc X) {i : Nat} {w : Str} {py : Pos} {own : List (Str × Nat)} {ik : Ik} {es : List (Ex φ)} {tg : Tg} {cond elt : Ex φ} {y t it : Expr} {ifs : List Expr} {scope : Scope} {pos spos : Pos}
    (hw : N[i]? = some w) (hl : isLoc sc w = true) (hline : (py.line == pos.line) = true) (hout : (scope.names.any fun (n, k) => n == w && (k == .local || k == .cell)) = false)
    (hb : blkC N sc scope own = true) (hi : PI X t it (liftI X.K (wpI Γ G x ik es))) (hf : ∀ z, foldedSetIterable it X.env z = pure z) (hT : ckT N (locB scope) tg t = true) (hv : (slotsT tg).all (fun i => (own.map (·.2)).contains i) = true)
    (hcond : (ifs = [] ∧ cond = .lit (.bl true)) ∨ ∃ c, ifs = [c] ∧ ∀ X', Sit pg Γ G N (relS scope sc) X' → Snd Γ G X' (fun _ _ _ => False) cond c) (helt : ∀ X', Sit pg Γ G N (relS scope sc) X' → Snd Γ G X' (fun _ _ _ => False) elt y) :
    PS X (.Assign [.Name w py] (.ListComp y [⟨t, it, ifs, 0⟩] scope pos) spos) (liftS X.K (wpS Γ G (.asg (.nm i) (.comp own ik es tg cond elt)) x)) := by
  have st := s.toSit
  obtain ⟨g, pg', rg⟩ := tg_blk st hT
  obtain ⟨tt, ptt, rtt⟩ := tt_blk st hcond
  have ok : BlkOk X.N X.env.scope scope own := blkOk_by (by rw [st.n, st.sc]; exact hb)
  have hv' : ∀ i ∈ slotsT tg, i ∈ own.map (·.2) := fun i hi => by
    have := List.all_eq_true.mp hv i hi
    simpa using this
  have hsw : swapsWith (.ListComp y [⟨t, it, ifs, 0⟩] scope pos) (some (.Name w py)) spos.line X.env = pure true := sw_true (by rw [st.sc]; exact s.kind) (by rw [st.sc]; exact loc_is hl) hline hout
  refine ps_mono (ps_setLc (te := liftE X.K (wpE Γ G elt fun _ _ _ => False)) st.calm (by rw [st.n]; exact st.nd) (by rw [st.n]; exact hw) (by rw [st.sc]; exact loc_is hl) hsw hi ok pg' ptt (fun st' H C cl fp => (helt _ (st.blk st' H scope cl C fp)).pe) hf) fun D σ H ⟨ρ, S, De, hρ, hs, ht, hk⟩ => ?_
  refine lc_core' rg hv' rtt rfl hρ _ ⟨ρ, S, _, hρ, hs, ht, fun items hold S1 q H1 ev hs1 hz J w => ⟨items, hold, S1, ev, hs1, hz, w, q⟩⟩ (fun out S2 H2 D' vo q ev hs2 hSD hHD ro fr => ?_) liftI_mono
  have ev' : Ev X.K H H2 S (up S2 D' (.lst out)) := ⟨ev.tup, ev.frm, fun a z => by
    by_cases e : a = D'
    · subst e
      cases e0 : S a with
      | some o => exact .inl (by simp)
      | none => exact .inr (fr e0)
    · rw [up_ne e] at z; exact ev.dom a z⟩
  refine hk.1 _ _ (q D' hSD) _ _ ev' ((hρ.mono ev.tup).set (.ref D')) fun a o ea => ?_
  by_cases e : a = D'
  · subst e; rw [up_same] at ea; cases ea; exact ⟨vo, hHD, ro⟩
  · rw [up_ne e] at ea; exact hs2 a o ea
theorem swapB_not {sc : Scope} {tg v : Expr} (h : isComp v = false) : swapB sc tg v = false := by
  cases v <;> first | rfl | cases h
theorem sts_asgAny (s : SitS pg Γ G N sc X) {t : Tg} {e : Ex φ} {tg v : Expr} {pos : Pos} (h : ckS pg N sc (.asg t e) (.Assign [tg] v pos) = true) : PS X (.Assign [tg] v pos) (liftS X.K (wpS Γ G (.asg t e) x)) := by
  obtain ⟨h1, h2⟩ := ba h
  obtain ⟨hT, hE⟩ := ba h1
  obtain ⟨hw, hb⟩ := ba h2
  by_cases hs : swapB sc tg v = true
  · -- a list comprehension into a local name
    cases v with
    | ListComp y gs scope pos' =>
      cases tg with
      | Name w py =>
        have hb' : (!(swapB sc (.Name w py) (.ListComp y gs scope pos')) || (isLoc sc w && ((py.line == pos'.line) && !(scope.names.any fun (n, k) => n == w && (k == .local || k == .cell))))) = true := hb
        rw [hs] at hb'
        obtain ⟨hl, hb'⟩ := ba (show (isLoc sc w && ((py.line == pos'.line) && !(scope.names.any fun (n, k) => n == w && (k == .local || k == .cell)))) = true by simpa using hb')
        obtain ⟨hline, hout⟩ := ba hb'
        have hout : (scope.names.any fun (n, k) => n == w && (k == .local || k == .cell)) = false := by simpa using hout
        cases t with
        | tup => exact (Bool.false_ne_true hT).elim
        | nm i =>
          have hT : (decide (N[i]? = some w) && locB sc w) = true := hT
          have hw' := of_decide_eq_true (ba hT).1
          cases e with
          | comp own ik es tg cond elt =>
            rcases gs with _ | ⟨⟨t, it, ifs, a⟩, gs⟩
            · exact (Bool.false_ne_true hE).elim
            rcases a with (_ | a) | a
            · cases gs with
              | nil =>
                obtain ⟨h1, h⟩ := ba hE
                obtain ⟨h2, h⟩ := ba h
                obtain ⟨h3, h⟩ := ba h
                obtain ⟨h4, h⟩ := ba h
                obtain ⟨h5, h6⟩ := ba h
                have h2' : ckI pg N sc ik es tg it = true := by cases ik <;> exact h2
                have pp := pi_ck s.toSit (x := x) h3 h2' fun exs hx => sndEs es sc exs X x hx s.toSit
                refine sts_setLc s hw' hl hline hout h1 pp.1 pp.2 h3 h4 ?_ fun X' s' => sndE elt _ y X' _ h6 s'
                rcases ckR_cond (sc := sc) (scope := scope) h5 with q | ⟨c, q, r⟩
                · exact .inl q
                · exact .inr ⟨c, q, fun X' s' => sndE cond _ c X' _ r s'⟩
              | cons => exact (Bool.false_ne_true hE).elim
            · cases gs <;> exact (Bool.false_ne_true hE).elim
            · cases gs <;> exact (Bool.false_ne_true hE).elim
          | _ => exact (Bool.false_ne_true hE).elim
      | _ => cases hs
    | _ =>
      have hb' : (!(swapB sc tg _)) = true := hb
      rw [hs] at hb'
      cases hb'
  · exact sts_asg s hT (sndE e sc v X x hE s.toSit) hw (by simpa using hs)
theorem liftS_nil {K : PySem.W.Frag} (D : Ends) (σ : L2.St) (H : Hp) (h : liftS K (wpSs Γ G [] x) D σ H) : tNext D σ H := by
  obtain ⟨ρ, S, De, hρ, hs, ht, hk⟩ := h
  exact hk.1 _ _ ht _ _ Ev.refl hρ hs
mutual
theorem sndS : ∀ (st : St φ) (sm : Stmt) (X : Cx) (x : XW), ckS pg N sc st sm = true → SitS pg Γ G N sc X → PS X sm (liftS X.K (wpS Γ G st x))
  | .expr e, sm, X, x, h, s => by
    cases sm with
    | Expr ex pos =>
      obtain ⟨h1, h2⟩ := ba (show (ckE pg N sc e ex && !isComp ex) = true from h)
      exact sts_expr s (sndE e sc ex X x h1 s.toSit) (by simpa using h2)
    | _ => exact (Bool.false_ne_true h).elim
  | .asg t e, sm, X, x, h, s => by
    cases sm with
    | Assign tgs v pos =>
      rcases tgs with _ | ⟨tg, _ | ⟨tg2, tgs⟩⟩
      · exact (Bool.false_ne_true h).elim
      · exact sts_asgAny s h
      · exact (Bool.false_ne_true h).elim
    | _ => exact (Bool.false_ne_true h).elim
  | .put o i e, sm, X, x, h, s => by
    cases sm with
    | Assign tgs v pos =>
      rcases tgs with _ | ⟨tg, tgs⟩
      · exact (Bool.false_ne_true h).elim
      cases tg with
      | Subscript y z p =>
        cases tgs with
        | nil =>
          obtain ⟨h1, h⟩ := ba (show (ckE pg N sc o y && (ckE pg N sc i z && ckE pg N sc e v)) = true from h)
          obtain ⟨h2, h3⟩ := ba h
          exact sts_put s (sndE o sc y X x h1 s.toSit) (sndE i sc z X x h2 s.toSit) h2 (sndE e sc v X x h3 s.toSit)
        | cons => exact (Bool.false_ne_true h).elim
      | _ => exact (Bool.false_ne_true h).elim
    | _ => exact (Bool.false_ne_true h).elim
  | .par is es, sm, X, x, h, s => by
    obtain ⟨i, j, rfl⟩ | ⟨i, j, l, rfl⟩ | hno : (∃ i j, is = [i, j]) ∨ (∃ i j l, is = [i, j, l]) ∨ ((∀ i j, is ≠ [i, j]) ∧ ∀ i j l, is ≠ [i, j, l]) := by
      rcases is with _ | ⟨i, _ | ⟨j, _ | ⟨l, _ | ⟨m, r⟩⟩⟩⟩
      · exact .inr (.inr ⟨by simp, by simp⟩)
      · exact .inr (.inr ⟨by simp, by simp⟩)
      · exact .inl ⟨i, j, rfl⟩
      · exact .inr (.inl ⟨i, j, l, rfl⟩)
      · exact .inr (.inr ⟨by simp, by simp⟩)
    · cases sm with
      | Assign tgs v pos =>
        rcases tgs with _ | ⟨tg, tgs⟩
        · exact (Bool.false_ne_true h).elim
        cases tg with
        | Tuple ts k1 p3 =>
          rcases ts with _ | ⟨t1, ts⟩
          · exact (Bool.false_ne_true h).elim
          cases t1 with
          | Name y p1 =>
            rcases ts with _ | ⟨t2, ts⟩
            · exact (Bool.false_ne_true h).elim
            cases t2 with
            | Name z p2 =>
              rcases ts with _ | ⟨t3, ts⟩
              · rcases tgs with _ | ⟨tg2, tgs⟩
                · cases v with
                  | Tuple vs k2 p4 =>
                    rcases vs with _ | ⟨a, _ | ⟨b, _ | ⟨c, vs⟩⟩⟩ <;> first | exact (Bool.false_ne_true h).elim | skip
                    obtain ⟨h1, h⟩ := ba (show (decide (N[i]? = some y) && (decide (N[j]? = some z) && (decide (i ≠ j) && (isLoc sc y && (isLoc sc z && (ckEs pg N sc es [a, b] && decide (swC sc [.Name y p1, .Name z p2] [a, b] = some (some [y, z])))))))) = true from h)
                    obtain ⟨h2, h⟩ := ba h
                    obtain ⟨h3, h⟩ := ba h
                    obtain ⟨h4, h⟩ := ba h
                    obtain ⟨h5, h⟩ := ba h
                    obtain ⟨h6, h7⟩ := ba h
                    exact sts_par2 s (of_decide_eq_true h1) (of_decide_eq_true h2) (of_decide_eq_true h3) h4 h5 (sndEs es sc _ X x h6 s.toSit) (ckEs_len h6) (of_decide_eq_true h7)
                  | _ => exact (Bool.false_ne_true h).elim
                · exact (Bool.false_ne_true h).elim
              · exact (Bool.false_ne_true h).elim
            | _ => exact (Bool.false_ne_true h).elim
          | _ => exact (Bool.false_ne_true h).elim
        | _ => exact (Bool.false_ne_true h).elim
      | _ => exact (Bool.false_ne_true h).elim
    · cases sm with
      | Assign tgs v pos =>
        rcases tgs with _ | ⟨tg, tgs⟩
        · exact (Bool.false_ne_true h).elim
        cases tg with
        | Tuple ts k1 p3 =>
          rcases ts with _ | ⟨t1, ts⟩
          · exact (Bool.false_ne_true h).elim
          cases t1 with
          | Name y p1 =>
            rcases ts with _ | ⟨t2, ts⟩
            · exact (Bool.false_ne_true h).elim
            cases t2 with
            | Name z p2 =>
              rcases ts with _ | ⟨t3, ts⟩
              · exact (Bool.false_ne_true h).elim
              cases t3 with
              | Name w p5 =>
                rcases ts with _ | ⟨t4, ts⟩
                · rcases tgs with _ | ⟨tg2, tgs⟩
                  · cases v with
                    | Tuple vs k2 p4 =>
                      rcases vs with _ | ⟨a, _ | ⟨b, _ | ⟨c, _ | ⟨d, vs⟩⟩⟩⟩ <;> first | exact (Bool.false_ne_true h).elim | skip
                      obtain ⟨h1, h⟩ := ba (show (decide (N[i]? = some y) && (decide (N[j]? = some z) && (decide (N[l]? = some w) && (decide (i ≠ j) && (decide (i ≠ l) && (decide (j ≠ l) && (isLoc sc y && (isLoc sc z && (isLoc sc w && (ckEs pg N sc es [a, b, c] && decide (swC sc [.Name y p1, .Name z p2, .Name w p5] [a, b, c] = some (some [y, z, w])))))))))))) = true from h)
                      obtain ⟨h2, h⟩ := ba h
                      obtain ⟨h3, h⟩ := ba h
                      obtain ⟨h4, h⟩ := ba h
                      obtain ⟨h5, h⟩ := ba h
                      obtain ⟨h6, h⟩ := ba h
                      obtain ⟨h7, h⟩ := ba h
                      obtain ⟨h8, h⟩ := ba h
                      obtain ⟨h9, h⟩ := ba h
                      obtain ⟨h10, h11⟩ := ba h
                      exact sts_par3 s (of_decide_eq_true h1) (of_decide_eq_true h2) (of_decide_eq_true h3) (of_decide_eq_true h4) (of_decide_eq_true h5) (of_decide_eq_true h6) h7 h8 h9 (sndEs es sc _ X x h10 s.toSit) (ckEs_len h10) (of_decide_eq_true h11)
                    | _ => exact (Bool.false_ne_true h).elim
                  · exact (Bool.false_ne_true h).elim
                · exact (Bool.false_ne_true h).elim
              | _ => exact (Bool.false_ne_true h).elim
            | _ => exact (Bool.false_ne_true h).elim
          | _ => exact (Bool.false_ne_true h).elim
        | _ => exact (Bool.false_ne_true h).elim
      | _ => exact (Bool.false_ne_true h).elim
    · exfalso
      rcases is with _ | ⟨i, _ | ⟨j, _ | ⟨l, _ | ⟨m, r⟩⟩⟩⟩
      · cases sm <;> exact Bool.false_ne_true h
      · cases sm <;> exact Bool.false_ne_true h
      · exact hno.1 i j rfl
      · exact hno.2 i j l rfl
      · cases sm <;> exact Bool.false_ne_true h
  | .aug i op e, sm, X, x, h, s => by
    cases sm with
    | AugAssign tg o v pos =>
      cases tg with
      | Name y p =>
        obtain ⟨h1, h⟩ := ba (show (decide (N[i]? = some y) && (locB sc y && (decide (opx op = o) && ((op == .add || op == .sub) && ckE pg N sc e v)))) = true from h)
        obtain ⟨h2, h⟩ := ba h
        obtain ⟨h3, h⟩ := ba h
        obtain ⟨h4, h5⟩ := ba h
        rw [← of_decide_eq_true h3]
        exact sts_aug s (of_decide_eq_true h1) h2 h4 (sndE e sc v X x h5 s.toSit)
      | _ => exact (Bool.false_ne_true h).elim
    | _ => exact (Bool.false_ne_true h).elim
  | .ret e, sm, X, x, h, s => by
    cases sm with
    | Return v pos =>
      cases v with
      | some v => exact sts_ret (sndE e sc v X x h s.toSit)
      | none => exact (Bool.false_ne_true h).elim
    | _ => exact (Bool.false_ne_true h).elim
  | .retN, sm, X, x, h, s => by
    cases sm with
    | Return v pos =>
      cases v with
      | none => exact sts_retN
      | some v => exact (Bool.false_ne_true h).elim
    | _ => exact (Bool.false_ne_true h).elim
  | .ifs c a b, sm, X, x, h, s => by
    cases sm with
    | If y z w pos =>
      obtain ⟨h1, h⟩ := ba (show (ckE pg N sc c y && (ckSs pg N sc a z && ckSs pg N sc b w)) = true from h)
      obtain ⟨h2, h3⟩ := ba h
      exact sts_if (sndE c sc y X x h1 s.toSit) (sndSs a z X x h2 s) (sndSs b w X x h3 s)
    | _ => exact (Bool.false_ne_true h).elim
  | .whl c b, sm, X, x, h, s => by
    cases sm with
    | While y z els pos =>
      cases els with
      | nil =>
        obtain ⟨h1, h2⟩ := ba (show (ckE pg N sc c y && ckSs pg N sc b z) = true from h)
        exact sts_whl s (sndE c sc y X x h1 s.toSit) (sndSs b z X x h2 s)
      | cons => exact (Bool.false_ne_true h).elim
    | _ => exact (Bool.false_ne_true h).elim
  | .forr ik es tg b, sm, X, x, h, s => by
    cases sm with
    | For t it z els pos =>
      cases els with
      | nil =>
        obtain ⟨h1, h⟩ := ba (show (ckT N (locB sc) tg t && (ckI pg N sc ik es tg it && ckSs pg N sc b z)) = true from h)
        obtain ⟨h2, h3⟩ := ba h
        have pp := pi_ck s.toSit (x := x) h1 h2 fun exs hx => sndEs es sc exs X x hx s.toSit
        exact sts_for s h1 pp.1 pp.2 (sndSs b z X x h3 s)
      | cons => exact (Bool.false_ne_true h).elim
    | _ => exact (Bool.false_ne_true h).elim
  | .brk, sm, X, x, h, s => by
    cases sm with
    | Break pos => exact sts_brk
    | _ => exact (Bool.false_ne_true h).elim
  | .cont, sm, X, x, h, s => by
    cases sm with
    | Continue pos => exact sts_cont
    | _ => exact (Bool.false_ne_true h).elim
  | .pass, sm, X, x, h, s => by
    cases sm with
    | Pass pos => exact sts_pass
    | _ => exact (Bool.false_ne_true h).elim
  | .nev, sm, X, x, h, s => sts_nev
theorem sndSs : ∀ (ss : List (St φ)) (sms : List Stmt) (X : Cx) (x : XW), ckSs pg N sc ss sms = true → SitS pg Γ G N sc X → PSs X sms (liftS X.K (wpSs Γ G ss x))
  | [], sms, X, x, h, s => by
    cases sms with
    | nil => exact pss_mono pss_nil fun D σ H h => liftS_nil D σ H h
    | cons => exact (Bool.false_ne_true h).elim
  | st :: ss, sms, X, x, h, s => by
    cases sms with
    | nil => exact (Bool.false_ne_true h).elim
    | cons sm sms =>
      obtain ⟨h1, h2⟩ := ba (show (ckS pg N sc st sm && ckSs pg N sc ss sms) = true from h)
      refine pss_mono (pss_cons (sndS st sm X x h1 s) (sndSs ss sms X x h2 s)) fun D σ H ⟨ρ, S, De, hρ, hs, ht, hk⟩ => ?_
      exact ⟨ρ, S, _, hρ, hs, ht, hk.nx fun ρ' S' q σ' H' ev hρ' hs' => ⟨ρ', S', De, hρ', hs', q, hk.later ev⟩⟩
end
end
end Lac
end

-- LacU.lean
section
set_option Elab.async false
set_option linter.all false
set_option maxRecDepth 100000
set_option maxHeartbeats 4000000
set_option autoImplicit false
/-! Lac, part U: a program of checked defs keeps its promises; constants of the text; a law's end. -/
namespace Lac
open PySem PySem.Spec PyProof.Rows L2

/-! ### a constant of the top, by data -/
mutual
def repB (K : PySem.W.Frag) : D → Value → Bool
  | .non, .none => true
  | .bl b, .bool c => b == c
  | .int i, .int j _ => decide (i = j)
  | .str x, .str y _ => decide (x = y) && (PyData.strOk x && decide (x.length ≤ sizeLine))
  | .tup ds, .ref a => (match K.lookup a with
    | some ⟨.type c, none, .seq its _, sl⟩ => decide (c = "tuple") && (sl.isEmpty && (decide (its.size ≤ sizeLine) && repBs K ds its.toList))
    | _ => false)
  | _, _ => false
def repBs (K : PySem.W.Frag) : List D → List Value → Bool
  | [], [] => true
  | d :: ds, u :: us => repB K d u && repBs K ds us
  | _, _ => false
end
mutual
theorem repB_ok {K : PySem.W.Frag} : ∀ (d : D) (u : Value), repB K d u = true → ∃ v, RelV v u ∧ ∀ H, Rp K H v d
  | .non, u, h => by
    cases u with
    | none => exact ⟨.non, rfl, fun _ => .non⟩
    | _ => exact (Bool.false_ne_true h).elim
  | .bl b, u, h => by
    cases u with
    | bool c =>
      have e : b = c := eq_of_beq (show (b == c) = true from h)
      subst e
      exact ⟨.bl b, rfl, fun _ => .bl b⟩
    | _ => exact (Bool.false_ne_true h).elim
  | .int i, u, h => by
    cases u with
    | int j t =>
      have e : i = j := of_decide_eq_true h
      subst e
      exact ⟨.int i, ⟨t, rfl⟩, fun _ => .int i⟩
    | _ => exact (Bool.false_ne_true h).elim
  | .str x, u, h => by
    cases u with
    | str y t =>
      obtain ⟨h1, h⟩ := ba (show (decide (x = y) && (PyData.strOk x && decide (x.length ≤ sizeLine))) = true from h)
      obtain ⟨h2, h3⟩ := ba h
      have e : x = y := of_decide_eq_true h1
      subst e
      exact ⟨.str x, ⟨t, rfl⟩, fun _ => .str x h2 (of_decide_eq_true h3)⟩
    | _ => exact (Bool.false_ne_true h).elim
  | .tup ds, u, h => by
    cases u with
    | ref a =>
      have h : (match K.lookup a with
        | some ⟨.type c, none, .seq its _, sl⟩ => decide (c = "tuple") && (sl.isEmpty && (decide (its.size ≤ sizeLine) && repBs K ds its.toList))
        | _ => false) = true := h
      split at h
      · rename_i c its n sl e
        obtain ⟨h1, h⟩ := ba h
        obtain ⟨h2, h⟩ := ba h
        obtain ⟨h3, h4⟩ := ba h
        obtain ⟨vs, rv, rp⟩ := repBs_ok ds _ h4
        have e1 : c = "tuple" := of_decide_eq_true h1
        subst e1
        refine ⟨.ref a, rfl, fun H => .tup (.inr ⟨_, its, n, e, rfl, ⟨rfl, ?_⟩, rfl, of_decide_eq_true h3, rv⟩) (rp H)⟩
        exact Array.isEmpty_iff.mp h2
      · cases h
    | _ => exact (Bool.false_ne_true h).elim
  | .ref a, u, h => by cases u <;> exact (Bool.false_ne_true h).elim
theorem repBs_ok {K : PySem.W.Frag} : ∀ (ds : List D) (us : List Value), repBs K ds us = true → ∃ vs, Vals vs us ∧ ∀ H, Rps K H vs ds
  | [], us, h => by
    cases us with
    | nil => exact ⟨[], .nil, fun _ => .nil⟩
    | cons => exact (Bool.false_ne_true h).elim
  | d :: ds, us, h => by
    cases us with
    | nil => exact (Bool.false_ne_true h).elim
    | cons u us =>
      obtain ⟨h1, h2⟩ := ba (show (repB K d u && repBs K ds us) = true from h)
      obtain ⟨v, r1, r2⟩ := repB_ok d u h1
      obtain ⟨vs, q1, q2⟩ := repBs_ok ds us h2
      exact ⟨v :: vs, .cons r1 q1, fun H => .cons (r2 H) (q2 H)⟩
end
/-- the named constants stand at the top as data say -/
def glsB (gs : List (Str × D)) (K : PySem.W.Frag) : Bool := gs.all fun q => match PySem.W.nsIn K mainGlobals q.1 with
  | some (some u) => repB K q.2 u
  | _ => false
theorem glsB_ok {gs : List (Str × D)} {K : PySem.W.Frag} {h : Heap} {mg : Str → Option Value} (X : K.In h) (G : h.Ns mainGlobals mg) (c : glsB gs K = true) {k : Nat} {y : Str} {d : D} (e1 : (gs.map (·.1))[k]? = some y) (e2 : (gs.map (·.2))[k]? = some d) :
    ∃ v u, mg y = some u ∧ RelV v u ∧ ∀ H, Rp K H v d := by
  rw [List.getElem?_map] at e1 e2
  cases e : gs[k]? with
  | none => rw [e] at e1; cases e1
  | some q =>
    rw [e] at e1 e2
    cases e1
    cases e2
    have := List.all_eq_true.mp c q (List.mem_of_getElem? e)
    split at this
    · rename_i u eu
      obtain ⟨v, r, p⟩ := repB_ok _ _ this
      exact ⟨v, u, PySem.W.mg_of X G eu, r, p⟩
    · cases this

/-! ### the program -/
section
variable {φ : Type} {P : Program} {w : World} {K : PySem.W.Frag} {mg : Str → Option Value} {base : Heap}
/-- a checked def -/
structure DefOk (pg : Pg φ) (Nf : φ → List Str) (body : φ → List (St φ)) (sm : φ → Stmt) (f : φ) : Prop where
  ck : ckSs pg (Nf f) (defScope (sm f)) (body f) (defBody (sm f)) = true
  sc : FnScope (Nf f) (pg.ps f) (defScope (sm f))
  bind : ∀ (kV doc pm : Value) (an : Option Addr) (cdv ct : Value) (us : List Value), us.length = (pg.ps f).length → bindArgs (PySem.W.fnOf (pg.nm f) (pg.nm f) (defArgs (sm f)) (defBody (sm f)) (defScope (sm f)) .none kV doc pm an cdv ct) ⟨us, []⟩ = pure ((pg.ps f).zip us)
/-- a def behind the top -/
def At (K : PySem.W.Frag) (mg : Str → Option Value) (pg : Pg φ) (sm : φ → Stmt) (f : φ) (a : Addr) (fd : FuncData) : Prop :=
  mg (pg.nm f) = some (.ref a) ∧ FunD K (pg.nm f) (pg.nm f) (defArgs (sm f)) (defBody (sm f)) (defScope (sm f)) [] [] a fd
theorem prog_ok {pg : Pg φ} {G : Nat → Option D} {Nf : φ → List Str} {body : φ → List (St φ)} {sm : φ → Stmt} {Γ : Nat → φ → DSp} {ad : φ → Addr} {fdd : φ → FuncData}
    (hd : ∀ f, DefOk pg Nf body sm f) (hF : ∀ f, At K mg pg sm f (ad f) (fdd f)) (hblt : ∀ y ∈ pg.bl, mg y = none)
    (hgl : ∀ (k : Nat) (y : Str) (d : D), pg.gn[k]? = some y → G k = some d → ∃ v u, mg y = some u ∧ RelV v u ∧ ∀ H, Rp K H v d)
    (zero : ∀ f ds S Q x, ¬ Γ 0 f ds S Q x)
    (step : ∀ n f ds S Q x, ds.length = (pg.ps f).length → Γ (n + 1) f ds S Q x → wpB (Γ n) G (Nf f).length (body f) ds S Q x) :
    ∀ n f, FnOk P w K mg base CX0 (n + 43) (ad f) (fdd f) (pg.ps f) (liftSp K (pg.ps f).length (Γ n f)) := by
  intro n
  induction n with
  | zero =>
    intro f
    refine ⟨fun vs H Q E h => h.1, fun A outer s H args us vs Q E hr e0 hb hv hs => ?_⟩
    obtain ⟨_, ds, S, Kc, x, _, _, z, _⟩ := hs
    exact (zero f ds S Kc x z).elim
  | succ n ih =>
    intro f
    obtain ⟨hm, F⟩ := hF f
    refine FnOk.mono (j := n + 43 + 1) (F.ok (hd f).sc (fun vs H Q E h => h.1) (fun cdv A outer s H vs Q E hr h => ?_)) (by omega)
    obtain ⟨hl, ds, S, Kc, x, rp, hs, z, cl⟩ := h
    have hlen : ds.length = (pg.ps f).length := by rw [← rp.length, hl]
    have z' := step n f ds S Kc x hlen z
    have sit : SitS pg (Γ n) G (Nf f) (defScope (sm f)) (cxOf CX0 P w K mg base (Nf f) (pg.nm f) (defScope (sm f)) (ad f) cdv A outer s H E).nox := by
      refine ⟨⟨rfl, (hd f).sc.nd, rfl, ?_, rfl, rfl, fun g => ?_, hblt, hgl⟩, fun _ => rfl, (hd f).sc.kind⟩
      · have := hr.un
        show (A.deeper _).units + 880 < cLine
        have h2 : (A.deeper (envOfC (pg.nm f) (defScope (sm f)) s.heap.objs.size (ad f) cdv)).units + 16 * (n + 43) + 200 < cLine := this
        omega
      · obtain ⟨hm', F'⟩ := hF g
        exact ⟨n + 43, ad g, fdd g, hr, hm', F'.kp, F'.bindsN (hd g).bind, ih g⟩
    refine ⟨_, (sndSs (body f) (defBody (sm f)) _ x (hd f).ck sit).nox, _, S, _, ?_, hs, z', ?_⟩
    · refine ⟨by simp [L2.start, rp.length], fun i d e => ?_⟩
      have key : ∀ (vs : List V) (ds : List D) (r : List (Option V)) (r' : Env) (i : Nat) (d : D), Rps K H vs ds → (∀ j, slot r' j = none) → slot (ds.map some ++ r') i = some d → ∃ v, (vs.map some ++ r)[i]? = some (some v) ∧ Rp K H v d := by
        intro vs ds r r' i d h hr' e
        induction ds generalizing vs i with
        | nil => rw [List.map_nil, List.nil_append, hr'] at e; cases e
        | cons d0 ds ih =>
          cases h with
          | cons a b =>
            cases i with
            | zero => cases e; exact ⟨_, rfl, a⟩
            | succ i =>
              obtain ⟨v, q1, q2⟩ := ih _ i b e
              exact ⟨v, by simpa using q1, q2⟩
      refine key vs ds _ _ i d rp (fun j => ?_) e
      generalize (Nf f).length - ds.length = m
      induction m generalizing j with
      | zero => rfl
      | succ m ih2 =>
        cases j with
        | zero => rfl
        | succ j => exact ih2 j
    · refine ⟨fun ρ' S' q σ' H' ev _ hs' => ?_, fun d S' q v H' ev r hs' => ?_, fun _ _ q => q.elim, fun _ _ q => q.elim⟩
      · obtain ⟨S'', sub, q⟩ := q
        exact cl _ _ q _ _ (ev.drop sub) .non (hs'.sub sub)
      · obtain ⟨S'', sub, q⟩ := q
        exact cl _ _ q _ _ (ev.drop sub) r (hs'.sub sub)
/-- the script at a, as data -/
def scr (a : Addr) (ns : List Int) : SH := fun b => if b = a then some (.rd (ns.map .int)) else none
/-- no list stands at the top -/
def noL (K : PySem.W.Frag) : Bool := K.all fun q => match q.2.cls with
  | .type c => !(decide (c = "list"))
  | _ => true
theorem noL_ok {K : PySem.W.Frag} {a : Addr} {o : Obj} (h : noL K = true) (l : K.lookup a = some o) (c : o.cls = .type "list") : False := by
  have := List.all_eq_true.mp h _ (He.lookup_mem l)
  simp only [c] at this
  simp at this
theorem rps_int {K : PySem.W.Frag} {H : Hp} : ∀ ns : List Int, Rps K H (ns.map V.int) (ns.map D.int)
  | [] => .nil
  | n :: ns => .cons (.int n) (rps_int ns)
theorem law_end {sp : DSp} {H : Hp} {a : Addr} {ns : List Int} (hO : Only H) (hS : SqL K H a (ns.map V.int)) (hK : noL K = true) (h : sp [.ref a] (scr a ns) (fun d _ => d = .bl true) fun _ _ _ => False) : liftSp K 1 sp [.ref a] H (fun v _ => v = .bl true) fun _ _ _ => False := by
  refine ⟨rfl, [.ref a], scr a ns, _, _, .cons (.ref a) .nil, ?_, h, fun d S' e v H' ev r hs' => ?_⟩
  · intro b o e
    unfold scr at e
    split at e
    · rename_i hb
      subst hb
      cases e
      rcases hO b with z | ⟨o, xs, z⟩
      · rcases hS with (q | ⟨o, q⟩) | ⟨o, its, n, q, c, _⟩
        · rw [z] at q; cases q
        · rw [z] at q; cases q
        · exact (noL_ok hK q c).elim
      · refine ⟨o, xs, z, ?_⟩
        have e2 : xs = ns.map V.int := by
          rcases hS with (q | ⟨o', q⟩) | ⟨o', its, n, q, c, _⟩
          · rw [z] at q; cases q
          · rw [z] at q; cases q; rfl
          · exact (noL_ok hK q c).elim
        subst e2
        exact rps_int ns
    · cases e
  · subst e
    cases r
    rfl
end
end Lac
end

-- LacV.lean
section
set_option Elab.async false
set_option linter.all false
set_option maxRecDepth 100000
set_option maxHeartbeats 1000000
set_option autoImplicit false
/-! Lac, part V: the readings as rewriting rules. -/
namespace Lac
open L2 PySem
/-- len(set(x)) -/
def dLset (u : D) (S : SH) (Q : KD) : Prop := match u with
  | .ref p => match S p with
    | some (.lst ds) => match keysD ds with
      | some ks => ks.length ≤ 4000 ∧ Q (.int (ks.foldl addK []).length) S
      | none => False
    | _ => False
  | _ => False
/-- a Bool that is there -/
def onB (o : Option Bool) (A : Bool → Prop) : Prop := match o with
  | some c => A c
  | none => False
section
variable {φ : Type} (Γ : φ → DSp) (G : Nat → Option D) (x : XW) (ρ : Env) (S : SH) (Q : KD)
theorem e_var (i) : wpE Γ G (.var i) x ρ S Q = match slot ρ i with
    | some d => Q d S
    | none => False := rfl
theorem e_lit (d) : wpE Γ G (.lit d) x ρ S Q = Q d S := rfl
theorem e_gl (k) : wpE Γ G (.gl k) x ρ S Q = match G k with
    | some d => Q d S
    | none => False := rfl
theorem e_tup (es) : wpE Γ G (.tup es) x ρ S Q = wpEs Γ G es x ρ S fun ds S' => Q (.tup ds) S' := rfl
theorem e_lst (es) : wpE Γ G (.lst es) x ρ S Q = wpEs Γ G es x ρ S fun ds S' => newL ds S' Q := rfl
theorem e_bin (op a b) : wpE Γ G (.bin op a b) x ρ S Q = wpE Γ G a x ρ S fun u S1 => wpE Γ G b x ρ S1 fun v S2 => dBin op u v S2 Q := rfl
theorem e_neg (a) : wpE Γ G (.neg a) x ρ S Q = wpE Γ G a x ρ S fun u S1 => match u with
    | .int i => Q (.int (-i)) S1
    | _ => False := rfl
theorem e_cmp (op a b) : wpE Γ G (.cmp op a b) x ρ S Q = wpE Γ G a x ρ S fun u S1 => wpE Γ G b x ρ S1 fun v S2 => dCmp op u v S2 Q := rfl
theorem e_chain (o1 o2 a b c) : wpE Γ G (.chain o1 o2 a b c) x ρ S Q = wpE Γ G a x ρ S fun u S1 => wpE Γ G b x ρ S1 fun v S2 => dCmp o1 u v S2 fun z S3 => match z with
    | .bl true => wpE Γ G c x ρ S3 fun w S4 => dCmp o2 v w S4 Q
    | .bl false => Q (.bl false) S3
    | _ => False := rfl
theorem e_isN (n a) : wpE Γ G (.isN n a) x ρ S Q = wpE Γ G a x ρ S fun u S1 => match u with
    | .non => Q (.bl !n) S1
    | _ => Q (.bl n) S1 := rfl
theorem e_isB (b a) : wpE Γ G (.isB b a) x ρ S Q = wpE Γ G a x ρ S fun u S1 => match u with
    | .bl c => Q (.bl (c == b)) S1
    | _ => False := rfl
theorem e_and (a b) : wpE Γ G (.and a b) x ρ S Q = wpE Γ G a x ρ S fun u S1 => match tru S1 u with
    | some true => wpE Γ G b x ρ S1 Q
    | some false => Q u S1
    | none => False := rfl
theorem e_or (a b) : wpE Γ G (.or a b) x ρ S Q = wpE Γ G a x ρ S fun u S1 => match tru S1 u with
    | some true => Q u S1
    | some false => wpE Γ G b x ρ S1 Q
    | none => False := rfl
theorem e_not (a) : wpE Γ G (.not a) x ρ S Q = wpE Γ G a x ρ S fun u S1 => onB (tru S1 u) fun c => Q (.bl !c) S1 := rfl
theorem e_ite (c a b) : wpE Γ G (.ite c a b) x ρ S Q = wpE Γ G c x ρ S fun u S1 => match tru S1 u with
    | some true => wpE Γ G a x ρ S1 Q
    | some false => wpE Γ G b x ρ S1 Q
    | none => False := rfl
theorem e_idx (a i) : wpE Γ G (.idx a i) x ρ S Q = wpE Γ G a x ρ S fun u S1 => wpE Γ G i x ρ S1 fun v S2 => dIdx u v S2 Q := rfl
theorem e_slcL (a lo) : wpE Γ G (.slcL a lo) x ρ S Q = wpE Γ G a x ρ S fun u S1 => wpE Γ G lo x ρ S1 fun v S2 => match v with
    | .int i => dSlc u (some i) none S2 Q
    | _ => False := rfl
theorem e_slcU (a hi) : wpE Γ G (.slcU a hi) x ρ S Q = wpE Γ G a x ρ S fun u S1 => wpE Γ G hi x ρ S1 fun v S2 => match v with
    | .int i => dSlc u none (some i) S2 Q
    | _ => False := rfl
theorem e_slcB (a lo hi) : wpE Γ G (.slcB a lo hi) x ρ S Q = wpE Γ G a x ρ S fun u S1 => wpE Γ G lo x ρ S1 fun v S2 => match v with
    | .int i => wpE Γ G hi x ρ S2 fun w S3 => match w with
      | .int j => dSlc u (some i) (some j) S3 Q
      | _ => False
    | _ => False := rfl
theorem e_rev (a) : wpE Γ G (.rev a) x ρ S Q = wpE Γ G a x ρ S fun u S1 => dRev u S1 Q := rfl
theorem e_isi (t a) : wpE Γ G (.isi t a) x ρ S Q = wpE Γ G a x ρ S fun u S1 => onB (isTy S1 t u) fun b => Q (.bl b) S1 := rfl
theorem e_call (f es) : wpE Γ G (.call f es) x ρ S Q = wpEs Γ G es x ρ S fun ds S1 => Γ f ds S1 Q x := rfl
theorem e_bf (f es) : wpE Γ G (.bf f es) x ρ S Q = wpEs Γ G es x ρ S fun ds S1 => dBf f ds S1 Q := rfl
theorem e_meth (m o es) : wpE Γ G (.meth m o es) x ρ S Q = wpE Γ G o x ρ S fun u S1 => mtTy m u S1 ∧ wpEs Γ G es x ρ S1 fun ds S2 => dMeth m u ds S2 Q := rfl
theorem e_comp (own ik es tg cond elt) : wpE Γ G (.comp own ik es tg cond elt) x ρ S Q = wpEs Γ G es x ρ S fun ds S1 => walk ik ds S1 fun items hold =>
      wpC (fun d R => gT tg d (wipeD ρ (own.map (·.2))) R) (wpE Γ G cond fun _ _ _ => False) (wpE Γ G elt fun _ _ _ => False) hold items [] S1 fun out S2 => newL out S2 Q := rfl
theorem e_bfc (f own ik es tg cond elt) : wpE Γ G (.bfc f own ik es tg cond elt) x ρ S Q = wpEs Γ G es x ρ S fun ds S1 => walk ik ds S1 fun items hold =>
      wpC (fun d R => gT tg d (wipeD ρ (own.map (·.2))) R) (wpE Γ G cond fun _ _ _ => False) (wpE Γ G elt fun _ _ _ => False) hold items [] S1 fun out S2 => dBfL f out S2 Q := rfl
theorem e_dcomp (own ik es tg cond k v) : wpE Γ G (.dcomp own ik es tg cond k v) x ρ S Q = wpEs Γ G es x ρ S fun ds S1 => walk ik ds S1 fun items hold =>
      wpC (fun d R => gT tg d (wipeD ρ (own.map (·.2))) R) (wpE Γ G cond fun _ _ _ => False) (fun ρ S Q => wpE Γ G k (fun _ _ _ => False) ρ S fun y S1 => (keyD y).isSome = true ∧ wpE Γ G v (fun _ _ _ => False) ρ S1 fun z S2 => Q (.tup [y, z]) S2) hold items [] S1 fun out S2 => dBfL .dict out S2 Q := rfl
theorem e_lenset (a) : wpE Γ G (.lenset a) x ρ S Q = wpE Γ G a x ρ S fun u S1 => dLset u S1 Q := rfl
variable (Qs : List D → SH → Prop) (De : DEnds)
theorem e_nil : wpEs Γ G [] x ρ S Qs = Qs [] S := rfl
theorem e_cons (e es) : wpEs Γ G (e :: es) x ρ S Qs = wpE Γ G e x ρ S fun d S1 => wpEs Γ G es x ρ S1 fun ds S2 => Qs (d :: ds) S2 := rfl
theorem s_expr (e) : wpS Γ G (.expr e) x De ρ S = wpE Γ G e x ρ S fun _ S1 => De.nx ρ S1 := rfl
theorem s_asg (t e) : wpS Γ G (.asg t e) x De ρ S = wpE Γ G e x ρ S fun d S1 => gT t d ρ fun ρ1 => De.nx ρ1 S1 := rfl
theorem s_put (o i e) : wpS Γ G (.put o i e) x De ρ S = wpE Γ G e x ρ S fun d S1 => wpE Γ G o x ρ S1 fun u S2 => wpE Γ G i x ρ S2 fun v S3 => dPut u v d S3 fun S4 => De.nx ρ S4 := rfl
theorem s_par (is es) : wpS Γ G (.par is es) x De ρ S = wpEs Γ G es x ρ S fun ds S1 => De.nx (setN ρ is ds) S1 := rfl
theorem s_aug (i op e) : wpS Γ G (.aug i op e) x De ρ S = match slot ρ i with
    | some (.int k) => wpE Γ G e x ρ S fun v S1 => match op, v with
      | .add, .int l => De.nx (ρ.set i (some (.int (k + l)))) S1
      | .sub, .int l => De.nx (ρ.set i (some (.int (k - l)))) S1
      | _, _ => False
    | _ => False := rfl
theorem s_ret (e) : wpS Γ G (.ret e) x De ρ S = wpE Γ G e x ρ S De.rt := rfl
theorem s_retN : wpS Γ G .retN x De ρ S = De.rt .non S := rfl
theorem s_ifs (c a b) : wpS Γ G (.ifs c a b) x De ρ S = wpE Γ G c x ρ S fun u S1 => match tru S1 u with
    | some true => wpSs Γ G a x De ρ S1
    | some false => wpSs Γ G b x De ρ S1
    | none => False := rfl
theorem s_forr (ik es tg b) : wpS Γ G (.forr ik es tg b) x De ρ S = wpEs Γ G es x ρ S fun ds S1 => walk ik ds S1 fun items hold => wpF (gT tg) (wpSs Γ G b x) hold De items ρ S1 := rfl
theorem s_brk : wpS Γ G .brk x De ρ S = De.bk ρ S := rfl
theorem s_cont : wpS Γ G .cont x De ρ S = De.ct ρ S := rfl
theorem s_pass : wpS Γ G .pass x De ρ S = De.nx ρ S := rfl
theorem s_nil : wpSs Γ G [] x De ρ S = De.nx ρ S := rfl
theorem s_cons (s r) : wpSs Γ G (s :: r) x De ρ S = wpS Γ G s x { De with nx := fun ρ1 S1 => wpSs Γ G r x De ρ1 S1 } ρ S := rfl
end
section
variable (Q : Env → Prop)
theorem g_nm (i d ρ) : gT (.nm i) d ρ Q = Q (ρ.set i (some d)) := rfl
theorem g_tup (ts ds ρ) : gT (.tup ts) (.tup ds) ρ Q = gTs ts ds ρ Q := rfl
theorem g_nil (ρ) : gTs [] [] ρ Q = Q ρ := rfl
theorem g_cons (t ts d ds ρ) : gTs (t :: ts) (d :: ds) ρ Q = gT t d ρ fun ρ' => gTs ts ds ρ' Q := rfl
end
theorem sl_0 (d : Option D) (r : Env) : slot (d :: r) 0 = d := rfl
theorem sl_s (d : Option D) (r : Env) (i : Nat) : slot (d :: r) (i + 1) = slot r i := rfl
end Lac
end

-- LacW.lean
section
set_option Elab.async false
set_option linter.all false
set_option maxRecDepth 100000
set_option maxHeartbeats 1000000
set_option autoImplicit false
/-! Lac, part W: steps of a reading. -/
namespace Lac
open L2 PySem
section
variable {S : SH} {Q : KD}
theorem t_ixl {a : Addr} {ds : List D} {i : Int} {d : D} (h : S a = some (.lst ds)) (e : atD ds i = some d) (q : Q d S) : dIdx (.ref a) (.int i) S Q := by
  unfold dIdx; simp only [h, e]; exact q
theorem t_ixr {a : Addr} {ds : List D} {i : Int} {d : D} (h : S a = some (.rd ds)) (e : atD ds i = some d) (q : Q d S) : dIdx (.ref a) (.int i) S Q := by
  unfold dIdx; simp only [h, e]; exact q
theorem t_ixt {ds : List D} {i : Int} {d : D} (e : atD ds i = some d) (q : Q d S) : dIdx (.tup ds) (.int i) S Q := by
  unfold dIdx; simp only [e]; exact q
theorem t_ixs {s : Str} {i : Int} {c : Nat} (e : ((ixN s.cps.toList.length i).bind fun j => s.cps.toList[j]?) = some c) (q : Q (.str ⟨#[c]⟩) S) : dIdx (.str s) (.int i) S Q := by
  unfold dIdx; simp only [e]; exact q
theorem t_add {i j : Int} (q : Q (.int (i + j)) S) : dBin .add (.int i) (.int j) S Q := q
theorem t_sub {i j : Int} (q : Q (.int (i - j)) S) : dBin .sub (.int i) (.int j) S Q := q
theorem t_mul {i j : Int} (h : mulOk i j) (q : Q (.int (i * j)) S) : dBin .mul (.int i) (.int j) S Q := ⟨h, q⟩
theorem t_mulr {i j : Int} (h : -(2 ^ 64) < j ∧ j < 2 ^ 64) (q : Q (.int (i * j)) S) : dBin .mul (.int i) (.int j) S Q := ⟨.inr h, q⟩
theorem t_mull {i j : Int} (h : -(2 ^ 64) < i ∧ i < 2 ^ 64) (q : Q (.int (i * j)) S) : dBin .mul (.int i) (.int j) S Q := ⟨.inl h, q⟩
theorem t_mod {i j : Int} (h : 0 < j) (q : Q (.int (i % j)) S) : dBin .mod (.int i) (.int j) S Q := ⟨h, q⟩
theorem t_fdiv {i j : Int} (h : 0 < j ∧ j < 1073741824) (q : Q (.int (i / j)) S) : dBin .fdiv (.int i) (.int j) S Q := ⟨h, q⟩
theorem t_pow {i j : Int} (h : 0 ≤ j ∧ j ≤ 1000000 ∧ i.natAbs < 2 ^ 64) (q : Q (.int (i ^ j.toNat)) S) : dBin .pow (.int i) (.int j) S Q := ⟨h, q⟩
theorem t_adds {s t : Str} (h : s.length + t.length ≤ sizeLine) (q : Q (.str (s ++ t)) S) : dBin .add (.str s) (.str t) S Q := ⟨h, q⟩
theorem t_addt {a b : List D} (h : a.length + b.length ≤ sizeLine) (q : Q (.tup (a ++ b)) S) : dBin .add (.tup a) (.tup b) S Q := ⟨h, q⟩
theorem t_addl {a b : Addr} {xs ys : List D} (ha : S a = some (.lst xs)) (hb : S b = some (.lst ys)) (h : xs.length + ys.length ≤ sizeLine) (q : newL (xs ++ ys) S Q) : dBin .add (.ref a) (.ref b) S Q := by
  unfold dBin; simp only [ha, hb]; exact ⟨h, q⟩
theorem t_lt {i j : Int} (q : Q (.bl (decide (i < j))) S) : dCmp .lt (.int i) (.int j) S Q := q
theorem t_le {i j : Int} (q : Q (.bl (decide (i ≤ j))) S) : dCmp .le (.int i) (.int j) S Q := q
theorem t_gt {i j : Int} (q : Q (.bl (decide (j < i))) S) : dCmp .gt (.int i) (.int j) S Q := q
theorem t_ge {i j : Int} (q : Q (.bl (decide (j ≤ i))) S) : dCmp .ge (.int i) (.int j) S Q := q
theorem dep_ref {d : D} (h : dep d ≤ 420) : ∀ a, d ≠ .ref a := fun a e => by subst e; simp [dep] at h
theorem t_eq {u v : D} (hu : dep u ≤ 420) (hv : dep v ≤ 420) (q : Q (.bl (eqv u v)) S) : dCmp .eq u v S Q := by
  have e : dCmp .eq u v S Q = dEq u v S fun b => Q (.bl b) S := rfl
  rw [e]
  unfold dEq
  split
  · exact (dep_ref hu _ rfl).elim
  · exact ⟨hu, hv, q⟩
theorem t_ne {u v : D} (hu : dep u ≤ 420) (hv : dep v ≤ 420) (q : Q (.bl (!eqv u v)) S) : dCmp .ne u v S Q := by
  have e : dCmp .ne u v S Q = dEq u v S fun b => Q (.bl (!b)) S := rfl
  rw [e]
  unfold dEq
  split
  · exact (dep_ref hu _ rfl).elim
  · exact ⟨hu, hv, q⟩
theorem t_eqi {i j : Int} (q : Q (.bl (i == j)) S) : dCmp .eq (.int i) (.int j) S Q := ⟨by simp [dep], by simp [dep], q⟩
theorem t_nei {i j : Int} (q : Q (.bl (!(i == j))) S) : dCmp .ne (.int i) (.int j) S Q := ⟨by simp [dep], by simp [dep], q⟩
theorem t_intup {u : D} {ds : List D} (hu : dep u ≤ 420) (hd : deps ds ≤ 420) (q : Q (.bl (ds.any fun z => eqv z u)) S) : dCmp .inn u (.tup ds) S Q := by
  have e : dCmp .inn u (.tup ds) S Q = dIn u (.tup ds) S fun b => Q (.bl b) S := rfl
  rw [e]
  cases u <;> exact ⟨hu, hd, q⟩
theorem t_nintup {u : D} {ds : List D} (hu : dep u ≤ 420) (hd : deps ds ≤ 420) (q : Q (.bl (!(ds.any fun z => eqv z u))) S) : dCmp .nin u (.tup ds) S Q := by
  have e : dCmp .nin u (.tup ds) S Q = dIn u (.tup ds) S fun b => Q (.bl (!b)) S := rfl
  rw [e]
  cases u <;> exact ⟨hu, hd, q⟩
theorem t_inl {u : D} {a : Addr} {ds : List D} (h : S a = some (.lst ds)) (hu : dep u ≤ 420) (hd : deps ds ≤ 420) (q : Q (.bl (ds.any fun z => eqv z u)) S) : dCmp .inn u (.ref a) S Q := by
  have e : dCmp .inn u (.ref a) S Q = dIn u (.ref a) S fun b => Q (.bl b) S := rfl
  rw [e]
  cases u <;> (unfold dIn; simp only [h]; exact ⟨hu, hd, q⟩)
theorem t_ninl {u : D} {a : Addr} {ds : List D} (h : S a = some (.lst ds)) (hu : dep u ≤ 420) (hd : deps ds ≤ 420) (q : Q (.bl (!(ds.any fun z => eqv z u))) S) : dCmp .nin u (.ref a) S Q := by
  have e : dCmp .nin u (.ref a) S Q = dIn u (.ref a) S fun b => Q (.bl (!b)) S := rfl
  rw [e]
  cases u <;> (unfold dIn; simp only [h]; exact ⟨hu, hd, q⟩)
theorem t_ins {s t : Str} (q : Q (.bl (!(Builtin.Str.occurrences t s 0 t.length 1).isEmpty)) S) : dCmp .inn (.str s) (.str t) S Q := q
theorem t_len {a : Addr} {ds : List D} (h : S a = some (.lst ds)) (q : Q (.int ds.length) S) : dBf .len [.ref a] S Q := by
  unfold dBf; simp only [h]; exact q
theorem t_lenr {a : Addr} {ds : List D} (h : S a = some (.rd ds)) (q : Q (.int ds.length) S) : dBf .len [.ref a] S Q := by
  unfold dBf; simp only [h]; exact q
theorem t_lend {a : Addr} {ds : List (Key × D)} (h : S a = some (.dct ds)) (q : Q (.int ds.length) S) : dBf .len [.ref a] S Q := by
  unfold dBf; simp only [h]; exact q
theorem t_lent {ds : List D} (q : Q (.int ds.length) S) : dBf .len [.tup ds] S Q := q
theorem t_lens {s : Str} (q : Q (.int s.length) S) : dBf .len [.str s] S Q := q
theorem t_int {i : Int} (q : Q (.int i) S) : dBf .int [.int i] S Q := q
theorem t_intb {b : Bool} (q : Q (.int (if b then 1 else 0)) S) : dBf .int [.bl b] S Q := q
theorem t_max2 {i j : Int} (q : Q (.int (if j > i then j else i)) S) : dBf .max [.int i, .int j] S Q := q
theorem t_min2 {i j : Int} (q : Q (.int (if j < i then j else i)) S) : dBf .min [.int i, .int j] S Q := q
theorem t_tupl {a : Addr} {ds : List D} (h : S a = some (.lst ds)) (q : Q (.tup ds) S) : dBf .tuple [.ref a] S Q := by
  unfold dBf; simp only [h]; exact q
theorem t_allL {a : Addr} {ds : List D} {bs : List Bool} (h : S a = some (.lst ds)) (e : boolsD ds = some bs) (q : Q (.bl (bs.all id)) S) : dBf .all [.ref a] S Q := by
  unfold dBf; simp only [h]
  show dBfL .all ds S Q
  unfold dBfL; simp only [e]; exact q
theorem t_sll {a : Addr} {ds : List D} {lo hi : Option Int} (h : S a = some (.lst ds)) (q : newL (cutD ds lo hi) S Q) : dSlc (.ref a) lo hi S Q := by
  unfold dSlc; simp only [h]; exact q
theorem t_slr {a : Addr} {ds : List D} {lo hi : Option Int} (h : S a = some (.rd ds)) (q : newL (cutD ds lo hi) S Q) : dSlc (.ref a) lo hi S Q := by
  unfold dSlc; simp only [h]; exact q
theorem t_slt {ds : List D} {lo hi : Option Int} (q : Q (.tup (cutD ds lo hi)) S) : dSlc (.tup ds) lo hi S Q := q
theorem t_revt {ds : List D} (q : Q (.tup ds.reverse) S) : dRev (.tup ds) S Q := q
theorem t_allc {xs : List D} {bs : List Bool} (e : boolsD xs = some bs) (q : Q (.bl (bs.all id)) S) : dBfL .all xs S Q := by
  unfold dBfL; simp only [e]; exact q
theorem t_anyc {xs : List D} {bs : List Bool} (e : boolsD xs = some bs) (q : Q (.bl (bs.any id)) S) : dBfL .any xs S Q := by
  unfold dBfL; simp only [e]; exact q
theorem t_tupc {xs : List D} (q : Q (.tup xs) S) : dBfL .tuple xs S Q := q
theorem t_dctc {xs : List D} {kvs : List (Key × D)} (e : pairsD xs = some kvs) (q : ∀ p, S p = none → Q (.ref p) (up S p (.dct (mergeD [] kvs)))) : dBfL .dict xs S Q := by
  unfold dBfL; simp only [e]; exact q
theorem t_lset {a : Addr} {ds : List D} {ks : List Key} (h : S a = some (.lst ds)) (e : keysD ds = some ks) (hl : ks.length ≤ 4000) (q : Q (.int (ks.foldl addK []).length) S) : dLset (.ref a) S Q := by
  unfold dLset; simp only [h, e]; exact ⟨hl, q⟩
variable {N : SH → Prop}
theorem t_put {a : Addr} {ds : List D} {i : Int} {d : D} {j : Nat} (h : S a = some (.lst ds)) (e : ixD ds.length i = some j) (q : N (up S a (.lst (ds.set j d)))) : dPut (.ref a) (.int i) d S N := by
  unfold dPut; simp only [h, e]; exact q
theorem t_app {a : Addr} {ds : List D} {d : D} (h : S a = some (.lst ds)) (hz : ds.length < sizeLine) (q : Q .non (up S a (.lst (ds ++ [d])))) : dMeth .append (.ref a) [d] S Q := by
  unfold dMeth; simp only [h]; exact ⟨hz, q⟩
theorem t_exl {a b : Addr} {ds es : List D} (h : S a = some (.lst ds)) (hb : S b = some (.lst es)) (hz : ds.length + es.length ≤ sizeLine) (q : Q .non (up S a (.lst (ds ++ es)))) : dMeth .extend (.ref a) [.ref b] S Q := by
  unfold dMeth; simp only [h, hb]; exact ⟨hz, q⟩
theorem t_ext {a : Addr} {ds es : List D} (h : S a = some (.lst ds)) (hz : ds.length + es.length ≤ sizeLine) (q : Q .non (up S a (.lst (ds ++ es)))) : dMeth .extend (.ref a) [.tup es] S Q := by
  unfold dMeth; simp only [h]; exact ⟨hz, q⟩
theorem t_pop {a : Addr} {ds : List D} {d : D} (h : S a = some (.lst ds)) (e : ds.getLast? = some d) (q : Q d (up S a (.lst ds.dropLast))) : dMeth .pop (.ref a) [] S Q := by
  unfold dMeth; simp only [h, e]; exact q
theorem t_mt {m : Mt} {a : Addr} {ds : List D} {A : Prop} (hm : m = .append ∨ m = .extend ∨ m = .pop ∨ m = .index) (h : S a = some (.lst ds)) (q : A) : mtTy m (.ref a) S ∧ A := by
  refine ⟨?_, q⟩
  rcases hm with rfl | rfl | rfl | rfl <;> (unfold mtTy; simp only [h])
theorem t_mtd {a : Addr} {ds : List (Key × D)} {A : Prop} (h : S a = some (.dct ds)) (q : A) : mtTy .get (.ref a) S ∧ A := by
  refine ⟨?_, q⟩
  unfold mtTy; simp only [h]
theorem t_mts {s : Str} {A : Prop} (q : A) : mtTy .join (.str s) S ∧ A := ⟨True.intro, q⟩
theorem t_join {s : Str} {a : Addr} {ds : List D} {ys : List Str} (h : S a = some (.lst ds)) (e : strsD ds = some ys) (hz : (ys.map (·.length)).sum + ys.length * s.length ≤ 16777216) (q : Q (.str (Txt.join s ys)) S) : dMeth .join (.str s) [.ref a] S Q := by
  unfold dMeth; simp only [seqOf, h, e]; exact ⟨hz, q⟩
/-- branches -/
theorem t_br {b : Bool} {A B : Prop} (h1 : b = true → A) (h2 : b = false → B) : (match tru S (.bl b) with
    | some true => A
    | some false => B
    | none => False) := by
  cases b with
  | true => exact h1 rfl
  | false => exact h2 rfl
theorem t_brl {a : Addr} {ds : List D} {A B : Prop} (h : S a = some (.lst ds)) (h1 : ds ≠ [] → A) (h2 : ds = [] → B) : (match tru S (.ref a) with
    | some true => A
    | some false => B
    | none => False) := by
  have e : tru S (.ref a) = some (!ds.isEmpty) := by unfold tru; simp only [h]
  rw [e]
  cases ds with
  | nil => exact h2 rfl
  | cons => exact h1 (by simp)
theorem t_not {b : Bool} {A : Bool → Prop} (h : A b) : onB (tru S (.bl b)) A := h
theorem t_notl {a : Addr} {ds : List D} {A : Bool → Prop} (h : S a = some (.lst ds)) (q : A (!ds.isEmpty)) : onB (tru S (.ref a)) A := by
  have e : tru S (.ref a) = some (!ds.isEmpty) := by unfold tru; simp only [h]
  rw [e]; exact q
theorem t_isi {t : Ty} {d : D} {b : Bool} {A : Bool → Prop} (e : isTy S t d = some b) (q : A b) : onB (isTy S t d) A := by rw [e]; exact q
/-- isinstance of data without addresses -/
def tyB (t : Ty) : D → Bool
  | .bl _ => t == .bool || t == .int
  | .int _ => t == .int
  | .str _ => t == .str
  | .tup _ => t == .tuple
  | _ => false
theorem isTy_data {t : Ty} {d : D} (h : dep d ≤ 420) : isTy S t d = some (tyB t d) := by
  cases d with
  | ref a => exact (dep_ref h a rfl).elim
  | non => cases t <;> rfl
  | _ => rfl
theorem t_isd {t : Ty} {d : D} {A : Bool → Prop} (h : dep d ≤ 420) (q : A (tyB t d)) : onB (isTy S t d) A := by rw [isTy_data h]; exact q
theorem isTy_nref {t : Ty} {d : D} (h : ∀ a, d ≠ .ref a) : isTy S t d = some (tyB t d) := by
  cases d with
  | ref a => exact (h a rfl).elim
  | non => cases t <;> rfl
  | _ => rfl
theorem t_isn {t : Ty} {d : D} {A : Bool → Prop} (h : ∀ a, d ≠ .ref a) (q : A (tyB t d)) : onB (isTy S t d) A := by rw [isTy_nref h]; exact q
theorem t_new {ds : List D} (q : ∀ p, S p = none → Q (.ref p) (up S p (.lst ds))) : newL ds S Q := q
/-! ### walks -/
variable {R : List D → (SH → Prop) → Prop}
theorem t_wkl {a : Addr} {ds : List D} (h : S a = some (.lst ds)) (q : R ds (fun S' => S' a = some (.lst ds))) : walk .any [.ref a] S R := by
  unfold walk
  simp only [seqOf, h]
  have : stands S (.ref a) = fun S' => S' a = some (.lst ds) := by
    funext S'; show (S' a = S a) = _; rw [h]
  rw [this]; exact q
theorem t_wkr {a : Addr} {ds : List D} (h : S a = some (.rd ds)) (q : R ds (fun S' => S' a = some (.rd ds))) : walk .any [.ref a] S R := by
  unfold walk
  simp only [seqOf, h]
  have : stands S (.ref a) = fun S' => S' a = some (.rd ds) := by
    funext S'; show (S' a = S a) = _; rw [h]
  rw [this]; exact q
theorem t_wkt {ds : List D} (q : R ds (fun _ => True)) : walk .any [.tup ds] S R := q
theorem t_wks {s : Str} (q : R (s.cps.toList.map fun c => .str ⟨#[c]⟩) (fun _ => True)) : walk .any [.str s] S R := q
theorem t_wkn {n : Int} (h : -(2 ^ 62) ≤ n ∧ n ≤ sizeLine) (q : R (rangeD 0 n.toNat) (fun _ => True)) : walk .range [.int n] S R := ⟨h, q⟩
theorem t_wkel {a : Addr} {ds : List D} (h : S a = some (.lst ds)) (q : R (enumD 0 ds) (fun S' => S' a = some (.lst ds))) : walk .enum [.ref a] S R := by
  unfold walk
  simp only [seqOf, h]
  have : stands S (.ref a) = fun S' => S' a = some (.lst ds) := by
    funext S'; show (S' a = S a) = _; rw [h]
  rw [this]; exact q
theorem t_wket {ds : List D} (q : R (enumD 0 ds) (fun _ => True)) : walk .enum [.tup ds] S R := q
end
/-! ### loops over lists -/
section
variable {g : D → (Env → Prop) → Prop} {cond elt : Env → SH → KD → Prop} {hold : SH → Prop}
/-- the turns of a comprehension by an invariant: what is left, what is made, the heap -/
theorem wpC_inv (J : List D → List D → SH → Prop) {Q : List D → SH → Prop}
    (step : ∀ d r acc S, J (d :: r) acc S → hold S ∧ ∀ (K : KD) (F : SH → Prop), (∀ y S2, J r (acc ++ [y]) S2 → K y S2) → (∀ S1, J r acc S1 → F S1) → g d fun ρ => cond ρ S fun c S1 => match tru S1 c with
      | some true => elt ρ S1 K
      | some false => F S1
      | none => False)
    (fin : ∀ acc S, J [] acc S → hold S ∧ Q acc S) : ∀ (items : List D) (acc : List D) (S : SH), J items acc S → wpC g cond elt hold items acc S Q
  | [], acc, S, h => fin acc S h
  | d :: r, acc, S, h => by
    obtain ⟨h1, h2⟩ := step d r acc S h
    exact ⟨h1, h2 _ _ (fun y S2 hy => wpC_inv J step fin r _ S2 hy) fun S1 hy => wpC_inv J step fin r _ S1 hy⟩
/-- pure elements: those that p takes, f mapped -/
theorem wpC_fm (f : D → D) (p : D → Bool) {items : List D} {acc : List D} {S : SH} {Q : List D → SH → Prop} (hS : hold S)
    (h : ∀ d ∈ items, ∀ (K : KD) (F : SH → Prop), (p d = true → K (f d) S) → (p d = false → F S) → g d fun ρ => cond ρ S fun c S1 => match tru S1 c with
      | some true => elt ρ S1 K
      | some false => F S1
      | none => False) (q : Q (acc ++ (items.filter p).map f) S) : wpC g cond elt hold items acc S Q := by
  induction items generalizing acc with
  | nil => exact ⟨hS, by simpa using q⟩
  | cons x r ih =>
    refine ⟨hS, h x (by simp) _ _ (fun hp => ?_) fun hp => ?_⟩
    · refine ih (fun d hd => h d (by simp [hd])) ?_
      rw [List.filter_cons_of_pos hp] at q
      simpa using q
    · refine ih (fun d hd => h d (by simp [hd])) ?_
      rw [List.filter_cons_of_neg (by simp [hp])] at q
      exact q
theorem wpC_map (f : D → D) {items : List D} {acc : List D} {S : SH} {Q : List D → SH → Prop} (hS : hold S)
    (h : ∀ d ∈ items, ∀ (K : KD) (F : SH → Prop), K (f d) S → g d fun ρ => cond ρ S fun c S1 => match tru S1 c with
      | some true => elt ρ S1 K
      | some false => F S1
      | none => False) (q : Q (acc ++ items.map f) S) : wpC g cond elt hold items acc S Q :=
  wpC_fm f (fun _ => true) hS (fun d hd K F a _ => h d hd K F (a rfl)) (by
    have : items.filter (fun _ => true) = items := List.filter_eq_self.mpr (by simp)
    rw [this]; exact q)
/-- the same without a test -/
theorem wpC_map1 {φ : Type} {Γ : φ → DSp} {G : Nat → Option D} (f : D → D) {items : List D} {acc : List D} {S : SH} {Q : List D → SH → Prop} (hS : hold S)
    (h : ∀ d ∈ items, ∀ K : KD, K (f d) S → g d fun ρ => elt ρ S K) (q : Q (acc ++ items.map f) S) : wpC g (wpE Γ G (.lit (.bl true)) fun _ _ _ => False) elt hold items acc S Q :=
  wpC_map f hS (fun d hd K _ hk => h d hd K hk) q
theorem wpC_inv1 {φ : Type} {Γ : φ → DSp} {G : Nat → Option D} (J : List D → List D → SH → Prop) {Q : List D → SH → Prop}
    (step : ∀ d r acc S, J (d :: r) acc S → hold S ∧ ∀ (K : KD), (∀ y S2, J r (acc ++ [y]) S2 → K y S2) → g d fun ρ => elt ρ S K)
    (fin : ∀ acc S, J [] acc S → hold S ∧ Q acc S) (items : List D) (acc : List D) (S : SH) (h : J items acc S) : wpC g (wpE Γ G (.lit (.bl true)) fun _ _ _ => False) elt hold items acc S Q :=
  wpC_inv J (fun d r acc S h => ⟨(step d r acc S h).1, fun K _ hk _ => (step d r acc S h).2 K hk⟩) fin items acc S h
variable {gf : D → Env → (Env → Prop) → Prop} {body : DEnds → Env → SH → Prop} {e : DEnds}
/-- the turns of a for by an invariant -/
theorem wpF_inv (J : List D → Env → SH → Prop)
    (step : ∀ d r ρ S, J (d :: r) ρ S → hold S ∧ ∀ (N : Env → SH → Prop), (∀ ρ' S', J r ρ' S' → N ρ' S') → gf d ρ fun ρ1 => body { nx := N, rt := e.rt, bk := e.nx, ct := N } ρ1 S)
    (fin : ∀ ρ S, J [] ρ S → hold S ∧ e.nx ρ S) : ∀ (items : List D) (ρ : Env) (S : SH), J items ρ S → wpF gf body hold e items ρ S
  | [], ρ, S, h => fin ρ S h
  | d :: r, ρ, S, h => by
    obtain ⟨h1, h2⟩ := step d r ρ S h
    exact ⟨h1, h2 _ fun ρ' S' hy => wpF_inv J step fin r ρ' S' hy⟩
end
end Lac
end

-- LacX.lean
section
set_option Elab.async false
set_option linter.all false
set_option maxRecDepth 100000
set_option maxHeartbeats 1000000
set_option autoImplicit false
/-! Lac, part X: the laws' cursor: _law_start, _law_fill, _law_take. -/
namespace Lac
open PySem L2
section
variable {φ : Type} {Γ : φ → DSp} {G : Nat → Option D} {x : XW} {ρ : Env} {S : SH} {De : DEnds}
theorem c_cons {s : St φ} {r : List (St φ)} (h : wpS Γ G s x { De with nx := fun ρ1 S1 => wpSs Γ G r x De ρ1 S1 } ρ S) : wpSs Γ G (s :: r) x De ρ S := h
theorem c_nil (h : De.nx ρ S) : wpSs Γ G [] x De ρ S := h
end
theorem up_id {S : SH} {a : Addr} {o : DO} (h : S a = some o) : up S a o = S := by
  funext b; unfold up; split
  · rename_i e; rw [e, h]
  · rfl
theorem sub_refl {S : SH} : Sub S S := fun _ _ h => h
theorem ret_same {S : SH} {Q : KD} {d : D} (h : Q d S) : ∃ S'', Sub S'' S ∧ Q d S'' := ⟨S, sub_refl, h⟩

/-- the cursor -/
abbrev cu (b : Addr) (p d k e : Int) : DO := .lst [.ref b, .int p, .int d, .int k, .int e]
structure CurOk (S : SH) (a b : Addr) (cs : List Int) (p d k e : Int) : Prop where
  c : S a = some (cu b p d k e)
  s : S b = some (.lst (cs.map .int))
  p0 : 0 ≤ p
theorem CurOk.ne {S : SH} {a b : Addr} {cs : List Int} {p d k e : Int} (h : CurOk S a b cs p d k e) : b ≠ a := by
  intro q
  subst q
  have := h.c.symm.trans h.s
  cases cs with
  | nil => cases this
  | cons => cases this
theorem CurOk.up {S : SH} {a b : Addr} {cs : List Int} {p d k e : Int} (h : CurOk S a b cs p d k e) {p' d' k' e' : Int} (h0 : 0 ≤ p') : CurOk (up S a (cu b p' d' k' e')) a b cs p' d' k' e' := ⟨up_same, by rw [up_ne h.ne]; exact h.s, h0⟩
theorem map_at {cs : List Int} {p : Int} (h0 : 0 ≤ p) (h : p < cs.length) : ∃ z, atD (cs.map .int) p = some (.int z) := by
  have hlt : p.toNat < cs.length := by omega
  refine ⟨cs[p.toNat], ?_⟩
  unfold atD ixD
  rw [if_pos h0, if_pos (by simpa using h)]
  simp [hlt]
theorem map_last {cs : List Int} (h : cs ≠ []) : ∃ z, atD (cs.map .int) (-1) = some (.int z) := by
  have hl : 0 < cs.length := List.length_pos_iff.mpr h
  have hlt : ((-1 : Int) + cs.length).toNat < cs.length := by omega
  refine ⟨cs[((-1 : Int) + cs.length).toNat], ?_⟩
  unfold atD ixD
  rw [if_neg (by decide), if_pos (by rw [List.length_map]; omega)]
  simp [hlt]

/-- _law_fill(c): any number; the cursor goes on -/
def spFill : DSp := fun ds S Q _ => ∃ a b cs p d k e, ds = [.ref a] ∧ CurOk S a b cs p d k e ∧ ∀ r p' k', 0 ≤ p' → Q (.int r) (up S a (cu b p' d k' e))
def fillBody {φ : Type} : List (St φ) := [
  .put (.var 0) (.lit (.int 3)) (.bin .add (.idx (.var 0) (.lit (.int 3))) (.lit (.int 1))),
  .asg (.nm 1) (.bin .add (.bin .mul (.idx (.var 0) (.lit (.int 3))) (.lit (.int 69621))) (.lit (.int 12345))),
  .ifs (.cmp .lt (.idx (.var 0) (.lit (.int 1))) (.bf .len [.idx (.var 0) (.lit (.int 0))])) [.asg (.nm 1) (.bf .max [.idx (.idx (.var 0) (.lit (.int 0))) (.idx (.var 0) (.lit (.int 1))), .bin .sub (.bin .sub (.lit (.int 0)) (.lit (.int 1))) (.idx (.idx (.var 0) (.lit (.int 0))) (.idx (.var 0) (.lit (.int 1))))]),
    .put (.var 0) (.lit (.int 1)) (.bin .add (.idx (.var 0) (.lit (.int 1))) (.lit (.int 1))),
    .ifs (.cmp .ge (.var 1) (.bin .pow (.lit (.int 10)) (.lit (.int 18)))) [.ret (.var 1)] []] [],
  .ifs (.and (.idx (.var 0) (.lit (.int 0))) (.cmp .ge (.idx (.var 0) (.lit (.int 1))) (.bf .len [.idx (.var 0) (.lit (.int 0))]))) [.asg (.nm 1) (.bin .add (.var 1) (.bin .mod (.bf .int [.idx (.idx (.var 0) (.lit (.int 0))) (.neg (.lit (.int 1)))]) (.lit (.int 1000003))))] [],
  .asg (.nm 1) (.bin .mod (.bf .int [.bin .add (.bin .mul (.var 1) (.lit (.int 48271))) (.bin .mul (.idx (.var 0) (.lit (.int 3))) (.lit (.int 69621)))]) (.lit (.int 2147483647))),
  .ret (.bin .add (.bin .fdiv (.bf .int [.bin .add (.bin .add (.bin .mul (.var 1) (.var 1)) (.bin .mul (.idx (.var 0) (.lit (.int 3))) (.lit (.int 7919)))) (.lit (.int 11))]) (.lit (.int 64))) (.lit (.int 36028797018963968)))]
section
variable {φ : Type} {Γ : φ → DSp} {G : Nat → Option D}
theorem p_fill2 {S : SH} {Q : KD} {x : XW} {a b : Addr} {cs : List Int} {p d k e z : Int} {nx : Env → SH → Prop} (h1 : S a = some (cu b p d k e)) (h2 : S b = some (.lst (cs.map .int))) (h3 : 0 ≤ p) (hne : b ≠ a) (q : ∀ r p' k', 0 ≤ p' → Q (.int r) (up S a (cu b p' d k' e))) :
    wpSs Γ G (fillBody.drop 3) x { nx := nx, rt := fun d S' => ∃ S'', Sub S'' S' ∧ Q d S'' } [some (.ref a), some (.int z)] S := by
  have tail : ∀ z, wpSs Γ G (fillBody.drop 4) x { nx := nx, rt := fun d S' => ∃ S'', Sub S'' S' ∧ Q d S'' } [some (.ref a), some (.int z)] S := fun z => by
    refine c_cons ?_
    simp only [s_nil, s_expr, s_asg, s_put, s_par, s_aug, s_ret, s_retN, s_ifs, s_forr, s_brk, s_cont, s_pass, e_var, e_lit, e_gl, e_tup, e_lst, e_bin, e_neg, e_cmp, e_chain, e_isN, e_isB, e_and, e_or, e_not, e_ite, e_idx, e_slcL, e_slcU, e_slcB, e_rev, e_isi, e_call, e_bf, e_meth, e_comp, e_bfc, e_dcomp, e_lenset, e_nil, e_cons, g_nm, g_tup, g_nil, g_cons, sl_0, sl_s, List.set, setN, wipeD, List.map, Bool.not_true, Bool.not_false]
    repeat (first | with_reducible refine t_add ?_ | with_reducible refine t_sub ?_ | with_reducible refine t_lt ?_ | with_reducible refine t_le ?_ | with_reducible refine t_gt ?_ | with_reducible refine t_ge ?_ | with_reducible refine t_eqi ?_ | with_reducible refine t_nei ?_ | with_reducible refine t_int ?_ | with_reducible refine t_intb ?_ | with_reducible refine t_max2 ?_ | with_reducible refine t_min2 ?_ | with_reducible refine t_lent ?_ | with_reducible refine t_lens ?_ | with_reducible refine t_mts ?_ | with_reducible refine t_not ?_ | with_reducible refine t_slt ?_ | with_reducible refine t_revt ?_ | with_reducible refine t_tupc ?_ | with_reducible refine t_wkt ?_ | with_reducible refine t_wks ?_ | with_reducible refine t_ixl (by first | assumption | exact up_same | exact (up_ne (by assumption)).trans (by assumption) | exact (up_ne (by assumption)).trans up_same | exact (up_ne (by assumption)).trans ((up_ne (by assumption)).trans (by assumption))) (by with_unfolding_all rfl) ?_ | with_reducible refine t_ixt (by with_unfolding_all rfl) ?_ | with_reducible refine t_len (by first | assumption | exact up_same | exact (up_ne (by assumption)).trans (by assumption) | exact (up_ne (by assumption)).trans up_same | exact (up_ne (by assumption)).trans ((up_ne (by assumption)).trans (by assumption))) ?_ | with_reducible refine t_put (by first | assumption | exact up_same | exact (up_ne (by assumption)).trans (by assumption) | exact (up_ne (by assumption)).trans up_same | exact (up_ne (by assumption)).trans ((up_ne (by assumption)).trans (by assumption))) (by with_unfolding_all rfl) ?_ | with_reducible refine t_notl (by first | assumption | exact up_same | exact (up_ne (by assumption)).trans (by assumption) | exact (up_ne (by assumption)).trans up_same | exact (up_ne (by assumption)).trans ((up_ne (by assumption)).trans (by assumption))) ?_ | with_reducible refine t_mod (by decide) ?_ | with_reducible refine t_fdiv (by decide) ?_ | with_reducible refine t_pow (by decide) ?_ | with_reducible refine t_mulr (by decide) ?_ | with_reducible refine t_mull (by decide) ?_)
    refine c_cons ?_
    simp only [s_nil, s_expr, s_asg, s_put, s_par, s_aug, s_ret, s_retN, s_ifs, s_forr, s_brk, s_cont, s_pass, e_var, e_lit, e_gl, e_tup, e_lst, e_bin, e_neg, e_cmp, e_chain, e_isN, e_isB, e_and, e_or, e_not, e_ite, e_idx, e_slcL, e_slcU, e_slcB, e_rev, e_isi, e_call, e_bf, e_meth, e_comp, e_bfc, e_dcomp, e_lenset, e_nil, e_cons, g_nm, g_tup, g_nil, g_cons, sl_0, sl_s, List.set, setN, wipeD, List.map, Bool.not_true, Bool.not_false]
    have hb := Int.emod_nonneg (z * 48271 + k * 69621) (b := 2147483647) (by decide)
    have hb2 := Int.emod_lt_of_pos (z * 48271 + k * 69621) (b := 2147483647) (by decide)
    refine t_mul (.inr ⟨by omega, by omega⟩) ?_
    repeat (first | with_reducible refine t_add ?_ | with_reducible refine t_sub ?_ | with_reducible refine t_lt ?_ | with_reducible refine t_le ?_ | with_reducible refine t_gt ?_ | with_reducible refine t_ge ?_ | with_reducible refine t_eqi ?_ | with_reducible refine t_nei ?_ | with_reducible refine t_int ?_ | with_reducible refine t_intb ?_ | with_reducible refine t_max2 ?_ | with_reducible refine t_min2 ?_ | with_reducible refine t_lent ?_ | with_reducible refine t_lens ?_ | with_reducible refine t_mts ?_ | with_reducible refine t_not ?_ | with_reducible refine t_slt ?_ | with_reducible refine t_revt ?_ | with_reducible refine t_tupc ?_ | with_reducible refine t_wkt ?_ | with_reducible refine t_wks ?_ | with_reducible refine t_ixl (by first | assumption | exact up_same | exact (up_ne (by assumption)).trans (by assumption) | exact (up_ne (by assumption)).trans up_same | exact (up_ne (by assumption)).trans ((up_ne (by assumption)).trans (by assumption))) (by with_unfolding_all rfl) ?_ | with_reducible refine t_ixt (by with_unfolding_all rfl) ?_ | with_reducible refine t_len (by first | assumption | exact up_same | exact (up_ne (by assumption)).trans (by assumption) | exact (up_ne (by assumption)).trans up_same | exact (up_ne (by assumption)).trans ((up_ne (by assumption)).trans (by assumption))) ?_ | with_reducible refine t_put (by first | assumption | exact up_same | exact (up_ne (by assumption)).trans (by assumption) | exact (up_ne (by assumption)).trans up_same | exact (up_ne (by assumption)).trans ((up_ne (by assumption)).trans (by assumption))) (by with_unfolding_all rfl) ?_ | with_reducible refine t_notl (by first | assumption | exact up_same | exact (up_ne (by assumption)).trans (by assumption) | exact (up_ne (by assumption)).trans up_same | exact (up_ne (by assumption)).trans ((up_ne (by assumption)).trans (by assumption))) ?_ | with_reducible refine t_mod (by decide) ?_ | with_reducible refine t_fdiv (by decide) ?_ | with_reducible refine t_pow (by decide) ?_ | with_reducible refine t_mulr (by decide) ?_ | with_reducible refine t_mull (by decide) ?_)
    refine ret_same ?_
    have := q ((((z * 48271 + k * 69621) % 2147483647) * ((z * 48271 + k * 69621) % 2147483647) + k * 7919 + 11) / 64 + 36028797018963968) p k h3
    rw [up_id h1] at this
    exact this
  refine c_cons ?_
  simp only [s_nil, s_expr, s_asg, s_put, s_par, s_aug, s_ret, s_retN, s_ifs, s_forr, s_brk, s_cont, s_pass, e_var, e_lit, e_gl, e_tup, e_lst, e_bin, e_neg, e_cmp, e_chain, e_isN, e_isB, e_and, e_or, e_not, e_ite, e_idx, e_slcL, e_slcU, e_slcB, e_rev, e_isi, e_call, e_bf, e_meth, e_comp, e_bfc, e_dcomp, e_lenset, e_nil, e_cons, g_nm, g_tup, g_nil, g_cons, sl_0, sl_s, List.set, setN, wipeD, List.map, Bool.not_true, Bool.not_false]
  repeat (first | with_reducible refine t_add ?_ | with_reducible refine t_sub ?_ | with_reducible refine t_lt ?_ | with_reducible refine t_le ?_ | with_reducible refine t_gt ?_ | with_reducible refine t_ge ?_ | with_reducible refine t_eqi ?_ | with_reducible refine t_nei ?_ | with_reducible refine t_int ?_ | with_reducible refine t_intb ?_ | with_reducible refine t_max2 ?_ | with_reducible refine t_min2 ?_ | with_reducible refine t_lent ?_ | with_reducible refine t_lens ?_ | with_reducible refine t_mts ?_ | with_reducible refine t_not ?_ | with_reducible refine t_slt ?_ | with_reducible refine t_revt ?_ | with_reducible refine t_tupc ?_ | with_reducible refine t_wkt ?_ | with_reducible refine t_wks ?_ | with_reducible refine t_ixl (by first | assumption | exact up_same | exact (up_ne (by assumption)).trans (by assumption) | exact (up_ne (by assumption)).trans up_same | exact (up_ne (by assumption)).trans ((up_ne (by assumption)).trans (by assumption))) (by with_unfolding_all rfl) ?_ | with_reducible refine t_ixt (by with_unfolding_all rfl) ?_ | with_reducible refine t_len (by first | assumption | exact up_same | exact (up_ne (by assumption)).trans (by assumption) | exact (up_ne (by assumption)).trans up_same | exact (up_ne (by assumption)).trans ((up_ne (by assumption)).trans (by assumption))) ?_ | with_reducible refine t_put (by first | assumption | exact up_same | exact (up_ne (by assumption)).trans (by assumption) | exact (up_ne (by assumption)).trans up_same | exact (up_ne (by assumption)).trans ((up_ne (by assumption)).trans (by assumption))) (by with_unfolding_all rfl) ?_ | with_reducible refine t_notl (by first | assumption | exact up_same | exact (up_ne (by assumption)).trans (by assumption) | exact (up_ne (by assumption)).trans up_same | exact (up_ne (by assumption)).trans ((up_ne (by assumption)).trans (by assumption))) ?_ | with_reducible refine t_mod (by decide) ?_ | with_reducible refine t_fdiv (by decide) ?_ | with_reducible refine t_pow (by decide) ?_ | with_reducible refine t_mulr (by decide) ?_ | with_reducible refine t_mull (by decide) ?_)
  refine t_brl (by first | assumption | exact up_same | exact (up_ne (by assumption)).trans (by assumption) | exact (up_ne (by assumption)).trans up_same | exact (up_ne (by assumption)).trans ((up_ne (by assumption)).trans (by assumption))) (fun hc => ?_) fun hc => ?_
  · repeat (first | with_reducible refine t_add ?_ | with_reducible refine t_sub ?_ | with_reducible refine t_lt ?_ | with_reducible refine t_le ?_ | with_reducible refine t_gt ?_ | with_reducible refine t_ge ?_ | with_reducible refine t_eqi ?_ | with_reducible refine t_nei ?_ | with_reducible refine t_int ?_ | with_reducible refine t_intb ?_ | with_reducible refine t_max2 ?_ | with_reducible refine t_min2 ?_ | with_reducible refine t_lent ?_ | with_reducible refine t_lens ?_ | with_reducible refine t_mts ?_ | with_reducible refine t_not ?_ | with_reducible refine t_slt ?_ | with_reducible refine t_revt ?_ | with_reducible refine t_tupc ?_ | with_reducible refine t_wkt ?_ | with_reducible refine t_wks ?_ | with_reducible refine t_ixl (by first | assumption | exact up_same | exact (up_ne (by assumption)).trans (by assumption) | exact (up_ne (by assumption)).trans up_same | exact (up_ne (by assumption)).trans ((up_ne (by assumption)).trans (by assumption))) (by with_unfolding_all rfl) ?_ | with_reducible refine t_ixt (by with_unfolding_all rfl) ?_ | with_reducible refine t_len (by first | assumption | exact up_same | exact (up_ne (by assumption)).trans (by assumption) | exact (up_ne (by assumption)).trans up_same | exact (up_ne (by assumption)).trans ((up_ne (by assumption)).trans (by assumption))) ?_ | with_reducible refine t_put (by first | assumption | exact up_same | exact (up_ne (by assumption)).trans (by assumption) | exact (up_ne (by assumption)).trans up_same | exact (up_ne (by assumption)).trans ((up_ne (by assumption)).trans (by assumption))) (by with_unfolding_all rfl) ?_ | with_reducible refine t_notl (by first | assumption | exact up_same | exact (up_ne (by assumption)).trans (by assumption) | exact (up_ne (by assumption)).trans up_same | exact (up_ne (by assumption)).trans ((up_ne (by assumption)).trans (by assumption))) ?_ | with_reducible refine t_mod (by decide) ?_ | with_reducible refine t_fdiv (by decide) ?_ | with_reducible refine t_pow (by decide) ?_ | with_reducible refine t_mulr (by decide) ?_ | with_reducible refine t_mull (by decide) ?_)
    refine t_br (fun hl => ?_) fun hl => ?_
    · refine c_cons ?_
      obtain ⟨w, hw⟩ := map_last (cs := cs) (by intro e; subst e; exact hc rfl)
      simp only [s_nil, s_expr, s_asg, s_put, s_par, s_aug, s_ret, s_retN, s_ifs, s_forr, s_brk, s_cont, s_pass, e_var, e_lit, e_gl, e_tup, e_lst, e_bin, e_neg, e_cmp, e_chain, e_isN, e_isB, e_and, e_or, e_not, e_ite, e_idx, e_slcL, e_slcU, e_slcB, e_rev, e_isi, e_call, e_bf, e_meth, e_comp, e_bfc, e_dcomp, e_lenset, e_nil, e_cons, g_nm, g_tup, g_nil, g_cons, sl_0, sl_s, List.set, setN, wipeD, List.map, Bool.not_true, Bool.not_false]
      repeat (first | with_reducible refine t_add ?_ | with_reducible refine t_sub ?_ | with_reducible refine t_lt ?_ | with_reducible refine t_le ?_ | with_reducible refine t_gt ?_ | with_reducible refine t_ge ?_ | with_reducible refine t_eqi ?_ | with_reducible refine t_nei ?_ | with_reducible refine t_int ?_ | with_reducible refine t_intb ?_ | with_reducible refine t_max2 ?_ | with_reducible refine t_min2 ?_ | with_reducible refine t_lent ?_ | with_reducible refine t_lens ?_ | with_reducible refine t_mts ?_ | with_reducible refine t_not ?_ | with_reducible refine t_slt ?_ | with_reducible refine t_revt ?_ | with_reducible refine t_tupc ?_ | with_reducible refine t_wkt ?_ | with_reducible refine t_wks ?_ | with_reducible refine t_ixl (by first | assumption | exact up_same | exact (up_ne (by assumption)).trans (by assumption) | exact (up_ne (by assumption)).trans up_same | exact (up_ne (by assumption)).trans ((up_ne (by assumption)).trans (by assumption))) (by with_unfolding_all rfl) ?_ | with_reducible refine t_ixt (by with_unfolding_all rfl) ?_ | with_reducible refine t_len (by first | assumption | exact up_same | exact (up_ne (by assumption)).trans (by assumption) | exact (up_ne (by assumption)).trans up_same | exact (up_ne (by assumption)).trans ((up_ne (by assumption)).trans (by assumption))) ?_ | with_reducible refine t_put (by first | assumption | exact up_same | exact (up_ne (by assumption)).trans (by assumption) | exact (up_ne (by assumption)).trans up_same | exact (up_ne (by assumption)).trans ((up_ne (by assumption)).trans (by assumption))) (by with_unfolding_all rfl) ?_ | with_reducible refine t_notl (by first | assumption | exact up_same | exact (up_ne (by assumption)).trans (by assumption) | exact (up_ne (by assumption)).trans up_same | exact (up_ne (by assumption)).trans ((up_ne (by assumption)).trans (by assumption))) ?_ | with_reducible refine t_mod (by decide) ?_ | with_reducible refine t_fdiv (by decide) ?_ | with_reducible refine t_pow (by decide) ?_ | with_reducible refine t_mulr (by decide) ?_ | with_reducible refine t_mull (by decide) ?_)
      refine t_ixl h2 hw ?_
      repeat (first | with_reducible refine t_add ?_ | with_reducible refine t_sub ?_ | with_reducible refine t_lt ?_ | with_reducible refine t_le ?_ | with_reducible refine t_gt ?_ | with_reducible refine t_ge ?_ | with_reducible refine t_eqi ?_ | with_reducible refine t_nei ?_ | with_reducible refine t_int ?_ | with_reducible refine t_intb ?_ | with_reducible refine t_max2 ?_ | with_reducible refine t_min2 ?_ | with_reducible refine t_lent ?_ | with_reducible refine t_lens ?_ | with_reducible refine t_mts ?_ | with_reducible refine t_not ?_ | with_reducible refine t_slt ?_ | with_reducible refine t_revt ?_ | with_reducible refine t_tupc ?_ | with_reducible refine t_wkt ?_ | with_reducible refine t_wks ?_ | with_reducible refine t_ixl (by first | assumption | exact up_same | exact (up_ne (by assumption)).trans (by assumption) | exact (up_ne (by assumption)).trans up_same | exact (up_ne (by assumption)).trans ((up_ne (by assumption)).trans (by assumption))) (by with_unfolding_all rfl) ?_ | with_reducible refine t_ixt (by with_unfolding_all rfl) ?_ | with_reducible refine t_len (by first | assumption | exact up_same | exact (up_ne (by assumption)).trans (by assumption) | exact (up_ne (by assumption)).trans up_same | exact (up_ne (by assumption)).trans ((up_ne (by assumption)).trans (by assumption))) ?_ | with_reducible refine t_put (by first | assumption | exact up_same | exact (up_ne (by assumption)).trans (by assumption) | exact (up_ne (by assumption)).trans up_same | exact (up_ne (by assumption)).trans ((up_ne (by assumption)).trans (by assumption))) (by with_unfolding_all rfl) ?_ | with_reducible refine t_notl (by first | assumption | exact up_same | exact (up_ne (by assumption)).trans (by assumption) | exact (up_ne (by assumption)).trans up_same | exact (up_ne (by assumption)).trans ((up_ne (by assumption)).trans (by assumption))) ?_ | with_reducible refine t_mod (by decide) ?_ | with_reducible refine t_fdiv (by decide) ?_ | with_reducible refine t_pow (by decide) ?_ | with_reducible refine t_mulr (by decide) ?_ | with_reducible refine t_mull (by decide) ?_)
      exact tail _
    · exact tail _
  · refine t_brl (by first | assumption | exact up_same | exact (up_ne (by assumption)).trans (by assumption) | exact (up_ne (by assumption)).trans up_same | exact (up_ne (by assumption)).trans ((up_ne (by assumption)).trans (by assumption))) (fun hc2 => absurd hc hc2) fun _ => ?_
    exact tail _
theorem p_fill {ds : List D} {S : SH} {Q : KD} {x : XW} (h : spFill ds S Q x) : wpB Γ G 2 fillBody ds S Q x := by
  obtain ⟨a, b, cs, p, d, k, e, rfl, ok, q⟩ := h
  have hne := ok.ne
  have h1 := ok.c
  have h2 := ok.s
  have h3 := ok.p0
  unfold wpB
  change wpSs Γ G _ x _ [some (.ref a), none] S
  refine c_cons ?_
  simp only [s_nil, s_expr, s_asg, s_put, s_par, s_aug, s_ret, s_retN, s_ifs, s_forr, s_brk, s_cont, s_pass, e_var, e_lit, e_gl, e_tup, e_lst, e_bin, e_neg, e_cmp, e_chain, e_isN, e_isB, e_and, e_or, e_not, e_ite, e_idx, e_slcL, e_slcU, e_slcB, e_rev, e_isi, e_call, e_bf, e_meth, e_comp, e_bfc, e_dcomp, e_lenset, e_nil, e_cons, g_nm, g_tup, g_nil, g_cons, sl_0, sl_s, List.set, setN, wipeD, List.map, Bool.not_true, Bool.not_false]
  repeat (first | with_reducible refine t_add ?_ | with_reducible refine t_sub ?_ | with_reducible refine t_lt ?_ | with_reducible refine t_le ?_ | with_reducible refine t_gt ?_ | with_reducible refine t_ge ?_ | with_reducible refine t_eqi ?_ | with_reducible refine t_nei ?_ | with_reducible refine t_int ?_ | with_reducible refine t_intb ?_ | with_reducible refine t_max2 ?_ | with_reducible refine t_min2 ?_ | with_reducible refine t_lent ?_ | with_reducible refine t_lens ?_ | with_reducible refine t_mts ?_ | with_reducible refine t_not ?_ | with_reducible refine t_slt ?_ | with_reducible refine t_revt ?_ | with_reducible refine t_tupc ?_ | with_reducible refine t_wkt ?_ | with_reducible refine t_wks ?_ | with_reducible refine t_ixl (by first | assumption | exact up_same | exact (up_ne (by assumption)).trans (by assumption) | exact (up_ne (by assumption)).trans up_same | exact (up_ne (by assumption)).trans ((up_ne (by assumption)).trans (by assumption))) (by with_unfolding_all rfl) ?_ | with_reducible refine t_ixt (by with_unfolding_all rfl) ?_ | with_reducible refine t_len (by first | assumption | exact up_same | exact (up_ne (by assumption)).trans (by assumption) | exact (up_ne (by assumption)).trans up_same | exact (up_ne (by assumption)).trans ((up_ne (by assumption)).trans (by assumption))) ?_ | with_reducible refine t_put (by first | assumption | exact up_same | exact (up_ne (by assumption)).trans (by assumption) | exact (up_ne (by assumption)).trans up_same | exact (up_ne (by assumption)).trans ((up_ne (by assumption)).trans (by assumption))) (by with_unfolding_all rfl) ?_ | with_reducible refine t_notl (by first | assumption | exact up_same | exact (up_ne (by assumption)).trans (by assumption) | exact (up_ne (by assumption)).trans up_same | exact (up_ne (by assumption)).trans ((up_ne (by assumption)).trans (by assumption))) ?_ | with_reducible refine t_mod (by decide) ?_ | with_reducible refine t_fdiv (by decide) ?_ | with_reducible refine t_pow (by decide) ?_ | with_reducible refine t_mulr (by decide) ?_ | with_reducible refine t_mull (by decide) ?_)
  refine c_cons ?_
  simp only [s_nil, s_expr, s_asg, s_put, s_par, s_aug, s_ret, s_retN, s_ifs, s_forr, s_brk, s_cont, s_pass, e_var, e_lit, e_gl, e_tup, e_lst, e_bin, e_neg, e_cmp, e_chain, e_isN, e_isB, e_and, e_or, e_not, e_ite, e_idx, e_slcL, e_slcU, e_slcB, e_rev, e_isi, e_call, e_bf, e_meth, e_comp, e_bfc, e_dcomp, e_lenset, e_nil, e_cons, g_nm, g_tup, g_nil, g_cons, sl_0, sl_s, List.set, setN, wipeD, List.map, Bool.not_true, Bool.not_false]
  repeat (first | with_reducible refine t_add ?_ | with_reducible refine t_sub ?_ | with_reducible refine t_lt ?_ | with_reducible refine t_le ?_ | with_reducible refine t_gt ?_ | with_reducible refine t_ge ?_ | with_reducible refine t_eqi ?_ | with_reducible refine t_nei ?_ | with_reducible refine t_int ?_ | with_reducible refine t_intb ?_ | with_reducible refine t_max2 ?_ | with_reducible refine t_min2 ?_ | with_reducible refine t_lent ?_ | with_reducible refine t_lens ?_ | with_reducible refine t_mts ?_ | with_reducible refine t_not ?_ | with_reducible refine t_slt ?_ | with_reducible refine t_revt ?_ | with_reducible refine t_tupc ?_ | with_reducible refine t_wkt ?_ | with_reducible refine t_wks ?_ | with_reducible refine t_ixl (by first | assumption | exact up_same | exact (up_ne (by assumption)).trans (by assumption) | exact (up_ne (by assumption)).trans up_same | exact (up_ne (by assumption)).trans ((up_ne (by assumption)).trans (by assumption))) (by with_unfolding_all rfl) ?_ | with_reducible refine t_ixt (by with_unfolding_all rfl) ?_ | with_reducible refine t_len (by first | assumption | exact up_same | exact (up_ne (by assumption)).trans (by assumption) | exact (up_ne (by assumption)).trans up_same | exact (up_ne (by assumption)).trans ((up_ne (by assumption)).trans (by assumption))) ?_ | with_reducible refine t_put (by first | assumption | exact up_same | exact (up_ne (by assumption)).trans (by assumption) | exact (up_ne (by assumption)).trans up_same | exact (up_ne (by assumption)).trans ((up_ne (by assumption)).trans (by assumption))) (by with_unfolding_all rfl) ?_ | with_reducible refine t_notl (by first | assumption | exact up_same | exact (up_ne (by assumption)).trans (by assumption) | exact (up_ne (by assumption)).trans up_same | exact (up_ne (by assumption)).trans ((up_ne (by assumption)).trans (by assumption))) ?_ | with_reducible refine t_mod (by decide) ?_ | with_reducible refine t_fdiv (by decide) ?_ | with_reducible refine t_pow (by decide) ?_ | with_reducible refine t_mulr (by decide) ?_ | with_reducible refine t_mull (by decide) ?_)
  refine c_cons ?_
  simp only [s_nil, s_expr, s_asg, s_put, s_par, s_aug, s_ret, s_retN, s_ifs, s_forr, s_brk, s_cont, s_pass, e_var, e_lit, e_gl, e_tup, e_lst, e_bin, e_neg, e_cmp, e_chain, e_isN, e_isB, e_and, e_or, e_not, e_ite, e_idx, e_slcL, e_slcU, e_slcB, e_rev, e_isi, e_call, e_bf, e_meth, e_comp, e_bfc, e_dcomp, e_lenset, e_nil, e_cons, g_nm, g_tup, g_nil, g_cons, sl_0, sl_s, List.set, setN, wipeD, List.map, Bool.not_true, Bool.not_false]
  repeat (first | with_reducible refine t_add ?_ | with_reducible refine t_sub ?_ | with_reducible refine t_lt ?_ | with_reducible refine t_le ?_ | with_reducible refine t_gt ?_ | with_reducible refine t_ge ?_ | with_reducible refine t_eqi ?_ | with_reducible refine t_nei ?_ | with_reducible refine t_int ?_ | with_reducible refine t_intb ?_ | with_reducible refine t_max2 ?_ | with_reducible refine t_min2 ?_ | with_reducible refine t_lent ?_ | with_reducible refine t_lens ?_ | with_reducible refine t_mts ?_ | with_reducible refine t_not ?_ | with_reducible refine t_slt ?_ | with_reducible refine t_revt ?_ | with_reducible refine t_tupc ?_ | with_reducible refine t_wkt ?_ | with_reducible refine t_wks ?_ | with_reducible refine t_ixl (by first | assumption | exact up_same | exact (up_ne (by assumption)).trans (by assumption) | exact (up_ne (by assumption)).trans up_same | exact (up_ne (by assumption)).trans ((up_ne (by assumption)).trans (by assumption))) (by with_unfolding_all rfl) ?_ | with_reducible refine t_ixt (by with_unfolding_all rfl) ?_ | with_reducible refine t_len (by first | assumption | exact up_same | exact (up_ne (by assumption)).trans (by assumption) | exact (up_ne (by assumption)).trans up_same | exact (up_ne (by assumption)).trans ((up_ne (by assumption)).trans (by assumption))) ?_ | with_reducible refine t_put (by first | assumption | exact up_same | exact (up_ne (by assumption)).trans (by assumption) | exact (up_ne (by assumption)).trans up_same | exact (up_ne (by assumption)).trans ((up_ne (by assumption)).trans (by assumption))) (by with_unfolding_all rfl) ?_ | with_reducible refine t_notl (by first | assumption | exact up_same | exact (up_ne (by assumption)).trans (by assumption) | exact (up_ne (by assumption)).trans up_same | exact (up_ne (by assumption)).trans ((up_ne (by assumption)).trans (by assumption))) ?_ | with_reducible refine t_mod (by decide) ?_ | with_reducible refine t_fdiv (by decide) ?_ | with_reducible refine t_pow (by decide) ?_ | with_reducible refine t_mulr (by decide) ?_ | with_reducible refine t_mull (by decide) ?_)
  refine t_br (fun hl => ?_) fun hl => ?_
  · have hl' : p < cs.length := by simpa using hl
    obtain ⟨w, hw⟩ := map_at h3 hl'
    refine c_cons ?_
    simp only [s_nil, s_expr, s_asg, s_put, s_par, s_aug, s_ret, s_retN, s_ifs, s_forr, s_brk, s_cont, s_pass, e_var, e_lit, e_gl, e_tup, e_lst, e_bin, e_neg, e_cmp, e_chain, e_isN, e_isB, e_and, e_or, e_not, e_ite, e_idx, e_slcL, e_slcU, e_slcB, e_rev, e_isi, e_call, e_bf, e_meth, e_comp, e_bfc, e_dcomp, e_lenset, e_nil, e_cons, g_nm, g_tup, g_nil, g_cons, sl_0, sl_s, List.set, setN, wipeD, List.map, Bool.not_true, Bool.not_false]
    repeat (first | with_reducible refine t_add ?_ | with_reducible refine t_sub ?_ | with_reducible refine t_lt ?_ | with_reducible refine t_le ?_ | with_reducible refine t_gt ?_ | with_reducible refine t_ge ?_ | with_reducible refine t_eqi ?_ | with_reducible refine t_nei ?_ | with_reducible refine t_int ?_ | with_reducible refine t_intb ?_ | with_reducible refine t_max2 ?_ | with_reducible refine t_min2 ?_ | with_reducible refine t_lent ?_ | with_reducible refine t_lens ?_ | with_reducible refine t_mts ?_ | with_reducible refine t_not ?_ | with_reducible refine t_slt ?_ | with_reducible refine t_revt ?_ | with_reducible refine t_tupc ?_ | with_reducible refine t_wkt ?_ | with_reducible refine t_wks ?_ | with_reducible refine t_ixl (by first | assumption | exact up_same | exact (up_ne (by assumption)).trans (by assumption) | exact (up_ne (by assumption)).trans up_same | exact (up_ne (by assumption)).trans ((up_ne (by assumption)).trans (by assumption))) (by with_unfolding_all rfl) ?_ | with_reducible refine t_ixt (by with_unfolding_all rfl) ?_ | with_reducible refine t_len (by first | assumption | exact up_same | exact (up_ne (by assumption)).trans (by assumption) | exact (up_ne (by assumption)).trans up_same | exact (up_ne (by assumption)).trans ((up_ne (by assumption)).trans (by assumption))) ?_ | with_reducible refine t_put (by first | assumption | exact up_same | exact (up_ne (by assumption)).trans (by assumption) | exact (up_ne (by assumption)).trans up_same | exact (up_ne (by assumption)).trans ((up_ne (by assumption)).trans (by assumption))) (by with_unfolding_all rfl) ?_ | with_reducible refine t_notl (by first | assumption | exact up_same | exact (up_ne (by assumption)).trans (by assumption) | exact (up_ne (by assumption)).trans up_same | exact (up_ne (by assumption)).trans ((up_ne (by assumption)).trans (by assumption))) ?_ | with_reducible refine t_mod (by decide) ?_ | with_reducible refine t_fdiv (by decide) ?_ | with_reducible refine t_pow (by decide) ?_ | with_reducible refine t_mulr (by decide) ?_ | with_reducible refine t_mull (by decide) ?_)
    refine t_ixl (by first | assumption | exact up_same | exact (up_ne (by assumption)).trans (by assumption) | exact (up_ne (by assumption)).trans up_same | exact (up_ne (by assumption)).trans ((up_ne (by assumption)).trans (by assumption))) hw ?_
    repeat (first | with_reducible refine t_add ?_ | with_reducible refine t_sub ?_ | with_reducible refine t_lt ?_ | with_reducible refine t_le ?_ | with_reducible refine t_gt ?_ | with_reducible refine t_ge ?_ | with_reducible refine t_eqi ?_ | with_reducible refine t_nei ?_ | with_reducible refine t_int ?_ | with_reducible refine t_intb ?_ | with_reducible refine t_max2 ?_ | with_reducible refine t_min2 ?_ | with_reducible refine t_lent ?_ | with_reducible refine t_lens ?_ | with_reducible refine t_mts ?_ | with_reducible refine t_not ?_ | with_reducible refine t_slt ?_ | with_reducible refine t_revt ?_ | with_reducible refine t_tupc ?_ | with_reducible refine t_wkt ?_ | with_reducible refine t_wks ?_ | with_reducible refine t_ixl (by first | assumption | exact up_same | exact (up_ne (by assumption)).trans (by assumption) | exact (up_ne (by assumption)).trans up_same | exact (up_ne (by assumption)).trans ((up_ne (by assumption)).trans (by assumption))) (by with_unfolding_all rfl) ?_ | with_reducible refine t_ixt (by with_unfolding_all rfl) ?_ | with_reducible refine t_len (by first | assumption | exact up_same | exact (up_ne (by assumption)).trans (by assumption) | exact (up_ne (by assumption)).trans up_same | exact (up_ne (by assumption)).trans ((up_ne (by assumption)).trans (by assumption))) ?_ | with_reducible refine t_put (by first | assumption | exact up_same | exact (up_ne (by assumption)).trans (by assumption) | exact (up_ne (by assumption)).trans up_same | exact (up_ne (by assumption)).trans ((up_ne (by assumption)).trans (by assumption))) (by with_unfolding_all rfl) ?_ | with_reducible refine t_notl (by first | assumption | exact up_same | exact (up_ne (by assumption)).trans (by assumption) | exact (up_ne (by assumption)).trans up_same | exact (up_ne (by assumption)).trans ((up_ne (by assumption)).trans (by assumption))) ?_ | with_reducible refine t_mod (by decide) ?_ | with_reducible refine t_fdiv (by decide) ?_ | with_reducible refine t_pow (by decide) ?_ | with_reducible refine t_mulr (by decide) ?_ | with_reducible refine t_mull (by decide) ?_)
    refine t_ixl (by first | assumption | exact up_same | exact (up_ne (by assumption)).trans (by assumption) | exact (up_ne (by assumption)).trans up_same | exact (up_ne (by assumption)).trans ((up_ne (by assumption)).trans (by assumption))) hw ?_
    repeat (first | with_reducible refine t_add ?_ | with_reducible refine t_sub ?_ | with_reducible refine t_lt ?_ | with_reducible refine t_le ?_ | with_reducible refine t_gt ?_ | with_reducible refine t_ge ?_ | with_reducible refine t_eqi ?_ | with_reducible refine t_nei ?_ | with_reducible refine t_int ?_ | with_reducible refine t_intb ?_ | with_reducible refine t_max2 ?_ | with_reducible refine t_min2 ?_ | with_reducible refine t_lent ?_ | with_reducible refine t_lens ?_ | with_reducible refine t_mts ?_ | with_reducible refine t_not ?_ | with_reducible refine t_slt ?_ | with_reducible refine t_revt ?_ | with_reducible refine t_tupc ?_ | with_reducible refine t_wkt ?_ | with_reducible refine t_wks ?_ | with_reducible refine t_ixl (by first | assumption | exact up_same | exact (up_ne (by assumption)).trans (by assumption) | exact (up_ne (by assumption)).trans up_same | exact (up_ne (by assumption)).trans ((up_ne (by assumption)).trans (by assumption))) (by with_unfolding_all rfl) ?_ | with_reducible refine t_ixt (by with_unfolding_all rfl) ?_ | with_reducible refine t_len (by first | assumption | exact up_same | exact (up_ne (by assumption)).trans (by assumption) | exact (up_ne (by assumption)).trans up_same | exact (up_ne (by assumption)).trans ((up_ne (by assumption)).trans (by assumption))) ?_ | with_reducible refine t_put (by first | assumption | exact up_same | exact (up_ne (by assumption)).trans (by assumption) | exact (up_ne (by assumption)).trans up_same | exact (up_ne (by assumption)).trans ((up_ne (by assumption)).trans (by assumption))) (by with_unfolding_all rfl) ?_ | with_reducible refine t_notl (by first | assumption | exact up_same | exact (up_ne (by assumption)).trans (by assumption) | exact (up_ne (by assumption)).trans up_same | exact (up_ne (by assumption)).trans ((up_ne (by assumption)).trans (by assumption))) ?_ | with_reducible refine t_mod (by decide) ?_ | with_reducible refine t_fdiv (by decide) ?_ | with_reducible refine t_pow (by decide) ?_ | with_reducible refine t_mulr (by decide) ?_ | with_reducible refine t_mull (by decide) ?_)
    refine c_cons ?_
    simp only [s_nil, s_expr, s_asg, s_put, s_par, s_aug, s_ret, s_retN, s_ifs, s_forr, s_brk, s_cont, s_pass, e_var, e_lit, e_gl, e_tup, e_lst, e_bin, e_neg, e_cmp, e_chain, e_isN, e_isB, e_and, e_or, e_not, e_ite, e_idx, e_slcL, e_slcU, e_slcB, e_rev, e_isi, e_call, e_bf, e_meth, e_comp, e_bfc, e_dcomp, e_lenset, e_nil, e_cons, g_nm, g_tup, g_nil, g_cons, sl_0, sl_s, List.set, setN, wipeD, List.map, Bool.not_true, Bool.not_false]
    repeat (first | with_reducible refine t_add ?_ | with_reducible refine t_sub ?_ | with_reducible refine t_lt ?_ | with_reducible refine t_le ?_ | with_reducible refine t_gt ?_ | with_reducible refine t_ge ?_ | with_reducible refine t_eqi ?_ | with_reducible refine t_nei ?_ | with_reducible refine t_int ?_ | with_reducible refine t_intb ?_ | with_reducible refine t_max2 ?_ | with_reducible refine t_min2 ?_ | with_reducible refine t_lent ?_ | with_reducible refine t_lens ?_ | with_reducible refine t_mts ?_ | with_reducible refine t_not ?_ | with_reducible refine t_slt ?_ | with_reducible refine t_revt ?_ | with_reducible refine t_tupc ?_ | with_reducible refine t_wkt ?_ | with_reducible refine t_wks ?_ | with_reducible refine t_ixl (by first | assumption | exact up_same | exact (up_ne (by assumption)).trans (by assumption) | exact (up_ne (by assumption)).trans up_same | exact (up_ne (by assumption)).trans ((up_ne (by assumption)).trans (by assumption))) (by with_unfolding_all rfl) ?_ | with_reducible refine t_ixt (by with_unfolding_all rfl) ?_ | with_reducible refine t_len (by first | assumption | exact up_same | exact (up_ne (by assumption)).trans (by assumption) | exact (up_ne (by assumption)).trans up_same | exact (up_ne (by assumption)).trans ((up_ne (by assumption)).trans (by assumption))) ?_ | with_reducible refine t_put (by first | assumption | exact up_same | exact (up_ne (by assumption)).trans (by assumption) | exact (up_ne (by assumption)).trans up_same | exact (up_ne (by assumption)).trans ((up_ne (by assumption)).trans (by assumption))) (by with_unfolding_all rfl) ?_ | with_reducible refine t_notl (by first | assumption | exact up_same | exact (up_ne (by assumption)).trans (by assumption) | exact (up_ne (by assumption)).trans up_same | exact (up_ne (by assumption)).trans ((up_ne (by assumption)).trans (by assumption))) ?_ | with_reducible refine t_mod (by decide) ?_ | with_reducible refine t_fdiv (by decide) ?_ | with_reducible refine t_pow (by decide) ?_ | with_reducible refine t_mulr (by decide) ?_ | with_reducible refine t_mull (by decide) ?_)
    refine c_cons ?_
    simp only [s_nil, s_expr, s_asg, s_put, s_par, s_aug, s_ret, s_retN, s_ifs, s_forr, s_brk, s_cont, s_pass, e_var, e_lit, e_gl, e_tup, e_lst, e_bin, e_neg, e_cmp, e_chain, e_isN, e_isB, e_and, e_or, e_not, e_ite, e_idx, e_slcL, e_slcU, e_slcB, e_rev, e_isi, e_call, e_bf, e_meth, e_comp, e_bfc, e_dcomp, e_lenset, e_nil, e_cons, g_nm, g_tup, g_nil, g_cons, sl_0, sl_s, List.set, setN, wipeD, List.map, Bool.not_true, Bool.not_false]
    repeat (first | with_reducible refine t_add ?_ | with_reducible refine t_sub ?_ | with_reducible refine t_lt ?_ | with_reducible refine t_le ?_ | with_reducible refine t_gt ?_ | with_reducible refine t_ge ?_ | with_reducible refine t_eqi ?_ | with_reducible refine t_nei ?_ | with_reducible refine t_int ?_ | with_reducible refine t_intb ?_ | with_reducible refine t_max2 ?_ | with_reducible refine t_min2 ?_ | with_reducible refine t_lent ?_ | with_reducible refine t_lens ?_ | with_reducible refine t_mts ?_ | with_reducible refine t_not ?_ | with_reducible refine t_slt ?_ | with_reducible refine t_revt ?_ | with_reducible refine t_tupc ?_ | with_reducible refine t_wkt ?_ | with_reducible refine t_wks ?_ | with_reducible refine t_ixl (by first | assumption | exact up_same | exact (up_ne (by assumption)).trans (by assumption) | exact (up_ne (by assumption)).trans up_same | exact (up_ne (by assumption)).trans ((up_ne (by assumption)).trans (by assumption))) (by with_unfolding_all rfl) ?_ | with_reducible refine t_ixt (by with_unfolding_all rfl) ?_ | with_reducible refine t_len (by first | assumption | exact up_same | exact (up_ne (by assumption)).trans (by assumption) | exact (up_ne (by assumption)).trans up_same | exact (up_ne (by assumption)).trans ((up_ne (by assumption)).trans (by assumption))) ?_ | with_reducible refine t_put (by first | assumption | exact up_same | exact (up_ne (by assumption)).trans (by assumption) | exact (up_ne (by assumption)).trans up_same | exact (up_ne (by assumption)).trans ((up_ne (by assumption)).trans (by assumption))) (by with_unfolding_all rfl) ?_ | with_reducible refine t_notl (by first | assumption | exact up_same | exact (up_ne (by assumption)).trans (by assumption) | exact (up_ne (by assumption)).trans up_same | exact (up_ne (by assumption)).trans ((up_ne (by assumption)).trans (by assumption))) ?_ | with_reducible refine t_mod (by decide) ?_ | with_reducible refine t_fdiv (by decide) ?_ | with_reducible refine t_pow (by decide) ?_ | with_reducible refine t_mulr (by decide) ?_ | with_reducible refine t_mull (by decide) ?_)
    refine t_br (fun hg => ?_) fun hg => ?_
    · refine c_cons ?_
      simp only [s_nil, s_expr, s_asg, s_put, s_par, s_aug, s_ret, s_retN, s_ifs, s_forr, s_brk, s_cont, s_pass, e_var, e_lit, e_gl, e_tup, e_lst, e_bin, e_neg, e_cmp, e_chain, e_isN, e_isB, e_and, e_or, e_not, e_ite, e_idx, e_slcL, e_slcU, e_slcB, e_rev, e_isi, e_call, e_bf, e_meth, e_comp, e_bfc, e_dcomp, e_lenset, e_nil, e_cons, g_nm, g_tup, g_nil, g_cons, sl_0, sl_s, List.set, setN, wipeD, List.map, Bool.not_true, Bool.not_false]
      refine ret_same ?_
      rw [up_up]
      exact q _ _ _ (by omega)
    · refine p_fill2 (b := b) (cs := cs) (e := e) (d := d) up_same (by rw [up_ne hne, up_ne hne]; exact h2) (p := p + 1) (by omega) hne fun r p' k' h0 => ?_
      rw [up_up, up_up]
      exact q r p' k' h0
  · refine p_fill2 (b := b) (cs := cs) (e := e) (d := d) up_same (by rw [up_ne hne]; exact h2) h3 hne fun r p' k' h0 => ?_
    rw [up_up]
    exact q r p' k' h0
/-- _law_take(c, many): a digit below many -/
def spTake : DSp := fun ds S Q _ => ∃ a b cs p d k e many, ds = [.ref a, .int many] ∧ CurOk S a b cs p d k e ∧ 0 < many ∧ many < 1073741824 ∧ ∀ r p' d' k', 0 ≤ r → r < many → 0 ≤ p' → Q (.int r) (up S a (cu b p' d' k' e))
def takeBody (fill : φ) : List (St φ) := [
  .ifs (.cmp .lt (.idx (.var 0) (.lit (.int 2))) (.var 1)) [.put (.var 0) (.lit (.int 2)) (.call fill [.var 0])] [],
  .asg (.nm 2) (.bin .mod (.bf .int [.idx (.var 0) (.lit (.int 2))]) (.var 1)),
  .put (.var 0) (.lit (.int 2)) (.bin .fdiv (.idx (.var 0) (.lit (.int 2))) (.var 1)),
  .ret (.var 2)]
theorem p_take {fill : φ} {ds : List D} {S : SH} {Q : KD} {x : XW} (hf : ∀ ds S Q x, spFill ds S Q x → Γ fill ds S Q x) (h : spTake ds S Q x) : wpB Γ G 3 (takeBody fill) ds S Q x := by
  obtain ⟨a, b, cs, p, d, k, e, many, rfl, ok, m0, m1, q⟩ := h
  have rest : ∀ (S1 : SH) (p d k : Int) (De : DEnds), CurOk S1 a b cs p d k e → De.rt = (fun d S' => ∃ S'', Sub S'' S' ∧ Q d S'') → (∀ o, up S1 a o = up S a o) → wpSs Γ G ((takeBody fill).drop 1) x De [some (.ref a), some (.int many), none] S1 := fun S1 p d k De ok1 hrt hS => by
    have h1 := ok1.c
    refine c_cons ?_
    simp only [s_nil, s_expr, s_asg, s_put, s_par, s_aug, s_ret, s_retN, s_ifs, s_forr, s_brk, s_cont, s_pass, e_var, e_lit, e_gl, e_tup, e_lst, e_bin, e_neg, e_cmp, e_chain, e_isN, e_isB, e_and, e_or, e_not, e_ite, e_idx, e_slcL, e_slcU, e_slcB, e_rev, e_isi, e_call, e_bf, e_meth, e_comp, e_bfc, e_dcomp, e_lenset, e_nil, e_cons, g_nm, g_tup, g_nil, g_cons, sl_0, sl_s, List.set, setN, wipeD, List.map, Bool.not_true, Bool.not_false]
    repeat (first | with_reducible refine t_add ?_ | with_reducible refine t_sub ?_ | with_reducible refine t_lt ?_ | with_reducible refine t_le ?_ | with_reducible refine t_gt ?_ | with_reducible refine t_ge ?_ | with_reducible refine t_eqi ?_ | with_reducible refine t_nei ?_ | with_reducible refine t_int ?_ | with_reducible refine t_intb ?_ | with_reducible refine t_max2 ?_ | with_reducible refine t_min2 ?_ | with_reducible refine t_lent ?_ | with_reducible refine t_lens ?_ | with_reducible refine t_mts ?_ | with_reducible refine t_not ?_ | with_reducible refine t_slt ?_ | with_reducible refine t_revt ?_ | with_reducible refine t_tupc ?_ | with_reducible refine t_wkt ?_ | with_reducible refine t_wks ?_ | with_reducible refine t_ixl (by first | assumption | exact up_same | exact (up_ne (by assumption)).trans (by assumption) | exact (up_ne (by assumption)).trans up_same | exact (up_ne (by assumption)).trans ((up_ne (by assumption)).trans (by assumption))) (by with_unfolding_all rfl) ?_ | with_reducible refine t_ixt (by with_unfolding_all rfl) ?_ | with_reducible refine t_len (by first | assumption | exact up_same | exact (up_ne (by assumption)).trans (by assumption) | exact (up_ne (by assumption)).trans up_same | exact (up_ne (by assumption)).trans ((up_ne (by assumption)).trans (by assumption))) ?_ | with_reducible refine t_put (by first | assumption | exact up_same | exact (up_ne (by assumption)).trans (by assumption) | exact (up_ne (by assumption)).trans up_same | exact (up_ne (by assumption)).trans ((up_ne (by assumption)).trans (by assumption))) (by with_unfolding_all rfl) ?_ | with_reducible refine t_notl (by first | assumption | exact up_same | exact (up_ne (by assumption)).trans (by assumption) | exact (up_ne (by assumption)).trans up_same | exact (up_ne (by assumption)).trans ((up_ne (by assumption)).trans (by assumption))) ?_ | with_reducible refine t_mod (by decide) ?_ | with_reducible refine t_fdiv (by decide) ?_ | with_reducible refine t_pow (by decide) ?_ | with_reducible refine t_mulr (by decide) ?_ | with_reducible refine t_mull (by decide) ?_)
    refine t_mod m0 ?_
    refine c_cons ?_
    simp only [s_nil, s_expr, s_asg, s_put, s_par, s_aug, s_ret, s_retN, s_ifs, s_forr, s_brk, s_cont, s_pass, e_var, e_lit, e_gl, e_tup, e_lst, e_bin, e_neg, e_cmp, e_chain, e_isN, e_isB, e_and, e_or, e_not, e_ite, e_idx, e_slcL, e_slcU, e_slcB, e_rev, e_isi, e_call, e_bf, e_meth, e_comp, e_bfc, e_dcomp, e_lenset, e_nil, e_cons, g_nm, g_tup, g_nil, g_cons, sl_0, sl_s, List.set, setN, wipeD, List.map, Bool.not_true, Bool.not_false]
    repeat (first | with_reducible refine t_add ?_ | with_reducible refine t_sub ?_ | with_reducible refine t_lt ?_ | with_reducible refine t_le ?_ | with_reducible refine t_gt ?_ | with_reducible refine t_ge ?_ | with_reducible refine t_eqi ?_ | with_reducible refine t_nei ?_ | with_reducible refine t_int ?_ | with_reducible refine t_intb ?_ | with_reducible refine t_max2 ?_ | with_reducible refine t_min2 ?_ | with_reducible refine t_lent ?_ | with_reducible refine t_lens ?_ | with_reducible refine t_mts ?_ | with_reducible refine t_not ?_ | with_reducible refine t_slt ?_ | with_reducible refine t_revt ?_ | with_reducible refine t_tupc ?_ | with_reducible refine t_wkt ?_ | with_reducible refine t_wks ?_ | with_reducible refine t_ixl (by first | assumption | exact up_same | exact (up_ne (by assumption)).trans (by assumption) | exact (up_ne (by assumption)).trans up_same | exact (up_ne (by assumption)).trans ((up_ne (by assumption)).trans (by assumption))) (by with_unfolding_all rfl) ?_ | with_reducible refine t_ixt (by with_unfolding_all rfl) ?_ | with_reducible refine t_len (by first | assumption | exact up_same | exact (up_ne (by assumption)).trans (by assumption) | exact (up_ne (by assumption)).trans up_same | exact (up_ne (by assumption)).trans ((up_ne (by assumption)).trans (by assumption))) ?_ | with_reducible refine t_put (by first | assumption | exact up_same | exact (up_ne (by assumption)).trans (by assumption) | exact (up_ne (by assumption)).trans up_same | exact (up_ne (by assumption)).trans ((up_ne (by assumption)).trans (by assumption))) (by with_unfolding_all rfl) ?_ | with_reducible refine t_notl (by first | assumption | exact up_same | exact (up_ne (by assumption)).trans (by assumption) | exact (up_ne (by assumption)).trans up_same | exact (up_ne (by assumption)).trans ((up_ne (by assumption)).trans (by assumption))) ?_ | with_reducible refine t_mod (by decide) ?_ | with_reducible refine t_fdiv (by decide) ?_ | with_reducible refine t_pow (by decide) ?_ | with_reducible refine t_mulr (by decide) ?_ | with_reducible refine t_mull (by decide) ?_)
    refine t_fdiv ⟨m0, m1⟩ ?_
    repeat (first | with_reducible refine t_add ?_ | with_reducible refine t_sub ?_ | with_reducible refine t_lt ?_ | with_reducible refine t_le ?_ | with_reducible refine t_gt ?_ | with_reducible refine t_ge ?_ | with_reducible refine t_eqi ?_ | with_reducible refine t_nei ?_ | with_reducible refine t_int ?_ | with_reducible refine t_intb ?_ | with_reducible refine t_max2 ?_ | with_reducible refine t_min2 ?_ | with_reducible refine t_lent ?_ | with_reducible refine t_lens ?_ | with_reducible refine t_mts ?_ | with_reducible refine t_not ?_ | with_reducible refine t_slt ?_ | with_reducible refine t_revt ?_ | with_reducible refine t_tupc ?_ | with_reducible refine t_wkt ?_ | with_reducible refine t_wks ?_ | with_reducible refine t_ixl (by first | assumption | exact up_same | exact (up_ne (by assumption)).trans (by assumption) | exact (up_ne (by assumption)).trans up_same | exact (up_ne (by assumption)).trans ((up_ne (by assumption)).trans (by assumption))) (by with_unfolding_all rfl) ?_ | with_reducible refine t_ixt (by with_unfolding_all rfl) ?_ | with_reducible refine t_len (by first | assumption | exact up_same | exact (up_ne (by assumption)).trans (by assumption) | exact (up_ne (by assumption)).trans up_same | exact (up_ne (by assumption)).trans ((up_ne (by assumption)).trans (by assumption))) ?_ | with_reducible refine t_put (by first | assumption | exact up_same | exact (up_ne (by assumption)).trans (by assumption) | exact (up_ne (by assumption)).trans up_same | exact (up_ne (by assumption)).trans ((up_ne (by assumption)).trans (by assumption))) (by with_unfolding_all rfl) ?_ | with_reducible refine t_notl (by first | assumption | exact up_same | exact (up_ne (by assumption)).trans (by assumption) | exact (up_ne (by assumption)).trans up_same | exact (up_ne (by assumption)).trans ((up_ne (by assumption)).trans (by assumption))) ?_ | with_reducible refine t_mod (by decide) ?_ | with_reducible refine t_fdiv (by decide) ?_ | with_reducible refine t_pow (by decide) ?_ | with_reducible refine t_mulr (by decide) ?_ | with_reducible refine t_mull (by decide) ?_)
    refine c_cons ?_
    simp only [s_nil, s_expr, s_asg, s_put, s_par, s_aug, s_ret, s_retN, s_ifs, s_forr, s_brk, s_cont, s_pass, e_var, e_lit, e_gl, e_tup, e_lst, e_bin, e_neg, e_cmp, e_chain, e_isN, e_isB, e_and, e_or, e_not, e_ite, e_idx, e_slcL, e_slcU, e_slcB, e_rev, e_isi, e_call, e_bf, e_meth, e_comp, e_bfc, e_dcomp, e_lenset, e_nil, e_cons, g_nm, g_tup, g_nil, g_cons, sl_0, sl_s, List.set, setN, wipeD, List.map, Bool.not_true, Bool.not_false]
    rw [hrt]
    refine ret_same ?_
    rw [hS]
    exact q _ _ _ _ (Int.emod_nonneg _ (by omega)) (Int.emod_lt_of_pos _ m0) ok1.p0
  have h1 := ok.c
  unfold wpB
  change wpSs Γ G _ x _ [some (.ref a), some (.int many), none] S
  refine c_cons ?_
  simp only [s_nil, s_expr, s_asg, s_put, s_par, s_aug, s_ret, s_retN, s_ifs, s_forr, s_brk, s_cont, s_pass, e_var, e_lit, e_gl, e_tup, e_lst, e_bin, e_neg, e_cmp, e_chain, e_isN, e_isB, e_and, e_or, e_not, e_ite, e_idx, e_slcL, e_slcU, e_slcB, e_rev, e_isi, e_call, e_bf, e_meth, e_comp, e_bfc, e_dcomp, e_lenset, e_nil, e_cons, g_nm, g_tup, g_nil, g_cons, sl_0, sl_s, List.set, setN, wipeD, List.map, Bool.not_true, Bool.not_false]
  repeat (first | with_reducible refine t_add ?_ | with_reducible refine t_sub ?_ | with_reducible refine t_lt ?_ | with_reducible refine t_le ?_ | with_reducible refine t_gt ?_ | with_reducible refine t_ge ?_ | with_reducible refine t_eqi ?_ | with_reducible refine t_nei ?_ | with_reducible refine t_int ?_ | with_reducible refine t_intb ?_ | with_reducible refine t_max2 ?_ | with_reducible refine t_min2 ?_ | with_reducible refine t_lent ?_ | with_reducible refine t_lens ?_ | with_reducible refine t_mts ?_ | with_reducible refine t_not ?_ | with_reducible refine t_slt ?_ | with_reducible refine t_revt ?_ | with_reducible refine t_tupc ?_ | with_reducible refine t_wkt ?_ | with_reducible refine t_wks ?_ | with_reducible refine t_ixl (by first | assumption | exact up_same | exact (up_ne (by assumption)).trans (by assumption) | exact (up_ne (by assumption)).trans up_same | exact (up_ne (by assumption)).trans ((up_ne (by assumption)).trans (by assumption))) (by with_unfolding_all rfl) ?_ | with_reducible refine t_ixt (by with_unfolding_all rfl) ?_ | with_reducible refine t_len (by first | assumption | exact up_same | exact (up_ne (by assumption)).trans (by assumption) | exact (up_ne (by assumption)).trans up_same | exact (up_ne (by assumption)).trans ((up_ne (by assumption)).trans (by assumption))) ?_ | with_reducible refine t_put (by first | assumption | exact up_same | exact (up_ne (by assumption)).trans (by assumption) | exact (up_ne (by assumption)).trans up_same | exact (up_ne (by assumption)).trans ((up_ne (by assumption)).trans (by assumption))) (by with_unfolding_all rfl) ?_ | with_reducible refine t_notl (by first | assumption | exact up_same | exact (up_ne (by assumption)).trans (by assumption) | exact (up_ne (by assumption)).trans up_same | exact (up_ne (by assumption)).trans ((up_ne (by assumption)).trans (by assumption))) ?_ | with_reducible refine t_mod (by decide) ?_ | with_reducible refine t_fdiv (by decide) ?_ | with_reducible refine t_pow (by decide) ?_ | with_reducible refine t_mulr (by decide) ?_ | with_reducible refine t_mull (by decide) ?_)
  refine t_br (fun hl => ?_) fun hl => ?_
  · refine c_cons ?_
    simp only [s_nil, s_expr, s_asg, s_put, s_par, s_aug, s_ret, s_retN, s_ifs, s_forr, s_brk, s_cont, s_pass, e_var, e_lit, e_gl, e_tup, e_lst, e_bin, e_neg, e_cmp, e_chain, e_isN, e_isB, e_and, e_or, e_not, e_ite, e_idx, e_slcL, e_slcU, e_slcB, e_rev, e_isi, e_call, e_bf, e_meth, e_comp, e_bfc, e_dcomp, e_lenset, e_nil, e_cons, g_nm, g_tup, g_nil, g_cons, sl_0, sl_s, List.set, setN, wipeD, List.map, Bool.not_true, Bool.not_false]
    refine hf _ _ _ _ ⟨a, b, cs, p, d, k, e, rfl, ok, fun r p' k' h0 => ?_⟩
    refine t_put up_same (by rfl) ?_
    refine rest _ p' r k' _ ?_ rfl fun o => ?_
    · rw [up_up]; exact ok.up h0
    · rw [up_up, up_up]
  · exact rest S p d k _ ok rfl fun o => rfl
end
end Lac
end

-- LacY.lean
section
set_option Elab.async false
set_option linter.all false
set_option maxRecDepth 100000
set_option maxHeartbeats 1000000
set_option autoImplicit false
/-! Lac, part Y: the laws' start; what draws keep. -/
namespace Lac
open PySem L2
/-- the cursor goes on, all else that stood stands -/
def Go (S S' : SH) (a b : Addr) (cs : List Int) (e : Int) : Prop := (∃ p d k, CurOk S' a b cs p d k e) ∧ ∀ x o, x ≠ a → S x = some o → S' x = some o
section
variable {S S' S1 : SH} {a b : Addr} {cs : List Int} {e : Int}
theorem Go.refl {p d k : Int} (h : CurOk S a b cs p d k e) : Go S S a b cs e := ⟨⟨p, d, k, h⟩, fun _ _ _ h => h⟩
theorem Go.up {p d k : Int} (h : Go S S1 a b cs e) (h0 : 0 ≤ p) : Go S (up S1 a (cu b p d k e)) a b cs e := by
  obtain ⟨⟨p0, d0, k0, ok⟩, kp⟩ := h
  exact ⟨⟨p, d, k, ok.up h0⟩, fun x o hx e => by rw [up_ne hx]; exact kp x o hx e⟩
theorem Go.new {p : Addr} {o : DO} (h : Go S S1 a b cs e) (hp : S1 p = none) : Go S (Lac.up S1 p o) a b cs e := by
  obtain ⟨⟨p0, d0, k0, ok⟩, kp⟩ := h
  have ha : a ≠ p := fun q => by subst q; have := ok.c; rw [hp] at this; cases this
  have hb : b ≠ p := fun q => by subst q; have := ok.s; rw [hp] at this; cases this
  refine ⟨⟨p0, d0, k0, by rw [up_ne ha]; exact ok.c, by rw [up_ne hb]; exact ok.s, ok.p0⟩, fun x o' hx e => ?_⟩
  have := kp x o' hx e
  rw [up_ne (fun q => by subst q; rw [hp] at this; cases this)]
  exact this
theorem Go.trans (h : Go S S1 a b cs e) (h2 : Go S1 S' a b cs e) : Go S S' a b cs e := ⟨h2.1, fun x o hx e => h2.2 x o hx (h.2 x o hx e)⟩
theorem Go.back (h : Go S S' a b cs e) : ∃ p d k, 0 ≤ p ∧ Sub (Lac.up S a (cu b p d k e)) S' := by
  obtain ⟨⟨p, d, k, ok⟩, kp⟩ := h
  refine ⟨p, d, k, ok.p0, fun x o hx => ?_⟩
  by_cases hxa : x = a
  · subst hxa; rw [up_same] at hx; cases hx; exact ok.c
  · rw [up_ne hxa] at hx; exact kp x o hxa hx
theorem Go.ret {Q : KD} {d : D} (h : Go S S' a b cs e) (q : ∀ p x k, 0 ≤ p → Q d (Lac.up S a (cu b p x k e))) : ∃ S'', Sub S'' S' ∧ Q d S'' := by
  obtain ⟨p, x, k, h0, s⟩ := h.back
  exact ⟨_, s, q p x k h0⟩
end
/-- _law_start(script) -/
def spStart : DSp := fun ds S Q _ => ∃ (a : Addr) (ns : List Int), ds = [.ref a] ∧ S a = some (.rd (ns.map .int)) ∧ ∀ c b cs S', CurOk S' c b cs 0 0 0 20 → (∀ x o, S x = some o → S' x = some o) → Q (.ref c) S'
def startBody {φ : Type} : List (St φ) := [
  .ret (.lst [.comp [("cell", 1)] .any [.slcU (.var 0) (.lit (.int 63))] (.nm 1) (.lit (.bl true)) (.bf .int [.var 1]), .lit (.int 0), .lit (.int 0), .lit (.int 0), .lit (.int 20)])]
theorem cut_map {α β : Type} (f : α → β) (xs : List α) (lo hi : Option Int) : cutD (xs.map f) lo hi = (cutD xs lo hi).map f := by
  unfold cutD
  rw [List.length_map, ← List.map_drop, ← List.map_take]
section
variable {φ : Type} {Γ : φ → DSp} {G : Nat → Option D}
theorem p_start {ds : List D} {S : SH} {Q : KD} {x : XW} (h : spStart ds S Q x) : wpB Γ G 2 startBody ds S Q x := by
  obtain ⟨a, ns, rfl, h1, q⟩ := h
  unfold wpB
  change wpSs Γ G _ x _ [some (.ref a), none] S
  refine c_cons ?_
  simp only [s_nil, s_expr, s_asg, s_put, s_par, s_aug, s_ret, s_retN, s_ifs, s_forr, s_brk, s_cont, s_pass, e_var, e_lit, e_gl, e_tup, e_lst, e_bin, e_neg, e_cmp, e_chain, e_isN, e_isB, e_and, e_or, e_not, e_ite, e_idx, e_slcL, e_slcU, e_slcB, e_rev, e_isi, e_call, e_bf, e_meth, e_comp, e_bfc, e_dcomp, e_lenset, e_nil, e_cons, g_nm, g_tup, g_nil, g_cons, sl_0, sl_s, List.set, setN, wipeD, List.map, Bool.not_true, Bool.not_false]
  refine t_slr h1 (t_new fun p hp => ?_)
  refine t_wkl up_same ?_
  rw [cut_map]
  refine wpC_map1 (fun d => d) up_same (fun d hd K hk => ?_) ?_
  · obtain ⟨n, hn, rfl⟩ := List.mem_map.mp hd
    simp only [s_nil, s_expr, s_asg, s_put, s_par, s_aug, s_ret, s_retN, s_ifs, s_forr, s_brk, s_cont, s_pass, e_var, e_lit, e_gl, e_tup, e_lst, e_bin, e_neg, e_cmp, e_chain, e_isN, e_isB, e_and, e_or, e_not, e_ite, e_idx, e_slcL, e_slcU, e_slcB, e_rev, e_isi, e_call, e_bf, e_meth, e_comp, e_bfc, e_dcomp, e_lenset, e_nil, e_cons, g_nm, g_tup, g_nil, g_cons, sl_0, sl_s, List.set, setN, wipeD, List.map, Bool.not_true, Bool.not_false]
    exact t_int hk
  · rw [List.map_id', List.nil_append]
    have hap : a ≠ p := fun e => by subst e; rw [hp] at h1; cases h1
    refine t_new fun r hr => t_new fun c hc => ret_same (q c r (cutD ns none (some 63)) _ ⟨up_same, ?_, by decide⟩ fun y o e => ?_)
    · have : r ≠ c := fun e => by subst e; rw [up_same] at hc; cases hc
      rw [up_ne this]; exact up_same
    · have y1 : y ≠ p := fun z => by subst z; rw [hp] at e; cases e
      have e1 : up S p (.lst ((cutD ns none (some 63)).map .int)) y = some o := by rw [up_ne y1]; exact e
      have y2 : y ≠ r := fun z => by subst z; rw [e1] at hr; cases hr
      have e2 : up (up S p (.lst ((cutD ns none (some 63)).map .int))) r (.lst ((cutD ns none (some 63)).map .int)) y = some o := by rw [up_ne y2]; exact e1
      have y3 : y ≠ c := fun z => by subst z; rw [e2] at hc; cases hc
      rw [up_ne y3]; exact e2
end
end Lac
end

-- LacZ.lean
section
set_option Elab.async false
set_option linter.all false
set_option maxRecDepth 100000
set_option maxHeartbeats 1000000
set_option autoImplicit false
/-! Lac, part Z: the laws' types. -/
namespace Lac
open PySem L2
/-- a type -/
inductive Ty' where
  | mk (as : List Ty') (s : Str)
mutual
def Ty'.d : Ty' → D
  | .mk as s => .tup [.tup (dsT as), .str s]
def dsT : List Ty' → List D
  | [] => []
  | t :: ts => t.d :: dsT ts
end
def okT : Nat → Ty' → Prop
  | 0, .mk as s => as = [] ∧ (s = "a" ∨ s = "b")
  | h + 1, .mk as s => as.length ≤ 3 ∧ (∀ t ∈ as, okT h t) ∧ (s = "a" ∨ s = "b")
theorem okT_succ : ∀ {h : Nat} {t : Ty'}, okT h t → okT (h + 1) t
  | 0, .mk as s, h => ⟨by rw [h.1]; decide, by rw [h.1]; simp, h.2⟩
  | h + 1, .mk as s, q => ⟨q.1, fun t ht => okT_succ (q.2.1 t ht), q.2.2⟩
theorem okT_mono {h k : Nat} {t : Ty'} (q : okT h t) (l : h ≤ k) : okT k t := by
  induction l with
  | refl => exact q
  | step _ ih => exact okT_succ ih
theorem dsT_app : ∀ (xs ys : List Ty'), dsT (xs ++ ys) = dsT xs ++ dsT ys
  | [], ys => rfl
  | x :: xs, ys => by show x.d :: dsT (xs ++ ys) = _; rw [dsT_app xs ys]; rfl
theorem dsT_length : ∀ xs : List Ty', (dsT xs).length = xs.length
  | [] => rfl
  | x :: xs => by show (dsT xs).length + 1 = _; rw [dsT_length xs]; rfl

/-- _law_kind(c, high) -/
def spKind (m : Nat) : DSp := fun ds S Q _ => ∃ (a b : Addr) (cs : List Int) (p d k e h : Int), ds = [.ref a, .int h] ∧ CurOk S a b cs p d k e ∧ 0 ≤ h ∧ h ≤ m ∧ ∀ t p' d' k', okT h.toNat t → 0 ≤ p' → Q t.d (up S a (cu b p' d' k' e))
def kindBody {φ : Type} (take self : φ) : List (St φ) := [
  .asg (.nm 2) (.idx (.lst [.lit (.str "a"), .lit (.str "a"), .lit (.str "b")]) (.call take [.var 0, .lit (.int 3)])),
  .ifs (.cmp .eq (.var 1) (.lit (.int 0))) [.ret (.tup [.tup [], .var 2])] [],
  .asg (.nm 3) (.idx (.lst [.lit (.int 0), .lit (.int 1), .lit (.int 1), .lit (.int 2), .lit (.int 3)]) (.call take [.var 0, .lit (.int 5)])),
  .ret (.tup [.bfc .tuple [("k", 4)] .range [.var 3] (.nm 4) (.lit (.bl true)) (.call self [.var 0, .idx (.lst [.bin .sub (.var 1) (.lit (.int 1)), .lit (.int 0)]) (.bf .int [.cmp .ne (.call take [.var 0, .lit (.int 3)]) (.lit (.int 0))])]), .var 2])]
section
variable {φ : Type} {Γ : φ → DSp} {G : Nat → Option D}
/-- a digit drawn from the cursor, whatever has been made since -/
theorem take_go {take : φ} (ht : ∀ ds S Q x, spTake ds S Q x → Γ take ds S Q x) {S S1 : SH} {a b : Addr} {cs : List Int} {e many : Int} {Q : KD} {x : XW} (g : Go S S1 a b cs e) (m0 : 0 < many) (m1 : many < 1073741824)
    (q : ∀ r S2, 0 ≤ r → r < many → Go S S2 a b cs e → (∀ y, y ≠ a → S2 y = S1 y) → Q (.int r) S2) : Γ take [.ref a, .int many] S1 Q x := by
  obtain ⟨⟨p, d, k, ok⟩, kp⟩ := g
  refine ht _ _ _ _ ⟨a, b, cs, p, d, k, e, many, rfl, ok, m0, m1, fun r p' d' k' r0 r1 h0 => q _ _ r0 r1 (Go.up ⟨⟨p, d, k, ok⟩, kp⟩ h0) fun y hy => up_ne hy⟩
theorem at3 {r : Int} (r0 : 0 ≤ r) (r1 : r < 3) {x y z : D} : ∃ d, atD [x, y, z] r = some d ∧ (d = x ∨ d = y ∨ d = z) := by
  have : r = 0 ∨ r = 1 ∨ r = 2 := by omega
  rcases this with rfl | rfl | rfl
  · exact ⟨x, rfl, .inl rfl⟩
  · exact ⟨y, rfl, .inr (.inl rfl)⟩
  · exact ⟨z, rfl, .inr (.inr rfl)⟩
/-- an item of a list by a digit -/
theorem at_n {r : Int} {ds : List D} (r0 : 0 ≤ r) (r1 : r < ds.length) : ∃ d, atD ds r = some d ∧ d ∈ ds := by
  have hlt : r.toNat < ds.length := by omega
  refine ⟨ds[r.toNat], ?_, List.getElem_mem hlt⟩
  unfold atD ixD
  rw [if_pos r0, if_pos r1]
  simp [hlt]
theorem p_kind {take self : φ} {M : Nat} {ds : List D} {S : SH} {Q : KD} {x : XW} (ht : ∀ ds S Q x, spTake ds S Q x → Γ take ds S Q x) (hk : ∀ m, m + 1 = M → ∀ ds S Q x, spKind m ds S Q x → Γ self ds S Q x)
    (h : spKind M ds S Q x) : wpB Γ G 5 (kindBody take self) ds S Q x := by
  obtain ⟨a, b, cs, p, d, k, e, h, rfl, ok, h0, hM, q⟩ := h
  unfold wpB
  change wpSs Γ G _ x _ [some (.ref a), some (.int h), none, none, none] S
  have g0 := Go.refl ok
  refine c_cons ?_
  simp only [s_nil, s_expr, s_asg, s_put, s_par, s_aug, s_ret, s_retN, s_ifs, s_forr, s_brk, s_cont, s_pass, e_var, e_lit, e_gl, e_tup, e_lst, e_bin, e_neg, e_cmp, e_chain, e_isN, e_isB, e_and, e_or, e_not, e_ite, e_idx, e_slcL, e_slcU, e_slcB, e_rev, e_isi, e_call, e_bf, e_meth, e_comp, e_bfc, e_dcomp, e_lenset, e_nil, e_cons, g_nm, g_tup, g_nil, g_cons, sl_0, sl_s, List.set, setN, wipeD, List.map, Bool.not_true, Bool.not_false]
  refine t_new fun l1 hl1 => ?_
  refine take_go ht (g0.new hl1) (by decide) (by decide) fun r S1 r0 r1 g1 k1 => ?_
  have ha1 : l1 ≠ a := fun z => by subst z; have := ok.c; rw [hl1] at this; cases this
  obtain ⟨dd, e1, e2⟩ := at3 (x := .str "a") (y := .str "a") (z := .str "b") r0 r1
  have e3 : ∃ s : Str, dd = .str s ∧ (s = "a" ∨ s = "b") := by
    rcases e2 with rfl | rfl | rfl
    · exact ⟨_, rfl, .inl rfl⟩
    · exact ⟨_, rfl, .inl rfl⟩
    · exact ⟨_, rfl, .inr rfl⟩
  obtain ⟨s, rfl, hs⟩ := e3
  refine t_ixl ((k1 l1 ha1).trans up_same) e1 ?_
  refine c_cons ?_
  simp only [s_nil, s_expr, s_asg, s_put, s_par, s_aug, s_ret, s_retN, s_ifs, s_forr, s_brk, s_cont, s_pass, e_var, e_lit, e_gl, e_tup, e_lst, e_bin, e_neg, e_cmp, e_chain, e_isN, e_isB, e_and, e_or, e_not, e_ite, e_idx, e_slcL, e_slcU, e_slcB, e_rev, e_isi, e_call, e_bf, e_meth, e_comp, e_bfc, e_dcomp, e_lenset, e_nil, e_cons, g_nm, g_tup, g_nil, g_cons, sl_0, sl_s, List.set, setN, wipeD, List.map, Bool.not_true, Bool.not_false]
  refine t_eqi (t_br (fun hz => ?_) fun hz => ?_)
  · have hz : h = 0 := by simpa using hz
    refine c_cons ?_
    simp only [s_nil, s_expr, s_asg, s_put, s_par, s_aug, s_ret, s_retN, s_ifs, s_forr, s_brk, s_cont, s_pass, e_var, e_lit, e_gl, e_tup, e_lst, e_bin, e_neg, e_cmp, e_chain, e_isN, e_isB, e_and, e_or, e_not, e_ite, e_idx, e_slcL, e_slcU, e_slcB, e_rev, e_isi, e_call, e_bf, e_meth, e_comp, e_bfc, e_dcomp, e_lenset, e_nil, e_cons, g_nm, g_tup, g_nil, g_cons, sl_0, sl_s, List.set, setN, wipeD, List.map, Bool.not_true, Bool.not_false]
    refine g1.ret fun p' x' k' h0' => ?_
    have := q (.mk [] s) p' x' k' (by rw [hz]; exact ⟨rfl, hs⟩) h0'
    exact this
  · have hz : h ≠ 0 := by simpa using hz
    refine c_cons ?_
    simp only [s_nil, s_expr, s_asg, s_put, s_par, s_aug, s_ret, s_retN, s_ifs, s_forr, s_brk, s_cont, s_pass, e_var, e_lit, e_gl, e_tup, e_lst, e_bin, e_neg, e_cmp, e_chain, e_isN, e_isB, e_and, e_or, e_not, e_ite, e_idx, e_slcL, e_slcU, e_slcB, e_rev, e_isi, e_call, e_bf, e_meth, e_comp, e_bfc, e_dcomp, e_lenset, e_nil, e_cons, g_nm, g_tup, g_nil, g_cons, sl_0, sl_s, List.set, setN, wipeD, List.map, Bool.not_true, Bool.not_false]
    refine t_new fun l2 hl2 => ?_
    refine take_go ht (g1.new hl2) (by decide) (by decide) fun r S2 r0 r1 g2 k2 => ?_
    have ha2 : l2 ≠ a := fun z => by
      subst z
      obtain ⟨⟨_, _, _, ok1⟩, _⟩ := g1
      have := ok1.c; rw [hl2] at this; cases this
    have e5 : ∃ n : Nat, n ≤ 3 ∧ atD [.int 0, .int 1, .int 1, .int 2, .int 3] r = some (.int n) := by
      have : r = 0 ∨ r = 1 ∨ r = 2 ∨ r = 3 ∨ r = 4 := by omega
      rcases this with rfl | rfl | rfl | rfl | rfl
      · exact ⟨0, by decide, rfl⟩
      · exact ⟨1, by decide, rfl⟩
      · exact ⟨1, by decide, rfl⟩
      · exact ⟨2, by decide, rfl⟩
      · exact ⟨3, by decide, rfl⟩
    obtain ⟨n, n3, e5⟩ := e5
    refine t_ixl ((k2 l2 ha2).trans up_same) e5 ?_
    refine c_cons ?_
    simp only [s_nil, s_expr, s_asg, s_put, s_par, s_aug, s_ret, s_retN, s_ifs, s_forr, s_brk, s_cont, s_pass, e_var, e_lit, e_gl, e_tup, e_lst, e_bin, e_neg, e_cmp, e_chain, e_isN, e_isB, e_and, e_or, e_not, e_ite, e_idx, e_slcL, e_slcU, e_slcB, e_rev, e_isi, e_call, e_bf, e_meth, e_comp, e_bfc, e_dcomp, e_lenset, e_nil, e_cons, g_nm, g_tup, g_nil, g_cons, sl_0, sl_s, List.set, setN, wipeD, List.map, Bool.not_true, Bool.not_false]
    refine t_wkn ⟨by omega, by have := sizeLine_eq; omega⟩ ?_
    refine wpC_inv1 (fun r acc S' => Go S S' a b cs e ∧ ∃ ts : List Ty', acc = dsT ts ∧ (∀ t ∈ ts, okT (h.toNat - 1) t) ∧ ts.length + r.length = n) (fun d r acc S3 ⟨g3, ts, e1, e2, e3⟩ => ⟨True.intro, fun K hK => ?_⟩) (fun acc S3 ⟨g3, ts, e1, e2, e3⟩ => ⟨True.intro, ?_⟩) _ _ _ ⟨g2, [], rfl, by simp, by simp [rangeD]⟩
    · simp only [s_nil, s_expr, s_asg, s_put, s_par, s_aug, s_ret, s_retN, s_ifs, s_forr, s_brk, s_cont, s_pass, e_var, e_lit, e_gl, e_tup, e_lst, e_bin, e_neg, e_cmp, e_chain, e_isN, e_isB, e_and, e_or, e_not, e_ite, e_idx, e_slcL, e_slcU, e_slcB, e_rev, e_isi, e_call, e_bf, e_meth, e_comp, e_bfc, e_dcomp, e_lenset, e_nil, e_cons, g_nm, g_tup, g_nil, g_cons, sl_0, sl_s, List.set, setN, wipeD, List.map, Bool.not_true, Bool.not_false]
      refine t_sub (t_new fun l3 hl3 => ?_)
      refine take_go ht (g3.new hl3) (by decide) (by decide) fun r2 S4 r0 r1 g4 k4 => ?_
      have ha3 : l3 ≠ a := fun z => by
        subst z
        obtain ⟨⟨_, _, _, ok1⟩, _⟩ := g3
        have := ok1.c; rw [hl3] at this; cases this
      refine t_nei (t_intb ?_)
      have e6 : ∃ h' : Int, 0 ≤ h' ∧ h' ≤ h - 1 ∧ atD [.int (h - 1), .int 0] (if (!(r2 == 0)) = true then 1 else 0) = some (.int h') := by
        by_cases z : r2 = 0
        · subst z
          exact ⟨h - 1, by omega, by omega, rfl⟩
        · have : (!(r2 == 0)) = true := by simpa using z
          rw [this]
          exact ⟨0, by omega, by omega, rfl⟩
      obtain ⟨h', i0, i1, e6⟩ := e6
      refine t_ixl ((k4 l3 ha3).trans up_same) e6 ?_
      obtain ⟨⟨p4, d4, k4', ok4⟩, kp4⟩ := g4
      refine hk (M - 1) (by omega) _ _ _ _ ⟨a, b, cs, p4, d4, k4', e, h', rfl, ok4, i0, by omega, fun t p' d' k' ot h0' => hK _ _ ⟨Go.up ⟨⟨p4, d4, k4', ok4⟩, kp4⟩ h0', ts ++ [t], ?_, ?_, ?_⟩⟩
      · rw [e1, dsT_app]; rfl
      · intro u hu
        rcases List.mem_append.mp hu with z | z
        · exact e2 u z
        · rw [List.mem_singleton.mp z]; exact okT_mono ot (by omega)
      · simp at e3 ⊢; omega
    · refine t_tupc ?_
      refine g3.ret fun p' x' k' h0' => ?_
      have := q (.mk ts s) p' x' k' (by
        have : h.toNat = (h.toNat - 1) + 1 := by omega
        rw [this]
        exact ⟨by simp at e3; omega, e2, hs⟩) h0'
      rw [e1]
      exact this
end
end Lac
end

-- LacZa.lean
section
set_option Elab.async false
set_option linter.all false
set_option maxRecDepth 100000
set_option maxHeartbeats 2000000
set_option autoImplicit false
/-! Lac, part Za: the laws' signatures. -/
namespace Lac
open PySem L2
theorem nk {S : SH} {x p : Addr} {o o' : DO} (h : S x = some o) (hp : S p = none) : up S p o' x = some o := by
  rw [up_ne fun q => by subst q; rw [hp] at h; cases h]; exact h
theorem ne_new {S : SH} {a p : Addr} {o : DO} (h : S a = some o) (hp : S p = none) : p ≠ a := fun q => by subst q; rw [hp] at h; cases h
theorem Go.cur {S S1 : SH} {a b : Addr} {cs : List Int} {e : Int} (g : Go S S1 a b cs e) : ∃ o, S1 a = some o := by
  obtain ⟨⟨p, d, k, ok⟩, _⟩ := g
  exact ⟨_, ok.c⟩
theorem Go.fresh {S S1 : SH} {a b p : Addr} {cs : List Int} {e : Int} (g : Go S S1 a b cs e) (hp : S1 p = none) : p ≠ a := by
  obtain ⟨o, h⟩ := g.cur
  exact ne_new h hp
def AL : Str := "abdeghjklmnpqrvwxy"
structure OkFront (f : Str) : Prop where
  ex : ∃ l : List Nat, f = ⟨l.toArray⟩ ∧ l.length ≤ 3 ∧ ∀ c ∈ l, c ∈ AL.cps.toList
def tA : Ty' := .mk [] "a"
def tB : Ty' := .mk [] "b"
def tOne : Ty' := .mk [tA] "a"
def sig0 : Str × Ty' := ("c", tA)
def sig4 : Str × Ty' := ("e", tB)
def sigO : List (Str × Ty') := [("f", .mk [tA, tA] "a"), ("g", tOne), ("lam", .mk [tOne] "a"), ("k", .mk [tA, tB] "b"), ("d", tA), ("w", .mk [.mk [tA, tA] "a"] "b"), ("m", .mk [tOne, tB] "a")]
def sigA : List (Str × Ty') := [sig0, ("f", .mk [tA, tA] "a"), ("g", tOne), ("lam", .mk [tOne] "a"), sig4, ("k", .mk [tA, tB] "b"), ("d", tA), ("w", .mk [.mk [tA, tA] "a"] "b"), ("m", .mk [tOne, tB] "a")]
def rowD (r : Str × Ty') : D := .tup [.str r.1, r.2.d]
/-- _law_signature(c) -/
def spSig : DSp := fun ds S Q _ => ∃ (a b : Addr) (cs : List Int) (p d k e : Int), ds = [.ref a] ∧ CurOk S a b cs p d k e ∧ ∀ (front : Str) (rows : List (Str × Ty')) (p' d' k' : Int), OkFront front → rows.Sublist sigO → 0 ≤ p' →
  Q (.tup ((sig0 :: sig4 :: rows).map fun r => rowD (front ++ r.1, r.2))) (up S a (cu b p' d' k' e))
def sigBody {φ : Type} (take : φ) : List (St φ) := [
  .asg (.tup [(.nm 1), (.nm 2)]) (.tup [.tup [.tup [], .lit (.str "a")], .tup [.tup [], .lit (.str "b")]]),
  .asg (.nm 3) (.tup [.tup [.var 1], .lit (.str "a")]),
  .asg (.nm 4) (.lst [.tup [.lit (.str "c"), .var 1], .tup [.lit (.str "f"), .tup [.tup [.var 1, .var 1], .lit (.str "a")]], .tup [.lit (.str "g"), .var 3], .tup [.lit (.str "lam"), .tup [.tup [.var 3], .lit (.str "a")]], .tup [.lit (.str "e"), .var 2], .tup [.lit (.str "k"), .tup [.tup [.var 1, .var 2], .lit (.str "b")]], .tup [.lit (.str "d"), .var 1]]),
  .asg (.nm 4) (.bin .add (.var 4) (.lst [.tup [.lit (.str "w"), .tup [.tup [.tup [.tup [.var 1, .var 1], .lit (.str "a")]], .lit (.str "b")]], .tup [.lit (.str "m"), .tup [.tup [.var 3, .var 2], .lit (.str "a")]]])),
  .asg (.nm 5) (.meth .join (.lit (.str "")) [.comp [("j", 7)] .range [.call take [.var 0, .lit (.int 4)]] (.nm 7) (.lit (.bl true)) (.idx (.lit (.str "abdeghjklmnpqrvwxy")) (.call take [.var 0, .lit (.int 18)]))]),
  .asg (.nm 6) (.bin .add (.lst [.idx (.var 4) (.lit (.int 0)), .idx (.var 4) (.lit (.int 4))]) (.comp [("row", 8)] .any [.bin .add (.slcB (.var 4) (.lit (.int 1)) (.lit (.int 4))) (.slcL (.var 4) (.lit (.int 5)))] (.nm 8) (.cmp .ne (.call take [.var 0, .lit (.int 3)]) (.lit (.int 0))) (.var 8))),
  .ret (.bfc .tuple [("name", 9), ("kind", 10)] .any [.var 6] (.tup [(.nm 9), (.nm 10)]) (.lit (.bl true)) (.tup [.bin .add (.var 5) (.var 9), .var 10]))]
theorem AL_at {r : Int} (r0 : 0 ≤ r) (r1 : r < 18) : ∃ c, ((ixN AL.cps.toList.length r).bind fun j => AL.cps.toList[j]?) = some c ∧ c ∈ AL.cps.toList := by
  have hl : AL.cps.toList.length = 18 := by decide +kernel
  have hlt : r.toNat < AL.cps.toList.length := by omega
  refine ⟨AL.cps.toList[r.toNat], ?_, List.getElem_mem hlt⟩
  unfold ixN
  rw [if_pos r0, if_pos (by rw [hl]; exact r1)]
  simp
theorem join_ones : ∀ l : List Nat, Txt.join "" (l.map fun c => ⟨#[c]⟩) = ⟨l.toArray⟩ := by
  intro l
  have e1 : (l.map fun c => (⟨#[c]⟩ : Str)) = (l.map fun c => [c]).map SX.S := by simp [SX.S]
  have e2 : ("" : Str) = SX.S [] := by decide +kernel
  rw [e1, e2, SX.join_S]
  congr 1
  have : ∀ l : List Nat, TL.joinL [] (l.map fun c => [c]) = l := by
    intro l
    induction l with
    | nil => rfl
    | cons x r ih =>
      cases r with
      | nil => rfl
      | cons y r =>
        show [x] ++ ([] ++ TL.joinL [] (List.map (fun c => [c]) (y :: r))) = _
        rw [ih]; rfl
  rw [this]
theorem strs_ones : ∀ l : List Nat, strsD (l.map fun c => .str ⟨#[c]⟩) = some (l.map fun c => ⟨#[c]⟩)
  | [] => rfl
  | c :: l => by
    show (strsD (l.map fun c => .str ⟨#[c]⟩)).map (_ :: ·) = _
    rw [strs_ones l]; rfl
section
variable {φ : Type} {Γ : φ → DSp} {G : Nat → Option D}
theorem p_sig {take : φ} {ds : List D} {S : SH} {Q : KD} {x : XW} (ht : ∀ ds S Q x, spTake ds S Q x → Γ take ds S Q x) (h : spSig ds S Q x) : wpB Γ G 11 (sigBody take) ds S Q x := by
  obtain ⟨a, b, cs, p, d, k, e, rfl, ok, q⟩ := h
  have hz : sizeLine = 16777216 := sizeLine_eq
  unfold wpB
  change wpSs Γ G _ x _ [some (.ref a), none, none, none, none, none, none, none, none, none, none] S
  have g0 := Go.refl ok
  refine c_cons ?_
  simp only [s_nil, s_expr, s_asg, s_put, s_par, s_aug, s_ret, s_retN, s_ifs, s_forr, s_brk, s_cont, s_pass, e_var, e_lit, e_gl, e_tup, e_lst, e_bin, e_neg, e_cmp, e_chain, e_isN, e_isB, e_and, e_or, e_not, e_ite, e_idx, e_slcL, e_slcU, e_slcB, e_rev, e_isi, e_call, e_bf, e_meth, e_comp, e_bfc, e_dcomp, e_lenset, e_nil, e_cons, g_nm, g_tup, g_nil, g_cons, sl_0, sl_s, List.set, setN, wipeD, List.map, Bool.not_true, Bool.not_false]
  refine c_cons ?_
  simp only [s_nil, s_expr, s_asg, s_put, s_par, s_aug, s_ret, s_retN, s_ifs, s_forr, s_brk, s_cont, s_pass, e_var, e_lit, e_gl, e_tup, e_lst, e_bin, e_neg, e_cmp, e_chain, e_isN, e_isB, e_and, e_or, e_not, e_ite, e_idx, e_slcL, e_slcU, e_slcB, e_rev, e_isi, e_call, e_bf, e_meth, e_comp, e_bfc, e_dcomp, e_lenset, e_nil, e_cons, g_nm, g_tup, g_nil, g_cons, sl_0, sl_s, List.set, setN, wipeD, List.map, Bool.not_true, Bool.not_false]
  refine c_cons ?_
  simp only [s_nil, s_expr, s_asg, s_put, s_par, s_aug, s_ret, s_retN, s_ifs, s_forr, s_brk, s_cont, s_pass, e_var, e_lit, e_gl, e_tup, e_lst, e_bin, e_neg, e_cmp, e_chain, e_isN, e_isB, e_and, e_or, e_not, e_ite, e_idx, e_slcL, e_slcU, e_slcB, e_rev, e_isi, e_call, e_bf, e_meth, e_comp, e_bfc, e_dcomp, e_lenset, e_nil, e_cons, g_nm, g_tup, g_nil, g_cons, sl_0, sl_s, List.set, setN, wipeD, List.map, Bool.not_true, Bool.not_false]
  refine t_new fun l1 h1 => ?_
  refine c_cons ?_
  simp only [s_nil, s_expr, s_asg, s_put, s_par, s_aug, s_ret, s_retN, s_ifs, s_forr, s_brk, s_cont, s_pass, e_var, e_lit, e_gl, e_tup, e_lst, e_bin, e_neg, e_cmp, e_chain, e_isN, e_isB, e_and, e_or, e_not, e_ite, e_idx, e_slcL, e_slcU, e_slcB, e_rev, e_isi, e_call, e_bf, e_meth, e_comp, e_bfc, e_dcomp, e_lenset, e_nil, e_cons, g_nm, g_tup, g_nil, g_cons, sl_0, sl_s, List.set, setN, wipeD, List.map, Bool.not_true, Bool.not_false]
  refine t_new fun l2 h2 => ?_
  refine t_addl (nk up_same h2) up_same (by rw [hz]; decide) (t_new fun l3 h3 => ?_)
  have ha3 := ((g0.new h1).new h2).fresh h3
  refine c_cons ?_
  simp only [s_nil, s_expr, s_asg, s_put, s_par, s_aug, s_ret, s_retN, s_ifs, s_forr, s_brk, s_cont, s_pass, e_var, e_lit, e_gl, e_tup, e_lst, e_bin, e_neg, e_cmp, e_chain, e_isN, e_isB, e_and, e_or, e_not, e_ite, e_idx, e_slcL, e_slcU, e_slcB, e_rev, e_isi, e_call, e_bf, e_meth, e_comp, e_bfc, e_dcomp, e_lenset, e_nil, e_cons, g_nm, g_tup, g_nil, g_cons, sl_0, sl_s, List.set, setN, wipeD, List.map, Bool.not_true, Bool.not_false]
  refine t_mts ?_
  refine take_go ht (((g0.new h1).new h2).new h3) (by decide) (by decide) fun n S4 n0 n1 g4 k4 => ?_
  have e4 : S4 l3 = some (.lst (sigA.map rowD)) := (k4 l3 ha3).trans up_same
  clear k4
  refine t_wkn ⟨by omega, by omega⟩ ?_
  refine wpC_inv1 (fun r acc S' => Go S S' a b cs e ∧ S' l3 = _ ∧ ∃ l : List Nat, acc = l.map (fun c => .str ⟨#[c]⟩) ∧ (∀ c ∈ l, c ∈ AL.cps.toList) ∧ l.length + r.length = n.toNat) (fun d r acc S5 ⟨g5, e5, l, f1, f2, f3⟩ => ⟨True.intro, fun K hK => ?_⟩) (fun acc S5 ⟨g5, e5, l, f1, f2, f3⟩ => ⟨True.intro, ?_⟩) _ _ _ ⟨g4, e4, [], rfl, by simp, by simp [rangeD]⟩
  · simp only [s_nil, s_expr, s_asg, s_put, s_par, s_aug, s_ret, s_retN, s_ifs, s_forr, s_brk, s_cont, s_pass, e_var, e_lit, e_gl, e_tup, e_lst, e_bin, e_neg, e_cmp, e_chain, e_isN, e_isB, e_and, e_or, e_not, e_ite, e_idx, e_slcL, e_slcU, e_slcB, e_rev, e_isi, e_call, e_bf, e_meth, e_comp, e_bfc, e_dcomp, e_lenset, e_nil, e_cons, g_nm, g_tup, g_nil, g_cons, sl_0, sl_s, List.set, setN, wipeD, List.map, Bool.not_true, Bool.not_false]
    refine take_go ht g5 (by decide) (by decide) fun r S6 r0 r1 g6 k6 => ?_
    obtain ⟨c, c1, c2⟩ := AL_at r0 r1
    refine t_ixs c1 (hK _ _ ⟨g6, (k6 l3 ha3).trans e5, l ++ [c], by rw [f1]; simp, ?_, by simp at f3 ⊢; omega⟩)
    intro y hy
    rcases List.mem_append.mp hy with z | z
    · exact f2 y z
    · rw [List.mem_singleton.mp z]; exact c2
  refine t_new fun l4 h4 => ?_
  have e6 := nk (o' := .lst acc) e5 h4
  have g6 := g5.new (o := .lst acc) h4
  have hl3 : l.length ≤ 3 := by simp at f3; omega
  subst f1
  refine t_join up_same (strs_ones l) ?_ ?_
  · have : ∀ l : List Nat, ((l.map fun c => (⟨#[c]⟩ : Str)).map (·.length)).sum = l.length := by
      intro l
      induction l with
      | nil => rfl
      | cons y r ih => simp only [List.map_cons, List.sum_cons, ih, List.length_cons]; show 1 + _ = _; omega
    rw [this, List.length_map]
    show l.length + l.length * 0 ≤ _
    omega
  rw [join_ones]
  have hfr : OkFront ⟨l.toArray⟩ := ⟨l, rfl, hl3, f2⟩
  generalize (⟨l.toArray⟩ : Str) = front at hfr
  refine c_cons ?_
  simp only [s_nil, s_expr, s_asg, s_put, s_par, s_aug, s_ret, s_retN, s_ifs, s_forr, s_brk, s_cont, s_pass, e_var, e_lit, e_gl, e_tup, e_lst, e_bin, e_neg, e_cmp, e_chain, e_isN, e_isB, e_and, e_or, e_not, e_ite, e_idx, e_slcL, e_slcU, e_slcB, e_rev, e_isi, e_call, e_bf, e_meth, e_comp, e_bfc, e_dcomp, e_lenset, e_nil, e_cons, g_nm, g_tup, g_nil, g_cons, sl_0, sl_s, List.set, setN, wipeD, List.map, Bool.not_true, Bool.not_false]
  refine t_ixl e6 (by with_unfolding_all rfl) (t_ixl e6 (by with_unfolding_all rfl) (t_new fun l5 h5 => ?_))
  refine t_sll (nk e6 h5) (t_new fun l6 h6 => t_sll (nk (nk e6 h5) h6) (t_new fun l7 h7 => t_addl (nk up_same h7) up_same ?_ (t_new fun l8 h8 => t_wkl up_same ?_)))
  · rw [hz]; with_unfolding_all decide
  have ha8 := ((((g6.new h5).new h6).new h7)).fresh h8
  have ha5 := g6.fresh h5
  refine wpC_inv (fun r acc S' => Go S S' a b cs e ∧ S' l8 = _ ∧ S' l5 = _ ∧ ∃ pre rest sub : List (Str × Ty'), sigO = pre ++ rest ∧ r = rest.map rowD ∧ acc = sub.map rowD ∧ sub.Sublist pre) (fun d r acc S9 ⟨g9, e9, k9, pre, rest, sub, f1, f2, f3, f4⟩ => ⟨e9, fun K F hK hF => ?_⟩) (fun acc S9 ⟨g9, e9, k9, pre, rest, sub, f1, f2, f3, f4⟩ => ⟨e9, ?_⟩) _ _ _ ⟨(((g6.new h5).new h6).new h7).new h8, up_same, nk (nk (nk up_same h6) h7) h8, [], sigO, [], rfl, by with_unfolding_all rfl, rfl, by simp⟩
  · cases rest with
    | nil => cases f2
    | cons r0 rest =>
      cases f2
      simp only [s_nil, s_expr, s_asg, s_put, s_par, s_aug, s_ret, s_retN, s_ifs, s_forr, s_brk, s_cont, s_pass, e_var, e_lit, e_gl, e_tup, e_lst, e_bin, e_neg, e_cmp, e_chain, e_isN, e_isB, e_and, e_or, e_not, e_ite, e_idx, e_slcL, e_slcU, e_slcB, e_rev, e_isi, e_call, e_bf, e_meth, e_comp, e_bfc, e_dcomp, e_lenset, e_nil, e_cons, g_nm, g_tup, g_nil, g_cons, sl_0, sl_s, List.set, setN, wipeD, List.map, Bool.not_true, Bool.not_false]
      refine take_go ht g9 (by decide) (by decide) fun n S10 n0 n1 g10 k10 => ?_
      refine t_nei (t_br (fun hn => ?_) fun hn => ?_)
      · refine hK _ _ ⟨g10, (k10 l8 ha8).trans e9, (k10 l5 ha5).trans k9, pre ++ [r0], rest, sub ++ [r0], by rw [f1]; simp, rfl, by rw [f3]; simp, f4.append (.refl _)⟩
      · refine hF _ ⟨g10, (k10 l8 ha8).trans e9, (k10 l5 ha5).trans k9, pre ++ [r0], rest, sub, by rw [f1]; simp, rfl, f3, f4.trans (List.sublist_append_left _ _)⟩
  cases rest with
  | cons => cases f2
  | nil =>
  have hsub : sub.Sublist sigO := by rw [f1]; simpa using f4
  subst f3
  have hlen : sub.length ≤ 7 := hsub.length_le
  refine t_new fun l9 h9 => t_addl (nk k9 h9) up_same (by rw [hz]; simp; omega) (t_new fun l10 h10 => ?_)
  have g11 := (g9.new (o := .lst (sub.map rowD)) h9).new (o := .lst ([rowD sig0, rowD sig4] ++ sub.map rowD)) h10
  refine c_cons ?_
  simp only [s_nil, s_expr, s_asg, s_put, s_par, s_aug, s_ret, s_retN, s_ifs, s_forr, s_brk, s_cont, s_pass, e_var, e_lit, e_gl, e_tup, e_lst, e_bin, e_neg, e_cmp, e_chain, e_isN, e_isB, e_and, e_or, e_not, e_ite, e_idx, e_slcL, e_slcU, e_slcB, e_rev, e_isi, e_call, e_bf, e_meth, e_comp, e_bfc, e_dcomp, e_lenset, e_nil, e_cons, g_nm, g_tup, g_nil, g_cons, sl_0, sl_s, List.set, setN, wipeD, List.map, Bool.not_true, Bool.not_false]
  refine t_wkl up_same ?_
  refine wpC_map1 (fun d => match d with
    | .tup [.str n, k] => .tup [.str (front ++ n), k]
    | d => d) up_same (fun d hd K hK => ?_) ?_
  · have : ∃ r : Str × Ty', r ∈ sig0 :: sig4 :: sub ∧ d = rowD r := by
      have hd' : d ∈ (sig0 :: sig4 :: sub).map rowD := hd
      obtain ⟨r, h1, h2⟩ := List.mem_map.mp hd'
      exact ⟨r, h1, h2.symm⟩
    obtain ⟨⟨n, kd⟩, hr, rfl⟩ := this
    have hn : n.length ≤ 3 := by
      have : ∀ r ∈ sig0 :: sig4 :: sigO, r.1.length ≤ 3 := by decide +kernel
      refine this (n, kd) ?_
      rcases List.mem_cons.mp hr with z | z
      · exact z ▸ by simp
      · rcases List.mem_cons.mp z with z | z
        · exact z ▸ by simp
        · have := hsub.subset z; simp [this]
    have hf : front.length ≤ 3 := by
      obtain ⟨l, rfl, h, _⟩ := hfr.ex
      show l.toArray.size ≤ 3
      simpa using h
    unfold rowD
    simp only [s_nil, s_expr, s_asg, s_put, s_par, s_aug, s_ret, s_retN, s_ifs, s_forr, s_brk, s_cont, s_pass, e_var, e_lit, e_gl, e_tup, e_lst, e_bin, e_neg, e_cmp, e_chain, e_isN, e_isB, e_and, e_or, e_not, e_ite, e_idx, e_slcL, e_slcU, e_slcB, e_rev, e_isi, e_call, e_bf, e_meth, e_comp, e_bfc, e_dcomp, e_lenset, e_nil, e_cons, g_nm, g_tup, g_nil, g_cons, sl_0, sl_s, List.set, setN, wipeD, List.map, Bool.not_true, Bool.not_false]
    exact t_adds (by rw [hz]; omega) hK
  · refine t_tupc ?_
    refine g11.ret fun p' x' k' h0' => ?_
    have := q front sub p' x' k' hfr hsub h0'
    have e : ([] : List D) ++ ([rowD sig0, rowD sig4] ++ sub.map rowD).map (fun d => match d with
      | .tup [.str n, k] => .tup [.str (front ++ n), k]
      | d => d) = (sig0 :: sig4 :: sub).map fun r => rowD (front ++ r.1, r.2) := by
      rw [List.nil_append]
      have : [rowD sig0, rowD sig4] ++ sub.map rowD = (sig0 :: sig4 :: sub).map rowD := rfl
      rw [this, List.map_map]
      rfl
    rw [e]
    exact this
end
end Lac
end

-- LacZb.lean
section
set_option Elab.async false
set_option linter.all false
set_option maxRecDepth 100000
set_option maxHeartbeats 2000000
set_option autoImplicit false
/-! Lac, part Zb: any values: their nodes, one replaced, their height. -/
namespace Lac
open PySem L2
theorem t_whl {φ : Type} {Γ : φ → DSp} {G : Nat → Option D} {x : XW} {ρ : Env} {S : SH} {De : DEnds} {c : Ex φ} {b : List (St φ)} (W : Nat → Env → SH → Prop) (m : Nat) (h0 : W m ρ S)
    (step : ∀ m ρ S, W m ρ S → wpE Γ G c x ρ S fun u S1 => match tru S1 u with
      | some true => wpSs Γ G b x { nx := fun ρ' S' => ∃ m', m' < m ∧ W m' ρ' S', rt := De.rt, bk := De.nx, ct := fun ρ' S' => ∃ m', m' < m ∧ W m' ρ' S' } ρ S1
      | some false => De.nx ρ S1
      | none => False) : wpS Γ G (.whl c b) x De ρ S := ⟨W, ⟨m, h0⟩, step⟩
mutual
/-- the number of nodes -/
def sz : D → Nat
  | .tup ds => szs ds + 1
  | _ => 1
def szs : List D → Nat
  | [] => 0
  | d :: ds => sz d + szs ds
end
mutual
/-- p holds of every node (of a tuple, p looks at its length alone) -/
def allL (p : D → Bool) : D → Bool
  | .tup ds => p (.tup ds) && allLs p ds
  | d => p d
def allLs (p : D → Bool) : List D → Bool
  | [] => true
  | d :: ds => allL p d && allLs p ds
end
theorem allLs_iff {p : D → Bool} : ∀ {ds : List D}, allLs p ds = true ↔ ∀ d ∈ ds, allL p d = true
  | [] => by simp [allLs]
  | d :: ds => by
    show (allL p d && allLs p ds) = true ↔ _
    rw [Bool.and_eq_true, allLs_iff]
    simp
theorem allL_t {p : D → Bool} {ds : List D} : allL p (.tup ds) = true ↔ p (.tup ds) = true ∧ allLs p ds = true := Bool.and_eq_true_iff
mutual
theorem allL_mono {p q : D → Bool} (h : ∀ d, p d = true → q d = true) : ∀ d : D, allL p d = true → allL q d = true
  | .tup ds, e => allL_t.mpr ⟨h _ (allL_t.mp e).1, allLs_mono h ds (allL_t.mp e).2⟩
  | .non, e => h .non e
  | .bl b, e => h (.bl b) e
  | .int i, e => h (.int i) e
  | .str s, e => h (.str s) e
  | .ref a, e => h (.ref a) e
theorem allLs_mono {p q : D → Bool} (h : ∀ d, p d = true → q d = true) : ∀ ds : List D, allLs p ds = true → allLs q ds = true
  | [], _ => rfl
  | d :: ds, e => by
    have e' : (allL p d && allLs p ds) = true := e
    rw [Bool.and_eq_true] at e'
    show (allL q d && allLs q ds) = true
    rw [allL_mono h d e'.1, allLs_mono h ds e'.2]; rfl
end
theorem szs_app : ∀ xs ys : List D, szs (xs ++ ys) = szs xs + szs ys
  | [], ys => by simp [szs]
  | x :: xs, ys => by show sz x + szs (xs ++ ys) = _; rw [szs_app xs ys]; show _ = sz x + szs xs + _; omega
theorem sz_pos : ∀ d : D, 1 ≤ sz d
  | .tup ds => by show 1 ≤ szs ds + 1; omega
  | .non | .bl _ | .int _ | .str _ | .ref _ => Nat.le_refl 1
theorem len_szs : ∀ ds : List D, ds.length ≤ szs ds
  | [] => Nat.le_refl _
  | d :: ds => by have := len_szs ds; have := sz_pos d; show ds.length + 1 ≤ sz d + szs ds; omega
theorem sz_mem {d : D} : ∀ {ds : List D}, d ∈ ds → sz d ≤ szs ds
  | x :: xs, h => by
    show sz d ≤ sz x + szs xs
    rcases List.mem_cons.mp h with rfl | h
    · omega
    · have := sz_mem h; omega
theorem dep_mem {d : D} : ∀ {ds : List D}, d ∈ ds → dep d ≤ deps ds
  | x :: xs, h => by
    show dep d ≤ max (dep x) (deps xs)
    rcases List.mem_cons.mp h with rfl | h
    · omega
    · have := dep_mem h; omega
theorem deps_le {m : Nat} : ∀ {ds : List D}, (∀ d ∈ ds, dep d ≤ m) → deps ds ≤ m
  | [], _ => Nat.zero_le _
  | x :: xs, h => by
    show max (dep x) (deps xs) ≤ m
    have := h x (by simp)
    have := deps_le (ds := xs) fun d hd => h d (by simp [hd])
    omega
/-- what comes down to the parts -/
def Her (R : D → Prop) : Prop := ∀ ds, R (.tup ds) → ∀ d ∈ ds, R d
section
variable {φ : Type} {Γ : φ → DSp} {G : Nat → Option D}
/-! ### _law_is_int -/
def isIntD : D → Bool
  | .int _ => true
  | _ => false
def spIsInt : DSp := fun ds S Q _ => ∃ v : D, ds = [v] ∧ dep v ≤ 420 ∧ Q (.bl (isIntD v)) S
def isIntBody {φ : Type} : List (St φ) := [
  .ret (.and (.isi .int (.var 0)) (.not (.isi .bool (.var 0))))]
theorem p_isInt {ds : List D} {S : SH} {Q : KD} {x : XW} (h : spIsInt ds S Q x) : wpB Γ G 1 isIntBody ds S Q x := by
  obtain ⟨v, rfl, hv, q⟩ := h
  unfold wpB
  change wpSs Γ G _ x _ [some v] S
  refine c_cons ?_
  simp only [s_nil, s_expr, s_asg, s_put, s_par, s_aug, s_ret, s_retN, s_ifs, s_forr, s_brk, s_cont, s_pass, e_var, e_lit, e_gl, e_tup, e_lst, e_bin, e_neg, e_cmp, e_chain, e_isN, e_isB, e_and, e_or, e_not, e_ite, e_idx, e_slcL, e_slcU, e_slcB, e_rev, e_isi, e_call, e_bf, e_meth, e_comp, e_bfc, e_dcomp, e_lenset, e_nil, e_cons, g_nm, g_tup, g_nil, g_cons, sl_0, sl_s, List.set, setN, wipeD, List.map, Bool.not_true, Bool.not_false]
  refine t_isd hv (t_br (fun h1 => t_isd hv (t_not (ret_same ?_))) fun h1 => ret_same ?_)
  · cases v <;> first | exact q | cases h1
  · cases v <;> first | exact q | cases h1
/-! ### _law_nodes_of -/
def spNodes (R : D → Prop) (m : Nat) : DSp := fun ds S Q _ => ∃ (v : D) (l : Addr) (xs : List D), ds = [v, .ref l] ∧ S l = some (.lst xs) ∧ dep v ≤ m ∧ R v ∧ (∀ d ∈ xs, R d) ∧ xs.length ≤ 3000 ∧
  ∀ xs' : List D, (∀ d ∈ xs', R d) → xs'.length ≤ 3000 → xs' ≠ [] → Q (.ref l) (up S l (.lst xs'))
def nodesBody {φ : Type} (self : φ) : List (St φ) := [
  .ifs (.cmp .lt (.bf .len [.var 1]) (.lit (.int 3000))) [.expr (.meth .append (.var 1) [.var 0])] [],
  .ifs (.isi .tuple (.var 0)) [.forr .any [.var 0] (.nm 2) [.expr (.call self [.var 2, .var 1])]] [],
  .ret (.var 1)]
theorem p_nodes {R : D → Prop} {self : φ} {M : Nat} {ds : List D} {S : SH} {Q : KD} {x : XW} (hR : Her R) (hM : M ≤ 400) (hk : ∀ m, m + 1 = M → ∀ ds S Q x, spNodes R m ds S Q x → Γ self ds S Q x) (h : spNodes R M ds S Q x) : wpB Γ G 3 (nodesBody self) ds S Q x := by
  obtain ⟨v, l, xs, rfl, h1, hv, rv, rx, hl, q⟩ := h
  have hz : sizeLine = 16777216 := sizeLine_eq
  unfold wpB
  change wpSs Γ G _ x _ [some v, some (.ref l), none] S
  have rest : ∀ (S1 : SH) (xs : List D), (∀ o, up S1 l o = up S l o) → S1 l = some (.lst xs) → (∀ d ∈ xs, R d) → xs.length ≤ 3000 → xs ≠ [] → wpSs Γ G ((nodesBody self).drop 1) x { nx := fun _ S' => ∃ S'', Sub S'' S' ∧ Q .non S'', rt := fun d S' => ∃ S'', Sub S'' S' ∧ Q d S'' } [some v, some (.ref l), none] S1 := fun S1 xs hS h1 rx hl hne => by
    have fin : ∀ (o : Option D) (S2 : SH) (xs : List D), S2 = up S l (.lst xs) → (∀ d ∈ xs, R d) → xs.length ≤ 3000 → xs ≠ [] → wpSs Γ G ((nodesBody self).drop 2) x { nx := fun _ S' => ∃ S'', Sub S'' S' ∧ Q .non S'', rt := fun d S' => ∃ S'', Sub S'' S' ∧ Q d S'' } [some v, some (.ref l), o] S2 := fun o S2 xs e rx hl hne => by
      refine c_cons ?_
      simp only [s_nil, s_expr, s_asg, s_put, s_par, s_aug, s_ret, s_retN, s_ifs, s_forr, s_brk, s_cont, s_pass, e_var, e_lit, e_gl, e_tup, e_lst, e_bin, e_neg, e_cmp, e_chain, e_isN, e_isB, e_and, e_or, e_not, e_ite, e_idx, e_slcL, e_slcU, e_slcB, e_rev, e_isi, e_call, e_bf, e_meth, e_comp, e_bfc, e_dcomp, e_lenset, e_nil, e_cons, g_nm, g_tup, g_nil, g_cons, sl_0, sl_s, List.set, setN, wipeD, List.map, Bool.not_true, Bool.not_false]
      rw [e]
      exact ret_same (q xs rx hl hne)
    have e1 : S1 = up S l (.lst xs) := by rw [← hS, up_id h1]
    refine c_cons ?_
    simp only [s_nil, s_expr, s_asg, s_put, s_par, s_aug, s_ret, s_retN, s_ifs, s_forr, s_brk, s_cont, s_pass, e_var, e_lit, e_gl, e_tup, e_lst, e_bin, e_neg, e_cmp, e_chain, e_isN, e_isB, e_and, e_or, e_not, e_ite, e_idx, e_slcL, e_slcU, e_slcB, e_rev, e_isi, e_call, e_bf, e_meth, e_comp, e_bfc, e_dcomp, e_lenset, e_nil, e_cons, g_nm, g_tup, g_nil, g_cons, sl_0, sl_s, List.set, setN, wipeD, List.map, Bool.not_true, Bool.not_false]
    refine t_isd (by omega) (t_br (fun ht => ?_) fun _ => fin none S1 xs e1 rx hl hne)
    cases v with
    | tup vs =>
      refine c_cons ?_
      simp only [s_nil, s_expr, s_asg, s_put, s_par, s_aug, s_ret, s_retN, s_ifs, s_forr, s_brk, s_cont, s_pass, e_var, e_lit, e_gl, e_tup, e_lst, e_bin, e_neg, e_cmp, e_chain, e_isN, e_isB, e_and, e_or, e_not, e_ite, e_idx, e_slcL, e_slcU, e_slcB, e_rev, e_isi, e_call, e_bf, e_meth, e_comp, e_bfc, e_dcomp, e_lenset, e_nil, e_cons, g_nm, g_tup, g_nil, g_cons, sl_0, sl_s, List.set, setN, wipeD, List.map, Bool.not_true, Bool.not_false]
      refine t_wkt ?_
      have hd : deps vs + 1 ≤ M := hv
      refine wpF_inv (fun r ρ S' => (∃ o, ρ = [some (.tup vs), some (.ref l), o]) ∧ (∀ d ∈ r, d ∈ vs) ∧ ∃ xs, S' = up S l (.lst xs) ∧ (∀ d ∈ xs, R d) ∧ xs.length ≤ 3000 ∧ xs ≠ []) (fun d r ρ S2 ⟨⟨o, eρ⟩, hr, xs, e, rx, hl, hne⟩ => ⟨True.intro, fun N hN => ?_⟩) (fun ρ S2 ⟨⟨o, eρ⟩, hr, xs, e, rx, hl, hne⟩ => ⟨True.intro, ?_⟩) _ _ _ ⟨⟨_, rfl⟩, fun _ h => h, xs, e1, rx, hl, hne⟩
      · subst eρ; subst e
        simp only [s_nil, s_expr, s_asg, s_put, s_par, s_aug, s_ret, s_retN, s_ifs, s_forr, s_brk, s_cont, s_pass, e_var, e_lit, e_gl, e_tup, e_lst, e_bin, e_neg, e_cmp, e_chain, e_isN, e_isB, e_and, e_or, e_not, e_ite, e_idx, e_slcL, e_slcU, e_slcB, e_rev, e_isi, e_call, e_bf, e_meth, e_comp, e_bfc, e_dcomp, e_lenset, e_nil, e_cons, g_nm, g_tup, g_nil, g_cons, sl_0, sl_s, List.set, setN, wipeD, List.map, Bool.not_true, Bool.not_false]
        refine c_cons ?_
        simp only [s_nil, s_expr, s_asg, s_put, s_par, s_aug, s_ret, s_retN, s_ifs, s_forr, s_brk, s_cont, s_pass, e_var, e_lit, e_gl, e_tup, e_lst, e_bin, e_neg, e_cmp, e_chain, e_isN, e_isB, e_and, e_or, e_not, e_ite, e_idx, e_slcL, e_slcU, e_slcB, e_rev, e_isi, e_call, e_bf, e_meth, e_comp, e_bfc, e_dcomp, e_lenset, e_nil, e_cons, g_nm, g_tup, g_nil, g_cons, sl_0, sl_s, List.set, setN, wipeD, List.map, Bool.not_true, Bool.not_false]
        have hdv := hr d (by simp)
        refine hk (M - 1) (by omega) _ _ _ _ ⟨d, l, xs, rfl, up_same, by have := dep_mem hdv; omega, hR _ rv d hdv, rx, hl, fun xs' r1 r2 r3 => hN _ _ ⟨⟨_, rfl⟩, fun d hd => hr d (by simp [hd]), xs', ?_, r1, r2, r3⟩⟩
        rw [up_up]
      · subst eρ
        exact fin o S2 xs e rx hl hne
    | _ => cases ht
  refine c_cons ?_
  simp only [s_nil, s_expr, s_asg, s_put, s_par, s_aug, s_ret, s_retN, s_ifs, s_forr, s_brk, s_cont, s_pass, e_var, e_lit, e_gl, e_tup, e_lst, e_bin, e_neg, e_cmp, e_chain, e_isN, e_isB, e_and, e_or, e_not, e_ite, e_idx, e_slcL, e_slcU, e_slcB, e_rev, e_isi, e_call, e_bf, e_meth, e_comp, e_bfc, e_dcomp, e_lenset, e_nil, e_cons, g_nm, g_tup, g_nil, g_cons, sl_0, sl_s, List.set, setN, wipeD, List.map, Bool.not_true, Bool.not_false]
  repeat (first | with_reducible refine t_add ?_ | with_reducible refine t_sub ?_ | with_reducible refine t_lt ?_ | with_reducible refine t_le ?_ | with_reducible refine t_gt ?_ | with_reducible refine t_ge ?_ | with_reducible refine t_eqi ?_ | with_reducible refine t_nei ?_ | with_reducible refine t_int ?_ | with_reducible refine t_intb ?_ | with_reducible refine t_max2 ?_ | with_reducible refine t_min2 ?_ | with_reducible refine t_lent ?_ | with_reducible refine t_lens ?_ | with_reducible refine t_mts ?_ | with_reducible refine t_not ?_ | with_reducible refine t_slt ?_ | with_reducible refine t_revt ?_ | with_reducible refine t_tupc ?_ | with_reducible refine t_wkt ?_ | with_reducible refine t_wks ?_ | with_reducible refine t_ixl (by first | assumption | exact up_same | exact (up_ne (by assumption)).trans (by assumption) | exact (up_ne (by assumption)).trans up_same | exact (up_ne (by assumption)).trans ((up_ne (by assumption)).trans (by assumption))) (by with_unfolding_all rfl) ?_ | with_reducible refine t_ixt (by with_unfolding_all rfl) ?_ | with_reducible refine t_len (by first | assumption | exact up_same | exact (up_ne (by assumption)).trans (by assumption) | exact (up_ne (by assumption)).trans up_same | exact (up_ne (by assumption)).trans ((up_ne (by assumption)).trans (by assumption))) ?_ | with_reducible refine t_put (by first | assumption | exact up_same | exact (up_ne (by assumption)).trans (by assumption) | exact (up_ne (by assumption)).trans up_same | exact (up_ne (by assumption)).trans ((up_ne (by assumption)).trans (by assumption))) (by with_unfolding_all rfl) ?_ | with_reducible refine t_notl (by first | assumption | exact up_same | exact (up_ne (by assumption)).trans (by assumption) | exact (up_ne (by assumption)).trans up_same | exact (up_ne (by assumption)).trans ((up_ne (by assumption)).trans (by assumption))) ?_ | with_reducible refine t_mod (by decide) ?_ | with_reducible refine t_fdiv (by decide) ?_ | with_reducible refine t_pow (by decide) ?_ | with_reducible refine t_mulr (by decide) ?_ | with_reducible refine t_mull (by decide) ?_)
  refine t_br (fun hlt => ?_) fun hlt => ?_
  · have hlt' : xs.length < 3000 := by have := of_decide_eq_true hlt; omega
    refine c_cons ?_
    simp only [s_nil, s_expr, s_asg, s_put, s_par, s_aug, s_ret, s_retN, s_ifs, s_forr, s_brk, s_cont, s_pass, e_var, e_lit, e_gl, e_tup, e_lst, e_bin, e_neg, e_cmp, e_chain, e_isN, e_isB, e_and, e_or, e_not, e_ite, e_idx, e_slcL, e_slcU, e_slcB, e_rev, e_isi, e_call, e_bf, e_meth, e_comp, e_bfc, e_dcomp, e_lenset, e_nil, e_cons, g_nm, g_tup, g_nil, g_cons, sl_0, sl_s, List.set, setN, wipeD, List.map, Bool.not_true, Bool.not_false]
    refine t_mt (by simp) h1 (t_app h1 (by omega) (rest _ (xs ++ [v]) (fun o => up_up) up_same ?_ (by simp; omega) (by simp)))
    intro d hd
    rcases List.mem_append.mp hd with z | z
    · exact rx d z
    · rw [List.mem_singleton.mp z]; exact rv
  · have hlt' : ¬ xs.length < 3000 := by have := of_decide_eq_false hlt; omega
    exact rest S xs (fun o => rfl) h1 rx hl (by intro e; subst e; simp at hlt')
/-! ### _law_changed -/
def ChgOk (p : D → Bool) (v other : D) (i : Int) (r : D) (i' : Int) : Prop := (r = v ∧ (i' ≤ 0 ↔ i ≤ 0)) ∨ (0 < i ∧ i' ≤ 0 ∧ allL p r = true ∧ sz r ≤ sz v + sz other)
def spChg (p : D → Bool) (m : Nat) : DSp := fun ds S Q _ => ∃ (v other : D) (l : Addr) (i : Int), ds = [v, .ref l, other] ∧ S l = some (.lst [.int i]) ∧ dep v ≤ m ∧ allL p v = true ∧ allL p other = true ∧
  ∀ r i', ChgOk p v other i r i' → Q r (up S l (.lst [.int i']))
def chgBody {φ : Type} (self : φ) : List (St φ) := [
  .put (.var 1) (.lit (.int 0)) (.bin .sub (.idx (.var 1) (.lit (.int 0))) (.lit (.int 1))),
  .ifs (.cmp .eq (.idx (.var 1) (.lit (.int 0))) (.lit (.int 0))) [.ret (.var 2)] [],
  .ifs (.not (.isi .tuple (.var 0))) [.ret (.var 0)] [],
  .ret (.bfc .tuple [("part", 3)] .any [.var 0] (.nm 3) (.lit (.bl true)) (.call self [.var 3, .var 1, .var 2]))]
theorem p_chg {p : D → Bool} (hpl : ∀ xs ys : List D, xs.length = ys.length → p (.tup xs) = p (.tup ys)) {self : φ} {M : Nat} {ds : List D} {S : SH} {Q : KD} {x : XW} (hM : M ≤ 400) (hk : ∀ m, m + 1 = M → ∀ ds S Q x, spChg p m ds S Q x → Γ self ds S Q x) (h : spChg p M ds S Q x) : wpB Γ G 4 (chgBody self) ds S Q x := by
  obtain ⟨v, other, l, i, rfl, h1, hv, pv, po, q⟩ := h
  unfold wpB
  change wpSs Γ G _ x _ [some v, some (.ref l), some other, none] S
  refine c_cons ?_
  simp only [s_nil, s_expr, s_asg, s_put, s_par, s_aug, s_ret, s_retN, s_ifs, s_forr, s_brk, s_cont, s_pass, e_var, e_lit, e_gl, e_tup, e_lst, e_bin, e_neg, e_cmp, e_chain, e_isN, e_isB, e_and, e_or, e_not, e_ite, e_idx, e_slcL, e_slcU, e_slcB, e_rev, e_isi, e_call, e_bf, e_meth, e_comp, e_bfc, e_dcomp, e_lenset, e_nil, e_cons, g_nm, g_tup, g_nil, g_cons, sl_0, sl_s, List.set, setN, wipeD, List.map, Bool.not_true, Bool.not_false]
  repeat (first | with_reducible refine t_add ?_ | with_reducible refine t_sub ?_ | with_reducible refine t_lt ?_ | with_reducible refine t_le ?_ | with_reducible refine t_gt ?_ | with_reducible refine t_ge ?_ | with_reducible refine t_eqi ?_ | with_reducible refine t_nei ?_ | with_reducible refine t_int ?_ | with_reducible refine t_intb ?_ | with_reducible refine t_max2 ?_ | with_reducible refine t_min2 ?_ | with_reducible refine t_lent ?_ | with_reducible refine t_lens ?_ | with_reducible refine t_mts ?_ | with_reducible refine t_not ?_ | with_reducible refine t_slt ?_ | with_reducible refine t_revt ?_ | with_reducible refine t_tupc ?_ | with_reducible refine t_wkt ?_ | with_reducible refine t_wks ?_ | with_reducible refine t_ixl (by first | assumption | exact up_same | exact (up_ne (by assumption)).trans (by assumption) | exact (up_ne (by assumption)).trans up_same | exact (up_ne (by assumption)).trans ((up_ne (by assumption)).trans (by assumption))) (by with_unfolding_all rfl) ?_ | with_reducible refine t_ixt (by with_unfolding_all rfl) ?_ | with_reducible refine t_len (by first | assumption | exact up_same | exact (up_ne (by assumption)).trans (by assumption) | exact (up_ne (by assumption)).trans up_same | exact (up_ne (by assumption)).trans ((up_ne (by assumption)).trans (by assumption))) ?_ | with_reducible refine t_put (by first | assumption | exact up_same | exact (up_ne (by assumption)).trans (by assumption) | exact (up_ne (by assumption)).trans up_same | exact (up_ne (by assumption)).trans ((up_ne (by assumption)).trans (by assumption))) (by with_unfolding_all rfl) ?_ | with_reducible refine t_notl (by first | assumption | exact up_same | exact (up_ne (by assumption)).trans (by assumption) | exact (up_ne (by assumption)).trans up_same | exact (up_ne (by assumption)).trans ((up_ne (by assumption)).trans (by assumption))) ?_ | with_reducible refine t_mod (by decide) ?_ | with_reducible refine t_fdiv (by decide) ?_ | with_reducible refine t_pow (by decide) ?_ | with_reducible refine t_mulr (by decide) ?_ | with_reducible refine t_mull (by decide) ?_)
  refine c_cons ?_
  simp only [s_nil, s_expr, s_asg, s_put, s_par, s_aug, s_ret, s_retN, s_ifs, s_forr, s_brk, s_cont, s_pass, e_var, e_lit, e_gl, e_tup, e_lst, e_bin, e_neg, e_cmp, e_chain, e_isN, e_isB, e_and, e_or, e_not, e_ite, e_idx, e_slcL, e_slcU, e_slcB, e_rev, e_isi, e_call, e_bf, e_meth, e_comp, e_bfc, e_dcomp, e_lenset, e_nil, e_cons, g_nm, g_tup, g_nil, g_cons, sl_0, sl_s, List.set, setN, wipeD, List.map, Bool.not_true, Bool.not_false]
  repeat (first | with_reducible refine t_add ?_ | with_reducible refine t_sub ?_ | with_reducible refine t_lt ?_ | with_reducible refine t_le ?_ | with_reducible refine t_gt ?_ | with_reducible refine t_ge ?_ | with_reducible refine t_eqi ?_ | with_reducible refine t_nei ?_ | with_reducible refine t_int ?_ | with_reducible refine t_intb ?_ | with_reducible refine t_max2 ?_ | with_reducible refine t_min2 ?_ | with_reducible refine t_lent ?_ | with_reducible refine t_lens ?_ | with_reducible refine t_mts ?_ | with_reducible refine t_not ?_ | with_reducible refine t_slt ?_ | with_reducible refine t_revt ?_ | with_reducible refine t_tupc ?_ | with_reducible refine t_wkt ?_ | with_reducible refine t_wks ?_ | with_reducible refine t_ixl (by first | assumption | exact up_same | exact (up_ne (by assumption)).trans (by assumption) | exact (up_ne (by assumption)).trans up_same | exact (up_ne (by assumption)).trans ((up_ne (by assumption)).trans (by assumption))) (by with_unfolding_all rfl) ?_ | with_reducible refine t_ixt (by with_unfolding_all rfl) ?_ | with_reducible refine t_len (by first | assumption | exact up_same | exact (up_ne (by assumption)).trans (by assumption) | exact (up_ne (by assumption)).trans up_same | exact (up_ne (by assumption)).trans ((up_ne (by assumption)).trans (by assumption))) ?_ | with_reducible refine t_put (by first | assumption | exact up_same | exact (up_ne (by assumption)).trans (by assumption) | exact (up_ne (by assumption)).trans up_same | exact (up_ne (by assumption)).trans ((up_ne (by assumption)).trans (by assumption))) (by with_unfolding_all rfl) ?_ | with_reducible refine t_notl (by first | assumption | exact up_same | exact (up_ne (by assumption)).trans (by assumption) | exact (up_ne (by assumption)).trans up_same | exact (up_ne (by assumption)).trans ((up_ne (by assumption)).trans (by assumption))) ?_ | with_reducible refine t_mod (by decide) ?_ | with_reducible refine t_fdiv (by decide) ?_ | with_reducible refine t_pow (by decide) ?_ | with_reducible refine t_mulr (by decide) ?_ | with_reducible refine t_mull (by decide) ?_)
  refine t_br (fun hz => ?_) fun hz => ?_
  · have hz : i - 1 = 0 := by simpa using hz
    refine c_cons ?_
    simp only [s_nil, s_expr, s_asg, s_put, s_par, s_aug, s_ret, s_retN, s_ifs, s_forr, s_brk, s_cont, s_pass, e_var, e_lit, e_gl, e_tup, e_lst, e_bin, e_neg, e_cmp, e_chain, e_isN, e_isB, e_and, e_or, e_not, e_ite, e_idx, e_slcL, e_slcU, e_slcB, e_rev, e_isi, e_call, e_bf, e_meth, e_comp, e_bfc, e_dcomp, e_lenset, e_nil, e_cons, g_nm, g_tup, g_nil, g_cons, sl_0, sl_s, List.set, setN, wipeD, List.map, Bool.not_true, Bool.not_false]
    exact ret_same (q other (i - 1) (.inr ⟨by omega, by omega, po, by omega⟩))
  · have hz : i - 1 ≠ 0 := by simpa using hz
    refine c_cons ?_
    simp only [s_nil, s_expr, s_asg, s_put, s_par, s_aug, s_ret, s_retN, s_ifs, s_forr, s_brk, s_cont, s_pass, e_var, e_lit, e_gl, e_tup, e_lst, e_bin, e_neg, e_cmp, e_chain, e_isN, e_isB, e_and, e_or, e_not, e_ite, e_idx, e_slcL, e_slcU, e_slcB, e_rev, e_isi, e_call, e_bf, e_meth, e_comp, e_bfc, e_dcomp, e_lenset, e_nil, e_cons, g_nm, g_tup, g_nil, g_cons, sl_0, sl_s, List.set, setN, wipeD, List.map, Bool.not_true, Bool.not_false]
    refine t_isd (by omega) (t_not (t_br (fun ht => ?_) fun ht => ?_))
    · refine c_cons ?_
      simp only [s_nil, s_expr, s_asg, s_put, s_par, s_aug, s_ret, s_retN, s_ifs, s_forr, s_brk, s_cont, s_pass, e_var, e_lit, e_gl, e_tup, e_lst, e_bin, e_neg, e_cmp, e_chain, e_isN, e_isB, e_and, e_or, e_not, e_ite, e_idx, e_slcL, e_slcU, e_slcB, e_rev, e_isi, e_call, e_bf, e_meth, e_comp, e_bfc, e_dcomp, e_lenset, e_nil, e_cons, g_nm, g_tup, g_nil, g_cons, sl_0, sl_s, List.set, setN, wipeD, List.map, Bool.not_true, Bool.not_false]
      exact ret_same (q v (i - 1) (.inl ⟨rfl, by omega⟩))
    · cases v with
      | tup vs =>
        have hd : deps vs + 1 ≤ M := hv
        have pvs := allLs_iff.mp (allL_t.mp pv).2
        refine c_cons ?_
        simp only [s_nil, s_expr, s_asg, s_put, s_par, s_aug, s_ret, s_retN, s_ifs, s_forr, s_brk, s_cont, s_pass, e_var, e_lit, e_gl, e_tup, e_lst, e_bin, e_neg, e_cmp, e_chain, e_isN, e_isB, e_and, e_or, e_not, e_ite, e_idx, e_slcL, e_slcU, e_slcB, e_rev, e_isi, e_call, e_bf, e_meth, e_comp, e_bfc, e_dcomp, e_lenset, e_nil, e_cons, g_nm, g_tup, g_nil, g_cons, sl_0, sl_s, List.set, setN, wipeD, List.map, Bool.not_true, Bool.not_false]
        refine t_wkt ?_
        refine wpC_inv1 (fun r acc S' => ∃ (pre : List D) (j : Int), vs = pre ++ r ∧ S' = up S l (.lst [.int j]) ∧ ((acc = pre ∧ (j ≤ 0 ↔ i ≤ 0)) ∨ (0 < i ∧ j ≤ 0 ∧ allLs p acc = true ∧ szs acc ≤ szs pre + sz other ∧ acc.length = pre.length))) (fun d r acc S2 ⟨pre, j, e1, e2, e3⟩ => ⟨True.intro, fun K hK => ?_⟩) (fun acc S2 ⟨pre, j, e1, e2, e3⟩ => ⟨True.intro, ?_⟩) _ _ _ ⟨[], i - 1, rfl, rfl, .inl ⟨rfl, by omega⟩⟩
        · simp only [s_nil, s_expr, s_asg, s_put, s_par, s_aug, s_ret, s_retN, s_ifs, s_forr, s_brk, s_cont, s_pass, e_var, e_lit, e_gl, e_tup, e_lst, e_bin, e_neg, e_cmp, e_chain, e_isN, e_isB, e_and, e_or, e_not, e_ite, e_idx, e_slcL, e_slcU, e_slcB, e_rev, e_isi, e_call, e_bf, e_meth, e_comp, e_bfc, e_dcomp, e_lenset, e_nil, e_cons, g_nm, g_tup, g_nil, g_cons, sl_0, sl_s, List.set, setN, wipeD, List.map, Bool.not_true, Bool.not_false]
          have hdv : d ∈ vs := by rw [e1]; simp
          subst e2
          refine hk (M - 1) (by omega) _ _ _ _ ⟨d, other, l, j, rfl, up_same, by have := dep_mem hdv; omega, pvs d hdv, po, fun r' j' hc => hK _ _ ⟨pre ++ [d], j', by rw [e1]; simp, up_up, ?_⟩⟩
          rcases e3 with ⟨rfl, e3⟩ | ⟨i0, j0, a1, a2, a3⟩
          · rcases hc with ⟨rfl, hc⟩ | ⟨j1, j2, a1, a2⟩
            · exact .inl ⟨rfl, by omega⟩
            · refine .inr ⟨by omega, j2, allLs_iff.mpr fun y hy => ?_, by rw [szs_app, szs_app]; simp only [szs]; omega, by simp⟩
              rcases List.mem_append.mp hy with z | z
              · exact pvs y (by rw [e1]; simp [z])
              · rw [List.mem_singleton.mp z]; exact a1
          · rcases hc with ⟨rfl, hc⟩ | ⟨j1, _⟩
            · refine .inr ⟨i0, by omega, allLs_iff.mpr fun y hy => ?_, by rw [szs_app, szs_app]; simp only [szs]; omega, by simp [a3]⟩
              rcases List.mem_append.mp hy with z | z
              · exact allLs_iff.mp a1 y z
              · rw [List.mem_singleton.mp z]; exact pvs _ hdv
            · omega
        · refine t_tupc (ret_same ?_)
          rw [e2]
          rw [List.append_nil] at e1
          subst e1
          refine q _ _ ?_
          rcases e3 with ⟨rfl, e3⟩ | ⟨i0, j0, a1, a2, a3⟩
          · exact .inl ⟨rfl, e3⟩
          · exact .inr ⟨i0, j0, allL_t.mpr ⟨by rw [hpl _ _ a3]; exact (allL_t.mp pv).1, a1⟩, by show szs acc + 1 ≤ szs vs + 1 + _; omega⟩
      | _ => cases ht
end
end Lac
end

-- LacZc.lean
section
set_option Elab.async false
set_option linter.all false
set_option maxRecDepth 100000
set_option maxHeartbeats 2000000
set_option autoImplicit false
/-! Lac, part Zc: a value's height; a value spoilt. -/
namespace Lac
open PySem L2
theorem deps_app : ∀ xs ys : List D, deps (xs ++ ys) = max (deps xs) (deps ys)
  | [], ys => by simp [deps]
  | x :: xs, ys => by
    show max (dep x) (deps (xs ++ ys)) = max (max (dep x) (deps xs)) (deps ys)
    rw [deps_app xs ys]; omega
theorem Sub.new {S S' : SH} {p : Addr} {o : DO} (h : Sub S S') (hp : S' p = none) : Sub S (up S' p o) := fun x u e => nk (h x u e) hp
theorem nref_of {p : D → Bool} (hp : ∀ a, p (.ref a) = false) {d : D} (h : allL p d = true) : ∀ a, d ≠ .ref a := fun a e => by
  subst e
  have : p (.ref a) = true := h
  rw [hp] at this; cases this
section
variable {φ : Type} {Γ : φ → DSp} {G : Nat → Option D}
/-! ### _law_high -/
def spHigh (p : D → Bool) : DSp := fun ds S Q _ => ∃ v : D, ds = [v] ∧ allL p v = true ∧ sz v ≤ 16777216 ∧ ∀ r : Int, (r ≤ 90 → dep v ≤ 90) → Q (.int r) S
def highBody {φ : Type} : List (St φ) := [
  .asg (.nm 1) (.lst [.var 0]),
  .asg (.nm 2) (.lit (.int 0)),
  .asg (.nm 3) (.lit (.int 0)),
  .whl (.and (.var 1) (.cmp .lt (.var 3) (.lit (.int 4000)))) [.asg (.nm 2) (.bin .add (.var 2) (.lit (.int 1))),
    .asg (.nm 3) (.bin .add (.var 3) (.bf .len [.var 1])),
    .asg (.nm 4) (.lst []),
    .forr .any [.var 1] (.nm 5) [.ifs (.isi .tuple (.var 5)) [.expr (.meth .extend (.var 4) [.var 5])] []],
    .asg (.nm 1) (.var 4)],
  .ifs (.var 1) [.ret (.lit (.int 1000))] [],
  .ret (.var 2)]
theorem p_high {p : D → Bool} (hp : ∀ a, p (.ref a) = false) {ds : List D} {S : SH} {Q : KD} {x : XW} (h : spHigh p ds S Q x) : wpB Γ G 6 highBody ds S Q x := by
  obtain ⟨v, rfl, pv, zv, q⟩ := h
  have hz : sizeLine = 16777216 := sizeLine_eq
  unfold wpB
  change wpSs Γ G _ x _ [some v, none, none, none, none, none] S
  refine c_cons ?_
  simp only [s_nil, s_expr, s_asg, s_put, s_par, s_aug, s_ret, s_retN, s_ifs, s_forr, s_brk, s_cont, s_pass, e_var, e_lit, e_gl, e_tup, e_lst, e_bin, e_neg, e_cmp, e_chain, e_isN, e_isB, e_and, e_or, e_not, e_ite, e_idx, e_slcL, e_slcU, e_slcB, e_rev, e_isi, e_call, e_bf, e_meth, e_comp, e_bfc, e_dcomp, e_lenset, e_nil, e_cons, g_nm, g_tup, g_nil, g_cons, sl_0, sl_s, List.set, setN, wipeD, List.map, Bool.not_true, Bool.not_false]
  refine t_new fun l1 h1 => ?_
  refine c_cons ?_
  simp only [s_nil, s_expr, s_asg, s_put, s_par, s_aug, s_ret, s_retN, s_ifs, s_forr, s_brk, s_cont, s_pass, e_var, e_lit, e_gl, e_tup, e_lst, e_bin, e_neg, e_cmp, e_chain, e_isN, e_isB, e_and, e_or, e_not, e_ite, e_idx, e_slcL, e_slcU, e_slcB, e_rev, e_isi, e_call, e_bf, e_meth, e_comp, e_bfc, e_dcomp, e_lenset, e_nil, e_cons, g_nm, g_tup, g_nil, g_cons, sl_0, sl_s, List.set, setN, wipeD, List.map, Bool.not_true, Bool.not_false]
  refine c_cons ?_
  simp only [s_nil, s_expr, s_asg, s_put, s_par, s_aug, s_ret, s_retN, s_ifs, s_forr, s_brk, s_cont, s_pass, e_var, e_lit, e_gl, e_tup, e_lst, e_bin, e_neg, e_cmp, e_chain, e_isN, e_isB, e_and, e_or, e_not, e_ite, e_idx, e_slcL, e_slcU, e_slcB, e_rev, e_isi, e_call, e_bf, e_meth, e_comp, e_bfc, e_dcomp, e_lenset, e_nil, e_cons, g_nm, g_tup, g_nil, g_cons, sl_0, sl_s, List.set, setN, wipeD, List.map, Bool.not_true, Bool.not_false]
  refine c_cons ?_
  refine t_whl (fun m ρ S' => ∃ (l : Addr) (hi cnt : Int) (o4 o5 : Option D) (lv : List D), ρ = [some v, some (.ref l), some (.int hi), some (.int cnt), o4, o5] ∧ Sub S S' ∧ S' l = some (.lst lv) ∧ allLs p lv = true ∧ szs lv ≤ sz v ∧ (dep v : Int) ≤ hi + deps lv ∧ m = (4000 - cnt).toNat)
    _ ⟨l1, 0, 0, none, none, [v], rfl, Sub.new sub_refl h1, up_same, by simp [allLs, pv], by simp [szs], by simp [deps], rfl⟩ ?_
  rintro m ρ S1 ⟨l, hi, cnt, o4, o5, lv, rfl, sb, hl, plv, slv, dv, rfl⟩
  have exit : ∀ S2 : SH, S2 = S1 → wpSs Γ G (highBody.drop 4) x { nx := fun _ S' => ∃ S'', Sub S'' S' ∧ Q .non S'', rt := fun d S' => ∃ S'', Sub S'' S' ∧ Q d S'' } [some v, some (.ref l), some (.int hi), some (.int cnt), o4, o5] S2 := fun S2 e => by
    subst e
    refine c_cons ?_
    simp only [s_nil, s_expr, s_asg, s_put, s_par, s_aug, s_ret, s_retN, s_ifs, s_forr, s_brk, s_cont, s_pass, e_var, e_lit, e_gl, e_tup, e_lst, e_bin, e_neg, e_cmp, e_chain, e_isN, e_isB, e_and, e_or, e_not, e_ite, e_idx, e_slcL, e_slcU, e_slcB, e_rev, e_isi, e_call, e_bf, e_meth, e_comp, e_bfc, e_dcomp, e_lenset, e_nil, e_cons, g_nm, g_tup, g_nil, g_cons, sl_0, sl_s, List.set, setN, wipeD, List.map, Bool.not_true, Bool.not_false]
    refine t_brl hl (fun hne => ?_) fun he => ?_
    · refine c_cons ?_
      simp only [s_nil, s_expr, s_asg, s_put, s_par, s_aug, s_ret, s_retN, s_ifs, s_forr, s_brk, s_cont, s_pass, e_var, e_lit, e_gl, e_tup, e_lst, e_bin, e_neg, e_cmp, e_chain, e_isN, e_isB, e_and, e_or, e_not, e_ite, e_idx, e_slcL, e_slcU, e_slcB, e_rev, e_isi, e_call, e_bf, e_meth, e_comp, e_bfc, e_dcomp, e_lenset, e_nil, e_cons, g_nm, g_tup, g_nil, g_cons, sl_0, sl_s, List.set, setN, wipeD, List.map, Bool.not_true, Bool.not_false]
      exact ⟨S, sb, q _ (by omega)⟩
    · refine c_cons ?_
      simp only [s_nil, s_expr, s_asg, s_put, s_par, s_aug, s_ret, s_retN, s_ifs, s_forr, s_brk, s_cont, s_pass, e_var, e_lit, e_gl, e_tup, e_lst, e_bin, e_neg, e_cmp, e_chain, e_isN, e_isB, e_and, e_or, e_not, e_ite, e_idx, e_slcL, e_slcU, e_slcB, e_rev, e_isi, e_call, e_bf, e_meth, e_comp, e_bfc, e_dcomp, e_lenset, e_nil, e_cons, g_nm, g_tup, g_nil, g_cons, sl_0, sl_s, List.set, setN, wipeD, List.map, Bool.not_true, Bool.not_false]
      subst he
      have dv' : (dep v : Int) ≤ hi + (0 : Nat) := dv
      exact ⟨S, sb, q _ (fun h => by omega)⟩
  simp only [s_nil, s_expr, s_asg, s_put, s_par, s_aug, s_ret, s_retN, s_ifs, s_forr, s_brk, s_cont, s_pass, e_var, e_lit, e_gl, e_tup, e_lst, e_bin, e_neg, e_cmp, e_chain, e_isN, e_isB, e_and, e_or, e_not, e_ite, e_idx, e_slcL, e_slcU, e_slcB, e_rev, e_isi, e_call, e_bf, e_meth, e_comp, e_bfc, e_dcomp, e_lenset, e_nil, e_cons, g_nm, g_tup, g_nil, g_cons, sl_0, sl_s, List.set, setN, wipeD, List.map, Bool.not_true, Bool.not_false]
  refine t_brl hl (fun hne => ?_) fun he => ?_
  · refine t_lt (t_br (fun hc => ?_) fun hc => exit S1 rfl)
    have hc := of_decide_eq_true hc
    refine c_cons ?_
    simp only [s_nil, s_expr, s_asg, s_put, s_par, s_aug, s_ret, s_retN, s_ifs, s_forr, s_brk, s_cont, s_pass, e_var, e_lit, e_gl, e_tup, e_lst, e_bin, e_neg, e_cmp, e_chain, e_isN, e_isB, e_and, e_or, e_not, e_ite, e_idx, e_slcL, e_slcU, e_slcB, e_rev, e_isi, e_call, e_bf, e_meth, e_comp, e_bfc, e_dcomp, e_lenset, e_nil, e_cons, g_nm, g_tup, g_nil, g_cons, sl_0, sl_s, List.set, setN, wipeD, List.map, Bool.not_true, Bool.not_false]
    repeat (first | with_reducible refine t_add ?_ | with_reducible refine t_sub ?_ | with_reducible refine t_lt ?_ | with_reducible refine t_le ?_ | with_reducible refine t_gt ?_ | with_reducible refine t_ge ?_ | with_reducible refine t_eqi ?_ | with_reducible refine t_nei ?_ | with_reducible refine t_int ?_ | with_reducible refine t_intb ?_ | with_reducible refine t_max2 ?_ | with_reducible refine t_min2 ?_ | with_reducible refine t_lent ?_ | with_reducible refine t_lens ?_ | with_reducible refine t_mts ?_ | with_reducible refine t_not ?_ | with_reducible refine t_slt ?_ | with_reducible refine t_revt ?_ | with_reducible refine t_tupc ?_ | with_reducible refine t_wkt ?_ | with_reducible refine t_wks ?_ | with_reducible refine t_ixl (by first | assumption | exact up_same | exact (up_ne (by assumption)).trans (by assumption) | exact (up_ne (by assumption)).trans up_same | exact (up_ne (by assumption)).trans ((up_ne (by assumption)).trans (by assumption))) (by with_unfolding_all rfl) ?_ | with_reducible refine t_ixt (by with_unfolding_all rfl) ?_ | with_reducible refine t_len (by first | assumption | exact up_same | exact (up_ne (by assumption)).trans (by assumption) | exact (up_ne (by assumption)).trans up_same | exact (up_ne (by assumption)).trans ((up_ne (by assumption)).trans (by assumption))) ?_ | with_reducible refine t_put (by first | assumption | exact up_same | exact (up_ne (by assumption)).trans (by assumption) | exact (up_ne (by assumption)).trans up_same | exact (up_ne (by assumption)).trans ((up_ne (by assumption)).trans (by assumption))) (by with_unfolding_all rfl) ?_ | with_reducible refine t_notl (by first | assumption | exact up_same | exact (up_ne (by assumption)).trans (by assumption) | exact (up_ne (by assumption)).trans up_same | exact (up_ne (by assumption)).trans ((up_ne (by assumption)).trans (by assumption))) ?_ | with_reducible refine t_mod (by decide) ?_ | with_reducible refine t_fdiv (by decide) ?_ | with_reducible refine t_pow (by decide) ?_ | with_reducible refine t_mulr (by decide) ?_ | with_reducible refine t_mull (by decide) ?_)
    refine c_cons ?_
    simp only [s_nil, s_expr, s_asg, s_put, s_par, s_aug, s_ret, s_retN, s_ifs, s_forr, s_brk, s_cont, s_pass, e_var, e_lit, e_gl, e_tup, e_lst, e_bin, e_neg, e_cmp, e_chain, e_isN, e_isB, e_and, e_or, e_not, e_ite, e_idx, e_slcL, e_slcU, e_slcB, e_rev, e_isi, e_call, e_bf, e_meth, e_comp, e_bfc, e_dcomp, e_lenset, e_nil, e_cons, g_nm, g_tup, g_nil, g_cons, sl_0, sl_s, List.set, setN, wipeD, List.map, Bool.not_true, Bool.not_false]
    repeat (first | with_reducible refine t_add ?_ | with_reducible refine t_sub ?_ | with_reducible refine t_lt ?_ | with_reducible refine t_le ?_ | with_reducible refine t_gt ?_ | with_reducible refine t_ge ?_ | with_reducible refine t_eqi ?_ | with_reducible refine t_nei ?_ | with_reducible refine t_int ?_ | with_reducible refine t_intb ?_ | with_reducible refine t_max2 ?_ | with_reducible refine t_min2 ?_ | with_reducible refine t_lent ?_ | with_reducible refine t_lens ?_ | with_reducible refine t_mts ?_ | with_reducible refine t_not ?_ | with_reducible refine t_slt ?_ | with_reducible refine t_revt ?_ | with_reducible refine t_tupc ?_ | with_reducible refine t_wkt ?_ | with_reducible refine t_wks ?_ | with_reducible refine t_ixl (by first | assumption | exact up_same | exact (up_ne (by assumption)).trans (by assumption) | exact (up_ne (by assumption)).trans up_same | exact (up_ne (by assumption)).trans ((up_ne (by assumption)).trans (by assumption))) (by with_unfolding_all rfl) ?_ | with_reducible refine t_ixt (by with_unfolding_all rfl) ?_ | with_reducible refine t_len (by first | assumption | exact up_same | exact (up_ne (by assumption)).trans (by assumption) | exact (up_ne (by assumption)).trans up_same | exact (up_ne (by assumption)).trans ((up_ne (by assumption)).trans (by assumption))) ?_ | with_reducible refine t_put (by first | assumption | exact up_same | exact (up_ne (by assumption)).trans (by assumption) | exact (up_ne (by assumption)).trans up_same | exact (up_ne (by assumption)).trans ((up_ne (by assumption)).trans (by assumption))) (by with_unfolding_all rfl) ?_ | with_reducible refine t_notl (by first | assumption | exact up_same | exact (up_ne (by assumption)).trans (by assumption) | exact (up_ne (by assumption)).trans up_same | exact (up_ne (by assumption)).trans ((up_ne (by assumption)).trans (by assumption))) ?_ | with_reducible refine t_mod (by decide) ?_ | with_reducible refine t_fdiv (by decide) ?_ | with_reducible refine t_pow (by decide) ?_ | with_reducible refine t_mulr (by decide) ?_ | with_reducible refine t_mull (by decide) ?_)
    refine c_cons ?_
    simp only [s_nil, s_expr, s_asg, s_put, s_par, s_aug, s_ret, s_retN, s_ifs, s_forr, s_brk, s_cont, s_pass, e_var, e_lit, e_gl, e_tup, e_lst, e_bin, e_neg, e_cmp, e_chain, e_isN, e_isB, e_and, e_or, e_not, e_ite, e_idx, e_slcL, e_slcU, e_slcB, e_rev, e_isi, e_call, e_bf, e_meth, e_comp, e_bfc, e_dcomp, e_lenset, e_nil, e_cons, g_nm, g_tup, g_nil, g_cons, sl_0, sl_s, List.set, setN, wipeD, List.map, Bool.not_true, Bool.not_false]
    refine t_new fun l4 h4 => ?_
    have hl4 := nk (o' := .lst []) hl h4
    refine c_cons ?_
    simp only [s_nil, s_expr, s_asg, s_put, s_par, s_aug, s_ret, s_retN, s_ifs, s_forr, s_brk, s_cont, s_pass, e_var, e_lit, e_gl, e_tup, e_lst, e_bin, e_neg, e_cmp, e_chain, e_isN, e_isB, e_and, e_or, e_not, e_ite, e_idx, e_slcL, e_slcU, e_slcB, e_rev, e_isi, e_call, e_bf, e_meth, e_comp, e_bfc, e_dcomp, e_lenset, e_nil, e_cons, g_nm, g_tup, g_nil, g_cons, sl_0, sl_s, List.set, setN, wipeD, List.map, Bool.not_true, Bool.not_false]
    refine t_wkl hl4 ?_
    have hne4 : l4 ≠ l := ne_new hl h4
    have pmem := allLs_iff.mp plv
    refine wpF_inv (fun r ρ S' => ∃ (o5 : Option D) (dp pre : List D), ρ = [some v, some (.ref l), some (.int (hi + 1)), some (.int (cnt + lv.length)), some (.ref l4), o5] ∧ Sub S S' ∧ S' l = some (.lst lv) ∧ S' l4 = some (.lst dp) ∧ allLs p dp = true ∧ szs dp + szs r ≤ szs lv ∧ lv = pre ++ r ∧ deps pre ≤ deps dp + 1)
      (fun d r ρ S2 ⟨o5, dp, pre, e1, e2, e3, e4, e5, e6, e7, e8⟩ => ⟨e3, fun N hN => ?_⟩) (fun ρ S2 ⟨o5, dp, pre, e1, e2, e3, e4, e5, e6, e7, e8⟩ => ⟨e3, ?_⟩) _ _ _ ⟨o5, [], [], rfl, Sub.new sb h4, hl4, up_same, rfl, by simp [szs], rfl, by simp [deps]⟩
    · subst e1
      have pd := pmem d (by rw [e7]; simp)
      simp only [s_nil, s_expr, s_asg, s_put, s_par, s_aug, s_ret, s_retN, s_ifs, s_forr, s_brk, s_cont, s_pass, e_var, e_lit, e_gl, e_tup, e_lst, e_bin, e_neg, e_cmp, e_chain, e_isN, e_isB, e_and, e_or, e_not, e_ite, e_idx, e_slcL, e_slcU, e_slcB, e_rev, e_isi, e_call, e_bf, e_meth, e_comp, e_bfc, e_dcomp, e_lenset, e_nil, e_cons, g_nm, g_tup, g_nil, g_cons, sl_0, sl_s, List.set, setN, wipeD, List.map, Bool.not_true, Bool.not_false]
      refine c_cons ?_
      simp only [s_nil, s_expr, s_asg, s_put, s_par, s_aug, s_ret, s_retN, s_ifs, s_forr, s_brk, s_cont, s_pass, e_var, e_lit, e_gl, e_tup, e_lst, e_bin, e_neg, e_cmp, e_chain, e_isN, e_isB, e_and, e_or, e_not, e_ite, e_idx, e_slcL, e_slcU, e_slcB, e_rev, e_isi, e_call, e_bf, e_meth, e_comp, e_bfc, e_dcomp, e_lenset, e_nil, e_cons, g_nm, g_tup, g_nil, g_cons, sl_0, sl_s, List.set, setN, wipeD, List.map, Bool.not_true, Bool.not_false]
      refine t_isn (nref_of hp pd) (t_br (fun ht => ?_) fun ht => ?_)
      · cases d with
        | tup es =>
          have e6' : szs dp + (szs es + 1 + szs r) ≤ szs lv := e6
          refine c_cons ?_
          simp only [s_nil, s_expr, s_asg, s_put, s_par, s_aug, s_ret, s_retN, s_ifs, s_forr, s_brk, s_cont, s_pass, e_var, e_lit, e_gl, e_tup, e_lst, e_bin, e_neg, e_cmp, e_chain, e_isN, e_isB, e_and, e_or, e_not, e_ite, e_idx, e_slcL, e_slcU, e_slcB, e_rev, e_isi, e_call, e_bf, e_meth, e_comp, e_bfc, e_dcomp, e_lenset, e_nil, e_cons, g_nm, g_tup, g_nil, g_cons, sl_0, sl_s, List.set, setN, wipeD, List.map, Bool.not_true, Bool.not_false]
          have a1 := len_szs dp
          have a2 := len_szs es
          refine t_mt (by simp) e4 (t_ext e4 (by omega) (hN _ _ ⟨_, dp ++ es, pre ++ [.tup es], rfl, fun y o ho => ?_, by rw [up_ne (Ne.symm hne4)]; exact e3, up_same, ?_, by rw [szs_app]; omega, by rw [e7]; simp, ?_⟩))
          · by_cases hy : y = l4
            · subst hy
              have := sb y o ho
              rw [h4] at this; cases this
            · rw [up_ne hy]; exact e2 y o ho
          · refine allLs_iff.mpr fun y hy => ?_
            rcases List.mem_append.mp hy with z | z
            · exact allLs_iff.mp e5 y z
            · exact allLs_iff.mp (allL_t.mp pd).2 y z
          · rw [deps_app, deps_app]
            show max (deps pre) (max (deps es + 1) 0) ≤ _
            omega
        | _ => cases ht
      · have hd0 : dep d = 0 := by
          cases d with
          | tup => cases ht
          | ref a => exact (nref_of hp pd a rfl).elim
          | _ => rfl
        have := sz_pos d
        have e6' : szs dp + (sz d + szs r) ≤ szs lv := e6
        refine hN _ _ ⟨_, dp, pre ++ [d], rfl, e2, e3, e4, e5, by omega, by rw [e7]; simp, ?_⟩
        rw [deps_app]
        show max (deps pre) (max (dep d) 0) ≤ _
        omega
    · subst e1
      rw [List.append_nil] at e7
      subst e7
      refine c_cons ?_
      simp only [s_nil, s_expr, s_asg, s_put, s_par, s_aug, s_ret, s_retN, s_ifs, s_forr, s_brk, s_cont, s_pass, e_var, e_lit, e_gl, e_tup, e_lst, e_bin, e_neg, e_cmp, e_chain, e_isN, e_isB, e_and, e_or, e_not, e_ite, e_idx, e_slcL, e_slcU, e_slcB, e_rev, e_isi, e_call, e_bf, e_meth, e_comp, e_bfc, e_dcomp, e_lenset, e_nil, e_cons, g_nm, g_tup, g_nil, g_cons, sl_0, sl_s, List.set, setN, wipeD, List.map, Bool.not_true, Bool.not_false]
      have hln : 1 ≤ lv.length := by cases lv with
        | nil => exact absurd rfl hne
        | cons => simp
      refine ⟨_, ?_, l4, hi + 1, cnt + lv.length, some (.ref l4), o5, dp, rfl, e2, e4, e5, ?_, ?_, rfl⟩
      · omega
      · have : szs dp + 0 ≤ szs lv := e6
        omega
      · omega
  · refine t_brl hl (fun hne => absurd he hne) fun _ => exit S1 rfl
end
end Lac
end

-- LacZd.lean
section
set_option Elab.async false
set_option linter.all false
set_option maxRecDepth 100000
set_option maxHeartbeats 4000000
set_option autoImplicit false
/-! Lac, part Zd: a value with a part replaced. -/
namespace Lac
open PySem L2
theorem Go.sub {S S' : SH} {a b : Addr} {cs : List Int} {e : Int} (g : Go S S' a b cs e) {x : Addr} {o : DO} (hx : x ≠ a) (h : S x = some o) : S' x = some o := g.2 x o hx h
theorem szs_take : ∀ (n : Nat) (ds : List D), szs (ds.take n) ≤ szs ds
  | 0, _ => by simp [szs]
  | _ + 1, [] => by simp
  | n + 1, d :: ds => by have := szs_take n ds; show sz d + szs (ds.take n) ≤ sz d + szs ds; omega
theorem szs_drop : ∀ (n : Nat) (ds : List D), szs (ds.drop n) ≤ szs ds
  | 0, _ => by simp
  | _ + 1, [] => by simp
  | n + 1, d :: ds => by have := szs_drop n ds; show szs (ds.drop n) ≤ sz d + szs ds; omega
theorem szs_cut (ds : List D) (lo hi : Option Int) : szs (cutD ds lo hi) ≤ szs ds := Nat.le_trans (szs_take _ _) (szs_drop _ _)
theorem mem_cut {ds : List D} {lo hi : Option Int} {d : D} (h : d ∈ cutD ds lo hi) : d ∈ ds := List.mem_of_mem_drop (List.mem_of_mem_take h)
theorem cut_le (ds : List D) (lo hi : Option Int) : (cutD ds lo hi).length ≤ ds.length := by unfold cutD; rw [List.length_take, List.length_drop]; omega
theorem cut_last (ds : List D) : (cutD ds (some (-1)) none).length ≤ 1 := by
  unfold cutD
  rw [List.length_take, List.length_drop]
  unfold sIxD
  simp only
  rw [if_pos (by decide)]
  omega
theorem szs_rev (ds : List D) : szs ds.reverse = szs ds := by
  induction ds with
  | nil => rfl
  | cons d ds ih => rw [List.reverse_cons, szs_app, ih]; simp only [szs]; omega
/-- what a value of the laws is -/
structure Vl (p : D → Bool) (B : Nat) (d : D) : Prop where
  al : allL p d = true
  dp : dep d ≤ 90
  s : sz d ≤ B
theorem Vl.her {p : D → Bool} {B : Nat} : Her (Vl p B) := fun ds h d hd => ⟨allLs_iff.mp (allL_t.mp h.al).2 d hd, by
  have h2 : deps ds + 1 ≤ 90 := h.dp
  have := dep_mem hd; omega, by
  have h2 : szs ds + 1 ≤ B := h.s
  have := sz_mem hd; omega⟩
/-- leaves by q, tuples by their length -/
def pW (q : D → Bool) (w : Nat) : D → Bool
  | .tup ds => decide (ds.length ≤ w)
  | d => q d
theorem pW_up {q : D → Bool} {w v : Nat} (h : w ≤ v) : ∀ d, pW q w d = true → pW q v d = true
  | .tup ds, e => decide_eq_true (Nat.le_trans (of_decide_eq_true e) h)
  | .non, e => e
  | .bl _, e => e
  | .int _, e => e
  | .str _, e => e
  | .ref _, e => e
theorem pW_0 {q : D → Bool} {w : Nat} : pW q w (.tup []) = true := decide_eq_true (Nat.zero_le w)
theorem pW_len {q : D → Bool} {w : Nat} (xs ys : List D) (h : xs.length = ys.length) : pW q w (.tup xs) = pW q w (.tup ys) := by
  show decide _ = decide _
  rw [h]
/-- leaves that are put in -/
structure Lf (p : D → Bool) : Prop where
  ref : ∀ a, p (.ref a) = false
  non : p .non = true
  bl : ∀ b, p (.bl b) = true
  int : ∀ i, p (.int i) = true
  e : p (.str "") = true
  a : p (.str "a") = true
theorem Vl.up {q : D → Bool} {w v B C : Nat} {d : D} (h : Vl (pW q w) B d) (hw : w ≤ v) (hB : B ≤ C) : Vl (pW q v) C d := ⟨allL_mono (pW_up hw) d h.al, h.dp, Nat.le_trans h.s hB⟩
def spSpoilt (p : D → Bool) (w : Nat) (B : Nat) : DSp := fun ds S Q _ => ∃ (a b mn : Addr) (cs : List Int) (q0 d k e : Int) (v : D) (menu : List D), ds = [.ref a, v, .ref mn] ∧ CurOk S a b cs q0 d k e ∧ S mn = some (.lst menu) ∧ mn ≠ a ∧ Vl (pW p w) B v ∧ (∀ d ∈ menu, Vl (pW p w) B d) ∧ menu.length ≤ 1000 ∧ 2 ≤ w ∧ 4 ≤ B ∧ 3 * B ≤ 16777216 ∧
  ∀ r p' d' k', Vl (pW p (w + 1)) (3 * B) r → 0 ≤ p' → Q r (up S a (cu b p' d' k' e))
def spoiltBody {φ : Type} (nodes take isint chg high : φ) : List (St φ) := [
  .asg (.nm 3) (.call nodes [.var 1, .lst []]),
  .asg (.nm 4) (.call take [.var 0, .bf .len [.var 3]]),
  .asg (.nm 5) (.idx (.var 3) (.var 4)),
  .asg (.nm 6) (.bin .add (.lst [.idx (.var 3) (.call take [.var 0, .bf .len [.var 3]]), .idx (.var 3) (.call take [.var 0, .bf .len [.var 3]]), .lit (.non), .lit (.bl true), .lit (.bl false), .lit (.int 0), .lit (.int 1), .bin .sub (.lit (.int 0)) (.lit (.int 1)), .lit (.str ""), .lit (.str "a"), .tup [], .tup [.tup [], .lit (.str "a")]]) (.var 2)),
  .asg (.nm 7) (.idx (.var 6) (.call take [.var 0, .bf .len [.var 6]])),
  .ifs (.and (.isi .tuple (.var 5)) (.cmp .eq (.call take [.var 0, .lit (.int 2)]) (.lit (.int 0)))) [.asg (.nm 7) (.idx (.lst [.slcL (.var 5) (.lit (.int 1)), .bin .add (.var 5) (.slcL (.var 5) (.neg (.lit (.int 1)))), .rev (.var 5), .slcU (.var 5) (.neg (.lit (.int 1)))]) (.call take [.var 0, .lit (.int 4)]))] [],
  .ifs (.and (.call isint [.var 5]) (.cmp .eq (.call take [.var 0, .lit (.int 2)]) (.lit (.int 0)))) [.asg (.nm 7) (.idx (.lst [.bin .add (.var 5) (.lit (.int 1)), .bin .sub (.var 5) (.lit (.int 1)), .bin .add (.var 5) (.lit (.int 2))]) (.call take [.var 0, .lit (.int 3)]))] [],
  .asg (.nm 8) (.call chg [.var 1, .lst [.bin .add (.var 4) (.lit (.int 1))], .var 7]),
  .ifs (.cmp .gt (.call high [.var 8]) (.lit (.int 90))) [.ret (.var 1)] [],
  .ret (.var 8)]
section
variable {φ : Type} {Γ : φ → DSp} {G : Nat → Option D}
theorem p_spoilt {p : D → Bool} (lf : Lf p) {w B : Nat} {nodes take isint chg high : φ} {ds : List D} {S : SH} {Q : KD} {x : XW}
    (hn : ∀ ds S Q x, spNodes (Vl (pW p w) B) 90 ds S Q x → Γ nodes ds S Q x) (ht : ∀ ds S Q x, spTake ds S Q x → Γ take ds S Q x) (hi : ∀ ds S Q x, spIsInt ds S Q x → Γ isint ds S Q x)
    (hc : ∀ ds S Q x, spChg (pW p (w + 1)) 90 ds S Q x → Γ chg ds S Q x) (hh : ∀ ds S Q x, spHigh (pW p (w + 1)) ds S Q x → Γ high ds S Q x) (h : spSpoilt p w B ds S Q x) : wpB Γ G 9 (spoiltBody nodes take isint chg high) ds S Q x := by
  obtain ⟨a, b, mn, cs, q0, d, k, e, v, menu, rfl, ok, hm, hma, rv, rm, lm, w2, B4, B3, q⟩ := h
  have hz : sizeLine = 16777216 := sizeLine_eq
  unfold wpB
  change wpSs Γ G _ x _ [some (.ref a), some v, some (.ref mn), none, none, none, none, none, none] S
  have g0 := Go.refl ok
  -- the end: other is known
  have st8 : ∀ (S1 : SH) (o3 o5 o6 : Option D) (i : Int) (other : D), Go S S1 a b cs e → 0 ≤ i → allL (pW p (w + 1)) other = true → sz other ≤ 2 * B → wpSs Γ G ((spoiltBody nodes take isint chg high).drop 7) x { nx := fun _ S' => ∃ S'', Sub S'' S' ∧ Q .non S'', rt := fun d S' => ∃ S'', Sub S'' S' ∧ Q d S'' } [some (.ref a), some v, some (.ref mn), o3, some (.int i), o5, o6, some other, none] S1 := fun S1 o3 o5 o6 i other g i0 po so => by
    refine c_cons ?_
    simp only [s_nil, s_expr, s_asg, s_put, s_par, s_aug, s_ret, s_retN, s_ifs, s_forr, s_brk, s_cont, s_pass, e_var, e_lit, e_gl, e_tup, e_lst, e_bin, e_neg, e_cmp, e_chain, e_isN, e_isB, e_and, e_or, e_not, e_ite, e_idx, e_slcL, e_slcU, e_slcB, e_rev, e_isi, e_call, e_bf, e_meth, e_comp, e_bfc, e_dcomp, e_lenset, e_nil, e_cons, g_nm, g_tup, g_nil, g_cons, sl_0, sl_s, List.set, setN, wipeD, List.map, Bool.not_true, Bool.not_false]
    repeat (first | with_reducible refine t_add ?_ | with_reducible refine t_sub ?_ | with_reducible refine t_lt ?_ | with_reducible refine t_le ?_ | with_reducible refine t_gt ?_ | with_reducible refine t_ge ?_ | with_reducible refine t_eqi ?_ | with_reducible refine t_nei ?_ | with_reducible refine t_int ?_ | with_reducible refine t_intb ?_ | with_reducible refine t_max2 ?_ | with_reducible refine t_min2 ?_ | with_reducible refine t_lent ?_ | with_reducible refine t_lens ?_ | with_reducible refine t_mts ?_ | with_reducible refine t_not ?_ | with_reducible refine t_slt ?_ | with_reducible refine t_revt ?_ | with_reducible refine t_tupc ?_ | with_reducible refine t_wkt ?_ | with_reducible refine t_wks ?_ | with_reducible refine t_ixl (by first | assumption | exact up_same | exact (up_ne (by assumption)).trans (by assumption) | exact (up_ne (by assumption)).trans up_same | exact (up_ne (by assumption)).trans ((up_ne (by assumption)).trans (by assumption))) (by with_unfolding_all rfl) ?_ | with_reducible refine t_ixt (by with_unfolding_all rfl) ?_ | with_reducible refine t_len (by first | assumption | exact up_same | exact (up_ne (by assumption)).trans (by assumption) | exact (up_ne (by assumption)).trans up_same | exact (up_ne (by assumption)).trans ((up_ne (by assumption)).trans (by assumption))) ?_ | with_reducible refine t_put (by first | assumption | exact up_same | exact (up_ne (by assumption)).trans (by assumption) | exact (up_ne (by assumption)).trans up_same | exact (up_ne (by assumption)).trans ((up_ne (by assumption)).trans (by assumption))) (by with_unfolding_all rfl) ?_ | with_reducible refine t_notl (by first | assumption | exact up_same | exact (up_ne (by assumption)).trans (by assumption) | exact (up_ne (by assumption)).trans up_same | exact (up_ne (by assumption)).trans ((up_ne (by assumption)).trans (by assumption))) ?_ | with_reducible refine t_mod (by decide) ?_ | with_reducible refine t_fdiv (by decide) ?_ | with_reducible refine t_pow (by decide) ?_ | with_reducible refine t_mulr (by decide) ?_ | with_reducible refine t_mull (by decide) ?_)
    refine t_new fun l hl => ?_
    refine hc _ _ _ _ ⟨v, other, l, i + 1, rfl, up_same, rv.dp, (rv.up (Nat.le_succ w) (Nat.le_refl B)).al, po, fun r i' cr => ?_⟩
    rw [up_up]
    have g2 : Go S (up S1 l (.lst [.int i'])) a b cs e := g.new hl
    have pr : allL (pW p (w + 1)) r = true ∧ sz r ≤ 3 * B := by
      rcases cr with ⟨rfl, _⟩ | ⟨_, _, c1, c2⟩
      · exact ⟨(rv.up (Nat.le_succ w) (Nat.le_refl B)).al, by have := rv.s; omega⟩
      · exact ⟨c1, by have := rv.s; omega⟩
    refine c_cons ?_
    simp only [s_nil, s_expr, s_asg, s_put, s_par, s_aug, s_ret, s_retN, s_ifs, s_forr, s_brk, s_cont, s_pass, e_var, e_lit, e_gl, e_tup, e_lst, e_bin, e_neg, e_cmp, e_chain, e_isN, e_isB, e_and, e_or, e_not, e_ite, e_idx, e_slcL, e_slcU, e_slcB, e_rev, e_isi, e_call, e_bf, e_meth, e_comp, e_bfc, e_dcomp, e_lenset, e_nil, e_cons, g_nm, g_tup, g_nil, g_cons, sl_0, sl_s, List.set, setN, wipeD, List.map, Bool.not_true, Bool.not_false]
    refine hh _ _ _ _ ⟨r, rfl, pr.1, by omega, fun z hz' => ?_⟩
    refine t_gt (t_br (fun hb => ?_) fun hb => ?_)
    · refine c_cons ?_
      simp only [s_nil, s_expr, s_asg, s_put, s_par, s_aug, s_ret, s_retN, s_ifs, s_forr, s_brk, s_cont, s_pass, e_var, e_lit, e_gl, e_tup, e_lst, e_bin, e_neg, e_cmp, e_chain, e_isN, e_isB, e_and, e_or, e_not, e_ite, e_idx, e_slcL, e_slcU, e_slcB, e_rev, e_isi, e_call, e_bf, e_meth, e_comp, e_bfc, e_dcomp, e_lenset, e_nil, e_cons, g_nm, g_tup, g_nil, g_cons, sl_0, sl_s, List.set, setN, wipeD, List.map, Bool.not_true, Bool.not_false]
      exact g2.ret fun p' x' k' h0 => q v p' x' k' (rv.up (Nat.le_succ w) (by omega)) h0
    · have hb := of_decide_eq_false hb
      refine c_cons ?_
      simp only [s_nil, s_expr, s_asg, s_put, s_par, s_aug, s_ret, s_retN, s_ifs, s_forr, s_brk, s_cont, s_pass, e_var, e_lit, e_gl, e_tup, e_lst, e_bin, e_neg, e_cmp, e_chain, e_isN, e_isB, e_and, e_or, e_not, e_ite, e_idx, e_slcL, e_slcU, e_slcB, e_rev, e_isi, e_call, e_bf, e_meth, e_comp, e_bfc, e_dcomp, e_lenset, e_nil, e_cons, g_nm, g_tup, g_nil, g_cons, sl_0, sl_s, List.set, setN, wipeD, List.map, Bool.not_true, Bool.not_false]
      exact g2.ret fun p' x' k' h0 => q r p' x' k' ⟨pr.1, hz' (by omega), pr.2⟩ h0
  -- an int's turn
  have st7 : ∀ (S1 : SH) (o3 o6 : Option D) (i : Int) (one other : D), Go S S1 a b cs e → 0 ≤ i → Vl (pW p w) B one → allL (pW p (w + 1)) other = true → sz other ≤ 2 * B → wpSs Γ G ((spoiltBody nodes take isint chg high).drop 6) x { nx := fun _ S' => ∃ S'', Sub S'' S' ∧ Q .non S'', rt := fun d S' => ∃ S'', Sub S'' S' ∧ Q d S'' } [some (.ref a), some v, some (.ref mn), o3, some (.int i), some one, o6, some other, none] S1 := fun S1 o3 o6 i one other g i0 ro po so => by
    refine c_cons ?_
    simp only [s_nil, s_expr, s_asg, s_put, s_par, s_aug, s_ret, s_retN, s_ifs, s_forr, s_brk, s_cont, s_pass, e_var, e_lit, e_gl, e_tup, e_lst, e_bin, e_neg, e_cmp, e_chain, e_isN, e_isB, e_and, e_or, e_not, e_ite, e_idx, e_slcL, e_slcU, e_slcB, e_rev, e_isi, e_call, e_bf, e_meth, e_comp, e_bfc, e_dcomp, e_lenset, e_nil, e_cons, g_nm, g_tup, g_nil, g_cons, sl_0, sl_s, List.set, setN, wipeD, List.map, Bool.not_true, Bool.not_false]
    refine hi _ _ _ _ ⟨one, rfl, by have := ro.dp; omega, ?_⟩
    refine t_br (fun h1 => ?_) fun h1 => t_br (fun h2 => by rw [h1] at h2; cases h2) fun _ => st8 S1 _ _ _ i other g i0 po so
    cases one with
    | int n =>
      refine take_go ht g (by decide) (by decide) fun r S2 r0 r1 g2 k2 => ?_
      refine t_eqi (t_br (fun h2 => ?_) fun h2 => st8 S2 _ _ _ i other g2 i0 po so)
      refine c_cons ?_
      simp only [s_nil, s_expr, s_asg, s_put, s_par, s_aug, s_ret, s_retN, s_ifs, s_forr, s_brk, s_cont, s_pass, e_var, e_lit, e_gl, e_tup, e_lst, e_bin, e_neg, e_cmp, e_chain, e_isN, e_isB, e_and, e_or, e_not, e_ite, e_idx, e_slcL, e_slcU, e_slcB, e_rev, e_isi, e_call, e_bf, e_meth, e_comp, e_bfc, e_dcomp, e_lenset, e_nil, e_cons, g_nm, g_tup, g_nil, g_cons, sl_0, sl_s, List.set, setN, wipeD, List.map, Bool.not_true, Bool.not_false]
      repeat (first | with_reducible refine t_add ?_ | with_reducible refine t_sub ?_ | with_reducible refine t_lt ?_ | with_reducible refine t_le ?_ | with_reducible refine t_gt ?_ | with_reducible refine t_ge ?_ | with_reducible refine t_eqi ?_ | with_reducible refine t_nei ?_ | with_reducible refine t_int ?_ | with_reducible refine t_intb ?_ | with_reducible refine t_max2 ?_ | with_reducible refine t_min2 ?_ | with_reducible refine t_lent ?_ | with_reducible refine t_lens ?_ | with_reducible refine t_mts ?_ | with_reducible refine t_not ?_ | with_reducible refine t_slt ?_ | with_reducible refine t_revt ?_ | with_reducible refine t_tupc ?_ | with_reducible refine t_wkt ?_ | with_reducible refine t_wks ?_ | with_reducible refine t_ixl (by first | assumption | exact up_same | exact (up_ne (by assumption)).trans (by assumption) | exact (up_ne (by assumption)).trans up_same | exact (up_ne (by assumption)).trans ((up_ne (by assumption)).trans (by assumption))) (by with_unfolding_all rfl) ?_ | with_reducible refine t_ixt (by with_unfolding_all rfl) ?_ | with_reducible refine t_len (by first | assumption | exact up_same | exact (up_ne (by assumption)).trans (by assumption) | exact (up_ne (by assumption)).trans up_same | exact (up_ne (by assumption)).trans ((up_ne (by assumption)).trans (by assumption))) ?_ | with_reducible refine t_put (by first | assumption | exact up_same | exact (up_ne (by assumption)).trans (by assumption) | exact (up_ne (by assumption)).trans up_same | exact (up_ne (by assumption)).trans ((up_ne (by assumption)).trans (by assumption))) (by with_unfolding_all rfl) ?_ | with_reducible refine t_notl (by first | assumption | exact up_same | exact (up_ne (by assumption)).trans (by assumption) | exact (up_ne (by assumption)).trans up_same | exact (up_ne (by assumption)).trans ((up_ne (by assumption)).trans (by assumption))) ?_ | with_reducible refine t_mod (by decide) ?_ | with_reducible refine t_fdiv (by decide) ?_ | with_reducible refine t_pow (by decide) ?_ | with_reducible refine t_mulr (by decide) ?_ | with_reducible refine t_mull (by decide) ?_)
      refine t_new fun l hl => ?_
      refine take_go ht (g2.new hl) (by decide) (by decide) fun r S3 r0 r1 g3 k3 => ?_
      obtain ⟨dd, e1, e2⟩ := at3 (x := .int (n + 1)) (y := .int (n - 1)) (z := .int (n + 2)) r0 r1
      refine t_ixl ((k3 l (g2.fresh hl)).trans up_same) e1 ?_
      refine st8 S3 _ _ _ i dd g3 i0 ?_ ?_
      · rcases e2 with rfl | rfl | rfl <;> exact lf.int _
      · have : sz dd = 1 := by rcases e2 with rfl | rfl | rfl <;> rfl
        omega
    | _ => cases h1
  -- a tuple's turn
  have st6 : ∀ (S1 : SH) (o3 o6 : Option D) (i : Int) (one other : D), Go S S1 a b cs e → 0 ≤ i → Vl (pW p w) B one → allL (pW p (w + 1)) other = true → sz other ≤ 2 * B → wpSs Γ G ((spoiltBody nodes take isint chg high).drop 5) x { nx := fun _ S' => ∃ S'', Sub S'' S' ∧ Q .non S'', rt := fun d S' => ∃ S'', Sub S'' S' ∧ Q d S'' } [some (.ref a), some v, some (.ref mn), o3, some (.int i), some one, o6, some other, none] S1 := fun S1 o3 o6 i one other g i0 ro po so => by
    refine c_cons ?_
    simp only [s_nil, s_expr, s_asg, s_put, s_par, s_aug, s_ret, s_retN, s_ifs, s_forr, s_brk, s_cont, s_pass, e_var, e_lit, e_gl, e_tup, e_lst, e_bin, e_neg, e_cmp, e_chain, e_isN, e_isB, e_and, e_or, e_not, e_ite, e_idx, e_slcL, e_slcU, e_slcB, e_rev, e_isi, e_call, e_bf, e_meth, e_comp, e_bfc, e_dcomp, e_lenset, e_nil, e_cons, g_nm, g_tup, g_nil, g_cons, sl_0, sl_s, List.set, setN, wipeD, List.map, Bool.not_true, Bool.not_false]
    refine t_isn (nref_of (p := pW p w) (fun a => lf.ref a) ro.al) (t_br (fun h1 => ?_) fun h1 => t_br (fun h2 => by rw [h1] at h2; cases h2) fun _ => st7 S1 _ _ i one other g i0 ro po so)
    cases one with
    | tup vs =>
      have pvs := allLs_iff.mp (allL_t.mp (ro.up (Nat.le_succ w) (Nat.le_refl B)).al).2
      have wvs : vs.length ≤ w := of_decide_eq_true (allL_t.mp ro.al).1
      have svs : szs vs + 1 ≤ B := ro.s
      have lvs := len_szs vs
      refine take_go ht g (by decide) (by decide) fun r S2 r0 r1 g2 k2 => ?_
      refine t_eqi (t_br (fun h2 => ?_) fun h2 => st7 S2 _ _ i _ other g2 i0 ro po so)
      refine c_cons ?_
      simp only [s_nil, s_expr, s_asg, s_put, s_par, s_aug, s_ret, s_retN, s_ifs, s_forr, s_brk, s_cont, s_pass, e_var, e_lit, e_gl, e_tup, e_lst, e_bin, e_neg, e_cmp, e_chain, e_isN, e_isB, e_and, e_or, e_not, e_ite, e_idx, e_slcL, e_slcU, e_slcB, e_rev, e_isi, e_call, e_bf, e_meth, e_comp, e_bfc, e_dcomp, e_lenset, e_nil, e_cons, g_nm, g_tup, g_nil, g_cons, sl_0, sl_s, List.set, setN, wipeD, List.map, Bool.not_true, Bool.not_false]
      have lcut : (cutD vs (some (-1)) none).length ≤ vs.length := by unfold cutD; rw [List.length_take, List.length_drop]; omega
      refine t_slt (t_slt (t_addt (by omega) (t_revt (t_slt (t_new fun l hl => ?_)))))
      refine take_go ht (g2.new hl) (by decide) (by decide) fun r S3 r0 r1 g3 k3 => ?_
      obtain ⟨dd, e1, e2⟩ := at_n (ds := [.tup (cutD vs (some 1) none), .tup (vs ++ cutD vs (some (-1)) none), .tup vs.reverse, .tup (cutD vs none (some (-1)))]) r0 r1
      refine t_ixl ((k3 l (g2.fresh hl)).trans up_same) e1 ?_
      have key : allL (pW p (w + 1)) dd = true ∧ sz dd ≤ 2 * B := by
        simp only [List.mem_cons, List.not_mem_nil, or_false] at e2
        rcases e2 with rfl | rfl | rfl | rfl
        · refine ⟨allL_t.mpr ⟨decide_eq_true (by have := cut_le vs; first | exact Nat.le_trans (this _ _) (by omega) | omega), allLs_iff.mpr fun y hy => pvs y (mem_cut hy)⟩, ?_⟩
          have := szs_cut vs (some 1) none
          show szs _ + 1 ≤ _; omega
        · refine ⟨allL_t.mpr ⟨decide_eq_true (by rw [List.length_append]; have := cut_last vs; omega), allLs_iff.mpr fun y hy => ?_⟩, ?_⟩
          · rcases List.mem_append.mp hy with z | z
            · exact pvs y z
            · exact pvs y (mem_cut z)
          · have := szs_cut vs (some (-1)) none
            show szs _ + 1 ≤ _; rw [szs_app]; omega
        · refine ⟨allL_t.mpr ⟨decide_eq_true (by rw [List.length_reverse]; omega), allLs_iff.mpr fun y hy => pvs y (List.mem_reverse.mp hy)⟩, ?_⟩
          show szs _ + 1 ≤ _; rw [szs_rev]; omega
        · refine ⟨allL_t.mpr ⟨decide_eq_true (by have := cut_le vs; first | exact Nat.le_trans (this _ _) (by omega) | omega), allLs_iff.mpr fun y hy => pvs y (mem_cut hy)⟩, ?_⟩
          have := szs_cut vs none (some (-1))
          show szs _ + 1 ≤ _; omega
      exact st7 S3 _ _ i _ dd g3 i0 ro key.1 key.2
    | _ => cases h1
  refine c_cons ?_
  simp only [s_nil, s_expr, s_asg, s_put, s_par, s_aug, s_ret, s_retN, s_ifs, s_forr, s_brk, s_cont, s_pass, e_var, e_lit, e_gl, e_tup, e_lst, e_bin, e_neg, e_cmp, e_chain, e_isN, e_isB, e_and, e_or, e_not, e_ite, e_idx, e_slcL, e_slcU, e_slcB, e_rev, e_isi, e_call, e_bf, e_meth, e_comp, e_bfc, e_dcomp, e_lenset, e_nil, e_cons, g_nm, g_tup, g_nil, g_cons, sl_0, sl_s, List.set, setN, wipeD, List.map, Bool.not_true, Bool.not_false]
  refine t_new fun l1 h1 => ?_
  refine hn _ _ _ _ ⟨v, l1, [], rfl, up_same, rv.dp, rv, by simp, by simp, fun found rf lf' nf => ?_⟩
  rw [up_up]
  have g1 : Go S (up S l1 (.lst found)) a b cs e := g0.new h1
  have f0 : 0 < found.length := List.length_pos_iff.mpr nf
  have hl1 := g0.fresh h1
  refine c_cons ?_
  simp only [s_nil, s_expr, s_asg, s_put, s_par, s_aug, s_ret, s_retN, s_ifs, s_forr, s_brk, s_cont, s_pass, e_var, e_lit, e_gl, e_tup, e_lst, e_bin, e_neg, e_cmp, e_chain, e_isN, e_isB, e_and, e_or, e_not, e_ite, e_idx, e_slcL, e_slcU, e_slcB, e_rev, e_isi, e_call, e_bf, e_meth, e_comp, e_bfc, e_dcomp, e_lenset, e_nil, e_cons, g_nm, g_tup, g_nil, g_cons, sl_0, sl_s, List.set, setN, wipeD, List.map, Bool.not_true, Bool.not_false]
  refine t_len up_same ?_
  refine take_go ht g1 (by omega) (by omega) fun i S2 i0 i1 g2 k2 => ?_
  have f2 := (k2 l1 hl1).trans up_same
  obtain ⟨one, o1, o2⟩ := at_n i0 i1
  refine c_cons ?_
  simp only [s_nil, s_expr, s_asg, s_put, s_par, s_aug, s_ret, s_retN, s_ifs, s_forr, s_brk, s_cont, s_pass, e_var, e_lit, e_gl, e_tup, e_lst, e_bin, e_neg, e_cmp, e_chain, e_isN, e_isB, e_and, e_or, e_not, e_ite, e_idx, e_slcL, e_slcU, e_slcB, e_rev, e_isi, e_call, e_bf, e_meth, e_comp, e_bfc, e_dcomp, e_lenset, e_nil, e_cons, g_nm, g_tup, g_nil, g_cons, sl_0, sl_s, List.set, setN, wipeD, List.map, Bool.not_true, Bool.not_false]
  refine t_ixl f2 o1 ?_
  refine c_cons ?_
  simp only [s_nil, s_expr, s_asg, s_put, s_par, s_aug, s_ret, s_retN, s_ifs, s_forr, s_brk, s_cont, s_pass, e_var, e_lit, e_gl, e_tup, e_lst, e_bin, e_neg, e_cmp, e_chain, e_isN, e_isB, e_and, e_or, e_not, e_ite, e_idx, e_slcL, e_slcU, e_slcB, e_rev, e_isi, e_call, e_bf, e_meth, e_comp, e_bfc, e_dcomp, e_lenset, e_nil, e_cons, g_nm, g_tup, g_nil, g_cons, sl_0, sl_s, List.set, setN, wipeD, List.map, Bool.not_true, Bool.not_false]
  refine t_len f2 ?_
  refine take_go ht g2 (by omega) (by omega) fun i2 S3 i20 i21 g3 k3 => ?_
  have f3 := (k3 l1 hl1).trans f2
  obtain ⟨n1, n11, n12⟩ := at_n i20 i21
  refine t_ixl f3 n11 ?_
  refine t_len f3 ?_
  refine take_go ht g3 (by omega) (by omega) fun i3 S4 i30 i31 g4 k4 => ?_
  have f4 := (k4 l1 hl1).trans f3
  obtain ⟨n2, n21, n22⟩ := at_n i30 i31
  refine t_ixl f4 n21 ?_
  repeat (first | with_reducible refine t_add ?_ | with_reducible refine t_sub ?_ | with_reducible refine t_lt ?_ | with_reducible refine t_le ?_ | with_reducible refine t_gt ?_ | with_reducible refine t_ge ?_ | with_reducible refine t_eqi ?_ | with_reducible refine t_nei ?_ | with_reducible refine t_int ?_ | with_reducible refine t_intb ?_ | with_reducible refine t_max2 ?_ | with_reducible refine t_min2 ?_ | with_reducible refine t_lent ?_ | with_reducible refine t_lens ?_ | with_reducible refine t_mts ?_ | with_reducible refine t_not ?_ | with_reducible refine t_slt ?_ | with_reducible refine t_revt ?_ | with_reducible refine t_tupc ?_ | with_reducible refine t_wkt ?_ | with_reducible refine t_wks ?_ | with_reducible refine t_ixl (by first | assumption | exact up_same | exact (up_ne (by assumption)).trans (by assumption) | exact (up_ne (by assumption)).trans up_same | exact (up_ne (by assumption)).trans ((up_ne (by assumption)).trans (by assumption))) (by with_unfolding_all rfl) ?_ | with_reducible refine t_ixt (by with_unfolding_all rfl) ?_ | with_reducible refine t_len (by first | assumption | exact up_same | exact (up_ne (by assumption)).trans (by assumption) | exact (up_ne (by assumption)).trans up_same | exact (up_ne (by assumption)).trans ((up_ne (by assumption)).trans (by assumption))) ?_ | with_reducible refine t_put (by first | assumption | exact up_same | exact (up_ne (by assumption)).trans (by assumption) | exact (up_ne (by assumption)).trans up_same | exact (up_ne (by assumption)).trans ((up_ne (by assumption)).trans (by assumption))) (by with_unfolding_all rfl) ?_ | with_reducible refine t_notl (by first | assumption | exact up_same | exact (up_ne (by assumption)).trans (by assumption) | exact (up_ne (by assumption)).trans up_same | exact (up_ne (by assumption)).trans ((up_ne (by assumption)).trans (by assumption))) ?_ | with_reducible refine t_mod (by decide) ?_ | with_reducible refine t_fdiv (by decide) ?_ | with_reducible refine t_pow (by decide) ?_ | with_reducible refine t_mulr (by decide) ?_ | with_reducible refine t_mull (by decide) ?_)
  refine t_new fun l2 h2 => ?_
  refine t_addl up_same (nk (g4.sub hma hm) h2) (by simp; omega) (t_new fun l3 h3 => ?_)
  refine c_cons ?_
  simp only [s_nil, s_expr, s_asg, s_put, s_par, s_aug, s_ret, s_retN, s_ifs, s_forr, s_brk, s_cont, s_pass, e_var, e_lit, e_gl, e_tup, e_lst, e_bin, e_neg, e_cmp, e_chain, e_isN, e_isB, e_and, e_or, e_not, e_ite, e_idx, e_slcL, e_slcU, e_slcB, e_rev, e_isi, e_call, e_bf, e_meth, e_comp, e_bfc, e_dcomp, e_lenset, e_nil, e_cons, g_nm, g_tup, g_nil, g_cons, sl_0, sl_s, List.set, setN, wipeD, List.map, Bool.not_true, Bool.not_false]
  refine t_len up_same ?_
  refine take_go ht ((g4.new h2).new h3) (by simp; omega) (by simp; omega) fun i4 S5 i40 i41 g5 k5 => ?_
  obtain ⟨ot, t1, t2⟩ := at_n i40 i41
  refine t_ixl ((k5 l3 ((g4.new h2).fresh h3)).trans up_same) t1 ?_
  have key : allL (pW p (w + 1)) ot = true ∧ sz ot ≤ 2 * B := by
    rcases List.mem_append.mp t2 with z | z
    · simp only [List.mem_cons, List.not_mem_nil, or_false] at z
      rcases z with rfl | rfl | rfl | rfl | rfl | rfl | rfl | rfl | rfl | rfl | rfl | rfl
      · exact ⟨((rf _ n12).up (Nat.le_succ w) (Nat.le_refl B)).al, by have := (rf _ n12).s; omega⟩
      · exact ⟨((rf _ n22).up (Nat.le_succ w) (Nat.le_refl B)).al, by have := (rf _ n22).s; omega⟩
      · exact ⟨lf.non, by show 1 ≤ _; omega⟩
      · exact ⟨lf.bl _, by show 1 ≤ _; omega⟩
      · exact ⟨lf.bl _, by show 1 ≤ _; omega⟩
      · exact ⟨lf.int _, by show 1 ≤ _; omega⟩
      · exact ⟨lf.int _, by show 1 ≤ _; omega⟩
      · exact ⟨lf.int _, by show 1 ≤ _; omega⟩
      · exact ⟨lf.e, by show 1 ≤ _; omega⟩
      · exact ⟨lf.a, by show 1 ≤ _; omega⟩
      · exact ⟨allL_t.mpr ⟨pW_0, rfl⟩, by show 1 ≤ _; omega⟩
      · refine ⟨?_, by show 3 ≤ _; omega⟩
        refine allL_t.mpr ⟨decide_eq_true (by simp; omega), ?_⟩
        refine allLs_iff.mpr fun y hy => ?_
        simp only [List.mem_cons, List.not_mem_nil, or_false] at hy
        rcases hy with rfl | rfl
        · exact allL_t.mpr ⟨pW_0, rfl⟩
        · exact lf.a
    · exact ⟨((rm _ z).up (Nat.le_succ w) (Nat.le_refl B)).al, by have := (rm _ z).s; omega⟩
  exact st6 S5 _ _ i one ot g5 i0 (rf _ o2) key.1 key.2
end
end Lac
end

-- LacZe.lean
section
set_option Elab.async false
set_option linter.all false
set_option maxRecDepth 100000
set_option maxHeartbeats 2000000
set_option autoImplicit false
/-! Lac, part Ze: names and types. -/
namespace Lac
open PySem L2
theorem t_ch {b : Bool} {A B : Prop} (h1 : b = true → A) (h2 : b = false → B) : (match D.bl b with
    | .bl true => A
    | .bl false => B
    | _ => False) := by
  cases b with
  | true => exact h1 rfl
  | false => exact h2 rfl
def RESs : List Str := ["con", "rule", "ask", "if", "true", "some", "all", "given", "match", "same", "steps", "many", "height"]
def RESl : List Str := ["con", "rule", "ask", "if", "true", "some", "all", "given", "same", "match", "steps", "many", "height"]
def LET : Str := "abcdefghijklmnopqrstuvwxyz"
def ltS (s : Str) : Bool := !(Builtin.Str.occurrences LET s 0 LET.length 1).isEmpty
def isRes (s : Str) : Bool := RESs.any fun z => z == s
theorem res_any (s : Str) : ((RESs.map D.str).any fun z => eqv z (.str s)) = isRes s := by
  unfold isRes
  rw [List.any_map]; rfl
theorem resl_any (s : Str) : ((RESl.map D.str).any fun z => eqv z (.str s)) = isRes s := by
  unfold isRes
  rw [List.any_map]
  have hp : RESl.Perm RESs := by decide +kernel
  exact hp.any_eq
/-- a name -/
def nmD : D → Bool
  | .str s => (decide ((1 : Int) ≤ s.length) && decide ((s.length : Int) ≤ 8)) && (!isRes s && (s.cps.toList.map fun c => ltS ⟨#[c]⟩).all id)
  | _ => false
section
variable {φ : Type} {Γ : φ → DSp} {G : Nat → Option D}
theorem bools_map {α : Type} (f : α → Bool) : ∀ xs : List α, boolsD (xs.map fun c => D.bl (f c)) = some (xs.map f)
  | [] => rfl
  | x :: xs => by
    show (boolsD (xs.map fun c => D.bl (f c))).map (f x :: ·) = _
    rw [bools_map f xs]; rfl
/-- is_name(value), _law_is_name(value) -/
def spName : DSp := fun ds S Q _ => ∃ v : D, ds = [v] ∧ (∀ a, v ≠ .ref a) ∧ Q (.bl (nmD v)) S
def nameBody {φ : Type} (r l : Nat) : List (St φ) := [
  .ifs (.or (.not (.isi .str (.var 0))) (.or (.not (.chain .le .le (.lit (.int 1)) (.bf .len [.var 0]) (.lit (.int 8)))) (.cmp .inn (.var 0) (.gl r)))) [.ret (.lit (.bl false))] [],
  .ret (.bfc .all [("letter", 1)] .any [.var 0] (.nm 1) (.lit (.bl true)) (.cmp .inn (.var 1) (.gl l)))]
theorem deps_strs : ∀ l : List Str, deps (l.map D.str) = 0
  | [] => rfl
  | s :: l => by show max 0 (deps (l.map D.str)) = 0; rw [deps_strs l]; rfl
theorem p_name {r l : Nat} (hr : G r = some (.tup (RESs.map .str))) (hl : G l = some (.str LET)) {ds : List D} {S : SH} {Q : KD} {x : XW} (h : spName ds S Q x) : wpB Γ G 2 (nameBody r l) ds S Q x := by
  obtain ⟨v, rfl, hv, q⟩ := h
  unfold wpB
  change wpSs Γ G _ x _ [some v, none] S
  have ff : ∀ e : nmD v = false, ∀ rest, wpSs Γ G (.ret (.lit (.bl false)) :: rest) x { nx := fun ρ1 S1 => wpSs Γ G ((nameBody r l).drop 1) x { nx := fun _ S' => ∃ S'', Sub S'' S' ∧ Q .non S'', rt := fun d S' => ∃ S'', Sub S'' S' ∧ Q d S'' } ρ1 S1, rt := fun d S' => ∃ S'', Sub S'' S' ∧ Q d S'' } [some v, none] S := fun e rest => by
    refine c_cons ?_
    simp only [s_nil, s_expr, s_asg, s_put, s_par, s_aug, s_ret, s_retN, s_ifs, s_forr, s_brk, s_cont, s_pass, e_var, e_lit, e_gl, e_tup, e_lst, e_bin, e_neg, e_cmp, e_chain, e_isN, e_isB, e_and, e_or, e_not, e_ite, e_idx, e_slcL, e_slcU, e_slcB, e_rev, e_isi, e_call, e_bf, e_meth, e_comp, e_bfc, e_dcomp, e_lenset, e_nil, e_cons, g_nm, g_tup, g_nil, g_cons, sl_0, sl_s, List.set, setN, wipeD, List.map, Bool.not_true, Bool.not_false]
    rw [e] at q
    exact ret_same q
  refine c_cons ?_
  simp only [s_nil, s_expr, s_asg, s_put, s_par, s_aug, s_ret, s_retN, s_ifs, s_forr, s_brk, s_cont, s_pass, e_var, e_lit, e_gl, e_tup, e_lst, e_bin, e_neg, e_cmp, e_chain, e_isN, e_isB, e_and, e_or, e_not, e_ite, e_idx, e_slcL, e_slcU, e_slcB, e_rev, e_isi, e_call, e_bf, e_meth, e_comp, e_bfc, e_dcomp, e_lenset, e_nil, e_cons, g_nm, g_tup, g_nil, g_cons, sl_0, sl_s, List.set, setN, wipeD, List.map, Bool.not_true, Bool.not_false]
  refine t_isn hv (t_not (t_br (fun h1 => t_br (fun _ => ff (by cases v <;> first | rfl | cases h1) _) fun h2 => by rw [h1] at h2; cases h2) fun h1 => ?_))
  cases v with
  | str s =>
    refine t_lens (t_le (t_ch (fun h2 => t_le (t_not (t_br (fun h3 => t_br (fun _ => ff ?_ _) fun h4 => by rw [h3] at h4; cases h4) fun h3 => ?_))) fun h2 => t_not (ff ?_ _)))
    · simp only [nmD, h2]
      have : decide ((s.length : Int) ≤ 8) = false := by simpa using h3
      rw [this]; rfl
    · rw [hr]
      refine t_intup (by show 0 ≤ _; omega) (by rw [deps_strs]; omega) ?_
      rw [res_any]
      refine t_br (fun h4 => ff ?_ _) fun h4 => ?_
      · simp only [nmD, h4]; simp
      · refine c_cons ?_
        simp only [s_nil, s_expr, s_asg, s_put, s_par, s_aug, s_ret, s_retN, s_ifs, s_forr, s_brk, s_cont, s_pass, e_var, e_lit, e_gl, e_tup, e_lst, e_bin, e_neg, e_cmp, e_chain, e_isN, e_isB, e_and, e_or, e_not, e_ite, e_idx, e_slcL, e_slcU, e_slcB, e_rev, e_isi, e_call, e_bf, e_meth, e_comp, e_bfc, e_dcomp, e_lenset, e_nil, e_cons, g_nm, g_tup, g_nil, g_cons, sl_0, sl_s, List.set, setN, wipeD, List.map, Bool.not_true, Bool.not_false]
        refine t_wks ?_
        refine wpC_map1 (fun d => match d with
          | .str z => .bl (ltS z)
          | d => d) True.intro (fun d hd K hK => ?_) ?_
        · obtain ⟨c, _, rfl⟩ := List.mem_map.mp hd
          simp only [s_nil, s_expr, s_asg, s_put, s_par, s_aug, s_ret, s_retN, s_ifs, s_forr, s_brk, s_cont, s_pass, e_var, e_lit, e_gl, e_tup, e_lst, e_bin, e_neg, e_cmp, e_chain, e_isN, e_isB, e_and, e_or, e_not, e_ite, e_idx, e_slcL, e_slcU, e_slcB, e_rev, e_isi, e_call, e_bf, e_meth, e_comp, e_bfc, e_dcomp, e_lenset, e_nil, e_cons, g_nm, g_tup, g_nil, g_cons, sl_0, sl_s, List.set, setN, wipeD, List.map, Bool.not_true, Bool.not_false]
          rw [hl]
          exact t_ins hK
        · rw [List.nil_append, List.map_map]
          refine t_allc (bools_map (fun c => ltS ⟨#[c]⟩) _) (ret_same ?_)
          have e : nmD (.str s) = (s.cps.toList.map fun c => ltS ⟨#[c]⟩).all id := by
            have h3' : decide ((s.length : Int) ≤ 8) = true := by simpa using h3
            simp only [nmD, h2, h3', h4]; rfl
          rw [e] at q
          exact q
    · simp only [nmD, h2]; rfl
  | _ => cases h1
def lnameBody {φ : Type} : List (St φ) := [
  .ifs (.or (.not (.isi .str (.var 0))) (.or (.cmp .lt (.bf .len [.var 0]) (.lit (.int 1))) (.or (.cmp .gt (.bf .len [.var 0]) (.lit (.int 8))) (.not (.bfc .all [("x", 1)] .any [.var 0] (.nm 1) (.lit (.bl true)) (.cmp .inn (.var 1) (.lit (.str "abcdefghijklmnopqrstuvwxyz")))))))) [.ret (.lit (.bl false))] [],
  .ret (.cmp .nin (.var 0) (.lst [.lit (.str "con"), .lit (.str "rule"), .lit (.str "ask"), .lit (.str "if"), .lit (.str "true"), .lit (.str "some"), .lit (.str "all"), .lit (.str "given"), .lit (.str "same"), .lit (.str "match"), .lit (.str "steps"), .lit (.str "many"), .lit (.str "height")]))]
theorem p_lname {ds : List D} {S : SH} {Q : KD} {x : XW} (h : spName ds S Q x) : wpB Γ G 2 lnameBody ds S Q x := by
  obtain ⟨v, rfl, hv, q⟩ := h
  unfold wpB
  change wpSs Γ G _ x _ [some v, none] S
  have ff : ∀ e : nmD v = false, ∀ rest, wpSs Γ G (.ret (.lit (.bl false)) :: rest) x { nx := fun ρ1 S1 => wpSs Γ G (lnameBody.drop 1) x { nx := fun _ S' => ∃ S'', Sub S'' S' ∧ Q .non S'', rt := fun d S' => ∃ S'', Sub S'' S' ∧ Q d S'' } ρ1 S1, rt := fun d S' => ∃ S'', Sub S'' S' ∧ Q d S'' } [some v, none] S := fun e rest => by
    refine c_cons ?_
    simp only [s_nil, s_expr, s_asg, s_put, s_par, s_aug, s_ret, s_retN, s_ifs, s_forr, s_brk, s_cont, s_pass, e_var, e_lit, e_gl, e_tup, e_lst, e_bin, e_neg, e_cmp, e_chain, e_isN, e_isB, e_and, e_or, e_not, e_ite, e_idx, e_slcL, e_slcU, e_slcB, e_rev, e_isi, e_call, e_bf, e_meth, e_comp, e_bfc, e_dcomp, e_lenset, e_nil, e_cons, g_nm, g_tup, g_nil, g_cons, sl_0, sl_s, List.set, setN, wipeD, List.map, Bool.not_true, Bool.not_false]
    rw [e] at q
    exact ret_same q
  refine c_cons ?_
  simp only [s_nil, s_expr, s_asg, s_put, s_par, s_aug, s_ret, s_retN, s_ifs, s_forr, s_brk, s_cont, s_pass, e_var, e_lit, e_gl, e_tup, e_lst, e_bin, e_neg, e_cmp, e_chain, e_isN, e_isB, e_and, e_or, e_not, e_ite, e_idx, e_slcL, e_slcU, e_slcB, e_rev, e_isi, e_call, e_bf, e_meth, e_comp, e_bfc, e_dcomp, e_lenset, e_nil, e_cons, g_nm, g_tup, g_nil, g_cons, sl_0, sl_s, List.set, setN, wipeD, List.map, Bool.not_true, Bool.not_false]
  refine t_isn hv (t_not (t_br (fun h1 => t_br (fun _ => ff (by cases v <;> first | rfl | cases h1) _) fun h2 => by rw [h1] at h2; cases h2) fun h1 => ?_))
  cases v with
  | str s =>
    refine t_lens (t_lt (t_br (fun h2 => t_br (fun _ => ff ?_ _) fun h3 => by rw [h2] at h3; cases h3) fun h2 => t_lens (t_gt (t_br (fun h3 => t_br (fun _ => ff ?_ _) fun h4 => by rw [h3] at h4; cases h4) fun h3 => ?_))))
    · have := of_decide_eq_true h2
      have e : decide ((1 : Int) ≤ s.length) = false := decide_eq_false (by omega)
      simp only [nmD, e]; rfl
    · have := of_decide_eq_true h3
      have e : decide ((s.length : Int) ≤ 8) = false := decide_eq_false (by omega)
      simp only [nmD, e]; simp
    · refine t_wks ?_
      refine wpC_map1 (fun d => match d with
        | .str z => .bl (ltS z)
        | d => d) True.intro (fun d hd K hK => ?_) ?_
      · obtain ⟨c, _, rfl⟩ := List.mem_map.mp hd
        simp only [s_nil, s_expr, s_asg, s_put, s_par, s_aug, s_ret, s_retN, s_ifs, s_forr, s_brk, s_cont, s_pass, e_var, e_lit, e_gl, e_tup, e_lst, e_bin, e_neg, e_cmp, e_chain, e_isN, e_isB, e_and, e_or, e_not, e_ite, e_idx, e_slcL, e_slcU, e_slcB, e_rev, e_isi, e_call, e_bf, e_meth, e_comp, e_bfc, e_dcomp, e_lenset, e_nil, e_cons, g_nm, g_tup, g_nil, g_cons, sl_0, sl_s, List.set, setN, wipeD, List.map, Bool.not_true, Bool.not_false]
        exact t_ins hK
      · rw [List.nil_append, List.map_map]
        refine t_allc (bools_map (fun c => ltS ⟨#[c]⟩) _) (t_not (t_br (fun h4 => ff ?_ _) fun h4 => ?_))
        · have h4' : (s.cps.toList.map fun c => ltS ⟨#[c]⟩).all id = false := by simpa using h4
          simp only [nmD, h4']; simp
        · have h4' : (s.cps.toList.map fun c => ltS ⟨#[c]⟩).all id = true := by simpa using h4
          refine c_cons ?_
          simp only [s_nil, s_expr, s_asg, s_put, s_par, s_aug, s_ret, s_retN, s_ifs, s_forr, s_brk, s_cont, s_pass, e_var, e_lit, e_gl, e_tup, e_lst, e_bin, e_neg, e_cmp, e_chain, e_isN, e_isB, e_and, e_or, e_not, e_ite, e_idx, e_slcL, e_slcU, e_slcB, e_rev, e_isi, e_call, e_bf, e_meth, e_comp, e_bfc, e_dcomp, e_lenset, e_nil, e_cons, g_nm, g_tup, g_nil, g_cons, sl_0, sl_s, List.set, setN, wipeD, List.map, Bool.not_true, Bool.not_false]
          refine t_new fun p hp => t_ninl (ds := RESl.map .str) up_same (by show 0 ≤ _; omega) (by rw [deps_strs]; omega) ⟨S, Sub.new sub_refl hp, ?_⟩
          rw [resl_any]
          have e : nmD (.str s) = !isRes s := by
            have a1 := of_decide_eq_false h2
            have a2 := of_decide_eq_false h3
            have e1 : decide ((1 : Int) ≤ s.length) = true := decide_eq_true (by omega)
            have e2 : decide ((s.length : Int) ≤ 8) = true := decide_eq_true (by omega)
            simp only [nmD, e1, e2, h4']; simp
          rw [e] at q
          exact q
  | _ => cases h1
end
end Lac
end

-- LacZf.lean
section
set_option Elab.async false
set_option linter.all false
set_option maxRecDepth 100000
set_option maxHeartbeats 2000000
set_option autoImplicit false
/-! Lac, part Zf: types. -/
namespace Lac
open PySem L2
mutual
/-- a type, as the law says -/
def ltyD : D → Bool
  | .tup [.tup ps, n] => nmD n && ltyDs ps
  | _ => false
def ltyDs : List D → Bool
  | [] => true
  | d :: ds => ltyD d && ltyDs ds
end
mutual
/-- a type, as the program says -/
def ptyD : Bool → D → Bool
  | o, .tup [.tup ps, n] => (nmD n && !(eqv n (.str "o") && !o)) && ptyDs ps
  | _, _ => false
def ptyDs : List D → Bool
  | [] => true
  | d :: ds => ptyD false d && ptyDs ds
end
theorem ltyDs_all : ∀ ds : List D, (ds.map ltyD).all id = ltyDs ds
  | [] => rfl
  | d :: ds => by
    show (ltyD d && (ds.map ltyD).all id) = (ltyD d && ltyDs ds)
    rw [ltyDs_all ds]
theorem nm_o {p : D → Bool} (ho : p (.str "o") = false) {n : D} (h : allL p n = true) : eqv n (.str "o") = false := by
  cases n with
  | str s =>
    show (s == ("o" : Str)) = false
    by_cases e : s = "o"
    · subst e
      have : p (.str "o") = true := h
      rw [ho] at this; cases this
    · exact beq_eq_false_iff_ne.mpr e
  | _ => rfl
mutual
theorem pty_lty {p : D → Bool} (ho : p (.str "o") = false) : ∀ (o : Bool) (d : D), allL p d = true → ptyD o d = ltyD d
  | o, .tup [.tup ps, n], h => by
    have h1 := allLs_iff.mp (allL_t.mp h).2
    have e1 := nm_o ho (h1 n (by simp))
    have e2 := ptys_ltys ho ps (allL_t.mp (h1 (.tup ps) (by simp))).2
    show ((nmD n && !(eqv n (.str "o") && !o)) && ptyDs ps) = (nmD n && ltyDs ps)
    rw [e1, e2]; simp
  | _, .non, _ => rfl
  | _, .bl _, _ => rfl
  | _, .int _, _ => rfl
  | _, .str _, _ => rfl
  | _, .ref _, _ => rfl
  | _, .tup [], _ => rfl
  | _, .tup [x], _ => by cases x <;> rfl
  | _, .tup (x :: _ :: _ :: _), _ => by cases x <;> rfl
  | _, .tup [.non, _], _ => rfl
  | _, .tup [.bl _, _], _ => rfl
  | _, .tup [.int _, _], _ => rfl
  | _, .tup [.str _, _], _ => rfl
  | _, .tup [.ref _, _], _ => rfl
theorem ptys_ltys {p : D → Bool} (ho : p (.str "o") = false) : ∀ (ds : List D), allLs p ds = true → ptyDs ds = ltyDs ds
  | [], _ => rfl
  | d :: ds, h => by
    have h' : (allL p d && allLs p ds) = true := h
    rw [Bool.and_eq_true] at h'
    show (ptyD false d && ptyDs ds) = (ltyD d && ltyDs ds)
    rw [pty_lty ho false d h'.1, ptys_ltys ho ds h'.2]
end
section
variable {φ : Type} {Γ : φ → DSp} {G : Nat → Option D}
/-! ### _law_is_type -/
def spLty (p : D → Bool) (m : Nat) : DSp := fun ds S Q _ => ∃ v : D, ds = [v] ∧ allL p v = true ∧ dep v ≤ m ∧ Q (.bl (ltyD v)) S
def ltyBody {φ : Type} (name self : φ) : List (St φ) := [
  .ifs (.or (.not (.isi .tuple (.var 0))) (.or (.cmp .ne (.bf .len [.var 0]) (.lit (.int 2))) (.or (.not (.isi .tuple (.idx (.var 0) (.lit (.int 0))))) (.not (.call name [.idx (.var 0) (.lit (.int 1))]))))) [.ret (.lit (.bl false))] [],
  .ret (.bfc .all [("part", 1)] .any [.idx (.var 0) (.lit (.int 0))] (.nm 1) (.lit (.bl true)) (.call self [.var 1]))]
theorem len_ne2 {ds : List D} (h : (!((ds.length : Int) == 2)) = false) : ∃ a b, ds = [a, b] := by
  have h : (ds.length : Int) = 2 := by simpa using h
  match ds, h with
  | [a, b], _ => exact ⟨a, b, rfl⟩
  | [], h => simp at h
  | [_], h => simp at h
  | _ :: _ :: _ :: _, h => simp at h; omega
theorem lty_len {ds : List D} (h : (!((ds.length : Int) == 2)) = true) : ltyD (.tup ds) = false ∧ ∀ o, ptyD o (.tup ds) = false := by
  have h : ¬ (ds.length : Int) = 2 := by simpa using h
  match ds, h with
  | [], _ => exact ⟨rfl, fun _ => rfl⟩
  | [x], _ => exact ⟨by cases x <;> rfl, fun _ => by cases x <;> rfl⟩
  | [_, _], h => exact absurd rfl h
  | x :: _ :: _ :: _, _ => exact ⟨by cases x <;> rfl, fun _ => by cases x <;> rfl⟩
theorem p_lty {p : D → Bool} (hp : ∀ a, p (.ref a) = false) {name self : φ} {M : Nat} {ds : List D} {S : SH} {Q : KD} {x : XW} (hn : ∀ ds S Q x, spName ds S Q x → Γ name ds S Q x) (hk : ∀ m, m + 2 ≤ M → ∀ ds S Q x, spLty p m ds S Q x → Γ self ds S Q x) (h : spLty p M ds S Q x) : wpB Γ G 2 (ltyBody name self) ds S Q x := by
  obtain ⟨v, rfl, pv, dv, q⟩ := h
  unfold wpB
  change wpSs Γ G _ x _ [some v, none] S
  have ff : ∀ e : ltyD v = false, ∀ rest, wpSs Γ G (.ret (.lit (.bl false)) :: rest) x { nx := fun ρ1 S1 => wpSs Γ G ((ltyBody name self).drop 1) x { nx := fun _ S' => ∃ S'', Sub S'' S' ∧ Q .non S'', rt := fun d S' => ∃ S'', Sub S'' S' ∧ Q d S'' } ρ1 S1, rt := fun d S' => ∃ S'', Sub S'' S' ∧ Q d S'' } [some v, none] S := fun e rest => by
    refine c_cons ?_
    simp only [s_nil, s_expr, s_asg, s_put, s_par, s_aug, s_ret, s_retN, s_ifs, s_forr, s_brk, s_cont, s_pass, e_var, e_lit, e_gl, e_tup, e_lst, e_bin, e_neg, e_cmp, e_chain, e_isN, e_isB, e_and, e_or, e_not, e_ite, e_idx, e_slcL, e_slcU, e_slcB, e_rev, e_isi, e_call, e_bf, e_meth, e_comp, e_bfc, e_dcomp, e_lenset, e_nil, e_cons, g_nm, g_tup, g_nil, g_cons, sl_0, sl_s, List.set, setN, wipeD, List.map, Bool.not_true, Bool.not_false]
    rw [e] at q
    exact ret_same q
  refine c_cons ?_
  simp only [s_nil, s_expr, s_asg, s_put, s_par, s_aug, s_ret, s_retN, s_ifs, s_forr, s_brk, s_cont, s_pass, e_var, e_lit, e_gl, e_tup, e_lst, e_bin, e_neg, e_cmp, e_chain, e_isN, e_isB, e_and, e_or, e_not, e_ite, e_idx, e_slcL, e_slcU, e_slcB, e_rev, e_isi, e_call, e_bf, e_meth, e_comp, e_bfc, e_dcomp, e_lenset, e_nil, e_cons, g_nm, g_tup, g_nil, g_cons, sl_0, sl_s, List.set, setN, wipeD, List.map, Bool.not_true, Bool.not_false]
  refine t_isn (nref_of hp pv) (t_not (t_br (fun h1 => t_br (fun _ => ff (by cases v <;> first | rfl | cases h1) _) fun h2 => by rw [h1] at h2; cases h2) fun h1 => ?_))
  cases v with
  | tup vs =>
    refine t_lent (t_nei (t_br (fun h2 => t_br (fun _ => ff (lty_len h2).1 _) fun h3 => by rw [h2] at h3; cases h3) fun h2 => ?_))
    obtain ⟨u, n, rfl⟩ := len_ne2 h2
    have pm := allLs_iff.mp (allL_t.mp pv).2
    refine t_ixt (by with_unfolding_all rfl) (t_isn (nref_of hp (pm u (by simp))) (t_not (t_br (fun h3 => t_br (fun _ => ff (by cases u <;> first | rfl | cases h3) _) fun h4 => by rw [h3] at h4; cases h4) fun h3 => ?_)))
    cases u with
    | tup ps =>
      refine t_ixt (by with_unfolding_all rfl) (hn _ _ _ _ ⟨n, rfl, nref_of hp (pm n (by simp)), t_not (t_br (fun h4 => ff ?_ _) fun h4 => ?_)⟩)
      · have : nmD n = false := by simpa using h4
        show (nmD n && ltyDs ps) = false
        rw [this]; rfl
      · have hnm : nmD n = true := by simpa using h4
        refine c_cons ?_
        simp only [s_nil, s_expr, s_asg, s_put, s_par, s_aug, s_ret, s_retN, s_ifs, s_forr, s_brk, s_cont, s_pass, e_var, e_lit, e_gl, e_tup, e_lst, e_bin, e_neg, e_cmp, e_chain, e_isN, e_isB, e_and, e_or, e_not, e_ite, e_idx, e_slcL, e_slcU, e_slcB, e_rev, e_isi, e_call, e_bf, e_meth, e_comp, e_bfc, e_dcomp, e_lenset, e_nil, e_cons, g_nm, g_tup, g_nil, g_cons, sl_0, sl_s, List.set, setN, wipeD, List.map, Bool.not_true, Bool.not_false]
        refine t_ixt (by with_unfolding_all rfl) (t_wkt ?_)
        have dps : deps [.tup ps, n] + 1 ≤ M := dv
        have dps2 : max (deps ps + 1) (max (dep n) 0) + 1 ≤ M := dps
        refine wpC_map1 (fun d => .bl (ltyD d)) True.intro (fun d hd K hK => ?_) ?_
        · simp only [s_nil, s_expr, s_asg, s_put, s_par, s_aug, s_ret, s_retN, s_ifs, s_forr, s_brk, s_cont, s_pass, e_var, e_lit, e_gl, e_tup, e_lst, e_bin, e_neg, e_cmp, e_chain, e_isN, e_isB, e_and, e_or, e_not, e_ite, e_idx, e_slcL, e_slcU, e_slcB, e_rev, e_isi, e_call, e_bf, e_meth, e_comp, e_bfc, e_dcomp, e_lenset, e_nil, e_cons, g_nm, g_tup, g_nil, g_cons, sl_0, sl_s, List.set, setN, wipeD, List.map, Bool.not_true, Bool.not_false]
          exact hk (M - 2) (by omega) _ _ _ _ ⟨d, rfl, allLs_iff.mp (allL_t.mp (pm (.tup ps) (by simp))).2 d hd, by have := dep_mem hd; omega, hK⟩
        · rw [List.nil_append]
          refine t_allc (bools_map ltyD _) (ret_same ?_)
          rw [ltyDs_all]
          have e : ltyD (.tup [.tup ps, n]) = ltyDs ps := by
            show (nmD n && ltyDs ps) = _
            rw [hnm]; rfl
          rw [e] at q
          exact q
    | _ => cases h3
  | _ => cases h1
end
end Lac
end

-- LacZg.lean
section
set_option Elab.async false
set_option linter.all false
set_option maxRecDepth 100000
set_option maxHeartbeats 2000000
set_option autoImplicit false
/-! Lac, part Zg: is_type; signatures. -/
namespace Lac
open PySem L2
theorem Sub.upd {S S' : SH} {p : Addr} {o : DO} (h : Sub S S') (hp : S p = none) : Sub S (up S' p o) := fun x u e => by
  by_cases z : x = p
  · subst z; rw [hp] at e; cases e
  · rw [up_ne z]; exact h x u e
def stkD (w : D × Bool) : D := .tup [w.1, .bl w.2]
def szW : List (D × Bool) → Nat
  | [] => 0
  | w :: ws => sz w.1 + szW ws
theorem szW_app : ∀ xs ys : List (D × Bool), szW (xs ++ ys) = szW xs + szW ys
  | [], ys => by simp [szW]
  | x :: xs, ys => by show sz x.1 + szW (xs ++ ys) = _; rw [szW_app xs ys]; simp only [szW]; omega
theorem szW_map : ∀ ps : List D, szW (ps.map fun d => (d, false)) = szs ps
  | [] => rfl
  | d :: ps => by show sz d + szW (ps.map fun d => (d, false)) = _; rw [szW_map ps]; rfl
theorem len_szW : ∀ ws : List (D × Bool), ws.length ≤ szW ws
  | [] => Nat.le_refl _
  | w :: ws => by have := len_szW ws; have := sz_pos w.1; show ws.length + 1 ≤ sz w.1 + szW ws; omega
theorem ptyDs_all : ∀ ps : List D, ((ps.map fun d => (d, false)).all fun w => ptyD w.2 w.1) = ptyDs ps
  | [] => rfl
  | d :: ps => by
    show (ptyD false d && _) = (ptyD false d && ptyDs ps)
    rw [← ptyDs_all ps]
section
variable {φ : Type} {Γ : φ → DSp} {G : Nat → Option D}
def spPty (p : D → Bool) : DSp := fun ds S Q _ => ∃ v : D, ds = [v] ∧ allL p v = true ∧ sz v ≤ 16777216 ∧ Q (.bl (ptyD true v)) S
def ptyBody {φ : Type} (name : φ) : List (St φ) := [
  .asg (.nm 1) (.lst [.tup [.var 0, .lit (.bl true)]]),
  .whl (.var 1) [.asg (.tup [(.nm 2), (.nm 3)]) (.meth .pop (.var 1) []),
    .ifs (.or (.not (.isi .tuple (.var 2))) (.or (.cmp .ne (.bf .len [.var 2]) (.lit (.int 2))) (.or (.not (.isi .tuple (.idx (.var 2) (.lit (.int 0))))) (.not (.call name [.idx (.var 2) (.lit (.int 1))]))))) [.ret (.lit (.bl false))] [],
    .ifs (.and (.cmp .eq (.idx (.var 2) (.lit (.int 1))) (.lit (.str "o"))) (.not (.var 3))) [.ret (.lit (.bl false))] [],
    .expr (.meth .extend (.var 1) [.comp [("part", 4)] .any [.idx (.var 2) (.lit (.int 0))] (.nm 4) (.lit (.bl true)) (.tup [.var 4, .lit (.bl false)])])],
  .ret (.lit (.bl true))]
theorem p_pty {p : D → Bool} (hp : ∀ a, p (.ref a) = false) {name : φ} {ds : List D} {S : SH} {Q : KD} {x : XW} (hn : ∀ ds S Q x, spName ds S Q x → Γ name ds S Q x) (h : spPty p ds S Q x) : wpB Γ G 5 (ptyBody name) ds S Q x := by
  obtain ⟨v, rfl, pv, sv, q⟩ := h
  have hz : sizeLine = 16777216 := sizeLine_eq
  unfold wpB
  change wpSs Γ G _ x _ [some v, none, none, none, none] S
  refine c_cons ?_
  simp only [s_nil, s_expr, s_asg, s_put, s_par, s_aug, s_ret, s_retN, s_ifs, s_forr, s_brk, s_cont, s_pass, e_var, e_lit, e_gl, e_tup, e_lst, e_bin, e_neg, e_cmp, e_chain, e_isN, e_isB, e_and, e_or, e_not, e_ite, e_idx, e_slcL, e_slcU, e_slcB, e_rev, e_isi, e_call, e_bf, e_meth, e_comp, e_bfc, e_dcomp, e_lenset, e_nil, e_cons, g_nm, g_tup, g_nil, g_cons, sl_0, sl_s, List.set, setN, wipeD, List.map, Bool.not_true, Bool.not_false]
  refine t_new fun l hl => ?_
  refine c_cons ?_
  refine t_whl (fun m ρ S' => ∃ (ws : List (D × Bool)) (o2 o3 o4 : Option D), ρ = [some v, some (.ref l), o2, o3, o4] ∧ Sub S S' ∧ S' l = some (.lst (ws.map stkD)) ∧ (∀ w ∈ ws, allL p w.1 = true) ∧ ptyD true v = (ws.all fun w => ptyD w.2 w.1) ∧ m = szW ws ∧ szW ws ≤ sz v)
    _ ⟨[(v, true)], none, none, none, rfl, Sub.new sub_refl hl, up_same, by simpa using pv, by simp, rfl, by simp [szW]⟩ ?_
  rintro m ρ S1 ⟨ws, o2, o3, o4, rfl, sb, h1, pw, ev, rfl, sw⟩
  simp only [s_nil, s_expr, s_asg, s_put, s_par, s_aug, s_ret, s_retN, s_ifs, s_forr, s_brk, s_cont, s_pass, e_var, e_lit, e_gl, e_tup, e_lst, e_bin, e_neg, e_cmp, e_chain, e_isN, e_isB, e_and, e_or, e_not, e_ite, e_idx, e_slcL, e_slcU, e_slcB, e_rev, e_isi, e_call, e_bf, e_meth, e_comp, e_bfc, e_dcomp, e_lenset, e_nil, e_cons, g_nm, g_tup, g_nil, g_cons, sl_0, sl_s, List.set, setN, wipeD, List.map, Bool.not_true, Bool.not_false]
  refine t_brl h1 (fun hne => ?_) fun he => ?_
  · have hne' : ws ≠ [] := fun e => hne (by rw [e]; rfl)
    obtain ⟨ws', ⟨d, o⟩, rfl⟩ : ∃ (ws' : List (D × Bool)) (w : D × Bool), ws = ws' ++ [w] := ⟨ws.dropLast, ws.getLast hne', (List.dropLast_concat_getLast hne').symm⟩
    have pd : allL p d = true := pw (d, o) (by simp)
    have sd : szW ws' + sz d ≤ sz v := by rw [szW_app] at sw; simpa [szW] using sw
    refine c_cons ?_
    simp only [s_nil, s_expr, s_asg, s_put, s_par, s_aug, s_ret, s_retN, s_ifs, s_forr, s_brk, s_cont, s_pass, e_var, e_lit, e_gl, e_tup, e_lst, e_bin, e_neg, e_cmp, e_chain, e_isN, e_isB, e_and, e_or, e_not, e_ite, e_idx, e_slcL, e_slcU, e_slcB, e_rev, e_isi, e_call, e_bf, e_meth, e_comp, e_bfc, e_dcomp, e_lenset, e_nil, e_cons, g_nm, g_tup, g_nil, g_cons, sl_0, sl_s, List.set, setN, wipeD, List.map, Bool.not_true, Bool.not_false]
    refine t_mt (by simp) h1 (t_pop (d := stkD (d, o)) h1 (by simp) ?_)
    have e2 : ((ws' ++ [(d, o)]).map stkD).dropLast = ws'.map stkD := by simp
    rw [e2]
    unfold stkD
    simp only [s_nil, s_expr, s_asg, s_put, s_par, s_aug, s_ret, s_retN, s_ifs, s_forr, s_brk, s_cont, s_pass, e_var, e_lit, e_gl, e_tup, e_lst, e_bin, e_neg, e_cmp, e_chain, e_isN, e_isB, e_and, e_or, e_not, e_ite, e_idx, e_slcL, e_slcU, e_slcB, e_rev, e_isi, e_call, e_bf, e_meth, e_comp, e_bfc, e_dcomp, e_lenset, e_nil, e_cons, g_nm, g_tup, g_nil, g_cons, sl_0, sl_s, List.set, setN, wipeD, List.map, Bool.not_true, Bool.not_false]
    have sb2 : Sub S (up S1 l (.lst (ws'.map stkD))) := sb.upd hl
    have ff : ∀ e : ptyD o d = false, ∀ rest De ρ S2, Sub S S2 → De.rt = (fun d S' => ∃ S'', Sub S'' S' ∧ Q d S'') → wpSs Γ G (.ret (.lit (.bl false)) :: rest) x De ρ S2 := fun e rest De ρ S2 hs hr => by
      refine c_cons ?_
      simp only [s_nil, s_expr, s_asg, s_put, s_par, s_aug, s_ret, s_retN, s_ifs, s_forr, s_brk, s_cont, s_pass, e_var, e_lit, e_gl, e_tup, e_lst, e_bin, e_neg, e_cmp, e_chain, e_isN, e_isB, e_and, e_or, e_not, e_ite, e_idx, e_slcL, e_slcU, e_slcB, e_rev, e_isi, e_call, e_bf, e_meth, e_comp, e_bfc, e_dcomp, e_lenset, e_nil, e_cons, g_nm, g_tup, g_nil, g_cons, sl_0, sl_s, List.set, setN, wipeD, List.map, Bool.not_true, Bool.not_false]
      rw [hr]
      have : ptyD true v = false := by rw [ev]; simp [e]
      rw [this] at q
      exact ⟨S, hs, q⟩
    refine c_cons ?_
    simp only [s_nil, s_expr, s_asg, s_put, s_par, s_aug, s_ret, s_retN, s_ifs, s_forr, s_brk, s_cont, s_pass, e_var, e_lit, e_gl, e_tup, e_lst, e_bin, e_neg, e_cmp, e_chain, e_isN, e_isB, e_and, e_or, e_not, e_ite, e_idx, e_slcL, e_slcU, e_slcB, e_rev, e_isi, e_call, e_bf, e_meth, e_comp, e_bfc, e_dcomp, e_lenset, e_nil, e_cons, g_nm, g_tup, g_nil, g_cons, sl_0, sl_s, List.set, setN, wipeD, List.map, Bool.not_true, Bool.not_false]
    refine t_isn (nref_of hp pd) (t_not (t_br (fun h1 => t_br (fun _ => ff (by cases d <;> first | rfl | cases h1) _ _ _ _ sb2 rfl) fun h2 => by rw [h1] at h2; cases h2) fun h1 => ?_))
    cases d with
    | tup vs =>
      refine t_lent (t_nei (t_br (fun h2 => t_br (fun _ => ff ((lty_len h2).2 o) _ _ _ _ sb2 rfl) fun h3 => by rw [h2] at h3; cases h3) fun h2 => ?_))
      obtain ⟨u, n, rfl⟩ := len_ne2 h2
      have pm := allLs_iff.mp (allL_t.mp pd).2
      refine t_ixt (by with_unfolding_all rfl) (t_isn (nref_of hp (pm u (by simp))) (t_not (t_br (fun h3 => t_br (fun _ => ff (by cases u <;> first | rfl | cases h3) _ _ _ _ sb2 rfl) fun h4 => by rw [h3] at h4; cases h4) fun h3 => ?_)))
      cases u with
      | tup ps =>
        refine t_ixt (by with_unfolding_all rfl) (hn _ _ _ _ ⟨n, rfl, nref_of hp (pm n (by simp)), t_not (t_br (fun h4 => ff ?_ _ _ _ _ sb2 rfl) fun h4 => ?_)⟩)
        · have : nmD n = false := by simpa using h4
          show ((nmD n && !(eqv n (.str "o") && !o)) && ptyDs ps) = false
          rw [this]; rfl
        · have hnm : nmD n = true := by simpa using h4
          have hdn : dep n ≤ 420 := by
            cases n with
            | str s => show 0 ≤ _; omega
            | _ => cases hnm
          have last : ∀ S2, S2 = up S1 l (.lst (ws'.map stkD)) → (eqv n (.str "o") && !o) = false → wpSs Γ G [.expr (.meth .extend (.var 1) [.comp [("part", 4)] .any [.idx (.var 2) (.lit (.int 0))] (.nm 4) (.lit (.bl true)) (.tup [.var 4, .lit (.bl false)])])] x
              { nx := fun ρ' S' => ∃ m', m' < szW (ws' ++ [(.tup [.tup ps, n], o)]) ∧ ∃ (ws : List (D × Bool)) (o2 o3 o4 : Option D), ρ' = [some v, some (.ref l), o2, o3, o4] ∧ Sub S S' ∧ S' l = some (.lst (ws.map stkD)) ∧ (∀ w ∈ ws, allL p w.1 = true) ∧ ptyD true v = (ws.all fun w => ptyD w.2 w.1) ∧ m' = szW ws ∧ szW ws ≤ sz v,
                rt := fun d S' => ∃ S'', Sub S'' S' ∧ Q d S'',
                bk := fun ρ1 S1 => wpSs Γ G [.ret (.lit (.bl true))] x { nx := fun _ S' => ∃ S'', Sub S'' S' ∧ Q .non S'', rt := fun d S' => ∃ S'', Sub S'' S' ∧ Q d S'' } ρ1 S1,
                ct := fun ρ' S' => ∃ m', m' < szW (ws' ++ [(.tup [.tup ps, n], o)]) ∧ ∃ (ws : List (D × Bool)) (o2 o3 o4 : Option D), ρ' = [some v, some (.ref l), o2, o3, o4] ∧ Sub S S' ∧ S' l = some (.lst (ws.map stkD)) ∧ (∀ w ∈ ws, allL p w.1 = true) ∧ ptyD true v = (ws.all fun w => ptyD w.2 w.1) ∧ m' = szW ws ∧ szW ws ≤ sz v }
              [some v, some (.ref l), some (.tup [.tup ps, n]), some (.bl o), o4] S2 := fun S2 e ho => by
            subst e
            refine c_cons ?_
            simp only [s_nil, s_expr, s_asg, s_put, s_par, s_aug, s_ret, s_retN, s_ifs, s_forr, s_brk, s_cont, s_pass, e_var, e_lit, e_gl, e_tup, e_lst, e_bin, e_neg, e_cmp, e_chain, e_isN, e_isB, e_and, e_or, e_not, e_ite, e_idx, e_slcL, e_slcU, e_slcB, e_rev, e_isi, e_call, e_bf, e_meth, e_comp, e_bfc, e_dcomp, e_lenset, e_nil, e_cons, g_nm, g_tup, g_nil, g_cons, sl_0, sl_s, List.set, setN, wipeD, List.map, Bool.not_true, Bool.not_false]
            refine t_mt (by simp) up_same (t_ixt (by with_unfolding_all rfl) (t_wkt ?_))
            refine wpC_map1 (fun d => stkD (d, false)) True.intro (fun d hd K hK => ?_) ?_
            · simp only [s_nil, s_expr, s_asg, s_put, s_par, s_aug, s_ret, s_retN, s_ifs, s_forr, s_brk, s_cont, s_pass, e_var, e_lit, e_gl, e_tup, e_lst, e_bin, e_neg, e_cmp, e_chain, e_isN, e_isB, e_and, e_or, e_not, e_ite, e_idx, e_slcL, e_slcU, e_slcB, e_rev, e_isi, e_call, e_bf, e_meth, e_comp, e_bfc, e_dcomp, e_lenset, e_nil, e_cons, g_nm, g_tup, g_nil, g_cons, sl_0, sl_s, List.set, setN, wipeD, List.map, Bool.not_true, Bool.not_false]
              exact hK
            · rw [List.nil_append]
              have sd2 : szW ws' + (szs ps + 1 + (sz n + 0) + 1) ≤ sz v := sd
              have a1 := len_szW ws'
              have a2 := len_szs ps
              refine t_new fun r hr => t_exl (nk up_same hr) up_same (by rw [List.length_map, List.length_map]; omega) ?_
              have hlr : l ≠ r := fun e => by subst e; rw [up_same] at hr; cases hr
              refine ⟨szW ws' + szs ps, ?_, ws' ++ ps.map (fun d => (d, false)), some (.tup [.tup ps, n]), some (.bl o), o4, rfl, ?_, ?_, ?_, ?_, ?_, ?_⟩
              · rw [szW_app]
                show _ < szW ws' + (szs ps + 1 + (sz n + 0) + 1 + 0)
                omega
              · exact (Sub.new sb2 hr).upd hl
              · rw [up_same]
                simp
              · intro w hw
                rcases List.mem_append.mp hw with z | z
                · exact pw w (by simp [z])
                · obtain ⟨y, hy, rfl⟩ := List.mem_map.mp z
                  exact allLs_iff.mp (allL_t.mp (pm (.tup ps) (by simp))).2 y hy
              · rw [ev, List.all_append, List.all_append, ptyDs_all]
                have e : ptyD o (.tup [.tup ps, n]) = ptyDs ps := by
                  show ((nmD n && !(eqv n (.str "o") && !o)) && ptyDs ps) = _
                  rw [hnm, ho]; rfl
                show (_ && (ptyD o (.tup [.tup ps, n]) && true)) = _
                rw [e, Bool.and_true]
              · rw [szW_app, szW_map]
              · rw [szW_app, szW_map]; omega
          refine c_cons ?_
          simp only [s_nil, s_expr, s_asg, s_put, s_par, s_aug, s_ret, s_retN, s_ifs, s_forr, s_brk, s_cont, s_pass, e_var, e_lit, e_gl, e_tup, e_lst, e_bin, e_neg, e_cmp, e_chain, e_isN, e_isB, e_and, e_or, e_not, e_ite, e_idx, e_slcL, e_slcU, e_slcB, e_rev, e_isi, e_call, e_bf, e_meth, e_comp, e_bfc, e_dcomp, e_lenset, e_nil, e_cons, g_nm, g_tup, g_nil, g_cons, sl_0, sl_s, List.set, setN, wipeD, List.map, Bool.not_true, Bool.not_false]
          refine t_ixt (by with_unfolding_all rfl) (t_eq hdn (by show 0 ≤ _; omega) (t_br (fun h5 => t_not (t_br (fun h6 => ff ?_ _ _ _ _ sb2 rfl) fun h6 => last _ rfl ?_)) fun h5 => t_br (fun h6 => by rw [h5] at h6; cases h6) fun _ => last _ rfl ?_))
          · have h6' : (!o) = true := h6
            show ((nmD n && !(eqv n (.str "o") && !o)) && ptyDs ps) = false
            rw [h5, h6']; simp
          · have h6' : (!o) = false := h6
            rw [h6']; simp
          · rw [h5]; rfl
      | _ => cases h3
    | _ => cases h1
  · refine c_cons ?_
    simp only [s_nil, s_expr, s_asg, s_put, s_par, s_aug, s_ret, s_retN, s_ifs, s_forr, s_brk, s_cont, s_pass, e_var, e_lit, e_gl, e_tup, e_lst, e_bin, e_neg, e_cmp, e_chain, e_isN, e_isB, e_and, e_or, e_not, e_ite, e_idx, e_slcL, e_slcU, e_slcB, e_rev, e_isi, e_call, e_bf, e_meth, e_comp, e_bfc, e_dcomp, e_lenset, e_nil, e_cons, g_nm, g_tup, g_nil, g_cons, sl_0, sl_s, List.set, setN, wipeD, List.map, Bool.not_true, Bool.not_false]
    have e : ws = [] := by cases ws with
      | nil => rfl
      | cons => cases he
    have : ptyD true v = true := by rw [ev, e]; rfl
    rw [this] at q
    exact ⟨S, sb, q⟩
end
end Lac
end

-- LacZh.lean
section
set_option Elab.async false
set_option linter.all false
set_option maxRecDepth 100000
set_option maxHeartbeats 2000000
set_option autoImplicit false
/-! Lac, part Zh: signatures looked at. -/
namespace Lac
open PySem L2
theorem putD_keys (kvs : List (Key × D)) (k : Key) (v : D) : (putD kvs k v).map (·.1) = addK (kvs.map (·.1)) k := by
  unfold putD addK
  have e : (kvs.any fun kv => decide (kv.1 = k)) = ((kvs.map (·.1)).any fun z => decide (z = k)) := by rw [List.any_map]; rfl
  rw [e]
  split
  · rw [List.map_map]
    refine List.map_congr_left fun kv _ => ?_
    show (if kv.1 = k then (kv.1, v) else kv).1 = kv.1
    split <;> rfl
  · simp
theorem mergeD_keys : ∀ (more kvs : List (Key × D)), (mergeD kvs more).map (·.1) = (more.map (·.1)).foldl addK (kvs.map (·.1))
  | [], kvs => rfl
  | m :: more, kvs => by
    show (mergeD (putD kvs m.1 m.2) more).map (·.1) = _
    rw [mergeD_keys more, putD_keys]; rfl
def rowOk (ty : D → Bool) : D → Bool
  | .tup [n, t] => nmD n && ty t
  | _ => false
def rowS (s : Str × D) : D := .tup [.str s.1, s.2]
theorem rows_ok {ty : D → Bool} : ∀ {rows : List D}, rows.all (rowOk ty) = true → ∃ ss : List (Str × D), rows = ss.map rowS
  | [], _ => ⟨[], rfl⟩
  | r :: rows, h => by
    rw [List.all_cons, Bool.and_eq_true] at h
    obtain ⟨ss, rfl⟩ := rows_ok h.2
    have h1 := h.1
    match r, h1 with
    | .tup [.str s, t], _ => exact ⟨(s, t) :: ss, rfl⟩
    | .tup [.non, t], h1 => cases h1
    | .tup [.bl _, t], h1 => cases h1
    | .tup [.int _, t], h1 => cases h1
    | .tup [.tup _, t], h1 => cases h1
    | .tup [.ref _, t], h1 => cases h1
    | .tup [], h1 => cases h1
    | .tup [_], h1 => cases h1
    | .tup (_ :: _ :: _ :: _), h1 => cases h1
    | .non, h1 => cases h1
    | .bl _, h1 => cases h1
    | .int _, h1 => cases h1
    | .str _, h1 => cases h1
    | .ref _, h1 => cases h1
def keyOf : D → Option Key
  | .tup (n :: _) => keyD n
  | _ => none
def nKeys (rows : List D) : Nat := ((rows.filterMap keyOf).foldl addK []).length
/-- a signature, its types by ty -/
def sgD (ty : D → Bool) : D → Bool
  | .tup rows => rows.all (rowOk ty) && ((nKeys rows : Int) == (rows.length : Int))
  | _ => false
theorem keys_ss (ss : List (Str × D)) : (ss.map rowS).filterMap keyOf = ss.map fun s => (.inr s.1 : Key) := by
  induction ss with
  | nil => rfl
  | cons s ss ih => rw [List.map_cons, List.filterMap_cons]; show (Sum.inr s.1 : Key) :: _ = _; rw [ih]; rfl
theorem pairs_ss : ∀ ss : List (Str × D), pairsD (ss.map fun s => .tup [.str s.1, .bl true]) = some (ss.map fun s => ((.inr s.1 : Key), D.bl true))
  | [] => rfl
  | s :: ss => by
    show (match keyD (.str s.1), pairsD (ss.map fun s => .tup [.str s.1, .bl true]) with
      | some k, some r => some ((k, D.bl true) :: r)
      | _, _ => none) = _
    rw [pairs_ss ss]; rfl
theorem keysD_ss : ∀ ss : List (Str × D), keysD (ss.map fun s => .str s.1) = some (ss.map fun s => (.inr s.1 : Key))
  | [] => rfl
  | s :: ss => by
    show (match keyD (.str s.1), keysD (ss.map fun s => .str s.1) with
      | some k, some ks => some (k :: ks)
      | _, _ => none) = _
    rw [keysD_ss ss]; rfl
section
variable {φ : Type} {Γ : φ → DSp} {G : Nat → Option D}
def spSgn (p : D → Bool) (ty : D → Bool) : DSp := fun ds S Q _ => ∃ v : D, ds = [v] ∧ allL p v = true ∧ sz v ≤ 16777216 ∧ dep v ≤ 90 ∧ (∀ rows, v = .tup rows → rows.length ≤ 4000) ∧ Q (.bl (sgD ty v)) S
def loopSg {φ : Type} (name type : φ) : St φ := .forr .any [.var 0] (.nm 1) [.ifs (.or (.not (.isi .tuple (.var 1))) (.or (.cmp .ne (.bf .len [.var 1]) (.lit (.int 2))) (.or (.not (.call name [.idx (.var 1) (.lit (.int 0))])) (.not (.call type [.idx (.var 1) (.lit (.int 1))]))))) [.ret (.lit (.bl false))] []]
def sgnBody {φ : Type} (name type : φ) : List (St φ) := [
  .ifs (.not (.isi .tuple (.var 0))) [.ret (.lit (.bl false))] [],
  loopSg name type,
  .ret (.cmp .eq (.bf .len [.dcomp [("one", 1)] .any [.var 0] (.nm 1) (.lit (.bl true)) (.idx (.var 1) (.lit (.int 0))) (.lit (.bl true))]) (.bf .len [.var 0]))]
def lsgnBody {φ : Type} (name type : φ) : List (St φ) := [
  .ifs (.not (.isi .tuple (.var 0))) [.ret (.lit (.bl false))] [],
  loopSg name type,
  .ret (.cmp .eq (.lenset (.comp [("row", 1)] .any [.var 0] (.nm 1) (.lit (.bl true)) (.idx (.var 1) (.lit (.int 0))))) (.bf .len [.var 0]))]
theorem row_len {ty : D → Bool} {ds : List D} (h : (!((ds.length : Int) == 2)) = true) : rowOk ty (.tup ds) = false := by
  have h : ¬ (ds.length : Int) = 2 := by simpa using h
  match ds, h with
  | [], _ => rfl
  | [_], _ => rfl
  | [_, _], h => exact absurd rfl h
  | _ :: _ :: _ :: _, _ => rfl
theorem p_loop {p : D → Bool} {ty : D → Bool} (hp : ∀ a, p (.ref a) = false) {name type : φ} {S : SH} {Q : KD} {x : XW} {rows : List D} {rest : List (St φ)} (hn : ∀ ds S Q x, spName ds S Q x → Γ name ds S Q x)
    (ht : ∀ v S Q x, allL p v = true → sz v ≤ 16777216 → dep v ≤ 90 → Q (.bl (ty v)) S → Γ type [v] S Q x) (pv : allL p (.tup rows) = true) (sv : sz (.tup rows) ≤ 16777216) (dv : dep (.tup rows) ≤ 90) (q : Q (.bl (sgD ty (.tup rows))) S)
    (fin : rows.all (rowOk ty) = true → ∀ o, wpSs Γ G rest x { nx := fun _ S' => ∃ S'', Sub S'' S' ∧ Q .non S'', rt := fun d S' => ∃ S'', Sub S'' S' ∧ Q d S'' } [some (.tup rows), o] S) :
    wpSs Γ G (loopSg name type :: rest) x { nx := fun _ S' => ∃ S'', Sub S'' S' ∧ Q .non S'', rt := fun d S' => ∃ S'', Sub S'' S' ∧ Q d S'' } [some (.tup rows), none] S := by
  have pm := allLs_iff.mp (allL_t.mp pv).2
  have svs : szs rows + 1 ≤ 16777216 := sv
  have dvs : deps rows + 1 ≤ 90 := dv
  refine c_cons ?_
  unfold loopSg
  simp only [s_nil, s_expr, s_asg, s_put, s_par, s_aug, s_ret, s_retN, s_ifs, s_forr, s_brk, s_cont, s_pass, e_var, e_lit, e_gl, e_tup, e_lst, e_bin, e_neg, e_cmp, e_chain, e_isN, e_isB, e_and, e_or, e_not, e_ite, e_idx, e_slcL, e_slcU, e_slcB, e_rev, e_isi, e_call, e_bf, e_meth, e_comp, e_bfc, e_dcomp, e_lenset, e_nil, e_cons, g_nm, g_tup, g_nil, g_cons, sl_0, sl_s, List.set, setN, wipeD, List.map, Bool.not_true, Bool.not_false]
  refine t_wkt ?_
  refine wpF_inv (fun r ρ S' => (∃ o, ρ = [some (.tup rows), o]) ∧ S' = S ∧ ∃ pre, rows = pre ++ r ∧ pre.all (rowOk ty) = true) (fun d r ρ S2 ⟨⟨o, eρ⟩, eS, pre, e1, e2⟩ => ⟨True.intro, fun N hN => ?_⟩) (fun ρ S2 ⟨⟨o, eρ⟩, eS, pre, e1, e2⟩ => ⟨True.intro, ?_⟩) _ _ _ ⟨⟨none, rfl⟩, rfl, [], rfl, rfl⟩
  · subst eρ; subst eS
    have hd : d ∈ rows := by rw [e1]; simp
    have pd := pm d hd
    simp only [s_nil, s_expr, s_asg, s_put, s_par, s_aug, s_ret, s_retN, s_ifs, s_forr, s_brk, s_cont, s_pass, e_var, e_lit, e_gl, e_tup, e_lst, e_bin, e_neg, e_cmp, e_chain, e_isN, e_isB, e_and, e_or, e_not, e_ite, e_idx, e_slcL, e_slcU, e_slcB, e_rev, e_isi, e_call, e_bf, e_meth, e_comp, e_bfc, e_dcomp, e_lenset, e_nil, e_cons, g_nm, g_tup, g_nil, g_cons, sl_0, sl_s, List.set, setN, wipeD, List.map, Bool.not_true, Bool.not_false]
    have ff : ∀ e : rowOk ty d = false, ∀ rest De ρ, De.rt = (fun d S' => ∃ S'', Sub S'' S' ∧ Q d S'') → wpSs Γ G (.ret (.lit (.bl false)) :: rest) x De ρ S2 := fun e rest De ρ hr => by
      refine c_cons ?_
      simp only [s_nil, s_expr, s_asg, s_put, s_par, s_aug, s_ret, s_retN, s_ifs, s_forr, s_brk, s_cont, s_pass, e_var, e_lit, e_gl, e_tup, e_lst, e_bin, e_neg, e_cmp, e_chain, e_isN, e_isB, e_and, e_or, e_not, e_ite, e_idx, e_slcL, e_slcU, e_slcB, e_rev, e_isi, e_call, e_bf, e_meth, e_comp, e_bfc, e_dcomp, e_lenset, e_nil, e_cons, g_nm, g_tup, g_nil, g_cons, sl_0, sl_s, List.set, setN, wipeD, List.map, Bool.not_true, Bool.not_false]
      rw [hr]
      have : sgD ty (.tup rows) = false := by
        show (rows.all (rowOk ty) && _) = false
        have : rows.all (rowOk ty) = false := by rw [e1]; simp [e]
        rw [this]; rfl
      rw [this] at q
      exact ret_same q
    refine c_cons ?_
    simp only [s_nil, s_expr, s_asg, s_put, s_par, s_aug, s_ret, s_retN, s_ifs, s_forr, s_brk, s_cont, s_pass, e_var, e_lit, e_gl, e_tup, e_lst, e_bin, e_neg, e_cmp, e_chain, e_isN, e_isB, e_and, e_or, e_not, e_ite, e_idx, e_slcL, e_slcU, e_slcB, e_rev, e_isi, e_call, e_bf, e_meth, e_comp, e_bfc, e_dcomp, e_lenset, e_nil, e_cons, g_nm, g_tup, g_nil, g_cons, sl_0, sl_s, List.set, setN, wipeD, List.map, Bool.not_true, Bool.not_false]
    refine t_isn (nref_of hp pd) (t_not (t_br (fun h1 => t_br (fun _ => ff (by cases d <;> first | rfl | cases h1) _ _ _ rfl) fun h2 => by rw [h1] at h2; cases h2) fun h1 => ?_))
    cases d with
    | tup vs =>
      refine t_lent (t_nei (t_br (fun h2 => t_br (fun _ => ff (row_len h2) _ _ _ rfl) fun h3 => by rw [h2] at h3; cases h3) fun h2 => ?_))
      obtain ⟨n, t, rfl⟩ := len_ne2 h2
      have pm2 := allLs_iff.mp (allL_t.mp pd).2
      refine t_ixt (by with_unfolding_all rfl) (hn _ _ _ _ ⟨n, rfl, nref_of hp (pm2 n (by simp)), t_not (t_br (fun h4 => t_br (fun _ => ff ?_ _ _ _ rfl) fun h5 => by rw [h4] at h5; cases h5) fun h4 => ?_)⟩)
      · have : nmD n = false := by simpa using h4
        show (nmD n && ty t) = false
        rw [this]; rfl
      · have hnm : nmD n = true := by simpa using h4
        have s1 := sz_mem hd
        have d1 := dep_mem hd
        have s2 : sz t ≤ sz (.tup [n, t]) := by show _ ≤ sz n + (sz t + 0) + 1; omega
        have d2 : dep t ≤ dep (.tup [n, t]) := by show _ ≤ max (dep n) (max (dep t) 0) + 1; omega
        refine t_ixt (by with_unfolding_all rfl) (ht _ _ _ _ (pm2 t (by simp)) (by omega) (by omega) (t_not (t_br (fun h4 => ff ?_ _ _ _ rfl) fun h4 => ?_)))
        · have : ty t = false := by simpa using h4
          show (nmD n && ty t) = false
          rw [this, Bool.and_false]
        · have : ty t = true := by simpa using h4
          refine hN _ _ ⟨⟨_, rfl⟩, rfl, pre ++ [.tup [n, t]], by rw [e1]; simp, ?_⟩
          rw [List.all_append, e2]
          show (true && ((nmD n && ty t) && true)) = true
          rw [hnm, this]; rfl
    | _ => cases h1
  · subst eρ; subst eS
    rw [List.append_nil] at e1
    subst e1
    exact fin e2 o
theorem p_sgn {p : D → Bool} {ty : D → Bool} (hp : ∀ a, p (.ref a) = false) {name type : φ} {ds : List D} {S : SH} {Q : KD} {x : XW} (hn : ∀ ds S Q x, spName ds S Q x → Γ name ds S Q x)
    (ht : ∀ v S Q x, allL p v = true → sz v ≤ 16777216 → dep v ≤ 90 → Q (.bl (ty v)) S → Γ type [v] S Q x) (h : spSgn p ty ds S Q x) : wpB Γ G 2 (sgnBody name type) ds S Q x := by
  obtain ⟨v, rfl, pv, sv, dv, wv, q⟩ := h
  unfold wpB
  change wpSs Γ G _ x _ [some v, none] S
  refine c_cons ?_
  simp only [s_nil, s_expr, s_asg, s_put, s_par, s_aug, s_ret, s_retN, s_ifs, s_forr, s_brk, s_cont, s_pass, e_var, e_lit, e_gl, e_tup, e_lst, e_bin, e_neg, e_cmp, e_chain, e_isN, e_isB, e_and, e_or, e_not, e_ite, e_idx, e_slcL, e_slcU, e_slcB, e_rev, e_isi, e_call, e_bf, e_meth, e_comp, e_bfc, e_dcomp, e_lenset, e_nil, e_cons, g_nm, g_tup, g_nil, g_cons, sl_0, sl_s, List.set, setN, wipeD, List.map, Bool.not_true, Bool.not_false]
  refine t_isn (nref_of hp pv) (t_not (t_br (fun h1 => ?_) fun h1 => ?_))
  · refine c_cons ?_
    simp only [s_nil, s_expr, s_asg, s_put, s_par, s_aug, s_ret, s_retN, s_ifs, s_forr, s_brk, s_cont, s_pass, e_var, e_lit, e_gl, e_tup, e_lst, e_bin, e_neg, e_cmp, e_chain, e_isN, e_isB, e_and, e_or, e_not, e_ite, e_idx, e_slcL, e_slcU, e_slcB, e_rev, e_isi, e_call, e_bf, e_meth, e_comp, e_bfc, e_dcomp, e_lenset, e_nil, e_cons, g_nm, g_tup, g_nil, g_cons, sl_0, sl_s, List.set, setN, wipeD, List.map, Bool.not_true, Bool.not_false]
    have : sgD ty v = false := by cases v <;> first | rfl | cases h1
    rw [this] at q
    exact ret_same q
  · cases v with
    | tup rows =>
      refine p_loop hp hn ht pv sv dv q fun hok o => ?_
      obtain ⟨ss, rfl⟩ := rows_ok hok
      refine c_cons ?_
      simp only [s_nil, s_expr, s_asg, s_put, s_par, s_aug, s_ret, s_retN, s_ifs, s_forr, s_brk, s_cont, s_pass, e_var, e_lit, e_gl, e_tup, e_lst, e_bin, e_neg, e_cmp, e_chain, e_isN, e_isB, e_and, e_or, e_not, e_ite, e_idx, e_slcL, e_slcU, e_slcB, e_rev, e_isi, e_call, e_bf, e_meth, e_comp, e_bfc, e_dcomp, e_lenset, e_nil, e_cons, g_nm, g_tup, g_nil, g_cons, sl_0, sl_s, List.set, setN, wipeD, List.map, Bool.not_true, Bool.not_false]
      refine t_wkt ?_
      refine wpC_map1 (fun d => match d with
        | .tup (n :: _) => .tup [n, .bl true]
        | d => d) True.intro (fun d hd K hK => ?_) ?_
      · obtain ⟨s, hs, rfl⟩ := List.mem_map.mp hd
        unfold rowS
        simp only [s_nil, s_expr, s_asg, s_put, s_par, s_aug, s_ret, s_retN, s_ifs, s_forr, s_brk, s_cont, s_pass, e_var, e_lit, e_gl, e_tup, e_lst, e_bin, e_neg, e_cmp, e_chain, e_isN, e_isB, e_and, e_or, e_not, e_ite, e_idx, e_slcL, e_slcU, e_slcB, e_rev, e_isi, e_call, e_bf, e_meth, e_comp, e_bfc, e_dcomp, e_lenset, e_nil, e_cons, g_nm, g_tup, g_nil, g_cons, sl_0, sl_s, List.set, setN, wipeD, List.map, Bool.not_true, Bool.not_false]
        exact t_ixt (by with_unfolding_all rfl) ⟨rfl, hK⟩
      · have e1 : ([] : List D) ++ (ss.map rowS).map (fun d => match d with
          | .tup (n :: _) => .tup [n, .bl true]
          | d => d) = ss.map fun s => .tup [.str s.1, .bl true] := by
          rw [List.nil_append, List.map_map]; rfl
        rw [e1]
        refine t_dctc (pairs_ss ss) fun r hr => t_lend up_same (t_lent (t_eqi ⟨S, Sub.new sub_refl hr, ?_⟩))
        have e2 : (mergeD [] (ss.map fun s => ((.inr s.1 : Key), D.bl true))).length = nKeys (ss.map rowS) := by
          unfold nKeys
          rw [keys_ss, ← List.length_map (f := fun kv : Key × D => kv.1), mergeD_keys, List.map_map]
          rfl
        rw [e2]
        have e3 : sgD ty (.tup (ss.map rowS)) = ((nKeys (ss.map rowS) : Int) == ((ss.map rowS).length : Int)) := by
          show ((ss.map rowS).all (rowOk ty) && _) = _
          rw [hok]; rfl
        rw [e3] at q
        exact q
    | _ => cases h1
theorem p_lsgn {p : D → Bool} {ty : D → Bool} (hp : ∀ a, p (.ref a) = false) {name type : φ} {ds : List D} {S : SH} {Q : KD} {x : XW} (hn : ∀ ds S Q x, spName ds S Q x → Γ name ds S Q x)
    (ht : ∀ v S Q x, allL p v = true → sz v ≤ 16777216 → dep v ≤ 90 → Q (.bl (ty v)) S → Γ type [v] S Q x) (h : spSgn p ty ds S Q x) : wpB Γ G 2 (lsgnBody name type) ds S Q x := by
  obtain ⟨v, rfl, pv, sv, dv, wv, q⟩ := h
  unfold wpB
  change wpSs Γ G _ x _ [some v, none] S
  refine c_cons ?_
  simp only [s_nil, s_expr, s_asg, s_put, s_par, s_aug, s_ret, s_retN, s_ifs, s_forr, s_brk, s_cont, s_pass, e_var, e_lit, e_gl, e_tup, e_lst, e_bin, e_neg, e_cmp, e_chain, e_isN, e_isB, e_and, e_or, e_not, e_ite, e_idx, e_slcL, e_slcU, e_slcB, e_rev, e_isi, e_call, e_bf, e_meth, e_comp, e_bfc, e_dcomp, e_lenset, e_nil, e_cons, g_nm, g_tup, g_nil, g_cons, sl_0, sl_s, List.set, setN, wipeD, List.map, Bool.not_true, Bool.not_false]
  refine t_isn (nref_of hp pv) (t_not (t_br (fun h1 => ?_) fun h1 => ?_))
  · refine c_cons ?_
    simp only [s_nil, s_expr, s_asg, s_put, s_par, s_aug, s_ret, s_retN, s_ifs, s_forr, s_brk, s_cont, s_pass, e_var, e_lit, e_gl, e_tup, e_lst, e_bin, e_neg, e_cmp, e_chain, e_isN, e_isB, e_and, e_or, e_not, e_ite, e_idx, e_slcL, e_slcU, e_slcB, e_rev, e_isi, e_call, e_bf, e_meth, e_comp, e_bfc, e_dcomp, e_lenset, e_nil, e_cons, g_nm, g_tup, g_nil, g_cons, sl_0, sl_s, List.set, setN, wipeD, List.map, Bool.not_true, Bool.not_false]
    have : sgD ty v = false := by cases v <;> first | rfl | cases h1
    rw [this] at q
    exact ret_same q
  · cases v with
    | tup rows =>
      refine p_loop hp hn ht pv sv dv q fun hok o => ?_
      have wr := wv rows rfl
      obtain ⟨ss, rfl⟩ := rows_ok hok
      refine c_cons ?_
      simp only [s_nil, s_expr, s_asg, s_put, s_par, s_aug, s_ret, s_retN, s_ifs, s_forr, s_brk, s_cont, s_pass, e_var, e_lit, e_gl, e_tup, e_lst, e_bin, e_neg, e_cmp, e_chain, e_isN, e_isB, e_and, e_or, e_not, e_ite, e_idx, e_slcL, e_slcU, e_slcB, e_rev, e_isi, e_call, e_bf, e_meth, e_comp, e_bfc, e_dcomp, e_lenset, e_nil, e_cons, g_nm, g_tup, g_nil, g_cons, sl_0, sl_s, List.set, setN, wipeD, List.map, Bool.not_true, Bool.not_false]
      refine t_wkt ?_
      refine wpC_map1 (fun d => match d with
        | .tup (n :: _) => n
        | d => d) True.intro (fun d hd K hK => ?_) ?_
      · obtain ⟨s, hs, rfl⟩ := List.mem_map.mp hd
        unfold rowS
        simp only [s_nil, s_expr, s_asg, s_put, s_par, s_aug, s_ret, s_retN, s_ifs, s_forr, s_brk, s_cont, s_pass, e_var, e_lit, e_gl, e_tup, e_lst, e_bin, e_neg, e_cmp, e_chain, e_isN, e_isB, e_and, e_or, e_not, e_ite, e_idx, e_slcL, e_slcU, e_slcB, e_rev, e_isi, e_call, e_bf, e_meth, e_comp, e_bfc, e_dcomp, e_lenset, e_nil, e_cons, g_nm, g_tup, g_nil, g_cons, sl_0, sl_s, List.set, setN, wipeD, List.map, Bool.not_true, Bool.not_false]
        exact t_ixt (by with_unfolding_all rfl) hK
      · have e1 : ([] : List D) ++ (ss.map rowS).map (fun d => match d with
          | .tup (n :: _) => n
          | d => d) = ss.map fun s => .str s.1 := by
          rw [List.nil_append, List.map_map]; rfl
        rw [e1]
        refine t_new fun r hr => t_lset up_same (keysD_ss ss) (by rw [List.length_map]; simpa using wr) (t_lent (t_eqi ⟨S, Sub.new sub_refl hr, ?_⟩))
        have e3 : sgD ty (.tup (ss.map rowS)) = ((((ss.map fun s => (.inr s.1 : Key)).foldl addK []).length : Int) == ((ss.map rowS).length : Int)) := by
          show ((ss.map rowS).all (rowOk ty) && ((nKeys (ss.map rowS) : Int) == ((ss.map rowS).length : Int))) = _
          unfold nKeys
          rw [hok, keys_ss]; rfl
        rw [e3] at q
        exact q
    | _ => cases h1
end
end Lac
end

-- K01a.lean
section
set_option Elab.async false
set_option linter.all false
set_option maxRecDepth 100000
set_option maxHeartbeats 0
set_option autoImplicit false
namespace Lac.K01
open PySem PySem.Spec PyProof.Rows L2 Lac
/-! ### the defs of the text -/
inductive F where
  | is_name | is_type | is_signature | f_law_start | f_law_fill | f_law_take | f_law_signature | f_law_kind | f_law_is_int | f_law_is_name | f_law_is_type | f_law_is_signature | f_law_nodes_of | f_law_changed | f_law_high | f_law_spoilt | law
open F
def nmF : F → Str
  | .is_name => "is_name"
  | .is_type => "is_type"
  | .is_signature => "is_signature"
  | .f_law_start => "_law_start"
  | .f_law_fill => "_law_fill"
  | .f_law_take => "_law_take"
  | .f_law_signature => "_law_signature"
  | .f_law_kind => "_law_kind"
  | .f_law_is_int => "_law_is_int"
  | .f_law_is_name => "_law_is_name"
  | .f_law_is_type => "_law_is_type"
  | .f_law_is_signature => "_law_is_signature"
  | .f_law_nodes_of => "_law_nodes_of"
  | .f_law_changed => "_law_changed"
  | .f_law_high => "_law_high"
  | .f_law_spoilt => "_law_spoilt"
  | .law => "law"
def psF : F → List Str
  | .is_name => ["value"]
  | .is_type => ["value"]
  | .is_signature => ["value"]
  | .f_law_start => ["script"]
  | .f_law_fill => ["c"]
  | .f_law_take => ["c", "many"]
  | .f_law_signature => ["c"]
  | .f_law_kind => ["c", "high"]
  | .f_law_is_int => ["value"]
  | .f_law_is_name => ["value"]
  | .f_law_is_type => ["value"]
  | .f_law_is_signature => ["value"]
  | .f_law_nodes_of => ["value", "found"]
  | .f_law_changed => ["value", "box", "other"]
  | .f_law_high => ["value"]
  | .f_law_spoilt => ["c", "value", "menu"]
  | .law => ["script"]
def NF : F → List Str
  | .is_name => ["value", "letter"]
  | .is_type => ["value", "left", "one", "outermost", "part"]
  | .is_signature => ["value", "one"]
  | .f_law_start => ["script", "cell"]
  | .f_law_fill => ["c", "number"]
  | .f_law_take => ["c", "many", "digit"]
  | .f_law_signature => ["c", "a", "b", "one", "rows", "front", "kept", "j", "row", "name", "kind"]
  | .f_law_kind => ["c", "high", "sort", "many", "k"]
  | .f_law_is_int => ["value"]
  | .f_law_is_name => ["value", "x"]
  | .f_law_is_type => ["value", "part"]
  | .f_law_is_signature => ["value", "row"]
  | .f_law_nodes_of => ["value", "found", "part"]
  | .f_law_changed => ["value", "box", "other", "part"]
  | .f_law_high => ["value", "level", "high", "count", "deeper", "one"]
  | .f_law_spoilt => ["c", "value", "menu", "found", "at", "one", "others", "other", "changed"]
  | .law => ["script", "c", "menu", "turn", "kind", "signature", "first", "k", "told"]
def gs : List (Str × D) := [("RESERVED", .tup [.str "con", .str "rule", .str "ask", .str "if", .str "true", .str "some", .str "all", .str "given", .str "match", .str "same", .str "steps", .str "many", .str "height"]), ("LETTERS", .str "abcdefghijklmnopqrstuvwxyz")]
def Gv (k : Nat) : Option D := (gs.map (·.2))[k]?
def pg : Pg F := ⟨nmF, psF, gs.map (·.1), ["all", "bool", "int", "isinstance", "len", "max", "range", "set", "str", "tuple"]⟩
/-- is_name: slots 0 value, 1 letter -/
def b_is_name : List (St F) := [
  .ifs (.or (.not (.isi .str (.var 0))) (.or (.not (.chain .le .le (.lit (.int 1)) (.bf .len [.var 0]) (.lit (.int 8)))) (.cmp .inn (.var 0) (.gl 0)))) [.ret (.lit (.bl false))] [],
  .ret (.bfc .all [("letter", 1)] .any [.var 0] (.nm 1) (.lit (.bl true)) (.cmp .inn (.var 1) (.gl 1)))]
/-- is_type: slots 0 value, 1 left, 2 one, 3 outermost, 4 part -/
def b_is_type : List (St F) := [
  .asg (.nm 1) (.lst [.tup [.var 0, .lit (.bl true)]]),
  .whl (.var 1) [.asg (.tup [(.nm 2), (.nm 3)]) (.meth .pop (.var 1) []),
    .ifs (.or (.not (.isi .tuple (.var 2))) (.or (.cmp .ne (.bf .len [.var 2]) (.lit (.int 2))) (.or (.not (.isi .tuple (.idx (.var 2) (.lit (.int 0))))) (.not (.call .is_name [.idx (.var 2) (.lit (.int 1))]))))) [.ret (.lit (.bl false))] [],
    .ifs (.and (.cmp .eq (.idx (.var 2) (.lit (.int 1))) (.lit (.str "o"))) (.not (.var 3))) [.ret (.lit (.bl false))] [],
    .expr (.meth .extend (.var 1) [.comp [("part", 4)] .any [.idx (.var 2) (.lit (.int 0))] (.nm 4) (.lit (.bl true)) (.tup [.var 4, .lit (.bl false)])])],
  .ret (.lit (.bl true))]
/-- is_signature: slots 0 value, 1 one -/
def b_is_signature : List (St F) := [
  .ifs (.not (.isi .tuple (.var 0))) [.ret (.lit (.bl false))] [],
  .forr .any [.var 0] (.nm 1) [.ifs (.or (.not (.isi .tuple (.var 1))) (.or (.cmp .ne (.bf .len [.var 1]) (.lit (.int 2))) (.or (.not (.call .is_name [.idx (.var 1) (.lit (.int 0))])) (.not (.call .is_type [.idx (.var 1) (.lit (.int 1))]))))) [.ret (.lit (.bl false))] []],
  .ret (.cmp .eq (.bf .len [.dcomp [("one", 1)] .any [.var 0] (.nm 1) (.lit (.bl true)) (.idx (.var 1) (.lit (.int 0))) (.lit (.bl true))]) (.bf .len [.var 0]))]
/-- _law_start: slots 0 script, 1 cell -/
def b_f_law_start : List (St F) := [
  .ret (.lst [.comp [("cell", 1)] .any [.slcU (.var 0) (.lit (.int 63))] (.nm 1) (.lit (.bl true)) (.bf .int [.var 1]), .lit (.int 0), .lit (.int 0), .lit (.int 0), .lit (.int 20)])]
/-- _law_fill: slots 0 c, 1 number -/
def b_f_law_fill : List (St F) := [
  .put (.var 0) (.lit (.int 3)) (.bin .add (.idx (.var 0) (.lit (.int 3))) (.lit (.int 1))),
  .asg (.nm 1) (.bin .add (.bin .mul (.idx (.var 0) (.lit (.int 3))) (.lit (.int 69621))) (.lit (.int 12345))),
  .ifs (.cmp .lt (.idx (.var 0) (.lit (.int 1))) (.bf .len [.idx (.var 0) (.lit (.int 0))])) [.asg (.nm 1) (.bf .max [.idx (.idx (.var 0) (.lit (.int 0))) (.idx (.var 0) (.lit (.int 1))), .bin .sub (.bin .sub (.lit (.int 0)) (.lit (.int 1))) (.idx (.idx (.var 0) (.lit (.int 0))) (.idx (.var 0) (.lit (.int 1))))]),
    .put (.var 0) (.lit (.int 1)) (.bin .add (.idx (.var 0) (.lit (.int 1))) (.lit (.int 1))),
    .ifs (.cmp .ge (.var 1) (.bin .pow (.lit (.int 10)) (.lit (.int 18)))) [.ret (.var 1)] []] [],
  .ifs (.and (.idx (.var 0) (.lit (.int 0))) (.cmp .ge (.idx (.var 0) (.lit (.int 1))) (.bf .len [.idx (.var 0) (.lit (.int 0))]))) [.asg (.nm 1) (.bin .add (.var 1) (.bin .mod (.bf .int [.idx (.idx (.var 0) (.lit (.int 0))) (.neg (.lit (.int 1)))]) (.lit (.int 1000003))))] [],
  .asg (.nm 1) (.bin .mod (.bf .int [.bin .add (.bin .mul (.var 1) (.lit (.int 48271))) (.bin .mul (.idx (.var 0) (.lit (.int 3))) (.lit (.int 69621)))]) (.lit (.int 2147483647))),
  .ret (.bin .add (.bin .fdiv (.bf .int [.bin .add (.bin .add (.bin .mul (.var 1) (.var 1)) (.bin .mul (.idx (.var 0) (.lit (.int 3))) (.lit (.int 7919)))) (.lit (.int 11))]) (.lit (.int 64))) (.lit (.int 36028797018963968)))]
/-- _law_take: slots 0 c, 1 many, 2 digit -/
def b_f_law_take : List (St F) := [
  .ifs (.cmp .lt (.idx (.var 0) (.lit (.int 2))) (.var 1)) [.put (.var 0) (.lit (.int 2)) (.call .f_law_fill [.var 0])] [],
  .asg (.nm 2) (.bin .mod (.bf .int [.idx (.var 0) (.lit (.int 2))]) (.var 1)),
  .put (.var 0) (.lit (.int 2)) (.bin .fdiv (.idx (.var 0) (.lit (.int 2))) (.var 1)),
  .ret (.var 2)]
/-- _law_signature: slots 0 c, 1 a, 2 b, 3 one, 4 rows, 5 front, 6 kept, 7 j, 8 row, 9 name, 10 kind -/
def b_f_law_signature : List (St F) := [
  .asg (.tup [(.nm 1), (.nm 2)]) (.tup [.tup [.tup [], .lit (.str "a")], .tup [.tup [], .lit (.str "b")]]),
  .asg (.nm 3) (.tup [.tup [.var 1], .lit (.str "a")]),
  .asg (.nm 4) (.lst [.tup [.lit (.str "c"), .var 1], .tup [.lit (.str "f"), .tup [.tup [.var 1, .var 1], .lit (.str "a")]], .tup [.lit (.str "g"), .var 3], .tup [.lit (.str "lam"), .tup [.tup [.var 3], .lit (.str "a")]], .tup [.lit (.str "e"), .var 2], .tup [.lit (.str "k"), .tup [.tup [.var 1, .var 2], .lit (.str "b")]], .tup [.lit (.str "d"), .var 1]]),
  .asg (.nm 4) (.bin .add (.var 4) (.lst [.tup [.lit (.str "w"), .tup [.tup [.tup [.tup [.var 1, .var 1], .lit (.str "a")]], .lit (.str "b")]], .tup [.lit (.str "m"), .tup [.tup [.var 3, .var 2], .lit (.str "a")]]])),
  .asg (.nm 5) (.meth .join (.lit (.str "")) [.comp [("j", 7)] .range [.call .f_law_take [.var 0, .lit (.int 4)]] (.nm 7) (.lit (.bl true)) (.idx (.lit (.str "abdeghjklmnpqrvwxy")) (.call .f_law_take [.var 0, .lit (.int 18)]))]),
  .asg (.nm 6) (.bin .add (.lst [.idx (.var 4) (.lit (.int 0)), .idx (.var 4) (.lit (.int 4))]) (.comp [("row", 8)] .any [.bin .add (.slcB (.var 4) (.lit (.int 1)) (.lit (.int 4))) (.slcL (.var 4) (.lit (.int 5)))] (.nm 8) (.cmp .ne (.call .f_law_take [.var 0, .lit (.int 3)]) (.lit (.int 0))) (.var 8))),
  .ret (.bfc .tuple [("name", 9), ("kind", 10)] .any [.var 6] (.tup [(.nm 9), (.nm 10)]) (.lit (.bl true)) (.tup [.bin .add (.var 5) (.var 9), .var 10]))]
/-- _law_kind: slots 0 c, 1 high, 2 sort, 3 many, 4 k -/
def b_f_law_kind : List (St F) := [
  .asg (.nm 2) (.idx (.lst [.lit (.str "a"), .lit (.str "a"), .lit (.str "b")]) (.call .f_law_take [.var 0, .lit (.int 3)])),
  .ifs (.cmp .eq (.var 1) (.lit (.int 0))) [.ret (.tup [.tup [], .var 2])] [],
  .asg (.nm 3) (.idx (.lst [.lit (.int 0), .lit (.int 1), .lit (.int 1), .lit (.int 2), .lit (.int 3)]) (.call .f_law_take [.var 0, .lit (.int 5)])),
  .ret (.tup [.bfc .tuple [("k", 4)] .range [.var 3] (.nm 4) (.lit (.bl true)) (.call .f_law_kind [.var 0, .idx (.lst [.bin .sub (.var 1) (.lit (.int 1)), .lit (.int 0)]) (.bf .int [.cmp .ne (.call .f_law_take [.var 0, .lit (.int 3)]) (.lit (.int 0))])]), .var 2])]
/-- _law_is_int: slots 0 value -/
def b_f_law_is_int : List (St F) := [
  .ret (.and (.isi .int (.var 0)) (.not (.isi .bool (.var 0))))]
/-- _law_is_name: slots 0 value, 1 x -/
def b_f_law_is_name : List (St F) := [
  .ifs (.or (.not (.isi .str (.var 0))) (.or (.cmp .lt (.bf .len [.var 0]) (.lit (.int 1))) (.or (.cmp .gt (.bf .len [.var 0]) (.lit (.int 8))) (.not (.bfc .all [("x", 1)] .any [.var 0] (.nm 1) (.lit (.bl true)) (.cmp .inn (.var 1) (.lit (.str "abcdefghijklmnopqrstuvwxyz")))))))) [.ret (.lit (.bl false))] [],
  .ret (.cmp .nin (.var 0) (.lst [.lit (.str "con"), .lit (.str "rule"), .lit (.str "ask"), .lit (.str "if"), .lit (.str "true"), .lit (.str "some"), .lit (.str "all"), .lit (.str "given"), .lit (.str "same"), .lit (.str "match"), .lit (.str "steps"), .lit (.str "many"), .lit (.str "height")]))]
/-- _law_is_type: slots 0 value, 1 part -/
def b_f_law_is_type : List (St F) := [
  .ifs (.or (.not (.isi .tuple (.var 0))) (.or (.cmp .ne (.bf .len [.var 0]) (.lit (.int 2))) (.or (.not (.isi .tuple (.idx (.var 0) (.lit (.int 0))))) (.not (.call .f_law_is_name [.idx (.var 0) (.lit (.int 1))]))))) [.ret (.lit (.bl false))] [],
  .ret (.bfc .all [("part", 1)] .any [.idx (.var 0) (.lit (.int 0))] (.nm 1) (.lit (.bl true)) (.call .f_law_is_type [.var 1]))]
/-- _law_is_signature: slots 0 value, 1 row -/
def b_f_law_is_signature : List (St F) := [
  .ifs (.not (.isi .tuple (.var 0))) [.ret (.lit (.bl false))] [],
  .forr .any [.var 0] (.nm 1) [.ifs (.or (.not (.isi .tuple (.var 1))) (.or (.cmp .ne (.bf .len [.var 1]) (.lit (.int 2))) (.or (.not (.call .f_law_is_name [.idx (.var 1) (.lit (.int 0))])) (.not (.call .f_law_is_type [.idx (.var 1) (.lit (.int 1))]))))) [.ret (.lit (.bl false))] []],
  .ret (.cmp .eq (.lenset (.comp [("row", 1)] .any [.var 0] (.nm 1) (.lit (.bl true)) (.idx (.var 1) (.lit (.int 0))))) (.bf .len [.var 0]))]
/-- _law_nodes_of: slots 0 value, 1 found, 2 part -/
def b_f_law_nodes_of : List (St F) := [
  .ifs (.cmp .lt (.bf .len [.var 1]) (.lit (.int 3000))) [.expr (.meth .append (.var 1) [.var 0])] [],
  .ifs (.isi .tuple (.var 0)) [.forr .any [.var 0] (.nm 2) [.expr (.call .f_law_nodes_of [.var 2, .var 1])]] [],
  .ret (.var 1)]
/-- _law_changed: slots 0 value, 1 box, 2 other, 3 part -/
def b_f_law_changed : List (St F) := [
  .put (.var 1) (.lit (.int 0)) (.bin .sub (.idx (.var 1) (.lit (.int 0))) (.lit (.int 1))),
  .ifs (.cmp .eq (.idx (.var 1) (.lit (.int 0))) (.lit (.int 0))) [.ret (.var 2)] [],
  .ifs (.not (.isi .tuple (.var 0))) [.ret (.var 0)] [],
  .ret (.bfc .tuple [("part", 3)] .any [.var 0] (.nm 3) (.lit (.bl true)) (.call .f_law_changed [.var 3, .var 1, .var 2]))]
/-- _law_high: slots 0 value, 1 level, 2 high, 3 count, 4 deeper, 5 one -/
def b_f_law_high : List (St F) := [
  .asg (.nm 1) (.lst [.var 0]),
  .asg (.nm 2) (.lit (.int 0)),
  .asg (.nm 3) (.lit (.int 0)),
  .whl (.and (.var 1) (.cmp .lt (.var 3) (.lit (.int 4000)))) [.asg (.nm 2) (.bin .add (.var 2) (.lit (.int 1))),
    .asg (.nm 3) (.bin .add (.var 3) (.bf .len [.var 1])),
    .asg (.nm 4) (.lst []),
    .forr .any [.var 1] (.nm 5) [.ifs (.isi .tuple (.var 5)) [.expr (.meth .extend (.var 4) [.var 5])] []],
    .asg (.nm 1) (.var 4)],
  .ifs (.var 1) [.ret (.lit (.int 1000))] [],
  .ret (.var 2)]
/-- _law_spoilt: slots 0 c, 1 value, 2 menu, 3 found, 4 at, 5 one, 6 others, 7 other, 8 changed -/
def b_f_law_spoilt : List (St F) := [
  .asg (.nm 3) (.call .f_law_nodes_of [.var 1, .lst []]),
  .asg (.nm 4) (.call .f_law_take [.var 0, .bf .len [.var 3]]),
  .asg (.nm 5) (.idx (.var 3) (.var 4)),
  .asg (.nm 6) (.bin .add (.lst [.idx (.var 3) (.call .f_law_take [.var 0, .bf .len [.var 3]]), .idx (.var 3) (.call .f_law_take [.var 0, .bf .len [.var 3]]), .lit (.non), .lit (.bl true), .lit (.bl false), .lit (.int 0), .lit (.int 1), .bin .sub (.lit (.int 0)) (.lit (.int 1)), .lit (.str ""), .lit (.str "a"), .tup [], .tup [.tup [], .lit (.str "a")]]) (.var 2)),
  .asg (.nm 7) (.idx (.var 6) (.call .f_law_take [.var 0, .bf .len [.var 6]])),
  .ifs (.and (.isi .tuple (.var 5)) (.cmp .eq (.call .f_law_take [.var 0, .lit (.int 2)]) (.lit (.int 0)))) [.asg (.nm 7) (.idx (.lst [.slcL (.var 5) (.lit (.int 1)), .bin .add (.var 5) (.slcL (.var 5) (.neg (.lit (.int 1)))), .rev (.var 5), .slcU (.var 5) (.neg (.lit (.int 1)))]) (.call .f_law_take [.var 0, .lit (.int 4)]))] [],
  .ifs (.and (.call .f_law_is_int [.var 5]) (.cmp .eq (.call .f_law_take [.var 0, .lit (.int 2)]) (.lit (.int 0)))) [.asg (.nm 7) (.idx (.lst [.bin .add (.var 5) (.lit (.int 1)), .bin .sub (.var 5) (.lit (.int 1)), .bin .add (.var 5) (.lit (.int 2))]) (.call .f_law_take [.var 0, .lit (.int 3)]))] [],
  .asg (.nm 8) (.call .f_law_changed [.var 1, .lst [.bin .add (.var 4) (.lit (.int 1))], .var 7]),
  .ifs (.cmp .gt (.call .f_law_high [.var 8]) (.lit (.int 90))) [.ret (.var 1)] [],
  .ret (.var 8)]
/-- law: slots 0 script, 1 c, 2 menu, 3 turn, 4 kind, 5 signature, 6 first, 7 k, 8 told -/
def b_law : List (St F) := [
  .asg (.nm 1) (.call .f_law_start [.var 0]),
  .asg (.nm 2) (.lst [.lit (.str "abcdefgh"), .lit (.str "abcdefghi"), .lit (.str "con"), .lit (.str "rule"), .lit (.str "A"), .lit (.str "a1"), .lit (.str "true"), .lit (.str "height"), .lit (.str "z"), .tup [.tup [], .lit (.str "zz")], .tup [.tup [.tup [], .lit (.str "a")], .lit (.str "b")], .lit (.str "if")]),
  .forr .range [.lit (.int 2)] (.nm 3) [.asg (.nm 4) (.call .f_law_kind [.var 1, .lit (.int 3)]),
    .asg (.nm 5) (.bin .add (.call .f_law_signature [.var 1]) (.tup [.tup [.lit (.str "q"), .var 4]])),
    .asg (.nm 6) (.idx (.var 5) (.lit (.int 0))),
    .forr .range [.lit (.int 5)] (.nm 7) [.asg (.nm 8) (.call .is_type [.var 4]),
    .ifs (.or (.not (.isi .bool (.var 8))) (.cmp .ne (.var 8) (.call .f_law_is_type [.var 4]))) [.ret (.lit (.bl false))] [],
    .asg (.nm 8) (.call .is_signature [.var 5]),
    .ifs (.or (.not (.isi .bool (.var 8))) (.cmp .ne (.var 8) (.call .f_law_is_signature [.var 5]))) [.ret (.lit (.bl false))] [],
    .asg (.nm 4) (.call .f_law_spoilt [.var 1, .var 4, .var 2]),
    .asg (.nm 5) (.call .f_law_spoilt [.var 1, .var 5, .bin .add (.var 2) (.lst [.var 6, .idx (.var 6) (.lit (.int 0))])])]],
  .ret (.and (.isB true (.call .is_signature [.tup []])) (.isB false (.call .is_type [.tup []])))]
def bodyF : F → List (St F)
  | .is_name => b_is_name
  | .is_type => b_is_type
  | .is_signature => b_is_signature
  | .f_law_start => b_f_law_start
  | .f_law_fill => b_f_law_fill
  | .f_law_take => b_f_law_take
  | .f_law_signature => b_f_law_signature
  | .f_law_kind => b_f_law_kind
  | .f_law_is_int => b_f_law_is_int
  | .f_law_is_name => b_f_law_is_name
  | .f_law_is_type => b_f_law_is_type
  | .f_law_is_signature => b_f_law_is_signature
  | .f_law_nodes_of => b_f_law_nodes_of
  | .f_law_changed => b_f_law_changed
  | .f_law_high => b_f_law_high
  | .f_law_spoilt => b_f_law_spoilt
  | .law => b_law
def top (i : Nat) : Stmt := PySem.Challenge.pw_lacuna_k01_types_and_signatures.main.body.getD i (.Pass ⟨0, 0, 0, 0⟩)
def smF : F → Stmt
  | .is_name => top 3
  | .is_type => top 4
  | .is_signature => top 5
  | .f_law_start => top 7
  | .f_law_fill => top 8
  | .f_law_take => top 9
  | .f_law_signature => top 10
  | .f_law_kind => top 11
  | .f_law_is_int => top 12
  | .f_law_is_name => top 13
  | .f_law_is_type => top 14
  | .f_law_is_signature => top 15
  | .f_law_nodes_of => top 16
  | .f_law_changed => top 17
  | .f_law_high => top 18
  | .f_law_spoilt => top 19
  | .law => top 20
theorem okF : ∀ f : F, DefOk pg NF bodyF smF f
  | .is_name => ⟨by decide +kernel, ⟨by decide +kernel, by decide +kernel, by decide +kernel, by decide +kernel, by decide +kernel, by decide +kernel, by decide +kernel⟩, fun _ _ _ _ _ _ us hl => match us, hl with | [_], _ => rfl⟩
  | .is_type => ⟨by decide +kernel, ⟨by decide +kernel, by decide +kernel, by decide +kernel, by decide +kernel, by decide +kernel, by decide +kernel, by decide +kernel⟩, fun _ _ _ _ _ _ us hl => match us, hl with | [_], _ => rfl⟩
  | .is_signature => ⟨by decide +kernel, ⟨by decide +kernel, by decide +kernel, by decide +kernel, by decide +kernel, by decide +kernel, by decide +kernel, by decide +kernel⟩, fun _ _ _ _ _ _ us hl => match us, hl with | [_], _ => rfl⟩
  | .f_law_start => ⟨by decide +kernel, ⟨by decide +kernel, by decide +kernel, by decide +kernel, by decide +kernel, by decide +kernel, by decide +kernel, by decide +kernel⟩, fun _ _ _ _ _ _ us hl => match us, hl with | [_], _ => rfl⟩
  | .f_law_fill => ⟨by decide +kernel, ⟨by decide +kernel, by decide +kernel, by decide +kernel, by decide +kernel, by decide +kernel, by decide +kernel, by decide +kernel⟩, fun _ _ _ _ _ _ us hl => match us, hl with | [_], _ => rfl⟩
  | .f_law_take => ⟨by decide +kernel, ⟨by decide +kernel, by decide +kernel, by decide +kernel, by decide +kernel, by decide +kernel, by decide +kernel, by decide +kernel⟩, fun _ _ _ _ _ _ us hl => match us, hl with | [_, _], _ => rfl⟩
  | .f_law_signature => ⟨by decide +kernel, ⟨by decide +kernel, by decide +kernel, by decide +kernel, by decide +kernel, by decide +kernel, by decide +kernel, by decide +kernel⟩, fun _ _ _ _ _ _ us hl => match us, hl with | [_], _ => rfl⟩
  | .f_law_kind => ⟨by decide +kernel, ⟨by decide +kernel, by decide +kernel, by decide +kernel, by decide +kernel, by decide +kernel, by decide +kernel, by decide +kernel⟩, fun _ _ _ _ _ _ us hl => match us, hl with | [_, _], _ => rfl⟩
  | .f_law_is_int => ⟨by decide +kernel, ⟨by decide +kernel, by decide +kernel, by decide +kernel, by decide +kernel, by decide +kernel, by decide +kernel, by decide +kernel⟩, fun _ _ _ _ _ _ us hl => match us, hl with | [_], _ => rfl⟩
  | .f_law_is_name => ⟨by decide +kernel, ⟨by decide +kernel, by decide +kernel, by decide +kernel, by decide +kernel, by decide +kernel, by decide +kernel, by decide +kernel⟩, fun _ _ _ _ _ _ us hl => match us, hl with | [_], _ => rfl⟩
  | .f_law_is_type => ⟨by decide +kernel, ⟨by decide +kernel, by decide +kernel, by decide +kernel, by decide +kernel, by decide +kernel, by decide +kernel, by decide +kernel⟩, fun _ _ _ _ _ _ us hl => match us, hl with | [_], _ => rfl⟩
  | .f_law_is_signature => ⟨by decide +kernel, ⟨by decide +kernel, by decide +kernel, by decide +kernel, by decide +kernel, by decide +kernel, by decide +kernel, by decide +kernel⟩, fun _ _ _ _ _ _ us hl => match us, hl with | [_], _ => rfl⟩
  | .f_law_nodes_of => ⟨by decide +kernel, ⟨by decide +kernel, by decide +kernel, by decide +kernel, by decide +kernel, by decide +kernel, by decide +kernel, by decide +kernel⟩, fun _ _ _ _ _ _ us hl => match us, hl with | [_, _], _ => rfl⟩
  | .f_law_changed => ⟨by decide +kernel, ⟨by decide +kernel, by decide +kernel, by decide +kernel, by decide +kernel, by decide +kernel, by decide +kernel, by decide +kernel⟩, fun _ _ _ _ _ _ us hl => match us, hl with | [_, _, _], _ => rfl⟩
  | .f_law_high => ⟨by decide +kernel, ⟨by decide +kernel, by decide +kernel, by decide +kernel, by decide +kernel, by decide +kernel, by decide +kernel, by decide +kernel⟩, fun _ _ _ _ _ _ us hl => match us, hl with | [_], _ => rfl⟩
  | .f_law_spoilt => ⟨by decide +kernel, ⟨by decide +kernel, by decide +kernel, by decide +kernel, by decide +kernel, by decide +kernel, by decide +kernel, by decide +kernel⟩, fun _ _ _ _ _ _ us hl => match us, hl with | [_, _, _], _ => rfl⟩
  | .law => ⟨by decide +kernel, ⟨by decide +kernel, by decide +kernel, by decide +kernel, by decide +kernel, by decide +kernel, by decide +kernel, by decide +kernel⟩, fun _ _ _ _ _ _ us hl => match us, hl with | [_], _ => rfl⟩

end Lac.K01
end

-- K01b.lean
section
set_option Elab.async false
set_option linter.all false
set_option maxRecDepth 100000
set_option maxHeartbeats 4000000
set_option autoImplicit false
namespace Lac.K01
open PySem L2 Lac
/-- leaves -/
def qL : D → Bool
  | .ref _ => false
  | .str s => !(decide (s = "o"))
  | _ => true
theorem lfL : Lf qL := ⟨fun _ => rfl, rfl, fun _ => rfl, fun _ => rfl, by decide +kernel, by decide +kernel⟩
def spLaw : DSp := fun ds S Q _ => ∃ (a : Addr) (ns : List Int), ds = [.ref a] ∧ S a = some (.rd (ns.map .int)) ∧ ∀ S', Q (.bl true) S'
/-- the promises by levels -/
def Γ (n : Nat) (f : F) : DSp := fun ds S Q x => match f with
  | .is_name => 1 ≤ n ∧ spName ds S Q x
  | .is_type => 2 ≤ n ∧ ∃ w, spPty (pW qL w) ds S Q x
  | .is_signature => 3 ≤ n ∧ ∃ w, spSgn (pW qL w) (ptyD true) ds S Q x
  | .f_law_start => 1 ≤ n ∧ spStart ds S Q x
  | .f_law_fill => 1 ≤ n ∧ spFill ds S Q x
  | .f_law_take => 2 ≤ n ∧ spTake ds S Q x
  | .f_law_signature => 3 ≤ n ∧ spSig ds S Q x
  | .f_law_kind => ∃ m, m + 3 ≤ n ∧ spKind m ds S Q x
  | .f_law_is_int => 1 ≤ n ∧ spIsInt ds S Q x
  | .f_law_is_name => 1 ≤ n ∧ spName ds S Q x
  | .f_law_is_type => ∃ w m, m + 2 ≤ n ∧ spLty (pW qL w) m ds S Q x
  | .f_law_is_signature => 100 ≤ n ∧ ∃ w, spSgn (pW qL w) ltyD ds S Q x
  | .f_law_nodes_of => ∃ w B m, m + 1 ≤ n ∧ m ≤ 400 ∧ spNodes (Vl (pW qL w) B) m ds S Q x
  | .f_law_changed => ∃ w m, m + 1 ≤ n ∧ m ≤ 400 ∧ spChg (pW qL w) m ds S Q x
  | .f_law_high => 1 ≤ n ∧ ∃ w, spHigh (pW qL w) ds S Q x
  | .f_law_spoilt => 100 ≤ n ∧ ∃ w B, spSpoilt qL w B ds S Q x
  | .law => 150 ≤ n ∧ spLaw ds S Q x
theorem zero (f : F) (ds : List D) (S : SH) (Q : KD) (x : XW) : ¬ Γ 0 f ds S Q x := by
  intro h
  cases f with
  | f_law_kind => obtain ⟨m, h, _⟩ := h; omega
  | f_law_is_type => obtain ⟨w, m, h, _⟩ := h; omega
  | f_law_nodes_of => obtain ⟨w, B, m, h, _⟩ := h; omega
  | f_law_changed => obtain ⟨w, m, h, _⟩ := h; omega
  | _ => exact absurd h.1 (by omega)
theorem g_res : Gv 0 = some (.tup (RESs.map .str)) := rfl
theorem g_let : Gv 1 = some (.str LET) := rfl

/-! ### the drawn values -/
def KS : Nat → Nat
  | 0 => 3
  | h + 1 => 3 + 3 * KS h
mutual
theorem kind_vl : ∀ (h : Nat) (t : Ty'), okT h t → allL (pW qL 10) t.d = true ∧ dep t.d ≤ 2 * h + 2 ∧ sz t.d ≤ KS h
  | 0, .mk as s, q => by
    obtain ⟨rfl, hs⟩ := q
    refine ⟨?_, by show max (0 + 1) (max 0 0) + 1 ≤ 2 * 0 + 2; decide, by show 3 ≤ 3; decide⟩
    rcases hs with rfl | rfl <;> decide +kernel
  | h + 1, .mk as s, q => by
    obtain ⟨l3, qs, hs⟩ := q
    obtain ⟨a1, a2, a3⟩ := kinds_vl h as qs
    have hst : allL (pW qL 10) (.str s) = true := by rcases hs with rfl | rfl <;> decide +kernel
    refine ⟨allL_t.mpr ⟨rfl, ?_⟩, ?_, ?_⟩
    · show (allL (pW qL 10) (.tup (dsT as)) && (allL (pW qL 10) (.str s) && true)) = true
      rw [hst, allL_t.mpr ⟨decide_eq_true (by rw [dsT_length]; omega), a1⟩]; rfl
    · show max (deps (dsT as) + 1) (max 0 0) + 1 ≤ _
      omega
    · show (szs (dsT as) + 1 + (1 + 0)) + 1 ≤ 3 + 3 * KS h
      have : as.length * KS h ≤ 3 * KS h := Nat.mul_le_mul_right _ l3
      omega
theorem kinds_vl : ∀ (h : Nat) (ts : List Ty'), (∀ t ∈ ts, okT h t) → allLs (pW qL 10) (dsT ts) = true ∧ deps (dsT ts) ≤ 2 * h + 2 ∧ szs (dsT ts) ≤ ts.length * KS h
  | h, [], _ => ⟨rfl, Nat.zero_le _, Nat.zero_le _⟩
  | h, t :: ts, q => by
    obtain ⟨b1, b2, b3⟩ := kind_vl h t (q t (by simp))
    obtain ⟨c1, c2, c3⟩ := kinds_vl h ts fun u hu => q u (by simp [hu])
    refine ⟨?_, ?_, ?_⟩
    · show (allL (pW qL 10) t.d && allLs (pW qL 10) (dsT ts)) = true
      rw [b1, c1]; rfl
    · show max (dep t.d) (deps (dsT ts)) ≤ _; omega
    · show sz t.d + szs (dsT ts) ≤ (ts.length + 1) * KS h
      rw [Nat.succ_mul]; omega
end
theorem name_o {front n : Str} (hn : (n, tA).1 ∈ (sig0 :: sig4 :: sigO).map (·.1)) : front ++ n ≠ "o" := by
  intro e
  have e2 := congrArg (fun s : Str => s.cps.toList) e
  have e3 : front.cps.toList ++ n.cps.toList = [111] := by
    have h : (front ++ n).cps.toList = front.cps.toList ++ n.cps.toList := TL.tl_append front n
    rw [← h, e]; decide +kernel
  have key : ∀ m ∈ (sig0 :: sig4 :: sigO).map (·.1), m.cps.toList ≠ [] ∧ m.cps.toList ≠ [111] := by decide +kernel
  obtain ⟨k1, k2⟩ := key n hn
  cases h : front.cps.toList with
  | nil => rw [h] at e3; exact k2 e3
  | cons c r =>
    rw [h] at e3
    have e4 : c :: (r ++ n.cps.toList) = 111 :: [] := e3
    injection e4 with _ e5
    exact k1 (List.append_eq_nil_iff.mp e5).2
/-- a row of the drawn signature -/
theorem row_vl {front n : Str} {t : Ty'} (hn : n ∈ (sig0 :: sig4 :: sigO).map (·.1)) (ht : okT 3 t) : allL (pW qL 10) (rowD (front ++ n, t)) = true ∧ dep (rowD (front ++ n, t)) ≤ 9 ∧ sz (rowD (front ++ n, t)) ≤ 122 := by
  obtain ⟨a1, a2, a3⟩ := kind_vl 3 t ht
  have hs : allL (pW qL 10) (.str (front ++ n)) = true := by
    show (!(decide (front ++ n = "o"))) = true
    rw [decide_eq_false (name_o hn)]; rfl
  refine ⟨allL_t.mpr ⟨rfl, ?_⟩, ?_, ?_⟩
  · show (allL (pW qL 10) (.str (front ++ n)) && (allL (pW qL 10) t.d && true)) = true
    rw [hs, a1]; rfl
  · show max 0 (max (dep t.d) 0) + 1 ≤ 9
    omega
  · show (1 + (sz t.d + 0)) + 1 ≤ 122
    have : KS 3 = 120 := rfl
    omega
theorem sig_okT : ∀ r ∈ sig0 :: sig4 :: sigO, okT 3 r.2 := by
  intro r hr
  simp only [sigO, List.mem_cons, List.not_mem_nil, or_false] at hr
  have hA : okT 1 tA := okT_mono (h := 0) ⟨rfl, .inl rfl⟩ (by decide)
  have hB : okT 1 tB := okT_mono (h := 0) ⟨rfl, .inr rfl⟩ (by decide)
  have hO : okT 2 tOne := ⟨by decide, by simp [hA], .inl rfl⟩
  rcases hr with rfl | rfl | rfl | rfl | rfl | rfl | rfl | rfl | rfl
  · exact okT_mono hA (by decide)
  · exact okT_mono hB (by decide)
  · exact okT_mono (h := 2) ⟨by decide, by simp [hA], .inl rfl⟩ (by decide)
  · exact okT_mono hO (by decide)
  · exact ⟨by decide, by simp [hO], .inl rfl⟩
  · exact okT_mono (h := 2) ⟨by decide, by simp [hA, hB], .inr rfl⟩ (by decide)
  · exact okT_mono hA (by decide)
  · have : okT 2 (.mk [tA, tA] "a") := ⟨by decide, by simp [hA], .inl rfl⟩
    exact ⟨by decide, by simp [this], .inr rfl⟩
  · have h2 : okT 2 tB := okT_mono hB (by decide)
    exact ⟨by decide, by simp [hO, h2], .inl rfl⟩
/-- the drawn signature with the row behind -/
theorem sig_vl {front : Str} {rows : List (Str × Ty')} {t : Ty'} (hr : rows.Sublist sigO) (ht : okT 3 t) : Vl (pW qL 10) 1300 (.tup ((sig0 :: sig4 :: rows).map (fun r => rowD (front ++ r.1, r.2)) ++ [.tup [.str "q", t.d]])) := by
  have hl : rows.length ≤ 7 := hr.length_le
  obtain ⟨a1, a2, a3⟩ := kind_vl 3 t ht
  have k3 : KS 3 = 120 := rfl
  have hq : allL (pW qL 10) (.tup [.str "q", t.d]) = true := allL_t.mpr ⟨rfl, by
    show (allL (pW qL 10) (.str "q") && (allL (pW qL 10) t.d && true)) = true
    rw [a1]; decide +kernel⟩
  have mem : ∀ r ∈ sig0 :: sig4 :: rows, r ∈ sig0 :: sig4 :: sigO := fun r hr' => by
    rcases List.mem_cons.mp hr' with rfl | z
    · simp
    · rcases List.mem_cons.mp z with rfl | z
      · simp
      · have := hr.subset z; simp [this]
  have each : ∀ r ∈ sig0 :: sig4 :: rows, allL (pW qL 10) (rowD (front ++ r.1, r.2)) = true ∧ dep (rowD (front ++ r.1, r.2)) ≤ 9 ∧ sz (rowD (front ++ r.1, r.2)) ≤ 122 := fun r hr' =>
    row_vl (List.mem_map.mpr ⟨r, mem r hr', rfl⟩) (sig_okT r (mem r hr'))
  have szb : ∀ l : List (Str × Ty'), (∀ r ∈ l, sz (rowD (front ++ r.1, r.2)) ≤ 122) → szs (l.map fun r => rowD (front ++ r.1, r.2)) ≤ 122 * l.length := by
    intro l
    induction l with
    | nil => intro _; exact Nat.zero_le _
    | cons r l ih =>
      intro h
      have := h r (by simp)
      have := ih fun r hr => h r (by simp [hr])
      show sz (rowD (front ++ r.1, r.2)) + szs (l.map fun r => rowD (front ++ r.1, r.2)) ≤ 122 * (l.length + 1)
      omega
  refine ⟨allL_t.mpr ⟨decide_eq_true (by simp; omega), allLs_iff.mpr fun d hd => ?_⟩, ?_, ?_⟩
  · rcases List.mem_append.mp hd with z | z
    · obtain ⟨r, hr', rfl⟩ := List.mem_map.mp z
      exact (each r hr').1
    · rw [List.mem_singleton.mp z]; exact hq
  · show deps _ + 1 ≤ 90
    have : deps ((sig0 :: sig4 :: rows).map (fun r => rowD (front ++ r.1, r.2)) ++ [.tup [.str "q", t.d]]) ≤ 89 := deps_le fun d hd => by
      rcases List.mem_append.mp hd with z | z
      · obtain ⟨r, hr', rfl⟩ := List.mem_map.mp z
        have := (each r hr').2.1; omega
      · rw [List.mem_singleton.mp z]
        show max 0 (max (dep t.d) 0) + 1 ≤ 89
        omega
    omega
  · have h1 := szb (sig0 :: sig4 :: rows) fun r hr' => (each r hr').2.2
    show szs _ + 1 ≤ 1300
    rw [szs_app]
    have h2 : szs [.tup [.str "q", t.d]] = ((1 + (sz t.d + 0)) + 1) + 0 := rfl
    rw [h2]
    have h3 : (sig0 :: sig4 :: rows).length ≤ 9 := by simp; omega
    have h4 : 122 * (sig0 :: sig4 :: rows).length ≤ 122 * 9 := Nat.mul_le_mul_left _ h3
    omega
theorem Vl.part {p : D → Bool} {B : Nat} {ds : List D} {d : D} (h : Vl p B (.tup ds)) (hd : d ∈ ds) : Vl p B d := Vl.her ds h d hd
def menuD : List D := [.str "abcdefgh", .str "abcdefghi", .str "con", .str "rule", .str "A", .str "a1", .str "true", .str "height", .str "z", .tup [.tup [], .str "zz"], .tup [.tup [.tup [], .str "a"], .str "b"], .str "if"]
theorem menu_vl : ∀ d ∈ menuD, Vl (pW qL 10) 1300 d := by
  have h : menuD.all (fun d => allL (pW qL 10) d && (decide (dep d ≤ 90) && decide (sz d ≤ 1300))) = true := by decide +kernel
  intro d hd
  have := List.all_eq_true.mp h d hd
  rw [Bool.and_eq_true, Bool.and_eq_true] at this
  exact ⟨this.1, of_decide_eq_true this.2.1, of_decide_eq_true this.2.2⟩
theorem at_0 {d : D} {r : List D} : atD (d :: r) 0 = some d := by
  unfold atD ixD
  rw [if_pos (by decide), if_pos (by rw [List.length_cons]; omega)]
  rfl
end Lac.K01
end

-- K01c.lean
section
set_option Elab.async false
set_option linter.all false
set_option maxRecDepth 100000
set_option maxHeartbeats 4000000
set_option autoImplicit false
namespace Lac.K01
open PySem L2 Lac
theorem all_congr' {α : Type} {f g : α → Bool} : ∀ {l : List α}, (∀ d ∈ l, f d = g d) → l.all f = l.all g
  | [], _ => rfl
  | x :: l, h => by
    rw [List.all_cons, List.all_cons, h x (by simp), all_congr' fun d hd => h d (by simp [hd])]
theorem t_isbl {S : SH} {b : Bool} {A : Bool → Prop} (q : A true) : onB (isTy S .bool (.bl b)) A := q
theorem t_truT {S : SH} {A : Bool → Prop} (q : A true) : onB (tru S (.bl true)) A := q
theorem p_law {n : Nat} (hn : 149 ≤ n) {ds : List D} {S : SH} {Q : KD} {x : XW} (h : spLaw ds S Q x) : wpB (Γ n) Gv 9 b_law ds S Q x := by
  obtain ⟨a, ns, rfl, h1, q⟩ := h
  unfold wpB
  change wpSs (Γ n) Gv _ x _ [some (.ref a), none, none, none, none, none, none, none, none] S
  have ht : ∀ ds S Q x, spTake ds S Q x → Γ n .f_law_take ds S Q x := fun _ _ _ _ h => ⟨by omega, h⟩
  unfold b_law
  refine c_cons ?_
  simp only [s_nil, s_expr, s_asg, s_put, s_par, s_aug, s_ret, s_retN, s_ifs, s_forr, s_brk, s_cont, s_pass, e_var, e_lit, e_gl, e_tup, e_lst, e_bin, e_neg, e_cmp, e_chain, e_isN, e_isB, e_and, e_or, e_not, e_ite, e_idx, e_slcL, e_slcU, e_slcB, e_rev, e_isi, e_call, e_bf, e_meth, e_comp, e_bfc, e_dcomp, e_lenset, e_nil, e_cons, g_nm, g_tup, g_nil, g_cons, sl_0, sl_s, List.set, setN, wipeD, List.map, Bool.not_true, Bool.not_false]
  refine ⟨by omega, a, ns, rfl, h1, fun ca cb cs S1 ok _ => ?_⟩
  have g0 := Go.refl ok
  refine c_cons ?_
  simp only [s_nil, s_expr, s_asg, s_put, s_par, s_aug, s_ret, s_retN, s_ifs, s_forr, s_brk, s_cont, s_pass, e_var, e_lit, e_gl, e_tup, e_lst, e_bin, e_neg, e_cmp, e_chain, e_isN, e_isB, e_and, e_or, e_not, e_ite, e_idx, e_slcL, e_slcU, e_slcB, e_rev, e_isi, e_call, e_bf, e_meth, e_comp, e_bfc, e_dcomp, e_lenset, e_nil, e_cons, g_nm, g_tup, g_nil, g_cons, sl_0, sl_s, List.set, setN, wipeD, List.map, Bool.not_true, Bool.not_false]
  refine t_new fun mn hmn => ?_
  have gm : Go S1 (up S1 mn (.lst menuD)) ca cb cs 20 := g0.new hmn
  have hmc : mn ≠ ca := g0.fresh hmn
  obtain ⟨⟨p2, d2, k2, ok2⟩, _⟩ := gm
  have g2 := Go.refl ok2
  have m2 : up S1 mn (.lst menuD) mn = some (.lst menuD) := up_same
  generalize hS2 : up S1 mn (.lst menuD) = S2 at ok2 g2 m2
  have hS2' : up S1 mn (.lst menuD) = S2 := hS2
  have fin : ∀ (S' : SH) (ρ : Env) (De : DEnds), De.rt = (fun d S' => ∃ S'', Sub S'' S' ∧ Q d S'') → wpSs (Γ n) Gv [.ret (.and (.isB true (.call .is_signature [.tup []])) (.isB false (.call .is_type [.tup []])))] x De ρ S' := fun S' ρ De hr => by
    refine c_cons ?_
    simp only [s_nil, s_expr, s_asg, s_put, s_par, s_aug, s_ret, s_retN, s_ifs, s_forr, s_brk, s_cont, s_pass, e_var, e_lit, e_gl, e_tup, e_lst, e_bin, e_neg, e_cmp, e_chain, e_isN, e_isB, e_and, e_or, e_not, e_ite, e_idx, e_slcL, e_slcU, e_slcB, e_rev, e_isi, e_call, e_bf, e_meth, e_comp, e_bfc, e_dcomp, e_lenset, e_nil, e_cons, g_nm, g_tup, g_nil, g_cons, sl_0, sl_s, List.set, setN, wipeD, List.map, Bool.not_true, Bool.not_false]
    rw [hr]
    refine ⟨by omega, 10, .tup [], rfl, rfl, by decide, by decide, fun rows e => by cases e; decide, ?_⟩
    refine ⟨by omega, 10, .tup [], rfl, rfl, by decide, ?_⟩
    exact ret_same (q _)
  refine c_cons ?_
  simp only [s_nil, s_expr, s_asg, s_put, s_par, s_aug, s_ret, s_retN, s_ifs, s_forr, s_brk, s_cont, s_pass, e_var, e_lit, e_gl, e_tup, e_lst, e_bin, e_neg, e_cmp, e_chain, e_isN, e_isB, e_and, e_or, e_not, e_ite, e_idx, e_slcL, e_slcU, e_slcB, e_rev, e_isi, e_call, e_bf, e_meth, e_comp, e_bfc, e_dcomp, e_lenset, e_nil, e_cons, g_nm, g_tup, g_nil, g_cons, sl_0, sl_s, List.set, setN, wipeD, List.map, Bool.not_true, Bool.not_false]
  refine t_wkn (by have := sizeLine_eq; omega) ?_
  refine wpF_inv (fun r ρ S' => (∃ o3 o4 o5 o6 o7 o8, ρ = [some (.ref a), some (.ref ca), some (.ref mn), o3, o4, o5, o6, o7, o8]) ∧ Go S2 S' ca cb cs 20) (fun d r ρ S' ⟨⟨o3, o4, o5, o6, o7, o8, eρ⟩, g⟩ => ⟨True.intro, fun N hN => ?_⟩) (fun ρ S' ⟨⟨o3, o4, o5, o6, o7, o8, eρ⟩, g⟩ => ⟨True.intro, ?_⟩) _ _ _ ⟨⟨_, _, _, _, _, _, rfl⟩, by show Go S2 (up S1 mn (.lst menuD)) ca cb cs 20; rw [hS2']; exact g2⟩
  · subst eρ
    simp only [s_nil, s_expr, s_asg, s_put, s_par, s_aug, s_ret, s_retN, s_ifs, s_forr, s_brk, s_cont, s_pass, e_var, e_lit, e_gl, e_tup, e_lst, e_bin, e_neg, e_cmp, e_chain, e_isN, e_isB, e_and, e_or, e_not, e_ite, e_idx, e_slcL, e_slcU, e_slcB, e_rev, e_isi, e_call, e_bf, e_meth, e_comp, e_bfc, e_dcomp, e_lenset, e_nil, e_cons, g_nm, g_tup, g_nil, g_cons, sl_0, sl_s, List.set, setN, wipeD, List.map, Bool.not_true, Bool.not_false]
    refine c_cons ?_
    simp only [s_nil, s_expr, s_asg, s_put, s_par, s_aug, s_ret, s_retN, s_ifs, s_forr, s_brk, s_cont, s_pass, e_var, e_lit, e_gl, e_tup, e_lst, e_bin, e_neg, e_cmp, e_chain, e_isN, e_isB, e_and, e_or, e_not, e_ite, e_idx, e_slcL, e_slcU, e_slcB, e_rev, e_isi, e_call, e_bf, e_meth, e_comp, e_bfc, e_dcomp, e_lenset, e_nil, e_cons, g_nm, g_tup, g_nil, g_cons, sl_0, sl_s, List.set, setN, wipeD, List.map, Bool.not_true, Bool.not_false]
    obtain ⟨⟨p3, d3, k3, ok3⟩, kp3⟩ := g
    refine ⟨3, by omega, ca, cb, cs, p3, d3, k3, 20, 3, rfl, ok3, by decide, by decide, fun t p' d' k' ot h0' => ?_⟩
    have ot : okT 3 t := ot
    have g4 := Go.up (p := p') (d := d') (k := k') ⟨⟨p3, d3, k3, ok3⟩, kp3⟩ h0'
    obtain ⟨⟨p5, d5, k5, ok5⟩, kp5⟩ := g4
    obtain ⟨v1, v2, v3⟩ := kind_vl 3 t ot
    have vk : Vl (pW qL 10) 1300 t.d := ⟨v1, by omega, by have : KS 3 = 120 := rfl; omega⟩
    refine c_cons ?_
    simp only [s_nil, s_expr, s_asg, s_put, s_par, s_aug, s_ret, s_retN, s_ifs, s_forr, s_brk, s_cont, s_pass, e_var, e_lit, e_gl, e_tup, e_lst, e_bin, e_neg, e_cmp, e_chain, e_isN, e_isB, e_and, e_or, e_not, e_ite, e_idx, e_slcL, e_slcU, e_slcB, e_rev, e_isi, e_call, e_bf, e_meth, e_comp, e_bfc, e_dcomp, e_lenset, e_nil, e_cons, g_nm, g_tup, g_nil, g_cons, sl_0, sl_s, List.set, setN, wipeD, List.map, Bool.not_true, Bool.not_false]
    refine ⟨by omega, ca, cb, cs, p5, d5, k5, 20, rfl, ok5, fun front rows p6 d6 k6 hfr hsub h06 => ?_⟩
    have g6 := Go.up (p := p6) (d := d6) (k := k6) ⟨⟨p5, d5, k5, ok5⟩, kp5⟩ h06
    have vs := sig_vl (front := front) hsub ot
    have hl7 : rows.length ≤ 7 := hsub.length_le
    refine t_addt (by have := sizeLine_eq; simp; omega) ?_
    refine c_cons ?_
    simp only [s_nil, s_expr, s_asg, s_put, s_par, s_aug, s_ret, s_retN, s_ifs, s_forr, s_brk, s_cont, s_pass, e_var, e_lit, e_gl, e_tup, e_lst, e_bin, e_neg, e_cmp, e_chain, e_isN, e_isB, e_and, e_or, e_not, e_ite, e_idx, e_slcL, e_slcU, e_slcB, e_rev, e_isi, e_call, e_bf, e_meth, e_comp, e_bfc, e_dcomp, e_lenset, e_nil, e_cons, g_nm, g_tup, g_nil, g_cons, sl_0, sl_s, List.set, setN, wipeD, List.map, Bool.not_true, Bool.not_false]
    have f0 : atD ((sig0 :: sig4 :: rows).map (fun r => rowD (front ++ r.1, r.2)) ++ [.tup [.str "q", t.d]]) 0 = some (rowD (front ++ sig0.1, sig0.2)) := at_0
    have vf : Vl (pW qL 10) 1300 (rowD (front ++ sig0.1, sig0.2)) := Vl.her _ vs _ (by simp)
    have vf0 : Vl (pW qL 10) 1300 (.str (front ++ sig0.1)) := Vl.her [.str (front ++ sig0.1), sig0.2.d] vf _ (by simp)
    refine t_ixt f0 ?_
    refine c_cons ?_
    simp only [s_nil, s_expr, s_asg, s_put, s_par, s_aug, s_ret, s_retN, s_ifs, s_forr, s_brk, s_cont, s_pass, e_var, e_lit, e_gl, e_tup, e_lst, e_bin, e_neg, e_cmp, e_chain, e_isN, e_isB, e_and, e_or, e_not, e_ite, e_idx, e_slcL, e_slcU, e_slcB, e_rev, e_isi, e_call, e_bf, e_meth, e_comp, e_bfc, e_dcomp, e_lenset, e_nil, e_cons, g_nm, g_tup, g_nil, g_cons, sl_0, sl_s, List.set, setN, wipeD, List.map, Bool.not_true, Bool.not_false]
    refine t_wkn (by have := sizeLine_eq; omega) ?_
    refine wpF_inv (fun r ρ S' => (∃ i : Nat, i + r.length = 5 ∧ ∃ kv sv o7 o8, ρ = [some (.ref a), some (.ref ca), some (.ref mn), some d, some kv, some sv, some (rowD (front ++ sig0.1, sig0.2)), o7, o8] ∧ Vl (pW qL (10 + i)) (1300 * 3 ^ i) kv ∧ Vl (pW qL (10 + i)) (1300 * 3 ^ i) sv) ∧ Go S2 S' ca cb cs 20)
      (fun d7 r ρ S' ⟨⟨i, hi, kv, sv, o7, o8, eρ, vk, vs⟩, g⟩ => ⟨True.intro, fun N hN => ?_⟩) (fun ρ S' ⟨⟨i, hi, kv, sv, o7, o8, eρ, vk, vs⟩, g⟩ => ⟨True.intro, ?_⟩) _ _ _ ⟨⟨0, by rfl, t.d, _, _, _, rfl, vk, vs⟩, g6⟩
    · subst eρ
      have hi4 : i ≤ 4 := by simp at hi; omega
      have hpow : (3 : Nat) ^ i ≤ 81 := Nat.le_trans (Nat.pow_le_pow_right (by decide) hi4) (by decide)
      have hpow1 : 1 ≤ (3 : Nat) ^ i := Nat.one_le_pow _ _ (by decide)
      have hB : 1300 * 3 ^ i ≤ 105300 := by omega
      have hB1 : 1300 ≤ 1300 * 3 ^ i := by omega
      have hpe : 3 * (1300 * 3 ^ i) = 1300 * 3 ^ (i + 1) := by rw [Nat.pow_succ]; omega
      simp only [s_nil, s_expr, s_asg, s_put, s_par, s_aug, s_ret, s_retN, s_ifs, s_forr, s_brk, s_cont, s_pass, e_var, e_lit, e_gl, e_tup, e_lst, e_bin, e_neg, e_cmp, e_chain, e_isN, e_isB, e_and, e_or, e_not, e_ite, e_idx, e_slcL, e_slcU, e_slcB, e_rev, e_isi, e_call, e_bf, e_meth, e_comp, e_bfc, e_dcomp, e_lenset, e_nil, e_cons, g_nm, g_tup, g_nil, g_cons, sl_0, sl_s, List.set, setN, wipeD, List.map, Bool.not_true, Bool.not_false]
      refine c_cons ?_
      simp only [s_nil, s_expr, s_asg, s_put, s_par, s_aug, s_ret, s_retN, s_ifs, s_forr, s_brk, s_cont, s_pass, e_var, e_lit, e_gl, e_tup, e_lst, e_bin, e_neg, e_cmp, e_chain, e_isN, e_isB, e_and, e_or, e_not, e_ite, e_idx, e_slcL, e_slcU, e_slcB, e_rev, e_isi, e_call, e_bf, e_meth, e_comp, e_bfc, e_dcomp, e_lenset, e_nil, e_cons, g_nm, g_tup, g_nil, g_cons, sl_0, sl_s, List.set, setN, wipeD, List.map, Bool.not_true, Bool.not_false]
      refine ⟨by omega, 10 + i, kv, rfl, vk.al, by have := vk.s; omega, ?_⟩
      refine c_cons ?_
      simp only [s_nil, s_expr, s_asg, s_put, s_par, s_aug, s_ret, s_retN, s_ifs, s_forr, s_brk, s_cont, s_pass, e_var, e_lit, e_gl, e_tup, e_lst, e_bin, e_neg, e_cmp, e_chain, e_isN, e_isB, e_and, e_or, e_not, e_ite, e_idx, e_slcL, e_slcU, e_slcB, e_rev, e_isi, e_call, e_bf, e_meth, e_comp, e_bfc, e_dcomp, e_lenset, e_nil, e_cons, g_nm, g_tup, g_nil, g_cons, sl_0, sl_s, List.set, setN, wipeD, List.map, Bool.not_true, Bool.not_false]
      refine t_isbl (t_truT ?_)
      refine ⟨10 + i, 90, by omega, kv, rfl, vk.al, vk.dp, ?_⟩
      have e1 : ptyD true kv = ltyD kv := pty_lty (p := pW qL (10 + i)) (by show (!(decide (("o" : Str) = "o"))) = false; decide +kernel) true kv vk.al
      rw [e1]
      refine t_ne (by show 0 ≤ _; omega) (by show 0 ≤ _; omega) (t_br (fun hb => ?_) fun _ => ?_)
      · have : (!(ltyD kv == ltyD kv)) = true := hb
        simp at this
      refine c_cons ?_
      simp only [s_nil, s_expr, s_asg, s_put, s_par, s_aug, s_ret, s_retN, s_ifs, s_forr, s_brk, s_cont, s_pass, e_var, e_lit, e_gl, e_tup, e_lst, e_bin, e_neg, e_cmp, e_chain, e_isN, e_isB, e_and, e_or, e_not, e_ite, e_idx, e_slcL, e_slcU, e_slcB, e_rev, e_isi, e_call, e_bf, e_meth, e_comp, e_bfc, e_dcomp, e_lenset, e_nil, e_cons, g_nm, g_tup, g_nil, g_cons, sl_0, sl_s, List.set, setN, wipeD, List.map, Bool.not_true, Bool.not_false]
      refine ⟨by omega, 10 + i, sv, rfl, vs.al, by have := vs.s; omega, vs.dp, fun rows e => by
        subst e
        have : rows.length ≤ 10 + i := of_decide_eq_true (allL_t.mp vs.al).1
        omega, ?_⟩
      refine c_cons ?_
      simp only [s_nil, s_expr, s_asg, s_put, s_par, s_aug, s_ret, s_retN, s_ifs, s_forr, s_brk, s_cont, s_pass, e_var, e_lit, e_gl, e_tup, e_lst, e_bin, e_neg, e_cmp, e_chain, e_isN, e_isB, e_and, e_or, e_not, e_ite, e_idx, e_slcL, e_slcU, e_slcB, e_rev, e_isi, e_call, e_bf, e_meth, e_comp, e_bfc, e_dcomp, e_lenset, e_nil, e_cons, g_nm, g_tup, g_nil, g_cons, sl_0, sl_s, List.set, setN, wipeD, List.map, Bool.not_true, Bool.not_false]
      refine t_isbl (t_truT ?_)
      refine ⟨by omega, 10 + i, sv, rfl, vs.al, by have := vs.s; omega, vs.dp, fun rows e => by
        subst e
        have : rows.length ≤ 10 + i := of_decide_eq_true (allL_t.mp vs.al).1
        omega, ?_⟩
      have e2 : sgD (ptyD true) sv = sgD ltyD sv := by
        cases sv with
        | tup rows =>
          show (rows.all (rowOk (ptyD true)) && _) = (rows.all (rowOk ltyD) && _)
          have : rows.all (rowOk (ptyD true)) = rows.all (rowOk ltyD) := by
            have key : ∀ d ∈ rows, rowOk (ptyD true) d = rowOk ltyD d := fun d hd => by
              have pd := (Vl.her _ vs d hd).al
              match d, pd with
              | .tup [n, t], pd =>
                show (nmD n && ptyD true t) = (nmD n && ltyD t)
                rw [pty_lty (p := pW qL (10 + i)) (by show (!(decide (("o" : Str) = "o"))) = false; decide +kernel) true t (allLs_iff.mp (allL_t.mp pd).2 t (by simp))]
              | .tup [], _ => rfl
              | .tup [_], _ => rfl
              | .tup (_ :: _ :: _ :: _), _ => rfl
              | .non, _ => rfl
              | .bl _, _ => rfl
              | .int _, _ => rfl
              | .str _, _ => rfl
              | .ref _, _ => rfl
            exact all_congr' key
          rw [this]
        | _ => rfl
      rw [e2]
      refine t_ne (by show 0 ≤ _; omega) (by show 0 ≤ _; omega) (t_br (fun hb => ?_) fun _ => ?_)
      · have : (!(sgD ltyD sv == sgD ltyD sv)) = true := hb
        simp at this
      have menuV : ∀ d ∈ menuD, Vl (pW qL (10 + i)) (1300 * 3 ^ i) d := fun d hd => (menu_vl d hd).up (by omega) hB1
      obtain ⟨⟨p7, d7', k7, ok7⟩, kp7⟩ := g
      have mS' : S' mn = some (.lst menuD) := kp7 mn _ hmc m2
      refine c_cons ?_
      simp only [s_nil, s_expr, s_asg, s_put, s_par, s_aug, s_ret, s_retN, s_ifs, s_forr, s_brk, s_cont, s_pass, e_var, e_lit, e_gl, e_tup, e_lst, e_bin, e_neg, e_cmp, e_chain, e_isN, e_isB, e_and, e_or, e_not, e_ite, e_idx, e_slcL, e_slcU, e_slcB, e_rev, e_isi, e_call, e_bf, e_meth, e_comp, e_bfc, e_dcomp, e_lenset, e_nil, e_cons, g_nm, g_tup, g_nil, g_cons, sl_0, sl_s, List.set, setN, wipeD, List.map, Bool.not_true, Bool.not_false]
      refine ⟨by omega, 10 + i, 1300 * 3 ^ i, ca, cb, mn, cs, p7, d7', k7, 20, kv, menuD, rfl, ok7, mS', hmc, vk, menuV, by decide, by omega, by omega, by omega, fun kv' p8 d8 k8 vk' h08 => ?_⟩
      have g8 := Go.up (p := p8) (d := d8) (k := k8) ⟨⟨p7, d7', k7, ok7⟩, kp7⟩ h08
      have mS8 := g8.sub hmc m2
      refine c_cons ?_
      simp only [s_nil, s_expr, s_asg, s_put, s_par, s_aug, s_ret, s_retN, s_ifs, s_forr, s_brk, s_cont, s_pass, e_var, e_lit, e_gl, e_tup, e_lst, e_bin, e_neg, e_cmp, e_chain, e_isN, e_isB, e_and, e_or, e_not, e_ite, e_idx, e_slcL, e_slcU, e_slcB, e_rev, e_isi, e_call, e_bf, e_meth, e_comp, e_bfc, e_dcomp, e_lenset, e_nil, e_cons, g_nm, g_tup, g_nil, g_cons, sl_0, sl_s, List.set, setN, wipeD, List.map, Bool.not_true, Bool.not_false]
      unfold rowD
      refine t_ixt (by with_unfolding_all rfl) (t_new fun l1 hl1 => ?_)
      refine t_addl (nk mS8 hl1) up_same (by have := sizeLine_eq; simp [menuD]; omega) (t_new fun l2 hl2 => ?_)
      have g10 := (g8.new (o := .lst [.tup [.str (front ++ sig0.1), sig0.2.d], .str (front ++ sig0.1)]) hl1).new (o := .lst (menuD ++ [.tup [.str (front ++ sig0.1), sig0.2.d], .str (front ++ sig0.1)])) hl2
      have hl2c := (g8.new (o := .lst [.tup [.str (front ++ sig0.1), sig0.2.d], .str (front ++ sig0.1)]) hl1).fresh hl2
      obtain ⟨⟨p9, d9, k9, ok9⟩, kp9⟩ := g10
      refine ⟨by omega, 10 + i, 1300 * 3 ^ i, ca, cb, l2, cs, p9, d9, k9, 20, sv, _, rfl, ok9, up_same, hl2c, vs, fun d hd => ?_, by simp [menuD], by omega, by omega, by omega, fun sv' p11 d11 k11 vs' h011 => ?_⟩
      · rcases List.mem_append.mp hd with z | z
        · exact menuV d z
        · simp only [List.mem_cons, List.not_mem_nil, or_false] at z
          rcases z with rfl | rfl
          · exact vf.up (by omega) hB1
          · exact vf0.up (by omega) hB1
      have g11 := Go.up (p := p11) (d := d11) (k := k11) ⟨⟨p9, d9, k9, ok9⟩, kp9⟩ h011
      refine hN _ _ ⟨⟨i + 1, by simp at hi ⊢; omega, kv', sv', _, _, rfl, ?_, ?_⟩, g11⟩
      · rw [← hpe]; exact vk'
      · rw [← hpe]; exact vs'
    · subst eρ
      exact hN _ _ ⟨⟨_, _, _, _, _, _, rfl⟩, g⟩
  · subst eρ
    exact fin _ _ _ rfl
end Lac.K01
end

-- K01d.lean
section
set_option Elab.async false
set_option linter.all false
set_option maxRecDepth 100000
set_option maxHeartbeats 0
set_option autoImplicit false
namespace Lac.K01
open PySem L2 Lac
theorem q1 : bodyF .is_name = nameBody 0 1 := by kernel_rfl
theorem q2 : bodyF .is_type = ptyBody .is_name := by kernel_rfl
theorem q3 : bodyF .is_signature = sgnBody .is_name .is_type := by kernel_rfl
theorem q4 : bodyF .f_law_start = startBody := by kernel_rfl
theorem q5 : bodyF .f_law_fill = fillBody := by kernel_rfl
theorem q6 : bodyF .f_law_take = takeBody .f_law_fill := by kernel_rfl
theorem q7 : bodyF .f_law_signature = sigBody .f_law_take := by kernel_rfl
theorem q8 : bodyF .f_law_kind = kindBody .f_law_take .f_law_kind := by kernel_rfl
theorem q9 : bodyF .f_law_is_int = isIntBody := by kernel_rfl
theorem q10 : bodyF .f_law_is_name = lnameBody := by kernel_rfl
theorem q11 : bodyF .f_law_is_type = ltyBody .f_law_is_name .f_law_is_type := by kernel_rfl
theorem q12 : bodyF .f_law_is_signature = lsgnBody .f_law_is_name .f_law_is_type := by kernel_rfl
theorem q13 : bodyF .f_law_nodes_of = nodesBody .f_law_nodes_of := by kernel_rfl
theorem q14 : bodyF .f_law_changed = chgBody .f_law_changed := by kernel_rfl
theorem q15 : bodyF .f_law_high = highBody := by kernel_rfl
theorem q16 : bodyF .f_law_spoilt = spoiltBody .f_law_nodes_of .f_law_take .f_law_is_int .f_law_changed .f_law_high := by kernel_rfl
theorem st1 {n : Nat} {ds : List D} {S : SH} {Q : KD} {x : XW} (h : Γ (n + 1) .is_name ds S Q x) : wpB (Γ n) Gv 2 (nameBody 0 1) ds S Q x := by
  exact p_name (φ := F) (Γ := Γ n) (G := Gv) (r := 0) (l := 1) g_res g_let h.2
theorem st2 {n : Nat} {ds : List D} {S : SH} {Q : KD} {x : XW} (h : Γ (n + 1) .is_type ds S Q x) : wpB (Γ n) Gv 5 (ptyBody .is_name) ds S Q x := by
  obtain ⟨hn, w, h⟩ := h
  exact p_pty (φ := F) (Γ := Γ n) (G := Gv) (p := pW qL w) (fun _ => rfl) (name := .is_name) (fun _ _ _ _ h => ⟨by omega, h⟩) h
theorem st3 {n : Nat} {ds : List D} {S : SH} {Q : KD} {x : XW} (h : Γ (n + 1) .is_signature ds S Q x) : wpB (Γ n) Gv 2 (sgnBody .is_name .is_type) ds S Q x := by
  obtain ⟨hn, w, h⟩ := h
  exact p_sgn (φ := F) (Γ := Γ n) (G := Gv) (p := pW qL w) (ty := ptyD true) (fun _ => rfl) (name := .is_name) (type := .is_type) (fun _ _ _ _ h => ⟨by omega, h⟩) (fun v S Q x a b c d => ⟨by omega, w, v, rfl, a, b, d⟩) h
theorem st4 {n : Nat} {ds : List D} {S : SH} {Q : KD} {x : XW} (h : Γ (n + 1) .f_law_start ds S Q x) : wpB (Γ n) Gv 2 startBody ds S Q x := by
  exact p_start (φ := F) (Γ := Γ n) (G := Gv) h.2
theorem st5 {n : Nat} {ds : List D} {S : SH} {Q : KD} {x : XW} (h : Γ (n + 1) .f_law_fill ds S Q x) : wpB (Γ n) Gv 2 fillBody ds S Q x := by
  exact p_fill (φ := F) (Γ := Γ n) (G := Gv) h.2
theorem st6 {n : Nat} {ds : List D} {S : SH} {Q : KD} {x : XW} (h : Γ (n + 1) .f_law_take ds S Q x) : wpB (Γ n) Gv 3 (takeBody .f_law_fill) ds S Q x := by
  exact p_take (φ := F) (Γ := Γ n) (G := Gv) (fill := .f_law_fill) (fun _ _ _ _ q => ⟨by have := h.1; omega, q⟩) h.2
theorem st7 {n : Nat} {ds : List D} {S : SH} {Q : KD} {x : XW} (h : Γ (n + 1) .f_law_signature ds S Q x) : wpB (Γ n) Gv 11 (sigBody .f_law_take) ds S Q x := by
  exact p_sig (φ := F) (Γ := Γ n) (G := Gv) (take := .f_law_take) (fun _ _ _ _ q => ⟨by have := h.1; omega, q⟩) h.2
theorem st8 {n : Nat} {ds : List D} {S : SH} {Q : KD} {x : XW} (h : Γ (n + 1) .f_law_kind ds S Q x) : wpB (Γ n) Gv 5 (kindBody .f_law_take .f_law_kind) ds S Q x := by
  obtain ⟨m, hm, h⟩ := h
  exact p_kind (φ := F) (Γ := Γ n) (G := Gv) (take := .f_law_take) (self := .f_law_kind) (fun _ _ _ _ q => ⟨by omega, q⟩) (fun m' e _ _ _ _ q => ⟨m', by omega, q⟩) h
theorem st9 {n : Nat} {ds : List D} {S : SH} {Q : KD} {x : XW} (h : Γ (n + 1) .f_law_is_int ds S Q x) : wpB (Γ n) Gv 1 isIntBody ds S Q x := by
  exact p_isInt (φ := F) (Γ := Γ n) (G := Gv) h.2
theorem st10 {n : Nat} {ds : List D} {S : SH} {Q : KD} {x : XW} (h : Γ (n + 1) .f_law_is_name ds S Q x) : wpB (Γ n) Gv 2 lnameBody ds S Q x := by
  exact p_lname (φ := F) (Γ := Γ n) (G := Gv) h.2
theorem st11 {n : Nat} {ds : List D} {S : SH} {Q : KD} {x : XW} (h : Γ (n + 1) .f_law_is_type ds S Q x) : wpB (Γ n) Gv 2 (ltyBody .f_law_is_name .f_law_is_type) ds S Q x := by
  obtain ⟨w, m, hm, h⟩ := h
  exact p_lty (φ := F) (Γ := Γ n) (G := Gv) (p := pW qL w) (fun _ => rfl) (name := .f_law_is_name) (self := .f_law_is_type) (fun _ _ _ _ q => ⟨by omega, q⟩) (fun m' e _ _ _ _ q => ⟨w, m', by omega, q⟩) h
theorem st12 {n : Nat} {ds : List D} {S : SH} {Q : KD} {x : XW} (h : Γ (n + 1) .f_law_is_signature ds S Q x) : wpB (Γ n) Gv 2 (lsgnBody .f_law_is_name .f_law_is_type) ds S Q x := by
  obtain ⟨hn, w, h⟩ := h
  exact p_lsgn (φ := F) (Γ := Γ n) (G := Gv) (p := pW qL w) (ty := ltyD) (fun _ => rfl) (name := .f_law_is_name) (type := .f_law_is_type) (fun _ _ _ _ h => ⟨by omega, h⟩) (fun v S Q x a b c d => ⟨w, 90, by omega, v, rfl, a, c, d⟩) h
theorem st13 {n : Nat} {ds : List D} {S : SH} {Q : KD} {x : XW} (h : Γ (n + 1) .f_law_nodes_of ds S Q x) : wpB (Γ n) Gv 3 (nodesBody .f_law_nodes_of) ds S Q x := by
  obtain ⟨w, B, m, hm, m4, h⟩ := h
  exact p_nodes (φ := F) (Γ := Γ n) (G := Gv) (R := Vl (pW qL w) B) (self := .f_law_nodes_of) Vl.her m4 (fun m' e _ _ _ _ q => ⟨w, B, m', by omega, by omega, q⟩) h
theorem st14 {n : Nat} {ds : List D} {S : SH} {Q : KD} {x : XW} (h : Γ (n + 1) .f_law_changed ds S Q x) : wpB (Γ n) Gv 4 (chgBody .f_law_changed) ds S Q x := by
  obtain ⟨w, m, hm, m4, h⟩ := h
  exact p_chg (φ := F) (Γ := Γ n) (G := Gv) (p := pW qL w) pW_len (self := .f_law_changed) m4 (fun m' e _ _ _ _ q => ⟨w, m', by omega, by omega, q⟩) h
theorem st15 {n : Nat} {ds : List D} {S : SH} {Q : KD} {x : XW} (h : Γ (n + 1) .f_law_high ds S Q x) : wpB (Γ n) Gv 6 highBody ds S Q x := by
  obtain ⟨hn, w, h⟩ := h
  exact p_high (φ := F) (Γ := Γ n) (G := Gv) (p := pW qL w) (fun _ => rfl) h
theorem st16 {n : Nat} {ds : List D} {S : SH} {Q : KD} {x : XW} (h : Γ (n + 1) .f_law_spoilt ds S Q x) : wpB (Γ n) Gv 9 (spoiltBody .f_law_nodes_of .f_law_take .f_law_is_int .f_law_changed .f_law_high) ds S Q x := by
  obtain ⟨hn, w, B, h⟩ := h
  exact p_spoilt (φ := F) (Γ := Γ n) (G := Gv) lfL (w := w) (B := B) (nodes := .f_law_nodes_of) (take := .f_law_take) (isint := .f_law_is_int) (chg := .f_law_changed) (high := .f_law_high)
    (fun _ _ _ _ q => ⟨w, B, 90, by omega, by omega, q⟩) (fun _ _ _ _ q => ⟨by omega, q⟩) (fun _ _ _ _ q => ⟨by omega, q⟩) (fun _ _ _ _ q => ⟨w + 1, 90, by omega, by omega, q⟩) (fun _ _ _ _ q => ⟨by omega, w + 1, q⟩) h
theorem st17 {n : Nat} {ds : List D} {S : SH} {Q : KD} {x : XW} (h : Γ (n + 1) .law ds S Q x) : wpB (Γ n) Gv 9 b_law ds S Q x := by
  exact p_law (by have := h.1; omega) h.2
theorem step (n : Nat) (f : F) (ds : List D) (S : SH) (Q : KD) (x : XW) (_ : ds.length = (pg.ps f).length) (h : Γ (n + 1) f ds S Q x) : wpB (Γ n) Gv (NF f).length (bodyF f) ds S Q x := by
  cases f with
  | is_name => rw [q1]; exact st1 h
  | is_type => rw [q2]; exact st2 h
  | is_signature => rw [q3]; exact st3 h
  | f_law_start => rw [q4]; exact st4 h
  | f_law_fill => rw [q5]; exact st5 h
  | f_law_take => rw [q6]; exact st6 h
  | f_law_signature => rw [q7]; exact st7 h
  | f_law_kind => rw [q8]; exact st8 h
  | f_law_is_int => rw [q9]; exact st9 h
  | f_law_is_name => rw [q10]; exact st10 h
  | f_law_is_type => rw [q11]; exact st11 h
  | f_law_is_signature => rw [q12]; exact st12 h
  | f_law_nodes_of => rw [q13]; exact st13 h
  | f_law_changed => rw [q14]; exact st14 h
  | f_law_high => rw [q15]; exact st15 h
  | f_law_spoilt => rw [q16]; exact st16 h
  | law => exact st17 h
/-! ### the head -/
def allF : List F := [.is_name, .is_type, .is_signature, .f_law_start, .f_law_fill, .f_law_take, .f_law_signature, .f_law_kind, .f_law_is_int, .f_law_is_name, .f_law_is_type, .f_law_is_signature, .f_law_nodes_of, .f_law_changed, .f_law_high, .f_law_spoilt, .law]
theorem allF_mem (f : F) : f ∈ allF := by cases f <;> simp [allF]
def dfn (f : F) : He.DefD := ⟨(nmF f, none), nmF f, nmF f, L2.defArgs (smF f), L2.defBody (smF f), L2.defScope (smF f), [], []⟩
def fnL : List He.DefD := allF.map dfn
def faL : List He.Fa := allF.map (fun f => .glo (nmF f)) ++ pg.bl.map .free
def exB (K : PySem.W.Frag) : Bool := glsB gs K && noL K
abbrev R : PySem.W.OpenRow := PySem.W.OpenLaw.row PySem.Challenge.rw_lacuna_k01_types_and_signatures
abbrev hk : PySem.W.Hook := He.hookX 6 faL fnL [] [] exB
def ob (s : PySem.W.SharedT) : He.AlX := He.obsX 6 faL fnL [] [] exB (HandSHeadRun.getT s)
theorem ob_eq (s : PySem.W.SharedT) : ob s = hk.obs s.abs := He.obsX_eq (HandSHeadRun.getT_eq s)
def looseL : List Str := ["RESERVED", "LETTERS", "is_name", "is_type", "is_signature", "_law_start", "_law_fill", "_law_take", "_law_signature", "_law_kind", "_law_is_int", "_law_is_name", "_law_is_type", "_law_is_signature", "_law_nodes_of", "_law_changed", "_law_high", "_law_spoilt"]
end Lac.K01
end

-- K01e.lean
section
set_option Elab.async false
set_option linter.all false
set_option maxRecDepth 100000
set_option maxHeartbeats 0
set_option autoImplicit false
namespace Lac.K01
open PySem PySem.Spec PyProof.Rows L2 Lac
theorem run (w : World) : HandSHeadRun.RunEq R (PySem.W.view R.prog [20]) hk ob 1200 looseL w := by
  intro os
  kernel_rfl
theorem facts {P : Program} {w : World} {K : PySem.W.Frag} {h : Heap} {mg : Str → Option Value} {f : Addr} (X : K.In h) (G : h.Ns mainGlobals mg) (hfa : mg ("law" : Str) = some (.ref f)) (c : He.SaysX faL fnL [] [] exB w h K) :
    ∃ fd : FuncData, (∀ (s : Shared) (v : Value), BindsTo s fd ⟨[v], []⟩ [("script", v)]) ∧ ∀ base : Heap, K.In base → base.Ns mainGlobals mg → FnOk P w K mg base CX0 203 f fd ["script"] (liftSp K 1 (Γ 160 .law)) := by
  have d : He.SaysD faL fnL K := c.t.d
  have hex : glsB gs K = true ∧ noL K = true := by
    have := c.more
    unfold exB at this
    exact Bool.and_eq_true_iff.mp this
  have each : ∀ g : F, ∃ fd, FunD K (nmF g) (nmF g) (L2.defArgs (smF g)) (L2.defBody (smF g)) (L2.defScope (smF g)) [] [] (He.ga K (nmF g)) fd := fun g => by
    obtain ⟨fd, h⟩ := He.SaysD.defs d (d := dfn g) (List.mem_map.mpr ⟨g, allF_mem g, rfl⟩)
    exact ⟨fd, h⟩
  have gm : ∀ g : F, mg (nmF g) = some (.ref (He.ga K (nmF g))) := fun g =>
    He.glo_ok X G (He.SaysD.facts d (List.mem_append_left _ (List.mem_map.mpr ⟨g, allF_mem g, rfl⟩)))
  have fr : ∀ y ∈ pg.bl, mg y = none := fun y hy => He.free_ok X G (He.SaysD.facts d (List.mem_append_right _ (List.mem_map.mpr ⟨y, hy, rfl⟩)))
  have key : ∀ (base : Heap) (n : Nat) (g : F), FnOk P w K mg base CX0 (n + 43) (He.ga K (nmF g)) ((each g).choose) (pg.ps g) (liftSp K (pg.ps g).length (Γ n g)) := fun base =>
    prog_ok (P := P) (w := w) (base := base) (pg := pg) (G := Gv) (Nf := NF) (body := bodyF) (sm := smF) (Γ := Γ) (ad := fun g => He.ga K (nmF g)) (fdd := fun g => (each g).choose) okF (fun g => ⟨gm g, (each g).choose_spec⟩) fr
      (fun k y d e1 e2 => glsB_ok X G hex.1 e1 e2) zero step
  have e := hfa.symm.trans (gm .law)
  cases e
  refine ⟨(each .law).choose, fun s v => ?_, fun base _ _ => key base 160 .law⟩
  exact FunD.bindsA (ps := ["script"]) (each .law).choose_spec (okF .law).bind s [v] rfl
end Lac.K01
open PySem PySem.W PySem.Calls PyProof.Rows
theorem PySem.Challenge.cw_lacuna_k01_types_and_signatures_holds : PySem.Challenge.rw_lacuna_k01_types_and_signatures.Holds := by
  w_on; o_law
  refine HandSHeadRun.head_any (r := Lac.K01.R) (q := view (Lac.K01.R).prog [20]) (H := Lac.K01.hk) (ob := Lac.K01.ob) (M := 1200) (loose := Lac.K01.looseL) (d := HandSHeadRun.topDef (Lac.K01.R).prog 20) (kwd := []) Lac.K01.ob_eq
    (by kernel_rfl) (fun s => by kernel_rfl) Lac.K01.run (by kernel_rfl) (by kernel_rfl) (by kernel_rfl) (by rfl) (by first | assumption | decide +kernel) (by decide +kernel) ⟨rfl, rfl, rfl, rfl, rfl, by decide +kernel⟩ ?hw ?hc
  case hw => w_witness2
  case hc =>
    refine L2.walk_ofE (l := PySem.Challenge.rw_lacuna_k01_types_and_signatures) (n := 63) (k := 203) (x := "script") (CX := L2.CX0) rfl (by decide) (by kernel_rfl) ⟨rfl, by decide, by decide⟩ ?F (fun _ _ _ _ z => z)
    intro w mg fa h Y G hmg0
    obtain ⟨K, KX, c⟩ := Y
    have hmg : mg ("law" : PySem.Str) = some (.ref fa) := by
      have e : (HandSHeadRun.topDef (Lac.K01.R).prog 20).name = ("law" : PySem.Str) := by kernel_rfl
      rw [← e]
      exact hmg0
    obtain ⟨fd, hb, hF⟩ := Lac.K01.facts (P := (PySem.Challenge.rw_lacuna_k01_types_and_signatures).prog) (w := w) KX G hmg c
    refine ⟨K, fd, Lac.liftSp K 1 (Lac.K01.Γ 160 .law), KX, hb, fun H a ns hl hO hS => ?_, hF⟩
    refine Lac.law_end hO hS ?_ ⟨by decide, a, ns, rfl, if_pos rfl, fun _ => rfl⟩
    have := c.more
    unfold Lac.K01.exB at this
    exact (Bool.and_eq_true_iff.mp this).2
end
