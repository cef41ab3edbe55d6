import PyProof.Rows.All
import Wide.All
import OpenK.AllK
import Wide.FinOn
import HandS.ForMost
import KE.KeyNested
import HandS.ForExc
import HandS.CallSlots
import HandS.TryMany
import HandS.TupAny
import HandS.TupMul
import HandS.Deep
import HandS.IsInst
import HandS.Conv
import KE.KDictKeyed
import HandS.SortInts
import KE.KDictPairs
import KE.GoesMore
import KE.GoesZip
import HandS.Zip
import HandS.Flow
import HandS.Strs
import KE.GoesEnum
import HandS.Iter
import HandS.WordsExc
import HandS.Style
import HandS.Dict
import HandS.Ends
import PySem.Challenge.RW_rolledmiles_k34_ways_of_noting
set_option Elab.async false
set_option linter.all false
set_option autoImplicit false
/-! Z0: a small pure semantics of the Python that the texts use. -/
namespace Z
open PySem (Str NestedKey sizeLine)

/-- data; lists and dicts by value where nobody changes them -/
inductive D where
  | non | bl (b : Bool) | int (i : Int) | str (x : Str)
  | tup (ds : List D) | lst (ds : List D) | dct (kvs : List (D × D))
  | scr (ns : List Int) | ref (n : Nat) | fn (n : Nat)
instance : Inhabited D := ⟨.non⟩

/-- what an expression gives: shared data, or a new list or dict that nobody else holds -/
inductive Rv where
  | sh (d : D) | nl (ds : List D) | nd (kvs : List (D × D))
/-- what may be changed by whoever holds it -/
inductive MO where
  | lst (ds : List D) | ins (c : Nat) (fs : List (Str × D))
abbrev Sto := List MO
structure Exn where
  c : Nat
  arg : Option (Str × D)
inductive Res (α : Type) where
  | ok (a : α) (S : Sto) | ex (x : Exn) (S : Sto) | bad
def Res.bind {α β : Type} (r : Res α) (f : α → Sto → Res β) : Res β :=
  match r with
  | .ok a S => f a S
  | .ex x S => .ex x S
  | .bad => .bad
abbrev Env := List (Option Rv)
abbrev Call := Nat → List D → Sto → Res Rv

def Rv.shr : Rv → D
  | .sh d => d
  | .nl ds => .lst ds
  | .nd kvs => .dct kvs

/-! ### keys, equality -/
mutual
def nk : D → NestedKey
  | .non => .none
  | .bl b => .num (if b = true then 1 else 0)
  | .int i => .num i
  | .str x => .text x
  | .tup ds => .tup (nks ds)
  | .lst _ => .none
  | .dct _ => .none
  | .scr _ => .none
  | .ref _ => .none
  | .fn _ => .none
def nks : List D → List NestedKey
  | [] => []
  | d :: ds => nk d :: nks ds
end
mutual
/-- hashable, tuples nested at most n deep -/
def hk : D → Nat → Bool
  | .non, _ => true
  | .bl _, _ => true
  | .int _, _ => true
  | .str _, _ => true
  | .tup ds, n => decide (0 < n) && hks ds (n - 1)
  | .lst _, _ => false
  | .dct _, _ => false
  | .scr _, _ => false
  | .ref _, _ => false
  | .fn _, _ => false
def hks : List D → Nat → Bool
  | [], _ => true
  | d :: ds, n => hk d n && hks ds n
end
def isTup : D → Bool
  | .tup _ => true
  | _ => false
/-- a key of a dict: a tuple -/
def isKey (d : D) : Bool := isTup d && hk d 8
mutual
def deq : D → D → Bool
  | .non, .non => true
  | .bl a, .bl b => a == b
  | .bl a, .int j => (if a then 1 else 0) == j
  | .int i, .bl b => i == (if b then 1 else 0)
  | .int i, .int j => i == j
  | .str x, .str y => x == y
  | .lst xs, .lst ys => deqs xs ys
  | .tup xs, .tup ys => deqs xs ys
  | _, _ => false
def deqs : List D → List D → Bool
  | [], [] => true
  | x :: xs, y :: ys => deq x y && deqs xs ys
  | _, _ => false
end
mutual
/-- data that == serves, at most n deep -/
def okd : D → Nat → Bool
  | .non, _ => true
  | .bl _, _ => true
  | .int _, _ => true
  | .str x, _ => x.cps.all (· < 0x110000)
  | .tup ds, n => decide (0 < n) && okds ds (n - 1)
  | .lst ds, n => decide (0 < n) && okds ds (n - 1)
  | .dct _, _ => false
  | .scr _, _ => false
  | .ref _, _ => false
  | .fn _, _ => false
def okds : List D → Nat → Bool
  | [], _ => true
  | d :: ds, n => okd d n && okds ds n
end

/-! ### dicts as lists of pairs -/
def dget (kvs : List (D × D)) (k : D) : Option D := (kvs.find? fun p => decide (nk p.1 = nk k)).map (·.2)
def dput (kvs : List (D × D)) (k v : D) : List (D × D) :=
  if (kvs.any fun p => decide (nk p.1 = nk k)) = true then kvs.map (fun p => if nk p.1 = nk k then (p.1, v) else p) else kvs ++ [(k, v)]

/-! ### views -/
def lsv (x : Rv) (S : Sto) : Option (List D) :=
  match x with
  | .sh (.lst ds) => some ds
  | .nl ds => some ds
  | .sh (.ref n) => match S[n]? with
    | some (.lst ds) => some ds
    | _ => none
  | _ => none
def sqv (x : Rv) (S : Sto) : Option (List D) :=
  match x with
  | .sh (.tup ds) => some ds
  | x => lsv x S
/-- a shared dict -/
def dcs : Rv → Option (List (D × D))
  | .sh (.dct kvs) => some kvs
  | _ => none
/-- what a for may walk: not an object of the store -/
def itv : Rv → Option (List D)
  | .sh (.tup ds) => some ds
  | .sh (.lst ds) => some ds
  | .nl ds => some ds
  | _ => none
def dcv : Rv → Option (List (D × D))
  | .sh (.dct kvs) => some kvs
  | .nd kvs => some kvs
  | _ => none
/-- the value as data, for == -/
def vw (x : Rv) (S : Sto) : Option D :=
  match x with
  | .sh (.ref n) => (lsv (.sh (.ref n)) S).map .lst
  | .nd _ => none
  | .nl ds => some (.lst ds)
  | .sh d => some d
def tru (x : Rv) (S : Sto) : Option Bool :=
  match x with
  | .sh .non => some false
  | .sh (.bl b) => some b
  | .sh (.int i) => some (i != 0)
  | .sh (.str y) => if y.length ≤ sizeLine then some ((y.length : Int) != 0) else none
  | x => (sqv x S).map fun ds => !ds.isEmpty

/-! ### operators -/
inductive Bop | add | sub | mul | fdiv | mod | pow
inductive Cop | eq | ne | lt | le | gt | ge | is | isn | inn | nin
inductive Ty | int | bool | str | tup | lst
inductive Bi | len | int | bool | str | tuple | list | dict | sum | min | max | all | any | sorted | isi (t : Ty)
inductive Mt | get | index | split | join

def addS (x y : Rv) (S : Sto) : Option Rv :=
  match x with
  | .sh (.int i) => match y with
    | .sh (.int j) => some (.sh (.int (i + j)))
    | _ => none
  | .sh (.str i) => match y with
    | .sh (.str j) => if i.length + j.length ≤ sizeLine then some (.sh (.str (i ++ j))) else none
    | _ => none
  | .sh (.tup a) => match y with
    | .sh (.tup b) => if a.length + b.length ≤ sizeLine then some (.sh (.tup (a ++ b))) else none
    | _ => none
  | x => (lsv x S).bind fun a => (lsv y S).bind fun b => if a.length + b.length ≤ sizeLine then some (.nl (a ++ b)) else none
def int2 (f : Int → Int → Option Int) (x y : Rv) : Option Rv :=
  match x with
  | .sh (.int i) => match y with
    | .sh (.int j) => (f i j).map fun k => .sh (.int k)
    | _ => none
  | _ => none
def mulI (i j : Int) : Option Int := if (-(2 ^ 64) < i ∧ i < 2 ^ 64) ∨ (-(2 ^ 64) < j ∧ j < 2 ^ 64) then some (i * j) else none
def fdivI (i j : Int) : Option Int := if 0 < j ∧ j < 1073741824 then some (i / j) else none
def modI (i j : Int) : Option Int := if 0 < j then some (i % j) else none
def powI (i j : Int) : Option Int := if 0 ≤ j ∧ j ≤ 1000 ∧ i.natAbs < 1000 then some (i ^ j.toNat) else none
def repD (k : Int) (ds : List D) : List D := (List.replicate k.toNat ds).flatten
def mulS (x y : Rv) (S : Sto) : Option Rv :=
  match y with
  | .sh (.int k) => match x with
    | .sh (.int i) => (mulI i k).map fun z => .sh (.int z)
    | .sh (.tup a) => if 2 ≤ k ∧ k ≤ 1000 ∧ a.length ≤ 1000 ∧ a.isEmpty = false then some (.sh (.tup (repD k a))) else none
    | x => (lsv x S).bind fun a => if -(2 ^ 63) ≤ k ∧ k < 2 ^ 63 ∧ a.length * k.toNat ≤ sizeLine then some (.nl (repD k a)) else none
  | _ => none
def opS : Bop → Rv → Rv → Sto → Option Rv
  | .add, x, y, S => addS x y S
  | .sub, x, y, _ => int2 (fun i j => some (i - j)) x y
  | .mul, x, y, S => mulS x y S
  | .fdiv, x, y, _ => int2 fdivI x y
  | .mod, x, y, _ => int2 modI x y
  | .pow, x, y, _ => int2 powI x y

def eqS (x y : Rv) (S : Sto) : Option Bool :=
  (vw x S).bind fun a => (vw y S).bind fun b => if okd a 60 = true ∧ okd b 60 = true then some (deq a b) else none
def inS (x y : Rv) (S : Sto) : Option Bool :=
  match dcv y with
  | some kvs => (vw x S).bind fun k => if isKey k = true then some (dget kvs k).isSome else none
  | none => (vw x S).bind fun a => (sqv y S).bind fun ds => if okd a 60 = true ∧ okds ds 59 = true then some (ds.any fun z => deq z a) else none
def cmpI (f : Int → Int → Bool) (x y : Rv) : Option Bool :=
  match x with
  | .sh (.int i) => match y with
    | .sh (.int j) => some (f i j)
    | _ => none
  | _ => none
def isNon (x : Rv) : Bool :=
  match x with
  | .sh .non => true
  | _ => false
def cmpS : Cop → Rv → Rv → Sto → Option Bool
  | .eq, x, y, S => eqS x y S
  | .ne, x, y, S => (eqS x y S).map (!·)
  | .lt, x, y, _ => cmpI (fun i j => decide (i < j)) x y
  | .le, x, y, _ => cmpI (fun i j => decide (i ≤ j)) x y
  | .gt, x, y, _ => cmpI (fun i j => decide (j < i)) x y
  | .ge, x, y, _ => cmpI (fun i j => decide (j ≤ i)) x y
  | .is, x, y, _ => if isNon y = true then some (isNon x) else none
  | .isn, x, y, _ => if isNon y = true then some (!isNon x) else none
  | .inn, x, y, S => inS x y S
  | .nin, x, y, S => (inS x y S).map (!·)

def idxS (x y : Rv) (S : Sto) : Option Rv :=
  match dcv x with
  | some kvs => (vw y S).bind fun k => if isKey k = true then (dget kvs k).map .sh else none
  | none => match y with
    | .sh (.int i) => match x with
      | .sh (.scr ns) => (L2.atI ns i).map fun n => .sh (.int n)
      | .sh (.str z) => if z.length ≤ sizeLine then (L2.atI z.cps.toList i).map fun c => .sh (.str ⟨#[c]⟩) else none
      | x => (sqv x S).bind fun ds => (L2.atI ds i).map .sh
    | _ => none
def cutD (ds : List D) (lo hi : Option Int) : List D :=
  (ds.drop (HT.sIx ds.length 0 lo)).take (HT.sIx ds.length ds.length hi - HT.sIx ds.length 0 lo)
/-- a part of a slice -/
def partS (x : Rv) : Option (Option Int) :=
  match x with
  | .sh .non => some none
  | .sh (.int i) => some (some i)
  | _ => none
/-- a[lo:hi] by its parts -/
def slcP (x : Rv) (l h : Option Int) (S : Sto) : Option Rv :=
  match x with
  | .sh (.tup ds) => some (.sh (.tup (cutD ds l h)))
  | x => (lsv x S).map fun ds => .nl (cutD ds l h)

/-! ### built-ins -/
def intsD : List D → Option (List Int)
  | [] => some []
  | d :: ds => match d with
    | .int i => (intsD ds).map (i :: ·)
    | _ => none
def boolsD : List D → Option (List Bool)
  | [] => some []
  | d :: ds => match d with
    | .bl i => (boolsD ds).map (i :: ·)
    | _ => none
def minI : Int → List Int → Int
  | m, [] => m
  | m, x :: xs => minI (if x < m then x else m) xs
def maxI : Int → List Int → Int
  | m, [] => m
  | m, x :: xs => maxI (if m < x then x else m) xs
def min1 : List Int → Option Int
  | [] => none
  | x :: xs => some (minI x xs)
def max1 : List Int → Option Int
  | [] => none
  | x :: xs => some (maxI x xs)
def insI (x : Int) : List Int → List Int
  | [] => [x]
  | y :: ys => if x ≤ y then x :: y :: ys else y :: insI x ys
def sortI : List Int → List Int
  | [] => []
  | x :: xs => insI x (sortI xs)
/-- dict(pairs) -/
def dictOf : List D → List (D × D) → Option (List (D × D))
  | [], acc => some acc
  | p :: ps, acc => match p with
    | .tup ds => match ds with
      | [k, v] => if isKey k = true then dictOf ps (dput acc k v) else none
      | _ => none
    | _ => none
def Ty.isI : Ty → Bool
  | .int => true
  | _ => false
def Ty.isB : Ty → Bool
  | .int => true
  | .bool => true
  | _ => false
def Ty.isS : Ty → Bool
  | .str => true
  | _ => false
def Ty.isT : Ty → Bool
  | .tup => true
  | _ => false
def Ty.isL : Ty → Bool
  | .lst => true
  | _ => false
def isiS (t : Ty) (x : Rv) (S : Sto) : Option Bool :=
  match x with
  | .sh .non => some false
  | .sh (.bl _) => some t.isB
  | .sh (.int _) => some t.isI
  | .sh (.str _) => some t.isS
  | .sh (.tup _) => some t.isT
  | x => (lsv x S).map fun _ => t.isL
def biS (b : Bi) (xs : List Rv) (S : Sto) : Option Rv :=
  match b with
  | .len => match xs with
    | [x] => match x with
      | .sh (.str y) => if y.length ≤ sizeLine then some (.sh (.int y.length)) else none
      | .sh (.scr ns) => some (.sh (.int ns.length))
      | x => match dcv x with
        | some kvs => some (.sh (.int kvs.length))
        | none => (sqv x S).map fun ds => .sh (.int ds.length)
    | _ => none
  | .int => match xs with
    | [x] => match x with
      | .sh (.int i) => some (.sh (.int i))
      | .sh (.bl k) => some (.sh (.int (if k = true then 1 else 0)))
      | _ => none
    | _ => none
  | .bool => match xs with
    | [x] => match x with
      | .sh (.bl k) => some (.sh (.bl k))
      | _ => none
    | _ => none
  | .str => match xs with
    | [x] => match x with
      | .sh (.int i) => if i.natAbs < 1000000000 then some (.sh (.str (Str.ofString (toString i)))) else none
      | _ => none
    | _ => none
  | .tuple => match xs with
    | [x] => match x with
      | .sh (.tup ds) => some (.sh (.tup ds))
      | x => (lsv x S).map fun ds => .sh (.tup ds)
    | _ => none
  | .list => match xs with
    | [x] => match dcv x with
      | some kvs => some (.nl (kvs.map (·.1)))
      | none => (sqv x S).map .nl
    | _ => none
  | .dict => match xs with
    | [x] => (lsv x S).bind fun ds => (dictOf ds []).map .nd
    | _ => none
  | .sum => match xs with
    | [x] => (lsv x S).bind fun ds => (intsD ds).map fun ns => .sh (.int ns.sum)
    | _ => none
  | .min => match xs with
    | [x] => (lsv x S).bind fun ds => (intsD ds).bind fun ns => (min1 ns).map fun m => .sh (.int m)
    | [x, y] => int2 (fun i j => some (if j < i then j else i)) x y
    | _ => none
  | .max => match xs with
    | [x] => (lsv x S).bind fun ds => (intsD ds).bind fun ns => (max1 ns).map fun m => .sh (.int m)
    | [x, y] => int2 (fun i j => some (if j > i then j else i)) x y
    | _ => none
  | .all => match xs with
    | [x] => (lsv x S).bind fun ds => (boolsD ds).map fun bs => .sh (.bl (bs.all id))
    | _ => none
  | .any => match xs with
    | [x] => (lsv x S).bind fun ds => (boolsD ds).map fun bs => .sh (.bl (bs.any id))
    | _ => none
  | .sorted => match xs with
    | [x] => (lsv x S).bind fun ds => (intsD ds).map fun ns => .nl ((sortI ns).map .int)
    | _ => none
  | .isi t => match xs with
    | [x] => (isiS t x S).map fun b => .sh (.bl b)
    | _ => none
/-- the place of the first equal one -/
def findD (a : D) : List D → Option Nat
  | [] => none
  | z :: zs => if deq z a = true then some 0 else (findD a zs).map (· + 1)
/-- the receiver's kind -/
def mtK (m : Mt) (o : Rv) (S : Sto) : Bool :=
  match m with
  | .get => (dcv o).isSome
  | .index => (sqv o S).isSome
  | .split => false
  | .join => false
def mtS (m : Mt) (o : Rv) (xs : List Rv) (S : Sto) : Option Rv :=
  match m with
  | .get => match xs with
    | [k, d] => (dcv o).bind fun kvs => (vw k S).bind fun k => if isKey k = true then some (.sh ((dget kvs k).getD d.shr)) else none
    | _ => none
  | .index => match xs with
    | [a] => (sqv o S).bind fun ds => (vw a S).bind fun a => if okd a 60 = true ∧ okds ds 59 = true then (findD a ds).map fun n => .sh (.int n) else none
    | _ => none
  | .split => none
  | .join => none

/-! ### the core's texts -/
/-- targets: slots -/
inductive CG where
  | nm (i : Nat) | tup (is : List Nat)
mutual
inductive CE where
  | var (i : Nat) | varB (i : Nat) | con (d : D) | glob (j : Nat) (d : D) | fnv (id : Nat)
  | op (o : Bop) (a b : CE) | neg (a : CE) | not (a : CE) | and (a b : CE) | or (a b : CE)
  | cmp (o : Cop) (a b : CE) | chain (o o' : Cop) (a b c : CE) | ife (t a b : CE)
  | tup (es : CEs) | lst (es : CEs) | dct0
  | idx (a b : CE) | slc (a lo hi : CE)
  | comp (it : CI) (g : CG) (ws : List Nat) (t f : CE)
  | bi (b : Bi) (es : CEs) | mt (m : Mt) (o : CE) (es : CEs)
  | listr (e : CE) | sortset (e : CE) | listv (e : CE) | minv (e : CE) | maxv (e : CE)
  | call (id : Nat) (es : CEs) | call0 (id : Nat) | callv (i : Nat) (ids : List Nat) (es : CEs) | rev (e : CE) | dsel (ks : List Str) (es : CEs) (k : CE)
inductive CEs where
  | nil | cons (e : CE) (es : CEs)
inductive CI where
  | val (e : CE) | range1 (a : CE) | range2 (a b : CE) | ranged (a b : CE) | enum (e : CE) | zip (a b : CE)
end

def CEs.len : CEs → Nat
  | .nil => 0
  | .cons _ es => es.len + 1
/-! ### what the texts mean -/
def optR (o : Option Rv) (S : Sto) : Res Rv :=
  match o with
  | some r => .ok r S
  | none => .bad
def optB (o : Option Bool) (S : Sto) : Res Rv :=
  match o with
  | some b => .ok (.sh (.bl b)) S
  | none => .bad
def getV (ρ : Env) (i : Nat) : Option Rv :=
  match ρ[i]? with
  | some (some r) => some r
  | _ => none
def getS (ρ : Env) (i : Nat) : Option Rv :=
  match getV ρ i with
  | some (.sh d) => some (.sh d)
  | _ => none
def killL (ρ : Env) : List Nat → Env
  | [] => ρ
  | i :: is => (killL ρ is).set i none
def setIs : List Nat → List D → Env → Option Env
  | [], [], ρ => some ρ
  | i :: is, d :: ds, ρ => setIs is ds (ρ.set i (some (.sh d)))
  | _, _, _ => none
def setG (g : CG) (d : D) (ρ : Env) : Option Env :=
  match g with
  | .nm i => some (ρ.set i (some (.sh d)))
  | .tup is => match d with
    | .tup ds => setIs is ds ρ
    | _ => none
def compL (g : CG) (t f : Env → Sto → Res Rv) : List D → Env → Sto → Res (List D)
  | [], _, S => .ok [] S
  | d :: ds, ρ, S => match setG g d ρ with
    | none => .bad
    | some ρ1 => match t ρ1 S with
      | .ok tv S1 => match tru tv S1 with
        | some true => match f ρ1 S1 with
          | .ok v S2 => match compL g t f ds ρ S2 with
            | .ok r S3 => .ok (v.shr :: r) S3
            | _ => .bad
          | _ => .bad
        | some false => compL g t f ds ρ S1
        | none => .bad
      | _ => .bad
/-- the value by a key's text -/
def selD : List Str → List D → Str → Option D
  | k :: ks, d :: ds, x => if k = x then some d else selD ks ds x
  | _, _, _ => none
def rangeD (lo : Int) : Nat → List D
  | 0 => []
  | n + 1 => .int lo :: rangeD (lo + 1) n
/-- lo, lo - 1, .. -/
def rangeM (lo : Int) : Nat → List D
  | 0 => []
  | n + 1 => .int lo :: rangeM (lo - 1) n
def enumD (i : Int) : List D → List D
  | [] => []
  | d :: ds => .tup [.int i, d] :: enumD (i + 1) ds
def zipD : List D → List D → List D
  | a :: as, b :: bs => .tup [a, b] :: zipD as bs
  | _, _ => []
def inR (i : Int) : Prop := -(2 ^ 62) ≤ i ∧ i < 2 ^ 62
instance (i : Int) : Decidable (inR i) := by unfold inR; infer_instance
def dedup : List Int → List Int
  | [] => []
  | x :: xs => if (dedup xs).contains x then dedup xs else x :: dedup xs
mutual
def den : CE → Call → Env → Sto → Res Rv
  | .var i, _, ρ, S => optR (getS ρ i) S
  | .varB i, _, ρ, S => optR (getV ρ i) S
  | .con d, _, _, S => .ok (.sh d) S
  | .glob _ d, _, _, S => .ok (.sh d) S
  | .fnv id, _, _, S => .ok (.sh (.fn id)) S
  | .op o a b, c, ρ, S => (den a c ρ S).bind fun x S1 => (den b c ρ S1).bind fun y S2 => optR (opS o x y S2) S2
  | .neg a, c, ρ, S => (den a c ρ S).bind fun x S1 => match x with
    | .sh (.int i) => .ok (.sh (.int (-i))) S1
    | _ => .bad
  | .not a, c, ρ, S => (den a c ρ S).bind fun x S1 => optB ((tru x S1).map (!·)) S1
  | .and a b, c, ρ, S => (den a c ρ S).bind fun x S1 => match tru x S1 with
    | some true => den b c ρ S1
    | some false => .ok x S1
    | none => .bad
  | .or a b, c, ρ, S => (den a c ρ S).bind fun x S1 => match tru x S1 with
    | some true => .ok x S1
    | some false => den b c ρ S1
    | none => .bad
  | .cmp o a b, c, ρ, S => (den a c ρ S).bind fun x S1 => (den b c ρ S1).bind fun y S2 => optB (cmpS o x y S2) S2
  | .chain o o' a b d, c, ρ, S => (den a c ρ S).bind fun x S1 => (den b c ρ S1).bind fun y S2 => match cmpS o x y S2 with
    | some true => (den d c ρ S2).bind fun z S3 => optB (cmpS o' y z S3) S3
    | some false => .ok (.sh (.bl false)) S2
    | none => .bad
  | .ife t a b, c, ρ, S => (den t c ρ S).bind fun x S1 => match tru x S1 with
    | some true => den a c ρ S1
    | some false => den b c ρ S1
    | none => .bad
  | .tup es, c, ρ, S => (dens es c ρ S).bind fun xs S1 => .ok (.sh (.tup (xs.map Rv.shr))) S1
  | .lst es, c, ρ, S => (dens es c ρ S).bind fun xs S1 => .ok (.nl (xs.map Rv.shr)) S1
  | .dct0, _, _, S => .ok (.nd []) S
  | .idx a b, c, ρ, S => (den a c ρ S).bind fun x S1 => (den b c ρ S1).bind fun y S2 => optR (idxS x y S2) S2
  | .slc a lo hi, c, ρ, S => (den a c ρ S).bind fun x S1 => (den lo c ρ S1).bind fun l S2 => match partS l with
    | none => .bad
    | some l' => (den hi c ρ S2).bind fun h S3 => match partS h with
      | none => .bad
      | some h' => optR (slcP x l' h' S3) S3
  | .comp it g ws t f, c, ρ, S => (deni it c ρ S).bind fun ds S1 => match compL g (den t c) (den f c) ds (killL ρ ws) S1 with
    | .ok r S2 => if r.length ≤ sizeLine then .ok (.nl r) S2 else .bad
    | _ => .bad
  | .bi b es, c, ρ, S => (dens es c ρ S).bind fun xs S1 => optR (biS b xs S1) S1
  | .mt m o es, c, ρ, S => (den o c ρ S).bind fun x S1 => if mtK m x S1 = true then (dens es c ρ S1).bind fun xs S2 => optR (mtS m x xs S2) S2 else .bad
  | .listr e, c, ρ, S => (den e c ρ S).bind fun x S1 => match x with
    | .sh (.int n) => if inR n ∧ n ≤ 1000000 then .ok (.nl (rangeD 0 n.toNat)) S1 else .bad
    | _ => .bad
  | .sortset e, c, ρ, S => (den e c ρ S).bind fun x S1 => match (lsv x S1).bind intsD with
    | some ns => .ok (.nl ((sortI (dedup ns)).map .int)) S1
    | none => .bad
  | .listv e, c, ρ, S => (den e c ρ S).bind fun x S1 => match dcv x with
    | some kvs => .ok (.nl (kvs.map (·.2))) S1
    | none => .bad
  | .minv e, c, ρ, S => (den e c ρ S).bind fun x S1 => match (dcv x).bind fun kvs => (intsD (kvs.map (·.2))).bind min1 with
    | some m => .ok (.sh (.int m)) S1
    | none => .bad
  | .maxv e, c, ρ, S => (den e c ρ S).bind fun x S1 => match (dcv x).bind fun kvs => (intsD (kvs.map (·.2))).bind max1 with
    | some m => .ok (.sh (.int m)) S1
    | none => .bad
  | .call id es, c, ρ, S => (dens es c ρ S).bind fun xs S1 => c id (xs.map Rv.shr) S1
  | .call0 id, c, _, S => match c id [] S with
    | .ok r S1 => .ok r S1
    | _ => .bad
  | .callv i ids es, c, ρ, S => match getS ρ i with
    | some (.sh (.fn id)) => if ids.contains id = true then (dens es c ρ S).bind fun xs S1 => c id (xs.map Rv.shr) S1 else .bad
    | _ => .bad
  | .rev e, c, ρ, S => (den e c ρ S).bind fun x S1 => optR ((lsv x S1).map fun ds => .nl ds.reverse) S1
  | .dsel ks es k, c, ρ, S => (dens es c ρ S).bind fun xs S1 => (den k c ρ S1).bind fun y S2 => match y with
    | .sh (.str x) => optR ((selD ks (xs.map Rv.shr) x).map .sh) S2
    | _ => .bad
def dens : CEs → Call → Env → Sto → Res (List Rv)
  | .nil, _, _, S => .ok [] S
  | .cons e es, c, ρ, S => (den e c ρ S).bind fun x S1 => (dens es c ρ S1).bind fun xs S2 => .ok (x :: xs) S2
def deni : CI → Call → Env → Sto → Res (List D)
  | .val e, c, ρ, S => (den e c ρ S).bind fun x S1 => match dcs x with
    | some kvs => .ok (kvs.map (·.1)) S1
    | none => match itv x with
      | some ds => .ok ds S1
      | none => .bad
  | .range1 a, c, ρ, S => (den a c ρ S).bind fun x S1 => match x with
    | .sh (.int n) => if inR n then .ok (rangeD 0 n.toNat) S1 else .bad
    | _ => .bad
  | .range2 a b, c, ρ, S => (den a c ρ S).bind fun x S1 => (den b c ρ S1).bind fun y S2 => match x with
    | .sh (.int n) => match y with
      | .sh (.int m) => if inR n ∧ inR m then .ok (rangeD n (m - n).toNat) S2 else .bad
      | _ => .bad
    | _ => .bad
  | .ranged a b, c, ρ, S => (den a c ρ S).bind fun x S1 => (den b c ρ S1).bind fun y S2 => match x with
    | .sh (.int n) => match y with
      | .sh (.int m) => if inR n ∧ inR m then .ok (rangeM n (n - m).toNat) S2 else .bad
      | _ => .bad
    | _ => .bad
  | .enum e, c, ρ, S => (den e c ρ S).bind fun x S1 => match itv x with
    | some ds => .ok (enumD 0 ds) S1
    | none => .bad
  | .zip a b, c, ρ, S => (den a c ρ S).bind fun x S1 => (den b c ρ S1).bind fun y S2 => match itv x with
    | some ds => match itv y with
      | some es => .ok (zipD ds es) S2
      | none => .bad
    | none => .bad
end

/-! ### statements -/
/-- what an except clause does -/
inductive HA where
  | ret (d : D) | cont
mutual
inductive CS where
  | set (i : Nat) (e : CE) | setO (i : Nat) (e : CE) | unp (g : CG) (e : CE) | par (is : List (Nat × Bool)) (es : CEs)
  | put (i : Nat) (k e : CE) | app (i : Nat) (e : CE) | exp (e : CE)
  | ite (t : CE) (a b : CSs) | for_ (it : CI) (g : CG) (body : CSs) (ks : List Nat) | while_ (n : Nat) (t : CE) (body : CSs) (ks : List Nat)
  | ret (e : CE) | retv (i : Nat) | retN | raise (c : Nat) | try_ (body : CSs) (m : Nat) (hs : List (Nat × HA)) | brk | cont | pass
inductive CSs where
  | nil | cons (s : CS) (ss : CSs) | frz (i : Nat) (ss : CSs) | sto (i : Nat) (ss : CSs)
end
inductive Fl where
  | nx (ρ : Env) (S : Sto) | rt (r : Rv) (S : Sto) | bk (ρ : Env) (S : Sto) | ct (ρ : Env) (S : Sto) | ex (x : Exn) (ρ : Env) (S : Sto) | bad
/-- an expression, then -/
def Res.fl {α : Type} (r : Res α) (ρ : Env) (f : α → Sto → Fl) : Fl :=
  match r with
  | .ok a S => f a S
  | .ex x S => .ex x ρ S
  | .bad => .bad
def forL (g : CG) (body : Env → Sto → Fl) (ks : List Nat) : List D → Env → Sto → Fl
  | [], ρ, S => .nx (killL ρ ks) S
  | d :: ds, ρ, S => match setG g d ρ with
    | none => .bad
    | some ρ1 => match body ρ1 S with
      | .nx ρ2 S2 => forL g body ks ds (killL ρ2 ks) S2
      | .ct ρ2 S2 => forL g body ks ds (killL ρ2 ks) S2
      | .bk ρ2 S2 => .nx (killL ρ2 ks) S2
      | .rt r S2 => .rt r S2
      | .ex x ρ2 S2 => .ex x ρ2 S2
      | .bad => .bad
def whileL (t : Env → Sto → Res Rv) (body : Env → Sto → Fl) (ks : List Nat) : Nat → Env → Sto → Fl
  | 0, _, _ => .bad
  | n + 1, ρ, S => match t ρ S with
    | .ok tv S1 => match tru tv S1 with
      | some true => match body ρ S1 with
        | .nx ρ2 S2 => whileL t body ks n (killL ρ2 ks) S2
        | .ct ρ2 S2 => whileL t body ks n (killL ρ2 ks) S2
        | .bk ρ2 S2 => .nx (killL ρ2 ks) S2
        | .rt r S2 => .rt r S2
        | .ex x ρ2 S2 => .ex x ρ2 S2
        | .bad => .bad
      | some false => .nx (killL ρ ks) S1
      | none => .bad
    | .ex x S1 => .ex x ρ S1
    | .bad => .bad
/-- one class is another, or below it -/
def subc (i j : Nat) : Bool := i == j || j == 0
def handL (x : Exn) (ρ : Env) (S : Sto) : List (Nat × HA) → Fl
  | [] => .ex x ρ S
  | (j, a) :: hs => if subc x.c j = true then (match a with
    | .ret d => .rt (.sh d) S
    | .cont => .ct ρ S) else handL x ρ S hs
/-- o[y] = d, o the value of slot i -/
def putS (i : Nat) (o y : Rv) (d : D) (ρ : Env) (S : Sto) : Fl :=
  match o with
  | .nd kvs => match vw y S with
    | some kd => if isKey kd = true ∧ kvs.length < sizeLine then .nx (ρ.set i (some (.nd (dput kvs kd d)))) S else .bad
    | none => .bad
  | .nl ds => match y with
    | .sh (.int j) => match L2.ixN ds.length j with
      | some n => .nx (ρ.set i (some (.nl (ds.set n d)))) S
      | none => .bad
    | _ => .bad
  | .sh (.ref m) => match S[m]? with
    | some (.lst ds) => match y with
      | .sh (.int j) => match L2.ixN ds.length j with
        | some n => .nx ρ (S.set m (.lst (ds.set n d)))
        | none => .bad
      | _ => .bad
    | _ => .bad
  | _ => .bad
def setPs : List (Nat × Bool) → List Rv → Env → Option Env
  | [], [], ρ => some ρ
  | (i, o) :: is, r :: rs, ρ => setPs is rs (ρ.set i (some (if o = true then r else .sh r.shr)))
  | _, _, _ => none
mutual
def denS : CS → Call → Env → Sto → Fl
  | .set i e, c, ρ, S => (den e c ρ S).fl ρ fun x S1 => .nx (ρ.set i (some (.sh x.shr))) S1
  | .setO i e, c, ρ, S => (den e c ρ S).fl ρ fun x S1 => .nx (ρ.set i (some x)) S1
  | .unp g e, c, ρ, S => (den e c ρ S).fl ρ fun x S1 => match setG g x.shr ρ with
    | some ρ' => .nx ρ' S1
    | none => .bad
  | .par is es, c, ρ, S => (dens es c ρ S).fl ρ fun xs S1 => match setPs is xs ρ with
    | some ρ' => .nx ρ' S1
    | none => .bad
  | .put i k e, c, ρ, S => (den e c ρ S).fl ρ fun x S1 => match getV ρ i with
    | none => .bad
    | some o => (den k c ρ S1).fl ρ fun y S2 => putS i o y x.shr ρ S2
  | .app i e, c, ρ, S => match getV ρ i with
    | some (.nl ds) => (den e c ρ S).fl ρ fun x S1 => if ds.length < sizeLine then .nx (ρ.set i (some (.nl (ds ++ [x.shr])))) S1 else .bad
    | _ => .bad
  | .exp e, c, ρ, S => (den e c ρ S).fl ρ fun _ S1 => .nx ρ S1
  | .ite t a b, c, ρ, S => (den t c ρ S).fl ρ fun x S1 => match tru x S1 with
    | some true => denSs a c ρ S1
    | some false => denSs b c ρ S1
    | none => .bad
  | .for_ it g body ks, c, ρ, S => (deni it c ρ S).fl ρ fun ds S1 => forL g (denSs body c) ks ds ρ S1
  | .while_ n t body ks, c, ρ, S => whileL (den t c) (denSs body c) ks n ρ S
  | .ret e, c, ρ, S => (den e c ρ S).fl ρ fun x S1 => .rt x S1
  | .retv i, _, ρ, S => match getV ρ i with
    | some r => .rt r S
    | none => .bad
  | .retN, _, _, S => .rt (.sh .non) S
  | .raise k, _, ρ, S => .ex ⟨k, none⟩ ρ S
  | .try_ body m hs, c, ρ, S => match denSs body c ρ S with
    | .ex x ρ2 S2 => if x.c < m then handL x ρ2 S2 hs else .bad
    | f => f
  | .brk, _, ρ, S => .bk ρ S
  | .cont, _, ρ, S => .ct ρ S
  | .pass, _, ρ, S => .nx ρ S
def denSs : CSs → Call → Env → Sto → Fl
  | .nil, _, ρ, S => .nx ρ S
  | .cons s ss, c, ρ, S => match denS s c ρ S with
    | .nx ρ' S' => denSs ss c ρ' S'
    | f => f
  | .frz i ss, c, ρ, S => match getV ρ i with
    | some r => denSs ss c (ρ.set i (some (.sh r.shr))) S
    | none => denSs ss c ρ S
  | .sto i ss, c, ρ, S => match getV ρ i with
    | some (.nl ds) => denSs ss c (ρ.set i (some (.sh (.ref S.length)))) (S ++ [.lst ds])
    | _ => .bad
end

/-! ### defs -/
structure Fd where
  np : Nat
  nl : Nat
  body : CSs
def runF (fd : Fd) (c : Call) (ds : List D) (S : Sto) : Res Rv :=
  if ds.length = fd.np then match denSs fd.body c (ds.map (fun d => some (.sh d)) ++ List.replicate (fd.nl - fd.np) none) S with
    | .nx _ S => .ok (.sh .non) S
    | .rt r S => .ok r S
    | .ex x _ S => .ex x S
    | _ => .bad
  else .bad
def Phi (T : List Fd) : Nat → Call
  | 0 => fun _ _ _ => .bad
  | n + 1 => fun id ds S => match T[id]? with
    | none => .bad
    | some fd => runF fd (Phi T n) ds S
end Z

set_option Elab.async false
set_option linter.all false
set_option autoImplicit false
set_option maxRecDepth 100000
/-! Z1: how data stand in the abstract heap. -/
namespace Z
open PySem L2

/-- the program, and where its defs and classes stand -/
structure Gd where
  P : Program
  w : World
  K : PySem.W.Frag
  fa : Nat → Addr
  ca : Nat → Addr

/-- an entry of a dict: the key, the address of its tuple, the value -/
abbrev Ent := NestedKey × Addr × V
def EntR (p : Ent) (q : NestedKey × Addr × Value) : Prop := p.1 = q.1 ∧ p.2.1 = q.2.1 ∧ RelV p.2.2 q.2.2
def DPhi (P : Program) (w : World) (a : Addr) (es : List Ent) (h : Heap) : Prop :=
  es.length ≤ sizeLine ∧ (a == sysModules) = false ∧ ∃ xs : List (NestedKey × Addr × Value), Paired EntR es xs ∧
    ∃ o ents ep, h.get? a = some o ∧ o.ExactDict ∧ o.data = .dict ents ep ∧ ents.toList = xs.map (entryOfKey (nestedKind P w)) ∧ (xs.map (·.1)).Nodup
/-- a dict as a tracked object -/
def dO (P : Program) (w : World) (a : Addr) (es : List Ent) : HO := .ext (DPhi P w a es)

mutual
inductive RelD (g : Gd) (F : Hp) (mu : List Addr) : D → V → Prop
  | non : RelD g F mu .non .non
  | bl (b : Bool) : RelD g F mu (.bl b) (.bl b)
  | int (i : Int) : RelD g F mu (.int i) (.int i)
  | str (x : Str) : RelD g F mu (.str x) (.str x)
  | tup {a : Addr} {xs : List V} {ds : List D} : SqT g.K F a xs → RelDs g F mu ds xs → RelD g F mu (.tup ds) (.ref a)
  | lst {a : Addr} {xs : List V} {ds : List D} : F a = some (.lst xs) → RelDs g F mu ds xs → RelD g F mu (.lst ds) (.ref a)
  | dct {a : Addr} {es : List Ent} {kvs : List (D × D)} : Rd F a (dO g.P g.w a es) → RelKs g F mu kvs es → RelD g F mu (.dct kvs) (.ref a)
  | scr {a : Addr} {ns : List Int} : SqL g.K F a (ns.map V.int) → RelD g F mu (.scr ns) (.ref a)
  | ref {n : Nat} {a : Addr} : mu[n]? = some a → RelD g F mu (.ref n) (.ref a)
  | fn (n : Nat) : RelD g F mu (.fn n) (.ref (g.fa n))
inductive RelDs (g : Gd) (F : Hp) (mu : List Addr) : List D → List V → Prop
  | nil : RelDs g F mu [] []
  | cons {d : D} {v : V} {ds : List D} {vs : List V} : RelD g F mu d v → RelDs g F mu ds vs → RelDs g F mu (d :: ds) (v :: vs)
inductive RelKs (g : Gd) (F : Hp) (mu : List Addr) : List (D × D) → List Ent → Prop
  | nil : RelKs g F mu [] []
  | cons {k d : D} {kvs : List (D × D)} {n : NestedKey} {a : Addr} {v : V} {es : List Ent} : nk k = n → isKey k = true → RelD g F mu k (.ref a) → RelD g F mu d v → RelKs g F mu kvs es → RelKs g F mu ((k, d) :: kvs) ((n, a, v) :: es)
end

/-- F stands in H -/
def Sub (F H : Hp) : Prop := ∀ a o, F a = some o → H a = some o
/-- the same, or a dict that was locked -/
def Le (o o' : HO) : Prop := o' = o ∨ ∃ ob φ, o' = .frz ob o ∧ o = .ext φ
def Fle (F F' : Hp) : Prop := ∀ a o, F a = some o → ∃ o', F' a = some o' ∧ Le o o'
theorem Sub.le {F F' : Hp} (s : Sub F F') : Fle F F' := fun a o h => ⟨o, s a o h, .inl rfl⟩
theorem Le.trans {a b c : HO} (h : Le a b) (k : Le b c) : Le a c := by
  rcases h with rfl | ⟨ob, φ, rfl, rfl⟩
  · exact k
  · rcases k with rfl | ⟨ob', φ', _, e⟩
    · exact .inr ⟨ob, φ, rfl, rfl⟩
    · cases e
theorem Fle.trans {A B C : Hp} (h : Fle A B) (k : Fle B C) : Fle A C := fun a o e => by
  obtain ⟨o1, e1, l1⟩ := h a o e
  obtain ⟨o2, e2, l2⟩ := k a o1 e1
  exact ⟨o2, e2, l1.trans l2⟩
theorem Fle.refl {A : Hp} : Fle A A := fun a o e => ⟨o, e, .inl rfl⟩
theorem Fle.lst {F F' : Hp} (s : Fle F F') {a : Addr} {xs : List V} (h : F a = some (.lst xs)) : F' a = some (.lst xs) := by
  obtain ⟨o, e, l⟩ := s a _ h
  rcases l with rfl | ⟨_, _, _, e'⟩
  · exact e
  · cases e'
theorem Fle.dct {F F' : Hp} (s : Fle F F') {a : Addr} {φ : Heap → Prop} (h : Rd F a (.ext φ)) : Rd F' a (.ext φ) := by
  rcases h with h | ⟨ob, h⟩
  · obtain ⟨o, e, l⟩ := s a _ h
    rcases l with rfl | ⟨ob, _, rfl, _⟩
    · exact .inl e
    · exact .inr ⟨ob, e⟩
  · obtain ⟨o, e, l⟩ := s a _ h
    rcases l with rfl | ⟨_, _, _, e'⟩
    · exact .inr ⟨ob, e⟩
    · cases e'

section
variable {g : Gd} {F F' H H' : Hp} {mu mu' : List Addr}

theorem sqT_sub {K : PySem.W.Frag} {a : Addr} {xs : List V} (s : Sub F F') (h : SqT K F a xs) : SqT K F' a xs := by
  rcases h with (h | ⟨o, h⟩) | h
  · exact .inl (.inl (s _ _ h))
  · exact .inl (.inr ⟨o, s _ _ h⟩)
  · exact .inr h
theorem sqT_le {K : PySem.W.Frag} {a : Addr} {xs : List V} (s : Fle F F') (h : SqT K F a xs) : SqT K F' a xs := by
  rcases h with (h | ⟨o, h⟩) | h
  · obtain ⟨o', e, l⟩ := s _ _ h
    rcases l with rfl | ⟨_, _, _, e'⟩
    · exact .inl (.inl e)
    · cases e'
  · obtain ⟨o', e, l⟩ := s _ _ h
    rcases l with rfl | ⟨_, _, _, e'⟩
    · exact .inl (.inr ⟨o, e⟩)
    · cases e'
  · exact .inr h
theorem sqL_le {K : PySem.W.Frag} {a : Addr} {xs : List V} (s : Fle F F') (h : SqL K F a xs) : SqL K F' a xs := by
  rcases h with (h | ⟨o, h⟩) | h
  · exact .inl (.inl (s.lst h))
  · obtain ⟨o', e, l⟩ := s _ _ h
    rcases l with rfl | ⟨_, _, _, e'⟩
    · exact .inl (.inr ⟨o, e⟩)
    · cases e'
  · exact .inr h
theorem sqL_sub {K : PySem.W.Frag} {a : Addr} {xs : List V} (s : Sub F F') (h : SqL K F a xs) : SqL K F' a xs := by
  rcases h with (h | ⟨o, h⟩) | h
  · exact .inl (.inl (s _ _ h))
  · exact .inl (.inr ⟨o, s _ _ h⟩)
  · exact .inr h
theorem pre_get {α : Type} {l l' : List α} {n : Nat} {a : α} (p : l <+: l') (h : l[n]? = some a) : l'[n]? = some a := by
  obtain ⟨t, rfl⟩ := p
  rw [List.getElem?_append_left (List.getElem?_eq_some_iff.mp h).1]
  exact h
mutual
theorem RelD.mono (s : Fle F F') (p : mu <+: mu') : ∀ {d : D} {v : V}, RelD g F mu d v → RelD g F' mu' d v
  | _, _, .non => .non
  | _, _, .bl b => .bl b
  | _, _, .int i => .int i
  | _, _, .str x => .str x
  | _, _, .tup h r => .tup (sqT_le s h) (RelDs.mono s p r)
  | _, _, .lst h r => .lst (s.lst h) (RelDs.mono s p r)
  | _, _, .dct h r => .dct (s.dct h) (RelKs.mono s p r)
  | _, _, .scr h => .scr (sqL_le s h)
  | _, _, .ref h => .ref (pre_get p h)
  | _, _, .fn n => .fn n
theorem RelDs.mono (s : Fle F F') (p : mu <+: mu') : ∀ {ds : List D} {vs : List V}, RelDs g F mu ds vs → RelDs g F' mu' ds vs
  | _, _, .nil => .nil
  | _, _, .cons a b => .cons (RelD.mono s p a) (RelDs.mono s p b)
theorem RelKs.mono (s : Fle F F') (p : mu <+: mu') : ∀ {kvs : List (D × D)} {es : List Ent}, RelKs g F mu kvs es → RelKs g F' mu' kvs es
  | _, _, .nil => .nil
  | _, _, .cons e h a b c => .cons e h (RelD.mono s p a) (RelD.mono s p b) (RelKs.mono s p c)
end
theorem RelDs.length : ∀ {ds : List D} {vs : List V}, RelDs g F mu ds vs → ds.length = vs.length
  | _, _, .nil => rfl
  | _, _, .cons _ t => by rw [List.length_cons, List.length_cons, RelDs.length t]
theorem RelKs.length : ∀ {kvs : List (D × D)} {es : List Ent}, RelKs g F mu kvs es → kvs.length = es.length
  | _, _, .nil => rfl
  | _, _, .cons _ _ _ _ t => by rw [List.length_cons, List.length_cons, RelKs.length t]
theorem RelDs.get : ∀ {ds : List D} {vs : List V} {i : Nat} {d : D}, RelDs g F mu ds vs → ds[i]? = some d → ∃ v, vs[i]? = some v ∧ RelD g F mu d v
  | _, _, _, _, .nil, e => by simp at e
  | _, _, 0, _, .cons r _, e => by simp at e; subst e; exact ⟨_, rfl, r⟩
  | _, _, i + 1, d, .cons _ t, e => by
    obtain ⟨v, h1, h2⟩ := RelDs.get (i := i) (d := d) t (by simpa using e)
    exact ⟨v, by simpa using h1, h2⟩
theorem RelDs.getV : ∀ {ds : List D} {vs : List V} {i : Nat} {v : V}, RelDs g F mu ds vs → vs[i]? = some v → ∃ d, ds[i]? = some d ∧ RelD g F mu d v
  | _, _, _, _, .nil, e => by simp at e
  | _, _, 0, _, .cons r _, e => by simp at e; subst e; exact ⟨_, rfl, r⟩
  | _, _, i + 1, d, .cons _ t, e => by
    obtain ⟨v, h1, h2⟩ := RelDs.getV (i := i) (v := d) t (by simpa using e)
    exact ⟨v, by simpa using h1, h2⟩
theorem RelDs.append : ∀ {ds es : List D} {vs us : List V}, RelDs g F mu ds vs → RelDs g F mu es us → RelDs g F mu (ds ++ es) (vs ++ us)
  | _, _, _, _, .nil, s => s
  | _, _, _, _, .cons r t, s => .cons r (RelDs.append t s)
theorem RelDs.take : ∀ {ds : List D} {vs : List V} (n : Nat), RelDs g F mu ds vs → RelDs g F mu (ds.take n) (vs.take n)
  | _, _, 0, _ => .nil
  | _, _, _ + 1, .nil => .nil
  | _, _, n + 1, .cons r t => .cons r (RelDs.take n t)
theorem RelDs.drop : ∀ {ds : List D} {vs : List V} (n : Nat), RelDs g F mu ds vs → RelDs g F mu (ds.drop n) (vs.drop n)
  | _, _, 0, r => r
  | _, _, _ + 1, .nil => .nil
  | _, _, n + 1, .cons _ t => RelDs.drop n t
theorem RelDs.set {d : D} {v : V} (r : RelD g F mu d v) : ∀ {ds : List D} {vs : List V} (i : Nat), RelDs g F mu ds vs → RelDs g F mu (ds.set i d) (vs.set i v)
  | _, _, _, .nil => .nil
  | _, _, 0, .cons _ t => .cons r t
  | _, _, i + 1, .cons q t => .cons q (RelDs.set r i t)

/-! ### what may be changed -/
def FsR (g : Gd) (F : Hp) (mu : List Addr) (fs : List (Str × D)) (vs : List (Str × V)) : Prop := Paired (fun p q => p.1 = q.1 ∧ RelD g F mu p.2 q.2) fs vs
/-- an object of the store at a -/
def MoR (g : Gd) (F : Hp) (mu : List Addr) (H : Hp) (m : MO) (a : Addr) : Prop :=
  match m with
  | .lst ds => ∃ xs, H a = some (.lst xs) ∧ RelDs g F mu ds xs
  | .ins c fs => ∃ dx vs, H a = some (.ins (g.ca c) dx vs) ∧ FsR g F mu fs vs
theorem MoR.mono {m : MO} {a : Addr} (s : Fle F F') (p : mu <+: mu') (e : H' a = H a) (h : MoR g F mu H m a) : MoR g F' mu' H' m a := by
  cases m with
  | lst ds => obtain ⟨xs, h1, h2⟩ := h; exact ⟨xs, e.trans h1, h2.mono s p⟩
  | ins c fs => obtain ⟨dx, vs, h1, h2⟩ := h; exact ⟨dx, vs, e.trans h1, Paired.mapP h2 fun _ _ q => ⟨q.1, q.2.mono s p⟩⟩
/-- the ground: frozen data in H, the store's objects in H and not frozen -/
structure Gh (g : Gd) (F : Hp) (mu : List Addr) (S : Sto) (H : Hp) : Prop where
  sub : Sub F H
  nd : mu.Nodup
  len : mu.length = S.length
  at_ : ∀ (i : Nat) (a : Addr) (m : MO), mu[i]? = some a → S[i]? = some m → F a = none ∧ MoR g F mu H m a
theorem Gh.get {S : Sto} {i : Nat} {m : MO} (h : Gh g F mu S H) (e : S[i]? = some m) : ∃ a, mu[i]? = some a ∧ F a = none ∧ MoR g F mu H m a := by
  have hl : i < mu.length := by rw [h.len]; exact (List.getElem?_eq_some_iff.mp e).1
  exact ⟨mu[i], List.getElem?_eq_getElem hl, h.at_ i _ m (List.getElem?_eq_getElem hl) e⟩
theorem MoR.there {m : MO} {a : Addr} (h : MoR g F mu H m a) : H a ≠ none := by
  cases m with
  | lst ds => obtain ⟨xs, h1, _⟩ := h; rw [h1]; simp
  | ins c fs => obtain ⟨dx, vs, h1, _⟩ := h; rw [h1]; simp
theorem Gh.there {S : Sto} {a : Addr} (h : Gh g F mu S H) (ha : a ∈ mu) : H a ≠ none := by
  obtain ⟨i, hi, e⟩ := List.getElem_of_mem ha
  have hs : i < S.length := by rw [← h.len]; exact hi
  exact (h.at_ i a S[i] (by rw [List.getElem?_eq_getElem hi, e]) (List.getElem?_eq_getElem hs)).2.there
theorem Gh.nofr {S : Sto} {a : Addr} (h : Gh g F mu S H) (ha : a ∈ mu) : F a = none := by
  obtain ⟨i, hi, e⟩ := List.getElem_of_mem ha
  have hs : i < S.length := by rw [← h.len]; exact hi
  exact (h.at_ i a S[i] (by rw [List.getElem?_eq_getElem hi, e]) (List.getElem?_eq_getElem hs)).1

/-- how the ground goes on: nothing is changed but the store's objects, new things are frozen or kept in the store -/
structure Evo (F : Hp) (mu : List Addr) (H : Hp) (F' : Hp) (mu' : List Addr) (H' : Hp) : Prop where
  keep : ∀ a o, H a = some o → a ∉ mu → F a = none → H' a = some o
  dom : ∀ a, H a ≠ none → H' a ≠ none
  froz : ∀ a, H a ≠ none → F a = none → F' a = none
  le : Fle F F'
  pre : mu <+: mu'
  fresh : ∀ a ∈ mu', a ∈ mu ∨ H a = none
theorem Evo.refl : Evo F mu H F mu H := ⟨fun _ _ h _ _ => h, fun _ h => h, fun _ _ h => h, .refl, List.prefix_rfl, fun _ h => .inl h⟩
theorem Evo.trans {F1 F2 : Hp} {mu1 mu2 : List Addr} {H1 H2 : Hp} (a : Evo F mu H F1 mu1 H1) (b : Evo F1 mu1 H1 F2 mu2 H2) : Evo F mu H F2 mu2 H2 where
  keep := fun x o h n f => b.keep x o (a.keep x o h n f) (fun z => (a.fresh x z).elim n fun q => by rw [q] at h; cases h) (a.froz x (by rw [h]; simp) f)
  dom := fun x h => b.dom x (a.dom x h)
  froz := fun x h f => b.froz x (a.dom x h) (a.froz x h f)
  le := a.le.trans b.le
  pre := a.pre.trans b.pre
  fresh := fun x h => (b.fresh x h).elim (a.fresh x) fun q => .inr (Classical.byContradiction fun z => a.dom x z q)

/-! ### values -/
/-- a value of the meaning, and one of the heap; a new list or dict is not frozen, not in the store -/
def RelR (g : Gd) (F : Hp) (mu : List Addr) (H : Hp) (r : Rv) (v : V) : Prop :=
  match r with
  | .sh d => RelD g F mu d v
  | .nl ds => ∃ a xs, v = .ref a ∧ H a = some (.lst xs) ∧ F a = none ∧ a ∉ mu ∧ RelDs g F mu ds xs
  | .nd kvs => ∃ a es, v = .ref a ∧ H a = some (dO g.P g.w a es) ∧ F a = none ∧ a ∉ mu ∧ RelKs g F mu kvs es
/-- nobody else holds it: it was not there ahead -/
def New (H : Hp) (r : Rv) (v : V) : Prop :=
  match r with
  | .sh _ => True
  | _ => ∀ a, v = .ref a → H a = none
theorem RelR.evo {r : Rv} {v : V} (e : Evo F mu H F' mu' H') (s : Sub F H) (h : RelR g F mu H r v) : RelR g F' mu' H' r v := by
  cases r with
  | sh d => exact RelD.mono e.le e.pre h
  | nl ds =>
    obtain ⟨a, xs, h1, h2, h3, h4, h5⟩ := h
    exact ⟨a, xs, h1, e.keep a _ h2 h4 h3, e.froz a (by rw [h2]; simp) h3, (fun z => (e.fresh a z).elim h4 fun q => by rw [q] at h2; cases h2), h5.mono e.le e.pre⟩
  | nd kvs =>
    obtain ⟨a, es, h1, h2, h3, h4, h5⟩ := h
    exact ⟨a, es, h1, e.keep a _ h2 h4 h3, e.froz a (by rw [h2]; simp) h3, (fun z => (e.fresh a z).elim h4 fun q => by rw [q] at h2; cases h2), h5.mono e.le e.pre⟩

/-- an object that nobody else holds is frozen -/
theorem freeze {S : Sto} {r : Rv} {v : V} {Hs : Hp} (gh : Gh g F mu S H) (h : RelR g F mu H r v) (n : New Hs r v) :
    ∃ F', Gh g F' mu S H ∧ RelD g F' mu r.shr v ∧ Sub F F' ∧ (∀ a, Hs a ≠ none → F' a = F a) ∧ (∀ a, v ≠ .ref a → F' a = F a) := by
  have mk : ∀ (a : Addr) (o : HO), v = .ref a → H a = some o → F a = none → a ∉ mu → (∀ b, v = .ref b → Hs b = none) →
      Gh g (upd F a o) mu S H ∧ Sub F (upd F a o) ∧ (∀ b, Hs b ≠ none → upd F a o b = F b) ∧ (∀ b, v ≠ .ref b → upd F a o b = F b) := by
    intro a o hv hH hF hm hn
    have sub : Sub F (upd F a o) := fun b u q => by
      rw [upd_ne fun z => by rw [z, hF] at q; cases q]
      exact q
    refine ⟨⟨fun b u q => ?_, gh.nd, gh.len, fun i b m e1 e2 => ?_⟩, sub, fun b hb => upd_ne fun z => hb (hn b (z ▸ hv)), fun b hb => upd_ne fun z => hb (z ▸ hv)⟩
    · by_cases hb : b = a
      · subst hb; rw [upd_same] at q; cases q; exact hH
      · rw [upd_ne hb] at q; exact gh.sub b u q
    · obtain ⟨q1, q2⟩ := gh.at_ i b m e1 e2
      have hb : b ≠ a := fun z => hm (z ▸ List.mem_of_getElem? e1)
      exact ⟨by rw [upd_ne hb]; exact q1, q2.mono sub.le List.prefix_rfl rfl⟩
  cases r with
  | sh d => exact ⟨F, gh, h, fun _ _ q => q, fun _ _ => rfl, fun _ _ => rfl⟩
  | nl ds =>
    obtain ⟨a, xs, h1, h2, h3, h4, h5⟩ := h
    obtain ⟨k1, k2, k3, k4⟩ := mk a _ h1 h2 h3 h4 (fun b q => n b q)
    exact ⟨_, k1, by subst h1; exact .lst upd_same (h5.mono k2.le List.prefix_rfl), k2, k3, k4⟩
  | nd kvs =>
    obtain ⟨a, es, h1, h2, h3, h4, h5⟩ := h
    obtain ⟨k1, k2, k3, k4⟩ := mk a _ h1 h2 h3 h4 (fun b q => n b q)
    exact ⟨_, k1, by subst h1; exact .dct (.inl upd_same) (h5.mono k2.le List.prefix_rfl), k2, k3, k4⟩
/-- .. behind an expression that began at Hs -/
theorem share {S : Sto} {r : Rv} {v : V} {Fs Hs : Hp} {mus : List Addr} (e : Evo Fs mus Hs F mu H) (gh : Gh g F mu S H) (h : RelR g F mu H r v) (n : New Hs r v) :
    ∃ F', Evo Fs mus Hs F' mu H ∧ Gh g F' mu S H ∧ RelD g F' mu r.shr v ∧ Sub F F' ∧ ∀ a, v ≠ .ref a → F' a = F a := by
  obtain ⟨F', k1, k2, k3, k4, k5⟩ := freeze gh h n
  exact ⟨F', ⟨e.keep, e.dom, fun a ha hf => (k4 a ha).trans (e.froz a ha hf), e.le.trans k3.le, e.pre, e.fresh⟩, k1, k2, k3, k5⟩

/-! ### slots -/
def SlR (g : Gd) (F : Hp) (mu : List Addr) (H Zh : Hp) (s : Option Rv) (o : Option V) : Prop :=
  match s with
  | none => True
  | some r => ∃ v, o = some v ∧ RelR g F mu H r v ∧ New Zh r v
def own : Option Rv → Bool
  | some (.nl _) => true
  | some (.nd _) => true
  | _ => false
/-- the whole state; Zh: the heap at the def's entry -/
structure SR (g : Gd) (Zh F : Hp) (mu : List Addr) (ρ : Env) (S : Sto) (σ : St) (H : Hp) : Prop where
  gh : Gh g F mu S H
  len : ρ.length = σ.length
  sl : ∀ (i : Nat) s o, ρ[i]? = some s → σ[i]? = some o → SlR g F mu H Zh s o
  dis : ∀ (i j : Nat) s t, i ≠ j → ρ[i]? = some s → ρ[j]? = some t → own s = true → own t = true → σ[i]? ≠ σ[j]?
theorem SR.evo {Zh : Hp} {ρ : Env} {S S' : Sto} {σ : St} (h : SR g Zh F mu ρ S σ H) (e : Evo F mu H F' mu' H') (gh : Gh g F' mu' S' H') : SR g Zh F' mu' ρ S' σ H' :=
  ⟨gh, h.len, fun i s o e1 e2 => by
    have q := h.sl i s o e1 e2
    cases s with
    | none => exact trivial
    | some r =>
      obtain ⟨v, h1, h2, h3⟩ := q
      exact ⟨v, h1, h2.evo e h.gh.sub, h3⟩, h.dis⟩
theorem SR.get {Zh : Hp} {ρ : Env} {S : Sto} {σ : St} {i : Nat} {r : Rv} (h : SR g Zh F mu ρ S σ H) (e : getV ρ i = some r) : ∃ v, σ[i]? = some (some v) ∧ RelR g F mu H r v ∧ New Zh r v := by
  unfold getV at e
  split at e
  · rename_i r' hr
    cases e
    have hl : i < σ.length := by rw [← h.len]; exact (List.getElem?_eq_some_iff.mp hr).1
    obtain ⟨v, h1, h2, h3⟩ := h.sl i _ σ[i] hr (List.getElem?_eq_getElem hl)
    exact ⟨v, by rw [List.getElem?_eq_getElem hl, h1], h2, h3⟩
  · cases e
/-- a slot is set -/
theorem SR.set {Zh : Hp} {ρ : Env} {S : Sto} {σ : St} {i : Nat} {s : Option Rv} {v : V} (h : SR g Zh F mu ρ S σ H) (r : SlR g F mu H Zh s (some v))
    (n : own s = true → ∀ j t, j ≠ i → ρ[j]? = some t → own t = true → σ[j]? ≠ some (some v)) : SR g Zh F mu (ρ.set i s) S (σ.set i (some v)) H := by
  refine ⟨h.gh, by simp [h.len], fun j s' o e1 e2 => ?_, fun j k s' t hjk e1 e2 o1 o2 => ?_⟩
  · by_cases hj : i = j
    · subst hj
      rw [List.getElem?_set] at e1 e2
      simp only [if_true] at e1 e2
      split at e1
      · split at e2
        · cases e1; cases e2; exact r
        · cases e2
      · cases e1
    · rw [List.getElem?_set_ne hj] at e1 e2
      exact h.sl j s' o e1 e2
  · by_cases hj : i = j
    · subst hj
      have hk : i ≠ k := hjk
      rw [List.getElem?_set_ne hk] at e2
      rw [List.getElem?_set_ne hk]
      have hi : i < ρ.length := by
        have := (List.getElem?_eq_some_iff.mp e1).1
        simpa using this
      rw [List.getElem?_set_self hi] at e1
      cases e1
      rw [List.getElem?_set_self (by rw [← h.len]; exact hi)]
      exact Ne.symm (n o1 k t (Ne.symm hk) e2 o2)
    · by_cases hk : i = k
      · subst hk
        rw [List.getElem?_set_ne hj] at e1
        rw [List.getElem?_set_ne hj]
        have hi : i < ρ.length := by
          have := (List.getElem?_eq_some_iff.mp e2).1
          simpa using this
        rw [List.getElem?_set_self hi] at e2
        cases e2
        rw [List.getElem?_set_self (by rw [← h.len]; exact hi)]
        exact n o2 j s' (Ne.symm hj) e1 o1
      · rw [List.getElem?_set_ne hj] at e1
        rw [List.getElem?_set_ne hk] at e2
        rw [List.getElem?_set_ne hj, List.getElem?_set_ne hk]
        exact h.dis j k s' t hjk e1 e2 o1 o2
theorem SR.setSh {Zh : Hp} {ρ : Env} {S : Sto} {σ : St} {i : Nat} {d : D} {v : V} (h : SR g Zh F mu ρ S σ H) (r : RelD g F mu d v) : SR g Zh F mu (ρ.set i (some (.sh d))) S (σ.set i (some v)) H :=
  h.set ⟨v, rfl, r, trivial⟩ fun z => by cases z
/-- slots are forgotten, in the meaning alone or in both -/
theorem SR.kill {Zh : Hp} {ρ : Env} {S : Sto} {σ : St} (h : SR g Zh F mu ρ S σ H) : ∀ ks : List Nat, SR g Zh F mu (killL ρ ks) S σ H
  | [] => h
  | k :: ks => by
    have ih := SR.kill h ks
    unfold killL
    refine ⟨ih.gh, by simpa using ih.len, fun j s o e1 e2 => ?_, fun j l s t hjl e1 e2 o1 o2 => ?_⟩
    · by_cases hj : k = j
      · subst hj
        rw [List.getElem?_set] at e1
        simp only [if_true] at e1
        split at e1
        · cases e1; exact trivial
        · cases e1
      · rw [List.getElem?_set_ne hj] at e1
        exact ih.sl j s o e1 e2
    · have nk_ : ∀ (j : Nat) (s : Option Rv), ((killL ρ ks).set k none)[j]? = some s → own s = true → (killL ρ ks)[j]? = some s := by
        intro j s e o
        by_cases hj : k = j
        · subst hj
          rw [List.getElem?_set] at e
          simp only [if_true] at e
          split at e
          · cases e; cases o
          · cases e
        · rw [List.getElem?_set_ne hj] at e; exact e
      exact ih.dis j l s t hjl (nk_ j s e1 o1) (nk_ l t e2 o2) o1 o2
theorem SR.wipe {Zh : Hp} {ρ : Env} {S : Sto} {σ : St} (h : SR g Zh F mu ρ S σ H) : ∀ ks : List Nat, SR g Zh F mu (killL ρ ks) S (wipe σ ks) H := by
  intro ks
  have k := h.kill ks
  have none_ : ∀ {ks : List Nat} {j : Nat}, j ∈ ks → ∀ s, (killL ρ ks)[j]? = some s → s = none := by
    intro ks
    induction ks with
    | nil => intro j h; cases h
    | cons k ks ih =>
      intro j hj s e
      unfold killL at e
      by_cases hk : k = j
      · subst hk
        rw [List.getElem?_set] at e
        simp only [if_true] at e
        split at e
        · cases e; rfl
        · cases e
      · rw [List.getElem?_set_ne hk] at e
        rcases List.mem_cons.mp hj with z | z
        · exact absurd z.symm hk
        · exact ih z s e
  refine ⟨k.gh, by rw [wipe_length]; exact k.len, fun j s o e1 e2 => ?_, fun j l s t hjl e1 e2 o1 o2 => ?_⟩
  · by_cases hj : j ∈ ks
    · rw [none_ hj s e1]; exact trivial
    · rw [wipe_out hj] at e2
      exact k.sl j s o e1 e2
  · have hj : j ∉ ks := fun z => by rw [none_ z s e1] at o1; cases o1
    have hl : l ∉ ks := fun z => by rw [none_ z t e2] at o2; cases o2
    rw [wipe_out hj, wipe_out hl]
    exact k.dis j l s t hjl e1 e2 o1 o2
end
end Z

set_option Elab.async false
set_option linter.all false
set_option autoImplicit false
set_option maxRecDepth 100000
/-! Z2: the operators and built-ins, by values. -/
namespace Z
open PySem L2

section
variable {g : Gd} {F F' H H' : Hp} {mu mu' : List Addr} {S : Sto}

/-- what is wanted behind a pure operation -/
def Pst (g : Gd) (F : Hp) (mu : List Addr) (S : Sto) (H : Hp) (r : Rv) (Q : VK) : Prop :=
  ∀ F' v H', Evo F mu H F' mu H' → Gh g F' mu S H' → RelR g F' mu H' r v → New H r v → Q v H'
theorem Pst.same {d : D} {v : V} {Q : VK} (p : Pst g F mu S H (.sh d) Q) (gh : Gh g F mu S H) (r : RelD g F mu d v) : Q v H := p _ _ _ .refl gh r trivial
/-- a new object beside the ground -/
theorem ev_new {p : Addr} {o : HO} (gh : Gh g F mu S H) (hp : H p = none) : Evo F mu H F mu (upd H p o) ∧ Gh g F mu S (upd H p o) := by
  have np : ∀ a, H a ≠ none → a ≠ p := fun a h z => h (z ▸ hp)
  refine ⟨⟨fun a u h _ _ => by rw [upd_ne (np a (by rw [h]; simp))]; exact h, fun a h => by rw [upd_ne (np a h)]; exact h, fun _ _ h => h, .refl, List.prefix_rfl, fun _ h => .inl h⟩, ⟨fun a u h => ?_, gh.nd, gh.len, fun i a m e1 e2 => ?_⟩⟩
  · rw [upd_ne (np a (by rw [gh.sub a u h]; simp))]; exact gh.sub a u h
  · obtain ⟨q1, q2⟩ := gh.at_ i a m e1 e2
    exact ⟨q1, q2.mono .refl List.prefix_rfl (upd_ne (np a q2.there))⟩
/-- .. frozen -/
theorem ev_newF {p : Addr} {o : HO} (gh : Gh g F mu S H) (hp : H p = none) : Evo F mu H (upd F p o) mu (upd H p o) ∧ Gh g (upd F p o) mu S (upd H p o) ∧ Sub F (upd F p o) := by
  have np : ∀ a, H a ≠ none → a ≠ p := fun a h z => h (z ▸ hp)
  have nf : ∀ a u, F a = some u → a ≠ p := fun a u h => np a (by rw [gh.sub a u h]; simp)
  have sub : Sub F (upd F p o) := fun a u h => by rw [upd_ne (nf a u h)]; exact h
  refine ⟨⟨fun a u h _ _ => by rw [upd_ne (np a (by rw [h]; simp))]; exact h, fun a h => by rw [upd_ne (np a h)]; exact h, fun a h hf => (upd_ne (np a h)).trans hf, sub.le, List.prefix_rfl, fun _ h => .inl h⟩, ⟨fun a u h => ?_, gh.nd, gh.len, fun i a m e1 e2 => ?_⟩, sub⟩
  · by_cases ha : a = p
    · subst ha; rw [upd_same] at h ⊢; exact h
    · rw [upd_ne ha] at h ⊢; exact gh.sub a u h
  · obtain ⟨q1, q2⟩ := gh.at_ i a m e1 e2
    have ha := np a q2.there
    exact ⟨by rw [upd_ne ha]; exact q1, q2.mono sub.le List.prefix_rfl (upd_ne ha)⟩
theorem fz_none {p : Addr} (gh : Gh g F mu S H) (hp : H p = none) : F p = none := by
  cases q : F p with
  | none => rfl
  | some u => rw [gh.sub p u q] at hp; cases hp
theorem mu_none {p : Addr} (gh : Gh g F mu S H) (hp : H p = none) : p ∉ mu := fun z => gh.there z hp
theorem Pst.tup {ds : List D} {xs : List V} {p : Addr} {Q : VK} (q : Pst g F mu S H (.sh (.tup ds)) Q) (gh : Gh g F mu S H) (r : RelDs g F mu ds xs) (hp : H p = none) : Q (.ref p) (upd H p (.tup xs)) := by
  obtain ⟨e, gh', sub⟩ := ev_newF (o := .tup xs) gh hp
  exact q _ _ _ e gh' (.tup (SqT.of upd_same) (r.mono sub.le List.prefix_rfl)) trivial
theorem Pst.nl {ds : List D} {xs : List V} {p : Addr} {Q : VK} (q : Pst g F mu S H (.nl ds) Q) (gh : Gh g F mu S H) (r : RelDs g F mu ds xs) (hp : H p = none) : Q (.ref p) (upd H p (.lst xs)) := by
  obtain ⟨e, gh'⟩ := ev_new (o := .lst xs) gh hp
  exact q _ _ _ e gh' ⟨p, xs, rfl, upd_same, fz_none gh hp, mu_none gh hp, r⟩ fun a z => by cases z; exact hp
theorem Pst.nd {kvs : List (D × D)} {es : List Ent} {p : Addr} {Q : VK} (q : Pst g F mu S H (.nd kvs) Q) (gh : Gh g F mu S H) (r : RelKs g F mu kvs es) (hp : H p = none) : Q (.ref p) (upd H p (dO g.P g.w p es)) := by
  obtain ⟨e, gh'⟩ := ev_new (o := dO g.P g.w p es) gh hp
  exact q _ _ _ e gh' ⟨p, es, rfl, upd_same, fz_none gh hp, mu_none gh hp, r⟩ fun a z => by cases z; exact hp

/-! ### views -/
theorem lsv_at {x : Rv} {v : V} {ds : List D} (gh : Gh g F mu S H) (e : lsv x S = some ds) (r : RelR g F mu H x v) : ∃ a xs, v = .ref a ∧ H a = some (.lst xs) ∧ RelDs g F mu ds xs := by
  cases x with
  | sh d =>
    cases d with
    | lst es =>
      cases e
      cases r with
      | lst h t => exact ⟨_, _, rfl, gh.sub _ _ h, t⟩
    | ref n =>
      simp only [lsv] at e
      split at e
      · rename_i ds' hs
        cases e
        cases r with
        | ref h =>
          obtain ⟨_, xs, h1, h2⟩ := gh.at_ n _ _ h hs
          exact ⟨_, xs, rfl, h1, h2⟩
      · cases e
    | non => cases e
    | bl _ => cases e
    | int _ => cases e
    | str _ => cases e
    | tup _ => cases e
    | dct _ => cases e
    | scr _ => cases e
    | fn _ => cases e
  | nl es =>
    cases e
    obtain ⟨a, xs, h1, h2, _, _, h5⟩ := r
    exact ⟨a, xs, h1, h2, h5⟩
  | nd _ => cases e
/-- a list or a tuple -/
theorem sqv_at {x : Rv} {v : V} {ds : List D} (gh : Gh g F mu S H) (e : sqv x S = some ds) (r : RelR g F mu H x v) : ∃ a xs, v = .ref a ∧ (H a = some (.lst xs) ∨ SqT g.K H a xs) ∧ RelDs g F mu ds xs := by
  have l : lsv x S = some ds → ∃ a xs, v = .ref a ∧ (H a = some (.lst xs) ∨ SqT g.K H a xs) ∧ RelDs g F mu ds xs := fun q => by
    obtain ⟨a, xs, h1, h2, h3⟩ := lsv_at gh q r
    exact ⟨a, xs, h1, .inl h2, h3⟩
  cases x with
  | sh d =>
    cases d with
    | tup es =>
      cases e
      cases r with
      | tup h t => exact ⟨_, _, rfl, .inr (sqT_sub gh.sub h), t⟩
    | lst es => exact l e
    | ref n => exact l e
    | non => cases e
    | bl _ => cases e
    | int _ => cases e
    | str _ => cases e
    | dct _ => cases e
    | scr _ => cases e
    | fn _ => cases e
  | nl es => exact l e
  | nd _ => cases e
theorem rd_sub {a : Addr} {o : HO} (s : Sub F H) (h : Rd F a o) : Rd H a o := by
  rcases h with h | ⟨ob, h⟩
  · exact .inl (s _ _ h)
  · exact .inr ⟨ob, s _ _ h⟩
theorem dcv_at {x : Rv} {v : V} {kvs : List (D × D)} (gh : Gh g F mu S H) (e : dcv x = some kvs) (r : RelR g F mu H x v) : ∃ a es, v = .ref a ∧ Rd H a (dO g.P g.w a es) ∧ RelKs g F mu kvs es := by
  cases x with
  | sh d =>
    cases d with
    | dct es =>
      cases e
      cases r with
      | dct h t => exact ⟨_, _, rfl, rd_sub gh.sub h, t⟩
    | tup es => cases e
    | lst es => cases e
    | ref n => cases e
    | non => cases e
    | bl _ => cases e
    | int _ => cases e
    | str _ => cases e
    | scr _ => cases e
    | fn _ => cases e
  | nl es => cases e
  | nd es =>
    cases e
    obtain ⟨a, es, h1, h2, _, _, h5⟩ := r
    exact ⟨a, es, h1, .inl h2, h5⟩

/-! ### int lists -/
theorem intsD_map : ∀ {ds : List D} {ns : List Int} {xs : List V}, intsD ds = some ns → RelDs g F mu ds xs → xs = ns.map V.int ∧ ds = ns.map D.int
  | [], _, _, e, .nil => by cases e; exact ⟨rfl, rfl⟩
  | d :: ds, ns, _, e, .cons (v := v) (vs := vs) r t => by
    cases d with
    | int i =>
      simp only [intsD] at e
      cases q : intsD ds with
      | none => rw [q] at e; cases e
      | some ms =>
        rw [q] at e
        cases e
        obtain ⟨h1, h2⟩ := intsD_map q t
        cases r
        exact ⟨by rw [h1]; rfl, by rw [h2]; rfl⟩
    | non => cases e
    | bl _ => cases e
    | str _ => cases e
    | tup _ => cases e
    | lst _ => cases e
    | dct _ => cases e
    | scr _ => cases e
    | ref _ => cases e
    | fn _ => cases e
theorem boolsD_map : ∀ {ds : List D} {ns : List Bool} {xs : List V}, boolsD ds = some ns → RelDs g F mu ds xs → xs = ns.map V.bl
  | [], _, _, e, .nil => by cases e; rfl
  | d :: ds, ns, _, e, .cons (v := v) (vs := vs) r t => by
    cases d with
    | bl i =>
      simp only [boolsD] at e
      cases q : boolsD ds with
      | none => rw [q] at e; cases e
      | some ms =>
        rw [q] at e
        cases e
        have h1 := boolsD_map q t
        cases r
        rw [h1]; rfl
    | non => cases e
    | int _ => cases e
    | str _ => cases e
    | tup _ => cases e
    | lst _ => cases e
    | dct _ => cases e
    | scr _ => cases e
    | ref _ => cases e
    | fn _ => cases e
theorem relDs_ints (ns : List Int) : RelDs g F mu (ns.map D.int) (ns.map V.int) := by
  induction ns with
  | nil => exact .nil
  | cons n ns ih => exact .cons (.int n) ih

/-! ### two values -/
def rP2 (g : Gd) (s : Rv → Rv → Sto → Option Rv) : R2 := fun x y H Q => ∃ F mu S rx ry r, Gh g F mu S H ∧ RelR g F mu H rx x ∧ RelR g F mu H ry y ∧ s rx ry S = some r ∧ Pst g F mu S H r Q
def rPn (g : Gd) (s : List Rv → Sto → Option Rv) : List V → Hp → VK → Prop := fun xs H Q => ∃ F mu S rs r, Gh g F mu S H ∧ Paired (RelR g F mu H) rs xs ∧ s rs S = some r ∧ Pst g F mu S H r Q
end

abbrev gd (X : Cx) (fa ca : Nat → Addr) : Gd := ⟨X.prog, X.w, X.K, fa, ca⟩
section
variable {X : Cx} {fa ca : Nat → Addr}

/-- two ints -/
theorem int2_at {g : Gd} {F H : Hp} {mu : List Addr} {f : Int → Int → Option Int} {x y r : Rv} {v u : V} (e : int2 f x y = some r) (rx : RelR g F mu H x v) (ry : RelR g F mu H y u) : ∃ i j k, v = .int i ∧ u = .int j ∧ f i j = some k ∧ r = .sh (.int k) := by
  cases x with
  | sh d =>
    cases d with
    | int i =>
      cases y with
      | sh d2 =>
        cases d2 with
        | int j =>
          cases rx; cases ry
          simp only [int2] at e
          cases q : f i j with
          | none => rw [q] at e; cases e
          | some k => rw [q] at e; cases e; exact ⟨i, j, k, rfl, rfl, q, rfl⟩
        | _ => cases e
      | _ => cases e
    | _ => cases e
  | _ => cases e
theorem op_int2 {op : Operator} {C : Int → Int → Prop} {gI : Int → Int → Int} {f : Int → Int → Option Int} (ho : OpR X (binaryOp op) (rI C fun i j => .int (gI i j))) (hf : ∀ i j k, f i j = some k → C i j ∧ k = gI i j) :
    OpR X (binaryOp op) (rP2 (gd X fa ca) fun x y _ => int2 f x y) := by
  intro pins s σ H x y v u Q I rx ry ⟨F, mu, S, a, b, r, gh, ra, rb, e, q⟩
  obtain ⟨i, j, k, rfl, rfl, hk, rfl⟩ := int2_at e ra rb
  obtain ⟨hc, rfl⟩ := hf i j k hk
  exact ho pins s σ H _ _ v u Q I rx ry ⟨i, j, rfl, rfl, hc, q.same gh (.int _)⟩
theorem oi_sub : OpR X (binaryOp .Sub) (rP2 (gd X fa ca) (opS .sub)) := op_int2 (C := fun _ _ => True) (gI := fun i j => i - j) (fun pins s σ H x y v u Q I rx ry ⟨i, j, h1, h2, _, q⟩ => op_sub pins s σ H x y v u Q I rx ry ⟨i, j, h1, h2, q⟩) fun i j k h => ⟨trivial, by cases h; rfl⟩
theorem oi_fdiv : OpR X (binaryOp .FloorDiv) (rP2 (gd X fa ca) (opS .fdiv)) := op_int2 op_fdiv fun i j k h => by
  unfold fdivI at h
  split at h
  · rename_i hc; cases h; exact ⟨hc, rfl⟩
  · cases h
theorem oi_mod : OpR X (binaryOp .Mod) (rP2 (gd X fa ca) (opS .mod)) := op_int2 op_mod fun i j k h => by
  unfold modI at h
  split at h
  · rename_i hc; cases h; exact ⟨hc, rfl⟩
  · cases h
theorem oi_pow : OpR X (binaryOp .Pow) (rP2 (gd X fa ca) (opS .pow)) := op_int2 op_pow fun i j k h => by
  unfold powI at h
  split at h
  · rename_i hc; cases h
    refine ⟨⟨hc.1, by omega, Nat.lt_trans hc.2.2 (by decide)⟩, rfl⟩
  · cases h
theorem oi_add : OpR X (binaryOp .Add) (rP2 (gd X fa ca) (opS .add)) := by
  intro pins s σ H x y v u Q I rx ry ⟨F, mu, S, a, b, r, gh, ra, rb, e, q⟩
  have lists : ((lsv a S).bind fun a => (lsv b S).bind fun b => if a.length + b.length ≤ sizeLine then some (Rv.nl (a ++ b)) else none) = some r → wpAny (model X.prog X.w) X.A (binaryOp .Add v u) (EP X pins σ Q) X.xe s := by
    intro e
    obtain ⟨as, ea, e⟩ := Option.bind_eq_some_iff.mp e
    obtain ⟨bs, eb, e⟩ := Option.bind_eq_some_iff.mp e
    split at e
    · rename_i hz
      cases e
      obtain ⟨p, xs, rfl, h1, h2⟩ := lsv_at gh ea ra
      obtain ⟨p', ys, rfl, h3, h4⟩ := lsv_at gh eb rb
      exact op_cat pins s σ H _ _ v u Q I rx ry ⟨p, p', xs, ys, rfl, rfl, h1, h3, by rw [← h2.length, ← h4.length]; exact hz, fun n hn => q.nl gh (h2.append h4) hn⟩
    · cases e
  cases a with
  | nd _ => exact lists e
  | nl _ => exact lists e
  | sh d =>
    cases d with
    | int i =>
      cases b with
      | sh d2 =>
        cases d2 with
        | int j =>
          cases e; cases ra; cases rb
          exact op_add pins s σ H _ _ v u Q I rx ry ⟨i, j, rfl, rfl, q.same gh (.int _)⟩
        | _ => cases e
      | _ => cases e
    | str i =>
      cases b with
      | sh d2 =>
        cases d2 with
        | str j =>
          simp only [opS, addS] at e
          split at e
          · rename_i hz
            cases e; cases ra; cases rb
            exact op_add_str pins s σ H _ _ v u Q I rx ry ⟨i, j, rfl, rfl, hz, q.same gh (.str _)⟩
          · cases e
        | _ => cases e
      | _ => cases e
    | tup i =>
      cases b with
      | sh d2 =>
        cases d2 with
        | tup j =>
          simp only [opS, addS] at e
          split at e
          · rename_i hz
            cases e
            cases ra with
            | tup h1 r1 =>
              cases rb with
              | tup h2 r2 =>
                refine op_catA pins s σ H _ _ v u Q I rx ry ⟨_, _, _, _, rfl, rfl, sqT_sub gh.sub h1, sqT_sub gh.sub h2, by rw [← r1.length, ← r2.length]; exact hz, fun z => ?_, fun _ z => ?_, fun _ _ n hn => q.tup gh (r1.append r2) hn⟩
                · subst z
                  cases r1
                  exact q.same gh (.tup h2 r2)
                · subst z
                  cases r2
                  rw [List.append_nil] at q
                  exact q.same gh (.tup h1 r1)
          · cases e
        | _ => cases e
      | _ => cases e
    | non => exact lists e
    | bl _ => exact lists e
    | lst _ => exact lists e
    | dct _ => exact lists e
    | scr _ => exact lists e
    | ref _ => exact lists e
    | fn _ => exact lists e
theorem relDs_rep {g : Gd} {F : Hp} {mu : List Addr} {ds : List D} {xs : List V} (r : RelDs g F mu ds xs) : ∀ n : Nat, RelDs g F mu (List.replicate n ds).flatten (List.replicate n xs).flatten
  | 0 => .nil
  | n + 1 => by
    rw [List.replicate_succ, List.replicate_succ, List.flatten_cons, List.flatten_cons]
    exact r.append (relDs_rep r n)
theorem oi_mul : OpR X (binaryOp .Mult) (rP2 (gd X fa ca) (opS .mul)) := by
  intro pins s σ H x y v u Q I rx ry ⟨F, mu, S, a, b, r, gh, ra, rb, e, q⟩
  cases b with
  | nl _ => cases e
  | nd _ => cases e
  | sh d =>
    cases d with
    | int k =>
      cases rb
      have lists : ((lsv a S).bind fun a => if -(2 ^ 63) ≤ k ∧ k < 2 ^ 63 ∧ a.length * k.toNat ≤ sizeLine then some (Rv.nl (repD k a)) else none) = some r → wpAny (model X.prog X.w) X.A (binaryOp .Mult v u) (EP X pins σ Q) X.xe s := by
        intro e
        obtain ⟨as, ea, e⟩ := Option.bind_eq_some_iff.mp e
        split at e
        · rename_i hz
          cases e
          obtain ⟨p, xs, rfl, h1, h2⟩ := lsv_at gh ea ra
          refine op_rep pins s σ H _ _ v u Q I rx ry ⟨p, k, xs, rfl, rfl, h1, hz.1, hz.2.1, by rw [← h2.length]; exact hz.2.2, ?_⟩
          intro n hn
          exact q.nl gh (relDs_rep h2 k.toNat) hn
        · cases e
      cases a with
      | nd _ => exact lists e
      | nl _ => exact lists e
      | sh d =>
        cases d with
        | int i =>
          simp only [opS, mulS, mulI] at e
          split at e
          · rename_i hc
            cases e; cases ra
            exact op_mul pins s σ H _ _ v u Q I rx ry ⟨i, k, rfl, rfl, hc, q.same gh (.int _)⟩
          · cases e
        | tup i =>
          simp only [opS, mulS] at e
          split at e
          · rename_i hc
            cases e
            cases ra with
            | tup h1 r1 =>
              have hl := r1.length
              refine op_repT pins s σ H _ _ v u Q I rx ry ⟨_, k, _, rfl, rfl, sqT_sub gh.sub h1, ?_, hc.1, hc.2.1, by rw [← hl]; exact hc.2.2.1, fun n hn => q.tup gh (relDs_rep r1 k.toNat) hn⟩
              rintro rfl
              cases r1
              exact absurd hc.2.2.2 (by simp)
          · cases e
        | non => exact lists e
        | bl _ => exact lists e
        | str _ => exact lists e
        | lst _ => exact lists e
        | dct _ => exact lists e
        | scr _ => exact lists e
        | ref _ => exact lists e
        | fn _ => exact lists e
    | _ => cases e
end
end Z

set_option Elab.async false
set_option linter.all false
set_option autoImplicit false
set_option maxRecDepth 100000
/-! Z3: dicts, comparisons, items. -/
namespace Z
open PySem L2

/-! ### keys -/
section
variable {X : Cx} {fa ca : Nat → Addr} {pins : List (Addr × Obj)} {σ : L2.St} {H F : Hp} {mu : List Addr} {s : Shared}
mutual
theorem key_is (I : L2.Inv X pins σ H s) (sub : Sub F H) : ∀ (d : D) (v : V) (u : Value) (n : Nat), RelD (gd X fa ca) F mu d v → hk d n = true → RelV v u → NestedIs s.heap (nk d) u
  | .non, _, _, _, .non, _, r => by cases r; exact .none
  | .bl b, _, _, _, .bl _, _, r => by cases r; exact .bool rfl
  | .int i, _, _, _, .int _, _, r => by obtain ⟨t, rfl⟩ := r; exact .int _ _
  | .str x, _, _, _, .str _, _, r => by obtain ⟨t, rfl⟩ := r; exact .text _ _
  | .tup ds, _, _, n, .tup h t, e, r => by
    cases r
    obtain ⟨its, rv, ⟨o, ho, hc, m, hd⟩, _⟩ := I.tuple (sqT_sub sub h)
    simp only [hk, Bool.and_eq_true] at e
    rw [nk]
    exact .tup ho hc hd (by simpa using keys_are I sub ds _ _ (n - 1) t e.2 rv)
  | .lst _, _, _, _, _, e, _ => by simp [hk] at e
  | .dct _, _, _, _, _, e, _ => by simp [hk] at e
  | .scr _, _, _, _, _, e, _ => by simp [hk] at e
  | .ref _, _, _, _, _, e, _ => by simp [hk] at e
  | .fn _, _, _, _, _, e, _ => by simp [hk] at e
theorem keys_are (I : L2.Inv X pins σ H s) (sub : Sub F H) : ∀ (ds : List D) (vs : List V) (us : List Value) (n : Nat), RelDs (gd X fa ca) F mu ds vs → hks ds n = true → Vals vs us → NestedAll s.heap (nks ds) us
  | [], _, _, _, .nil, _, .nil => by rw [nks]; exact .nil
  | d :: ds, _, _, n, .cons a b, e, .cons r t => by
    simp only [hks, Bool.and_eq_true] at e
    rw [nks]
    exact .cons (key_is I sub d _ _ n a e.1 r) (keys_are I sub ds _ _ n b e.2 t)
end
mutual
theorem nk_depth : ∀ (d : D) (n : Nat), hk d n = true → (nk d).depth ≤ n
  | .non, _, _ => by rw [nk, NestedKey.depth]; exact Nat.zero_le _
  | .bl _, _, _ => by rw [nk, NestedKey.depth]; exact Nat.zero_le _
  | .int _, _, _ => by rw [nk, NestedKey.depth]; exact Nat.zero_le _
  | .str _, _, _ => by rw [nk, NestedKey.depth]; exact Nat.zero_le _
  | .tup ds, n, e => by
    simp only [hk, Bool.and_eq_true, decide_eq_true_eq] at e
    rw [nk, NestedKey.depth]
    have := nks_depth ds (n - 1) e.2
    omega
  | .lst _, _, e => by simp [hk] at e
  | .dct _, _, e => by simp [hk] at e
  | .scr _, _, e => by simp [hk] at e
  | .ref _, _, e => by simp [hk] at e
  | .fn _, _, e => by simp [hk] at e
theorem nks_depth : ∀ (ds : List D) (n : Nat), hks ds n = true → NestedKey.depthAll (nks ds) ≤ n
  | [], _, _ => by rw [nks, NestedKey.depthAll]; exact Nat.zero_le _
  | d :: ds, n, e => by
    simp only [hks, Bool.and_eq_true] at e
    rw [nks, NestedKey.depthAll]
    have h1 := nk_depth d n e.1
    have h2 := nks_depth ds n e.2
    omega
end
theorem key_at (I : L2.Inv X pins σ H s) (sub : Sub F H) {d : D} {a : Addr} (r : RelD (gd X fa ca) F mu d (.ref a)) (k : isKey d = true) : (nestedKind X.prog X.w).is s.heap (nk d) a := by
  simp only [isKey, Bool.and_eq_true] at k
  exact ⟨key_is I sub d _ _ 8 r k.2 rfl, nk_depth d 8 k.2⟩
end

/-! ### dicts -/
section
variable {g : Gd} {F F' : Hp} {mu mu' : List Addr}
/-- what look-ups give, on the three levels -/
theorem ent_get : ∀ {kvs : List (D × D)} {es : List Ent} {xs : List (NestedKey × Addr × Value)}, RelKs g F mu kvs es → Paired EntR es xs → ∀ k : D,
    match dget kvs k with
    | none => atKey xs (nk k) = none
    | some d => ∃ p v, atKey xs (nk k) = some p ∧ RelV v p.2 ∧ RelD g F mu d v
  | [], _, _, .nil, .nil, k => rfl
  | (k', d) :: kvs, _, _, .cons (v := v) (a := a) e hk rk rd t, .cons (b := q) h p, k => by
    obtain ⟨h1, h2, h3⟩ := h
    have ih := ent_get t p k
    by_cases hq : nk k' = nk k
    · have e1 : dget ((k', d) :: kvs) k = some d := by simp [dget, List.find?_cons, hq]
      rw [e1]
      refine ⟨q.2, v, ?_, h3, rd⟩
      have : q.1 = nk k := by rw [← h1, ← e]; exact hq
      simp [atKey, List.find?_cons, this]
    · have e1 : dget ((k', d) :: kvs) k = dget kvs k := by simp [dget, List.find?_cons, hq]
      have e2 : ∀ ys, atKey (q :: ys) (nk k) = atKey ys (nk k) := fun ys => by
        have : ¬ q.1 = nk k := by rw [← h1, ← e]; exact hq
        simp [atKey, List.find?_cons, this]
      rw [e1, e2]
      exact ih
def putE (es : List Ent) (k : NestedKey) (a : Addr) (v : V) : List Ent :=
  if (es.any fun p => decide (p.1 = k)) = true then es.map (fun p => if p.1 = k then (p.1, p.2.1, v) else p) else es ++ [(k, a, v)]
theorem relKs_any : ∀ {kvs : List (D × D)} {es : List Ent}, RelKs g F mu kvs es → ∀ k : NestedKey, (kvs.any fun p => decide (nk p.1 = k)) = es.any fun p => decide (p.1 = k)
  | _, _, .nil, _ => rfl
  | _, _, .cons e _ _ _ t, k => by rw [List.any_cons, List.any_cons, relKs_any t k, e]
theorem relKs_append : ∀ {kvs kws : List (D × D)} {es fs : List Ent}, RelKs g F mu kvs es → RelKs g F mu kws fs → RelKs g F mu (kvs ++ kws) (es ++ fs)
  | _, _, _, _, .nil, s => s
  | _, _, _, _, .cons e h a b t, s => .cons e h a b (relKs_append t s)
theorem relKs_repl {d : D} {v : V} {k : NestedKey} (rd : RelD g F mu d v) : ∀ {kvs : List (D × D)} {es : List Ent}, RelKs g F mu kvs es →
    RelKs g F mu (kvs.map fun p => if nk p.1 = k then (p.1, d) else p) (es.map fun p => if p.1 = k then (p.1, p.2.1, v) else p)
  | _, _, .nil => .nil
  | _, _, .cons (k := k') (d := d') (n := n) (a := a) (v := v') e h ra rb t => by
    rw [List.map_cons, List.map_cons]
    by_cases hq : nk k' = k
    · rw [if_pos hq, if_pos (show n = k by rw [← e]; exact hq)]
      exact .cons e h ra rd (relKs_repl rd t)
    · rw [if_neg hq, if_neg (show ¬ n = k by rw [← e]; exact hq)]
      exact .cons e h ra rb (relKs_repl rd t)
theorem relKs_put {kvs : List (D × D)} {es : List Ent} {k d : D} {a : Addr} {v : V} (r : RelKs g F mu kvs es) (hk : isKey k = true) (ra : RelD g F mu k (.ref a)) (rd : RelD g F mu d v) : RelKs g F mu (dput kvs k d) (putE es (nk k) a v) := by
  unfold dput putE
  rw [relKs_any r]
  split
  · exact relKs_repl rd r
  · exact relKs_append r (.cons rfl hk ra rd .nil)
theorem entR_any : ∀ {es : List Ent} {xs : List (NestedKey × Addr × Value)}, Paired EntR es xs → ∀ k : NestedKey, (es.any fun p => decide (p.1 = k)) = (atKey xs k).isSome
  | _, _, .nil, _ => rfl
  | _, _, .cons (b := q) h t, k => by
    rw [List.any_cons, entR_any t k, h.1]
    by_cases hq : q.1 = k <;> simp [atKey, List.find?_cons, hq]
theorem paired_append {α β : Type} {R : α → β → Prop} : ∀ {a c : List α} {b d : List β}, Paired R a b → Paired R c d → Paired R (a ++ c) (b ++ d)
  | _, _, _, _, .nil, s => s
  | _, _, _, _, .cons h t, s => .cons h (paired_append t s)
theorem entR_put {es : List Ent} {xs : List (NestedKey × Addr × Value)} {k : NestedKey} {a : Addr} {v : V} {u : Value} (p : Paired EntR es xs) (r : RelV v u) : Paired EntR (putE es k a v) (storedH xs k a u) := by
  unfold putE storedH
  rw [entR_any p]
  split
  · have rep : ∀ {es : List Ent} {xs : List (NestedKey × Addr × Value)}, Paired EntR es xs → Paired EntR (es.map fun p => if p.1 = k then (p.1, p.2.1, v) else p) (xs.map (putAt k u)) := by
      intro es xs p
      induction p with
      | nil => exact .nil
      | @cons x y l m h t ih =>
        rw [List.map_cons, List.map_cons]
        refine .cons ?_ ih
        unfold putAt
        by_cases hq : x.1 = k
        · rw [if_pos hq, if_pos (h.1.symm.trans hq)]
          exact ⟨h.1, h.2.1, r⟩
        · rw [if_neg hq, if_neg (fun z => hq (h.1.trans z))]
          exact h
    exact rep p
  · exact paired_append p (.cons ⟨rfl, rfl, r⟩ .nil)
theorem putE_length (es : List Ent) (k : NestedKey) (a : Addr) (v : V) : (putE es k a v).length ≤ es.length + 1 := by
  unfold putE
  split
  · rw [List.length_map]; omega
  · rw [List.length_append]; simp
end
section
variable {X : Cx} {fa ca : Nat → Addr} {pins : List (Addr × Obj)} {σ : L2.St} {H F : Hp} {mu : List Addr} {s : Shared} {A : Around} {E : Value → Shared → Prop} {a : Addr} {es : List Ent} {kvs : List (D × D)}
/-- the dict in the heap -/
theorem dct_at (I : L2.Inv X pins σ H s) (sub : Sub F H) (e : Rd H a (dO X.prog X.w a es)) (r : RelKs (gd X fa ca) F mu kvs es) :
    ∃ xs, es.length ≤ sizeLine ∧ (a == sysModules) = false ∧ Paired EntR es xs ∧ s.heap.DictOfH (nestedKind X.prog X.w) a xs := by
  obtain ⟨⟨hz, hm, xs, p, o, ents, ep, h1, h2, h3, h4, h5⟩, _, _⟩ := e.ok I.hok
  refine ⟨xs, hz, hm, p, o, ents, ep, h1, h2, h3, h4, ?_, h5⟩
  have all : ∀ {kvs : List (D × D)} {es : List Ent} {xs : List (NestedKey × Addr × Value)}, RelKs (gd X fa ca) F mu kvs es → Paired EntR es xs → ∀ x ∈ xs, (nestedKind X.prog X.w).is s.heap x.1 x.2.1 := by
    intro kvs es xs r p
    induction p generalizing kvs with
    | nil => intro x hx; cases hx
    | cons h t ih =>
      cases r with
      | cons e hk ra rb rt =>
        intro x hx
        rcases List.mem_cons.mp hx with rfl | hx
        · obtain ⟨q1, q2, _⟩ := h
          have := key_at I sub ra hk
          rw [e] at this
          rw [← q1, ← q2]
          exact this
        · exact ih rt x hx
  exact all r p
theorem room8 {n : Nat} (hr : Room n A) : (nestedKind X.prog X.w).room A.in1 := by
  show A.units + 1 + 8 < cLine
  have := hr.units
  omega
/-- d[k] -/
theorem dget_ok {n : Nat} (hr : Room n A) (I : L2.Inv X pins σ H s) (sub : Sub F H) (e : Rd H a (dO X.prog X.w a es)) (r : RelKs (gd X fa ca) F mu kvs es) {k d : D} {b : Addr} (hk : isKey k = true) (rk : RelD (gd X fa ca) F mu k (.ref b))
    (hd : dget kvs k = some d) {Q : Value → Shared → Prop} (h : ∀ v u s', L2.Inv X pins σ H s' → RelD (gd X fa ca) F mu d v → RelV v u → Q u s') : wpAny (model X.prog X.w) A (getItem (.ref a) (.ref b)) Q E s := by
  obtain ⟨xs, _, _, p, dd⟩ := dct_at I sub e r
  have q := ent_get r p k
  rw [hd] at q
  obtain ⟨z, v, h1, h2, h3⟩ := q
  exact wpAny_getItem_heap (room8 hr) (key_at I sub rk hk) dd h1 (h v _ _ (I.tok _) h3 h2)
theorem din_ok {n : Nat} (hr : Room n A) (I : L2.Inv X pins σ H s) (sub : Sub F H) (e : Rd H a (dO X.prog X.w a es)) (r : RelKs (gd X fa ca) F mu kvs es) {k : D} {b : Addr} (hk : isKey k = true) (rk : RelD (gd X fa ca) F mu k (.ref b))
    {Q : Value → Shared → Prop} (h : ∀ s', L2.Inv X pins σ H s' → Q (.bool (dget kvs k).isSome) s') : wpAny (model X.prog X.w) A (compareOp .In (.ref b) (.ref a)) Q E s := by
  obtain ⟨xs, _, hm, p, dd⟩ := dct_at I sub e r
  have q := ent_get r p k
  refine wpAny_in_heap (room8 hr) (key_at I sub rk hk) hm dd ?_
  have e2 : (atKey xs (nk k)).isSome = (dget kvs k).isSome := by
    cases z : dget kvs k with
    | none => rw [z] at q; rw [q]; rfl
    | some d => rw [z] at q; obtain ⟨_, _, h1, _⟩ := q; rw [h1]; rfl
  rw [e2]
  exact h _ (I.tok _)
theorem dnin_ok {n : Nat} (hr : Room n A) (I : L2.Inv X pins σ H s) (sub : Sub F H) (e : Rd H a (dO X.prog X.w a es)) (r : RelKs (gd X fa ca) F mu kvs es) {k : D} {b : Addr} (hk : isKey k = true) (rk : RelD (gd X fa ca) F mu k (.ref b))
    {Q : Value → Shared → Prop} (h : ∀ s', L2.Inv X pins σ H s' → Q (.bool (!(dget kvs k).isSome)) s') : wpAny (model X.prog X.w) A (compareOp .NotIn (.ref b) (.ref a)) Q E s := by
  obtain ⟨xs, _, hm, p, dd⟩ := dct_at I sub e r
  have q := ent_get r p k
  refine PyProof.Rows.wpAny_notIn_heap (room8 hr) (key_at I sub rk hk) hm dd ?_
  have e2 : (atKey xs (nk k)).isSome = (dget kvs k).isSome := by
    cases z : dget kvs k with
    | none => rw [z] at q; rw [q]; rfl
    | some d => rw [z] at q; obtain ⟨_, _, h1, _⟩ := q; rw [h1]; rfl
  rw [e2]
  exact h _ (I.tok _)
/-- d.get(k, x) -/
theorem dgetOr_ok {n : Nat} (hr : Room n A) (I : L2.Inv X pins σ H s) (sub : Sub F H) (e : Rd H a (dO X.prog X.w a es)) (r : RelKs (gd X fa ca) F mu kvs es) {k d : D} {b : Addr} (hk : isKey k = true) (rk : RelD (gd X fa ca) F mu k (.ref b))
    {v : V} {u : Value} (rd : RelD (gd X fa ca) F mu d v) (rv : RelV v u) {Q : Value → Shared → Prop} (h : ∀ v u s', L2.Inv X pins σ H s' → RelD (gd X fa ca) F mu ((dget kvs k).getD d) v → RelV v u → Q u s') :
    wpAny (model X.prog X.w) A (call (.builtin "dict.get") [.ref a, .ref b, u]) Q E s := by
  obtain ⟨xs, _, hm, p, dd⟩ := dct_at I sub e r
  have q := ent_get r p k
  refine getOr_keyed (kvs := pairsH xs) (room8 hr) (key_at I sub rk hk) hm ⟨xs, dd, rfl⟩ ?_
  rw [valueAt_pairsH]
  cases z : dget kvs k with
  | none => rw [z] at q; rw [q]; rw [z] at h; exact h v u _ (I.tok _) rd rv
  | some d' => rw [z] at q; obtain ⟨w, v', h1, h2, h3⟩ := q; rw [h1]; rw [z] at h; exact h v' _ _ (I.tok _) h3 h2
/-- d[k] = v -/
theorem dput_ok {n : Nat} (hr : Room n A) (I : L2.Inv X pins σ H s) (sub : Sub F H) (e : H a = some (dO X.prog X.w a es)) (r : RelKs (gd X fa ca) F mu kvs es) {k d : D} {b : Addr} (hk : isKey k = true) (rk : RelD (gd X fa ca) F mu k (.ref b))
    {v : V} {u : Value} (rv : RelV v u) (hz : kvs.length < sizeLine) {Q : Unit → Shared → Prop} (h : ∀ s', L2.Inv X pins σ (upd H a (dO X.prog X.w a (putE es (nk k) b v))) s' → Q () s') :
    wpAny (model X.prog X.w) A (setItem (.ref a) (.ref b) u) Q E s := by
  obtain ⟨xs, hz2, hm, p, dd⟩ := dct_at I sub (.inl e) r
  refine wpAny_setItem_heap (hsz := by rw [← Paired.length p]; exact hz2) (room8 hr) (key_at I sub rk hk) dd fun h' dd' hs => h _ ?_
  obtain ⟨q, ents, ep, hq, h2, h3, h4, _, h5⟩ := dd'
  have hl : (putE es (nk k) b v).length ≤ sizeLine := by
    have h1 := putE_length es (nk k) b v
    have h6 := r.length
    omega
  refine d_write I (by rw [e]; exact True.intro) hs ⟨q, hq⟩ ⟨⟨hl, hm, _, entR_put p rv, q, ents, ep, hq, h2, h3, h4, h5⟩, ⟨q, hq⟩, fun g1 g2 hx hy => ?_⟩
  obtain ⟨k1, k2, xs', k3, o', ents', ep', k4, k5⟩ := hx
  exact ⟨k1, k2, xs', k3, o', ents', ep', hy _ k4, k5⟩
/-- {} -/
theorem dnew_ok {pos : Pos} (I : L2.Inv X pins σ H s) {Q : Value → Shared → Prop} (h : ∀ p s', H p = none → L2.Inv X pins σ (upd H p (dO X.prog X.w p [])) s' → Q (.ref p) s') : wpAny (model X.prog X.w) X.A (eval (.Dict [] [] pos) X.env) Q X.xe s := by
  refine wpAny_Dict_empty (h _ _ (I.hok.fresh (Nat.le_refl _)) (I.laid (a := s.heap.objs.size) (o := dO X.prog X.w s.heap.objs.size []) (t' := s.toks) (fun _ _ q => Heap.get?_push_of_some _ q) (Nat.le_refl _) ?_))
  have big := I.big
  refine ⟨⟨Nat.zero_le _, ?_, [], .nil, _, #[], 0, Heap.get?_push_size _ rfl, ⟨rfl, rfl, rfl⟩, rfl, rfl, List.nodup_nil⟩, ⟨_, Heap.get?_push_size _ rfl⟩, fun g1 g2 hx hy => ?_⟩
  · exact beq_eq_false_iff_ne.mpr (fun z => by rw [z] at big; exact absurd big (Nat.lt_irrefl _))
  · obtain ⟨k1, k2, xs', k3, o', ents', ep', k4, k5⟩ := hx
    exact ⟨k1, k2, xs', k3, o', ents', ep', hy _ k4, k5⟩
end
end Z

set_option Elab.async false
set_option linter.all false
set_option autoImplicit false
set_option maxRecDepth 100000
/-! Z4: comparisons, truth, items, slices. -/
namespace Z
open PySem L2

/-! ### == -/
mutual
def toP : D → PyData
  | .non => .none
  | .bl b => .bool b
  | .int i => .int i
  | .str x => .str x
  | .tup ds => .tuple (toPs ds)
  | .lst ds => .list (toPs ds)
  | .dct _ => .dict []
  | .scr _ => .dict []
  | .ref _ => .dict []
  | .fn _ => .dict []
def toPs : List D → List PyData
  | [] => []
  | d :: ds => toP d :: toPs ds
end
mutual
theorem toP_lay : ∀ (d : D) (n : Nat), okd d n = true → (toP d).canLay0 = true ∧ (toP d).depth ≤ n
  | .non, _, _ => ⟨by rw [toP, PyData.canLay0], by rw [toP, PyData.depth]; exact Nat.zero_le _⟩
  | .bl _, _, _ => ⟨by rw [toP, PyData.canLay0], by rw [toP, PyData.depth]; exact Nat.zero_le _⟩
  | .int _, _, _ => ⟨by rw [toP, PyData.canLay0], by rw [toP, PyData.depth]; exact Nat.zero_le _⟩
  | .str x, _, e => ⟨by rw [toP, PyData.canLay0]; simpa [okd, PyData.strOk] using e, by rw [toP, PyData.depth]; exact Nat.zero_le _⟩
  | .tup ds, n, e => by
    simp only [okd, Bool.and_eq_true, decide_eq_true_eq] at e
    obtain ⟨h1, h2⟩ := toPs_lay ds (n - 1) e.2
    rw [toP, PyData.canLay0, PyData.depth]
    exact ⟨h1, by omega⟩
  | .lst ds, n, e => by
    simp only [okd, Bool.and_eq_true, decide_eq_true_eq] at e
    obtain ⟨h1, h2⟩ := toPs_lay ds (n - 1) e.2
    rw [toP, PyData.canLay0, PyData.depth]
    exact ⟨h1, by omega⟩
  | .dct _, _, e => by simp [okd] at e
  | .scr _, _, e => by simp [okd] at e
  | .ref _, _, e => by simp [okd] at e
  | .fn _, _, e => by simp [okd] at e
theorem toPs_lay : ∀ (ds : List D) (n : Nat), okds ds n = true → PyData.canLayAll0 (toPs ds) = true ∧ PyData.depthAll (toPs ds) ≤ n
  | [], _, _ => ⟨by rw [toPs, PyData.canLayAll0], by rw [toPs, PyData.depthAll]; exact Nat.zero_le _⟩
  | d :: ds, n, e => by
    simp only [okds, Bool.and_eq_true] at e
    obtain ⟨h1, h2⟩ := toP_lay d n e.1
    obtain ⟨h3, h4⟩ := toPs_lay ds n e.2
    rw [toPs, PyData.canLayAll0, PyData.depthAll, h1, h3]
    exact ⟨rfl, by omega⟩
end
theorem shaped_of {d : D} {n : Nat} (hn : n ≤ 60) (e : okd d n = true) : SeqAt.shaped (toP d) = true := by
  obtain ⟨h1, h2⟩ := toP_lay d n e
  unfold SeqAt.shaped
  rw [h1]
  simp only [Bool.true_and, decide_eq_true_eq]
  omega
mutual
theorem deq_eqv : ∀ (a b : D) (n m : Nat), okd a n = true → okd b m = true → deq a b = PyData.eqv (toP a) (toP b)
  | .non, b, _, _, _, e => by cases b <;> first | (simp [okd] at e; done) | simp [deq, toP, PyData.eqv]
  | .bl _, b, _, _, _, e => by cases b <;> first | (simp [okd] at e; done) | simp [deq, toP, PyData.eqv]
  | .int _, b, _, _, _, e => by cases b <;> first | (simp [okd] at e; done) | simp [deq, toP, PyData.eqv]
  | .str _, b, _, _, _, e => by cases b <;> first | (simp [okd] at e; done) | simp [deq, toP, PyData.eqv]
  | .tup ds, b, n, m, e1, e => by
    cases b with
    | tup es =>
      simp only [okd, Bool.and_eq_true, decide_eq_true_eq] at e e1
      rw [deq, toP, toP, PyData.eqv]
      exact deqs_eqv ds es (n - 1) (m - 1) e1.2 e.2
    | _ => first | (simp [okd] at e; done) | simp [deq, toP, PyData.eqv]
  | .lst ds, b, n, m, e1, e => by
    cases b with
    | lst es =>
      simp only [okd, Bool.and_eq_true, decide_eq_true_eq] at e e1
      rw [deq, toP, toP, PyData.eqv]
      exact deqs_eqv ds es (n - 1) (m - 1) e1.2 e.2
    | _ => first | (simp [okd] at e; done) | simp [deq, toP, PyData.eqv]
  | .dct _, _, _, _, e, _ => by simp [okd] at e
  | .scr _, _, _, _, e, _ => by simp [okd] at e
  | .ref _, _, _, _, e, _ => by simp [okd] at e
  | .fn _, _, _, _, e, _ => by simp [okd] at e
theorem deqs_eqv : ∀ (as bs : List D) (n m : Nat), okds as n = true → okds bs m = true → deqs as bs = PyData.eqvAll (toPs as) (toPs bs)
  | [], [], _, _, _, _ => by rw [deqs, toPs, PyData.eqvAll]
  | [], _ :: _, _, _, _, _ => by rw [deqs, toPs, toPs, PyData.eqvAll] <;> simp
  | _ :: _, [], _, _, _, _ => by rw [deqs, toPs, toPs, PyData.eqvAll] <;> simp
  | a :: as, b :: bs, n, m, e1, e2 => by
    simp only [okds, Bool.and_eq_true] at e1 e2
    rw [deqs, toPs, toPs, PyData.eqvAll, deq_eqv a b n m e1.1 e2.1, deqs_eqv as bs n m e1.2 e2.2]
end
section
variable {g : Gd} {F H : Hp} {mu : List Addr} {S : Sto}
mutual
theorem RelD.dp (sub : Sub F H) : ∀ {d : D} {v : V} {n : Nat}, RelD g F mu d v → okd d n = true → Dp g.K H v (toP d)
  | _, _, _, .non, _ => by rw [toP]; exact .non
  | _, _, _, .bl b, _ => by rw [toP]; exact .bl b
  | _, _, _, .int i, _ => by rw [toP]; exact .int i
  | _, _, _, .str x, _ => by rw [toP]; exact .str x
  | _, _, n, .tup h r, e => by
    simp only [okd, Bool.and_eq_true] at e
    rw [toP]; exact .tup (sqT_sub sub h) (RelDs.dp sub r e.2)
  | _, _, n, .lst h r, e => by
    simp only [okd, Bool.and_eq_true] at e
    rw [toP]; exact .lst (SqL.of (sub _ _ h)) (RelDs.dp sub r e.2)
  | _, _, _, .dct _ _, e => by simp [okd] at e
  | _, _, _, .scr _, e => by simp [okd] at e
  | _, _, _, .ref _, e => by simp [okd] at e
  | _, _, _, .fn _, e => by simp [okd] at e
theorem RelDs.dp (sub : Sub F H) : ∀ {ds : List D} {vs : List V} {n : Nat}, RelDs g F mu ds vs → okds ds n = true → DpAll g.K H vs (toPs ds)
  | _, _, _, .nil, _ => by rw [toPs]; exact .nil
  | _, _, _, .cons a b, e => by
    simp only [okds, Bool.and_eq_true] at e
    rw [toPs]; exact .cons (RelD.dp sub a e.1) (RelDs.dp sub b e.2)
end
/-- a value as data -/
theorem vw_dp {x : Rv} {d : D} {v : V} {n : Nat} (gh : Gh g F mu S H) (e : vw x S = some d) (r : RelR g F mu H x v) (ok : okd d n = true) : Dp g.K H v (toP d) := by
  cases x with
  | nd _ => cases e
  | nl ds =>
    cases e
    obtain ⟨a, xs, rfl, h2, _, _, h5⟩ := r
    simp only [okd, Bool.and_eq_true] at ok
    rw [toP]; exact .lst (SqL.of h2) (h5.dp gh.sub ok.2)
  | sh c =>
    cases c with
    | ref m =>
      obtain ⟨ds, h1, h2⟩ := Option.map_eq_some_iff.mp e
      subst h2
      obtain ⟨a, xs, rfl, h3, h4⟩ := lsv_at gh h1 r
      simp only [okd, Bool.and_eq_true] at ok
      rw [toP]; exact .lst (SqL.of h3) (h4.dp gh.sub ok.2)
    | non => cases e; exact RelD.dp gh.sub r ok
    | bl _ => cases e; exact RelD.dp gh.sub r ok
    | int _ => cases e; exact RelD.dp gh.sub r ok
    | str _ => cases e; exact RelD.dp gh.sub r ok
    | tup _ => cases e; exact RelD.dp gh.sub r ok
    | lst _ => cases e; exact RelD.dp gh.sub r ok
    | dct _ => cases e; exact RelD.dp gh.sub r ok
    | scr _ => cases e; exact RelD.dp gh.sub r ok
    | fn _ => cases e; exact RelD.dp gh.sub r ok
/-- a key is a shared tuple -/
theorem vw_key {x : Rv} {d : D} {v : V} (e : vw x S = some d) (r : RelR g F mu H x v) (k : isKey d = true) : ∃ a, v = .ref a ∧ RelD g F mu d (.ref a) := by
  simp only [isKey, Bool.and_eq_true] at k
  cases x with
  | nd _ => cases e
  | nl ds => cases e; simp [isTup] at k
  | sh c =>
    cases c with
    | ref m =>
      obtain ⟨ds, h1, h2⟩ := Option.map_eq_some_iff.mp e
      subst h2
      simp [isTup] at k
    | tup ds => cases e; cases r with | tup h t => exact ⟨_, rfl, .tup h t⟩
    | non => cases e; simp [isTup] at k
    | bl _ => cases e; simp [isTup] at k
    | int _ => cases e; simp [isTup] at k
    | str _ => cases e; simp [isTup] at k
    | lst _ => cases e; simp [isTup] at k
    | dct _ => cases e; simp [isTup] at k
    | scr _ => cases e; simp [isTup] at k
    | fn _ => cases e; simp [isTup] at k
end

def cop : Cop → CmpOp
  | .eq => .Eq
  | .ne => .NotEq
  | .lt => .Lt
  | .le => .LtE
  | .gt => .Gt
  | .ge => .GtE
  | .is => .Is
  | .isn => .IsNot
  | .inn => .In
  | .nin => .NotIn
def bop : Bop → Operator
  | .add => .Add
  | .sub => .Sub
  | .mul => .Mult
  | .fdiv => .FloorDiv
  | .mod => .Mod
  | .pow => .Pow
section
variable {X : Cx} {fa ca : Nat → Addr}
theorem op_ok : ∀ o : Bop, OpR X (binaryOp (bop o)) (rP2 (gd X fa ca) (opS o))
  | .add => oi_add
  | .sub => oi_sub
  | .mul => oi_mul
  | .fdiv => oi_fdiv
  | .mod => oi_mod
  | .pow => oi_pow
def cmpV (o : Cop) : Rv → Rv → Sto → Option Rv := fun x y S => (cmpS o x y S).map fun b => .sh (.bl b)
theorem co_int {op : CmpOp} {o : Cop} {f : Int → Int → Bool} (ho : OpR X (compareOp op) (rI0 fun i j => .bl (f i j))) (e : ∀ x y S, cmpS o x y S = cmpI f x y) : OpR X (compareOp op) (rP2 (gd X fa ca) (cmpV o)) := by
  intro pins s σ H x y v u Q I rx ry ⟨F, mu, S, a, b, r, gh, ra, rb, h, q⟩
  unfold cmpV at h
  rw [e] at h
  cases a with
  | sh d =>
    cases d with
    | int i =>
      cases b with
      | sh d2 =>
        cases d2 with
        | int j =>
          cases ra; cases rb; cases h
          exact ho pins s σ H _ _ v u Q I rx ry ⟨i, j, rfl, rfl, q.same gh (.bl _)⟩
        | _ => cases h
      | _ => cases h
    | _ => cases h
  | _ => cases h
theorem relD_non {g : Gd} {F H : Hp} {mu : List Addr} {x : Rv} {v : V} (r : RelR g F mu H x v) : isNon x = decide (v = .non) := by
  cases x with
  | nl _ => obtain ⟨a, _, rfl, _⟩ := r; rfl
  | nd _ => obtain ⟨a, _, rfl, _⟩ := r; rfl
  | sh d => cases r <;> rfl
theorem co_eq (hu : X.A.units + 64 < cLine) : OpR X (compareOp .Eq) (rP2 (gd X fa ca) (cmpV .eq)) := by
  intro pins s σ H x y v u Q I rx ry ⟨F, mu, S, a, b, r, gh, ra, rb, h, q⟩
  obtain ⟨k, h, hr⟩ := Option.map_eq_some_iff.mp h
  obtain ⟨da, ha, h⟩ := Option.bind_eq_some_iff.mp h
  obtain ⟨db, hb, h⟩ := Option.bind_eq_some_iff.mp h
  split at h
  · rename_i ok
    cases h; subst hr
    refine op_eqD hu pins s σ H _ _ v u Q I rx ry ⟨toP da, toP db, vw_dp gh ha ra ok.1, vw_dp gh hb rb ok.2, shaped_of (Nat.le_refl _) ok.1, shaped_of (Nat.le_refl _) ok.2, ?_⟩
    rw [← deq_eqv da db 60 60 ok.1 ok.2]
    exact q.same gh (.bl _)
  · cases h
theorem co_ne (hu : X.A.units + 64 < cLine) : OpR X (compareOp .NotEq) (rP2 (gd X fa ca) (cmpV .ne)) := by
  intro pins s σ H x y v u Q I rx ry ⟨F, mu, S, a, b, r, gh, ra, rb, h, q⟩
  obtain ⟨k, h, hr⟩ := Option.map_eq_some_iff.mp h
  obtain ⟨k', h, hk⟩ := Option.map_eq_some_iff.mp h
  obtain ⟨da, ha, h⟩ := Option.bind_eq_some_iff.mp h
  obtain ⟨db, hb, h⟩ := Option.bind_eq_some_iff.mp h
  split at h
  · rename_i ok
    cases h; subst hk hr
    refine op_neD hu pins s σ H _ _ v u Q I rx ry ⟨toP da, toP db, vw_dp gh ha ra ok.1, vw_dp gh hb rb ok.2, shaped_of (Nat.le_refl _) ok.1, shaped_of (Nat.le_refl _) ok.2, ?_⟩
    rw [← deq_eqv da db 60 60 ok.1 ok.2]
    exact q.same gh (.bl _)
  · cases h
theorem any_deq {d : D} {n m : Nat} (hd : okd d n = true) : ∀ ds : List D, okds ds m = true → ((toPs ds).any fun z => PyData.eqv z (toP d)) = ds.any fun z => deq z d
  | [], _ => by rw [toPs]; rfl
  | z :: zs, e => by
    simp only [okds, Bool.and_eq_true] at e
    rw [toPs, List.any_cons, List.any_cons, any_deq hd zs e.2, ← deq_eqv z d m n e.1 hd]
/-- a in b, its answer handed on -/
theorem in_core {n : Nat} (hr : Room n X.A) (hu : X.A.units + 65 < cLine) (neg : Bool) {pins : List (Addr × Obj)} {s : Shared} {σ : L2.St} {H F : Hp} {mu : List Addr} {S : Sto} {x y : V} {v u : Value} {Q : VK} {a b : Rv} {k : Bool} (I : L2.Inv X pins σ H s) (rx : RelV x v) (ry : RelV y u)
    (gh : Gh (gd X fa ca) F mu S H) (ra : RelR (gd X fa ca) F mu H a x) (rb : RelR (gd X fa ca) F mu H b y) (h : inS a b S = some k) (q : Pst (gd X fa ca) F mu S H (.sh (.bl (if neg = true then !k else k))) Q) :
    wpAny (model X.prog X.w) X.A (compareOp (if neg = true then .NotIn else .In) v u) (EP X pins σ Q) X.xe s := by
  unfold inS at h
  split at h
  · rename_i kvs hd
    obtain ⟨d, hv, h⟩ := Option.bind_eq_some_iff.mp h
    split at h
    · rename_i hk
      cases h
      obtain ⟨p, rfl, rd⟩ := vw_key hv ra hk
      obtain ⟨p', es, rfl, h1, h2⟩ := dcv_at gh hd rb
      cases rx; cases ry
      cases neg with
      | true => exact dnin_ok hr I gh.sub h1 h2 hk rd fun s' I' => ⟨.bl _, H, I', rfl, q.same gh (.bl _)⟩
      | false => exact din_ok hr I gh.sub h1 h2 hk rd fun s' I' => ⟨.bl _, H, I', rfl, q.same gh (.bl _)⟩
    · cases h
  · obtain ⟨d, hv, h⟩ := Option.bind_eq_some_iff.mp h
    obtain ⟨ds, hs, h⟩ := Option.bind_eq_some_iff.mp h
    split at h
    · rename_i ok
      cases h
      have hx := vw_dp gh hv ra ok.1
      obtain ⟨as, r1⟩ := Dp.reads I (toP d) x v hx rx
      obtain ⟨l1, l2⟩ := toP_lay d 60 ok.1
      obtain ⟨l3, l4⟩ := toPs_lay ds 59 ok.2
      have hroom : X.A.units + 1 + min (PyData.depthAll (toPs ds)) (toP d).depth < cLine := by
        have := Nat.min_le_right (PyData.depthAll (toPs ds)) (toP d).depth
        omega
      obtain ⟨p, xs, rfl, h1, h2⟩ := sqv_at gh hs rb
      cases ry
      rcases h1 with h1 | h1
      · obtain ⟨bs, r2⟩ := Dp.reads I (.list (toPs ds)) (.ref p) (.ref p) (.lst (SqL.of h1) (h2.dp gh.sub ok.2)) rfl
        cases neg with
        | true => exact SeqAt.notIn_list_reads r2 r1 l3 l1 hroom ⟨.bl _, H, I, by rw [any_deq ok.1 ds ok.2]; rfl, q.same gh (.bl _)⟩
        | false => exact SeqAt.in_list_reads r2 r1 l3 l1 hroom ⟨.bl _, H, I, by rw [any_deq ok.1 ds ok.2]; rfl, q.same gh (.bl _)⟩
      · obtain ⟨bs, r2⟩ := Dp.reads I (.tuple (toPs ds)) (.ref p) (.ref p) (.tup h1 (h2.dp gh.sub ok.2)) rfl
        cases neg with
        | true => exact SeqAt.notIn_tuple_reads r2 r1 l3 l1 hroom ⟨.bl _, H, I, by rw [any_deq ok.1 ds ok.2]; rfl, q.same gh (.bl _)⟩
        | false => exact SeqAt.in_tuple_reads r2 r1 l3 l1 hroom ⟨.bl _, H, I, by rw [any_deq ok.1 ds ok.2]; rfl, q.same gh (.bl _)⟩
    · cases h
theorem cmp_ok {n : Nat} (hr : Room n X.A) (hu : X.A.units + 65 < cLine) : ∀ o : Cop, OpR X (compareOp (cop o)) (rP2 (gd X fa ca) (cmpV o))
  | .eq => co_eq (by omega)
  | .ne => co_ne (by omega)
  | .lt => co_int op_lt fun _ _ _ => rfl
  | .le => co_int op_le fun _ _ _ => rfl
  | .gt => co_int op_gt fun _ _ _ => rfl
  | .ge => co_int op_ge fun _ _ _ => rfl
  | .is => by
    intro pins s σ H x y v u Q I rx ry ⟨F, mu, S, a, b, r, gh, ra, rb, h, q⟩
    obtain ⟨k, h, hk⟩ := Option.map_eq_some_iff.mp h
    simp only [cmpS] at h
    split at h
    · rename_i hn
      cases h; subst hk
      refine op_isN pins s σ H _ _ v u Q I rx ry ⟨of_decide_eq_true ((relD_non rb).symm.trans hn), ?_⟩
      rw [← relD_non ra]
      exact q.same gh (.bl _)
    · cases h
  | .isn => by
    intro pins s σ H x y v u Q I rx ry ⟨F, mu, S, a, b, r, gh, ra, rb, h, q⟩
    obtain ⟨k, h, hk⟩ := Option.map_eq_some_iff.mp h
    simp only [cmpS] at h
    split at h
    · rename_i hn
      cases h; subst hk
      refine op_notN pins s σ H _ _ v u Q I rx ry ⟨of_decide_eq_true ((relD_non rb).symm.trans hn), ?_⟩
      rw [← relD_non ra]
      exact q.same gh (.bl _)
    · cases h
  | .inn => by
    intro pins s σ H x y v u Q I rx ry ⟨F, mu, S, a, b, r, gh, ra, rb, h, q⟩
    obtain ⟨k, h2, hk⟩ := Option.map_eq_some_iff.mp h
    subst hk
    exact in_core hr hu false I rx ry gh ra rb h2 q
  | .nin => by
    intro pins s σ H x y v u Q I rx ry ⟨F, mu, S, a, b, r, gh, ra, rb, h, q⟩
    obtain ⟨k, h2, hk⟩ := Option.map_eq_some_iff.mp h
    obtain ⟨k', h3, hk'⟩ := Option.map_eq_some_iff.mp h2
    subst hk hk'
    exact in_core hr hu true I rx ry gh ra rb h3 q

/-! ### truth -/
theorem isEmpty_rel {g : Gd} {F : Hp} {mu : List Addr} {ds : List D} {xs : List V} (r : RelDs g F mu ds xs) : ds.isEmpty = xs.isEmpty := by cases r <;> rfl
theorem tru_at {g : Gd} {F H : Hp} {mu : List Addr} {S : Sto} {x : Rv} {v : V} {k : Bool} (gh : Gh g F mu S H) (e : tru x S = some k) (r : RelR g F mu H x v) : TruV g.K v H k := by
  have sq : ((sqv x S).map fun ds => !ds.isEmpty) = some k → TruV g.K v H k := by
    intro e
    obtain ⟨ds, h1, h2⟩ := Option.map_eq_some_iff.mp e
    obtain ⟨a, xs, rfl, h3, h4⟩ := sqv_at gh h1 r
    subst h2
    rw [isEmpty_rel h4]
    rcases h3 with h3 | h3
    · exact .inl ⟨xs, SqL.of h3, rfl⟩
    · exact .inr (.inl ⟨xs, h3, rfl⟩)
  cases x with
  | nl _ => exact sq e
  | nd _ => exact sq e
  | sh d =>
    cases d with
    | non => cases e; cases r; exact rfl
    | bl b => cases e; cases r; exact rfl
    | int i => cases e; cases r; exact rfl
    | str y =>
      simp only [tru] at e
      split at e
      · rename_i hz
        cases e; cases r
        exact ⟨hz, rfl⟩
      · cases e
    | tup _ => exact sq e
    | lst _ => exact sq e
    | dct _ => exact sq e
    | scr _ => exact sq e
    | ref _ => exact sq e
    | fn _ => exact sq e

/-! ### items -/
theorem atI_rel {g : Gd} {F : Hp} {mu : List Addr} {ds : List D} {xs : List V} {i : Int} {d : D} (r : RelDs g F mu ds xs) (e : atI ds i = some d) : ∃ v, atI xs i = some v ∧ RelD g F mu d v := by
  unfold atI at e ⊢
  rw [← r.length]
  obtain ⟨j, h1, h2⟩ := Option.bind_eq_some_iff.mp e
  obtain ⟨v, h3, h4⟩ := r.get h2
  exact ⟨v, by rw [h1]; exact h3, h4⟩
theorem atI_ints {ns : List Int} {i n : Int} (e : atI ns i = some n) : atI (ns.map V.int) i = some (.int n) := by
  unfold atI at e ⊢
  obtain ⟨j, h1, h2⟩ := Option.bind_eq_some_iff.mp e
  rw [List.length_map, h1]
  show (ns.map V.int)[j]? = some (.int n)
  rw [List.getElem?_map, h2]; rfl
theorem ix_ok {n : Nat} (hr : Room n X.A) : IxR X (rP2 (gd X fa ca) idxS) := by
  intro value slice pins s σ H x y v u Q I rx ry ⟨F, mu, S, a, b, r, gh, ra, rb, h, q⟩ hs
  unfold idxS at h
  split at h
  · rename_i kvs hd
    obtain ⟨d, hv, h⟩ := Option.bind_eq_some_iff.mp h
    split at h
    · rename_i hk
      obtain ⟨d', hg, hr'⟩ := Option.map_eq_some_iff.mp h
      subst hr'
      obtain ⟨p, rfl, rd⟩ := vw_key hv rb hk
      obtain ⟨p', es, rfl, h1, h2⟩ := dcv_at gh hd ra
      cases rx; cases ry
      obtain ⟨xs, _, _, pr, dd⟩ := dct_at I gh.sub h1 h2
      have qq := ent_get h2 pr d
      rw [hg] at qq
      obtain ⟨z, v', e1, e2, e3⟩ := qq
      exact PyProof.Rows.subscriptTail_builtinR (x := z.2) dd.typeIs PySem.F.slot_dict_getitem.lookup
        (wpAny_getItem_heap (Q := fun r s' => r = z.2 ∧ EP X pins σ Q r s') (room8 hr) (key_at I gh.sub rd hk) dd e1 ⟨rfl, v', H, I.tok _, e2, q.same gh e3⟩) hs
    · cases h
  · split at h
    · rename_i i
      cases rb
      have sq : ((sqv a S).bind fun ds => (atI ds i).map Rv.sh) = some r → wpAny (model X.prog X.w) X.A (PyProof.Rows.subscriptTail value slice v u) (EP X pins σ Q) X.xe s := by
        intro h
        obtain ⟨ds, h1, h2⟩ := Option.bind_eq_some_iff.mp h
        obtain ⟨d, h3, h4⟩ := Option.map_eq_some_iff.mp h2
        subst h4
        obtain ⟨p, xs, rfl, h5, h6⟩ := sqv_at gh h1 ra
        obtain ⟨w, h7, h8⟩ := atI_rel h6 h3
        refine ix_seq value slice pins s σ H _ _ v u Q I rx ry ?_ hs
        rcases h5 with h5 | h5
        · exact .inl ⟨p, xs, i, w, rfl, rfl, SqL.of h5, h7, q.same gh h8⟩
        · exact .inr (.inl ⟨p, xs, i, w, rfl, rfl, h5, h7, q.same gh h8⟩)
      cases a with
      | nl _ => exact sq h
      | nd _ => exact sq h
      | sh d =>
        cases d with
        | scr ns =>
          obtain ⟨k, h1, h2⟩ := Option.map_eq_some_iff.mp h
          subst h2
          cases ra with
          | scr hL => exact ix_seq value slice pins s σ H _ _ v u Q I rx ry (.inl ⟨_, _, i, .int k, rfl, rfl, sqL_sub gh.sub hL, atI_ints h1, q.same gh (.int _)⟩) hs
        | str z =>
          simp only at h
          split at h
          · rename_i hz
            obtain ⟨c, h1, h2⟩ := Option.map_eq_some_iff.mp h
            subst h2
            cases ra
            exact ix_seq value slice pins s σ H _ _ v u Q I rx ry (.inr (.inr ⟨z, i, c, rfl, rfl, hz, h1, q.same gh (.str _)⟩)) hs
          · cases h
        | non => exact sq h
        | bl _ => exact sq h
        | int _ => exact sq h
        | tup _ => exact sq h
        | lst _ => exact sq h
        | dct _ => exact sq h
        | ref _ => exact sq h
        | fn _ => exact sq h
    · cases h

/-! ### slices -/
theorem cut_rel {g : Gd} {F : Hp} {mu : List Addr} {ds : List D} {xs : List V} (r : RelDs g F mu ds xs) (lo hi : Option Int) : RelDs g F mu (cutD ds lo hi) (cutV xs lo hi) := by
  unfold cutD cutV
  rw [r.length]
  exact (r.drop _).take _
theorem cut_whole {ds : List D} {lo hi : Option Int} (h : HT.sIx ds.length 0 lo = 0 ∧ HT.sIx ds.length ds.length hi = ds.length) : cutD ds lo hi = ds := by
  unfold cutD
  rw [h.1, h.2]
  simp
def rSlc (g : Gd) : V → Option Int → Option Int → Hp → VK → Prop := fun x lo hi H Q => ∃ F mu S a r, Gh g F mu S H ∧ RelR g F mu H a x ∧ slcP a lo hi S = some r ∧ Pst g F mu S H r Q
theorem slc_ok : L2.SlR X (rSlc (gd X fa ca)) := by
  intro pins s σ H x v vl vu lo hi sl Q I rx hsl pl pu ⟨F, mu, S, a, r, gh, ra, h, q⟩
  have lists : ((lsv a S).map fun ds => Rv.nl (cutD ds lo hi)) = some r → ∃ T id, typeLookup (.type T) "__getitem__" = pure (some (.builtin id)) ∧ s.TypeIs v T ∧ wpAny (model X.prog X.w) X.A (getItem v (.ref sl)) (EP X pins σ Q) X.xe s := by
    intro h
    obtain ⟨ds, h1, h2⟩ := Option.map_eq_some_iff.mp h
    subst h2
    obtain ⟨p, xs, rfl, h3, h4⟩ := lsv_at gh h1 ra
    exact sl_list pins s σ H _ v vl vu lo hi sl Q I rx hsl pl pu ⟨p, xs, rfl, SqL.of h3, fun n hn => q.nl gh (cut_rel h4 lo hi) hn⟩
  cases a with
  | nl _ => exact lists h
  | nd _ => exact lists h
  | sh d =>
    cases d with
    | tup ds =>
      cases h
      cases ra with
      | tup hT t =>
        have hl := t.length
        refine sl_tupA pins s σ H _ v vl vu lo hi sl Q I rx hsl pl pu ⟨_, _, rfl, sqT_sub gh.sub hT, fun hw => ?_, fun _ n hn => q.tup gh (cut_rel t lo hi) hn⟩
        rw [← hl] at hw
        rw [cut_whole hw] at q
        exact q.same gh (.tup hT t)
    | non => exact lists h
    | bl _ => exact lists h
    | int _ => exact lists h
    | str _ => exact lists h
    | lst _ => exact lists h
    | dct _ => exact lists h
    | scr _ => exact lists h
    | ref _ => exact lists h
    | fn _ => exact lists h
end
end Z

set_option Elab.async false
set_option linter.all false
set_option autoImplicit false
set_option maxRecDepth 100000
set_option maxHeartbeats 1000000
/-! Z5: built-ins. -/
namespace Z
open PySem L2

/-! ### plain facts about the meanings -/
theorem minI_spec : ∀ (xs : List Int) (m : Int), (minI m xs = m ∨ minI m xs ∈ xs) ∧ minI m xs ≤ m ∧ ∀ y ∈ xs, minI m xs ≤ y
  | [], m => ⟨.inl rfl, Int.le_refl _, fun _ h => nomatch h⟩
  | x :: xs, m => by
    have step : ∀ z : Int, (z = m ∨ z = x) → z ≤ m → z ≤ x → (minI z xs = m ∨ minI z xs ∈ x :: xs) ∧ minI z xs ≤ m ∧ ∀ y ∈ x :: xs, minI z xs ≤ y := by
      intro z hz h4 h5
      obtain ⟨h1, h2, h3⟩ := minI_spec xs z
      refine ⟨?_, by omega, fun y hy => ?_⟩
      · rcases h1 with h1 | h1
        · rcases hz with hz | hz
          · exact .inl (h1.trans hz)
          · exact .inr (by rw [h1, hz]; exact List.mem_cons_self)
        · exact .inr (List.mem_cons_of_mem _ h1)
      · rcases List.mem_cons.mp hy with rfl | hy
        · omega
        · exact h3 y hy
    unfold minI
    by_cases h : x < m
    · rw [if_pos h]; exact step x (.inr rfl) (by omega) (by omega)
    · rw [if_neg h]; exact step m (.inl rfl) (by omega) (by omega)
theorem maxI_spec : ∀ (xs : List Int) (m : Int), (maxI m xs = m ∨ maxI m xs ∈ xs) ∧ m ≤ maxI m xs ∧ ∀ y ∈ xs, y ≤ maxI m xs
  | [], m => ⟨.inl rfl, Int.le_refl _, fun _ h => nomatch h⟩
  | x :: xs, m => by
    have step : ∀ z : Int, (z = m ∨ z = x) → m ≤ z → x ≤ z → (maxI z xs = m ∨ maxI z xs ∈ x :: xs) ∧ m ≤ maxI z xs ∧ ∀ y ∈ x :: xs, y ≤ maxI z xs := by
      intro z hz h4 h5
      obtain ⟨h1, h2, h3⟩ := maxI_spec xs z
      refine ⟨?_, by omega, fun y hy => ?_⟩
      · rcases h1 with h1 | h1
        · rcases hz with hz | hz
          · exact .inl (h1.trans hz)
          · exact .inr (by rw [h1, hz]; exact List.mem_cons_self)
        · exact .inr (List.mem_cons_of_mem _ h1)
      · rcases List.mem_cons.mp hy with rfl | hy
        · omega
        · exact h3 y hy
    unfold maxI
    by_cases h : m < x
    · rw [if_pos h]; exact step x (.inr rfl) (by omega) (by omega)
    · rw [if_neg h]; exact step m (.inl rfl) (by omega) (by omega)
theorem min1_eq {ns : List Int} {k m : Int} (e : min1 ns = some k) (hm : m ∈ ns) (hl : ∀ y, y ∈ ns → m ≤ y) : m = k := by
  cases ns with
  | nil => cases e
  | cons x xs =>
    cases e
    obtain ⟨h1, h2, h3⟩ := minI_spec xs x
    have a1 : minI x xs ≤ m := (List.mem_cons.mp hm).elim (fun z => z ▸ h2) (h3 m)
    have a2 : m ≤ minI x xs := by
      rcases h1 with h1 | h1
      · rw [h1]; exact hl _ List.mem_cons_self
      · exact hl _ (List.mem_cons_of_mem _ h1)
    omega
theorem max1_eq {ns : List Int} {k m : Int} (e : max1 ns = some k) (hm : m ∈ ns) (hl : ∀ y, y ∈ ns → y ≤ m) : m = k := by
  cases ns with
  | nil => cases e
  | cons x xs =>
    cases e
    obtain ⟨h1, h2, h3⟩ := maxI_spec xs x
    have a1 : m ≤ maxI x xs := (List.mem_cons.mp hm).elim (fun z => z ▸ h2) (h3 m)
    have a2 : maxI x xs ≤ m := by
      rcases h1 with h1 | h1
      · rw [h1]; exact hl _ List.mem_cons_self
      · exact hl _ (List.mem_cons_of_mem _ h1)
    omega
theorem insI_perm (x : Int) : ∀ ys : List Int, (insI x ys).Perm (x :: ys)
  | [] => .refl _
  | y :: ys => by
    unfold insI
    split
    · exact .refl _
    · exact ((insI_perm x ys).cons y).trans (.swap x y ys)
theorem sortI_perm : ∀ ys : List Int, (sortI ys).Perm ys
  | [] => .refl _
  | y :: ys => (insI_perm y (sortI ys)).trans ((sortI_perm ys).cons y)
theorem insI_sorted (x : Int) : ∀ ys : List Int, ys.Pairwise (· ≤ ·) → (insI x ys).Pairwise (· ≤ ·)
  | [], _ => List.pairwise_cons.mpr ⟨fun _ h => (nomatch h), .nil⟩
  | y :: ys, h => by
    unfold insI
    obtain ⟨h1, h2⟩ := List.pairwise_cons.mp h
    split
    · rename_i hx
      refine List.pairwise_cons.mpr ⟨fun z hz => ?_, h⟩
      rcases List.mem_cons.mp hz with rfl | hz
      · exact hx
      · have := h1 z hz; omega
    · rename_i hx
      refine List.pairwise_cons.mpr ⟨fun z hz => ?_, insI_sorted x ys h2⟩
      rcases List.mem_cons.mp ((insI_perm x ys).subset hz) with rfl | hz
      · omega
      · exact h1 z hz
theorem sortI_sorted : ∀ ys : List Int, (sortI ys).Pairwise (· ≤ ·)
  | [] => .nil
  | y :: ys => insI_sorted y _ (sortI_sorted ys)
theorem sorted_unique : ∀ {xs ys : List Int}, xs.Perm ys → xs.Pairwise (· ≤ ·) → ys.Pairwise (· ≤ ·) → xs = ys
  | [], ys, p, _, _ => by rw [List.nil_perm.mp p]
  | x :: xs, [], p, _, _ => by have := p.length_eq; simp at this
  | x :: xs, y :: ys, p, h1, h2 => by
    obtain ⟨a1, a2⟩ := List.pairwise_cons.mp h1
    obtain ⟨b1, b2⟩ := List.pairwise_cons.mp h2
    have e : x = y := by
      have hx : x ∈ y :: ys := p.subset List.mem_cons_self
      have hy : y ∈ x :: xs := p.symm.subset List.mem_cons_self
      rcases List.mem_cons.mp hx with e | hx
      · exact e
      · rcases List.mem_cons.mp hy with e | hy
        · exact e.symm
        · have := b1 x hx; have := a1 y hy; omega
    subst e
    rw [sorted_unique (List.perm_cons x |>.mp p) a2 b2]

section
variable {g : Gd} {F H : Hp} {mu : List Addr} {S : Sto}
theorem one_of {r : List Rv} {xs : List V} {x : Rv} (p : Paired (RelR g F mu H) r xs) (e : r = [x]) : ∃ v, xs = [v] ∧ RelR g F mu H x v := by
  subst e
  cases p with
  | cons h t => cases t; exact ⟨_, rfl, h⟩
theorem two_of {r : List Rv} {xs : List V} {x y : Rv} (p : Paired (RelR g F mu H) r xs) (e : r = [x, y]) : ∃ v u, xs = [v, u] ∧ RelR g F mu H x v ∧ RelR g F mu H y u := by
  subst e
  cases p with
  | cons h t => cases t with | cons h' t' => cases t'; exact ⟨_, _, rfl, h, h'⟩
end

/-! ### dict(pairs) -/
inductive Prs (g : Gd) (F : Hp) (mu : List Addr) : List D → List V → List (D × D) → List Ent → List Addr → Prop
  | nil : Prs g F mu [] [] [] [] []
  | cons {k v : D} {ka T : Addr} {vv : V} {ds : List D} {xs : List V} {kvs : List (D × D)} {es : List Ent} {Ts : List Addr} : SqT g.K F T [.ref ka, vv] → isKey k = true → RelD g F mu k (.ref ka) → RelD g F mu v vv → Prs g F mu ds xs kvs es Ts →
      Prs g F mu (.tup [k, v] :: ds) (.ref T :: xs) ((k, v) :: kvs) ((nk k, ka, vv) :: es) (T :: Ts)
theorem isKey_ref {g : Gd} {F : Hp} {mu : List Addr} {k : D} {v : V} (h : isKey k = true) (r : RelD g F mu k v) : ∃ a, v = .ref a := by
  simp only [isKey, Bool.and_eq_true] at h
  cases r with
  | tup _ _ => exact ⟨_, rfl⟩
  | lst _ _ => exact ⟨_, rfl⟩
  | dct _ _ => exact ⟨_, rfl⟩
  | scr _ => exact ⟨_, rfl⟩
  | ref _ => exact ⟨_, rfl⟩
  | fn _ => exact ⟨_, rfl⟩
  | non => simp [isTup] at h
  | bl _ => simp [isTup] at h
  | int _ => simp [isTup] at h
  | str _ => simp [isTup] at h
theorem dictOf_prs {g : Gd} {F : Hp} {mu : List Addr} : ∀ {ds : List D} {xs : List V} {acc res : List (D × D)}, dictOf ds acc = some res → RelDs g F mu ds xs →
    ∃ kvs es Ts, Prs g F mu ds xs kvs es Ts ∧ res = kvs.foldl (fun a p => dput a p.1 p.2) acc
  | [], _, acc, _, e, .nil => by cases e; exact ⟨[], [], [], .nil, rfl⟩
  | d :: ds, _, acc, res, e, .cons r t => by
    cases d with
    | tup es =>
      rcases es with _ | ⟨k, _ | ⟨v, _ | ⟨w', es⟩⟩⟩
      · simp only [dictOf] at e; cases e
      · simp only [dictOf] at e; cases e
      · simp only [dictOf] at e
        by_cases hk : isKey k = true
        · rw [if_pos hk] at e
          obtain ⟨kvs, es, Ts, h1, h2⟩ := dictOf_prs e t
          cases r with
          | tup hT rr =>
            cases rr with
            | cons rk rr2 =>
              cases rr2 with
              | cons rv rr3 =>
                cases rr3
                obtain ⟨ka, rfl⟩ := isKey_ref hk rk
                exact ⟨_, _, _, .cons hT hk rk rv h1, by rw [h2]; rfl⟩
        · rw [if_neg hk] at e; cases e
      · simp only [dictOf] at e; cases e
    | non => simp only [dictOf] at e; cases e
    | bl _ => simp only [dictOf] at e; cases e
    | int _ => simp only [dictOf] at e; cases e
    | str _ => simp only [dictOf] at e; cases e
    | lst _ => simp only [dictOf] at e; cases e
    | dct _ => simp only [dictOf] at e; cases e
    | scr _ => simp only [dictOf] at e; cases e
    | ref _ => simp only [dictOf] at e; cases e
    | fn _ => simp only [dictOf] at e; cases e
section
variable {X : Cx} {fa ca : Nat → Addr} {pins : List (Addr × Obj)} {σ : L2.St} {H F : Hp} {mu : List Addr} {s : Shared} {S : Sto}
theorem prs_fold {kvs : List (D × D)} {es : List Ent} {ds : List D} {xs : List V} {Ts : List Addr} (p : Prs (gd X fa ca) F mu ds xs kvs es Ts) : ∀ {acc : List (D × D)} {eacc : List Ent}, RelKs (gd X fa ca) F mu acc eacc →
    RelKs (gd X fa ca) F mu (kvs.foldl (fun a p => dput a p.1 p.2) acc) (es.foldl (fun a p => putE a p.1 p.2.1 p.2.2) eacc) := by
  induction p with
  | nil => intro acc eacc h; exact h
  | cons hT hk rk rv t ih => intro acc eacc h; exact ih (relKs_put h hk rk rv)
theorem entR_fold : ∀ {es : List Ent} {ps : List (NestedKey × Addr × Value)}, Paired EntR es ps → ∀ {eacc : List Ent} {xacc : List (NestedKey × Addr × Value)}, Paired EntR eacc xacc →
    Paired EntR (es.foldl (fun a p => putE a p.1 p.2.1 p.2.2) eacc) (storedAllH xacc ps) := by
  intro es ps p
  induction p with
  | nil => intro eacc xacc h; exact h
  | @cons x y l m h t ih =>
    intro eacc xacc q
    obtain ⟨h1, h2, h3⟩ := h
    have : storedAllH xacc (y :: m) = storedAllH (storedH xacc y.1 y.2.1 y.2.2) m := rfl
    rw [this, List.foldl_cons, h1, h2]
    exact ih (entR_put q h3)
theorem foldE_length : ∀ (es eacc : List Ent), (es.foldl (fun a p => putE a p.1 p.2.1 p.2.2) eacc).length ≤ eacc.length + es.length
  | [], eacc => by simp
  | e :: es, eacc => by
    rw [List.foldl_cons]
    have h1 := foldE_length es (putE eacc e.1 e.2.1 e.2.2)
    have h2 := putE_length eacc e.1 e.2.1 e.2.2
    rw [List.length_cons]
    omega
/-- the pairs in the heap -/
theorem prs_heap (I : L2.Inv X pins σ H s) (sub : Sub F H) {kvs : List (D × D)} {es : List Ent} {ds : List D} {xs : List V} {Ts : List Addr} (p : Prs (gd X fa ca) F mu ds xs kvs es Ts) :
    ∀ {its : List Value}, Vals xs its → its = Ts.map Value.ref ∧ ∃ ps : List (NestedKey × Addr × Value), Paired EntR es ps ∧ ps.length = Ts.length ∧ (∀ x ∈ ps, (nestedKind X.prog X.w).is s.heap x.1 x.2.1) ∧
      ∀ (j : Nat) (q : NestedKey × Addr × Value), ps[j]? = some q → ∃ T, Ts[j]? = some T ∧ s.heap.IsTuple T #[.ref q.2.1, q.2.2] := by
  induction p with
  | nil => intro its rv; cases rv; exact ⟨rfl, [], .nil, rfl, fun _ h => (nomatch h), fun j q e => by simp at e⟩
  | cons hT hk rk rd t ih =>
    intro its rv
    cases rv with
    | cons r1 rt =>
      obtain ⟨h1, ps, h2, h3, h4, h5⟩ := ih rt
      cases r1
      obtain ⟨us, ru, ⟨o, ho, hc, m, hd⟩, _⟩ := I.tuple (sqT_sub sub hT)
      cases ru with
      | cons q1 q2 =>
        cases q2 with
        | cons q3 q4 =>
          cases q4
          cases q1
          rename_i u
          refine ⟨by rw [h1]; rfl, (nk _, _, u) :: ps, .cons ⟨rfl, rfl, q3⟩ h2, by simp [h3], fun x hx => ?_, fun j q e => ?_⟩
          · rcases List.mem_cons.mp hx with rfl | hx
            · exact key_at I sub rk hk
            · exact h4 x hx
          · cases j with
            | zero =>
              cases e
              exact ⟨_, rfl, o, ho, hc, m, hd⟩
            | succ j =>
              obtain ⟨T, e1, e2⟩ := h5 j q (by simpa using e)
              exact ⟨T, by simpa using e1, e2⟩
theorem dict_core (hc : X.calm = true) {n : Nat} (hr : Room (n + 1) X.A) (I : L2.Inv X pins σ H s) (gh : Gh (gd X fa ca) F mu S H) {a : Addr} {xs : List V} {ds : List D} {kvs : List (D × D)} {Q : VK} (hL : H a = some (.lst xs)) (r : RelDs (gd X fa ca) F mu ds xs)
    (e : dictOf ds [] = some kvs) (q : Pst (gd X fa ca) F mu S H (.nd kvs) Q) : wpAny (model X.prog X.w) X.A (call (.type "dict") [.ref a]) (EP X pins σ Q) X.xe s := by
  obtain ⟨kws, es, Ts, p, rfl⟩ := dictOf_prs e r
  obtain ⟨its, rv, ⟨o, m, ho, hcl, hdi, hdat⟩, hz⟩ := I.list (SqL.of hL)
  obtain ⟨hits, ps, pe, pl, pk, pt⟩ := prs_heap I gh.sub p rv
  subst hits
  have hT : ∀ j, j < Ts.length → (fun j => Ts.getD j 0) j = Ts[j]! := fun j hj => by simp
  let prs : List (Value × Value) := ps.map fun x => (.ref x.2.1, x.2.2)
  have hst := (nestedKind_stays (prog := X.prog) (w := X.w)).all (h := s.heap)
  have hTs : Ts.length ≤ sizeLine := by
    have h1 := rv.length
    rw [List.length_map] at h1
    omega
  refine call_dict_pairsH (knd := nestedKind X.prog X.w) (ps := ps) (PairArg.list a (Ts.map Value.ref).toArray (fun j => Ts.getD j 0) prs) (I.ok.hd hc) ?_ ⟨⟨o, m, ho, hcl, hdi, hdat⟩, by simp [prs, pl], fun j k v e => ?_⟩ ⟨by simp [prs], fun i key v hrel => ?_⟩ (fun h' hk x hx => ?_) (by simp [prs, pl]; exact hTs) fun h' tk dd hk => ?_
  · show X.A.units + 1 + 1 + 8 < cLine
    have := hr.units
    omega
  · rw [List.getElem?_map] at e
    obtain ⟨x, hx, hx2⟩ := Option.map_eq_some_iff.mp e
    cases hx2
    obtain ⟨T, e1, e2⟩ := pt j x hx
    have e3 : Ts.getD j 0 = T := by simp [List.getD, e1]
    exact ⟨by simp [e1], .inl (by show s.heap.IsTuple (Ts.getD j 0) _; rw [e3]; exact e2)⟩
  · have hrel' : prs[i]? = some (key, v) := hrel
    rw [List.getElem?_map] at hrel'
    obtain ⟨x, hx, hx2⟩ := Option.map_eq_some_iff.mp hrel'
    cases hx2
    exact ⟨x.1, x.2.1, hx, rfl⟩
  · refine nestedKind_stays.stays (fun b o vs n hb hd => ?_) (pk x hx)
    refine hk b o ?_ (by simp) hb
    exact Nat.ne_of_lt (Heap.lt_size hb)
  · obtain ⟨o', ents, ep, e1, e2, e3, e4, _, e5⟩ := dd
    have hm : (s.heap.objs.size == sysModules) = false := beq_eq_false_iff_ne.mpr (Nat.ne_of_gt I.big)
    have hlen : (es.foldl (fun a p => putE a p.1 p.2.1 p.2.2) []).length ≤ sizeLine := by
      have h1 := foldE_length es []
      have h2 := Paired.length pe
      simp only [List.length_nil] at h1
      omega
    have hp : H s.heap.objs.size = none := I.hok.fresh (Nat.le_refl _)
    refine ⟨.ref s.heap.objs.size, _, I.laid (t' := tk) (o := dO X.prog X.w s.heap.objs.size (es.foldl (fun a p => putE a p.1 p.2.1 p.2.2) [])) (fun b o hb => hk b o (by simp) hb) (Nat.le_refl _) ?_, rfl, q.nd gh (prs_fold p .nil) hp⟩
    refine ⟨⟨hlen, hm, _, entR_fold pe .nil, o', ents, ep, e1, e2, e3, e4, e5⟩, ⟨_, e1⟩, fun g1 g2 hx hy => ?_⟩
    obtain ⟨k1, k2, xs', k3, o', ents', ep', k4, k5⟩ := hx
    exact ⟨k1, k2, xs', k3, o', ents', ep', hy _ k4, k5⟩
end
end Z

set_option Elab.async false
set_option linter.all false
set_option autoImplicit false
set_option maxRecDepth 100000
set_option maxHeartbeats 1000000
/-! Z6: built-ins, by values. -/
namespace Z
open PySem L2

section
variable {X : Cx} {fa ca : Nat → Addr}
theorem ty_at {g : Gd} {F H : Hp} {mu : List Addr} {S : Sto} {x : Rv} {v : V} {ds : List D} (gh : Gh g F mu S H) (e : lsv x S = some ds) (r : RelR g F mu H x v) : TyX g.K H v (.type "list") := by
  obtain ⟨a, xs, rfl, h, _⟩ := lsv_at gh e r
  exact .base (.lst h)
theorem tyT_at {K : PySem.W.Frag} {H : Hp} {a : Addr} {xs : List V} (h : SqT K H a xs) : TyX K H (.ref a) (.type "tuple") := by
  rcases h with (h | ⟨o, h⟩) | ⟨o, its, n, h1, h2, _⟩
  · exact .base (.tup h)
  · exact .fTuple h
  · exact .kTuple h1 h2
def tyN : Ty → String
  | .int => "int"
  | .bool => "bool"
  | .str => "str"
  | .tup => "tuple"
  | .lst => "list"
/-- isinstance(x, T) -/
theorem isi_ok (t : Ty) : CallR X (.builtin "isinstance") (fun xs H Q => ∃ x, xs = [x, .ty (tyN t)] ∧ rPn (gd X fa ca) (biS (.isi t)) [x] H Q) := by
  intro pins s σ H xs us Q I r ⟨x, ex, F, mu, S, rs, rr, gh, p, e, q⟩
  subst ex
  have go : ∀ (c : String) (b : Bool), TyX X.K H x (.type c) → kitB c (tyN t) = some b → rr = .sh (.bl b) → wpAny (model X.prog X.w) X.A (call (.builtin "isinstance") us) (EP X pins σ Q) X.xe s := fun c b ty kb er => by
    subst er
    exact call_isi pins s σ H _ us Q I r ⟨x, .ty (tyN t), .type c, .type (tyN t), b, rfl, .ty _, ty, kit_ty kb, q.same gh (.bl _)⟩
  cases p with
  | cons h tl =>
    cases tl
    rename_i a
    simp only [biS] at e
    obtain ⟨b, e, er⟩ := Option.map_eq_some_iff.mp e
    have lists : ((lsv a S).map fun _ => t.isL) = some b → wpAny (model X.prog X.w) X.A (call (.builtin "isinstance") us) (EP X pins σ Q) X.xe s := by
      intro e
      obtain ⟨ds, h1, h2⟩ := Option.map_eq_some_iff.mp e
      refine go "list" b (ty_at gh h1 h) ?_ er.symm
      subst h2
      cases t <;> decide +kernel
    cases a with
    | nl _ => exact lists e
    | nd _ => exact lists e
    | sh d =>
      cases d with
      | non => cases e; cases h; exact go "NoneType" _ (.base .non) (by cases t <;> decide +kernel) er.symm
      | bl _ => cases e; cases h; exact go "bool" _ (.base (.bl _)) (by cases t <;> decide +kernel) er.symm
      | int _ => cases e; cases h; exact go "int" _ (.base (.int _)) (by cases t <;> decide +kernel) er.symm
      | str _ => cases e; cases h; exact go "str" _ (.base (.str _)) (by cases t <;> decide +kernel) er.symm
      | tup _ => cases e; cases h with | tup hT _ => exact go "tuple" _ (tyT_at (sqT_sub gh.sub hT)) (by cases t <;> decide +kernel) er.symm
      | lst _ => exact lists e
      | dct _ => exact lists e
      | scr _ => exact lists e
      | ref _ => exact lists e
      | fn _ => exact lists e

/-- list(d): the keys -/
theorem keys_list {g : Gd} {F : Hp} {mu : List Addr} : ∀ {kvs : List (D × D)} {es : List Ent}, RelKs g F mu kvs es → RelDs g F mu (kvs.map (·.1)) (es.map fun e => V.ref e.2.1)
  | _, _, .nil => .nil
  | _, _, .cons _ _ ra _ t => .cons ra (keys_list t)
theorem vals_list {g : Gd} {F : Hp} {mu : List Addr} : ∀ {kvs : List (D × D)} {es : List Ent}, RelKs g F mu kvs es → RelDs g F mu (kvs.map (·.2)) (es.map fun e => e.2.2)
  | _, _, .nil => .nil
  | _, _, .cons _ _ _ rb t => .cons rb (vals_list t)
theorem entR_keys : ∀ {es : List Ent} {xs : List (NestedKey × Addr × Value)}, Paired EntR es xs → Vals (es.map fun e => V.ref e.2.1) (xs.map fun x => Value.ref x.2.1)
  | _, _, .nil => .nil
  | _, _, .cons h t => .cons (show Value.ref _ = Value.ref _ from congrArg Value.ref h.2.1.symm) (entR_keys t)
theorem entR_vals : ∀ {es : List Ent} {xs : List (NestedKey × Addr × Value)}, Paired EntR es xs → Vals (es.map fun e => e.2.2) (xs.map fun x => x.2.2)
  | _, _, .nil => .nil
  | _, _, .cons h t => .cons h.2.2 (entR_vals t)
theorem listd_core (hc : X.calm = true) {pins : List (Addr × Obj)} {s : Shared} {σ : L2.St} {H F : Hp} {mu : List Addr} {S : Sto} {a : Addr} {es : List Ent} {kvs : List (D × D)} {Q : VK} (I : L2.Inv X pins σ H s) (gh : Gh (gd X fa ca) F mu S H) (hd : Rd H a (dO X.prog X.w a es)) (r : RelKs (gd X fa ca) F mu kvs es)
    (q : Pst (gd X fa ca) F mu S H (.nl (kvs.map (·.1))) Q) : wpAny (model X.prog X.w) X.A (call (.type "list") [.ref a]) (EP X pins σ Q) X.xe s := by
  obtain ⟨xs, hz, hm, p, o, ents, ep, ho, hx, hdt, he, _, hn⟩ := dct_at I gh.sub hd r
  have l1 : ents.size = xs.length := size_of_entries he
  have l2 : es.length = xs.length := Paired.length p
  refine PySem.W.kdl_call (kdl_raw hm hx hdt) (I.ok.hd hc) ho (by omega) fun h' tk acc' c' kp e it => ?_
  have ea : acc'.toList = xs.map fun x => Value.ref x.2.1 := by
    have hl : acc'.toList.length = xs.length := by rw [Array.length_toList, it.1]; exact l1
    apply List.ext_getElem?
    intro j
    rw [List.getElem?_map]
    cases hj : acc'.toList[j]? with
    | none =>
      have h1 := List.getElem?_eq_none_iff.mp hj
      rw [List.getElem?_eq_none (by omega)]
      all_goals rfl
    | some v =>
      obtain ⟨en, hen, hv⟩ := it.2 j v (by rw [← Array.getElem?_toList]; exact hj)
      have qe := entry_at he j
      rw [hen] at qe
      cases hb : xs[j]? with
      | none =>
        rw [hb] at qe
        exact nomatch (show some en = none from qe)
      | some b =>
        rw [hb] at qe
        have e2 : en = entryOfKey (nestedKind X.prog X.w) b := Option.some.inj qe
        rw [hv, e2]
        all_goals rfl
  have hp : H s.heap.objs.size = none := I.hok.fresh (Nat.le_refl _)
  have rv : Vals (es.map fun e => V.ref e.2.1) acc'.toList := by rw [ea]; exact entR_keys p
  have hz2 : (es.map fun e => V.ref e.2.1).length ≤ sizeLine := by rw [List.length_map]; exact hz
  refine ⟨.ref s.heap.objs.size, _, I.laid (t' := tk) (o := .lst (es.map fun e => V.ref e.2.1)) kp (Nat.le_refl _) ?_, rfl, q.nl gh (keys_list r) hp⟩
  exact ⟨hz2, acc'.toList, c', rv, by rw [Array.toArray_toList]; exact e⟩
theorem len_dict {pins : List (Addr × Obj)} {s : Shared} {σ : L2.St} {H F : Hp} {mu : List Addr} {S : Sto} {a : Addr} {es : List Ent} {kvs : List (D × D)} {Q : VK} (I : L2.Inv X pins σ H s) (gh : Gh (gd X fa ca) F mu S H) (hd : Rd H a (dO X.prog X.w a es)) (r : RelKs (gd X fa ca) F mu kvs es)
    (q : Q (.int kvs.length) H) : wpAny (model X.prog X.w) X.A (call (.builtin "len") [.ref a]) (EP X pins σ Q) X.xe s := by
  obtain ⟨xs, hz, hm, p, dd⟩ := dct_at I gh.sub hd r
  have hl : (pairsH xs).length = kvs.length := by rw [pairsH_length, ← Paired.length p, r.length]
  have hk : s.heap.DictKeyed (nestedKind X.prog X.w) a (pairsH xs) := ⟨xs, dd, rfl⟩
  have hn := line63
  have hr := r.length
  refine PyProof.Rows.call_len_slot (n := ((pairsH xs).length : Nat)) dd.typeIs PySem.F.slot_dict_len (fun Q' hq => len_keyed hm hk hq) (by omega) (by omega) ?_
  rw [hl]
  exact ⟨.int _, H, I.tok _, ⟨_, rfl⟩, q⟩

def biV : Bi → Value
  | .len => .builtin "len"
  | .int => .type "int"
  | .bool => .type "bool"
  | .str => .type "str"
  | .tuple => .type "tuple"
  | .list => .type "list"
  | .dict => .type "dict"
  | .sum => .builtin "sum"
  | .min => .builtin "min"
  | .max => .builtin "max"
  | .all => .builtin "all"
  | .any => .builtin "any"
  | .sorted => .builtin "sorted"
  | .isi _ => .none
theorem log2_small {n : Nat} (h : n < 1000000000) : n.log2 < 1920 := by
  have h2 : n < 2 ^ 30 := Nat.lt_trans h (by decide)
  by_cases h0 : n = 0
  · subst h0; decide
  · exact Nat.lt_trans ((Nat.log2_lt h0).mpr h2) (by decide)
/-- a list of ints -/
theorem intsOf {g : Gd} {F H : Hp} {mu : List Addr} {S : Sto} {x : Rv} {v : V} {ds : List D} {ns : List Int} (gh : Gh g F mu S H) (e : lsv x S = some ds) (r : RelR g F mu H x v) (en : intsD ds = some ns) : ∃ a, v = .ref a ∧ H a = some (.lst (ns.map V.int)) := by
  obtain ⟨a, xs, rfl, h, t⟩ := lsv_at gh e r
  rw [(intsD_map en t).1] at h
  exact ⟨a, rfl, h⟩
theorem boolsOf {g : Gd} {F H : Hp} {mu : List Addr} {S : Sto} {x : Rv} {v : V} {ds : List D} {ns : List Bool} (gh : Gh g F mu S H) (e : lsv x S = some ds) (r : RelR g F mu H x v) (en : boolsD ds = some ns) : ∃ a, v = .ref a ∧ H a = some (.lst (ns.map V.bl)) := by
  obtain ⟨a, xs, rfl, h, t⟩ := lsv_at gh e r
  rw [boolsD_map en t] at h
  exact ⟨a, rfl, h⟩
theorem bi_len : CallR X (.builtin "len") (rPn (gd X fa ca) (biS .len)) := by
  intro pins s σ H xs us Q I r ⟨F, mu, S, rs, rr, gh, p, e, q⟩
  simp only [biS] at e
  split at e
  · rename_i a
    obtain ⟨v, rfl, ra⟩ := one_of p rfl
    have sq : ((sqv a S).map fun ds => Rv.sh (.int ds.length)) = some rr → wpAny (model X.prog X.w) X.A (call (.builtin "len") us) (EP X pins σ Q) X.xe s := by
      intro e
      obtain ⟨ds, h1, h2⟩ := Option.map_eq_some_iff.mp e
      subst h2
      obtain ⟨b, ys, rfl, h3, h4⟩ := sqv_at gh h1 ra
      refine call_len_seq pins s σ H _ us Q I r ⟨b, ys, rfl, ?_, by rw [← h4.length]; exact q.same gh (.int _)⟩
      rcases h3 with h3 | h3
      · exact .inl (SqL.of h3)
      · exact .inr h3
    have dc : (match dcv a with | some kvs => some (Rv.sh (.int kvs.length)) | none => (sqv a S).map fun ds => Rv.sh (.int ds.length)) = some rr → wpAny (model X.prog X.w) X.A (call (.builtin "len") us) (EP X pins σ Q) X.xe s := by
      intro e
      split at e
      · rename_i kvs hd
        cases e
        obtain ⟨b, es, rfl, h3, h4⟩ := dcv_at gh hd ra
        obtain ⟨u, rfl, ru⟩ := vals1 r
        cases ru
        exact len_dict I gh h3 h4 (q.same gh (.int _))
      · exact sq e
    cases a with
    | nl _ => exact dc e
    | nd _ => exact dc e
    | sh d =>
      cases d with
      | str y =>
        simp only at e
        split at e
        · rename_i hz
          cases e; cases ra
          exact call_len_str pins s σ H _ us Q I r ⟨y, rfl, hz, q.same gh (.int _)⟩
        · cases e
      | scr ns =>
        cases e
        cases ra with
        | scr h =>
          refine call_len_seq pins s σ H _ us Q I r ⟨_, _, rfl, .inl (sqL_sub gh.sub h), ?_⟩
          rw [List.length_map]
          exact q.same gh (.int _)
      | non => exact dc e
      | bl _ => exact dc e
      | int _ => exact dc e
      | tup _ => exact dc e
      | lst _ => exact dc e
      | dct _ => exact dc e
      | ref _ => exact dc e
      | fn _ => exact dc e
  · cases e
theorem bi_minmax (hc : X.calm = true) : CallR X (.builtin "min") (rPn (gd X fa ca) (biS .min)) ∧ CallR X (.builtin "max") (rPn (gd X fa ca) (biS .max)) := by
  constructor
  · intro pins s σ H xs us Q I r ⟨F, mu, S, rs, rr, gh, p, e, q⟩
    simp only [biS] at e
    split at e
    · rename_i a
      obtain ⟨v, rfl, ra⟩ := one_of p rfl
      obtain ⟨ds, h1, e⟩ := Option.bind_eq_some_iff.mp e
      obtain ⟨ns, h2, e⟩ := Option.bind_eq_some_iff.mp e
      obtain ⟨m, h3, e⟩ := Option.map_eq_some_iff.mp e
      subst e
      obtain ⟨b, rfl, h4⟩ := intsOf gh h1 ra h2
      refine cr_min hc pins s σ H _ us Q I r ⟨b, ns, rfl, SqL.of h4, ?_, fun m' hm hl => ?_⟩
      · cases ns with
        | nil => cases h3
        | cons _ _ => exact Nat.succ_pos _
      · rw [min1_eq h3 hm hl]
        exact q.same gh (.int _)
    · rename_i a b
      obtain ⟨v, u, rfl, ra, rb⟩ := two_of p rfl
      obtain ⟨i, j, k, rfl, rfl, hk, rfl⟩ := int2_at e ra rb
      cases hk
      exact call_min2 hc pins s σ H _ us Q I r ⟨i, j, rfl, q.same gh (.int _)⟩
    · cases e
  · intro pins s σ H xs us Q I r ⟨F, mu, S, rs, rr, gh, p, e, q⟩
    simp only [biS] at e
    split at e
    · rename_i a
      obtain ⟨v, rfl, ra⟩ := one_of p rfl
      obtain ⟨ds, h1, e⟩ := Option.bind_eq_some_iff.mp e
      obtain ⟨ns, h2, e⟩ := Option.bind_eq_some_iff.mp e
      obtain ⟨m, h3, e⟩ := Option.map_eq_some_iff.mp e
      subst e
      obtain ⟨b, rfl, h4⟩ := intsOf gh h1 ra h2
      refine cr_max hc pins s σ H _ us Q I r ⟨b, ns, rfl, SqL.of h4, ?_, fun m' hm hl => ?_⟩
      · cases ns with
        | nil => cases h3
        | cons _ _ => exact Nat.succ_pos _
      · rw [max1_eq h3 hm hl]
        exact q.same gh (.int _)
    · rename_i a b
      obtain ⟨v, u, rfl, ra, rb⟩ := two_of p rfl
      obtain ⟨i, j, k, rfl, rfl, hk, rfl⟩ := int2_at e ra rb
      cases hk
      exact call_max2 hc pins s σ H _ us Q I r ⟨i, j, rfl, q.same gh (.int _)⟩
    · cases e
theorem bi_ok (hc : X.calm = true) {n : Nat} (hr : Room (n + 1) X.A) : ∀ b : Bi, (∀ t, b ≠ .isi t) → CallR X (biV b) (rPn (gd X fa ca) (biS b))
  | .len, _ => bi_len
  | .min, _ => (bi_minmax hc).1
  | .max, _ => (bi_minmax hc).2
  | .isi t, h => absurd rfl (h t)
  | .int, _ => by
    intro pins s σ H xs us Q I r ⟨F, mu, S, rs, rr, gh, p, e, q⟩
    simp only [biS] at e
    split at e
    · obtain ⟨v, rfl, ra⟩ := one_of p rfl
      split at e
      · cases e; cases ra
        exact call_int1 pins s σ H _ us Q I r (.inl ⟨_, rfl, q.same gh (.int _)⟩)
      · cases e; cases ra
        exact call_int1 pins s σ H _ us Q I r (.inr ⟨_, rfl, q.same gh (.int _)⟩)
      · cases e
    · cases e
  | .bool, _ => by
    intro pins s σ H xs us Q I r ⟨F, mu, S, rs, rr, gh, p, e, q⟩
    simp only [biS] at e
    split at e
    · obtain ⟨v, rfl, ra⟩ := one_of p rfl
      split at e
      · cases e; cases ra
        exact call_bool1 pins s σ H _ us Q I r (.inr ⟨_, rfl, q.same gh (.bl _)⟩)
      · cases e
    · cases e
  | .str, _ => by
    intro pins s σ H xs us Q I r ⟨F, mu, S, rs, rr, gh, p, e, q⟩
    simp only [biS] at e
    split at e
    · obtain ⟨v, rfl, ra⟩ := one_of p rfl
      split at e
      · split at e
        · rename_i hz
          cases e; cases ra
          exact call_str_int pins s σ H _ us Q I r ⟨_, rfl, log2_small hz, q.same gh (.str _)⟩
        · cases e
      · cases e
    · cases e
  | .tuple, _ => by
    intro pins s σ H xs us Q I r ⟨F, mu, S, rs, rr, gh, p, e, q⟩
    simp only [biS] at e
    split at e
    · rename_i a
      obtain ⟨v, rfl, ra⟩ := one_of p rfl
      split at e
      · cases e
        cases ra with
        | tup h t => exact call_tuple_of pins s σ H _ us Q I r ⟨_, _, rfl, .inr ⟨sqT_sub gh.sub h, q.same gh (.tup h t)⟩⟩
      · obtain ⟨ds, h1, h2⟩ := Option.map_eq_some_iff.mp e
        subst h2
        obtain ⟨b, ys, rfl, h3, h4⟩ := lsv_at gh h1 ra
        exact call_tuple_of pins s σ H _ us Q I r ⟨b, ys, rfl, .inl ⟨SqL.of h3, fun l hl => q.tup gh h4 hl⟩⟩
    · cases e
  | .list, _ => by
    intro pins s σ H xs us Q I r ⟨F, mu, S, rs, rr, gh, p, e, q⟩
    simp only [biS] at e
    split at e
    · rename_i a
      obtain ⟨v, rfl, ra⟩ := one_of p rfl
      split at e
      · rename_i kvs hd
        cases e
        obtain ⟨b, es, rfl, h3, h4⟩ := dcv_at gh hd ra
        obtain ⟨u, rfl, ru⟩ := vals1 r
        cases ru
        exact listd_core hc I gh h3 h4 q
      · obtain ⟨ds, h1, h2⟩ := Option.map_eq_some_iff.mp e
        subst h2
        obtain ⟨b, ys, rfl, h3, h4⟩ := sqv_at gh h1 ra
        refine call_list_of pins s σ H _ us Q I r ⟨b, ys, rfl, ?_, fun l hl => q.nl gh h4 hl⟩
        rcases h3 with h3 | h3
        · exact .inl (SqL.of h3)
        · exact .inr h3
    · cases e
  | .dict, _ => by
    intro pins s σ H xs us Q I r ⟨F, mu, S, rs, rr, gh, p, e, q⟩
    simp only [biS] at e
    split at e
    · rename_i a
      obtain ⟨v, rfl, ra⟩ := one_of p rfl
      obtain ⟨ds, h1, e⟩ := Option.bind_eq_some_iff.mp e
      obtain ⟨kvs, h2, e⟩ := Option.map_eq_some_iff.mp e
      subst e
      obtain ⟨b, ys, rfl, h3, h4⟩ := lsv_at gh h1 ra
      obtain ⟨u, rfl, ru⟩ := vals1 r
      cases ru
      exact dict_core hc hr I gh h3 h4 h2 q
    · cases e
  | .sum, _ => by
    intro pins s σ H xs us Q I r ⟨F, mu, S, rs, rr, gh, p, e, q⟩
    simp only [biS] at e
    split at e
    · rename_i a
      obtain ⟨v, rfl, ra⟩ := one_of p rfl
      obtain ⟨ds, h1, e⟩ := Option.bind_eq_some_iff.mp e
      obtain ⟨ns, h2, e⟩ := Option.map_eq_some_iff.mp e
      subst e
      obtain ⟨b, rfl, h4⟩ := intsOf gh h1 ra h2
      exact cr_sum hc pins s σ H _ us Q I r ⟨b, ns, rfl, SqL.of h4, q.same gh (.int _)⟩
    · cases e
  | .all, _ => by
    intro pins s σ H xs us Q I r ⟨F, mu, S, rs, rr, gh, p, e, q⟩
    simp only [biS] at e
    split at e
    · rename_i a
      obtain ⟨v, rfl, ra⟩ := one_of p rfl
      obtain ⟨ds, h1, e⟩ := Option.bind_eq_some_iff.mp e
      obtain ⟨ns, h2, e⟩ := Option.map_eq_some_iff.mp e
      subst e
      obtain ⟨b, rfl, h4⟩ := boolsOf gh h1 ra h2
      exact cr_all hc pins s σ H _ us Q I r ⟨b, ns, rfl, SqL.of h4, q.same gh (.bl _)⟩
    · cases e
  | .any, _ => by
    intro pins s σ H xs us Q I r ⟨F, mu, S, rs, rr, gh, p, e, q⟩
    simp only [biS] at e
    split at e
    · rename_i a
      obtain ⟨v, rfl, ra⟩ := one_of p rfl
      obtain ⟨ds, h1, e⟩ := Option.bind_eq_some_iff.mp e
      obtain ⟨ns, h2, e⟩ := Option.map_eq_some_iff.mp e
      subst e
      obtain ⟨b, rfl, h4⟩ := boolsOf gh h1 ra h2
      exact cr_any hc pins s σ H _ us Q I r ⟨b, ns, rfl, SqL.of h4, q.same gh (.bl _)⟩
    · cases e
  | .sorted, _ => by
    intro pins s σ H xs us Q I r ⟨F, mu, S, rs, rr, gh, p, e, q⟩
    simp only [biS] at e
    split at e
    · rename_i a
      obtain ⟨v, rfl, ra⟩ := one_of p rfl
      obtain ⟨ds, h1, e⟩ := Option.bind_eq_some_iff.mp e
      obtain ⟨ns, h2, e⟩ := Option.map_eq_some_iff.mp e
      subst e
      obtain ⟨b, rfl, h4⟩ := intsOf gh h1 ra h2
      refine cr_sortedI pins s σ H _ us Q I r ⟨b, ns, rfl, SqL.of h4, fun ns' p' hp hs hn => ?_⟩
      rw [sorted_unique (hp.trans (sortI_perm ns).symm) hs (sortI_sorted ns)]
      exact q.nl gh (relDs_ints _) hn
    · cases e
end
end Z

set_option Elab.async false
set_option linter.all false
set_option autoImplicit false
set_option maxRecDepth 100000
set_option maxHeartbeats 1000000
/-! Z7: readings. -/
namespace Z
open PySem L2

/-- an exception of the meaning, and one of the heap -/
def ExR (g : Gd) (F : Hp) (mu : List Addr) (H : Hp) (x : Exn) (cls : Value) (d : Option Addr) : Prop :=
  cls = .ref (g.ca x.c) ∧
    match x.arg with
    | none => d = none
    | some (f, dv) => ∃ dd v, d = some dd ∧ H dd = some (.xd [(f, v)]) ∧ RelD g F mu dv v
def PostX (g : Gd) (W : WX) (F : Hp) (mu : List Addr) (σ : L2.St) (H : Hp) (x : Exn) (S' : Sto) : Prop :=
  ∀ F' mu' cls d H', Evo F mu H F' mu' H' → Gh g F' mu' S' H' → ExR g F' mu' H' x cls d → W cls d σ H'
def PostE (g : Gd) (bor : Bool) (W : WX) (F : Hp) (mu : List Addr) (σ : L2.St) (H : Hp) (Q : VK) (r : Res Rv) : Prop :=
  match r with
  | .ok r S' => ∀ F' mu' v H', Evo F mu H F' mu' H' → Gh g F' mu' S' H' → RelR g F' mu' H' r v → (bor = false → New H r v) → Q v H'
  | .ex x S' => PostX g W F mu σ H x S'
  | .bad => False
/-- an expression's reading -/
def RE (g : Gd) (bor : Bool) (W : WX) (f : Env → Sto → Res Rv) : TE := fun σ H Q => ∃ Zh F mu ρ S, SR g Zh F mu ρ S σ H ∧ PostE g bor W F mu σ H Q (f ρ S)
/-- a test's -/
def PostT (g : Gd) (W : WX) (F : Hp) (mu : List Addr) (σ : L2.St) (H : Hp) (Q : Bool → Hp → Prop) (r : Res Rv) : Prop :=
  match r with
  | .ok r S' => ∃ k, tru r S' = some k ∧ ∀ F' mu' H', Evo F mu H F' mu' H' → Gh g F' mu' S' H' → Q k H'
  | .ex x S' => PostX g W F mu σ H x S'
  | .bad => False
def RT (g : Gd) (W : WX) (f : Env → Sto → Res Rv) : TT := fun σ H Q => ∃ Zh F mu ρ S, SR g Zh F mu ρ S σ H ∧ PostT g W F mu σ H Q (f ρ S)
/-- arguments': one by one as they are, or all shared -/
def RelA (g : Gd) (sh : Bool) (F : Hp) (mu : List Addr) (H : Hp) (rs : List Rv) (vs : List V) : Prop :=
  if sh = true then RelDs g F mu (rs.map Rv.shr) vs else Paired (RelR g F mu H) rs vs
def PostA (g : Gd) (sh : Bool) (W : WX) (F : Hp) (mu : List Addr) (σ : L2.St) (H : Hp) (Q : List V → Hp → Prop) (r : Res (List Rv)) : Prop :=
  match r with
  | .ok rs S' => ∀ F' mu' vs H', Evo F mu H F' mu' H' → Gh g F' mu' S' H' → RelA g sh F' mu' H' rs vs → Q vs H'
  | .ex x S' => PostX g W F mu σ H x S'
  | .bad => False
def RA (g : Gd) (sh : Bool) (W : WX) (f : Env → Sto → Res (List Rv)) : TA := fun σ H Q => ∃ Zh F mu ρ S, SR g Zh F mu ρ S σ H ∧ PostA g sh W F mu σ H Q (f ρ S)

section
variable {g : Gd} {bor : Bool} {W : WX} {F F1 : Hp} {mu mu1 : List Addr} {σ : L2.St} {H H1 : Hp} {Q : VK} {Zh : Hp} {ρ : Env} {S : Sto}
theorem PostX.evo {x : Exn} {S' : Sto} (e : Evo F mu H F1 mu1 H1) (p : PostX g W F mu σ H x S') : PostX g W F1 mu1 σ H1 x S' := fun F' mu' cls d H' e' gh r => p F' mu' cls d H' (e.trans e') gh r
theorem New.mono {r : Rv} {v : V} (e : Evo F mu H F1 mu1 H1) (n : New H1 r v) : New H r v := by
  cases r with
  | sh _ => exact trivial
  | nl _ => exact fun a h => Classical.byContradiction fun z => e.dom a z (n a h)
  | nd _ => exact fun a h => Classical.byContradiction fun z => e.dom a z (n a h)
theorem PostE.evo {r : Res Rv} (e : Evo F mu H F1 mu1 H1) (p : PostE g bor W F mu σ H Q r) : PostE g bor W F1 mu1 σ H1 Q r := by
  cases r with
  | ok r S' => exact fun F' mu' v H' e' gh r n => p F' mu' v H' (e.trans e') gh r fun z => (n z).mono e
  | ex x S' => exact PostX.evo e p
  | bad => exact p
theorem PostT.evo {Q : Bool → Hp → Prop} {r : Res Rv} (e : Evo F mu H F1 mu1 H1) (p : PostT g W F mu σ H Q r) : PostT g W F1 mu1 σ H1 Q r := by
  cases r with
  | ok r S' => obtain ⟨k, h, p⟩ := p; exact ⟨k, h, fun F' mu' H' e' gh => p F' mu' H' (e.trans e') gh⟩
  | ex x S' => exact PostX.evo e p
  | bad => exact p
theorem PostA.evo {sh : Bool} {Q : List V → Hp → Prop} {r : Res (List Rv)} (e : Evo F mu H F1 mu1 H1) (p : PostA g sh W F mu σ H Q r) : PostA g sh W F1 mu1 σ H1 Q r := by
  cases r with
  | ok r S' => exact fun F' mu' vs H' e' gh r => p F' mu' vs H' (e.trans e') gh r
  | ex x S' => exact PostX.evo e p
  | bad => exact p
theorem PostE.mono {r : Res Rv} {Q' : VK} (h : ∀ v H', Q v H' → Q' v H') (p : PostE g bor W F mu σ H Q r) : PostE g bor W F mu σ H Q' r := by
  cases r with
  | ok r S' => exact fun F' mu' v H' e' gh r n => h _ _ (p F' mu' v H' e' gh r n)
  | ex x S' => exact p
  | bad => exact p
theorem RE.mono {f : Env → Sto → Res Rv} {Q' : VK} (h : ∀ v H', Q v H' → Q' v H') (p : RE g bor W f σ H Q) : RE g bor W f σ H Q' :=
  let ⟨Zh, F, mu, ρ, S, sr, p⟩ := p; ⟨Zh, F, mu, ρ, S, sr, p.mono h⟩
/-- the state behind a value -/
structure At (g : Gd) (Zh F : Hp) (mu : List Addr) (H : Hp) (ρ : Env) (σ : L2.St) (r : Rv) (S1 : Sto) (v : V) (F1 : Hp) (mu1 : List Addr) (H1 : Hp) : Prop where
  evo : Evo F mu H F1 mu1 H1
  sr : SR g Zh F1 mu1 ρ S1 σ H1
  rel : RelR g F1 mu1 H1 r v
/-- a first value, then the rest -/
theorem RE.bind {f : Env → Sto → Res Rv} {k : Rv → Sto → Res Rv} {b1 : Bool} (sr : SR g Zh F mu ρ S σ H) (p : PostE g bor W F mu σ H Q ((f ρ S).bind k)) :
    RE g b1 W f σ H (fun v H1 => ∃ F1 mu1 r S1, At g Zh F mu H ρ σ r S1 v F1 mu1 H1 ∧ (b1 = false → New H r v) ∧ PostE g bor W F mu σ H Q (k r S1)) := by
  refine ⟨Zh, F, mu, ρ, S, sr, ?_⟩
  cases e : f ρ S with
  | ok r S1 =>
    rw [e] at p
    exact fun F' mu' v H' e' gh rel n => ⟨F', mu', r, S1, ⟨e', sr.evo e' gh, rel⟩, n, p⟩
  | ex x S1 => rw [e] at p; exact p
  | bad => rw [e] at p; exact p
theorem RE.bindT {f : Env → Sto → Res Rv} {k : Rv → Sto → Res Rv} {b1 : Bool} {Q : Bool → Hp → Prop} (sr : SR g Zh F mu ρ S σ H) (p : PostT g W F mu σ H Q ((f ρ S).bind k)) :
    RE g b1 W f σ H (fun v H1 => ∃ F1 mu1 r S1, At g Zh F mu H ρ σ r S1 v F1 mu1 H1 ∧ (b1 = false → New H r v) ∧ PostT g W F mu σ H Q (k r S1)) := by
  refine ⟨Zh, F, mu, ρ, S, sr, ?_⟩
  cases e : f ρ S with
  | ok r S1 =>
    rw [e] at p
    exact fun F' mu' v H' e' gh rel n => ⟨F', mu', r, S1, ⟨e', sr.evo e' gh, rel⟩, n, p⟩
  | ex x S1 => rw [e] at p; exact p
  | bad => rw [e] at p; exact p
theorem RE.bindA {sh : Bool} {f : Env → Sto → Res Rv} {k : Rv → Sto → Res (List Rv)} {b1 : Bool} {Q : List V → Hp → Prop} (sr : SR g Zh F mu ρ S σ H) (p : PostA g sh W F mu σ H Q ((f ρ S).bind k)) :
    RE g b1 W f σ H (fun v H1 => ∃ F1 mu1 r S1, At g Zh F mu H ρ σ r S1 v F1 mu1 H1 ∧ (b1 = false → New H r v) ∧ PostA g sh W F mu σ H Q (k r S1)) := by
  refine ⟨Zh, F, mu, ρ, S, sr, ?_⟩
  cases e : f ρ S with
  | ok r S1 =>
    rw [e] at p
    exact fun F' mu' v H' e' gh rel n => ⟨F', mu', r, S1, ⟨e', sr.evo e' gh, rel⟩, n, p⟩
  | ex x S1 => rw [e] at p; exact p
  | bad => rw [e] at p; exact p
/-- a test, then the rest -/
theorem RT.bind {f : Env → Sto → Res Rv} {k : Rv → Sto → Res Rv} (sr : SR g Zh F mu ρ S σ H) (p : PostE g bor W F mu σ H Q ((f ρ S).bind k)) (ht : ∀ r S1, (k r S1 ≠ .bad) → ∃ b, tru r S1 = some b) :
    RT g W f σ H (fun b H1 => ∃ F1 mu1 r S1, Evo F mu H F1 mu1 H1 ∧ SR g Zh F1 mu1 ρ S1 σ H1 ∧ tru r S1 = some b ∧ PostE g bor W F mu σ H Q (k r S1)) := by
  refine ⟨Zh, F, mu, ρ, S, sr, ?_⟩
  cases e : f ρ S with
  | ok r S1 =>
    rw [e] at p
    have p' : PostE g bor W F mu σ H Q (k r S1) := p
    obtain ⟨b, hb⟩ := ht r S1 (fun z => by rw [z] at p'; exact p')
    exact ⟨b, hb, fun F' mu' H' e' gh => ⟨F', mu', r, S1, e', sr.evo e' gh, hb, p'⟩⟩
  | ex x S1 => rw [e] at p; exact p
  | bad => rw [e] at p; exact p
theorem RT.bindT {f : Env → Sto → Res Rv} {k : Rv → Sto → Res Rv} {Q : Bool → Hp → Prop} (sr : SR g Zh F mu ρ S σ H) (p : PostT g W F mu σ H Q ((f ρ S).bind k)) (ht : ∀ r S1, (k r S1 ≠ .bad) → ∃ b, tru r S1 = some b) :
    RT g W f σ H (fun b H1 => ∃ F1 mu1 r S1, Evo F mu H F1 mu1 H1 ∧ SR g Zh F1 mu1 ρ S1 σ H1 ∧ tru r S1 = some b ∧ PostT g W F mu σ H Q (k r S1)) := by
  refine ⟨Zh, F, mu, ρ, S, sr, ?_⟩
  cases e : f ρ S with
  | ok r S1 =>
    rw [e] at p
    have p' : PostT g W F mu σ H Q (k r S1) := p
    obtain ⟨b, hb⟩ := ht r S1 (fun z => by rw [z] at p'; exact p')
    exact ⟨b, hb, fun F' mu' H' e' gh => ⟨F', mu', r, S1, e', sr.evo e' gh, hb, p'⟩⟩
  | ex x S1 => rw [e] at p; exact p
  | bad => rw [e] at p; exact p
theorem RT.mono {f : Env → Sto → Res Rv} {Q Q' : Bool → Hp → Prop} (h : ∀ v H', Q v H' → Q' v H') (p : RT g W f σ H Q) : RT g W f σ H Q' := by
  obtain ⟨Zh, F, mu, ρ, S, sr, p⟩ := p
  refine ⟨Zh, F, mu, ρ, S, sr, ?_⟩
  cases e : f ρ S with
  | ok r S1 => rw [e] at p; obtain ⟨k, h1, p⟩ := p; exact ⟨k, h1, fun F' mu' H' e' gh => h _ _ (p F' mu' H' e' gh)⟩
  | ex x S1 => rw [e] at p; exact p
  | bad => rw [e] at p; exact p
/-- arguments, then the rest -/
theorem RA.bind {sh : Bool} {f : Env → Sto → Res (List Rv)} {k : List Rv → Sto → Res Rv} (sr : SR g Zh F mu ρ S σ H) (p : PostE g bor W F mu σ H Q ((f ρ S).bind k)) :
    RA g sh W f σ H (fun vs H1 => ∃ F1 mu1 rs S1, Evo F mu H F1 mu1 H1 ∧ SR g Zh F1 mu1 ρ S1 σ H1 ∧ RelA g sh F1 mu1 H1 rs vs ∧ PostE g bor W F mu σ H Q (k rs S1)) := by
  refine ⟨Zh, F, mu, ρ, S, sr, ?_⟩
  cases e : f ρ S with
  | ok r S1 =>
    rw [e] at p
    exact fun F' mu' v H' e' gh rel => ⟨F', mu', r, S1, e', sr.evo e' gh, rel, p⟩
  | ex x S1 => rw [e] at p; exact p
  | bad => rw [e] at p; exact p
theorem RA.mono {sh : Bool} {f : Env → Sto → Res (List Rv)} {Q Q' : List V → Hp → Prop} (h : ∀ v H', Q v H' → Q' v H') (p : RA g sh W f σ H Q) : RA g sh W f σ H Q' := by
  obtain ⟨Zh, F, mu, ρ, S, sr, p⟩ := p
  refine ⟨Zh, F, mu, ρ, S, sr, ?_⟩
  cases e : f ρ S with
  | ok r S1 => rw [e] at p; exact fun F' mu' vs H' e' gh rel => h _ _ (p F' mu' vs H' e' gh rel)
  | ex x S1 => rw [e] at p; exact p
  | bad => rw [e] at p; exact p
/-- behind a pure operation -/
theorem PostE.pst {r : Rv} {S' : Sto} (p : PostE g bor W F mu σ H Q (.ok r S')) : Pst g F mu S' H r Q := fun F' v H' e gh rel n => p F' mu v H' e gh rel fun _ => n
theorem PostE.opt {o : Option Rv} {S' : Sto} (p : PostE g bor W F mu σ H Q (optR o S')) : ∃ r, o = some r ∧ Pst g F mu S' H r Q := by
  cases o with
  | none => exact p.elim
  | some r => exact ⟨r, rfl, PostE.pst p⟩
theorem PostE.optB {o : Option Bool} {S' : Sto} (p : PostE g bor W F mu σ H Q (optB o S')) : ∃ b, o = some b ∧ Pst g F mu S' H (.sh (.bl b)) Q := by
  cases o with
  | none => exact p.elim
  | some r => exact ⟨r, rfl, PostE.pst p⟩
theorem At.to {r : Rv} {S1 : Sto} {v : V} {mu2 : List Addr} {F2 H2 : Hp} (a : At g Zh F mu H ρ σ r S1 v F1 mu1 H1) (e : Evo F1 mu1 H1 F2 mu2 H2) : RelR g F2 mu2 H2 r v := a.rel.evo e a.sr.gh.sub

/-! ### weaker readings -/
theorem PE.weak {X : Cx} {e : Expr} {t t' : TE} (h : PE X e t) (w : ∀ σ H Q, t' σ H Q → t σ H Q) : PE X e t' := ⟨fun pins s σ H Q I q => h.run pins s σ H Q I (w σ H Q q)⟩
theorem PT.weak {X : Cx} {e : Expr} {t t' : TT} (h : PT X e t) (w : ∀ σ H Q, t' σ H Q → t σ H Q) : PT X e t' := ⟨fun pins s σ H Q I q => h.run pins s σ H Q I (w σ H Q q)⟩
theorem PW.weak {X : Cx} {e : Expr} {t t' : TT} (h : PW X e t) (w : ∀ σ H Q, t' σ H Q → t σ H Q) : PW X e t' := ⟨fun wh pins s σ H Q I q => h.run wh pins s σ H Q I (w σ H Q q)⟩
theorem PA.weak {X : Cx} {e : List Expr} {t t' : TA} (h : PA X e t) (w : ∀ σ H Q, t' σ H Q → t σ H Q) : PA X e t' := ⟨fun pos pins s σ H Q I q => h.run pos pins s σ H Q I (w σ H Q q)⟩
theorem PS.weak {X : Cx} {e : Stmt} {t t' : TS} (h : PS X e t) (w : ∀ D σ H, t' D σ H → t D σ H) : PS X e t' := ⟨fun pins s σ H D I q => h.run pins s σ H D I (w D σ H q)⟩
theorem PSs.weak {X : Cx} {e : List Stmt} {t t' : TS} (h : PSs X e t) (w : ∀ D σ H, t' D σ H → t D σ H) : PSs X e t' := ⟨fun pins s σ H D I q => h.run pins s σ H D I (w D σ H q)⟩
/-- fresh is more than borrowed -/
theorem RE.esc {f : Env → Sto → Res Rv} (p : RE g true W f σ H Q) : RE g false W f σ H Q := by
  obtain ⟨Zh, F, mu, ρ, S, sr, p⟩ := p
  refine ⟨Zh, F, mu, ρ, S, sr, ?_⟩
  cases e : f ρ S with
  | ok r S1 => rw [e] at p; exact fun F' mu' v H' e' gh rel n => p F' mu' v H' e' gh rel fun z => nomatch z
  | ex x S1 => rw [e] at p; exact p
  | bad => rw [e] at p; exact p
end
end Z

set_option Elab.async false
set_option linter.all false
set_option autoImplicit false
set_option maxRecDepth 100000
set_option maxHeartbeats 1000000
/-! Z8: what a for walks. -/
namespace Z
open PySem L2

/-- a tuple (k) or a list -/
def SqK (k : Bool) (K : PySem.W.Frag) (H : Hp) (a : Addr) (xs : List V) : Prop := if k = true then SqT K H a xs else SqL K H a xs
def SeqH (k : Bool) (h : Heap) (a : Addr) (items : Array Value) : Prop := if k = true then h.IsTuple a items else h.IsList a items
def SeqIt (k : Bool) (h : Heap) (it a : Addr) (i : Nat) : Prop := if k = true then h.IsTupleIter it a i else h.IsListIter it a i
section
variable {X : Cx} {pins : List (Addr × Obj)} {σ : L2.St} {H : Hp} {s : Shared}
theorem sqK_at (I : L2.Inv X pins σ H s) {k : Bool} {a : Addr} {xs : List V} (h : SqK k X.K H a xs) : ∃ its : List Value, Vals xs its ∧ SeqH k s.heap a its.toArray ∧ a < s.heap.objs.size := by
  cases k with
  | true =>
    obtain ⟨its, rv, p, _⟩ := I.tuple (show SqT X.K H a xs from h)
    exact ⟨its, rv, p, p.lt⟩
  | false =>
    obtain ⟨its, rv, p, _⟩ := I.list (show SqL X.K H a xs from h)
    exact ⟨its, rv, p.isList, p.lt⟩
theorem sqK_inj (I : L2.Inv X pins σ H s) {k : Bool} {a : Addr} {xs ys : List V} (h : SqK k X.K H a xs) (h' : SqK k X.K H a ys) : xs = ys := by
  cases k with
  | true => exact I.tuple_inj (show SqT X.K H a xs from h) h'
  | false => exact I.list_inj (show SqL X.K H a xs from h) h'
end
theorem draws_of {prog : Program} {w : World} {A : Around} (hh : A.handled = none) (k : Bool) (it a : Addr) (hne : a ≠ it) (items : Array Value) :
    Draws prog w A it [it, a] items.size (fun i v => items[i]? = some v) (fun i h => SeqIt k h it a i ∧ SeqH k h a items) := by
  cases k with
  | true => exact Draws.tuple hh it a hne items
  | false => exact Draws.list hh it a hne items
def itObj (k : Bool) (a : Addr) : Obj := { cls := .type (if k = true then "tuple_iterator" else "list_iterator"), data := .fields #[.ref a, .int 0 0] }
theorem begins_of (k : Bool) (a : Addr) (items : Array Value) : Begins (.ref a) (itObj k a) (fun h => SeqH k h a items) := by
  cases k with
  | true => exact begins_tuple a items
  | false => exact begins_list a items
theorem seqIt_obj {k : Bool} {h : Heap} {it a : Addr} {i : Nat} (x : SeqIt k h it a i) : ∃ o, h.get? it = some o ∧ o.data = .fields #[.ref a, .int i 0] := by
  cases k with
  | true => obtain ⟨o, h1, _, h3⟩ := (show h.IsTupleIter it a i from x); exact ⟨o, h1, h3⟩
  | false => obtain ⟨o, h1, _, h3⟩ := (show h.IsListIter it a i from x); exact ⟨o, h1, h3⟩
theorem seqIt_at {k : Bool} {h h' : Heap} {it a : Addr} {i : Nat} (x : SeqIt k h it a i) (e : ∀ o, h.get? it = some o → h'.get? it = some o) : SeqIt k h' it a i := by
  cases k with
  | true => obtain ⟨o, h1, h2⟩ := (show h.IsTupleIter it a i from x); exact ⟨o, e o h1, h2⟩
  | false => obtain ⟨o, h1, h2⟩ := (show h.IsListIter it a i from x); exact ⟨o, e o h1, h2⟩
theorem seqIt_begin {k : Bool} {h : Heap} {it a : Addr} (e : h.get? it = some (itObj k a)) : SeqIt k h it a 0 := by
  cases k with
  | true => exact ⟨_, e, rfl, rfl⟩
  | false => exact ⟨_, e, rfl, rfl⟩

/-! ### enumerate(xs) of a list or a tuple -/
def IteK (k : Bool) (K : PySem.W.Frag) (a : Addr) : It :=
  ⟨fun i H => ∃ (xs : List V) (x : V), SqK k K H a xs ∧ xs[i]? = some x, fun i H v H' => ∃ T x, v = .ref T ∧ H T = none ∧ H' = upd H T (.tup [.int (i : Nat), x]) ∧ ∀ xs, SqK k K H a xs → xs[i]? = some x, fun i H => ∃ xs : List V, SqK k K H a xs ∧ xs.length ≤ i⟩
theorem turn_enumK {P : Program} {w : World} {K : PySem.W.Frag} {elts : List Expr} {kk : Nat} {tpos : Pos} (k : Bool) (a e it : Addr) :
    Turn P w K (.Tuple elts kk tpos) (IteK k K a) [e, it] e (fun i h => (∃ old, IsEnum h e it ((i : Nat) : Int) old) ∧ SeqIt k h it a i ∧ e ≠ it ∧ a ≠ it ∧ a ≠ e) where
  mem := by simp
  obj := fun i h st b hb => by
    obtain ⟨⟨old, he⟩, hi, _⟩ := st
    obtain ⟨o, ho, hd⟩ := seqIt_obj hi
    have e' : b = e ∨ b = it := by simpa using hb
    rcases e' with z | z
    · rw [z]; exact ⟨_, he, fun v q => nomatch q⟩
    · rw [z]; exact ⟨o, ho, fun v q => by rw [hd] at q; cases q⟩
  keep := fun i h h' st k => let ⟨⟨old, he⟩, hi, hne⟩ := st; ⟨⟨old, k e (by simp) _ he⟩, seqIt_at hi fun o q => k it (by simp) o q, hne⟩
  item := by
    intro X hP hw hK hc i pins s σ H E I hf st hg
    subst hP hw hK
    obtain ⟨⟨old, he⟩, hit, hne, hai, hae⟩ := st
    obtain ⟨xs, x, hq, hx⟩ := hg
    obtain ⟨its, rv, p, hz⟩ := sqK_at I hq
    obtain ⟨u, hu, ru⟩ := rv.get hx
    have hel : e < s.heap.objs.size := Heap.lt_size he
    have hil : it < s.heap.objs.size := by obtain ⟨_, q, _⟩ := seqIt_obj hit; exact Heap.lt_size q
    have hlt : i < its.toArray.size := by
      have := (List.getElem?_eq_some_iff.mp hu).1
      simpa using this
    refine wpAny_pyNext_enum_itemD (draws_of (prog := X.prog) (w := X.w) (show X.A.in1.handled = none from I.ok.hd hc) k it a hai its.toArray) he ⟨hit, p⟩ hlt hne (by simp [hne, Ne.symm hae]) fun x' h' tk hx' ho st' hT hsz hk => ?_
    have hux : x' = u := by
      have : its.toArray[i]? = some x' := hx'
      simp at this
      rw [hu] at this
      exact (Option.some.inj this).symm
    subst hux
    refine ⟨_, rfl, wpAny_letOwnedTupleGo_enum (s := { s with heap := h', toks := tk + 1 }) ho fun h'' he' sb => ?_⟩
    have hT2 : h''.get? s.heap.objs.size = some { cls := .type "tuple", data := .seq #[.int i tk, x'] } := (sb.2 _ (Nat.ne_of_gt hel)).trans hT
    have new : ObjOk X.prog X.w (upd H s.heap.objs.size (.tup [.int (i : Nat), x])) h'' s.heap.objs.size (.tup [.int (i : Nat), x]) :=
      ⟨by show 2 ≤ sizeLine; decide, [.int i tk, x'], .cons ⟨_, rfl⟩ (.cons ru .nil), ⟨_, hT2, rfl, _, rfl⟩⟩
    have I1 : L2.Inv X pins σ (upd H s.heap.objs.size (.tup [.int (i : Nat), x])) { s with heap := h'', toks := tk + 1 } :=
      I.turnedNew (ch := [e, it]) (fun b ob hb q => (sb.2 b (fun z => hb (by simp [z]))).trans (hk b ob (fun z => hb (by simp [z])) (fun z => hb (by simp [z])) q)) hf (Nat.le_refl _) new
    refine ⟨.ref s.heap.objs.size, _, I1, rfl, ⟨_, x, rfl, I.hok.fresh (Nat.le_refl _), rfl, fun ys hy => by rw [sqK_inj I hy hq]; exact hx⟩, ⟨⟨x', ?_⟩, seqIt_at st'.1 fun o q => (sb.2 it (Ne.symm hne)).trans q, hne, hai, hae⟩, fun b hb => ?_⟩
    · have e1 : ((i + 1 : Nat) : Int) = (i : Int) + 1 := by omega
      rw [e1]; exact he'
    · have hb' : b < s.heap.objs.size := by
        have e' : b = e ∨ b = it := by simpa using hb
        rcases e' with z | z
        · rw [z]; exact hel
        · rw [z]; exact hil
      rw [upd_ne (Nat.ne_of_lt hb')]
      exact (hf b hb).1
  done := by
    intro X hP hw hK hc i pins s σ H E I hf st hg
    subst hP hw hK
    obtain ⟨⟨old, he⟩, hit, hne, hai, hae⟩ := st
    obtain ⟨xs, hq, hx⟩ := hg
    obtain ⟨its, rv, p, hz⟩ := sqK_at I hq
    obtain ⟨f0, f1, f2, f3, f4, f5⟩ := hf it (by simp)
    have hl := rv.length
    have hend : its.toArray[i]? = none := by simp; omega
    cases k with
    | false =>
      exact wpAny_pyNext_enum_end (I.ok.hd hc) he hit p hend fun h' eb => ⟨rfl, I.turned (t' := s.toks) (fun b o hb q => eb b o hb q) f0 f1 f3 f4 f5⟩
    | true =>
      -- the tuple's iterator has ended at its length
      have D : Draws X.prog X.w X.A.in1 it [it, a] i (fun j v => its.toArray[j]? = some v ∧ j < i) (fun j h => j = i ∧ h.IsTupleIter it a i ∧ h.IsTuple a its.toArray) :=
        { live := fun j h st => let ⟨o, h1, _⟩ := st.2.1; ⟨o, h1⟩
          frame := fun j h h' st kk => ⟨st.1, st.2.1.at fun o q => kk it (by simp) o q, st.2.2.at fun o q => kk a (by simp) o q⟩
          item := fun j s' Q E hj st _ => absurd hj (by rw [st.1]; exact Nat.lt_irrefl _)
          done := fun s' Q E st hE => wpAny_nextOf_tuple_end (show X.A.in1.handled = none from I.ok.hd hc) st.2.1 st.2.2 hend hE }
      exact wpAny_pyNext_enum_endD D he ⟨rfl, hit, p⟩ fun h' eb => ⟨rfl, I.turned (t' := s.toks) (fun b o hb q => eb b o hb q) f0 f1 f3 f4 f5⟩
  self := fun A i s Q E st h => let ⟨⟨_, he⟩, _⟩ := st; wpAny_pyIter_enum he h

/-! ### zip(xs, ys) of lists and tuples in any mix -/
def ItzK (k1 k2 : Bool) (K : PySem.W.Frag) (a b : Addr) : It :=
  ⟨fun i H => ∃ (xs ys : List V) (x y : V), SqK k1 K H a xs ∧ SqK k2 K H b ys ∧ xs[i]? = some x ∧ ys[i]? = some y,
    fun i H v H' => ∃ T x y, v = .ref T ∧ H T = none ∧ H' = upd H T (.tup [x, y]) ∧ (∀ xs, SqK k1 K H a xs → xs[i]? = some x) ∧ ∀ ys, SqK k2 K H b ys → ys[i]? = some y,
    fun i H => ∃ xs ys : List V, SqK k1 K H a xs ∧ SqK k2 K H b ys ∧ ((xs.length = i ∧ i ≤ ys.length) ∨ (ys.length = i ∧ i ≤ xs.length))⟩
structure Apart (z TI TO i1 i2 a b : Addr) : Prop where
  s : ZipSep2 z TI TO i1 i2 [i1, a] [i2, b]
  TIi : TI ≠ i1 ∧ TI ≠ i2
theorem turn_zipK {P : Program} {w : World} {K : PySem.W.Frag} {elts : List Expr} {kk : Nat} {tpos : Pos} (k1 k2 : Bool) {a b z TI TO i1 i2 : Addr} (D : Apart z TI TO i1 i2 a b) :
    Turn P w K (.Tuple elts kk tpos) (ItzK k1 k2 K a b) [z, TI, TO, i1, i2] z (fun i h => IsZip h z TI TO .none ∧ IsTupOf2 h TI (.ref i1) (.ref i2) ∧ (∃ x y, IsTupOf2 h TO x y) ∧ SeqIt k1 h i1 a i ∧ SeqIt k2 h i2 b i) where
  mem := by simp
  obj := fun i h st c hc => by
    obtain ⟨hz, hTI, ⟨x, y, hTO⟩, h1, h2⟩ := st
    obtain ⟨o1, e1, d1⟩ := seqIt_obj h1
    obtain ⟨o2, e2, d2⟩ := seqIt_obj h2
    have e' : c = z ∨ c = TI ∨ c = TO ∨ c = i1 ∨ c = i2 := by simpa using hc
    rcases e' with q | q | q | q | q
    · rw [q]; exact ⟨_, hz, fun v q => nomatch q⟩
    · rw [q]; exact ⟨_, hTI, fun v q => nomatch q⟩
    · rw [q]; exact ⟨_, hTO, fun v q => nomatch q⟩
    · rw [q]; exact ⟨o1, e1, fun v q => by rw [d1] at q; cases q⟩
    · rw [q]; exact ⟨o2, e2, fun v q => by rw [d2] at q; cases q⟩
  keep := fun i h h' st k => by
    obtain ⟨hz, hTI, ⟨x, y, hTO⟩, h1, h2⟩ := st
    exact ⟨k z (by simp) _ hz, k TI (by simp) _ hTI, ⟨x, y, k TO (by simp) _ hTO⟩, seqIt_at h1 fun o q => k i1 (by simp) o q, seqIt_at h2 fun o q => k i2 (by simp) o q⟩
  item := by
    intro X hP hw hK hc i pins s σ H E I hf st hg
    subst hP hw hK
    obtain ⟨hz, hTI, ⟨x0, y0, hTO⟩, h1, h2⟩ := st
    obtain ⟨xs, ys, x, y, hqx, hqy, hx, hy⟩ := hg
    obtain ⟨its, rv, p, _⟩ := sqK_at I hqx
    obtain ⟨its2, rv2, p2, _⟩ := sqK_at I hqy
    obtain ⟨u, hu, ru⟩ := rv.get hx
    obtain ⟨u2, hu2, ru2⟩ := rv2.get hy
    have hzl : z < s.heap.objs.size := Heap.lt_size hz
    have hh : X.A.in1.handled = none := I.ok.hd hc
    have a1 : a ≠ i1 := fun q => by
      obtain ⟨_, rr, hs, hl⟩ := sqK_at I hqx
      obtain ⟨o, e, d⟩ := seqIt_obj h1
      cases k1 with
      | true => obtain ⟨o', e', _, _, d'⟩ := (show s.heap.IsTuple a _ from hs); rw [q, e] at e'; cases e'; rw [d] at d'; cases d'
      | false => obtain ⟨o', e', _, _, d'⟩ := (show s.heap.IsList a _ from hs); rw [q, e] at e'; cases e'; rw [d] at d'; cases d'
    have b2 : b ≠ i2 := fun q => by
      obtain ⟨_, rr, hs, hl⟩ := sqK_at I hqy
      obtain ⟨o, e, d⟩ := seqIt_obj h2
      cases k2 with
      | true => obtain ⟨o', e', _, _, d'⟩ := (show s.heap.IsTuple b _ from hs); rw [q, e] at e'; cases e'; rw [d] at d'; cases d'
      | false => obtain ⟨o', e', _, _, d'⟩ := (show s.heap.IsList b _ from hs); rw [q, e] at e'; cases e'; rw [d] at d'; cases d'
    have l1 : i < its.toArray.size := by have := (List.getElem?_eq_some_iff.mp hu).1; simpa using this
    have l2 : i < its2.toArray.size := by have := (List.getElem?_eq_some_iff.mp hu2).1; simpa using this
    refine wpAny_pyNext_zipD2_item D.s (draws_of (prog := X.prog) (w := X.w) hh k1 i1 a a1 its.toArray) (draws_of (prog := X.prog) (w := X.w) hh k2 i2 b b2 its2.toArray) hz hTI hTO ⟨h1, p⟩ ⟨h2, p2⟩ l1 l2 fun x1 x2 h' tk e1 e2 z' TO' st1 st2 hT hsz hk => ?_
    have q1 : x1 = u := by
      have : its.toArray[i]? = some x1 := e1
      simp at this
      rw [hu] at this
      exact (Option.some.inj this).symm
    have q2 : x2 = u2 := by
      have : its2.toArray[i]? = some x2 := e2
      simp at this
      rw [hu2] at this
      exact (Option.some.inj this).symm
    subst q1 q2
    refine ⟨_, rfl, wpAny_letOwnedTupleGo_zip (s := { s with heap := h', toks := tk }) z' fun h'' z'' sb => ?_⟩
    have hT2 : h''.get? s.heap.objs.size = some { cls := .type "tuple", data := .seq #[x1, x2] } := (sb.2 _ (Nat.ne_of_gt hzl)).trans hT
    have new : ObjOk X.prog X.w (upd H s.heap.objs.size (.tup [x, y])) h'' s.heap.objs.size (.tup [x, y]) :=
      ⟨by show 2 ≤ sizeLine; decide, [x1, x2], .cons ru (.cons ru2 .nil), ⟨_, hT2, rfl, _, rfl⟩⟩
    have I1 : L2.Inv X pins σ (upd H s.heap.objs.size (.tup [x, y])) { s with heap := h'', toks := tk } :=
      I.turnedNew (t' := tk) (ch := [z, TI, TO, i1, i2]) (fun c o hb q => (sb.2 c (fun q' => hb (by simp [q']))).trans (hk c o (fun q' => hb (by simp [q'])) (fun q' => hb (by simp [q'])) (fun q' => hb (by simp [q'])) (fun q' => hb (by simp [q'])) q)) hf (Nat.le_refl _) new
    refine ⟨.ref s.heap.objs.size, _, I1, rfl, ⟨_, x, y, rfl, I.hok.fresh (Nat.le_refl _), rfl, fun l hl => by rw [sqK_inj I hl hqx]; exact hx, fun l hl => by rw [sqK_inj I hl hqy]; exact hy⟩, ⟨z'', ?_, ⟨x1, x2, ?_⟩, ?_, ?_⟩, fun c hcm => ?_⟩
    · exact (sb.2 _ D.s.TIz).trans (hk _ _ D.s.TIz D.s.TITO D.TIi.1 D.TIi.2 hTI)
    · exact (sb.2 _ D.s.TOz).trans TO'
    · exact seqIt_at st1.1 fun o q => (sb.2 _ (Ne.symm D.s.zi1)).trans q
    · exact seqIt_at st2.1 fun o q => (sb.2 _ (Ne.symm D.s.zi2)).trans q
    · have hlt : c < s.heap.objs.size := by
        obtain ⟨_, e1, _⟩ := seqIt_obj h1
        obtain ⟨_, e2, _⟩ := seqIt_obj h2
        have e' : c = z ∨ c = TI ∨ c = TO ∨ c = i1 ∨ c = i2 := by simpa using hcm
        rcases e' with q | q | q | q | q
        · rw [q]; exact hzl
        · rw [q]; exact Heap.lt_size hTI
        · rw [q]; exact Heap.lt_size hTO
        · rw [q]; exact Heap.lt_size e1
        · rw [q]; exact Heap.lt_size e2
      rw [upd_ne (Nat.ne_of_lt hlt)]
      exact (hf c hcm).1
  done := by
    intro X hP hw hK hc i pins s σ H E I hf st hg
    subst hP hw hK
    obtain ⟨hz, hTI, ⟨x0, y0, hTO⟩, h1, h2⟩ := st
    obtain ⟨xs, ys, hqx, hqy, hend⟩ := hg
    obtain ⟨its, rv, p, _⟩ := sqK_at I hqx
    obtain ⟨its2, rv2, p2, _⟩ := sqK_at I hqy
    have hh : X.A.in1.handled = none := I.ok.hd hc
    have a1 : a ≠ i1 := fun q => by
      obtain ⟨o, e, d⟩ := seqIt_obj h1
      cases k1 with
      | true => obtain ⟨o', e', _, _, d'⟩ := (show s.heap.IsTuple a _ from p); rw [q, e] at e'; cases e'; rw [d] at d'; cases d'
      | false => obtain ⟨o', e', _, _, d'⟩ := (show s.heap.IsList a _ from p); rw [q, e] at e'; cases e'; rw [d] at d'; cases d'
    have b2 : b ≠ i2 := fun q => by
      obtain ⟨o, e, d⟩ := seqIt_obj h2
      cases k2 with
      | true => obtain ⟨o', e', _, _, d'⟩ := (show s.heap.IsTuple b _ from p2); rw [q, e] at e'; cases e'; rw [d] at d'; cases d'
      | false => obtain ⟨o', e', _, _, d'⟩ := (show s.heap.IsList b _ from p2); rw [q, e] at e'; cases e'; rw [d] at d'; cases d'
    have l1 := rv.length
    have l2 := rv2.length
    have z1 : its.toArray.size = xs.length := by simp [l1]
    have z2 : its2.toArray.size = ys.length := by simp [l2]
    refine wpAny_pyNext_zipD2_end D.s (draws_of (prog := X.prog) (w := X.w) hh k1 i1 a a1 its.toArray) (draws_of (prog := X.prog) (w := X.w) hh k2 i2 b b2 its2.toArray) hz hTI hTO ⟨h1, p⟩ ⟨h2, p2⟩ (by rw [z1]; omega) (by rw [z2]; omega) (by rw [z1, z2]; omega) fun h' tk hk => ⟨rfl, I.turnedL (t' := tk) (ch := [z, TI, TO, i1, i2]) (fun c o hb q =>
      hk c o (fun q' => hb (by simp [q'])) (fun q' => hb (by simp [q'])) (fun q' => hb (by simp [q'])) (fun q' => hb (by simp [q'])) q) hf⟩
  self := fun A i s Q E st h => wpAny_pyIter_zip st.1 h

/-! ### the keys of a locked dict -/
def ItX (P : Program) (w : World) (d : Addr) (o : Obj) (es : List Ent) : It :=
  ⟨fun i H => H d = some (.frz o (dO P w d es)) ∧ i < es.length, fun i H x H' => H' = H ∧ ∃ e, es[i]? = some e ∧ x = .ref e.2.1, fun i H => H d = some (.frz o (dO P w d es)) ∧ es.length ≤ i⟩
section
variable {X : Cx} {pins : List (Addr × Obj)} {σ : L2.St} {H : Hp} {s : Shared} {d : Addr} {o : Obj} {es : List Ent}
theorem frzX (I : L2.Inv X pins σ H s) (hd : H d = some (.frz o (dO X.prog X.w d es))) : (d == sysModules) = false ∧ s.heap.get? d = some o ∧ o.ExactDict ∧ ∃ ents ep, o.data = .dict ents ep ∧ ents.size = es.length ∧
    ∀ (i : Nat) (e : Ent), es[i]? = some e → ∃ en : DictEntry, ents[i]? = some en ∧ en.key = Value.ref e.2.1 := by
  obtain ⟨hg, ⟨hz, hm, xs, p, o', ents, ep, h1, h2, h3, h4, h5⟩, _, _⟩ := I.hok d _ hd
  rw [hg] at h1
  cases h1
  have hl := Paired.length p
  refine ⟨hm, hg, h2, ents, ep, h3, by rw [size_of_entries h4, hl], fun i e he => ?_⟩
  have get : ∀ {es : List Ent} {xs : List (NestedKey × Addr × Value)} {i : Nat} {e : Ent}, Paired EntR es xs → es[i]? = some e → ∃ x, xs[i]? = some x ∧ EntR e x := by
    intro es xs i e p
    induction p generalizing i with
    | nil => intro h; simp at h
    | cons h t ih =>
      intro q
      cases i with
      | zero => simp at q; subst q; exact ⟨_, rfl, h⟩
      | succ i => obtain ⟨x, h1, h2⟩ := ih (i := i) (by simpa using q); exact ⟨x, by simpa using h1, h2⟩
  obtain ⟨x, hx, h6, h7, _⟩ := get p he
  have q := entry_at h4 i
  rw [hx] at q
  exact ⟨_, q, by rw [h7]; rfl⟩
end
theorem turn_keysX {P : Program} {w : World} {K : PySem.W.Frag} {tg : Expr} {d : Addr} {o : Obj} {ents : Array DictEntry} {ep : Nat} {es : List Ent} (it : Addr) (hod : o.data = .dict ents ep) : Turn P w K tg (ItX P w d o es) [it] it (fun i h => h.IsKeyIter it d i es.length ep) where
  mem := by simp
  obj := fun i h st b hb => by
    have e : b = it := by simpa using hb
    subst e
    obtain ⟨oi, e, c, dd⟩ := st
    exact ⟨oi, e, fun v z => by rw [dd] at z; cases z⟩
  keep := fun i h h' st k => st.at fun oi e => k it (by simp) oi e
  item := by
    intro X hP hw hK hc i pins s σ H E I hf st hg
    subst hP hw hK
    obtain ⟨hd, hi⟩ := hg
    obtain ⟨f0, f1, f2, f3, f4, f5⟩ := hf it (by simp)
    obtain ⟨hs, hgd, hx, es', ep', hdt, hsz, ent⟩ := frzX I hd
    obtain ⟨rfl, rfl⟩ := dict_ep hod hdt
    obtain ⟨en, hen, hkey⟩ := ent i es[i] (List.getElem?_eq_getElem hi)
    refine next_key_item st hgd hdt hsz hen fun h' st' sb => ?_
    have I1 : L2.Inv X pins σ H { s with heap := h' } := I.turned (t' := s.toks) (fun b ob hb e => (sb.2 b hb).trans e) f0 f1 f3 f4 f5
    obtain ⟨oi, e, c, dd⟩ := id st'
    exact ⟨en.key, rfl, go_of (s := { s with heap := h' }) e c dd (by decide) ⟨.ref es[i].2.1, H, I1, hkey, ⟨rfl, es[i], List.getElem?_eq_getElem hi, rfl⟩, st', fun b hb => (hf b hb).1⟩⟩
  done := by
    intro X hP hw hK hc i pins s σ H E I hf st hg
    subst hP hw hK
    obtain ⟨hd, hi⟩ := hg
    obtain ⟨f0, f1, f2, f3, f4, f5⟩ := hf it (by simp)
    obtain ⟨hs, hgd, hx, es', ep', hdt, hsz, ent⟩ := frzX I hd
    obtain ⟨rfl, rfl⟩ := dict_ep hod hdt
    exact next_key_end (I.ok.hd hc) st hgd hdt hsz hi fun h' eb => ⟨rfl, I.turned (t' := s.toks) (fun b o hb e => eb b o hb e) f0 f1 f3 f4 f5⟩
  self := fun A i s Q E st h => by
    refine wpAny_pyIter_slot st.typeIs F.slot_dict_keyiterator_iter (wpAny_call_entry F.slot_dict_keyiterator_iter st.typeIs F.entry_dict_keyiterator_iter ?_ (F.args_dict_keyiterator_iter_1 _))
    show wpAny _ _ (ret (.ref it)) _ _ s
    exact wpAny_pure ⟨_, rfl, "dict_keyiterator", _, st.typeIs, F.slot_dict_keyiterator_next.lookup, h⟩
end Z

set_option Elab.async false
set_option linter.all false
set_option autoImplicit false
set_option maxRecDepth 100000
set_option maxHeartbeats 1000000
/-! Z9: what a for walks, by the meaning. -/
namespace Z
open PySem L2

/-- J walks ds: rs are the values walked, vs where they stand; F0: the ground at its beginning -/
def ItS (g : Gd) (F0 : Hp) (mu0 : List Addr) (J : It) (rs : List Rv) (vs : List V) (ds : List D) : Prop :=
  ∀ F mu S H i, Gh g F mu S H → Fle F0 F → mu0 <+: mu → Paired (RelR g F mu H) rs vs →
    (i < ds.length → J.go i H ∧ ∀ x H', J.yld i H x H' → ∃ F' d, ds[i]? = some d ∧ Evo F mu H F' mu H' ∧ Gh g F' mu S H' ∧ RelD g F' mu d x) ∧ (i = ds.length → J.stop i H)
def AllSh (rs : List Rv) : Prop := ∀ r ∈ rs, ∃ d, r = .sh d
def PostI (g : Gd) (stm : Bool) (W : WX) (F : Hp) (mu : List Addr) (σ : L2.St) (H : Hp) (R : It → Hp → Prop) (r : Res (List D)) : Prop :=
  match r with
  | .ok ds S' => ∀ F' mu' J H' rs vs, Evo F mu H F' mu' H' → Gh g F' mu' S' H' → Paired (RelR g F' mu' H') rs vs → (stm = true → AllSh rs) → ItS g F' mu' J rs vs ds → R J H'
  | .ex x S' => PostX g W F mu σ H x S'
  | .bad => False
def RI (g : Gd) (stm : Bool) (W : WX) (f : Env → Sto → Res (List D)) : TI := fun σ H R => ∃ Zh F mu ρ S, SR g Zh F mu ρ S σ H ∧ PostI g stm W F mu σ H R (f ρ S)
section
variable {g : Gd} {stm : Bool} {W : WX} {F F1 : Hp} {mu mu1 : List Addr} {σ : L2.St} {H H1 : Hp} {R : It → Hp → Prop} {Zh : Hp} {ρ : Env} {S : Sto}
theorem PostI.evo {r : Res (List D)} (e : Evo F mu H F1 mu1 H1) (p : PostI g stm W F mu σ H R r) : PostI g stm W F1 mu1 σ H1 R r := by
  cases r with
  | ok r S' => exact fun F' mu' J H' rs vs e' gh => p F' mu' J H' rs vs (e.trans e') gh
  | ex x S' => exact PostX.evo e p
  | bad => exact p
theorem RE.bindI {f : Env → Sto → Res Rv} {k : Rv → Sto → Res (List D)} {b1 : Bool} (sr : SR g Zh F mu ρ S σ H) (p : PostI g stm W F mu σ H R ((f ρ S).bind k)) :
    RE g b1 W f σ H (fun v H1 => ∃ F1 mu1 r S1, At g Zh F mu H ρ σ r S1 v F1 mu1 H1 ∧ (b1 = false → New H r v) ∧ PostI g stm W F mu σ H R (k r S1)) := by
  refine ⟨Zh, F, mu, ρ, S, sr, ?_⟩
  cases e : f ρ S with
  | ok r S1 =>
    rw [e] at p
    exact fun F' mu' v H' e' gh rel n => ⟨F', mu', r, S1, ⟨e', sr.evo e' gh, rel⟩, n, p⟩
  | ex x S1 => rw [e] at p; exact p
  | bad => rw [e] at p; exact p
end
section
variable {g : Gd} {F0 : Hp} {mu0 : List Addr}
theorem seqK_of {g : Gd} {F H : Hp} {mu : List Addr} {S : Sto} {r : Rv} {v : V} {ds : List D} (gh : Gh g F mu S H) (e : itv r = some ds) (rel : RelR g F mu H r v) : ∃ k a xs, v = .ref a ∧ SqK k g.K H a xs ∧ RelDs g F mu ds xs := by
  cases r with
  | nd _ => cases e
  | nl es =>
    cases e
    obtain ⟨a, xs, h1, h2, _, _, h5⟩ := rel
    exact ⟨false, a, xs, h1, SqL.of h2, h5⟩
  | sh d =>
    cases d with
    | tup es => cases e; cases rel with | tup h t => exact ⟨true, _, _, rfl, sqT_sub gh.sub h, t⟩
    | lst es => cases e; cases rel with | lst h t => exact ⟨false, _, _, rfl, SqL.of (gh.sub _ _ h), t⟩
    | non => cases e
    | bl _ => cases e
    | int _ => cases e
    | str _ => cases e
    | dct _ => cases e
    | scr _ => cases e
    | ref _ => cases e
    | fn _ => cases e
/-- whether r is a tuple -/
def isTupR : Rv → Bool
  | .sh (.tup _) => true
  | _ => false
theorem seqR_of {g : Gd} {F H : Hp} {mu : List Addr} {S : Sto} {r : Rv} {v : V} {ds : List D} (gh : Gh g F mu S H) (e : itv r = some ds) (rel : RelR g F mu H r v) : ∃ a xs, v = .ref a ∧ SqK (isTupR r) g.K H a xs ∧ RelDs g F mu ds xs := by
  cases r with
  | nd _ => cases e
  | nl es =>
    cases e
    obtain ⟨a, xs, h1, h2, _, _, h5⟩ := rel
    exact ⟨a, xs, h1, SqL.of h2, h5⟩
  | sh d =>
    cases d with
    | tup es => cases e; cases rel with | tup h t => exact ⟨_, _, rfl, sqT_sub gh.sub h, t⟩
    | lst es => cases e; cases rel with | lst h t => exact ⟨_, _, rfl, SqL.of (gh.sub _ _ h), t⟩
    | non => cases e
    | bl _ => cases e
    | int _ => cases e
    | str _ => cases e
    | dct _ => cases e
    | scr _ => cases e
    | ref _ => cases e
    | fn _ => cases e
def ItK (k : Bool) (K : PySem.W.Frag) (a : Addr) : It := if k = true then Itt K a else Itl K a
theorem its_seq {r : Rv} {a : Addr} {ds : List D} (e : itv r = some ds) : ItS g F0 mu0 (ItK (isTupR r) g.K a) [r] [.ref a] ds := by
  intro F mu S H i gh _ _ p
  obtain ⟨v, hv, rel⟩ := one_of p rfl
  cases hv
  obtain ⟨a', xs, hv, hs, rd⟩ := seqR_of gh e rel
  cases hv
  have hl := rd.length
  cases hk : isTupR r with
  | true =>
    rw [hk] at hs
    have hs' : SqT g.K H a xs := hs
    refine ⟨fun hi => ⟨?_, fun x H' hy => ?_⟩, fun hi => ?_⟩
    · exact ⟨xs, xs[i]'(by omega), hs', List.getElem?_eq_getElem (by omega)⟩
    · obtain ⟨rfl, h⟩ := hy
      obtain ⟨d, h1, h2⟩ := rd.getV (h xs hs')
      exact ⟨F, d, h1, .refl, gh, h2⟩
    · exact ⟨xs, hs', by omega⟩
  | false =>
    rw [hk] at hs
    have hs' : SqL g.K H a xs := hs
    refine ⟨fun hi => ⟨?_, fun x H' hy => ?_⟩, fun hi => ?_⟩
    · exact ⟨xs, xs[i]'(by omega), hs', List.getElem?_eq_getElem (by omega)⟩
    · obtain ⟨rfl, h⟩ := hy
      obtain ⟨d, h1, h2⟩ := rd.getV (h xs hs')
      exact ⟨F, d, h1, .refl, gh, h2⟩
    · exact ⟨xs, hs', by omega⟩
theorem its_enum {r : Rv} {a : Addr} {ds : List D} (e : itv r = some ds) : ItS g F0 mu0 (IteK (isTupR r) g.K a) [r] [.ref a] (enumD 0 ds) := by
  intro F mu S H i gh _ _ p
  obtain ⟨v, hv, rel⟩ := one_of p rfl
  cases hv
  obtain ⟨a', xs, hv, hs, rd⟩ := seqR_of gh e rel
  cases hv
  have hl := rd.length
  have hlen : ∀ (ds : List D) (k : Int), (enumD k ds).length = ds.length := fun ds => by
    induction ds with
    | nil => intro _; rfl
    | cons d ds ih => intro k; rw [enumD, List.length_cons, List.length_cons, ih]
  have hget : ∀ (ds : List D) (k : Int) (i : Nat) (d : D), ds[i]? = some d → (enumD k ds)[i]? = some (.tup [.int (k + i), d]) := fun ds => by
    induction ds with
    | nil => intro k i d h; simp at h
    | cons x ds ih =>
      intro k i d h
      cases i with
      | zero => simp at h; subst h; simp [enumD]
      | succ i =>
        rw [enumD, List.getElem?_cons_succ, ih (k + 1) i d (by simpa using h)]
        have : k + 1 + (i : Int) = k + ((i + 1 : Nat) : Int) := by omega
        rw [this]
  rw [hlen]
  refine ⟨fun hi => ⟨⟨xs, xs[i]'(by omega), hs, List.getElem?_eq_getElem (by omega)⟩, fun x H' hy => ?_⟩, fun hi => ⟨xs, hs, by omega⟩⟩
  obtain ⟨T, y, rfl, hT, rfl, h⟩ := hy
  obtain ⟨d, h1, h2⟩ := rd.getV (h xs hs)
  obtain ⟨ev, gh', sub⟩ := ev_newF (o := .tup [.int (i : Nat), y]) gh hT
  exact ⟨_, _, hget ds 0 i d h1, ev, gh', .tup (SqT.of upd_same) (.cons (by rw [Int.zero_add]; exact .int _) (.cons (h2.mono sub.le List.prefix_rfl) .nil))⟩
theorem zipD_length : ∀ (ds es : List D), (zipD ds es).length = min ds.length es.length
  | [], es => by simp [zipD]
  | d :: ds, [] => by simp [zipD]
  | d :: ds, e :: es => by rw [zipD, List.length_cons, List.length_cons, List.length_cons, zipD_length ds es]; omega
theorem zipD_get : ∀ (ds es : List D) (i : Nat) (d e : D), ds[i]? = some d → es[i]? = some e → (zipD ds es)[i]? = some (.tup [d, e])
  | [], _, _, _, _, h, _ => by simp at h
  | _ :: _, [], _, _, _, _, h => by simp at h
  | x :: ds, y :: es, 0, d, e, h1, h2 => by simp at h1 h2; subst h1 h2; simp [zipD]
  | x :: ds, y :: es, i + 1, d, e, h1, h2 => by rw [zipD, List.getElem?_cons_succ]; exact zipD_get ds es i d e (by simpa using h1) (by simpa using h2)
theorem its_zip {r1 r2 : Rv} {a b : Addr} {ds es : List D} (e1 : itv r1 = some ds) (e2 : itv r2 = some es) : ItS g F0 mu0 (ItzK (isTupR r1) (isTupR r2) g.K a b) [r1, r2] [.ref a, .ref b] (zipD ds es) := by
  intro F mu S H i gh _ _ p
  obtain ⟨v, u, hv, rel1, rel2⟩ := two_of p rfl
  cases hv
  obtain ⟨a', xs, hv, hs1, rd1⟩ := seqR_of gh e1 rel1
  cases hv
  obtain ⟨b', ys, hv, hs2, rd2⟩ := seqR_of gh e2 rel2
  cases hv
  have hl1 := rd1.length
  have hl2 := rd2.length
  rw [zipD_length]
  refine ⟨fun hi => ⟨⟨xs, ys, xs[i]'(by omega), ys[i]'(by omega), hs1, hs2, List.getElem?_eq_getElem (by omega), List.getElem?_eq_getElem (by omega)⟩, fun x H' hy => ?_⟩, fun hi => ?_⟩
  · obtain ⟨T, x, y, rfl, hT, rfl, h1, h2⟩ := hy
    obtain ⟨d, q1, q2⟩ := rd1.getV (h1 xs hs1)
    obtain ⟨e, q3, q4⟩ := rd2.getV (h2 ys hs2)
    obtain ⟨ev, gh', sub⟩ := ev_newF (o := .tup [x, y]) gh hT
    exact ⟨_, _, zipD_get ds es i d e q1 q3, ev, gh', .tup (SqT.of upd_same) (.cons (q2.mono sub.le List.prefix_rfl) (.cons (q4.mono sub.le List.prefix_rfl) .nil))⟩
  · exact ⟨xs, ys, hs1, hs2, by omega⟩
theorem rangeD_length : ∀ (n : Nat) (lo : Int), (rangeD lo n).length = n
  | 0, _ => rfl
  | n + 1, lo => by rw [rangeD, List.length_cons, rangeD_length n]
theorem rangeD_get : ∀ (n : Nat) (lo : Int) (i : Nat), i < n → (rangeD lo n)[i]? = some (.int (lo + i))
  | 0, _, _, h => absurd h (Nat.not_lt_zero _)
  | n + 1, lo, 0, _ => by simp [rangeD]
  | n + 1, lo, i + 1, h => by
    rw [rangeD, List.getElem?_cons_succ, rangeD_get n (lo + 1) i (by omega)]
    have : lo + 1 + (i : Int) = lo + ((i + 1 : Nat) : Int) := by omega
    rw [this]
theorem rangeM_length : ∀ (n : Nat) (lo : Int), (rangeM lo n).length = n
  | 0, _ => rfl
  | n + 1, lo => by rw [rangeM, List.length_cons, rangeM_length n]
theorem rangeM_get : ∀ (n : Nat) (lo : Int) (i : Nat), i < n → (rangeM lo n)[i]? = some (.int (lo + i * (-1)))
  | 0, _, _, h => absurd h (Nat.not_lt_zero _)
  | n + 1, lo, 0, _ => by simp [rangeM]
  | n + 1, lo, i + 1, h => by
    rw [rangeM, List.getElem?_cons_succ, rangeM_get n (lo - 1) i (by omega)]
    have : lo - 1 + (i : Int) * (-1) = lo + ((i + 1 : Nat) : Int) * (-1) := by omega
    rw [this]
theorem its_range {lo : Int} {n : Nat} : ItS g F0 mu0 (Itr lo n) [] [] (rangeD lo n) := by
  intro F mu S H i gh _ _ _
  rw [rangeD_length]
  refine ⟨fun hi => ⟨hi, fun x H' hy => ?_⟩, fun hi => Nat.le_of_eq hi.symm⟩
  obtain ⟨rfl, rfl⟩ := hy
  exact ⟨F, _, rangeD_get n lo i hi, .refl, gh, .int _⟩
theorem its_rangeM {lo : Int} {n : Nat} : ItS g F0 mu0 (Itc lo (-1) n) [] [] (rangeM lo n) := by
  intro F mu S H i gh _ _ _
  rw [rangeM_length]
  refine ⟨fun hi => ⟨hi, fun x H' hy => ?_⟩, fun hi => Nat.le_of_eq hi.symm⟩
  obtain ⟨rfl, rfl⟩ := hy
  exact ⟨F, _, rangeM_get n lo i hi, .refl, gh, .int _⟩
theorem relKs_get {F : Hp} {mu : List Addr} : ∀ {kvs : List (D × D)} {es : List Ent} {i : Nat} {e : Ent}, RelKs g F mu kvs es → es[i]? = some e → ∃ p, kvs[i]? = some p ∧ RelD g F mu p.1 (.ref e.2.1)
  | _, _, _, _, .nil, h => by simp at h
  | _, _, 0, _, .cons _ _ r _ _, h => by simp at h; subst h; exact ⟨_, rfl, r⟩
  | _, _, i + 1, e, .cons _ _ _ _ t, h => by
    obtain ⟨p, h1, h2⟩ := relKs_get (i := i) (e := e) t (by simpa using h)
    exact ⟨p, by simpa using h1, h2⟩
theorem its_keys {d : Addr} {o : Obj} {es : List Ent} {kvs : List (D × D)} (hf : F0 d = some (.frz o (dO g.P g.w d es))) (rk : RelKs g F0 mu0 kvs es) : ItS g F0 mu0 (ItX g.P g.w d o es) [.sh (.dct kvs)] [.ref d] (kvs.map (·.1)) := by
  intro F mu S H i gh le pm p
  have hF : F d = some (.frz o (dO g.P g.w d es)) := by
    obtain ⟨o', e, l⟩ := le d _ hf
    rcases l with rfl | ⟨_, _, _, e'⟩
    · exact e
    · cases e'
  have rk' := rk.mono le pm
  have hl := rk.length
  rw [List.length_map]
  refine ⟨fun hi => ⟨⟨gh.sub _ _ hF, by omega⟩, fun x H' hy => ?_⟩, fun hi => ⟨gh.sub _ _ hF, by omega⟩⟩
  obtain ⟨rfl, e, he, rfl⟩ := hy
  obtain ⟨q, h1, h2⟩ := relKs_get rk' he
  exact ⟨F, q.1, by rw [List.getElem?_map, h1]; rfl, .refl, gh, h2⟩
end

/-! ### how they begin -/
section
variable {X : Cx} {fa ca : Nat → Addr} {pins : List (Addr × Obj)} {σ : L2.St} {s : Shared} {tg : Expr} {F H : Hp} {mu : List Addr} {S : Sto} {R : It → Hp → Prop}
/-- iter(v) -/
theorem iter_seq {E : Value → Shared → Prop} (I : L2.Inv X pins σ H s) (gh : Gh (gd X fa ca) F mu S H) {r : Rv} {v : V} {u : Value} {ds : List D} (rel : RelR (gd X fa ca) F mu H r v) (ru : RelV v u) (e : itv r = some ds)
    (k : ∀ J, ItS (gd X fa ca) F mu J [r] [v] ds → R J H) : wpAny (model X.prog X.w) X.A (pyIter u) (PIE X pins σ tg R) E s := by
  obtain ⟨a, xs, rfl, hs, rd⟩ := seqR_of gh e rel
  cases ru
  have q := k _ (its_seq e)
  cases hk : isTupR r with
  | true =>
    rw [hk] at hs q
    obtain ⟨its, rv, p, hz⟩ := I.tuple (show SqT X.K H a xs from hs)
    refine wpAny_pyIter_tuple (show s.heap.IsTuple a its.toArray from p) ?_
    refine ⟨s.heap.objs.size, [s.heap.objs.size], _, _, H, rfl, I.kept (t' := s.toks) fun b o e => Heap.get?_push_of_some _ e, turn_tuple a _, ⟨_, Heap.get?_push_size _ rfl, rfl, rfl⟩, fun b hb => ?_, q⟩
    have e : b = s.heap.objs.size := by simpa using hb
    subst e
    exact I.fpOk (Nat.le_refl _) (I.hok.fresh (Nat.le_refl _))
  | false =>
    rw [hk] at hs q
    obtain ⟨its, rv, p, hz⟩ := I.list (show SqL X.K H a xs from hs)
    refine wpAny_pyIter_list p.isList ?_
    refine ⟨s.heap.objs.size, [s.heap.objs.size], _, _, H, rfl, I.kept (t' := s.toks) fun b o e => Heap.get?_push_of_some _ e, turn_list a _, ⟨_, Heap.get?_push_size _ rfl, rfl, rfl⟩, fun b hb => ?_, q⟩
    have e : b = s.heap.objs.size := by simpa using hb
    subst e
    exact I.fpOk (Nat.le_refl _) (I.hok.fresh (Nat.le_refl _))
/-- a shared dict is locked -/
theorem lock_dct (I : L2.Inv X pins σ H s) (gh : Gh (gd X fa ca) F mu S H) {a : Addr} {es : List Ent} (hd : Rd F a (dO X.prog X.w a es)) : ∃ F' H' o, L2.Inv X pins σ H' s ∧ Evo F mu H F' mu H' ∧ Gh (gd X fa ca) F' mu S H' ∧ F' a = some (.frz o (dO X.prog X.w a es)) := by
  rcases hd with hd | ⟨o, hd⟩
  · have hH := gh.sub a _ hd
    obtain ⟨od, I'⟩ := I.lock hH (by exact True.intro)
    have hne : ∀ b, F b = none → b ≠ a := fun b q z => by rw [z, hd] at q; cases q
    have le : Fle F (upd F a (.frz od (dO X.prog X.w a es))) := fun b o q => by
      by_cases hb : b = a
      · subst hb
        rw [hd] at q; cases q
        exact ⟨_, upd_same, .inr ⟨od, _, rfl, rfl⟩⟩
      · exact ⟨o, by rw [upd_ne hb]; exact q, .inl rfl⟩
    refine ⟨upd F a (.frz od (dO X.prog X.w a es)), _, od, I', ⟨fun b o q _ qf => ?_, fun b q => ?_, fun b _ qf => ?_, le, List.prefix_rfl, fun _ q => .inl q⟩, ⟨fun b o q => ?_, gh.nd, gh.len, fun i b m e1 e2 => ?_⟩, upd_same⟩
    · rw [upd_ne (hne b qf)]; exact q
    · by_cases hb : b = a
      · subst hb; rw [upd_same]; simp
      · rw [upd_ne hb]; exact q
    · rw [upd_ne (hne b qf)]; exact qf
    · by_cases hb : b = a
      · subst hb; rw [upd_same] at q ⊢; exact q
      · rw [upd_ne hb] at q ⊢; exact gh.sub b o q
    · obtain ⟨q1, q2⟩ := gh.at_ i b m e1 e2
      exact ⟨by rw [upd_ne (hne b q1)]; exact q1, q2.mono le List.prefix_rfl (upd_ne (hne b q1))⟩
  · exact ⟨F, H, o, I, .refl, gh, hd⟩
theorem iter_dct {E : Value → Shared → Prop} (I : L2.Inv X pins σ H s) (gh : Gh (gd X fa ca) F mu S H) {v : V} {u : Value} {kvs : List (D × D)} (rel : RelD (gd X fa ca) F mu (.dct kvs) v) (ru : RelV v u)
    (k : ∀ F' H' J, Evo F mu H F' mu H' → Gh (gd X fa ca) F' mu S H' → RelR (gd X fa ca) F' mu H' (.sh (.dct kvs)) v → ItS (gd X fa ca) F' mu J [.sh (.dct kvs)] [v] (kvs.map (·.1)) → R J H') : wpAny (model X.prog X.w) X.A (pyIter u) (PIE X pins σ tg R) E s := by
  cases rel with
  | @dct a es _ hd rk =>
    cases ru
    obtain ⟨F', H', o, I', ev, gh', hF⟩ := lock_dct I gh hd
    have rk' := rk.mono ev.le ev.pre
    have q := k F' H' (ItX X.prog X.w a o es) ev gh' (.dct (.inr ⟨o, hF⟩) rk') (its_keys hF rk')
    obtain ⟨hm, hgd, hx, ents, ep, hdt, hsz, _⟩ := frzX I' (gh'.sub _ _ hF)
    refine iter_keys hm hgd hx hdt ?_
    refine ⟨s.heap.objs.size, [s.heap.objs.size], _, _, H', rfl, I'.kept (t' := s.toks) fun b o e => Heap.get?_push_of_some _ e, turn_keysX _ hdt, ⟨_, Heap.get?_push_size _ rfl, rfl, ?_⟩, fun b hb => ?_, q⟩
    · rw [hsz]; rfl
    · have e : b = s.heap.objs.size := by simpa using hb
      subst e
      exact I'.fpOk (Nat.le_refl _) (I'.hok.fresh (Nat.le_refl _))
end
end Z

set_option Elab.async false
set_option linter.all false
set_option autoImplicit false
set_option maxRecDepth 100000
set_option maxHeartbeats 1000000
/-! Z10: the look at a text, expressions. -/
namespace Z
open PySem L2

/-- what stands at the module's top -/
structure Tb where
  fns : List (Str × Nat)
  cns : List (Str × D)
  bls : List Str
  ecs : List Str

mutual
def dbeq : D → D → Bool
  | .non, .non => true
  | .bl a, .bl b => a == b
  | .int a, .int b => decide (a = b)
  | .str a, .str b => decide (a = b)
  | .tup a, .tup b => dbeqs a b
  | _, _ => false
def dbeqs : List D → List D → Bool
  | [], [] => true
  | a :: as, b :: bs => dbeq a b && dbeqs as bs
  | _, _ => false
end
mutual
theorem dbeq_eq : ∀ a b : D, dbeq a b = true → a = b
  | .non, b, h => by cases b <;> simp_all [dbeq]
  | .bl _, b, h => by cases b <;> simp_all [dbeq]
  | .int _, b, h => by cases b <;> simp_all [dbeq]
  | .str _, b, h => by cases b <;> simp_all [dbeq]
  | .tup as, b, h => by
    cases b with
    | tup bs => simp only [dbeq] at h; rw [dbeqs_eq as bs h]
    | _ => simp [dbeq] at h
  | .lst _, b, h => by cases b <;> simp_all [dbeq]
  | .dct _, b, h => by cases b <;> simp_all [dbeq]
  | .scr _, b, h => by cases b <;> simp_all [dbeq]
  | .ref _, b, h => by cases b <;> simp_all [dbeq]
  | .fn _, b, h => by cases b <;> simp_all [dbeq]
theorem dbeqs_eq : ∀ a b : List D, dbeqs a b = true → a = b
  | [], b, h => by cases b <;> simp_all [dbeqs]
  | a :: as, b, h => by
    cases b with
    | nil => simp [dbeqs] at h
    | cons b bs =>
      simp only [dbeqs, Bool.and_eq_true] at h
      rw [dbeq_eq a b h.1, dbeqs_eq as bs h.2]
end

/-! ### the checks -/
def visB (sc : Scope) (x : Str) : Bool :=
  match sc.names.lookup x with
  | some .local => true
  | some .cell => true
  | some .free => true
  | _ => false
def glB (sc : Scope) (x : Str) : Bool :=
  match sc.names.lookup x with
  | some .globalImplicit => true
  | _ => false
def nmB (x : Str) : Bool := !(x == ("__debug__" : Str)) && !(x == ("__classdict__" : Str)) && !(x == ("__name__" : Str))
/-- a built-in's name -/
def bltB (tb : Tb) (sc : Scope) (x y : Str) : Bool := decide (x = y) && glB sc x && tb.bls.contains x && nmB x
def conB : D → Const → Bool
  | .non, .none => true
  | .bl b, .bool c => b == c
  | .int i, .int j => decide (i = j)
  | .str x, .str y => decide (x = y)
  | _, _ => false
def bopB : Bop → Operator → Bool
  | .add, .Add => true
  | .sub, .Sub => true
  | .mul, .Mult => true
  | .fdiv, .FloorDiv => true
  | .mod, .Mod => true
  | .pow, .Pow => true
  | _, _ => false
def copB : Cop → CmpOp → Bool
  | .eq, .Eq => true
  | .ne, .NotEq => true
  | .lt, .Lt => true
  | .le, .LtE => true
  | .gt, .Gt => true
  | .ge, .GtE => true
  | .is, .Is => true
  | .isn, .IsNot => true
  | .inn, .In => true
  | .nin, .NotIn => true
  | _, _ => false
theorem bopB_eq {o : Bop} {p : Operator} (h : bopB o p = true) : p = bop o := by cases o <;> cases p <;> simp_all [bopB, bop]
theorem copB_eq {o : Cop} {p : CmpOp} (h : copB o p = true) : p = cop o := by cases o <;> cases p <;> simp_all [copB, cop]
def biN : Bi → Str
  | .len => "len"
  | .int => "int"
  | .bool => "bool"
  | .str => "str"
  | .tuple => "tuple"
  | .list => "list"
  | .dict => "dict"
  | .sum => "sum"
  | .min => "min"
  | .max => "max"
  | .all => "all"
  | .any => "any"
  | .sorted => "sorted"
  | .isi _ => "isinstance"
def isStar : Expr → Bool
  | .Starred _ _ => true
  | _ => false
def isSet : Expr → Bool
  | .Set _ _ _ => true
  | _ => false
def isSlice : Expr → Bool
  | .Slice _ _ _ _ => true
  | _ => false
/-- no call without arguments (super() reads otherwise) -/
def isCall0 : Expr → Bool
  | .Call _ [] _ _ => true
  | _ => false
/-- a test by its value's truth -/
def plainT : Expr → Bool
  | .UnaryOp .Not _ _ => false
  | .BoolOp _ _ _ => false
  | .IfExp _ _ _ _ => false
  | .Compare _ _ _ _ => false
  | _ => true
def gN (N : List Str) (sc : Scope) (i : Nat) (e : Expr) : Bool :=
  match e with
  | .Name x _ => decide (N[i]? = some x) && (match sc.names.lookup x with | some .local => true | some .cell => true | _ => false)
  | _ => false
def gNs (N : List Str) (sc : Scope) : List Nat → List Expr → Bool
  | [], [] => true
  | i :: is, e :: es => gN N sc i e && gNs N sc is es
  | _, _ => false
def chkG (N : List Str) (sc : Scope) : CG → Expr → Bool
  | .nm i, e => gN N sc i e
  | .tup is, .Tuple es _ _ => gNs N sc is es && !es.isEmpty
  | _, _ => false
def CG.slots : CG → List Nat
  | .nm i => [i]
  | .tup is => is
def ownOf (N : List Str) (ws : List Nat) : List (Str × Nat) := ws.map fun i => (N.getD i "", i)
def tySt (tb : Tb) (sc : Scope) (t : Ty) (e : Expr) : Bool :=
  match e with
  | .Name x _ => bltB tb sc x (Str.ofString (tyN t))
  | _ => false
def isTupE : Expr → Bool
  | .Tuple _ _ _ => true
  | _ => false
def noneE : CE → Bool
  | .con .non => true
  | _ => false
def trueE : CE → Bool
  | .con (.bl b) => b
  | _ => false

def strsD : List D → Option (List Str)
  | [] => some []
  | d :: ds => match d with
    | .str x => (strsD ds).map (x :: ·)
    | _ => none
def idxB : CE → Expr → Bool
  | .glob _ (.tup ds), .Name _ _ => (strsD ds).isSome
  | _, _ => false
def keyB : List Str → List (Option Expr) → Bool
  | [], [] => true
  | k :: ks, some (.Constant (.str x) _ _) :: es => decide (k = x) && keyB ks es
  | _, _ => false
mutual
def chkE (tb : Tb) (N : List Str) : CE → Scope → Bool → Expr → Bool
  | .var i, sc, _, e => match e with
    | .Name x _ => decide (N[i]? = some x) && visB sc x && nmB x
    | _ => false
  | .varB i, sc, bor, e => match e with
    | .Name x _ => bor && decide (N[i]? = some x) && visB sc x && nmB x
    | _ => false
  | .con d, _, _, e => match e with
    | .Constant c _ _ => conB d c
    | _ => false
  | .glob j d, sc, _, e => match e with
    | .Name x _ => glB sc x && nmB x && (match tb.cns[j]? with | some (y, d') => decide (x = y) && dbeq d d' | none => false)
    | _ => false
  | .fnv id, sc, _, e => match e with
    | .Name x _ => glB sc x && nmB x && (match tb.fns[id]? with | some (y, _) => decide (x = y) | none => false)
    | _ => false
  | .op o a b, sc, _, e => match e with
    | .BinOp x p y _ => bopB o p && chkE tb N a sc true x && chkE tb N b sc true y
    | _ => false
  | .neg a, sc, _, e => match e with
    | .UnaryOp .USub x _ => chkE tb N a sc true x
    | _ => false
  | .not a, sc, _, e => match e with
    | .UnaryOp .Not x _ => chkE tb N a sc true x
    | _ => false
  | .and a b, sc, bor, e => match e with
    | .BoolOp .And (x :: y :: r) p => chkE tb N a sc bor x && (if r.isEmpty then chkE tb N b sc bor y else chkE tb N b sc bor (.BoolOp .And (y :: r) p))
    | _ => false
  | .or a b, sc, bor, e => match e with
    | .BoolOp .Or (x :: y :: r) p => chkE tb N a sc bor x && (if r.isEmpty then chkE tb N b sc bor y else chkE tb N b sc bor (.BoolOp .Or (y :: r) p))
    | _ => false
  | .cmp o a b, sc, _, e => match e with
    | .Compare x [p] [y] _ => copB o p && chkE tb N a sc true x && chkE tb N b sc true y && !isSet y
    | _ => false
  | .chain o o' a b c, sc, _, e => match e with
    | .Compare x [p, p'] [y, z] _ => copB o p && copB o' p' && chkE tb N a sc true x && chkE tb N b sc true y && chkE tb N c sc true z && !isSet z
    | _ => false
  | .ife t a b, sc, bor, e => match e with
    | .IfExp x y z _ => chkE tb N t sc true x && chkE tb N a sc bor y && chkE tb N b sc bor z
    | _ => false
  | .tup es, sc, _, e => match e with
    | .Tuple xs _ _ => chkEs tb N es sc true xs && decide (es.len ≤ 1000)
    | _ => false
  | .lst es, sc, _, e => match e with
    | .List xs _ => chkEs tb N es sc true xs && decide (es.len ≤ 1000)
    | _ => false
  | .dct0, _, _, e => match e with
    | .Dict [] [] _ => true
    | _ => false
  | .idx a b, sc, _, e => match e with
    | .Subscript x y _ => chkE tb N a sc true x && chkE tb N b sc true y && !isSlice y
    | _ => false
  | .slc a lo hi, sc, _, e => match e with
    | .Subscript x (.Slice l h none _) _ => chkE tb N a sc true x && (match l with | none => noneE lo | some le => chkE tb N lo sc true le) && (match h with | none => noneE hi | some he => chkE tb N hi sc true he)
    | _ => false
  | .comp it g ws t f, sc, _, e => match e with
    | .ListComp elt gens scope _ => match gens with
      | [⟨tg, iter, ifs, asy⟩] => decide (asy = 0) && chkI tb N it sc false tg iter && blkC N sc scope (ownOf N ws) && chkG N scope g tg && g.slots.all (fun i => ws.contains i) &&
          (match ifs with | [] => trueE t | [c] => chkE tb N t (relS scope sc) true c | _ => false) && chkE tb N f (relS scope sc) false elt && !isSet iter
      | _ => false
    | _ => false
  | .bi b es, sc, _, e => match e with
    | .Call (.Name x _) xs [] _ => match b with
      | .isi t => match xs with
        | [x1, x2] => bltB tb sc x "isinstance" && chkEs tb N es sc false [x1] && tySt tb sc t x2
        | _ => false
      | b => bltB tb sc x (biN b) && chkEs tb N es sc false xs && !xs.isEmpty
    | _ => false
  | .mt m o es, sc, _, e => match e with
    | .Call (.Attribute ox nm apos) xs [] cpos => match m with
      | .get => decide (nm = ("get" : Str)) && (apos.endLine == cpos.line) && !isCall0 ox && chkE tb N o sc true ox && chkEs tb N es sc true xs && decide (es.len = 2)
      | .index => decide (nm = ("index" : Str)) && (apos.endLine == cpos.line) && idxB o ox && chkE tb N o sc true ox && chkEs tb N es sc true xs && decide (es.len = 1)
      | _ => false
    | _ => false
  | .listr a, sc, _, e => match e with
    | .Call (.Name x _) [.Call (.Name y _) [z] [] _] [] _ => bltB tb sc x "list" && bltB tb sc y "range" && chkE tb N a sc true z && !isStar z
    | _ => false
  | .sortset _, _, _, _ => false
  | .listv _, _, _, _ => false
  | .minv _, _, _, _ => false
  | .maxv _, _, _, _ => false
  | .call id es, sc, _, e => match e with
    | .Call (.Name x _) xs [] _ => glB sc x && nmB x && (match tb.fns[id]? with | some (y, np) => decide (x = y) && decide (es.len = np) | none => false) && chkEs tb N es sc true xs && !xs.isEmpty
    | _ => false
  | .call0 id, sc, _, e => match e with
    | .Call (.Name x _) [] [] _ => glB sc x && nmB x && (match tb.fns[id]? with | some (y, np) => decide (x = y) && decide (0 = np) | none => false)
    | _ => false
  | .callv i ids es, sc, _, e => match e with
    | .Call (.Name x _) xs [] _ => decide (N[i]? = some x) && visB sc x && nmB x && ids.all (fun id => match tb.fns[id]? with | some (_, np) => decide (np = es.len) | none => false) && chkEs tb N es sc true xs && !xs.isEmpty
    | _ => false
  | .rev a, sc, _, e => match e with
    | .Subscript x (.Slice none none (some (.UnaryOp .USub (.Constant (.int 1) _ _) _)) _) _ => chkE tb N a sc true x
    | _ => false
  | .dsel ks es k, sc, _, e => match e with
    | .Subscript (.Dict keys vals _) x _ => keyB ks keys && chkEs tb N es sc true vals && chkE tb N k sc true x && !isSlice x && decide (es.len = ks.length) && decide (ks.length ≤ 15) && decide ks.Nodup && !ks.isEmpty
    | _ => false
def chkEs (tb : Tb) (N : List Str) : CEs → Scope → Bool → List Expr → Bool
  | .nil, _, _, xs => xs.isEmpty
  | .cons e es, sc, sh, xs => match xs with
    | x :: r => chkE tb N e sc (!sh) x && !isStar x && chkEs tb N es sc sh r
    | [] => false
def chkI (tb : Tb) (N : List Str) : CI → Scope → Bool → Expr → Expr → Bool
  | .val e, sc, stm, _, x => chkE tb N e sc (!stm) x
  | .range1 a, sc, _, _, x => match x with
    | .Call (.Name y _) [z] [] _ => bltB tb sc y "range" && chkE tb N a sc true z && !isStar z
    | _ => false
  | .range2 a b, sc, _, _, x => match x with
    | .Call (.Name y _) [z, z'] [] _ => bltB tb sc y "range" && chkE tb N a sc true z && chkE tb N b sc true z' && !isStar z && !isStar z'
    | _ => false
  | .ranged a b, sc, _, _, x => match x with
    | .Call (.Name y _) [z, z', .UnaryOp .USub (.Constant (.int 1) _ _) _] [] _ => bltB tb sc y "range" && chkE tb N a sc true z && chkE tb N b sc true z' && !isStar z && !isStar z'
    | _ => false
  | .enum a, sc, stm, tg, x => match x with
    | .Call (.Name y _) [z] [] _ => bltB tb sc y "enumerate" && chkE tb N a sc (!stm) z && !isStar z && isTupE tg
    | _ => false
  | .zip a b, sc, stm, tg, x => match x with
    | .Call (.Name y _) [z, z'] [] _ => bltB tb sc y "zip" && chkE tb N a sc (!stm) z && chkE tb N b sc (!stm) z' && !isStar z && !isStar z' && isTupE tg
    | _ => false
end
end Z

set_option Elab.async false
set_option linter.all false
set_option autoImplicit false
set_option maxRecDepth 100000
set_option maxHeartbeats 1000000
/-! Z11: each form of expression does what it means. -/
namespace Z
open PySem L2

/-! ### promises of defs -/
def PostC (g : Gd) (F : Hp) (mu : List Addr) (H : Hp) (Q : VK) (E : XK) (r : Res Rv) : Prop :=
  match r with
  | .ok r S' => ∀ F' mu' v H', Evo F mu H F' mu' H' → Gh g F' mu' S' H' → RelR g F' mu' H' r v → New H r v → Q v H'
  | .ex x S' => ∀ F' mu' cls d H', Evo F mu H F' mu' H' → Gh g F' mu' S' H' → ExR g F' mu' H' x cls d → E cls d H'
  | .bad => False
def spI (g : Gd) (call : Call) (id np : Nat) : Sp := fun vs H Q E => vs.length = np ∧ ∃ F mu S ds, Gh g F mu S H ∧ RelDs g F mu ds vs ∧ PostC g F mu H Q E (call id ds S)

def bmBase : List Value := [.type "ValueError", .type "Exception", .type "BaseException", .type "object"]
/-- an address of a constant is a tuple's -/
def tupC (K : PySem.W.Frag) (v : V) : Prop := ∀ p, v = .ref p → ∃ o, K.lookup p = some o ∧ o.cls = .type "tuple" ∧ o.dict = none
structure Cxt (tb : Tb) (X : Cx) (W : WX) (fa ca : Nat → Addr) (call : Call) (n : Nat) (N : List Str) (sc : Scope) : Prop where
  hN : X.N = N
  nd : N.Nodup
  hsc : X.env.scope = sc
  calm : X.calm = true
  room : Room (2 * n + 1) X.A
  tk : Takes X W
  fns : ∀ (id : Nat) (nm : Str) (np : Nat), tb.fns[id]? = some (nm, np) → ∃ fd ps, X.mg nm = some (.ref (fa id)) ∧ PySem.W.keepIn X.K (.ref (fa id)) = true ∧ Binds X.K fd ps [] ∧ ps.length = np ∧
    FnOk X.prog X.w X.K X.mg X.base (L2.CX X.prog X.w) (2 * n) (fa id) fd ps (spI (gd X fa ca) call id np)
  cns : ∀ (j : Nat) (x : Str) (d : D), tb.cns[j]? = some (x, d) → ∃ v u, X.mg x = some u ∧ RelV v u ∧ tupC X.K v ∧ ∀ F mu, RelD (gd X fa ca) F mu d v
  ecs : ∀ (k : Nat) (x : Str), tb.ecs[k]? = some x → X.mg x = some (.ref (ca k)) ∧ PySem.W.keepIn X.K (.ref (ca k)) = true ∧ Raises X (.ref (ca k)) ∧ PySem.W.excIn X.K (ca k) bmBase "ValueError.__new__" = true
  exm : ∀ i j, i < tb.ecs.length → j < tb.ecs.length → PySem.W.exmOne X.K (.ref (ca i)) (.ref (ca j)) = some (subc i j)
  bls : ∀ (x : Str), tb.bls.contains x = true → X.mg x = none

theorem vis_of {sc : Scope} {x : Str} (h : visB sc x = true) : Vis sc x := by
  unfold visB at h
  split at h
  · exact .inl (by assumption)
  · exact .inr (.inl (by assumption))
  · exact .inr (.inr (by assumption))
  · cases h
theorem glo_of {sc : Scope} {x : Str} (h : glB sc x = true) : sc.names.lookup x = some .globalImplicit := by
  unfold glB at h
  split at h
  · assumption
  · cases h
theorem nm_of {x : Str} (h : nmB x = true) : (x == ("__debug__" : Str)) = false ∧ (x == ("__classdict__" : Str)) = false ∧ x ≠ "__name__" := by
  simp only [nmB, Bool.and_eq_true, Bool.not_eq_true'] at h
  exact ⟨h.1.1, h.1.2, fun z => by rw [z] at h; simp at h⟩

section
variable {tb : Tb} {X : Cx} {W : WX} {fa ca : Nat → Addr} {call : Call} {n : Nat} {N : List Str} {sc : Scope} {bor : Bool}

/-! ### names, constants -/
theorem e_var (cx : Cxt tb X W fa ca call n N sc) {i : Nat} {x : Str} {pos : Pos} (hN : N[i]? = some x) (hv : visB sc x = true) (hm : nmB x = true) : PE X (.Name x pos) (RE (gd X fa ca) bor W (den (.var i) call)) := by
  obtain ⟨h1, h2, _⟩ := nm_of hm
  refine PE.weak (pe_var (i := i) (by rw [cx.hN]; exact hN) (by rw [cx.hsc]; exact vis_of hv) h1 h2) fun σ H Q ⟨Zh, F, mu, ρ, S, sr, p⟩ => ?_
  simp only [den] at p
  obtain ⟨r, e, q⟩ := PostE.opt p
  unfold getS at e
  split at e
  · rename_i d hd
    cases e
    obtain ⟨v, h3, h4, _⟩ := sr.get hd
    exact ⟨v, h3, q.same sr.gh h4⟩
  · cases e
theorem e_varB (cx : Cxt tb X W fa ca call n N sc) {i : Nat} {x : Str} {pos : Pos} (hN : N[i]? = some x) (hv : visB sc x = true) (hm : nmB x = true) : PE X (.Name x pos) (RE (gd X fa ca) true W (den (.varB i) call)) := by
  obtain ⟨h1, h2, _⟩ := nm_of hm
  refine PE.weak (pe_var (i := i) (by rw [cx.hN]; exact hN) (by rw [cx.hsc]; exact vis_of hv) h1 h2) fun σ H Q ⟨Zh, F, mu, ρ, S, sr, p⟩ => ?_
  simp only [den] at p
  cases e : getV ρ i with
  | none => rw [e] at p; exact p.elim
  | some r =>
    rw [e] at p
    obtain ⟨v, h3, h4, _⟩ := sr.get e
    exact ⟨v, h3, p F mu v H .refl sr.gh h4 fun z => nomatch z⟩
theorem e_con {d : D} {c : Const} {k : Nat} {pos : Pos} (h : conB d c = true) : PE X (.Constant c k pos) (RE (gd X fa ca) bor W (den (.con d) call)) := by
  have fin : ∀ (v : V), (∀ F mu, RelD (gd X fa ca) F mu d v) → ∀ σ H Q, RE (gd X fa ca) bor W (den (.con d) call) σ H Q → tC v σ H Q := fun v hv σ H Q ⟨Zh, F, mu, ρ, S, sr, p⟩ => by
    simp only [den] at p
    exact (PostE.pst p).same sr.gh (hv F mu)
  cases d with
  | non => cases c <;> simp [conB] at h; exact PE.weak pe_non (fin _ fun _ _ => .non)
  | bl b => cases c <;> simp [conB] at h; subst h; exact PE.weak pe_bl (fin _ fun _ _ => .bl _)
  | int b => cases c <;> simp [conB] at h; subst h; exact PE.weak pe_int (fin _ fun _ _ => .int _)
  | str b => cases c <;> simp [conB] at h; subst h; exact PE.weak pe_str (fin _ fun _ _ => .str _)
  | tup _ => cases c <;> simp [conB] at h
  | lst _ => cases c <;> simp [conB] at h
  | dct _ => cases c <;> simp [conB] at h
  | scr _ => cases c <;> simp [conB] at h
  | ref _ => cases c <;> simp [conB] at h
  | fn _ => cases c <;> simp [conB] at h
theorem e_glob (cx : Cxt tb X W fa ca call n N sc) {j : Nat} {d : D} {x : Str} {pos : Pos} (h1 : glB sc x = true) (h2 : nmB x = true) (h3 : tb.cns[j]? = some (x, d)) : PE X (.Name x pos) (RE (gd X fa ca) bor W (den (.glob j d) call)) := by
  obtain ⟨v, u, hm, hr, _, hd⟩ := cx.cns j x d h3
  refine PE.weak (pe_glob (v := v) (show X.env.scope.names.lookup x = _ by rw [cx.hsc]; exact glo_of h1) hm hr (nm_of h2).1) fun σ H Q ⟨Zh, F, mu, ρ, S, sr, p⟩ => ?_
  simp only [den] at p
  exact (PostE.pst p).same sr.gh (hd F mu)
theorem e_fnv (cx : Cxt tb X W fa ca call n N sc) {id np : Nat} {x : Str} {pos : Pos} (h1 : glB sc x = true) (h2 : nmB x = true) (h3 : tb.fns[id]? = some (x, np)) : PE X (.Name x pos) (RE (gd X fa ca) bor W (den (.fnv id) call)) := by
  obtain ⟨fd, ps, hm, _⟩ := cx.fns id x np h3
  refine PE.weak (pe_glob (v := .ref (fa id)) (show X.env.scope.names.lookup x = _ by rw [cx.hsc]; exact glo_of h1) hm rfl (nm_of h2).1) fun σ H Q ⟨Zh, F, mu, ρ, S, sr, p⟩ => ?_
  simp only [den] at p
  exact (PostE.pst p).same sr.gh (.fn id)

/-! ### two values -/
theorem e_bin {f : CE} {a b : Expr} {ca' cb : CE} {s : Rv → Rv → Sto → Option Rv} {e : Expr} (ha : PE X a (RE (gd X fa ca) true W (den ca' call))) (hb : PE X b (RE (gd X fa ca) true W (den cb call)))
    (rule : ∀ {ta tb' : TE}, PE X a ta → PE X b tb' → PE X e (tOp (rP2 (gd X fa ca) s) ta tb'))
    (hden : ∀ ρ S, den f call ρ S = (den ca' call ρ S).bind fun x S1 => (den cb call ρ S1).bind fun y S2 => optR (s x y S2) S2) : PE X e (RE (gd X fa ca) bor W (den f call)) := by
  refine PE.weak (rule ha hb) fun σ H Q ⟨Zh, F, mu, ρ, S, sr, p⟩ => ?_
  rw [hden] at p
  refine RE.mono (fun x H1 ⟨F1, mu1, r1, S1, a1, _, p1⟩ => ?_) (RE.bind sr p)
  refine RE.mono (fun y H2 ⟨F2, mu2, r2, S2, a2, _, p2⟩ => ?_) (RE.bind a1.sr (PostE.evo a1.evo p1))
  obtain ⟨r, e, q⟩ := PostE.opt (PostE.evo a2.evo p2)
  exact ⟨F2, mu2, S2, r1, r2, r, a2.sr.gh, a1.to a2.evo, a2.rel, e, q⟩
theorem optB_eq (o : Option Bool) (S : Sto) : optB o S = optR (o.map fun b => .sh (.bl b)) S := by cases o <;> rfl
theorem e_neg {a : Expr} {c : CE} {pos : Pos} (ha : PE X a (RE (gd X fa ca) true W (den c call))) : PE X (.UnaryOp .USub a pos) (RE (gd X fa ca) bor W (den (.neg c) call)) := by
  refine PE.weak (pe_un un_neg ha) fun σ H Q ⟨Zh, F, mu, ρ, S, sr, p⟩ => ?_
  simp only [den] at p
  refine RE.mono (fun x H1 ⟨F1, mu1, r1, S1, a1, _, p1⟩ => ?_) (RE.bind sr p)
  have p1' := PostE.evo a1.evo p1
  split at p1'
  · have rel := a1.rel
    cases rel
    exact ⟨_, rfl, (PostE.pst p1').same a1.sr.gh (.int _)⟩
  · exact p1'.elim
theorem e_not {a : Expr} {c : CE} {pos : Pos} (ha : PE X a (RE (gd X fa ca) true W (den c call))) : PE X (.UnaryOp .Not a pos) (RE (gd X fa ca) bor W (den (.not c) call)) := by
  refine PE.weak (pe_notT ha) fun σ H Q ⟨Zh, F, mu, ρ, S, sr, p⟩ => ?_
  simp only [den] at p
  refine RE.mono (fun x H1 ⟨F1, mu1, r1, S1, a1, _, p1⟩ => ?_) (RE.bind sr p)
  obtain ⟨b, e, q⟩ := PostE.optB (PostE.evo a1.evo p1)
  obtain ⟨k, e2, e3⟩ := Option.map_eq_some_iff.mp e
  subst e3
  exact ⟨k, tru_at a1.sr.gh e2 a1.rel, q.same a1.sr.gh (.bl _)⟩

/-! ### tests -/
theorem t_val {e : Expr} {f : Env → Sto → Res Rv} (he : PE X e (RE (gd X fa ca) true W f)) (ht : plainT e = true) : PT X e (RT (gd X fa ca) W f) := by
  have hit : ∀ whole, isTrue e X.env whole = (do let v ← whole; standAt e.pos; holding [v] (truthy v)) := by
    intro w
    cases e with
    | UnaryOp o x pos => cases o <;> first | rfl | cases ht
    | BoolOp => cases ht
    | IfExp => cases ht
    | Compare => cases ht
    | _ => rfl
  refine PT.weak (pt_truth he hit) fun σ H Q ⟨Zh, F, mu, ρ, S, sr, p⟩ => ?_
  refine ⟨Zh, F, mu, ρ, S, sr, ?_⟩
  cases e : f ρ S with
  | ok r S1 =>
    rw [e] at p
    obtain ⟨k, hk, p⟩ := p
    exact fun F' mu' v H' e' gh rel _ => ⟨k, tru_at gh hk rel, p F' mu' H' e' gh⟩
  | ex x S1 => rw [e] at p; exact p
  | bad => rw [e] at p; exact p
theorem PostT.bool {g : Gd} {F : Hp} {mu : List Addr} {σ : L2.St} {H : Hp} {Q : Bool → Hp → Prop} {o : Option Bool} {S' : Sto} (gh : Gh g F mu S' H) (p : PostT g W F mu σ H Q (optB o S')) : ∃ b, o = some b ∧ Q b H := by
  cases o with
  | none => exact p.elim
  | some b => obtain ⟨k, h, p⟩ := p; cases h; exact ⟨b, rfl, p F mu H .refl gh⟩
theorem t_not {a : Expr} {c : CE} {pos : Pos} (ha : PT X a (RT (gd X fa ca) W (den c call))) : PT X (.UnaryOp .Not a pos) (RT (gd X fa ca) W (den (.not c) call)) := by
  refine PT.weak (pt_not ha) fun σ H Q ⟨Zh, F, mu, ρ, S, sr, p⟩ => ?_
  simp only [den] at p
  refine RT.mono (fun b H1 ⟨F1, mu1, r1, S1, ev, sr1, hb, p1⟩ => ?_) (RT.bindT sr p fun r S1 hne => ?_)
  · cases h : tru r S1 with
    | none => rw [h] at hne; exact absurd rfl hne
    | some b => exact ⟨b, rfl⟩
  · rw [hb] at p1
    obtain ⟨k, e, q⟩ := PostT.bool sr1.gh (PostT.evo ev p1)
    cases e
    exact q
theorem t_ofCmp {e : Expr} {a b : Expr} {ca' cb : CE} {o : Cop} {f : CE} (ha : PE X a (RE (gd X fa ca) true W (den ca' call))) (hb : PE X b (RE (gd X fa ca) true W (den cb call)))
    (rule : ∀ {ta tb' : TE}, PE X a ta → PE X b tb' → PT X e (tTest (tOp (rP2 (gd X fa ca) (cmpV o)) ta tb')))
    (hden : ∀ ρ S, den f call ρ S = (den ca' call ρ S).bind fun x S1 => (den cb call ρ S1).bind fun y S2 => optB (cmpS o x y S2) S2) : PT X e (RT (gd X fa ca) W (den f call)) := by
  refine PT.weak (rule ha hb) fun σ H Q ⟨Zh, F, mu, ρ, S, sr, p⟩ => ?_
  rw [hden] at p
  refine RE.mono (fun x H1 ⟨F1, mu1, r1, S1, a1, _, p1⟩ => ?_) (RE.bindT sr p)
  refine RE.mono (fun y H2 ⟨F2, mu2, r2, S2, a2, _, p2⟩ => ?_) (RE.bindT a1.sr (PostT.evo a1.evo p1))
  have p2' := PostT.evo a2.evo p2
  cases e : cmpS o r1 r2 S2 with
  | none => rw [e] at p2'; exact p2'.elim
  | some b =>
    rw [e] at p2'
    obtain ⟨k, hk, p3⟩ := p2'
    cases hk
    refine ⟨F2, mu2, S2, r1, r2, .sh (.bl b), a2.sr.gh, a1.to a2.evo, a2.rel, by unfold cmpV; rw [e]; rfl, fun F' v H' ev gh rel _ => ?_⟩
    cases rel
    exact ⟨b, rfl, p3 F' mu2 H' ev gh⟩

/-! ### and, or, if else -/
theorem e_and {a b : Expr} {r : List Expr} {p : Pos} {c d : CE} (ha : PE X a (RE (gd X fa ca) bor W (den c call))) (hb : PE X (.BoolOp .And (b :: r) p) (RE (gd X fa ca) bor W (den d call))) : PE X (.BoolOp .And (a :: b :: r) p) (RE (gd X fa ca) bor W (den (.and c d) call)) := by
  refine PE.weak (pe_andT ha hb) fun σ H Q ⟨Zh, F, mu, ρ, S, sr, p⟩ => ?_
  simp only [den] at p
  refine RE.mono (fun x H1 ⟨F1, mu1, r1, S1, a1, n1, p1⟩ => ?_) (RE.bind sr p)
  have p1' := PostE.evo a1.evo p1
  cases e : tru r1 S1 with
  | none => rw [e] at p1'; exact p1'.elim
  | some k =>
    refine ⟨k, tru_at a1.sr.gh e a1.rel, ?_⟩
    rw [e] at p1 p1'
    cases k with
    | true => exact ⟨Zh, F1, mu1, ρ, S1, a1.sr, p1'⟩
    | false => exact p1 F1 mu1 x H1 a1.evo a1.sr.gh a1.rel n1
theorem e_or {a b : Expr} {r : List Expr} {p : Pos} {c d : CE} (ha : PE X a (RE (gd X fa ca) bor W (den c call))) (hb : PE X (.BoolOp .Or (b :: r) p) (RE (gd X fa ca) bor W (den d call))) : PE X (.BoolOp .Or (a :: b :: r) p) (RE (gd X fa ca) bor W (den (.or c d) call)) := by
  refine PE.weak (pe_orT ha hb) fun σ H Q ⟨Zh, F, mu, ρ, S, sr, p⟩ => ?_
  simp only [den] at p
  refine RE.mono (fun x H1 ⟨F1, mu1, r1, S1, a1, n1, p1⟩ => ?_) (RE.bind sr p)
  have p1' := PostE.evo a1.evo p1
  cases e : tru r1 S1 with
  | none => rw [e] at p1'; exact p1'.elim
  | some k =>
    refine ⟨k, tru_at a1.sr.gh e a1.rel, ?_⟩
    rw [e] at p1 p1'
    cases k with
    | false => exact ⟨Zh, F1, mu1, ρ, S1, a1.sr, p1'⟩
    | true => exact p1 F1 mu1 x H1 a1.evo a1.sr.gh a1.rel n1
theorem ht_of {c : CE} {k : Rv → Sto → Res Rv} {r : Rv} {S1 : Sto} {t f : Res Rv} (hk : k r S1 = (match tru r S1 with | some true => t | some false => f | none => .bad)) (h : k r S1 ≠ .bad) : ∃ b, tru r S1 = some b := by
  cases e : tru r S1 with
  | none => rw [hk, e] at h; exact absurd rfl h
  | some b => exact ⟨b, rfl⟩
theorem t_and {a b : Expr} {r : List Expr} {p : Pos} {c d : CE} (ha : PT X a (RT (gd X fa ca) W (den c call))) (hb : PW X (.BoolOp .And (b :: r) p) (RT (gd X fa ca) W (den d call))) : PW X (.BoolOp .And (a :: b :: r) p) (RT (gd X fa ca) W (den (.and c d) call)) := by
  refine PW.weak (pw_and ha hb) fun σ H Q ⟨Zh, F, mu, ρ, S, sr, p⟩ => ?_
  simp only [den] at p
  refine RT.mono (fun b H1 ⟨F1, mu1, r1, S1, ev, sr1, hb, p1⟩ => ?_) (RT.bindT sr p fun r S1 hne => ?_)
  · cases h : tru r S1 with
    | none => rw [h] at hne; exact absurd rfl hne
    | some b => exact ⟨b, rfl⟩
  · have p1' := PostT.evo ev p1
    rw [hb] at p1'
    cases b with
    | true => exact ⟨Zh, F1, mu1, ρ, S1, sr1, p1'⟩
    | false =>
      obtain ⟨k, h, q⟩ := p1'
      rw [hb] at h
      cases h
      exact q F1 mu1 H1 .refl sr1.gh
theorem t_or {a b : Expr} {r : List Expr} {p : Pos} {c d : CE} (ha : PT X a (RT (gd X fa ca) W (den c call))) (hb : PW X (.BoolOp .Or (b :: r) p) (RT (gd X fa ca) W (den d call))) : PW X (.BoolOp .Or (a :: b :: r) p) (RT (gd X fa ca) W (den (.or c d) call)) := by
  refine PW.weak (pw_or ha hb) fun σ H Q ⟨Zh, F, mu, ρ, S, sr, p⟩ => ?_
  simp only [den] at p
  refine RT.mono (fun b H1 ⟨F1, mu1, r1, S1, ev, sr1, hb, p1⟩ => ?_) (RT.bindT sr p fun r S1 hne => ?_)
  · cases h : tru r S1 with
    | none => rw [h] at hne; exact absurd rfl hne
    | some b => exact ⟨b, rfl⟩
  · have p1' := PostT.evo ev p1
    rw [hb] at p1'
    cases b with
    | false => exact ⟨Zh, F1, mu1, ρ, S1, sr1, p1'⟩
    | true =>
      obtain ⟨k, h, q⟩ := p1'
      rw [hb] at h
      cases h
      exact q F1 mu1 H1 .refl sr1.gh
theorem e_ife {t a b : Expr} {p : Pos} {ct c d : CE} (ht : PT X t (RT (gd X fa ca) W (den ct call))) (ha : PE X a (RE (gd X fa ca) bor W (den c call))) (hb : PE X b (RE (gd X fa ca) bor W (den d call))) : PE X (.IfExp t a b p) (RE (gd X fa ca) bor W (den (.ife ct c d) call)) := by
  refine PE.weak (pe_ifExp ht ha hb) fun σ H Q ⟨Zh, F, mu, ρ, S, sr, p⟩ => ?_
  simp only [den] at p
  refine RT.mono (fun b H1 ⟨F1, mu1, r1, S1, ev, sr1, hb, p1⟩ => ?_) (RT.bind sr p fun r S1 hne => ?_)
  · cases h : tru r S1 with
    | none => rw [h] at hne; exact absurd rfl hne
    | some b => exact ⟨b, rfl⟩
  · have p1' := PostE.evo ev p1
    rw [hb] at p1'
    cases b with
    | true => exact ⟨Zh, F1, mu1, ρ, S1, sr1, p1'⟩
    | false => exact ⟨Zh, F1, mu1, ρ, S1, sr1, p1'⟩
theorem pt_ife {t a b : Expr} {p : Pos} {tt ta tb' : TT} (ht : PT X t tt) (ha : PT X a ta) (hb : PT X b tb') : PT X (.IfExp t a b p) (fun σ H Q => tt σ H fun c H1 => if c = true then ta σ H1 Q else tb' σ H1 Q) := by
  refine ⟨fun pins s σ H Q I h => ?_⟩
  refine PyProof.Rows.isTrue_IfExp (thn (ht.run pins s σ H _ I h) fun d s1 ⟨H1, I1, q1⟩ => ?_)
  cases d with
  | true => exact ha.run pins s1 σ H1 Q I1 q1
  | false => exact hb.run pins s1 σ H1 Q I1 q1
theorem t_ife {t a b : Expr} {p : Pos} {ct c d : CE} (ht : PT X t (RT (gd X fa ca) W (den ct call))) (ha : PT X a (RT (gd X fa ca) W (den c call))) (hb : PT X b (RT (gd X fa ca) W (den d call))) : PT X (.IfExp t a b p) (RT (gd X fa ca) W (den (.ife ct c d) call)) := by
  refine PT.weak (pt_ife ht ha hb) fun σ H Q ⟨Zh, F, mu, ρ, S, sr, p⟩ => ?_
  simp only [den] at p
  refine RT.mono (fun b H1 ⟨F1, mu1, r1, S1, ev, sr1, hb, p1⟩ => ?_) (RT.bindT sr p fun r S1 hne => ?_)
  · cases h : tru r S1 with
    | none => rw [h] at hne; exact absurd rfl hne
    | some b => exact ⟨b, rfl⟩
  · have p1' := PostT.evo ev p1
    rw [hb] at p1'
    cases b with
    | true => exact ⟨Zh, F1, mu1, ρ, S1, sr1, p1'⟩
    | false => exact ⟨Zh, F1, mu1, ρ, S1, sr1, p1'⟩

/-! ### comparisons -/
theorem notMarks {op : CmpOp} {b : Expr} (h : isSet b = false) : behindInMarks op b = false := by cases b <;> first | rfl | cases h
theorem Cxt.units (cx : Cxt tb X W fa ca call n N sc) : X.A.units + 65 < cLine := by
  have := cx.room.un
  omega
theorem e_cmp (cx : Cxt tb X W fa ca call n N sc) {a b : Expr} {c d : CE} {o : Cop} {pos : Pos} (ha : PE X a (RE (gd X fa ca) true W (den c call))) (hb : PE X b (RE (gd X fa ca) true W (den d call))) (hs : isSet b = false) :
    PE X (.Compare a [cop o] [b] pos) (RE (gd X fa ca) bor W (den (.cmp o c d) call)) :=
  e_bin ha hb (fun h1 h2 => pe_cmpR (cmp_ok cx.room cx.units o) h1 h2 (notMarks hs)) fun ρ S => by simp only [den, cmpV, optB_eq]
theorem t_cmp (cx : Cxt tb X W fa ca call n N sc) {a b : Expr} {c d : CE} {o : Cop} {pos : Pos} (ha : PE X a (RE (gd X fa ca) true W (den c call))) (hb : PE X b (RE (gd X fa ca) true W (den d call))) (hs : isSet b = false) :
    PT X (.Compare a [cop o] [b] pos) (RT (gd X fa ca) W (den (.cmp o c d) call)) :=
  t_ofCmp ha hb (fun h1 h2 => pt_cmpR (cmp_ok cx.room cx.units o) h1 h2 (notMarks hs)) fun ρ S => by simp only [den]
theorem e_chain (cx : Cxt tb X W fa ca call n N sc) {a b d : Expr} {c c' c2 : CE} {o o' : Cop} {pos : Pos} (ha : PE X a (RE (gd X fa ca) true W (den c call))) (hb : PE X b (RE (gd X fa ca) true W (den c' call))) (hd : PE X d (RE (gd X fa ca) true W (den c2 call))) (hs : isSet d = false) :
    PE X (.Compare a [cop o, cop o'] [b, d] pos) (RE (gd X fa ca) bor W (den (.chain o o' c c' c2) call)) := by
  refine PE.weak (pe_chain (cmp_ok (fa := fa) (ca := ca) cx.room cx.units o) (cmp_ok (fa := fa) (ca := ca) cx.room cx.units o') ha hb hd (notMarks hs)) fun σ H Q ⟨Zh, F, mu, ρ, S, sr, p⟩ => ?_
  simp only [den] at p
  refine RE.mono (fun x H1 ⟨F1, mu1, r1, S1, a1, _, p1⟩ => ?_) (RE.bind sr p)
  refine RE.mono (fun y H2 ⟨F2, mu2, r2, S2, a2, _, p2⟩ => ?_) (RE.bind a1.sr (PostE.evo a1.evo p1))
  have p2' := PostE.evo a2.evo p2
  cases e : cmpS o r1 r2 S2 with
  | none => rw [e] at p2'; exact p2'.elim
  | some k =>
    rw [e] at p2'
    refine ⟨F2, mu2, S2, r1, r2, .sh (.bl k), a2.sr.gh, a1.to a2.evo, a2.rel, by unfold cmpV; rw [e]; rfl, fun F3 v H3 ev gh3 rel _ => ?_⟩
    cases rel
    refine ⟨k, rfl, ?_⟩
    have p3 := PostE.evo ev p2'
    have sr3 := a2.sr.evo ev gh3
    cases k with
    | false => exact (PostE.pst p3).same gh3 (.bl _)
    | true =>
      refine RE.mono (fun z H4 ⟨F4, mu4, r3, S3, a4, _, p4⟩ => ?_) (RE.bind sr3 p3)
      have p4' := PostE.evo a4.evo p4
      obtain ⟨b, e4, q⟩ := PostE.optB p4'
      exact ⟨F4, mu4, S3, r2, r3, .sh (.bl b), a4.sr.gh, (a2.rel.evo ev a2.sr.gh.sub).evo a4.evo gh3.sub, a4.rel, by unfold cmpV; rw [e4]; rfl, q⟩
theorem t_chain (cx : Cxt tb X W fa ca call n N sc) {a b d : Expr} {c c' c2 : CE} {o o' : Cop} {pos : Pos} (ha : PE X a (RE (gd X fa ca) true W (den c call))) (hb : PE X b (RE (gd X fa ca) true W (den c' call))) (hd : PE X d (RE (gd X fa ca) true W (den c2 call))) (hs : isSet d = false) :
    PT X (.Compare a [cop o, cop o'] [b, d] pos) (RT (gd X fa ca) W (den (.chain o o' c c' c2) call)) := by
  refine PT.weak (pt_chain (cmp_ok (fa := fa) (ca := ca) cx.room cx.units o) (cmp_ok (fa := fa) (ca := ca) cx.room cx.units o') ha hb hd (notMarks hs)) fun σ H Q ⟨Zh, F, mu, ρ, S, sr, p⟩ => ?_
  simp only [den] at p
  refine RE.mono (fun x H1 ⟨F1, mu1, r1, S1, a1, _, p1⟩ => ?_) (RE.bindT sr p)
  refine RE.mono (fun y H2 ⟨F2, mu2, r2, S2, a2, _, p2⟩ => ?_) (RE.bindT a1.sr (PostT.evo a1.evo p1))
  have p2' := PostT.evo a2.evo p2
  cases e : cmpS o r1 r2 S2 with
  | none => rw [e] at p2'; exact p2'.elim
  | some k =>
    rw [e] at p2'
    refine ⟨F2, mu2, S2, r1, r2, .sh (.bl k), a2.sr.gh, a1.to a2.evo, a2.rel, by unfold cmpV; rw [e]; rfl, fun F3 v H3 ev gh3 rel _ => ?_⟩
    cases rel
    refine ⟨k, rfl, ?_⟩
    have p3 := PostT.evo ev p2'
    have sr3 := a2.sr.evo ev gh3
    cases k with
    | false =>
      obtain ⟨k, h, q⟩ := p3
      cases h
      exact ⟨false, rfl, q F3 mu2 H3 .refl gh3⟩
    | true =>
      refine RE.mono (fun z H4 ⟨F4, mu4, r3, S3, a4, _, p4⟩ => ?_) (RE.bindT sr3 p3)
      have p4' := PostT.evo a4.evo p4
      cases e4 : cmpS o' r2 r3 S3 with
      | none => rw [e4] at p4'; exact p4'.elim
      | some k =>
        rw [e4] at p4'
        obtain ⟨k', hk, p5⟩ := p4'
        cases hk
        refine ⟨F4, mu4, S3, r2, r3, .sh (.bl k), a4.sr.gh, (a2.rel.evo ev a2.sr.gh.sub).evo a4.evo gh3.sub, a4.rel, by unfold cmpV; rw [e4]; rfl, fun F' v H' ev' gh rel _ => ?_⟩
        cases rel
        exact ⟨k, rfl, p5 F' mu4 H' ev' gh⟩

/-! ### subscripts -/
theorem plainIx {b : Expr} (h : isSlice b = false) : PlainIx b := by intro o i; cases b <;> first | rfl | cases h
theorem e_idx (cx : Cxt tb X W fa ca call n N sc) {a b : Expr} {c d : CE} {pos : Pos} (ha : PE X a (RE (gd X fa ca) true W (den c call))) (hb : PE X b (RE (gd X fa ca) true W (den d call))) (hs : isSlice b = false) :
    PE X (.Subscript a b pos) (RE (gd X fa ca) bor W (den (.idx c d) call)) :=
  e_bin ha hb (fun h1 h2 => pe_ix (ix_ok cx.room) h1 h2 (plainIx hs)) fun ρ S => by simp only [den]
/-- a slice's part -/
def ROp (g : Gd) (W : WX) (f : Env → Sto → Res Rv) : TO := fun σ H Q => ∃ Zh F mu ρ S, SR g Zh F mu ρ S σ H ∧
  (match f ρ S with
  | .ok r S' => ∃ o, partS r = some o ∧ ∀ F' mu' H', Evo F mu H F' mu' H' → Gh g F' mu' S' H' → Q o H'
  | .ex x S' => PostX g W F mu σ H x S'
  | .bad => False)
theorem PO.weak {e : Option Expr} {t t' : TO} (h : PO X e t) (w : ∀ σ H Q, t' σ H Q → t σ H Q) : PO X e t' := ⟨fun pins s σ H Q I q => h.run pins s σ H Q I (w σ H Q q)⟩
theorem po_no : PO X none (ROp (gd X fa ca) W (den (.con .non) call)) := by
  refine PO.weak po_none fun σ H Q ⟨Zh, F, mu, ρ, S, sr, p⟩ => ?_
  simp only [den] at p
  obtain ⟨o, e, p⟩ := p
  cases e
  exact p F mu H .refl sr.gh
theorem po_ex {e : Expr} {c : CE} (h : PE X e (RE (gd X fa ca) true W (den c call))) : PO X (some e) (ROp (gd X fa ca) W (den c call)) := by
  refine ⟨fun pins s σ H Q I ⟨Zh, F, mu, ρ, S, sr, p⟩ => ?_⟩
  rw [PySem.evalPart_some]
  have q : RE (gd X fa ca) true W (den c call) σ H (fun x H1 => (x = .non ∧ Q none H1) ∨ ∃ i, x = .int i ∧ Q (some i) H1) := by
    refine ⟨Zh, F, mu, ρ, S, sr, ?_⟩
    cases e : den c call ρ S with
    | ok r S1 =>
      rw [e] at p
      obtain ⟨o, ho, p⟩ := p
      refine fun F' mu' v H' e' gh rel _ => ?_
      unfold partS at ho
      split at ho
      · cases ho; cases rel; exact .inl ⟨rfl, p F' mu' H' e' gh⟩
      · cases ho; cases rel; exact .inr ⟨_, rfl, p F' mu' H' e' gh⟩
      · cases ho
    | ex x S1 => rw [e] at p; exact p
    | bad => rw [e] at p; exact p
  refine thn (h.run pins s σ H _ I q) fun u s1 ⟨x, H1, I1, r1, q1⟩ => ?_
  rcases q1 with ⟨rfl, q1⟩ | ⟨i, rfl, q1⟩
  · cases r1; exact ⟨none, H1, I1, .none, q1⟩
  · obtain ⟨t, rfl⟩ := r1
    exact ⟨some i, H1, I1, .int i t, q1⟩
theorem e_slc {a : Expr} {lo hi : Option Expr} {c cl ch : CE} {p2 pos : Pos} (ha : PE X a (RE (gd X fa ca) true W (den c call))) (hl : PO X lo (ROp (gd X fa ca) W (den cl call))) (hh : PO X hi (ROp (gd X fa ca) W (den ch call))) :
    PE X (.Subscript a (.Slice lo hi none p2) pos) (RE (gd X fa ca) bor W (den (.slc c cl ch) call)) := by
  refine PE.weak (pe_slice (slc_ok (fa := fa) (ca := ca)) ha hl hh) fun σ H Q ⟨Zh, F, mu, ρ, S, sr, p⟩ => ?_
  simp only [den] at p
  refine RE.mono (fun x H1 ⟨F1, mu1, r1, S1, a1, _, p1⟩ => ?_) (RE.bind sr p)
  have p1 := PostE.evo a1.evo p1
  refine ⟨Zh, F1, mu1, ρ, S1, a1.sr, ?_⟩
  cases el : den cl call ρ S1 with
  | bad => rw [el] at p1; exact p1
  | ex x S2 => rw [el] at p1; exact p1
  | ok l S2 =>
    rw [el] at p1
    have p1 : PostE (gd X fa ca) bor W F1 mu1 σ H1 Q (match partS l with | none => .bad | some l' => (den ch call ρ S2).bind fun h S3 => match partS h with | none => .bad | some h' => optR (slcP r1 l' h' S3) S3) := p1
    cases eo : partS l with
    | none => rw [eo] at p1; exact p1.elim
    | some l' =>
      rw [eo] at p1
      refine ⟨l', eo, fun F2 mu2 H2 ev2 gh2 => ?_⟩
      have p2 := PostE.evo ev2 p1
      have sr2 := a1.sr.evo ev2 gh2
      refine ⟨Zh, F2, mu2, ρ, S2, sr2, ?_⟩
      cases eh : den ch call ρ S2 with
      | bad => rw [eh] at p2; exact p2
      | ex x S3 => rw [eh] at p2; exact p2
      | ok h S3 =>
        rw [eh] at p2
        have p2 : PostE (gd X fa ca) bor W F2 mu2 σ H2 Q (match partS h with | none => .bad | some h' => optR (slcP r1 l' h' S3) S3) := p2
        cases eo2 : partS h with
        | none => rw [eo2] at p2; exact p2.elim
        | some h' =>
          rw [eo2] at p2
          refine ⟨h', eo2, fun F3 mu3 H3 ev3 gh3 => ?_⟩
          obtain ⟨r, er, q⟩ := PostE.opt (PostE.evo ev3 p2)
          exact ⟨F3, mu3, S3, r1, r, gh3, (a1.to ev2).evo ev3 gh2.sub, er, q⟩
end
end Z

set_option Elab.async false
set_option linter.all false
set_option autoImplicit false
set_option maxRecDepth 100000
set_option maxHeartbeats 1000000
/-! Z12: arguments, displays, calls. -/
namespace Z
open PySem L2

section
variable {g : Gd} {bor : Bool} {W : WX} {F F1 : Hp} {mu mu1 : List Addr} {σ : L2.St} {H H1 : Hp} {Q : VK} {Zh : Hp} {ρ : Env} {S : Sto}
theorem RA.bindE {sh : Bool} {f : Env → Sto → Res (List Rv)} {k : List Rv → Sto → Res Rv} (sr : SR g Zh F mu ρ S σ H) (p : PostE g bor W F mu σ H Q ((f ρ S).bind k)) :
    RA g sh W f σ H (fun vs H1 => ∃ F1 mu1 rs S1, f ρ S = .ok rs S1 ∧ Evo F mu H F1 mu1 H1 ∧ SR g Zh F1 mu1 ρ S1 σ H1 ∧ RelA g sh F1 mu1 H1 rs vs ∧ PostE g bor W F mu σ H Q (k rs S1)) := by
  refine ⟨Zh, F, mu, ρ, S, sr, ?_⟩
  cases e : f ρ S with
  | ok r S1 =>
    rw [e] at p
    exact fun F' mu' v H' e' gh rel => ⟨F', mu', r, S1, rfl, e', sr.evo e' gh, rel, p⟩
  | ex x S1 => rw [e] at p; exact p
  | bad => rw [e] at p; exact p
theorem RA.bindA {sh : Bool} {f : Env → Sto → Res (List Rv)} {k : List Rv → Sto → Res (List Rv)} {Q : List V → Hp → Prop} (sr : SR g Zh F mu ρ S σ H) (p : PostA g sh W F mu σ H Q ((f ρ S).bind k)) :
    RA g sh W f σ H (fun vs H1 => ∃ F1 mu1 rs S1, Evo F mu H F1 mu1 H1 ∧ SR g Zh F1 mu1 ρ S1 σ H1 ∧ RelA g sh F1 mu1 H1 rs vs ∧ PostA g sh W F mu σ H Q (k rs S1)) := by
  refine ⟨Zh, F, mu, ρ, S, sr, ?_⟩
  cases e : f ρ S with
  | ok r S1 =>
    rw [e] at p
    exact fun F' mu' v H' e' gh rel => ⟨F', mu', r, S1, e', sr.evo e' gh, rel, p⟩
  | ex x S1 => rw [e] at p; exact p
  | bad => rw [e] at p; exact p
theorem dens_len : ∀ (es : CEs) (c : Call) (ρ : Env) (S : Sto) (rs : List Rv) (S' : Sto), dens es c ρ S = .ok rs S' → rs.length = es.len
  | .nil, _, _, _, rs, _, h => by simp only [dens] at h; cases h; rfl
  | .cons e es, c, ρ, S, rs, S', h => by
    simp only [dens] at h
    cases e1 : den e c ρ S with
    | bad => rw [e1] at h; cases h
    | ex _ _ => rw [e1] at h; cases h
    | ok x S1 =>
      rw [e1] at h
      cases e2 : dens es c ρ S1 with
      | bad => simp only [Res.bind, e2] at h; cases h
      | ex _ _ => simp only [Res.bind, e2] at h; cases h
      | ok xs S2 =>
        simp only [Res.bind, e2] at h
        cases h
        show xs.length + 1 = es.len + 1
        rw [dens_len es c ρ S1 xs _ e2]
end
section
variable {tb : Tb} {X : Cx} {W : WX} {fa ca : Nat → Addr} {call : Call} {n : Nat} {N : List Str} {sc : Scope} {bor sh : Bool}
theorem starOf {x : Expr} {r : List Expr} {env : PySem.Env} (h : isStar x = false) : starEach (x :: r) env = (false, eval x env) :: starEach r env := by cases x <;> first | rfl | cases h
theorem backTo_cons {p : Pos} {b : Bool} {t : Sem Value} {r : List (Bool × Sem Value)} : ∃ t', backTo p ((b, t) :: r) = (b, t') :: backTo p r := ⟨_, rfl⟩
theorem plainOf {p : Pos} {env : PySem.Env} : ∀ {r : List Expr}, r.all (fun x => !isStar x) = true → (backTo p (starEach r env)).any (·.1) = false
  | [], _ => rfl
  | x :: r, h => by
    simp only [List.all_cons, Bool.and_eq_true, Bool.not_eq_true'] at h
    rw [starOf h.1]
    show (false || (backTo p (starEach r env)).any (·.1)) = false
    rw [plainOf h.2]; rfl
theorem a_nil : PA X [] (RA (gd X fa ca) sh W (dens .nil call)) := PA.weak pa_nil fun σ H Q ⟨Zh, F, mu, ρ, S, sr, p⟩ => by
  simp only [dens] at p
  refine p F mu [] H .refl sr.gh ?_
  unfold RelA
  split
  · exact .nil
  · exact .nil
theorem a_cons {x : Expr} {r : List Expr} {c : CE} {es : CEs} (hx : PE X x (RE (gd X fa ca) (!sh) W (den c call))) (hr : PA X r (RA (gd X fa ca) sh W (dens es call))) (hs : isStar x = false) : PA X (x :: r) (RA (gd X fa ca) sh W (dens (.cons c es) call)) := by
  refine PA.weak (pa_cons hx hr (starOf hs)) fun σ H Q ⟨Zh, F, mu, ρ, S, sr, p⟩ => ?_
  simp only [dens] at p
  refine RE.mono (fun v H1 ⟨F1, mu1, r1, S1, a1, n1, p1⟩ => ?_) (RE.bindA sr p)
  cases sh with
  | true =>
    obtain ⟨F', ev, gh', rel', sub', _⟩ := share a1.evo a1.sr.gh a1.rel (n1 rfl)
    refine RA.mono (fun vs H2 ⟨F2, mu2, rs, S2, ev2, sr2, ra, p2⟩ => ?_) (RA.bindA (sr.evo ev gh') (PostA.evo ev p1))
    exact p2 F2 mu2 (v :: vs) H2 ev2 sr2.gh (show RelDs _ F2 mu2 (r1.shr :: rs.map Rv.shr) (v :: vs) from .cons (rel'.mono ev2.le ev2.pre) ra)
  | false =>
    refine RA.mono (fun vs H2 ⟨F2, mu2, rs, S2, ev2, sr2, ra, p2⟩ => ?_) (RA.bindA a1.sr (PostA.evo a1.evo p1))
    exact p2 F2 mu2 (v :: vs) H2 ev2 sr2.gh (show Paired _ (r1 :: rs) (v :: vs) from .cons (a1.to ev2) ra)

/-! ### displays -/
theorem size1000 {k : Nat} (h : k ≤ 1000) : k ≤ sizeLine := Nat.le_trans h (by decide)
theorem e_tup {xs : List Expr} {es : CEs} {k : Nat} {pos : Pos} (ha : PA X xs (RA (gd X fa ca) true W (dens es call))) (hl : es.len ≤ 1000) : PE X (.Tuple xs k pos) (RE (gd X fa ca) bor W (den (.tup es) call)) := by
  refine PE.weak (pe_tup ha) fun σ H Q ⟨Zh, F, mu, ρ, S, sr, p⟩ => ?_
  simp only [den] at p
  refine RA.mono (fun vs H1 ⟨F1, mu1, rs, S1, e, ev, sr1, ra, p1⟩ => ?_) (RA.bindE sr p)
  have ra : RelDs _ F1 mu1 (rs.map Rv.shr) vs := ra
  refine ⟨?_, fun p hp => (PostE.pst (PostE.evo ev p1)).tup sr1.gh ra hp⟩
  have h1 := ra.length
  rw [List.length_map, dens_len _ _ _ _ _ _ e] at h1
  rw [← h1]; exact size1000 hl
theorem e_lst {xs : List Expr} {es : CEs} {pos : Pos} (ha : PA X xs (RA (gd X fa ca) true W (dens es call))) (hl : es.len ≤ 1000) : PE X (.List xs pos) (RE (gd X fa ca) bor W (den (.lst es) call)) := by
  refine PE.weak (pe_lst ha) fun σ H Q ⟨Zh, F, mu, ρ, S, sr, p⟩ => ?_
  simp only [den] at p
  refine RA.mono (fun vs H1 ⟨F1, mu1, rs, S1, e, ev, sr1, ra, p1⟩ => ?_) (RA.bindE sr p)
  have ra : RelDs _ F1 mu1 (rs.map Rv.shr) vs := ra
  refine ⟨?_, fun p hp => (PostE.pst (PostE.evo ev p1)).nl sr1.gh ra hp⟩
  have h1 := ra.length
  rw [List.length_map, dens_len _ _ _ _ _ _ e] at h1
  rw [← h1]; exact size1000 hl
theorem e_dct0 {pos : Pos} : PE X (.Dict [] [] pos) (RE (gd X fa ca) bor W (den .dct0 call)) := by
  refine ⟨fun pins s σ H Q I ⟨Zh, F, mu, ρ, S, sr, p⟩ => ?_⟩
  simp only [den] at p
  exact dnew_ok I fun p' s' hp I' => ⟨.ref p', _, I', rfl, (PostE.pst p).nd sr.gh .nil hp⟩

/-! ### built-ins -/
theorem bltB_of {x y : Str} (cx : Cxt tb X W fa ca call n N sc) (h : bltB tb sc x y = true) : x = y ∧ Gl X x ∧ X.mg x = none ∧ x ≠ "__name__" ∧ (x == ("__debug__" : Str)) = false := by
  simp only [bltB, Bool.and_eq_true, decide_eq_true_eq] at h
  obtain ⟨⟨⟨h1, h2⟩, h3⟩, h4⟩ := h
  obtain ⟨n1, n2, n3⟩ := nm_of h4
  refine ⟨h1, ?_, cx.bls x h3, n3, n1⟩
  show X.env.scope.names.lookup x = _
  rw [cx.hsc]; exact glo_of h2
theorem biN_boot : ∀ b : Bi, (∀ t, b ≠ .isi t) → bootBuiltins (biN b) = some (biV b)
  | .len, _ => by with_unfolding_all rfl
  | .int, _ => by with_unfolding_all rfl
  | .bool, _ => by with_unfolding_all rfl
  | .str, _ => by with_unfolding_all rfl
  | .tuple, _ => by with_unfolding_all rfl
  | .list, _ => by with_unfolding_all rfl
  | .dict, _ => by with_unfolding_all rfl
  | .sum, _ => by with_unfolding_all rfl
  | .min, _ => by with_unfolding_all rfl
  | .max, _ => by with_unfolding_all rfl
  | .all, _ => by with_unfolding_all rfl
  | .any, _ => by with_unfolding_all rfl
  | .sorted, _ => by with_unfolding_all rfl
  | .isi t, h => absurd rfl (h t)
theorem biV_kind : ∀ b : Bi, (∀ t, b ≠ .isi t) → (∃ id, biV b = .builtin id) ∨ ∃ T, biV b = .type T
  | .len, _ => .inl ⟨_, rfl⟩
  | .int, _ => .inr ⟨_, rfl⟩
  | .bool, _ => .inr ⟨_, rfl⟩
  | .str, _ => .inr ⟨_, rfl⟩
  | .tuple, _ => .inr ⟨_, rfl⟩
  | .list, _ => .inr ⟨_, rfl⟩
  | .dict, _ => .inr ⟨_, rfl⟩
  | .sum, _ => .inl ⟨_, rfl⟩
  | .min, _ => .inl ⟨_, rfl⟩
  | .max, _ => .inl ⟨_, rfl⟩
  | .all, _ => .inl ⟨_, rfl⟩
  | .any, _ => .inl ⟨_, rfl⟩
  | .sorted, _ => .inl ⟨_, rfl⟩
  | .isi t, h => absurd rfl (h t)
theorem bi_post {es : CEs} {b : Bi} {σ : L2.St} {H : Hp} {Q : VK} (q : RE (gd X fa ca) bor W (den (.bi b es) call) σ H Q) : tCB (rPn (gd X fa ca) (biS b)) (RA (gd X fa ca) false W (dens es call)) σ H Q := by
  obtain ⟨Zh, F, mu, ρ, S, sr, p⟩ := q
  simp only [den] at p
  refine RA.mono (fun vs H1 ⟨F1, mu1, rs, S1, e, ev, sr1, ra, p1⟩ => ?_) (RA.bindE sr p)
  obtain ⟨r, e2, q⟩ := PostE.opt (PostE.evo ev p1)
  exact ⟨F1, mu1, S1, rs, r, sr1.gh, ra, e2, q⟩
theorem e_bi (cx : Cxt tb X W fa ca call n N sc) {x : Str} {y : Expr} {ys : List Expr} {es : CEs} {b : Bi} {p pos : Pos} (hb : ∀ t, b ≠ .isi t) (h : bltB tb sc x (biN b) = true) (ha : PA X (y :: ys) (RA (gd X fa ca) false W (dens es call))) (hs : (y :: ys).all (fun x => !isStar x) = true) :
    PE X (.Call (.Name x p) (y :: ys) [] pos) (RE (gd X fa ca) bor W (den (.bi b es) call)) := by
  obtain ⟨hx, hg, hm, hn, hd⟩ := bltB_of cx h
  have hv : bootBuiltins x = some (biV b) := by rw [hx]; exact biN_boot b hb
  have hok := bi_ok (fa := fa) (ca := ca) cx.calm cx.room b hb
  have hs' := hs
  simp only [List.all_cons, Bool.and_eq_true, Bool.not_eq_true'] at hs'
  rcases biV_kind b hb with ⟨id, e⟩ | ⟨T, e⟩
  · rw [e] at hv hok
    exact PE.weak (pe_callB hok hg hm hv ha hn hd (starOf hs'.1) (plainOf hs'.2)) fun σ H Q q => bi_post q
  · rw [e] at hv hok
    exact PE.weak (pe_callTy hok hg hm hv ha hn hd (starOf hs'.1) (plainOf hs'.2)) fun σ H Q q => bi_post q
theorem tyN_boot (t : Ty) : bootBuiltins (Str.ofString (tyN t)) = some (.type (tyN t)) := by cases t <;> with_unfolding_all rfl
theorem e_isi (cx : Cxt tb X W fa ca call n N sc) {x z : Str} {y : Expr} {c : CE} {t : Ty} {p p2 pos : Pos} (h : bltB tb sc x "isinstance" = true) (hz : bltB tb sc z (Str.ofString (tyN t)) = true) (ha : PE X y (RE (gd X fa ca) true W (den c call))) (hs : isStar y = false) :
    PE X (.Call (.Name x p) [y, .Name z p2] [] pos) (RE (gd X fa ca) bor W (den (.bi (.isi t) (.cons c .nil)) call)) := by
  obtain ⟨hx, hg, hm, hn, hd⟩ := bltB_of cx h
  obtain ⟨hx', hg', hm', hn', hd'⟩ := bltB_of cx hz
  have hv : bootBuiltins x = some (.builtin "isinstance") := by rw [hx]; with_unfolding_all rfl
  have hv' : bootBuiltins z = some (.type (tyN t)) := by rw [hx']; exact tyN_boot t
  refine PE.weak (pe_callB (isi_ok (fa := fa) (ca := ca) t) hg hm hv (pa_cons ha (pa_cons (pe_bltn (v := .ty (tyN t)) hg' hm' hv' rfl hn' hd') pa_nil (by rfl)) (starOf hs)) hn hd (starOf hs) (by rfl)) fun σ H Q ⟨Zh, F, mu, ρ, S, sr, p⟩ => ?_
  simp only [den, dens] at p
  have p : PostE (gd X fa ca) bor W F mu σ H Q ((den c call ρ S).bind fun x S1 => optR (biS (.isi t) [x] S1) S1) := by
    cases e : den c call ρ S with
    | ok r S1 => rw [e] at p; exact p
    | ex x S1 => rw [e] at p; exact p
    | bad => rw [e] at p; exact p
  refine RE.mono (fun v H1 ⟨F1, mu1, r1, S1, a1, n1, p1⟩ => ?_) (RE.bind sr p)
  obtain ⟨r, e2, q⟩ := PostE.opt (PostE.evo a1.evo p1)
  exact ⟨v, rfl, F1, mu1, S1, [r1], r, a1.sr.gh, .cons a1.rel .nil, e2, q⟩

/-! ### d.get(k, x) -/
theorem base0 {o : Expr} {m : Str} {env : PySem.Env} {whole : Sem Value} (h : isCall0 o = false) : attributeBase o m env whole = whole := by
  cases o with
  | Call f args kws pos =>
    cases args with
    | nil => cases h
    | cons _ _ => cases f <;> rfl
  | _ => rfl
/-- the dict at a -/
theorem dct_typed {pins : List (Addr × Obj)} {s : Shared} {σ : L2.St} {H : Hp} {a : Addr} {es : List Ent} (I : L2.Inv X pins σ H s) (hd : Rd H a (dO X.prog X.w a es)) : s.TypeIs (.ref a) "dict" ∧ ∀ b, Value.ref a = .ref b → ∃ ob, s.heap.get? b = some ob ∧ ob.dict = none := by
  have z : ∃ o, s.heap.get? a = some o ∧ o.ExactDict := by
    obtain ⟨⟨_, _, _, _, o, _, _, e, ex, _⟩, _⟩ := hd.ok I.hok
    exact ⟨o, e, ex⟩
  obtain ⟨o, e, ex⟩ := z
  refine ⟨⟨o, e, ex.1⟩, fun b e2 => ?_⟩
  cases e2
  exact ⟨o, e, ex.2.1⟩
theorem vw_shr {k : Rv} {S : Sto} {d : D} (e : vw k S = some d) (h : isKey d = true) : k.shr = d := by
  cases k with
  | nd _ => cases e
  | nl ds => cases e; simp [isKey, isTup] at h
  | sh x =>
    cases x with
    | ref m =>
      simp only [vw] at e
      obtain ⟨ds, _, rfl⟩ := Option.map_eq_some_iff.mp e
      simp [isKey, isTup] at h
    | _ => cases e; rfl
theorem isKey_at {g : Gd} {F : Hp} {mu : List Addr} {k : D} {v : V} (h : isKey k = true) (r : RelD g F mu k v) : ∃ a, v = .ref a := by
  cases k with
  | tup _ => cases r with | tup _ _ => exact ⟨_, rfl⟩
  | _ => simp [isKey, isTup] at h
theorem relDs_two {g : Gd} {F : Hp} {mu : List Addr} {a b : D} {vs : List V} (r : RelDs g F mu [a, b] vs) : ∃ v u, vs = [v, u] ∧ RelD g F mu a v ∧ RelD g F mu b u := by
  cases r with
  | cons h1 r =>
    cases r with
    | cons h2 r => cases r; exact ⟨_, _, rfl, h1, h2⟩
theorem vals_two {x y : V} {us : List Value} (r : Vals [x, y] us) : ∃ v u, us = [v, u] ∧ RelV x v ∧ RelV y u := by
  cases r with
  | cons h1 r =>
    cases r with
    | cons h2 r => cases r; exact ⟨_, _, rfl, h1, h2⟩
theorem strsD_map {g : Gd} {F : Hp} {mu : List Addr} : ∀ {ds : List D} {ns : List Str} {xs : List V}, strsD ds = some ns → RelDs g F mu ds xs → xs = ns.map V.str
  | [], _, _, e, .nil => by cases e; rfl
  | d :: ds, ns, _, e, .cons (v := v) (vs := vs) r t => by
    cases d with
    | str i =>
      simp only [strsD] at e
      cases q : strsD ds with
      | none => rw [q] at e; cases e
      | some ms =>
        rw [q] at e
        cases e
        have h1 := strsD_map q t
        cases r
        rw [h1]; rfl
    | non => cases e
    | int _ => cases e
    | bl _ => cases e
    | tup _ => cases e
    | lst _ => cases e
    | dct _ => cases e
    | scr _ => cases e
    | ref _ => cases e
    | fn _ => cases e
theorem findD_str : ∀ {ds : List D} {ns : List Str} {a : D} {n : Nat}, strsD ds = some ns → findD a ds = some n → ∃ z, a = .str z ∧ ns[n]? = some z ∧ ∀ m, m < n → ns[m]? ≠ some z
  | [], _, _, _, _, h => by simp [findD] at h
  | d :: ds, ns, a, n, e, h => by
    cases d with
    | str i =>
      simp only [strsD] at e
      cases q : strsD ds with
      | none => rw [q] at e; cases e
      | some ms =>
        rw [q] at e
        cases e
        simp only [findD] at h
        by_cases hd : deq (.str i) a = true
        · rw [if_pos hd] at h
          cases h
          cases a with
          | str z =>
            simp only [deq, beq_iff_eq] at hd
            exact ⟨z, rfl, by rw [hd]; rfl, fun m hm => absurd hm (Nat.not_lt_zero _)⟩
          | _ => simp [deq] at hd
        · rw [if_neg hd] at h
          obtain ⟨k, hk, rfl⟩ := Option.map_eq_some_iff.mp h
          obtain ⟨z, rfl, h1, h2⟩ := findD_str q hk
          refine ⟨z, rfl, by simpa using h1, fun m hm => ?_⟩
          cases m with
          | zero =>
            intro z2
            simp only [List.getElem?_cons_zero, Option.some.injEq] at z2
            exact hd (by simp [deq, z2])
          | succ m => simpa using h2 m (by omega)
    | non => cases e
    | int _ => cases e
    | bl _ => cases e
    | tup _ => cases e
    | lst _ => cases e
    | dct _ => cases e
    | scr _ => cases e
    | ref _ => cases e
    | fn _ => cases e
theorem relDs_one {g : Gd} {F : Hp} {mu : List Addr} {a : D} {vs : List V} (r : RelDs g F mu [a] vs) : ∃ v, vs = [v] ∧ RelD g F mu a v := by
  cases r with
  | cons h1 r => cases r; exact ⟨_, rfl, h1⟩
theorem e_index (cx : Cxt tb X W fa ca call n N sc) {x1 : Expr} {j : Nat} {ds : List D} {ys : List Str} {x : Str} {px : Pos} {es : CEs} {apos cpos : Pos} (h1 : glB sc x = true) (h2 : nmB x = true) (h3 : tb.cns[j]? = some (x, .tup ds)) (hys : strsD ds = some ys)
    (ha : PA X [x1] (RA (gd X fa ca) true W (dens es call))) (hl : (apos.endLine == cpos.line) = true) (hs : isStar x1 = false) :
    PE X (.Call (.Attribute (.Name x px) "index" apos) [x1] [] cpos) (RE (gd X fa ca) bor W (den (.mt .index (.glob j (.tup ds)) es) call)) := by
  obtain ⟨v, u0, hm, hr, ht, hd⟩ := cx.cns j x _ h3
  refine ⟨fun pins s σ H Q I ⟨Zh, F, mu, ρ, S, sr, p⟩ => ?_⟩
  simp only [den, Res.bind, mtK, sqv, Option.isSome_some, ↓reduceIte] at p
  have p : PostE (gd X fa ca) bor W F mu σ H Q ((dens es call ρ S).bind fun xs S2 => optR (mtS .index (.sh (.tup ds)) xs S2) S2) := p
  have st : starEach [x1] X.env = [(false, eval x1 X.env)] := by rw [starOf hs]; rfl
  have hN := pe_glob (X := X) (v := v) (pos := px) (show X.env.scope.names.lookup x = _ by rw [cx.hsc]; exact glo_of h1) hm hr (nm_of h2).1
  refine wpAny_Call_method_late (base0 rfl) (by rw [st]; rfl) hl rfl (thn (hN.run pins s σ H (fun y H1 => y = v ∧ H1 = H) I ⟨rfl, rfl⟩) fun u s1 ⟨y, H1, I1, rx, q0⟩ => ?_)
  obtain ⟨rfl, rfl⟩ := q0
  have hd0 := hd F mu
  obtain ⟨a, ea⟩ : ∃ a, y = .ref a := by cases hd0; exact ⟨_, rfl⟩
  subst ea
  obtain ⟨t1, t2⟩ := tyV_is I1 rx (T := "tuple") (.inr (.inl ⟨rfl, ht a rfl⟩))
  refine ⟨"tuple", "tuple.index", PySem.F.plainAttrs_tuple, PySem.F.slot_tuple_index, PySem.F.type_tuple_index, t1, t2, ?_⟩
  have hA := ha.run cpos pins s1 σ H1 _ I1 (RA.bindE sr p)
  rw [st] at hA ⊢
  refine Calls.callWith_builtin (by rfl) (Calls.evalArgs_plain (thn hA fun us s2 ⟨vs, H2, I2, r2, F2, mu2, rs, S2, _, ev2, sr2, ra, p2⟩ => ?_))
  have ra : RelDs (gd X fa ca) F2 mu2 (rs.map Rv.shr) vs := ra
  obtain ⟨r, er, q⟩ := PostE.opt (PostE.evo ev2 p2)
  simp only [mtS] at er
  split at er
  · rename_i k _ _
    simp only [sqv, Option.bind_some] at er
    cases ev : vw k S2 with
    | none => rw [ev] at er; cases er
    | some kd =>
      rw [ev] at er
      simp only [Option.bind_some] at er
      split at er
      · obtain ⟨mi, hf0, rfl⟩ := Option.map_eq_some_iff.mp er
        obtain ⟨m, hf, rfl⟩ : ∃ m : Nat, findD kd ds = some m ∧ mi = (m : Int) := by
          cases hfd : findD kd ds with
          | none => rw [hfd] at hf0; cases hf0
          | some m => rw [hfd] at hf0; cases hf0; exact ⟨m, rfl, rfl⟩
        obtain ⟨z, rfl, g1, g2⟩ := findD_str hys hf
        obtain ⟨v1, rfl, rk⟩ := relDs_one ra
        have hk : k = .sh (.str z) := by
          cases k with
          | sh d =>
            cases d with
            | ref n =>
              simp only [vw] at ev
              obtain ⟨l, _, e2⟩ := Option.map_eq_some_iff.mp ev
              cases e2
            | _ => first | (cases ev; rfl) | (cases ev)
          | nl _ => cases ev
          | nd _ => cases ev
        subst hk
        cases rk
        have hd2 := hd F2 mu2
        cases hd2 with
        | tup hq hrs =>
          have e2 := strsD_map hys hrs
          subst e2
          exact mt_tup_index pins s2 σ H2 (.ref a) [.str z] u us Q I2 rx r2 ⟨a, ys, z, m, rfl, rfl, sqT_sub sr2.gh.sub hq, g1, g2, q.same sr2.gh (.int _)⟩
      · cases er
  · cases er
theorem e_get (cx : Cxt tb X W fa ca call n N sc) {o x1 x2 : Expr} {c : CE} {es : CEs} {apos cpos : Pos} (ho : PE X o (RE (gd X fa ca) true W (den c call))) (ha : PA X [x1, x2] (RA (gd X fa ca) true W (dens es call))) (h0 : isCall0 o = false) (hl : (apos.endLine == cpos.line) = true) (h1 : isStar x1 = false) (h2 : isStar x2 = false) :
    PE X (.Call (.Attribute o "get" apos) [x1, x2] [] cpos) (RE (gd X fa ca) bor W (den (.mt .get c es) call)) := by
  refine ⟨fun pins s σ H Q I ⟨Zh, F, mu, ρ, S, sr, p⟩ => ?_⟩
  simp only [den] at p
  have st : starEach [x1, x2] X.env = [(false, eval x1 X.env), (false, eval x2 X.env)] := by rw [starOf h1, starOf h2]; rfl
  refine wpAny_Call_method_late (base0 h0) (by rw [st]; rfl) hl rfl (thn (ho.run pins s σ H (fun x H1 => ∃ F1 mu1 r1 S1, At (gd X fa ca) Zh F mu H ρ σ r1 S1 x F1 mu1 H1 ∧ _ ∧ _) I (RE.bind sr p)) fun u s1 ⟨x, H1, I1, rx, F1, mu1, r1, S1, a1, _, p1⟩ => ?_)
  have p1 := PostE.evo a1.evo p1
  cases e : mtK .get r1 S1 with
  | false => rw [e] at p1; exact p1.elim
  | true =>
    rw [e, if_pos rfl] at p1
    have e : (dcv r1).isSome = true := e
    obtain ⟨kvs, ek⟩ := Option.isSome_iff_exists.mp e
    obtain ⟨a, es', rfl, hd, rk⟩ := dcv_at a1.sr.gh ek a1.rel
    cases rx
    obtain ⟨t1, t2⟩ := dct_typed I1 hd
    refine ⟨"dict", "dict.get", PySem.F.plainAttrs_dict, PySem.F.slot_dict_get, PySem.F.type_dict_get, t1, t2, ?_⟩
    have hA := ha.run cpos pins s1 σ H1 _ I1 (RA.bindE a1.sr p1)
    rw [st] at hA ⊢
    refine Calls.callWith_builtin (by rfl) (Calls.evalArgs_plain (thn hA fun us s2 ⟨vs, H2, I2, r2, F2, mu2, rs, S2, _, ev2, sr2, ra, p2⟩ => ?_))
    have ra : RelDs (gd X fa ca) F2 mu2 (rs.map Rv.shr) vs := ra
    obtain ⟨r, er, q⟩ := PostE.opt (PostE.evo ev2 p2)
    simp only [mtS] at er
    split at er
    · rename_i k d _ _
      rw [ek] at er
      simp only [Option.bind_some] at er
      cases ev : vw k S2 with
      | none => rw [ev] at er; cases er
      | some kd =>
        rw [ev] at er
        simp only [Option.bind_some] at er
        split at er
        · rename_i hk
          cases er
          obtain ⟨v1, v2, rfl, rk1, rd1⟩ := relDs_two ra
          rw [vw_shr ev hk] at rk1
          obtain ⟨b, rfl⟩ := isKey_at hk rk1
          obtain ⟨u1, u2, rfl, q1, q2⟩ := vals_two r2
          cases q1
          have rel2 := a1.to ev2
          obtain ⟨a', es2, ha', hd2, rk2⟩ := dcv_at sr2.gh ek rel2
          cases ha'
          exact dgetOr_ok cx.room I2 sr2.gh.sub hd2 rk2 hk rk1 rd1 q2 fun v u s' I' rel' ru' => ⟨v, _, I', ru', q.same sr2.gh rel'⟩
        · cases er
    · cases er

/-! ### list(range(n)) -/
theorem rgV_rel {g : Gd} {F : Hp} {mu : List Addr} : ∀ (n : Nat) (lo : Int), RelDs g F mu (rangeD lo n) ((List.range n).map fun i => V.int (lo + (i : Nat)))
  | 0, lo => .nil
  | n + 1, lo => by
    rw [List.range_succ_eq_map, List.map_cons, List.map_map]
    have e : lo + ((0 : Nat) : Int) = lo := by omega
    rw [e]
    refine .cons (.int _) ?_
    have q := rgV_rel (g := g) (F := F) (mu := mu) n (lo + 1)
    have e2 : ((List.range n).map fun i => V.int (lo + 1 + (i : Nat))) = (List.range n).map ((fun i => V.int (lo + (i : Nat))) ∘ Nat.succ) := List.map_congr_left fun i _ => by
      show V.int (lo + 1 + (i : Int)) = V.int (lo + ((i + 1 : Nat) : Int))
      congr 1; omega
    rw [← e2]; exact q
theorem e_listr (cx : Cxt tb X W fa ca call n N sc) {x y : Str} {z : Expr} {c : CE} {p p2 pos pos2 : Pos} (h1 : bltB tb sc x "list" = true) (h2 : bltB tb sc y "range" = true) (ha : PE X z (RE (gd X fa ca) true W (den c call))) (hs : isStar z = false) :
    PE X (.Call (.Name x p) [.Call (.Name y p2) [z] [] pos2] [] pos) (RE (gd X fa ca) bor W (den (.listr c) call)) := by
  obtain ⟨rfl, hg, hm, hn, hd⟩ := bltB_of cx h1
  obtain ⟨rfl, hg', hm', hn', hd'⟩ := bltB_of cx h2
  refine PE.weak (pe_listRg cx.calm hg hm (prg_1 hg' hm' ha (starOf hs)) (by rfl)) fun σ H Q ⟨Zh, F, mu, ρ, S, sr, p⟩ => ?_
  simp only [den] at p
  refine RE.mono (fun v H1 ⟨F1, mu1, r1, S1, a1, n1, p1⟩ => ?_) (RE.bind sr p)
  have p1 := PostE.evo a1.evo p1
  split at p1
  · split at p1
    · rename_i hk
      have rel := a1.rel
      cases rel
      refine ⟨_, rfl, ?_, fun q hq => ?_⟩
      · obtain ⟨⟨h1, h2⟩, h3⟩ := hk
        refine ⟨by decide, by decide, h1, h2, ?_⟩
        omega
      · have e : ∀ k : Int, (k - 0).toNat = k.toNat := fun k => by rw [Int.sub_zero]
        unfold rgV
        rw [e]
        exact (PostE.pst p1).nl a1.sr.gh (rgV_rel _ _) hq
    · exact p1.elim
  · exact p1.elim

/-! ### calls of the text's defs -/
theorem sp_post {np id : Nat} {σ : L2.St} {F H : Hp} {mu : List Addr} {Q : VK} {S : Sto} {vs : List V} {rs : List Rv} (gh : Gh (gd X fa ca) F mu S H) (hl : vs.length = np) (ra : RelDs (gd X fa ca) F mu (rs.map Rv.shr) vs) (p : PostE (gd X fa ca) bor W F mu σ H Q (call id (rs.map Rv.shr) S)) :
    spI (gd X fa ca) call id np vs H Q (WE W σ) := by
  refine ⟨hl, F, mu, S, _, gh, ra, ?_⟩
  cases e : call id (rs.map Rv.shr) S with
  | ok r S' => rw [e] at p; exact fun F' mu' v H' ev gh' rel nw => p F' mu' v H' ev gh' rel fun _ => nw
  | ex x S' => rw [e] at p; exact p
  | bad => rw [e] at p; exact p
theorem e_call (cx : Cxt tb X W fa ca call n N sc) {x : Str} {id np : Nat} {y : Expr} {ys : List Expr} {es : CEs} {p pos : Pos} (h1 : glB sc x = true) (h2 : nmB x = true) (h3 : tb.fns[id]? = some (x, np)) (hl : es.len = np) (ha : PA X (y :: ys) (RA (gd X fa ca) true W (dens es call)))
    (hs : (y :: ys).all (fun x => !isStar x) = true) : PE X (.Call (.Name x p) (y :: ys) [] pos) (RE (gd X fa ca) bor W (den (.call id es) call)) := by
  obtain ⟨fd, ps, hm, hk, hb, hlen, F⟩ := cx.fns id x np h3
  simp only [List.all_cons, Bool.and_eq_true, Bool.not_eq_true'] at hs
  refine PE.weak (pe_callS F (cx.room.mono (by omega)) (show X.env.scope.names.lookup x = _ by rw [cx.hsc]; exact glo_of h1) hm hk hb (passAt cx.tk) ha (nm_of h2).1 (starOf hs.1) (plainOf hs.2)) fun σ H Q ⟨Zh, F, mu, ρ, S, sr, p⟩ => ?_
  simp only [den] at p
  refine RA.mono (fun vs H1 ⟨F1, mu1, rs, S1, e, ev, sr1, ra, p1⟩ => ?_) (RA.bindE sr p)
  have ra : RelDs _ F1 mu1 (rs.map Rv.shr) vs := ra
  refine sp_post sr1.gh ?_ ra (PostE.evo ev p1)
  have h1 := ra.length
  rw [List.length_map, dens_len _ _ _ _ _ _ e] at h1
  rw [← h1, hl]
theorem e_call0 (cx : Cxt tb X W fa ca call n N sc) {x : Str} {id : Nat} {p pos : Pos} (h1 : glB sc x = true) (h2 : nmB x = true) (h3 : tb.fns[id]? = some (x, 0)) : PE X (.Call (.Name x p) [] [] pos) (RE (gd X fa ca) bor W (den (.call0 id) call)) := by
  obtain ⟨fd, ps, hm, hk, hb, hlen, F⟩ := cx.fns id x 0 h3
  refine PE.weak (pe_call0 (dvs := []) (ds := []) F (cx.room.mono (by omega)) (show X.env.scope.names.lookup x = _ by rw [cx.hsc]; exact glo_of h1) hm hk hb .nil passL (nm_of h2).1) fun σ H Q ⟨Zh, F, mu, ρ, S, sr, p⟩ => ?_
  simp only [den] at p
  show spI (gd X fa ca) call id 0 [] H Q E0
  refine ⟨rfl, F, mu, S, [], sr.gh, .nil, ?_⟩
  cases e : call id [] S with
  | ok r S' => rw [e] at p; exact fun F' mu' v H' ev gh' rel nw => p F' mu' v H' ev gh' rel fun _ => nw
  | ex x S' => rw [e] at p; exact p.elim
  | bad => rw [e] at p; exact p.elim
end
end Z

set_option Elab.async false
set_option linter.all false
set_option autoImplicit false
set_option maxRecDepth 100000
set_option maxHeartbeats 1000000
/-! Z13: iterables. -/
namespace Z
open PySem L2
open PySem.AutoSeq1 (wpAny_loadPart')
theorem meets_enum1 {v : Value} {o : Obj} {H : Heap → Prop} (B : Begins v o H) :
    Meets (Builtin.«enumerate.__new__» ⟨[.type "enumerate", v], []⟩) (fun _ R s => H s.heap ∧
      R (.ok (.ret (.ref (s.heap.push o).objs.size))) { s with heap := (s.heap.push o).push { cls := .type "enumerate", data := .fields #[.none, .bool false, .ref s.heap.objs.size, rawInt 0, .none, .none] } }) :=
  .of_wp fun prog w A R s h => by
    obtain ⟨hp, g, d, tk, os⟩ := s; obtain ⟨h1, h⟩ := h
    have hsub := sub_enumerate
    have q1 : ∀ {A' : Around} {E : Value → Shared → Prop} {Q : Value → Shared → Prop}, Q (.ref hp.objs.size) ⟨hp.push o, g, d, tk, os⟩ → wpAny (model prog w) A' (pyIter v) Q E ⟨hp, g, d, tk, os⟩ :=
      fun q => B.iter prog w _ _ ⟨hp, g, d, tk, os⟩ _ h1 q
    wp_walk using q1
    refine wpAny_stack_any fun st => wpAny_pure ?_
    split
    · rename_i c _ _ _ _ _
      cases (c == Value.type "enumerate")
      · wp_walk using q1
        exact ⟨_, rfl, h⟩
      · wp_walk using q1
        exact ⟨_, rfl, h⟩
    · wp_walk using q1
      exact ⟨_, rfl, h⟩
theorem enum_one {prog : Program} {w : World} {A : Around} {E : Value → Shared → Prop} {s : Shared} {v : Value} {o : Obj} {H : Heap → Prop} {Q : Value → Shared → Prop} (B : Begins v o H) (h1 : H s.heap)
    (h : ∀ h', IsEnum h' (s.heap.objs.size + 1) s.heap.objs.size 0 .none → h'.get? s.heap.objs.size = some o → h'.objs.size = s.heap.objs.size + 2 →
      (∀ b o, s.heap.get? b = some o → h'.get? b = some o) → Q (.ref (s.heap.objs.size + 1)) { s with heap := h' }) :
    wpAny (model prog w) A (PySem.call (.type "enumerate") [v]) Q E s := by
  refine callType_new F.called_enumerate (by decide) (F.typeCall_enumerate_1 _) (F.newCall_enumerate_1 _) (fun obj => F.args_object_init_2 obj _) F.entry_enumerate_new
    (meets_enum1 B) ⟨h1, ?_⟩
  have hz : (s.heap.push o).objs.size = s.heap.objs.size + 1 := Heap.size_push ..
  show _ ∧ _
  rw [hz]
  have he : IsEnum ((s.heap.push o).push { cls := .type "enumerate", data := .fields #[.none, .bool false, .ref s.heap.objs.size, rawInt 0, .none, .none] }) (s.heap.objs.size + 1) s.heap.objs.size 0 .none := by
    have := Heap.get?_push_size (s.heap.push o) (o := { cls := .type "enumerate", data := .fields #[.none, .bool false, .ref s.heap.objs.size, rawInt 0, .none, .none] }) rfl
    rw [hz] at this; exact this
  refine ⟨⟨_, he, rfl⟩, h _ he (Heap.get?_push_of_some _ (Heap.get?_push_size _ B.free)) (by rw [Heap.size_push, hz]) fun b o x => Heap.get?_push_of_some _ (Heap.get?_push_of_some _ x)⟩
section
variable {tb : Tb} {X : Cx} {W : WX} {fa ca : Nat → Addr} {call : Call} {n : Nat} {N : List Str} {sc : Scope} {stm : Bool}
theorem PI.weak {tg e : Expr} {t t' : TI} (h : PI X tg e t) (w : ∀ σ H Q, t' σ H Q → t σ H Q) : PI X tg e t' := ⟨fun pins s σ H Q I q => h.run pins s σ H Q I (w σ H Q q)⟩
theorem itv_shr {r : Rv} {ds : List D} (e : itv r = some ds) : itv (.sh r.shr) = some ds := by
  cases r with
  | nd _ => cases e
  | nl es => cases e; rfl
  | sh d => exact e
theorem allSh_one (d : D) : AllSh [.sh d] := fun r h => ⟨d, by simpa using h⟩
theorem dcs_at {r : Rv} {kvs : List (D × D)} (e : dcs r = some kvs) : r = .sh (.dct kvs) := by
  unfold dcs at e
  split at e
  · cases e; rfl
  · cases e
theorem i_val {tg x : Expr} {c : CE} (hx : PE X x (RE (gd X fa ca) (!stm) W (den c call))) : PI X tg x (RI (gd X fa ca) stm W (deni (.val c) call)) := by
  refine ⟨fun pins s σ H R I ⟨Zh, F, mu, ρ, S, sr, p⟩ => ?_⟩
  simp only [deni] at p
  refine thn (hx.run pins s σ H _ I (RE.bindI sr p)) fun u s1 ⟨v, H1, I1, rv, F1, mu1, r1, S1, a1, n1, p1⟩ => ?_
  cases ed : dcs r1 with
  | some kvs =>
    rw [ed] at p1
    have hr := dcs_at ed
    subst hr
    have p2 := PostI.evo a1.evo p1
    exact iter_dct I1 a1.sr.gh a1.rel rv fun F' H' J ev gh rel its => p2 F' mu1 J H' [.sh (.dct kvs)] [v] ev gh (.cons rel .nil) (fun _ => allSh_one _) its
  | none =>
    rw [ed] at p1
    cases ei : itv r1 with
    | none => rw [ei] at p1; exact p1.elim
    | some ds =>
      rw [ei] at p1
      cases stm with
      | false =>
        have p2 := PostI.evo a1.evo p1
        exact iter_seq I1 a1.sr.gh a1.rel rv ei fun J its => p2 F1 mu1 J H1 [r1] [v] .refl a1.sr.gh (.cons a1.rel .nil) (fun z => nomatch z) its
      | true =>
        obtain ⟨F', ev, gh', rel', _, _⟩ := share a1.evo a1.sr.gh a1.rel (n1 rfl)
        exact iter_seq I1 gh' (r := .sh r1.shr) rel' rv (itv_shr ei) fun J its => p1 F' mu1 J H1 [.sh r1.shr] [v] ev gh' (.cons rel' .nil) (fun _ => allSh_one _) its

/-! ### range -/
theorem RE.bindT1 {g : Gd} {F : Hp} {mu : List Addr} {σ : L2.St} {H : Hp} {R : It → Hp → Prop} {Zh : Hp} {ρ : Env} {S : Sto} {f : Env → Sto → Res Rv} {k : Rv → Sto → Res (List D)} (sr : SR g Zh F mu ρ S σ H) (p : PostI g stm W F mu σ H R ((f ρ S).bind k)) :
    RE g true W f σ H (fun v H1 => ∃ F1 mu1 r S1, At g Zh F mu H ρ σ r S1 v F1 mu1 H1 ∧ PostI g stm W F1 mu1 σ H1 R (k r S1)) := RE.mono (fun v H1 ⟨F1, mu1, r, S1, a, _, p1⟩ => ⟨F1, mu1, r, S1, a, PostI.evo a.evo p1⟩) (RE.bindI (b1 := true) sr p)
theorem allSh_nil : AllSh [] := fun r h => by cases h
theorem i_range1 (cx : Cxt tb X W fa ca call n N sc) {tg z : Expr} {y : Str} {c : CE} {p pos : Pos} (h : bltB tb sc y "range" = true) (ha : PE X z (RE (gd X fa ca) true W (den c call))) (hs : isStar z = false) :
    PI X tg (.Call (.Name y p) [z] [] pos) (RI (gd X fa ca) stm W (deni (.range1 c) call)) := by
  obtain ⟨rfl, hg, hm, _, _⟩ := bltB_of cx h
  refine PI.weak (pi_range1 hg hm (pa_cons ha pa_nil (starOf hs)) (starOf hs)) fun σ H R ⟨Zh, F, mu, ρ, S, sr, p⟩ => ?_
  simp only [deni] at p
  refine RE.mono (fun v H1 ⟨F1, mu1, r1, S1, a1, p1⟩ => ?_) (RE.bindT1 sr p)
  split at p1
  · split at p1
    · rename_i hk
      have rel := a1.rel
      cases rel
      exact ⟨_, rfl, hk.1, hk.2, p1 F1 mu1 _ H1 [] [] .refl a1.sr.gh .nil (fun _ => allSh_nil) its_range⟩
    · exact p1.elim
  · exact p1.elim
theorem two_ints {g : Gd} {Zh F H H1 H2 F1 F2 : Hp} {mu mu1 mu2 : List Addr} {σ : L2.St} {ρ : Env} {r1 r2 : Rv} {S1 S2 : Sto} {v u : V} {R : It → Hp → Prop} {f : Int → Int → Res (List D)} (a1 : At g Zh F mu H ρ σ r1 S1 v F1 mu1 H1) (a2 : At g Zh F1 mu1 H1 ρ σ r2 S2 u F2 mu2 H2)
    (p : PostI g stm W F2 mu2 σ H2 R (match (generalizing := false) r1 with | .sh (.int n) => (match (generalizing := false) r2 with | .sh (.int m) => f n m | _ => .bad) | _ => .bad)) : ∃ i j, v = .int i ∧ u = .int j ∧ PostI g stm W F2 mu2 σ H2 R (f i j) := by
  split at p
  · split at p
    · have h1 := a1.rel
      have h2 := a2.rel
      cases h1
      cases h2
      exact ⟨_, _, rfl, rfl, p⟩
    · exact p.elim
  · exact p.elim
theorem i_range2 (cx : Cxt tb X W fa ca call n N sc) {tg z z' : Expr} {y : Str} {c c' : CE} {p pos : Pos} (h : bltB tb sc y "range" = true) (ha : PE X z (RE (gd X fa ca) true W (den c call))) (hb : PE X z' (RE (gd X fa ca) true W (den c' call))) (hs : isStar z = false) (hs' : isStar z' = false) :
    PI X tg (.Call (.Name y p) [z, z'] [] pos) (RI (gd X fa ca) stm W (deni (.range2 c c') call)) := by
  obtain ⟨rfl, hg, hm, _, _⟩ := bltB_of cx h
  refine PI.weak (pi_range2 hg hm (pa_cons ha (pa_cons hb pa_nil (starOf hs')) (starOf hs)) (by rw [starOf hs, starOf hs']; rfl) (starOf hs')) fun σ H R ⟨Zh, F, mu, ρ, S, sr, p⟩ => ?_
  simp only [deni] at p
  refine RE.mono (fun v H1 ⟨F1, mu1, r1, S1, a1, p1⟩ => ?_) (RE.bindT1 sr p)
  refine RE.mono (fun u H2 ⟨F2, mu2, r2, S2, a2, p2⟩ => ?_) (RE.bindT1 a1.sr p1)
  obtain ⟨i, j, rfl, rfl, p3⟩ := two_ints (f := fun n m => if inR n ∧ inR m then .ok (rangeD n (m - n).toNat) S2 else .bad) a1 a2 p2
  split at p3
  · rename_i hk
    exact ⟨i, j, rfl, ⟨hk.1.1, hk.1.2, hk.2.1, hk.2.2⟩, p3 F2 mu2 _ H2 [] [] .refl a2.sr.gh .nil (fun _ => allSh_nil) its_range⟩
  · exact p3.elim
theorem i_ranged (cx : Cxt tb X W fa ca call n N sc) {tg z z' : Expr} {y : Str} {c c' : CE} {p pos p2 p3 : Pos} {k : Nat} (h : bltB tb sc y "range" = true) (ha : PE X z (RE (gd X fa ca) true W (den c call))) (hb : PE X z' (RE (gd X fa ca) true W (den c' call))) (hs : isStar z = false) (hs' : isStar z' = false) :
    PI X tg (.Call (.Name y p) [z, z', .UnaryOp .USub (.Constant (.int 1) k p2) p3] [] pos) (RI (gd X fa ca) stm W (deni (.ranged c c') call)) := by
  obtain ⟨rfl, hg, hm, _, _⟩ := bltB_of cx h
  refine PI.weak (pi_range3 hg hm (pa_cons ha (pa_cons hb (pa_cons (pe_un un_neg pe_int) pa_nil (by rfl)) (starOf hs')) (starOf hs)) (starOf hs) (by rw [starOf hs']; rfl)) fun σ H R ⟨Zh, F, mu, ρ, S, sr, p⟩ => ?_
  simp only [deni] at p
  refine RE.mono (fun v H1 ⟨F1, mu1, r1, S1, a1, p1⟩ => ?_) (RE.bindT1 sr p)
  refine RE.mono (fun u H2 ⟨F2, mu2, r2, S2, a2, p2⟩ => ?_) (RE.bindT1 a1.sr p1)
  obtain ⟨i, j, rfl, rfl, p3⟩ := two_ints (f := fun n m => if inR n ∧ inR m then .ok (rangeM n (n - m).toNat) S2 else .bad) a1 a2 p2
  split at p3
  · rename_i hk
    exact ⟨1, rfl, i, j, -1, (i - j).toNat, rfl, RgC.neg hk.1.1 hk.1.2 hk.2.1 hk.2.2, p3 F2 mu2 _ H2 [] [] .refl a2.sr.gh .nil (fun _ => allSh_nil) its_rangeM⟩
  · exact p3.elim

/-! ### enumerate, zip -/
theorem tup_tg {tg : Expr} (h : isTupE tg = true) : ∃ es k p, tg = .Tuple es k p := by cases tg <;> first | exact ⟨_, _, _, rfl⟩ | cases h
/-- the value to walk, shared if a statement walks it -/
theorem it_arg {Zh F H H1 : Hp} {mu : List Addr} {σ : L2.St} {ρ : Env} {S S1 : Sto} {F1 : Hp} {mu1 : List Addr} {r1 : Rv} {v : V} (sr : SR (gd X fa ca) Zh F mu ρ S σ H) (a1 : At (gd X fa ca) Zh F mu H ρ σ r1 S1 v F1 mu1 H1) (n1 : (!stm) = false → New H r1 v) :
    ∃ F' r', Evo F mu H F' mu1 H1 ∧ SR (gd X fa ca) Zh F' mu1 ρ S1 σ H1 ∧ RelR (gd X fa ca) F' mu1 H1 r' v ∧ (∀ ds, itv r1 = some ds → itv r' = some ds) ∧ (stm = true → ∃ d, r' = .sh d) := by
  cases stm with
  | false => exact ⟨F1, r1, a1.evo, a1.sr, a1.rel, fun _ e => e, fun z => nomatch z⟩
  | true =>
    obtain ⟨F', ev, gh', rel', _, _⟩ := share a1.evo a1.sr.gh a1.rel (n1 rfl)
    exact ⟨F', .sh r1.shr, ev, sr.evo ev gh', rel', fun _ e => itv_shr e, fun _ => ⟨_, rfl⟩⟩
theorem i_enum (cx : Cxt tb X W fa ca call n N sc) {tg z : Expr} {y : Str} {c : CE} {p pos : Pos} (h : bltB tb sc y "enumerate" = true) (ha : PE X z (RE (gd X fa ca) (!stm) W (den c call))) (hs : isStar z = false) (ht : isTupE tg = true) :
    PI X tg (.Call (.Name y p) [z] [] pos) (RI (gd X fa ca) stm W (deni (.enum c) call)) := by
  obtain ⟨rfl, hg, hm, _, _⟩ := bltB_of cx h
  obtain ⟨es, kk, tp, rfl⟩ := tup_tg ht
  refine ⟨fun pins s σ H R I ⟨Zh, F, mu, ρ, S, sr, p⟩ => ?_⟩
  simp only [deni] at p
  have q : tCons (RE (gd X fa ca) (!stm) W (den c call)) tNil σ H (fun vs H1 => ∃ v, vs = [v] ∧ ∃ F1 mu1 r1 S1, At (gd X fa ca) Zh F mu H ρ σ r1 S1 v F1 mu1 H1 ∧ ((!stm) = false → New H r1 v) ∧ PostI (gd X fa ca) stm W F mu σ H R (match itv r1 with | some ds => .ok (enumD 0 ds) S1 | none => .bad)) :=
    RE.mono (fun v H1 q => ⟨v, rfl, q⟩) (RE.bindI sr p)
  refine PyProof.Rows.Call_ (ld_blt I hg hm PyProof.Rows.boot_enumerate (PyProof.Rows.callWith_type1 (thn ((pa_cons ha pa_nil (starOf hs)).run pos pins s σ H _ I q) fun us s1 ⟨vs, H1, I1, rv, v, hvs, F1, mu1, r1, S1, a1, n1, p1⟩ => ?_) (starOf hs) rfl))
  subst hvs
  obtain ⟨u, rfl, ru⟩ := Vals.one rv
  cases ei : itv r1 with
  | none => rw [ei] at p1; exact p1.elim
  | some ds =>
    rw [ei] at p1
    obtain ⟨F', r', ev, sr', rel', ei', hsh⟩ := it_arg sr a1 n1
    have ei' := ei' ds ei
    have p2 := PostI.evo ev p1
    obtain ⟨a, xs, rfl, hq, rd⟩ := seqR_of sr'.gh ei' rel'
    cases ru
    obtain ⟨its, rvx, hseq, hlt⟩ := sqK_at I1 hq
    refine enum_one (begins_of _ a its.toArray) hseq fun h' he hit hsz hk => wpAny_pyIter_enum he ?_
    have I2 : L2.Inv X pins σ H1 { s1 with heap := h' } := I1.kept (t' := s1.toks) hk
    refine ⟨s1.heap.objs.size + 1, [s1.heap.objs.size + 1, s1.heap.objs.size], _, _, H1, rfl, I2, turn_enumK (isTupR r') a (s1.heap.objs.size + 1) s1.heap.objs.size, ⟨⟨.none, he⟩, seqIt_begin hit, Nat.succ_ne_self _, Nat.ne_of_lt hlt, Nat.ne_of_lt (Nat.lt_succ_of_lt hlt)⟩, fun b hb => ?_,
      p2 F' mu1 _ H1 [r'] [.ref a] .refl sr'.gh (.cons rel' .nil) (fun z => by obtain ⟨d, rfl⟩ := hsh z; exact allSh_one d) (its_enum ei')⟩
    have e' : b = s1.heap.objs.size + 1 ∨ b = s1.heap.objs.size := by simpa using hb
    have hle : s1.heap.objs.size ≤ b := by
      rcases e' with z | z
      · rw [z]; exact Nat.le_add_right _ _
      · rw [z]; exact Nat.le_refl _
    exact I1.fpOk hle (I1.hok.fresh hle)
theorem neA {x y : Nat} (h : x ≠ y) : @Ne Addr x y := h
theorem notin2 {x y z : Nat} (h1 : x ≠ y) (h2 : x ≠ z) : ¬ @Membership.mem Addr (List Addr) _ [y, z] x := fun h => by
  rcases List.mem_cons.mp h with h | h
  · exact h1 h
  · exact h2 (List.mem_singleton.mp h)
theorem zapart (M a b : Nat) (h1 : a < M) (h2 : b < M) : Apart (M + 4) (M + 2) (M + 3) M (M + 1) a b :=
  ⟨⟨neA (by omega), neA (by omega), neA (by omega), neA (by omega), List.mem_cons_self, notin2 (by omega) (by omega), notin2 (by omega) (by omega), neA (by omega), List.mem_cons_self, notin2 (by omega) (by omega), notin2 (by omega) (by omega), notin2 (by omega) (by omega), notin2 (by omega) (by omega)⟩, ⟨neA (by omega), neA (by omega)⟩⟩
theorem i_zip (cx : Cxt tb X W fa ca call n N sc) {tg z z' : Expr} {y : Str} {c c' : CE} {p pos : Pos} (h : bltB tb sc y "zip" = true) (ha : PE X z (RE (gd X fa ca) (!stm) W (den c call))) (hb : PE X z' (RE (gd X fa ca) (!stm) W (den c' call))) (hs : isStar z = false) (hs' : isStar z' = false) (ht : isTupE tg = true) :
    PI X tg (.Call (.Name y p) [z, z'] [] pos) (RI (gd X fa ca) stm W (deni (.zip c c') call)) := by
  obtain ⟨rfl, hg, hm, _, _⟩ := bltB_of cx h
  obtain ⟨es, kk, tp, rfl⟩ := tup_tg ht
  refine ⟨fun pins s σ H R I ⟨Zh, F, mu, ρ, S, sr, p⟩ => ?_⟩
  simp only [deni] at p
  have pa : PA X [z, z'] (tCons _ (tCons _ tNil)) := pa_cons ha (pa_cons hb pa_nil (starOf hs')) (starOf hs)
  have q : tCons (RE (gd X fa ca) (!stm) W (den c call)) (tCons (RE (gd X fa ca) (!stm) W (den c' call)) tNil) σ H (fun vs H2 => ∃ v u, vs = [v, u] ∧ ∃ F' mu' S' r1 r2 ds es, Gh (gd X fa ca) F' mu' S' H2 ∧ RelR (gd X fa ca) F' mu' H2 r1 v ∧ RelR (gd X fa ca) F' mu' H2 r2 u ∧ itv r1 = some ds ∧ itv r2 = some es ∧
      (stm = true → (∃ d, r1 = .sh d) ∧ ∃ d, r2 = .sh d) ∧ PostI (gd X fa ca) stm W F' mu' σ H2 R (.ok (zipD ds es) S')) := by
    refine RE.mono (fun v H1 ⟨F1, mu1, r1, S1, a1, n1, p1⟩ => ?_) (RE.bindI sr p)
    obtain ⟨F1', r1', ev1, sr1, rel1, ei1, sh1⟩ := it_arg sr a1 n1
    refine RE.mono (fun u H2 ⟨F2, mu2, r2, S2, a2, n2, p2⟩ => ?_) (RE.bindI sr1 (PostI.evo ev1 p1))
    obtain ⟨F2', r2', ev2, sr2, rel2, ei2, sh2⟩ := it_arg sr1 a2 n2
    have p3 := PostI.evo ev2 p2
    cases e1 : itv r1 with
    | none => rw [e1] at p3; exact p3.elim
    | some ds =>
      rw [e1] at p3
      cases e2 : itv r2 with
      | none => simp only [e2] at p3; exact p3.elim
      | some es =>
        simp only [e2] at p3
        exact ⟨v, u, rfl, F2', mu2, S2, r1', r2', ds, es, sr2.gh, rel1.evo ev2 sr1.gh.sub, rel2, ei1 ds e1, ei2 es e2, fun z => ⟨sh1 z, sh2 z⟩, p3⟩
  refine PyProof.Rows.Call_ (ld_blt I hg hm PyProof.Rows.boot_zip (PyProof.Rows.callWith_type1 (thn (pa.run pos pins s σ H _ I q) fun us s1 ⟨vs, H1, I1, rv, v, u, hvs, F', mu', S', r1, r2, ds, es, gh', rel1, rel2, ei1, ei2, hsh, p3⟩ => ?_) (starOf hs) (by rw [starOf hs']; rfl)))
  subst hvs
  obtain ⟨u1, u2, rfl, ru1, ru2⟩ := vals_two rv
  obtain ⟨a, xs, rfl, hq1, rd1⟩ := seqR_of gh' ei1 rel1
  obtain ⟨b, ys, rfl, hq2, rd2⟩ := seqR_of gh' ei2 rel2
  cases ru1
  cases ru2
  obtain ⟨its, rvx, hseq1, hlt1⟩ := sqK_at I1 hq1
  obtain ⟨its2, rvy, hseq2, hlt2⟩ := sqK_at I1 hq2
  refine zip_begins2 (begins_of _ a its.toArray) (begins_of _ b its2.toArray) hseq1 hseq2 fun h' hz hTI hTO h1 h2 hsz hk => wpAny_pyIter_zip hz ?_
  have I2 : L2.Inv X pins σ H1 { s1 with heap := h' } := I1.kept (t' := s1.toks) hk
  refine ⟨s1.heap.objs.size + 4, [s1.heap.objs.size + 4, s1.heap.objs.size + 2, s1.heap.objs.size + 3, s1.heap.objs.size, s1.heap.objs.size + 1], _, _, H1, rfl, I2,
    turn_zipK (isTupR r1) (isTupR r2) (a := a) (b := b) (z := s1.heap.objs.size + 4) (TI := s1.heap.objs.size + 2) (TO := s1.heap.objs.size + 3) (i1 := s1.heap.objs.size) (i2 := s1.heap.objs.size + 1) ?_, ⟨hz, hTI, ⟨_, _, hTO⟩, seqIt_begin h1, seqIt_begin h2⟩, fun c hcm => ?_,
    p3 F' mu' _ H1 [r1, r2] [.ref a, .ref b] .refl gh' (.cons rel1 (.cons rel2 .nil)) (fun z => by
      obtain ⟨⟨d, rfl⟩, ⟨e, rfl⟩⟩ := hsh z
      intro r hr
      rcases List.mem_cons.mp hr with rfl | hr
      · exact ⟨_, rfl⟩
      · exact ⟨e, by simpa using hr⟩) (its_zip ei1 ei2)⟩
  · exact zapart _ a b hlt1 hlt2
  · have e' : c = s1.heap.objs.size + 4 ∨ c = s1.heap.objs.size + 2 ∨ c = s1.heap.objs.size + 3 ∨ c = s1.heap.objs.size ∨ c = s1.heap.objs.size + 1 := by simpa using hcm
    have hle : s1.heap.objs.size ≤ c := by
      rcases e' with z | z | z | z | z
      · rw [z]; exact Nat.le_add_right _ _
      · rw [z]; exact Nat.le_add_right _ _
      · rw [z]; exact Nat.le_add_right _ _
      · rw [z]; exact Nat.le_refl _
      · rw [z]; exact Nat.le_add_right _ _
    exact I1.fpOk hle (I1.hok.fresh hle)
end
end Z

set_option Elab.async false
set_option linter.all false
set_option autoImplicit false
set_option maxRecDepth 100000
set_option maxHeartbeats 1000000
/-! Z14: targets, comprehensions. -/
namespace Z
open PySem L2

/-! ### targets -/
def gNms : List Nat → TGs
  | [] => gNil
  | i :: is => gCons (gName i) (gNms is)
def tgT (K : PySem.W.Frag) : CG → TG
  | .nm i => gName i
  | .tup is => gTup K is.length (gNms is)
def gLoc (X : Cx) (sc : Scope) : Prop := ∀ x, (sc.names.lookup x = some .local ∨ sc.names.lookup x = some .cell) → Loc X.env.scope x ∧ (X.fn x = true ∨ X.env.scope.names.lookup x = some .local)
theorem gN_of {N : List Str} {sc : Scope} {i : Nat} {e : Expr} (h : gN N sc i e = true) : ∃ x p, e = .Name x p ∧ N[i]? = some x ∧ (sc.names.lookup x = some .local ∨ sc.names.lookup x = some .cell) := by
  unfold gN at h
  split at h
  · simp only [Bool.and_eq_true, decide_eq_true_eq] at h
    refine ⟨_, _, rfl, h.1, ?_⟩
    have h2 := h.2
    split at h2
    · exact .inl (by assumption)
    · exact .inr (by assumption)
    · cases h2
  · cases h
theorem gNs_env {N : List Str} {sc : Scope} {env : PySem.Env} : ∀ {is : List Nat} {es : List Expr}, gNs N sc is es = true → (assignEach es env).length = is.length ∧ (assignEach es env).findIdx? (·.1) = none
  | [], [], _ => ⟨rfl, rfl⟩
  | [], _ :: _, h => by simp [gNs] at h
  | _ :: _, [], h => by simp [gNs] at h
  | i :: is, e :: es, h => by
    simp only [gNs, Bool.and_eq_true] at h
    obtain ⟨x, p, rfl, _, _⟩ := gN_of h.1
    obtain ⟨h1, h2⟩ := gNs_env (env := env) h.2
    show (assignEach es env).length + 1 = is.length + 1 ∧ ((false, assign (.Name x p) env) :: assignEach es env).findIdx? (·.1) = none
    refine ⟨by rw [h1], ?_⟩
    rw [List.findIdx?_cons]
    simp only [Bool.false_eq_true, if_false]
    rw [h2]; rfl
theorem pgs_of {X : Cx} {N : List Str} {sc : Scope} (hN : X.N = N) (nd : N.Nodup) (hl : gLoc X sc) : ∀ {is : List Nat} {es : List Expr}, gNs N sc is es = true → PGs X es (gNms is)
  | [], [], _ => pgs_nil
  | [], _ :: _, h => by simp [gNs] at h
  | _ :: _, [], h => by simp [gNs] at h
  | i :: is, e :: es, h => by
    simp only [gNs, Bool.and_eq_true] at h
    obtain ⟨x, p, rfl, h1, h2⟩ := gN_of h.1
    obtain ⟨h3, h4⟩ := hl x h2
    exact pgs_cons (pg_name (by rw [hN]; exact nd) (by rw [hN]; exact h1) h3 h4) (pgs_of hN nd hl h.2) (by rfl)
theorem pg_of {X : Cx} {N : List Str} {sc : Scope} {g : CG} {tg : Expr} (hN : X.N = N) (nd : N.Nodup) (hc : X.calm = true) (hl : gLoc X sc) (h : chkG N sc g tg = true) : PG X tg (tgT X.K g) := by
  cases g with
  | nm i =>
    have h : gN N sc i tg = true := by cases tg <;> exact h
    obtain ⟨x, p, rfl, h1, h2⟩ := gN_of h
    obtain ⟨h3, h4⟩ := hl x h2
    exact pg_name (by rw [hN]; exact nd) (by rw [hN]; exact h1) h3 h4
  | tup is =>
    cases tg with
    | Tuple es k p =>
      simp only [chkG, Bool.and_eq_true] at h
      obtain ⟨h1, h2⟩ := gNs_env (env := X.env) h.1
      exact pg_tup hc (pgs_of hN nd hl h.1) h1 h2
    | _ => simp [chkG] at h
theorem wipe_get (σ : L2.St) (j : Nat) : ∀ ws : List Nat, (wipe σ ws)[j]? = if j ∈ ws then (if j < σ.length then some none else none) else σ[j]?
  | [] => by simp [wipe]
  | w :: ws => by
    unfold wipe
    rw [List.getElem?_set, wipe_get σ j ws, wipe_length]
    by_cases h : w = j
    · subst h; simp
    · have h' : j ≠ w := fun z => h z.symm
      simp [h, h']
theorem wipe_set {σ : L2.St} {i : Nat} {x : Option V} {ws : List Nat} (h : i ∈ ws) : wipe (σ.set i x) ws = wipe σ ws := by
  refine List.ext_getElem? fun j => ?_
  rw [wipe_get, wipe_get, List.length_set]
  by_cases hj : j ∈ ws
  · rw [if_pos hj, if_pos hj]
  · rw [if_neg hj, if_neg hj, List.getElem?_set_ne (fun (z : i = j) => hj (z ▸ h))]
theorem wipe_wipe {σ : L2.St} {ws : List Nat} : wipe (wipe σ ws) ws = wipe σ ws := by
  refine List.ext_getElem? fun j => ?_
  rw [wipe_get, wipe_length, wipe_get]
  by_cases hj : j ∈ ws
  · rw [if_pos hj, if_pos hj]
  · rw [if_neg hj, if_neg hj]
section
variable {gg : Gd} {F H Zh : Hp} {mu : List Addr} {S : Sto}
theorem gNms_ok {Q : L2.St → Hp → Prop} : ∀ {is : List Nat} {ds : List D} {vs : List V} {ρ ρ1 : Env} {σ : L2.St}, setIs is ds ρ = some ρ1 → RelDs gg F mu ds vs → SR gg Zh F mu ρ S σ H →
    (∀ σ1, SR gg Zh F mu ρ1 S σ1 H → (∀ ws : List Nat, (∀ i ∈ is, i ∈ ws) → wipe σ1 ws = wipe σ ws) → Q σ1 H) → gNms is vs σ H Q
  | [], [], _, ρ, ρ1, σ, e, .nil, sr, k => ⟨rfl, by cases e; exact k σ sr fun _ _ => rfl⟩
  | [], _ :: _, _, _, _, _, e, _, _, _ => by simp [setIs] at e
  | _ :: _, [], _, _, _, _, e, _, _, _ => by simp [setIs] at e
  | i :: is, d :: ds, _, ρ, ρ1, σ, e, .cons r rs, sr, k => ⟨_, _, rfl, gNms_ok (Q := Q) e rs (sr.setSh r) fun σ1 sr1 hw => k σ1 sr1 fun ws hi => by
      rw [hw ws fun j hj => hi j (List.mem_cons_of_mem _ hj), wipe_set (hi i List.mem_cons_self)]⟩
theorem setIs_len : ∀ {is : List Nat} {ds : List D} {ρ ρ1 : Env}, setIs is ds ρ = some ρ1 → is.length = ds.length
  | [], [], _, _, _ => rfl
  | [], _ :: _, _, _, e => by simp [setIs] at e
  | _ :: _, [], _, _, e => by simp [setIs] at e
  | _ :: _, _ :: _, _, _, e => congrArg (· + 1) (setIs_len e)
theorem tgT_ok {g : CG} {d : D} {v : V} {ρ ρ1 : Env} {σ : L2.St} {Q : L2.St → Hp → Prop} (e : setG g d ρ = some ρ1) (r : RelD gg F mu d v) (sr : SR gg Zh F mu ρ S σ H)
    (k : ∀ σ1, SR gg Zh F mu ρ1 S σ1 H → (∀ ws : List Nat, (∀ i ∈ g.slots, i ∈ ws) → wipe σ1 ws = wipe σ ws) → Q σ1 H) : tgT gg.K g v σ H Q := by
  cases g with
  | nm i =>
    cases e
    exact k _ (sr.setSh r) fun ws hi => wipe_set (hi i (by simp [CG.slots]))
  | tup is =>
    cases d with
    | tup ds =>
      simp only [setG] at e
      cases r with
      | tup h t => exact ⟨_, _, rfl, sqT_sub sr.gh.sub h, by rw [← t.length, setIs_len e], gNms_ok e t sr k⟩
    | _ => simp [setG] at e

/-! ### a new cell beside the ground is written -/
theorem ev_upd {F1 H1 : Hp} {mu1 : List Addr} {D : Addr} {o : HO} (e : Evo F1 mu1 H1 F mu H) (h1 : H1 D = none) : Evo F1 mu1 H1 F mu (upd H D o) where
  keep := fun a u h n f => by rw [upd_ne (fun z => by rw [z, h1] at h; cases h)]; exact e.keep a u h n f
  dom := fun a h => by
    by_cases z : a = D
    · subst z; rw [upd_same]; simp
    · rw [upd_ne z]; exact e.dom a h
  froz := e.froz
  le := e.le
  pre := e.pre
  fresh := e.fresh
theorem moR_upd {m : MO} {a D : Addr} {o : HO} (h : MoR gg F mu H m a) (z : a ≠ D) : MoR gg F mu (upd H D o) m a := h.mono .refl List.prefix_rfl (upd_ne z)
theorem gh_upd {D : Addr} {o : HO} (gh : Gh gg F mu S H) (hf : F D = none) (hm : D ∉ mu) : Gh gg F mu S (upd H D o) where
  sub := fun a u h => by rw [upd_ne (fun z => by rw [z, hf] at h; cases h)]; exact gh.sub a u h
  nd := gh.nd
  len := gh.len
  at_ := fun i a m h1 h2 => by
    obtain ⟨q1, q2⟩ := gh.at_ i a m h1 h2
    exact ⟨q1, moR_upd q2 (fun z => hm (z ▸ List.mem_of_getElem? h1))⟩
theorem paired_evo {F1 H1 : Hp} {mu1 : List Addr} (e : Evo F mu H F1 mu1 H1) (s : Sub F H) : ∀ {rs : List Rv} {vs : List V}, Paired (RelR gg F mu H) rs vs → Paired (RelR gg F1 mu1 H1) rs vs
  | _, _, .nil => .nil
  | _, _, .cons h t => .cons (h.evo e s) (paired_evo e s t)
end

/-! ### comprehensions -/
theorem compL_cons {g : CG} {t f : Env → Sto → Res Rv} {d : D} {ds : List D} {ρ : Env} {S S' : Sto} {r : List D} (e : compL g t f (d :: ds) ρ S = .ok r S') :
    ∃ ρ1 tv S1, setG g d ρ = some ρ1 ∧ t ρ1 S = .ok tv S1 ∧ ((tru tv S1 = some true ∧ ∃ v S2 r', f ρ1 S1 = .ok v S2 ∧ compL g t f ds ρ S2 = .ok r' S' ∧ r = v.shr :: r') ∨ (tru tv S1 = some false ∧ compL g t f ds ρ S1 = .ok r S')) := by
  simp only [compL] at e
  cases h1 : setG g d ρ with
  | none => rw [h1] at e; cases e
  | some ρ1 =>
    simp only [h1] at e
    cases h2 : t ρ1 S with
    | bad => simp only [h2] at e; cases e
    | ex _ _ => simp only [h2] at e; cases e
    | ok tv S1 =>
      simp only [h2] at e
      cases h3 : tru tv S1 with
      | none => simp only [h3] at e; cases e
      | some b =>
        simp only [h3] at e
        cases b with
        | false => exact ⟨ρ1, tv, S1, rfl, h2, .inr ⟨h3, e⟩⟩
        | true =>
          simp only at e
          cases h4 : f ρ1 S1 with
          | bad => simp only [h4] at e; cases e
          | ex _ _ => simp only [h4] at e; cases e
          | ok v S2 =>
            simp only [h4] at e
            cases h5 : compL g t f ds ρ S2 with
            | bad => simp only [h5] at e; cases e
            | ex _ _ => simp only [h5] at e; cases e
            | ok r' S3 =>
              simp only [h5] at e
              cases e
              exact ⟨ρ1, tv, S1, rfl, h2, .inl ⟨h3, v, S2, r', h4, h5, rfl⟩⟩
abbrev W0 : WX := fun _ _ _ _ => False
section
variable {tb : Tb} {X : Cx} {W : WX} {fa ca : Nat → Addr} {call : Call} {n : Nat} {N : List Str} {sc : Scope} {bor : Bool}
theorem e_comp_core {wi : TI} {g : CG} {tt : TT} {te : TE} {ws : List Nat} {it : CI} {t f : CE} (hg : ∀ i ∈ g.slots, i ∈ ws) (hw : ∀ σ H R, RI (gd X fa ca) false W (deni it call) σ H R → wi σ H R)
    (htt : ∀ σ H Q, RT (gd X fa ca) W0 (den t call) σ H Q → tt σ H Q) (hte : ∀ σ H Q, RE (gd X fa ca) false W0 (den f call) σ H Q → te σ H Q) (σ : L2.St) (H : Hp) (Q : VK)
    (q : RE (gd X fa ca) bor W (den (.comp it g ws t f) call) σ H Q) : tLc wi (tgT X.K g) tt te ws σ H Q := by
  obtain ⟨Zh, F, mu, ρ, S, sr, p⟩ := q
  simp only [den] at p
  refine hw _ _ _ ⟨Zh, F, mu, ρ, S, sr, ?_⟩
  cases ei : deni it call ρ S with
  | bad => rw [ei] at p; exact p
  | ex x S1 => rw [ei] at p; exact p
  | ok ds S1 =>
    rw [ei] at p
    have p : PostE (gd X fa ca) bor W F mu σ H Q (match compL g (den t call) (den f call) ds (killL ρ ws) S1 with | .ok r S2 => if r.length ≤ sizeLine then .ok (.nl r) S2 else .bad | _ => .bad) := p
    cases ec : compL g (den t call) (den f call) ds (killL ρ ws) S1 with
    | bad => rw [ec] at p; exact p.elim
    | ex _ _ => rw [ec] at p; exact p.elim
    | ok r S2 =>
      rw [ec] at p
      have p : PostE (gd X fa ca) bor W F mu σ H Q (if r.length ≤ sizeLine then .ok (.nl r) S2 else .bad) := p
      by_cases hz : r.length ≤ sizeLine
      · rw [if_pos hz] at p
        intro F0 mu0 J H0 rs vs ev0 gh0 rel0 _ its D hD
        have sr0 := (sr.evo ev0 gh0).wipe ws
        have fD0 : F0 D = none := fz_none gh0 hD
        have mD0 : D ∉ mu0 := mu_none gh0 hD
        refine ⟨fun i m H2 => m = ds.length - i ∧ i ≤ ds.length ∧ ∃ F2 mu2 S3 acc ad rest, H2 D = some (.lst acc) ∧ F2 D = none ∧ D ∉ mu2 ∧ Evo F0 mu0 H0 F2 mu2 H2 ∧ Gh (gd X fa ca) F2 mu2 S3 H2 ∧ RelDs (gd X fa ca) F2 mu2 ad acc ∧
          compL g (den t call) (den f call) (ds.drop i) (killL ρ ws) S3 = .ok rest S2 ∧ r = ad ++ rest, ⟨ds.length, rfl, Nat.zero_le _, F0, mu0, S1, [], [], r, upd_same, fD0, mD0, ev_upd .refl hD, gh_upd gh0 fD0 mD0, .nil, ec, rfl⟩, ?_⟩
        rintro i m H2 ⟨rfl, hi, F2, mu2, S3, acc, ad, rest, eD, fD, mD, ev2, gh2, ra, ec2, er⟩
        have itx := its F2 mu2 S3 H2 i gh2 ev2.le ev2.pre (paired_evo ev2 gh0.sub rel0)
        by_cases hlt : i < ds.length
        · obtain ⟨go, yl⟩ := itx.1 hlt
          refine .inr ⟨go, fun H3 => (∃ m', m' < ds.length - i ∧ m' = ds.length - (i + 1)) ∧ ∃ F2 mu2 S3 acc ad rest, H3 D = some (.lst acc) ∧ F2 D = none ∧ D ∉ mu2 ∧ Evo F0 mu0 H0 F2 mu2 H3 ∧ Gh (gd X fa ca) F2 mu2 S3 H3 ∧ RelDs (gd X fa ca) F2 mu2 ad acc ∧
            compL g (den t call) (den f call) (ds.drop (i + 1)) (killL ρ ws) S3 = .ok rest S2 ∧ r = ad ++ rest, fun H3 ⟨⟨m', h1, h2⟩, h3⟩ => ⟨m', h1, h2, hlt, h3⟩, fun x H3 hy => ?_⟩
          have meas : ∃ m', m' < ds.length - i ∧ m' = ds.length - (i + 1) := ⟨_, by omega, rfl⟩
          obtain ⟨F3, d, hd, ev3, gh3, rd⟩ := yl x H3 hy
          have hdrop : ds.drop i = d :: ds.drop (i + 1) := by
            obtain ⟨hh, rfl⟩ := List.getElem?_eq_some_iff.mp hd
            exact List.drop_eq_getElem_cons hh
          rw [hdrop] at ec2
          obtain ⟨ρ1, tv, S4, eg, et, cs⟩ := compL_cons ec2
          have eD3 : H3 D = some (.lst acc) := ev3.keep D _ eD mD fD
          have fD3 : F3 D = none := ev3.froz D (by rw [eD]; simp) fD
          have ev03 := ev2.trans ev3
          refine tgT_ok (gg := gd X fa ca) eg rd (sr0.evo ev03 gh3) fun σ1 sr1 hwp => ⟨by rw [hwp ws hg, wipe_wipe], htt _ _ _ ⟨Zh, F3, mu2, ρ1, S3, sr1, ?_⟩⟩
          rw [et]
          have ra3 := ra.mono ev3.le ev3.pre
          rcases cs with ⟨hk, v, S5, r', ef, ec3, rfl⟩ | ⟨hk, ec3⟩
          · refine ⟨true, hk, fun F4 mu4 H4 ev4 gh4 => ?_⟩
            simp only [↓reduceIte]
            refine hte _ _ _ ⟨Zh, F4, mu4, ρ1, S4, sr1.evo ev4 gh4, ?_⟩
            rw [ef]
            intro F5 mu5 y H5 ev5 gh5 rel5 new5
            have eD4 : H4 D = some (.lst acc) := ev4.keep D _ eD3 mD fD3
            have fD4 : F4 D = none := ev4.froz D (by rw [eD3]; simp) fD3
            have mD4 : D ∉ mu4 := fun z => (ev4.fresh D z).elim mD fun q => by rw [eD3] at q; cases q
            have eD5 : H5 D = some (.lst acc) := ev5.keep D _ eD4 mD4 fD4
            obtain ⟨F6, ev6, gh6, rel6, sub6, _⟩ := share ev5 gh5 rel5 (new5 rfl)
            have fD6 : F6 D = none := ev6.froz D (by rw [eD4]; simp) fD4
            have mD6 : D ∉ mu5 := fun z => (ev5.fresh D z).elim mD4 fun q => by rw [eD4] at q; cases q
            have ra6 := (ra3.mono ev4.le ev4.pre).mono ev6.le ev6.pre
            have hl := ra6.length
            refine ⟨acc, eD5, ?_, meas, F6, mu5, S5, acc ++ [y], ad ++ [v.shr], r', upd_same, fD6, mD6, ev_upd ((ev03.trans ev4).trans ev6) hD, gh_upd gh6 fD6 mD6, ra6.append (.cons rel6 .nil), ec3, by rw [er]; simp⟩
            rw [er, List.length_append, List.length_cons] at hz
            omega
          · refine ⟨false, hk, fun F4 mu4 H4 ev4 gh4 => ?_⟩
            simp only [Bool.false_eq_true, ↓reduceIte]
            have eD4 : H4 D = some (.lst acc) := ev4.keep D _ eD3 mD fD3
            have fD4 : F4 D = none := ev4.froz D (by rw [eD3]; simp) fD3
            have mD4 : D ∉ mu4 := fun z => (ev4.fresh D z).elim mD fun q => by rw [eD3] at q; cases q
            exact ⟨meas, F4, mu4, S4, acc, ad, rest, eD4, fD4, mD4, ev03.trans ev4, gh4, ra3.mono ev4.le ev4.pre, ec3, er⟩
        · have ei : i = ds.length := by omega
          subst ei
          refine .inl ⟨itx.2 rfl, ?_⟩
          rw [List.drop_length] at ec2
          simp only [compL] at ec2
          cases ec2
          rw [List.append_nil] at er
          subst er
          refine p F2 mu2 (.ref D) H2 (ev0.trans ev2) gh2 ⟨D, acc, rfl, eD, fD, mD, ra⟩ fun _ a ha => ?_
          cases ha
          exact Classical.byContradiction fun z => ev0.dom D z hD
      · rw [if_neg hz] at p; exact p.elim
end

/-! ### x[::-1]; a call of what a name holds; {k: v, ..}[k] -/
theorem RelDs.rev {g : Gd} {F : Hp} {mu : List Addr} : ∀ {ds : List D} {vs : List V}, RelDs g F mu ds vs → RelDs g F mu ds.reverse vs.reverse
  | _, _, .nil => .nil
  | _, _, .cons r t => by rw [List.reverse_cons, List.reverse_cons]; exact (RelDs.rev t).append (.cons r .nil)
section
variable {tb : Tb} {X : Cx} {W : WX} {fa ca : Nat → Addr} {call : Call} {n : Nat} {N : List Str} {sc : Scope} {bor : Bool}
theorem e_rev {x : Expr} {c : CE} {k : Nat} {p1 p2 p3 pos : Pos} (hx : PE X x (RE (gd X fa ca) true W (den c call))) : PE X (.Subscript x (.Slice none none (some (.UnaryOp .USub (.Constant (.int 1) k p1) p2)) p3) pos) (RE (gd X fa ca) bor W (den (.rev c) call)) := by
  refine PE.weak (pe_revL hx) fun σ H Q ⟨Zh, F, mu, ρ, S, sr, p⟩ => ?_
  simp only [den] at p
  refine RE.mono (fun v H1 ⟨F1, mu1, r1, S1, a1, _, p1⟩ => ?_) (RE.bind sr p)
  obtain ⟨r, e, q⟩ := PostE.opt (PostE.evo a1.evo p1)
  obtain ⟨ds, e2, rfl⟩ := Option.map_eq_some_iff.mp e
  obtain ⟨a, xs, rfl, hH, rd⟩ := lsv_at a1.sr.gh e2 a1.rel
  exact ⟨a, xs, rfl, SqL.of hH, fun p hp => q.nl a1.sr.gh rd.rev hp⟩
theorem e_callv (cx : Cxt tb X W fa ca call n N sc) {i : Nat} {x : Str} {ids : List Nat} {y : Expr} {ys : List Expr} {es : CEs} {p pos : Pos} (hN : N[i]? = some x) (hv : visB sc x = true) (hm : nmB x = true) (hi : ids.all (fun id => match tb.fns[id]? with | some (_, np) => decide (np = es.len) | none => false) = true)
    (ha : PA X (y :: ys) (RA (gd X fa ca) true W (dens es call))) (hs : (y :: ys).all (fun x => !isStar x) = true) : PE X (.Call (.Name x p) (y :: ys) [] pos) (RE (gd X fa ca) bor W (den (.callv i ids es) call)) := by
  obtain ⟨h1, h2, _⟩ := nm_of hm
  simp only [List.all_cons, Bool.and_eq_true, Bool.not_eq_true'] at hs
  refine ⟨fun pins s σ H Q I ⟨Zh, F, mu, ρ, S, sr, q⟩ => ?_⟩
  simp only [den] at q
  split at q
  · rename_i id eg
    by_cases hc : ids.contains id = true
    · rw [if_pos hc] at q
      have hid := List.all_eq_true.mp hi id (List.contains_iff_mem.mp hc)
      split at hid
      · rename_i nm np hf
        have hid := of_decide_eq_true hid
        obtain ⟨fd, ps, hmg, hk, hb, hlen, FF⟩ := cx.fns id nm np hf
        have eg2 : getV ρ i = some (.sh (.fn id)) := by
          unfold getS at eg
          split at eg
          · rename_i d hd; cases eg; exact hd
          · cases eg
        obtain ⟨v, hσ, rel, _⟩ := sr.get eg2
        have hv2 : v = .ref (fa id) := by cases rel; rfl
        subst hv2
        refine wpAny_Call_Name_kw (thn ((pe_var (pos := p) (i := i) (by rw [cx.hN]; exact hN) (by rw [cx.hsc]; exact vis_of hv) h1 h2).run pins s σ H (fun v H1 => v = .ref (fa id) ∧ H1 = H) I ⟨.ref (fa id), hσ, rfl, rfl⟩) fun u s1 ⟨v, H1, I1, r1, q1⟩ => ?_)
        obtain ⟨rfl, rfl⟩ := q1
        cases r1
        refine PySem.W.callWith_K (h₀ := X.base) I.ok.mod.kin hk (thn (ha.run pos pins s1 σ _ _ I1 (RA.bindE sr q)) fun us s2 ⟨vs, H2, I2, r, F2, mu2, rs, S2, e, ev, sr2, ra, p2⟩ => ⟨I2.kIn, ?_⟩) (starOf hs.1) (plainOf hs.2)
        have ra : RelDs _ F2 mu2 (rs.map Rv.shr) vs := ra
        refine run_fnS FF (cx.room.mono (by omega)) hb (passAt cx.tk σ) I2 r (sp_post sr2.gh ?_ ra (PostE.evo ev p2))
        have h3 := ra.length
        rw [List.length_map, dens_len _ _ _ _ _ _ e] at h3
        rw [← h3, hid]
      · cases hid
    · rw [if_neg hc] at q; exact q.elim
  · exact q.elim
end

def trsOf (g : Gd) (W : WX) (call : Call) : List Str → CEs → List (TE × TE)
  | k :: ks, .cons e es => (tC (.str k), RE g false W (den e call)) :: trsOf g W call ks es
  | _, _ => []
def kvsOf (ks : List Str) (vs : List V) : List (Key × V) := (ks.map Sum.inr).zip vs
theorem kvs_pairs : ∀ (ks : List Str) (vs : List V), (ks.map V.str).zip vs = (kvsOf ks vs).map fun kv => (kV kv.1, kv.2)
  | [], _ => rfl
  | k :: ks, [] => rfl
  | k :: ks, v :: vs => by
    have := kvs_pairs ks vs
    simp only [kvsOf, List.map_cons, List.zip_cons_cons] at this ⊢
    rw [this]; rfl
theorem kvs_none {ks : List Str} {vs : List V} {x : Str} (h : x ∉ ks) : valV (kvsOf ks vs) (Sum.inr x : Key) = none := by
  induction ks generalizing vs with
  | nil => rfl
  | cons k ks ih =>
    cases vs with
    | nil => rfl
    | cons v vs =>
      have hk : ¬ (Sum.inr k : Key) = Sum.inr x := fun z => h (by cases z; exact List.mem_cons_self)
      show valV ((Sum.inr k, v) :: kvsOf ks vs) _ = none
      rw [valV_neg (p := ((Sum.inr k : Key), v)) hk]
      exact ih fun z => h (List.mem_cons_of_mem _ z)
theorem merge_kvs : ∀ (ks : List Str) (vs : List V) (acc : List (Key × V)), ks.Nodup → (∀ k ∈ ks, valV acc (Sum.inr k : Key) = none) → mergeK acc (kvsOf ks vs) = acc ++ kvsOf ks vs
  | [], _, acc, _, _ => by simp [mergeK, kvsOf]
  | k :: ks, [], acc, _, _ => by simp [mergeK, kvsOf]
  | k :: ks, v :: vs, acc, nd, h => by
    have nd' := List.nodup_cons.mp nd
    have e1 : putK acc (Sum.inr k) v = acc ++ [(Sum.inr k, v)] := putK_new _ (h k List.mem_cons_self)
    have ih := merge_kvs ks vs (acc ++ [(Sum.inr k, v)]) nd'.2 (fun j hj => by
      rw [valV_snoc _ _ _ _ (h k List.mem_cons_self), if_neg (fun z => nd'.1 (by cases z; exact hj))]
      exact h j (List.mem_cons_of_mem _ hj))
    show mergeK (putK acc (Sum.inr k) v) (kvsOf ks vs) = _
    rw [e1, ih]
    simp [kvsOf]
theorem sel_rel {g : Gd} {F : Hp} {mu : List Addr} {x : Str} {d : D} : ∀ {ks : List Str} {ds : List D} {vs : List V}, RelDs g F mu ds vs → selD ks ds x = some d → ∃ v, valV (kvsOf ks vs) (Sum.inr x : Key) = some v ∧ RelD g F mu d v
  | [], _, _, _, e => by simp [selD] at e
  | k :: ks, _, _, .nil, e => by simp [selD] at e
  | k :: ks, _, _, .cons (v := v) (vs := vs) r t, e => by
    simp only [selD] at e
    by_cases hk : k = x
    · rw [if_pos hk] at e
      cases e
      exact ⟨v, valV_pos (p := ((Sum.inr k : Key), v)) (by rw [hk]), r⟩
    · rw [if_neg hk] at e
      obtain ⟨u, h1, h2⟩ := sel_rel t e
      exact ⟨u, by rw [← h1]; exact valV_neg (p := ((Sum.inr k : Key), v)) (fun z => hk (by cases z; rfl)), h2⟩
section
variable {tb : Tb} {X : Cx} {W : WX} {fa ca : Nat → Addr} {call : Call} {n : Nat} {N : List Str} {sc : Scope} {bor : Bool}
theorem pairs_ok : ∀ (es : CEs) (ks : List Str) {σ : L2.St} {H : Hp} {R : List (V × V) → Hp → Prop}, es.len = ks.length → RA (gd X fa ca) true W (dens es call) σ H (fun vs H2 => R ((ks.map V.str).zip vs) H2) → tPairs (trsOf (gd X fa ca) W call ks es) σ H R
  | .nil, ks, σ, H, R, hl, ⟨Zh, F, mu, ρ, S, sr, p⟩ => by
    cases ks with
    | cons _ _ => cases hl
    | nil =>
      simp only [dens] at p
      exact p F mu [] H .refl sr.gh (show RelDs _ F mu [] [] from .nil)
  | .cons e es, ks, σ, H, R, hl, ⟨Zh, F, mu, ρ, S, sr, p⟩ => by
    cases ks with
    | nil => cases hl
    | cons k ks =>
      simp only [dens] at p
      show RE (gd X fa ca) false W (den e call) σ H fun y H2 => tPairs (trsOf (gd X fa ca) W call ks es) σ H2 fun ps H3 => R ((V.str k, y) :: ps) H3
      refine RE.mono (fun v H1 ⟨F1, mu1, r1, S1, a1, n1, p1⟩ => ?_) (RE.bindA sr p)
      obtain ⟨F', ev, gh', rel', sub', _⟩ := share a1.evo a1.sr.gh a1.rel (n1 rfl)
      refine pairs_ok es ks (Nat.succ.inj hl) (RA.mono (fun vs H2 ⟨F2, mu2, rs, S2, ev2, sr2, ra, p2⟩ => ?_) (RA.bindA (sr.evo ev gh') (PostA.evo ev p1)))
      exact p2 F2 mu2 (v :: vs) H2 ev2 sr2.gh (show RelDs _ F2 mu2 (r1.shr :: rs.map Rv.shr) (v :: vs) from .cons (rel'.mono ev2.le ev2.pre) ra)
theorem e_dsel (cx : Cxt tb X W fa ca call n N sc) {keys : List (Option Expr)} {vals : List Expr} {x : Expr} {ks : List Str} {es : CEs} {k : CE} {dpos pos : Pos} (hP : PPs X dpos keys vals (trsOf (gd X fa ca) W call ks es)) (hk : PE X x (RE (gd X fa ca) true W (den k call)))
    (hall : keys.all (·.isSome) = true) (hl : keys.length = vals.length) (h0 : keys ≠ []) (h15 : keys.length ≤ 15) (hs : isSlice x = false) (hlen : es.len = ks.length) (hks : ks.length ≤ 15) (nd : ks.Nodup) :
    PE X (.Subscript (.Dict keys vals dpos) x pos) (RE (gd X fa ca) bor W (den (.dsel ks es k) call)) := by
  have hu : X.A.units + 1 < cLine := by have := cx.units; omega
  refine PE.weak (pe_dget hu (pe_disp hP hall hl h0 h15) hk (plainIx hs)) fun σ H Q ⟨Zh, F, mu, ρ, S, sr, post⟩ => ?_
  intro p hp
  simp only [den] at post
  obtain ⟨ev1, gh1⟩ := ev_new (o := .dK []) sr.gh hp
  have post1 := PostE.evo ev1 post
  refine pairs_ok es ks hlen (RA.mono (fun vs H2 ⟨F2, mu2, rs, S2, e, ev2, sr2, ra, _⟩ => ?_) (RA.bindE (sr.evo ev1 gh1) post1))
  have ra : RelDs (gd X fa ca) F2 mu2 (rs.map Rv.shr) vs := ra
  have fp : F p = none := fz_none sr.gh hp
  have mp : p ∉ mu := mu_none sr.gh hp
  have e2 : H2 p = some (.dK []) := ev2.keep p _ upd_same mp fp
  have fp2 : F2 p = none := ev2.froz p (by rw [upd_same]; simp) fp
  have mp2 : p ∉ mu2 := fun z => (ev2.fresh p z).elim mp fun q => by rw [upd_same] at q; cases q
  have hm : mergeK [] (kvsOf ks vs) = kvsOf ks vs := by rw [merge_kvs ks vs [] nd fun _ _ => rfl]; rfl
  refine ⟨e2, kvsOf ks vs, kvs_pairs ks vs, ?_, ?_⟩
  · simp only [kvsOf, List.length_zip, List.length_map]; omega
  rw [hm]
  have ev3 := ev_upd (o := .dK (kvsOf ks vs)) (ev1.trans ev2) hp
  have gh3 := gh_upd (o := .dK (kvsOf ks vs)) sr2.gh fp2 mp2
  have sr3 := sr.evo ev3 gh3
  rw [e] at post
  have post3 := PostE.evo ev3 (show PostE (gd X fa ca) bor W F mu σ H Q ((den k call ρ S2).bind fun y S2 => match y with | .sh (.str x) => optR ((selD ks (rs.map Rv.shr) x).map .sh) S2 | _ => .bad) from post)
  refine RE.mono (fun y H4 ⟨F4, mu4, r4, S4, a4, _, p4⟩ => ?_) (RE.bind sr3 post3)
  have p4 := PostE.evo a4.evo p4
  split at p4
  · obtain ⟨r, e5, q⟩ := PostE.opt p4
    obtain ⟨d, hd, rfl⟩ := Option.map_eq_some_iff.mp e5
    obtain ⟨v, hv, rv⟩ := sel_rel ra hd
    have rel4 := a4.rel
    cases rel4
    have e6 : H4 p = some (.dK (kvsOf ks vs)) := a4.evo.keep p _ upd_same mp2 fp2
    refine ⟨p, v, rfl, ?_, q.same a4.sr.gh (rv.mono a4.evo.le a4.evo.pre)⟩
    rw [← hv]
    exact DGet.k (k := Sum.inr _) e6
  · exact p4.elim
end
end Z

set_option Elab.async false
set_option linter.all false
set_option autoImplicit false
set_option maxRecDepth 100000
set_option maxHeartbeats 1000000
/-! Z15: every checked expression does what it means. -/
namespace Z
open PySem L2

section
variable {tb : Tb} {X : Cx} {W : WX} {fa ca : Nat → Addr} {call : Call} {n : Nat} {N : List Str} {sc : Scope} {bor : Bool}
theorem Cxt.blk (cx : Cxt tb X W fa ca call n N sc) (s : Shared) (H : Hp) (scope : Scope) (C : Addr) (cl : List (Str × Addr)) (fp : List Addr) :
    Cxt tb (X.blk s H scope (compEnvC scope cl C X.env) fp) W0 fa ca call n N (relS scope sc) where
  hN := cx.hN
  nd := cx.nd
  hsc := by
    show relS scope X.env.scope = _
    rw [cx.hsc]
  calm := cx.calm
  room := cx.room
  tk := takes0
  fns := cx.fns
  cns := cx.cns
  ecs := cx.ecs
  exm := cx.exm
  bls := cx.bls
theorem gLoc_blk (cx : Cxt tb X W fa ca call n N sc) (s : Shared) (H : Hp) (scope : Scope) (C : Addr) (cl : List (Str × Addr)) (fp : List Addr) : gLoc (X.blk s H scope (compEnvC scope cl C X.env) fp) scope := by
  intro x hx
  rcases hx with h | h
  · have q := lookup_relS_keep (sc := X.env.scope) (by decide) h
    exact ⟨.inl q, .inr q⟩
  · have q := lookup_relS_keep (sc := X.env.scope) (by decide) h
    exact ⟨.inr q, .inl (by show (scope.names.lookup x == some .cell) = true; rw [h]; rfl)⟩
theorem noFold {iter : Expr} {env : PySem.Env} (h : isSet iter = false) : ∀ x, foldedSetIterable iter env x = pure x := fun x => by cases iter <;> first | rfl | cases h
theorem own_ws {N : List Str} {ws : List Nat} : (ownOf N ws).map (·.2) = ws := by
  unfold ownOf
  rw [List.map_map]
  exact List.map_id _
theorem e_comp (cx : Cxt tb X W fa ca call n N sc) {tg iter elt : Expr} {ifs : List Expr} {scope : Scope} {pos : Pos} {it : CI} {g : CG} {ws : List Nat} {t f : CE} {tt : TT}
    (hi : PI X tg iter (RI (gd X fa ca) false W (deni it call))) (hb : blkC N sc scope (ownOf N ws) = true) (hg : chkG N scope g tg = true) (hgs : ∀ i ∈ g.slots, i ∈ ws)
    (ht : ∀ (s : Shared) (H : Hp) (C : Addr) (cl : List (Str × Addr)) (fp : List Addr), PTs (X.blk s H scope (compEnvC scope cl C X.env) fp) ifs tt) (htt : ∀ σ H Q, RT (gd X fa ca) W0 (den t call) σ H Q → tt σ H Q)
    (hf : ∀ (s : Shared) (H : Hp) (C : Addr) (cl : List (Str × Addr)) (fp : List Addr), PE (X.blk s H scope (compEnvC scope cl C X.env) fp) elt (RE (gd X fa ca) false W0 (den f call))) (hs : isSet iter = false) :
    PE X (.ListComp elt [⟨tg, iter, ifs, 0⟩] scope pos) (RE (gd X fa ca) bor W (den (.comp it g ws t f) call)) := by
  have h := pe_lc (pos := pos) (own := ownOf N ws) (g := tgT X.K g) cx.calm (by rw [cx.hN]; exact cx.nd) hi (by rw [cx.hN, cx.hsc]; exact blkOk_by hb) (fun s H C cl fp => pg_of (cx.blk s H scope C cl fp).hN cx.nd cx.calm (gLoc_blk cx s H scope C cl fp) hg) ht hf (noFold hs)
  rw [own_ws] at h
  exact PE.weak h fun σ H Q q => e_comp_core hgs (fun _ _ _ z => z) htt (fun _ _ _ z => z) σ H Q q
def isBop : Expr → Bool
  | .BoolOp _ _ _ => true
  | _ => false
structure SE (X : Cx) (W : WX) (fa ca : Nat → Addr) (call : Call) (bor : Bool) (c : CE) (e : Expr) : Prop where
  pe : PE X e (RE (gd X fa ca) bor W (den c call))
  pt : bor = true → PT X e (RT (gd X fa ca) W (den c call))
  pw : bor = true → isBop e = true → PW X e (RT (gd X fa ca) W (den c call))
theorem SE.plain {c : CE} {e : Expr} (h : PE X e (RE (gd X fa ca) bor W (den c call))) (hp : plainT e = true) : SE X W fa ca call bor c e where
  pe := h
  pt := fun hb => by subst hb; exact t_val h hp
  pw := fun _ z => by
    have hb : isBop e = false := by cases e <;> first | rfl | (unfold plainT at hp; cases hp)
    rw [hb] at z; cases z
theorem SE.ptw {c : CE} {e : Expr} (h : PE X e (RE (gd X fa ca) bor W (den c call))) (ht : PT X e (RT (gd X fa ca) W (den c call))) (hn : isBop e = false) : SE X W fa ca call bor c e := ⟨h, fun _ => ht, fun _ z => by rw [hn] at z; cases z⟩
end
theorem any_nil {α : Type} {l : List α} (h : l.isEmpty = true) : l = [] := by cases l <;> first | rfl | cases h
section
variable (tb : Tb) (fa ca : Nat → Addr) (call : Call) (n : Nat) (N : List Str)
theorem chkEs_noStar : ∀ (es : CEs) (sc : Scope) (sh : Bool) (xs : List Expr), chkEs tb N es sc sh xs = true → xs.all (fun x => !isStar x) = true
  | .nil, _, _, xs, h => by simp only [chkEs] at h; rw [any_nil h]; rfl
  | .cons e es, sc, sh, xs, h => by
    simp only [chkEs] at h
    cases xs with
    | nil => cases h
    | cons x r =>
      simp only [Bool.and_eq_true] at h
      simp only [List.all_cons, Bool.and_eq_true]
      exact ⟨h.1.2, chkEs_noStar es sc sh r h.2⟩
theorem isStar_of {b : Bool} (h : (!b) = true) : b = false := by cases b <;> first | rfl | cases h
theorem keyB_all : ∀ {ks : List Str} {keys : List (Option Expr)}, keyB ks keys = true → keys.all (·.isSome) = true ∧ keys.length = ks.length
  | [], [], _ => ⟨rfl, rfl⟩
  | [], _ :: _, h => by simp [keyB] at h
  | _ :: _, [], h => by simp [keyB] at h
  | k :: ks, key :: keys, h => by
    unfold keyB at h
    split at h
    · rename_i e _; cases e
    · rename_i k' ks' x kk p es' e1 e2
      simp only [Bool.and_eq_true] at h
      cases e1
      cases e2
      obtain ⟨h1, h2⟩ := keyB_all h.2
      exact ⟨by simpa using h1, by simpa using h2⟩
    · cases h
theorem chkEs_len0 : ∀ (es : CEs) (sc : Scope) (sh : Bool) (xs : List Expr), chkEs tb N es sc sh xs = true → xs.length = es.len
  | .nil, _, _, xs, h => by simp only [chkEs] at h; rw [any_nil h]; rfl
  | .cons e es, sc, sh, xs, h => by
    simp only [chkEs] at h
    cases xs with
    | nil => cases h
    | cons x r =>
      simp only [Bool.and_eq_true] at h
      exact congrArg (· + 1) (chkEs_len0 es sc sh r h.2)
mutual
theorem sE : ∀ (c : CE) {X : Cx} {W : WX} {sc : Scope} {bor : Bool} {e : Expr}, Cxt tb X W fa ca call n N sc → chkE tb N c sc bor e = true → SE X W fa ca call bor c e
  | .var i, X, W, sc, bor, e, cx, h => by
    simp only [chkE] at h
    split at h
    · simp only [Bool.and_eq_true, decide_eq_true_eq] at h
      exact .plain (e_var cx h.1.1 h.1.2 h.2) rfl
    · cases h
  | .varB i, X, W, sc, bor, e, cx, h => by
    simp only [chkE] at h
    split at h
    · simp only [Bool.and_eq_true, decide_eq_true_eq] at h
      obtain ⟨⟨⟨h1, h2⟩, h3⟩, h4⟩ := h
      subst h1
      exact .plain (e_varB cx h2 h3 h4) rfl
    · cases h
  | .con d, X, W, sc, bor, e, cx, h => by
    simp only [chkE] at h
    split at h
    · exact .plain (e_con h) rfl
    · cases h
  | .glob j d, X, W, sc, bor, e, cx, h => by
    simp only [chkE] at h
    split at h
    · simp only [Bool.and_eq_true] at h
      obtain ⟨⟨h1, h2⟩, h3⟩ := h
      split at h3
      · rename_i hj
        simp only [Bool.and_eq_true, decide_eq_true_eq] at h3
        obtain ⟨rfl, h5⟩ := h3
        have h5 := dbeq_eq _ _ h5
        subst h5
        exact .plain (e_glob cx h1 h2 hj) rfl
      · cases h3
    · cases h
  | .fnv id, X, W, sc, bor, e, cx, h => by
    simp only [chkE] at h
    split at h
    · simp only [Bool.and_eq_true] at h
      obtain ⟨⟨h1, h2⟩, h3⟩ := h
      split at h3
      · rename_i hj
        simp only [decide_eq_true_eq] at h3
        subst h3
        exact .plain (e_fnv cx h1 h2 hj) rfl
      · cases h3
    · cases h
  | .op o a b, X, W, sc, bor, e, cx, h => by
    simp only [chkE] at h
    split at h
    · simp only [Bool.and_eq_true] at h
      obtain ⟨⟨h1, h2⟩, h3⟩ := h
      have h1 := bopB_eq h1
      subst h1
      exact .plain (e_bin (sE a cx h2).pe (sE b cx h3).pe (fun q1 q2 => pe_op (op_ok o) q1 q2) fun ρ S => by simp only [den]) rfl
    · cases h
  | .neg a, X, W, sc, bor, e, cx, h => by
    simp only [chkE] at h
    split at h
    · exact .plain (e_neg (sE a cx h).pe) rfl
    · cases h
  | .not a, X, W, sc, bor, e, cx, h => by
    simp only [chkE] at h
    split at h
    · exact .ptw (e_not (sE a cx h).pe) (t_not ((sE a cx h).pt rfl)) rfl
    · cases h
  | .and a b, X, W, sc, bor, e, cx, h => by
    simp only [chkE] at h
    split at h
    · rename_i x y r p
      simp only [Bool.and_eq_true] at h
      obtain ⟨h1, h2⟩ := h
      have ha := sE a cx h1
      by_cases hr : r.isEmpty = true
      · rw [if_pos hr] at h2
        have hr := any_nil hr
        subst hr
        have hb := sE b cx h2
        refine ⟨e_and ha.pe (pe_one hb.pe), fun z => ?_, fun z _ => ?_⟩
        · exact (t_and (ha.pt z) (pw_and1 (hb.pt z))).pt
        · exact t_and (ha.pt z) (pw_and1 (hb.pt z))
      · rw [if_neg hr] at h2
        have hb := sE b cx h2
        exact ⟨e_and ha.pe hb.pe, fun z => (t_and (ha.pt z) (hb.pw z rfl)).pt, fun z _ => t_and (ha.pt z) (hb.pw z rfl)⟩
    · cases h
  | .or a b, X, W, sc, bor, e, cx, h => by
    simp only [chkE] at h
    split at h
    · rename_i x y r p
      simp only [Bool.and_eq_true] at h
      obtain ⟨h1, h2⟩ := h
      have ha := sE a cx h1
      by_cases hr : r.isEmpty = true
      · rw [if_pos hr] at h2
        have hr := any_nil hr
        subst hr
        have hb := sE b cx h2
        refine ⟨e_or ha.pe (pe_one hb.pe), fun z => ?_, fun z _ => ?_⟩
        · exact (t_or (ha.pt z) (pw_or1 (hb.pt z))).pt
        · exact t_or (ha.pt z) (pw_or1 (hb.pt z))
      · rw [if_neg hr] at h2
        have hb := sE b cx h2
        exact ⟨e_or ha.pe hb.pe, fun z => (t_or (ha.pt z) (hb.pw z rfl)).pt, fun z _ => t_or (ha.pt z) (hb.pw z rfl)⟩
    · cases h
  | .cmp o a b, X, W, sc, bor, e, cx, h => by
    simp only [chkE] at h
    split at h
    · simp only [Bool.and_eq_true] at h
      obtain ⟨⟨⟨h1, h2⟩, h3⟩, h4⟩ := h
      have h1 := copB_eq h1
      subst h1
      have ha := (sE a cx h2).pe
      have hb := (sE b cx h3).pe
      exact .ptw (e_cmp cx ha hb (isStar_of h4)) (t_cmp cx ha hb (isStar_of h4)) rfl
    · cases h
  | .chain o o' a b c, X, W, sc, bor, e, cx, h => by
    simp only [chkE] at h
    split at h
    · simp only [Bool.and_eq_true] at h
      obtain ⟨⟨⟨⟨⟨h1, h1'⟩, h2⟩, h3⟩, h4⟩, h5⟩ := h
      have h1 := copB_eq h1
      have h1' := copB_eq h1'
      subst h1 h1'
      have ha := (sE a cx h2).pe
      have hb := (sE b cx h3).pe
      have hc := (sE c cx h4).pe
      exact .ptw (e_chain cx ha hb hc (isStar_of h5)) (t_chain cx ha hb hc (isStar_of h5)) rfl
    · cases h
  | .ife t a b, X, W, sc, bor, e, cx, h => by
    simp only [chkE] at h
    split at h
    · simp only [Bool.and_eq_true] at h
      obtain ⟨⟨h1, h2⟩, h3⟩ := h
      have ht := (sE t cx h1).pt rfl
      have ha := sE a cx h2
      have hb := sE b cx h3
      exact ⟨e_ife ht ha.pe hb.pe, fun z => t_ife ht (ha.pt z) (hb.pt z), fun _ z => nomatch z⟩
    · cases h
  | .tup es, X, W, sc, bor, e, cx, h => by
    simp only [chkE] at h
    split at h
    · simp only [Bool.and_eq_true, decide_eq_true_eq] at h
      exact .plain (e_tup (sA es cx h.1) h.2) rfl
    · cases h
  | .lst es, X, W, sc, bor, e, cx, h => by
    simp only [chkE] at h
    split at h
    · simp only [Bool.and_eq_true, decide_eq_true_eq] at h
      exact .plain (e_lst (sA es cx h.1) h.2) rfl
    · cases h
  | .dct0, X, W, sc, bor, e, cx, h => by
    simp only [chkE] at h
    split at h
    · exact .plain e_dct0 rfl
    · cases h
  | .idx a b, X, W, sc, bor, e, cx, h => by
    simp only [chkE] at h
    split at h
    · simp only [Bool.and_eq_true] at h
      obtain ⟨⟨h1, h2⟩, h3⟩ := h
      exact .plain (e_idx cx (sE a cx h1).pe (sE b cx h2).pe (isStar_of h3)) rfl
    · cases h
  | .slc a lo hi, X, W, sc, bor, e, cx, h => by
    simp only [chkE] at h
    split at h
    · rename_i x l hh p2 pos
      simp only [Bool.and_eq_true] at h
      obtain ⟨⟨h1, h2⟩, h3⟩ := h
      have hl : PO X l (ROp (gd X fa ca) W (den lo call)) := by
        cases l with
        | none =>
          have z : lo = .con .non := by
            have h2 : noneE lo = true := h2
            unfold noneE at h2; split at h2; rfl; cases h2
          subst z; exact po_no
        | some le => exact po_ex (sE lo cx h2).pe
      have hr : PO X hh (ROp (gd X fa ca) W (den hi call)) := by
        cases hh with
        | none =>
          have z : hi = .con .non := by
            have h3 : noneE hi = true := h3
            unfold noneE at h3; split at h3; rfl; cases h3
          subst z; exact po_no
        | some le => exact po_ex (sE hi cx h3).pe
      exact .plain (e_slc (sE a cx h1).pe hl hr) rfl
    · cases h
  | .comp it g ws t f, X, W, sc, bor, e, cx, h => by
    simp only [chkE] at h
    split at h
    · rename_i elt gens scope pos
      split at h
      · rename_i tg iter ifs asy
        simp only [Bool.and_eq_true, decide_eq_true_eq] at h
        obtain ⟨⟨⟨⟨⟨⟨⟨h0, h1⟩, h2⟩, h3⟩, h4⟩, h5⟩, h6⟩, h7⟩ := h
        subst h0
        have hgs : ∀ i ∈ g.slots, i ∈ ws := fun i hi => by
          have := List.all_eq_true.mp h4 i hi
          exact List.contains_iff_mem.mp this
        have hi := sI it (tg := tg) cx h1
        have hf : ∀ (s : Shared) (H : Hp) (C : Addr) (cl : List (Str × Addr)) (fp : List Addr), PE (X.blk s H scope (compEnvC scope cl C X.env) fp) elt (RE (gd X fa ca) false W0 (den f call)) := fun s H C cl fp => (sE f (cx.blk s H scope C cl fp) h6).pe
        refine .plain ?_ rfl
        split at h5
        · have z : t = .con (.bl true) := by
            unfold trueE at h5
            split at h5
            · rename_i b; cases b <;> first | rfl | cases h5
            · cases h5
          subst z
          exact e_comp cx hi h2 h3 hgs (tt := tYes) (fun _ _ _ _ _ => pts_nil) (fun σ H Q ⟨Zh, F, mu, ρ, S, sr, p⟩ => by
            simp only [den] at p
            obtain ⟨k, hk, p⟩ := p
            cases hk
            exact p F mu H .refl sr.gh) hf (isStar_of h7)
        · exact e_comp cx hi h2 h3 hgs (tt := RT (gd X fa ca) W0 (den t call)) (fun s H C cl fp => pts_one ((sE t (cx.blk s H scope C cl fp) h5).pt rfl)) (fun _ _ _ z => z) hf (isStar_of h7)
        · cases h5
      · cases h
    · cases h
  | .bi b es, X, W, sc, bor, e, cx, h => by
    simp only [chkE] at h
    split at h
    · rename_i x p xs pos
      cases b with
      | isi t =>
        simp only at h
        split at h
        · rename_i x1 x2
          simp only [Bool.and_eq_true] at h
          obtain ⟨⟨h1, h2⟩, h3⟩ := h
          cases es with
          | nil => simp [chkEs] at h2
          | cons c es =>
            cases es with
            | cons _ _ => simp [chkEs] at h2
            | nil =>
              simp only [chkEs, Bool.and_eq_true] at h2
              unfold tySt at h3
              split at h3
              · exact .plain (e_isi cx h1 h3 (sE c cx h2.1.1).pe (isStar_of h2.1.2)) rfl
              · cases h3
        · cases h
      | _ =>
        simp only [Bool.and_eq_true] at h
        obtain ⟨⟨h1, h2⟩, h3⟩ := h
        cases xs with
        | nil => cases h3
        | cons y ys => exact .plain (e_bi cx (fun t z => nomatch z) h1 (sA es cx h2) (chkEs_noStar tb N es sc false _ h2)) rfl
    · cases h
  | .mt m o es, X, W, sc, bor, e, cx, h => by
    simp only [chkE] at h
    split at h
    · rename_i ox nm apos xs cpos
      cases m with
      | get =>
        simp only [Bool.and_eq_true, decide_eq_true_eq] at h
        obtain ⟨⟨⟨⟨⟨h1, h2⟩, h3⟩, h4⟩, h5⟩, h6⟩ := h
        subst h1
        have hns := chkEs_noStar tb N es sc true _ h5
        have hA := sA es (sh := true) cx h5
        cases es with
        | nil => simp [CEs.len] at h6
        | cons c1 es =>
          cases es with
          | nil => simp [CEs.len] at h6
          | cons c2 es =>
            cases es with
            | cons _ _ => simp [CEs.len] at h6
            | nil =>
              cases xs with
              | nil => simp [chkEs] at h5
              | cons x1 xs =>
                cases xs with
                | nil => simp [chkEs] at h5
                | cons x2 xs =>
                  cases xs with
                  | cons _ _ => simp [chkEs] at h5
                  | nil =>
                    simp only [List.all_cons, Bool.and_eq_true] at hns
                    exact .plain (e_get cx (sE o cx h4).pe hA (isStar_of h3) h2 (isStar_of hns.1) (isStar_of hns.2.1)) rfl
      | index =>
        simp only [Bool.and_eq_true, decide_eq_true_eq] at h
        obtain ⟨⟨⟨⟨⟨h1, h2⟩, h3⟩, h4⟩, h5⟩, h6⟩ := h
        subst h1
        have hns := chkEs_noStar tb N es sc true _ h5
        have hA := sA es (sh := true) cx h5
        unfold idxB at h3
        split at h3
        · rename_i j ds x px
          simp only [chkE] at h4
          split at h4
          · rename_i y d' hcn
            simp only [Bool.and_eq_true, decide_eq_true_eq] at h4
            obtain ⟨⟨g1, g2⟩, g3, g4⟩ := h4
            have g4 := dbeq_eq _ _ g4
            subst g3 g4
            obtain ⟨ys, hys⟩ := Option.isSome_iff_exists.mp h3
            cases es with
            | nil => simp [CEs.len] at h6
            | cons c1 es =>
              cases es with
              | cons _ _ => simp [CEs.len] at h6
              | nil =>
                cases xs with
                | nil => simp [chkEs] at h5
                | cons x1 xs =>
                  cases xs with
                  | cons _ _ => simp [chkEs] at h5
                  | nil =>
                    simp only [List.all_cons, Bool.and_eq_true] at hns
                    exact .plain (e_index cx g1 g2 hcn hys hA h2 (isStar_of hns.1)) rfl
          · simp at h4
        · cases h3
      | _ => cases h
    · cases h
  | .listr a, X, W, sc, bor, e, cx, h => by
    simp only [chkE] at h
    split at h
    · simp only [Bool.and_eq_true] at h
      obtain ⟨⟨⟨h1, h2⟩, h3⟩, h4⟩ := h
      exact .plain (e_listr cx h1 h2 (sE a cx h3).pe (isStar_of h4)) rfl
    · cases h
  | .sortset a, X, W, sc, bor, e, cx, h => by simp only [chkE] at h; cases h
  | .listv a, X, W, sc, bor, e, cx, h => by simp only [chkE] at h; cases h
  | .minv a, X, W, sc, bor, e, cx, h => by simp only [chkE] at h; cases h
  | .maxv a, X, W, sc, bor, e, cx, h => by simp only [chkE] at h; cases h
  | .call id es, X, W, sc, bor, e, cx, h => by
    simp only [chkE] at h
    split at h
    · rename_i x p xs pos
      simp only [Bool.and_eq_true] at h
      obtain ⟨⟨⟨⟨h1, h2⟩, h3⟩, h4⟩, h5⟩ := h
      split at h3
      · rename_i hj
        simp only [Bool.and_eq_true, decide_eq_true_eq] at h3
        obtain ⟨rfl, h6⟩ := h3
        cases xs with
        | nil => cases h5
        | cons y ys => exact .plain (e_call cx h1 h2 hj h6 (sA es cx h4) (chkEs_noStar tb N es sc true _ h4)) rfl
      · cases h3
    · cases h
  | .call0 id, X, W, sc, bor, e, cx, h => by
    simp only [chkE] at h
    split at h
    · simp only [Bool.and_eq_true] at h
      obtain ⟨⟨h1, h2⟩, h3⟩ := h
      split at h3
      · rename_i hj
        simp only [Bool.and_eq_true, decide_eq_true_eq] at h3
        obtain ⟨rfl, h6⟩ := h3
        subst h6
        exact .plain (e_call0 cx h1 h2 hj) rfl
      · cases h3
    · cases h
  | .callv i ids es, X, W, sc, bor, e, cx, h => by
    simp only [chkE] at h
    split at h
    · rename_i x p xs pos
      simp only [Bool.and_eq_true, decide_eq_true_eq] at h
      obtain ⟨⟨⟨⟨⟨h1, h2⟩, h3⟩, h4⟩, h5⟩, h6⟩ := h
      cases xs with
      | nil => cases h6
      | cons y ys => exact .plain (e_callv cx h1 h2 h3 h4 (sA es cx h5) (chkEs_noStar tb N es sc true _ h5)) rfl
    · cases h
  | .rev a, X, W, sc, bor, e, cx, h => by
    simp only [chkE] at h
    split at h
    · exact .plain (e_rev (sE a cx h).pe) rfl
    · cases h
  | .dsel ks es k, X, W, sc, bor, e, cx, h => by
    simp only [chkE] at h
    split at h
    · rename_i keys vals dpos x pos
      simp only [Bool.and_eq_true, decide_eq_true_eq] at h
      obtain ⟨⟨⟨⟨⟨⟨⟨h1, h2⟩, h3⟩, h4⟩, h5⟩, h6⟩, h7⟩, h8⟩ := h
      have hk := keyB_all h1
      have hv := chkEs_len0 tb N es sc true vals h2
      refine .plain (e_dsel cx (sD es ks cx h5 h1 h2) (sE k cx h3).pe hk.1 (by rw [hk.2, hv, h5]) (fun z => ?_) (by rw [hk.2]; exact h6) (isStar_of h4) h5 h6 h7) rfl
      subst z
      have : ks = [] := List.length_eq_zero_iff.mp hk.2.symm
      rw [this] at h8; cases h8
    · cases h
theorem sD : ∀ (es : CEs) (ks : List Str) {X : Cx} {W : WX} {sc : Scope} {pos : Pos} {keys : List (Option Expr)} {vals : List Expr}, Cxt tb X W fa ca call n N sc → es.len = ks.length → keyB ks keys = true → chkEs tb N es sc true vals = true → PPs X pos keys vals (trsOf (gd X fa ca) W call ks es)
  | .nil, ks, X, W, sc, pos, keys, vals, cx, hl, hk, h => by
    simp only [chkEs] at h
    rw [any_nil h]
    cases ks with
    | cons _ _ => cases hl
    | nil =>
      cases keys with
      | cons _ _ => simp [keyB] at hk
      | nil => exact pps_nil
  | .cons e es, ks, X, W, sc, pos, keys, vals, cx, hl, hk, h => by
    simp only [chkEs] at h
    cases vals with
    | nil => cases h
    | cons x r =>
      simp only [Bool.and_eq_true] at h
      unfold keyB at hk
      split at hk
      · cases hl
      · rename_i k ks' y kk p es'
        simp only [Bool.and_eq_true, decide_eq_true_eq] at hk
        obtain ⟨rfl, hk⟩ := hk
        exact pps_cons pe_str (sE e cx h.1.1).pe (sD es ks' cx (Nat.succ.inj hl) hk h.2)
      · cases hk
theorem sA : ∀ (es : CEs) {X : Cx} {W : WX} {sc : Scope} {sh : Bool} {xs : List Expr}, Cxt tb X W fa ca call n N sc → chkEs tb N es sc sh xs = true → PA X xs (RA (gd X fa ca) sh W (dens es call))
  | .nil, X, W, sc, sh, xs, cx, h => by simp only [chkEs] at h; rw [any_nil h]; exact a_nil
  | .cons e es, X, W, sc, sh, xs, cx, h => by
    simp only [chkEs] at h
    cases xs with
    | nil => cases h
    | cons x r =>
      simp only [Bool.and_eq_true] at h
      exact a_cons (sE e cx h.1.1).pe (sA es cx h.2) (isStar_of h.1.2)
theorem sI : ∀ (it : CI) {X : Cx} {W : WX} {sc : Scope} {stm : Bool} {tg x : Expr}, Cxt tb X W fa ca call n N sc → chkI tb N it sc stm tg x = true → PI X tg x (RI (gd X fa ca) stm W (deni it call))
  | .val e, X, W, sc, stm, tg, x, cx, h => by simp only [chkI] at h; exact i_val (sE e cx h).pe
  | .range1 a, X, W, sc, stm, tg, x, cx, h => by
    simp only [chkI] at h
    split at h
    · simp only [Bool.and_eq_true] at h
      exact i_range1 cx h.1.1 (sE a cx h.1.2).pe (isStar_of h.2)
    · cases h
  | .range2 a b, X, W, sc, stm, tg, x, cx, h => by
    simp only [chkI] at h
    split at h
    · simp only [Bool.and_eq_true] at h
      obtain ⟨⟨⟨⟨h1, h2⟩, h3⟩, h4⟩, h5⟩ := h
      exact i_range2 cx h1 (sE a cx h2).pe (sE b cx h3).pe (isStar_of h4) (isStar_of h5)
    · cases h
  | .ranged a b, X, W, sc, stm, tg, x, cx, h => by
    simp only [chkI] at h
    split at h
    · simp only [Bool.and_eq_true] at h
      obtain ⟨⟨⟨⟨h1, h2⟩, h3⟩, h4⟩, h5⟩ := h
      exact i_ranged cx h1 (sE a cx h2).pe (sE b cx h3).pe (isStar_of h4) (isStar_of h5)
    · cases h
  | .enum a, X, W, sc, stm, tg, x, cx, h => by
    simp only [chkI] at h
    split at h
    · simp only [Bool.and_eq_true] at h
      obtain ⟨⟨⟨h1, h2⟩, h3⟩, h4⟩ := h
      exact i_enum cx h1 (sE a cx h2).pe (isStar_of h3) h4
    · cases h
  | .zip a b, X, W, sc, stm, tg, x, cx, h => by
    simp only [chkI] at h
    split at h
    · simp only [Bool.and_eq_true] at h
      obtain ⟨⟨⟨⟨⟨h1, h2⟩, h3⟩, h4⟩, h5⟩, h6⟩ := h
      exact i_zip cx h1 (sE a cx h2).pe (sE b cx h3).pe (isStar_of h4) (isStar_of h5) h6
    · cases h
end
end
end Z

set_option Elab.async false
set_option linter.all false
set_option autoImplicit false
set_option maxRecDepth 100000
set_option maxHeartbeats 1000000
/-! Z16: statements' readings. -/
namespace Z
open PySem L2

def Ext (F : Hp) (mu : List Addr) (F' : Hp) (mu' : List Addr) : Prop := Fle F F' ∧ mu <+: mu'
theorem Ext.refl {F : Hp} {mu : List Addr} : Ext F mu F mu := ⟨.refl, List.prefix_rfl⟩
theorem Ext.trans {F F1 F2 : Hp} {mu mu1 mu2 : List Addr} (a : Ext F mu F1 mu1) (b : Ext F1 mu1 F2 mu2) : Ext F mu F2 mu2 := ⟨a.1.trans b.1, a.2.trans b.2⟩
theorem Evo.ext {F F' H H' : Hp} {mu mu' : List Addr} (e : Evo F mu H F' mu' H') : Ext F mu F' mu' := ⟨e.le, e.pre⟩

/-- the entry of a def -/
structure Ent0 where
  F : Hp
  mu : List Addr
  H : Hp
/-- the state, and how it came from the entry -/
structure SE0 (g : Gd) (E : Ent0) (F : Hp) (mu : List Addr) (ρ : Env) (S : Sto) (σ : L2.St) (H : Hp) : Prop where
  sr : SR g E.H F mu ρ S σ H
  ev : Evo E.F E.mu E.H F mu H
def PostS (g : Gd) (W : WX) (E : Ent0) (F : Hp) (mu : List Addr) (D : Ends) (r : Fl) : Prop :=
  match r with
  | .nx ρ' S' => ∀ F' mu' σ' H', Ext F mu F' mu' → SE0 g E F' mu' ρ' S' σ' H' → D.nx σ' H'
  | .bk ρ' S' => ∀ F' mu' σ' H', Ext F mu F' mu' → SE0 g E F' mu' ρ' S' σ' H' → D.bk σ' H'
  | .ct ρ' S' => ∀ F' mu' σ' H', Ext F mu F' mu' → SE0 g E F' mu' ρ' S' σ' H' → D.ct σ' H'
  | .rt r S' => ∀ F' mu' v H', Gh g F' mu' S' H' → Evo E.F E.mu E.H F' mu' H' → RelR g F' mu' H' r v → New E.H r v → D.rt v H'
  | .ex x ρ' S' => ∀ F' mu' cls d σ' H', Ext F mu F' mu' → SE0 g E F' mu' ρ' S' σ' H' → ExR g F' mu' H' x cls d → W cls d σ' H'
  | .bad => False
def RS (g : Gd) (W : WX) (E : Ent0) (f : Env → Sto → Fl) : TS := fun D σ H => ∃ F mu ρ S, SE0 g E F mu ρ S σ H ∧ PostS g W E F mu D (f ρ S)
section
variable {g : Gd} {W : WX} {E : Ent0} {F F1 : Hp} {mu mu1 : List Addr} {DD : Ends} {σ : L2.St} {H H1 : Hp} {ρ : Env} {S : Sto} {r : Fl}
theorem PostS.ext (e : Ext F mu F1 mu1) (p : PostS g W E F mu DD r) : PostS g W E F1 mu1 DD r := by
  cases r with
  | nx _ _ => exact fun F' mu' σ' H' e' s => p F' mu' σ' H' (e.trans e') s
  | bk _ _ => exact fun F' mu' σ' H' e' s => p F' mu' σ' H' (e.trans e') s
  | ct _ _ => exact fun F' mu' σ' H' e' s => p F' mu' σ' H' (e.trans e') s
  | rt _ _ => exact p
  | ex _ _ _ => exact fun F' mu' cls d σ' H' e' s => p F' mu' cls d σ' H' (e.trans e') s
  | bad => exact p
theorem SE0.evo {S' : Sto} (s : SE0 g E F mu ρ S σ H) (e : Evo F mu H F1 mu1 H1) (gh : Gh g F1 mu1 S' H1) : SE0 g E F1 mu1 ρ S' σ H1 := ⟨s.sr.evo e gh, s.ev.trans e⟩
theorem PostS.px {x : Exn} {S' : Sto} (s : SE0 g E F mu ρ S σ H) (p : PostS g W E F mu DD (.ex x ρ S')) : PostX g W F mu σ H x S' := fun F' mu' cls d H' e gh r => p F' mu' cls d σ H' e.ext (s.evo e gh) r
/-- a value, then the rest -/
theorem RE.bindS {b1 : Bool} {f : Env → Sto → Res Rv} {k : Rv → Sto → Fl} (s : SE0 g E F mu ρ S σ H) (p : PostS g W E F mu DD ((f ρ S).fl ρ k)) :
    RE g b1 W f σ H (fun v H1 => ∃ F1 mu1 r S1, At g E.H F mu H ρ σ r S1 v F1 mu1 H1 ∧ SE0 g E F1 mu1 ρ S1 σ H1 ∧ (b1 = false → New H r v) ∧ PostS g W E F1 mu1 DD (k r S1)) := by
  refine ⟨E.H, F, mu, ρ, S, s.sr, ?_⟩
  cases e : f ρ S with
  | ok r S1 =>
    rw [e] at p
    exact fun F' mu' v H' e' gh rel n => ⟨F', mu', r, S1, ⟨e', s.sr.evo e' gh, rel⟩, s.evo e' gh, n, PostS.ext e'.ext p⟩
  | ex x S1 => rw [e] at p; exact PostS.px s p
  | bad => rw [e] at p; exact p
/-- a value to be shared -/
theorem RE.bindSh {f : Env → Sto → Res Rv} {k : Rv → Sto → Fl} (s : SE0 g E F mu ρ S σ H) (p : PostS g W E F mu DD ((f ρ S).fl ρ k)) :
    RE g false W f σ H (fun v H1 => ∃ F1 mu1 r S1, SE0 g E F1 mu1 ρ S1 σ H1 ∧ RelD g F1 mu1 r.shr v ∧ PostS g W E F1 mu1 DD (k r S1)) := by
  refine ⟨E.H, F, mu, ρ, S, s.sr, ?_⟩
  cases e : f ρ S with
  | ok r S1 =>
    rw [e] at p
    intro F' mu' v H' e' gh rel n
    obtain ⟨F2, ev, gh2, rel2, _, _⟩ := share e' gh rel (n rfl)
    exact ⟨F2, mu', r, S1, s.evo ev gh2, rel2, PostS.ext ev.ext p⟩
  | ex x S1 => rw [e] at p; exact PostS.px s p
  | bad => rw [e] at p; exact p
/-- a test, then the rest -/
theorem RT.bindS {f : Env → Sto → Res Rv} {k : Rv → Sto → Fl} (s : SE0 g E F mu ρ S σ H) (p : PostS g W E F mu DD ((f ρ S).fl ρ k)) (ht : ∀ r S1, (k r S1 ≠ .bad) → ∃ b, tru r S1 = some b) :
    RT g W f σ H (fun b H1 => ∃ F1 mu1 r S1, SE0 g E F1 mu1 ρ S1 σ H1 ∧ tru r S1 = some b ∧ PostS g W E F1 mu1 DD (k r S1)) := by
  refine ⟨E.H, F, mu, ρ, S, s.sr, ?_⟩
  cases e : f ρ S with
  | ok r S1 =>
    rw [e] at p
    have p' : PostS g W E F mu DD (k r S1) := p
    obtain ⟨b, hb⟩ := ht r S1 (fun z => by rw [z] at p'; exact p')
    exact ⟨b, hb, fun F' mu' H' e' gh => ⟨F', mu', r, S1, s.evo e' gh, hb, PostS.ext e'.ext p'⟩⟩
  | ex x S1 => rw [e] at p; exact PostS.px s p
  | bad => rw [e] at p; exact p
/-- arguments, then the rest -/
theorem RA.bindS {f : Env → Sto → Res (List Rv)} {k : List Rv → Sto → Fl} {sh : Bool} (s : SE0 g E F mu ρ S σ H) (p : PostS g W E F mu DD ((f ρ S).fl ρ k)) :
    RA g sh W f σ H (fun vs H1 => ∃ F1 mu1 rs S1, Evo F mu H F1 mu1 H1 ∧ SE0 g E F1 mu1 ρ S1 σ H1 ∧ RelA g sh F1 mu1 H1 rs vs ∧ PostS g W E F1 mu1 DD (k rs S1)) := by
  refine ⟨E.H, F, mu, ρ, S, s.sr, ?_⟩
  cases e : f ρ S with
  | ok r S1 =>
    rw [e] at p
    exact fun F' mu' v H' e' gh rel => ⟨F', mu', r, S1, e', s.evo e' gh, rel, PostS.ext e'.ext p⟩
  | ex x S1 => rw [e] at p; exact PostS.px s p
  | bad => rw [e] at p; exact p
/-- what to walk, then the rest -/
theorem RI.bindS {f : Env → Sto → Res (List D)} {k : List D → Sto → Fl} (s : SE0 g E F mu ρ S σ H) (p : PostS g W E F mu DD ((f ρ S).fl ρ k)) :
    RI g true W f σ H (fun J H1 => ∃ F1 mu1 ds S1 rs vs, SE0 g E F1 mu1 ρ S1 σ H1 ∧ Paired (RelR g F1 mu1 H1) rs vs ∧ AllSh rs ∧ ItS g F1 mu1 J rs vs ds ∧ PostS g W E F1 mu1 DD (k ds S1)) := by
  refine ⟨E.H, F, mu, ρ, S, s.sr, ?_⟩
  cases e : f ρ S with
  | ok ds S1 =>
    rw [e] at p
    exact fun F' mu' J H' rs vs e' gh rel al its => ⟨F', mu', ds, S1, rs, vs, s.evo e' gh, rel, al rfl, its, PostS.ext e'.ext p⟩
  | ex x S1 => rw [e] at p; exact PostS.px s p
  | bad => rw [e] at p; exact p

/-! ### slots -/
theorem SE0.setSh {i : Nat} {d : D} {v : V} (s : SE0 g E F mu ρ S σ H) (r : RelD g F mu d v) : SE0 g E F mu (ρ.set i (some (.sh d))) S (σ.set i (some v)) H := ⟨s.sr.setSh r, s.ev⟩
theorem SE0.kill (s : SE0 g E F mu ρ S σ H) (ks : List Nat) : SE0 g E F mu (killL ρ ks) S σ H := ⟨s.sr.kill ks, s.ev⟩
theorem own_there {s : Option Rv} {o : Option V} {Zh : Hp} (h : SlR g F mu H Zh s o) (e : own s = true) : ∃ a, o = some (.ref a) ∧ H a ≠ none := by
  cases s with
  | none => cases e
  | some r =>
    obtain ⟨v, rfl, rel, _⟩ := h
    cases r with
    | sh _ => cases e
    | nl _ => obtain ⟨a, xs, rfl, h1, _⟩ := rel; exact ⟨a, rfl, by rw [h1]; simp⟩
    | nd _ => obtain ⟨a, xs, rfl, h1, _⟩ := rel; exact ⟨a, rfl, by rw [h1]; simp⟩
/-- a slot takes a value that is new since Hs -/
theorem SE0.setO {i : Nat} {r : Rv} {v : V} {Fs Hs : Hp} {mus : List Addr} {Ss : Sto} (s0 : SE0 g E Fs mus ρ Ss σ Hs) (s : SE0 g E F mu ρ S σ H) (rel : RelR g F mu H r v) (n : New Hs r v) : SE0 g E F mu (ρ.set i (some r)) S (σ.set i (some v)) H := by
  refine ⟨s.sr.set ⟨v, rfl, rel, n.mono s0.ev⟩ fun ho j t hj ht hot e => ?_, s.ev⟩
  obtain ⟨a, ea, ha⟩ := own_there (s0.sr.sl j t _ ht e) hot
  cases ea
  cases r with
  | sh _ => cases ho
  | nl _ => exact ha (n a rfl)
  | nd _ => exact ha (n a rfl)
theorem getV_get {i : Nat} {r : Rv} (e : getV ρ i = some r) : ρ[i]? = some (some r) := by
  unfold getV at e
  split at e
  · cases e; assumption
  · cases e
/-- the thing at a, held by slot i alone, is changed -/
theorem SE0.mut {i : Nat} {r r' : Rv} {a : Addr} {o : HO} (s : SE0 g E F mu ρ S σ H) (e : getV ρ i = some r) (ho : own (some r) = true) (hσ : σ[i]? = some (some (.ref a))) (hf : F a = none) (hm : a ∉ mu) (hn : E.H a = none) (rel : RelR g F mu (upd H a o) r' (.ref a)) :
    SE0 g E F mu (ρ.set i (some r')) S σ (upd H a o) := by
  have ei := getV_get e
  refine ⟨⟨gh_upd s.sr.gh hf hm, by rw [List.length_set]; exact s.sr.len, fun j t w hj hw => ?_, fun j k t u hjk hj hk h1 h2 => ?_⟩, ev_upd s.ev hn⟩
  · by_cases hij : i = j
    · subst hij
      rw [List.getElem?_set_self (by exact (List.getElem?_eq_some_iff.mp ei).1)] at hj
      cases hj
      rw [hσ] at hw
      cases hw
      refine ⟨_, rfl, rel, ?_⟩
      cases r' with
      | sh _ => exact trivial
      | nl _ => intro b hb; cases hb; exact hn
      | nd _ => intro b hb; cases hb; exact hn
    · rw [List.getElem?_set_ne hij] at hj
      have q := s.sr.sl j t w hj hw
      cases t with
      | none => exact trivial
      | some t =>
        obtain ⟨v, rfl, q1, q2⟩ := q
        refine ⟨v, rfl, ?_, q2⟩
        cases t with
        | sh d => exact q1
        | nl ds =>
          obtain ⟨b, xs, rfl, b1, b2, b3, b4⟩ := q1
          exact ⟨b, xs, rfl, by rw [upd_ne (fun z => s.sr.dis i j _ _ hij ei hj ho rfl (by rw [hσ, hw, z]))]; exact b1, b2, b3, b4⟩
        | nd ds =>
          obtain ⟨b, xs, rfl, b1, b2, b3, b4⟩ := q1
          exact ⟨b, xs, rfl, by rw [upd_ne (fun z => s.sr.dis i j _ _ hij ei hj ho rfl (by rw [hσ, hw, z]))]; exact b1, b2, b3, b4⟩
  · have fix : ∀ {j : Nat} {t : Option Rv}, (ρ.set i (some r'))[j]? = some t → own t = true → ∃ t', ρ[j]? = some t' ∧ own t' = true := fun {j t} hj h1 => by
      by_cases hij : i = j
      · subst hij; exact ⟨_, ei, ho⟩
      · rw [List.getElem?_set_ne hij] at hj; exact ⟨t, hj, h1⟩
    obtain ⟨t', q1, q2⟩ := fix hj h1
    obtain ⟨u', q3, q4⟩ := fix hk h2
    exact s.sr.dis j k t' u' hjk q1 q3 q2 q4
/-- an object of the store is changed -/
theorem SE0.sto {m : Nat} {a : Addr} {mo : MO} {o : HO} (s : SE0 g E F mu ρ S σ H) (hm : mu[m]? = some a) (hr : MoR g F mu (upd H a o) mo a) : SE0 g E F mu ρ (S.set m mo) σ (upd H a o) := by
  have hmem : a ∈ mu := List.mem_of_getElem? hm
  have hF : F a = none := s.sr.gh.nofr hmem
  have gh' : Gh g F mu (S.set m mo) (upd H a o) := by
    refine ⟨fun b u h => by rw [upd_ne (fun z => by rw [z, hF] at h; cases h)]; exact s.sr.gh.sub b u h, s.sr.gh.nd, by rw [List.length_set]; exact s.sr.gh.len, fun i b n h1 h2 => ?_⟩
    by_cases hi : m = i
    · subst hi
      rw [hm] at h1; cases h1
      have hlt : m < S.length := by rw [← s.sr.gh.len]; exact (List.getElem?_eq_some_iff.mp hm).1
      rw [List.getElem?_set_self hlt] at h2; cases h2
      exact ⟨hF, hr⟩
    · rw [List.getElem?_set_ne hi] at h2
      obtain ⟨q1, q2⟩ := s.sr.gh.at_ i b n h1 h2
      refine ⟨q1, moR_upd q2 fun z => hi ?_⟩
      subst z
      have l1 := (List.getElem?_eq_some_iff.mp hm)
      have l2 := (List.getElem?_eq_some_iff.mp h1)
      obtain ⟨x1, y1⟩ := l1
      obtain ⟨x2, y2⟩ := l2
      rcases Nat.lt_trichotomy m i with q | q | q
      · exact absurd (y1.trans y2.symm) (List.pairwise_iff_getElem.mp s.sr.gh.nd m i x1 x2 q)
      · exact q
      · exact absurd (y2.trans y1.symm) (List.pairwise_iff_getElem.mp s.sr.gh.nd i m x2 x1 q)
  refine ⟨⟨gh', s.sr.len, fun j t w hj hw => ?_, s.sr.dis⟩, ⟨fun b u h n f => ?_, fun b h => ?_, s.ev.froz, s.ev.le, s.ev.pre, s.ev.fresh⟩⟩
  · have q := s.sr.sl j t w hj hw
    cases t with
    | none => exact trivial
    | some t =>
      obtain ⟨v, rfl, q1, q2⟩ := q
      refine ⟨v, rfl, ?_, q2⟩
      cases t with
      | sh d => exact q1
      | nl ds =>
        obtain ⟨b, xs, rfl, b1, b2, b3, b4⟩ := q1
        exact ⟨b, xs, rfl, by rw [upd_ne (fun (z : b = a) => b3 (by rw [z]; exact hmem))]; exact b1, b2, b3, b4⟩
      | nd ds =>
        obtain ⟨b, xs, rfl, b1, b2, b3, b4⟩ := q1
        exact ⟨b, xs, rfl, by rw [upd_ne (fun (z : b = a) => b3 (by rw [z]; exact hmem))]; exact b1, b2, b3, b4⟩
  · by_cases z : b = a
    · subst z
      rcases s.ev.fresh b hmem with q | q
      · exact absurd q n
      · rw [q] at h; cases h
    · rw [upd_ne z]; exact s.ev.keep b u h n f
  · by_cases z : b = a
    · subst z; rw [upd_same]; simp
    · rw [upd_ne z]; exact s.ev.dom b h
end
end Z

set_option Elab.async false
set_option linter.all false
set_option autoImplicit false
set_option maxRecDepth 100000
set_option maxHeartbeats 1000000
/-! Z17: statements, each by its rule. -/
namespace Z
open PySem L2

def isComp : Expr → Bool
  | .ListComp _ _ _ _ => true
  | .SetComp _ _ _ _ => true
  | .DictComp _ _ _ _ _ => true
  | _ => false
/-- a statement's context -/
structure Cxs (tb : Tb) (X : Cx) (W : WX) (fa ca : Nat → Addr) (call : Call) (n : Nat) (N : List Str) (sc : Scope) : Prop where
  cx : Cxt tb X W fa ca call n N sc
  po : PassesOwn (model X.prog X.w) X.A X.env X.xe
  stk : X.stack = X.env :: X.outer
  fr : X.env.frame = some X.env.locals
  fn : ∀ x, X.fn x = true
  kind : sc.kind = .function
theorem Cxs.loc {tb : Tb} {X : Cx} {W : WX} {fa ca : Nat → Addr} {call : Call} {n : Nat} {N : List Str} {sc : Scope} (c : Cxs tb X W fa ca call n N sc) : gLoc X sc := fun x h => by
  rw [show Loc X.env.scope x = Loc sc x by rw [c.cx.hsc]]
  exact ⟨h, .inl (c.fn x)⟩
theorem noSwap {v : Expr} {t : Option Expr} {l : Nat} {env : PySem.Env} (h : isComp v = false) : swapsWith v t l env = pure false := by cases v <;> first | rfl | cases h
theorem noSwap3 {v a b : Expr} {p : Pos} {l : Nat} {env : PySem.Env} : swapsWith v (some (.Subscript a b p)) l env = pure false := by cases v <;> rfl
theorem noSwap2 {v : Expr} {x : Str} {px : Pos} {l : Nat} {env : PySem.Env} (h : (px.line == v.pos.line) = false) : swapsWith v (some (.Name x px)) l env = pure false := by
  cases v <;> first | rfl | (unfold swapsWith; simp only [h, Bool.and_false, Bool.false_and]; done) | (unfold swapsWith; simp only [h, Bool.and_false, Bool.false_and]; rfl)
section
variable {tb : Tb} {X : Cx} {W : WX} {fa ca : Nat → Addr} {call : Call} {n : Nat} {N : List Str} {sc : Scope} {E : Ent0}
theorem s_set (c : Cxs tb X W fa ca call n N sc) {i : Nat} {x : Str} {px pos : Pos} {v : Expr} {e : CE} (hg : gN N sc i (.Name x px) = true) (he : PE X v (RE (gd X fa ca) false W (den e call))) (hs : swapsWith v (some (.Name x px)) pos.line X.env = pure false) :
    PS X (.Assign [.Name x px] v pos) (tAsg (RE (gd X fa ca) false W (den e call)) (gName i)) := by
  obtain ⟨y, p, ey, h1, h2⟩ := gN_of hg
  cases ey
  obtain ⟨h3, h4⟩ := c.loc x h2
  exact ps_set (by rw [c.cx.hN]; exact c.cx.nd) (by rw [c.cx.hN]; exact h1) h3 he hs h4
theorem r_set {i : Nat} {e : CE} (D : Ends) (σ : L2.St) (H : Hp) (q : RS (gd X fa ca) W E (denS (.set i e) call) D σ H) : tAsg (RE (gd X fa ca) false W (den e call)) (gName i) D σ H := by
  obtain ⟨F, mu, ρ, S, s, p⟩ := q
  simp only [denS] at p
  exact RE.mono (fun v H1 ⟨F1, mu1, r, S1, s1, rel, p1⟩ => p1 F1 mu1 _ H1 .refl (s1.setSh rel)) (RE.bindSh s p)
theorem r_setO {i : Nat} {e : CE} (D : Ends) (σ : L2.St) (H : Hp) (q : RS (gd X fa ca) W E (denS (.setO i e) call) D σ H) : tAsg (RE (gd X fa ca) false W (den e call)) (gName i) D σ H := by
  obtain ⟨F, mu, ρ, S, s, p⟩ := q
  simp only [denS] at p
  exact RE.mono (fun v H1 ⟨F1, mu1, r, S1, a1, s1, nw, p1⟩ => p1 F1 mu1 _ H1 .refl (s.setO s1 a1.rel (nw rfl))) (RE.bindS s p)
/-- .. a comprehension on its name's line -/
theorem s_setLc (c : Cxs tb X W fa ca call n N sc) {i : Nat} {y : Str} {py spos : Pos} {tg iter elt : Expr} {ifs : List Expr} {scope : Scope} {pos : Pos} {it : CI} {g : CG} {ws : List Nat} {t f : CE} {tt : TT}
    (hy : N[i]? = some y) (hyl : sc.names.lookup y = some .local) (hl : (py.line == pos.line) = true) (ha : (scope.names.any fun (n, k) => n == y && (k == .local || k == .cell)) = false)
    (hi : PI X tg iter (RI (gd X fa ca) false W (deni it call))) (hb : blkC N sc scope (ownOf N ws) = true) (hg : chkG N scope g tg = true) (hgs : ∀ i ∈ g.slots, i ∈ ws)
    (ht : ∀ (s : Shared) (H : Hp) (C : Addr) (cl : List (Str × Addr)) (fp : List Addr), PTs (X.blk s H scope (compEnvC scope cl C X.env) fp) ifs tt) (htt : ∀ σ H Q, RT (gd X fa ca) W0 (den t call) σ H Q → tt σ H Q)
    (hf : ∀ (s : Shared) (H : Hp) (C : Addr) (cl : List (Str × Addr)) (fp : List Addr), PE (X.blk s H scope (compEnvC scope cl C X.env) fp) elt (RE (gd X fa ca) false W0 (den f call))) (hs : isSet iter = false) :
    PS X (.Assign [.Name y py] (.ListComp elt [⟨tg, iter, ifs, 0⟩] scope pos) spos) (tAsg (RE (gd X fa ca) false W (den (.comp it g ws t f) call)) (gName i)) := by
  have cx := c.cx
  have hyl' : X.env.scope.names.lookup y = some .local := by rw [cx.hsc]; exact hyl
  have h := ps_setLc (pos := pos) (spos := spos) (py := py) (i := i) (y := y) (own := ownOf N ws) (g := tgT X.K g) cx.calm (by rw [cx.hN]; exact cx.nd) (by rw [cx.hN]; exact hy) hyl' (sw_true (by rw [cx.hsc]; exact c.kind) hyl' hl ha) hi (by rw [cx.hN, cx.hsc]; exact blkOk_by hb)
    (fun s H C cl fp => pg_of (cx.blk s H scope C cl fp).hN cx.nd cx.calm (gLoc_blk cx s H scope C cl fp) hg) ht hf (noFold hs)
  rw [own_ws] at h
  exact PS.weak h fun D σ H q => e_comp_core hgs (fun _ _ _ z => z) htt (fun _ _ _ z => z) σ H _ q
theorem s_exp (c : Cxs tb X W fa ca call n N sc) {v : Expr} {e : CE} {pos : Pos} (he : PE X v (RE (gd X fa ca) true W (den e call))) (hc : isComp v = false) : PS X (.Expr v pos) (RS (gd X fa ca) W E (denS (.exp e) call)) := by
  refine PS.weak (ps_expr he (noSwap hc)) fun D σ H ⟨F, mu, ρ, S, s, p⟩ => ?_
  simp only [denS] at p
  exact RE.mono (fun v H1 ⟨F1, mu1, r, S1, a1, s1, nw, p1⟩ => p1 F1 mu1 _ H1 .refl s1) (RE.bindS s p)
theorem s_ret (c : Cxs tb X W fa ca call n N sc) {v : Expr} {e : CE} {pos : Pos} (he : PE X v (RE (gd X fa ca) false W (den e call))) : PS X (.Return (some v) pos) (RS (gd X fa ca) W E (denS (.ret e) call)) := by
  refine PS.weak (ps_ret he) fun D σ H ⟨F, mu, ρ, S, s, p⟩ => ?_
  simp only [denS] at p
  exact RE.mono (fun v H1 ⟨F1, mu1, r, S1, a1, s1, nw, p1⟩ => p1 F1 mu1 v H1 s1.sr.gh s1.ev a1.rel ((nw rfl).mono s.ev)) (RE.bindS s p)
theorem s_retv (c : Cxs tb X W fa ca call n N sc) {i : Nat} {x : Str} {px pos : Pos} (hN : N[i]? = some x) (hv : visB sc x = true) (hm : nmB x = true) : PS X (.Return (some (.Name x px)) pos) (RS (gd X fa ca) W E (denS (.retv i) call)) := by
  obtain ⟨h1, h2, _⟩ := nm_of hm
  refine PS.weak (ps_ret (pe_var (i := i) (by rw [c.cx.hN]; exact hN) (by rw [c.cx.hsc]; exact vis_of hv) h1 h2)) fun D σ H ⟨F, mu, ρ, S, s, p⟩ => ?_
  simp only [denS] at p
  cases e : getV ρ i with
  | none => rw [e] at p; exact p.elim
  | some r =>
    rw [e] at p
    obtain ⟨v, h3, h4, h5⟩ := s.sr.get e
    exact ⟨v, h3, p F mu v H s.sr.gh s.ev h4 h5⟩
theorem s_retN {pos : Pos} : PS X (.Return none pos) (RS (gd X fa ca) W E (denS .retN call)) := by
  refine PS.weak ps_retN fun D σ H ⟨F, mu, ρ, S, s, p⟩ => ?_
  simp only [denS] at p
  exact p F mu .non H s.sr.gh s.ev .non trivial
theorem s_pass {pos : Pos} : PS X (.Pass pos) (RS (gd X fa ca) W E (denS .pass call)) := PS.weak ps_pass fun D σ H ⟨F, mu, ρ, S, s, p⟩ => by simp only [denS] at p; exact p F mu σ H .refl s
theorem s_brk {pos : Pos} : PS X (.Break pos) (RS (gd X fa ca) W E (denS .brk call)) := PS.weak ps_break fun D σ H ⟨F, mu, ρ, S, s, p⟩ => by simp only [denS] at p; exact p F mu σ H .refl s
theorem s_cont {pos : Pos} : PS X (.Continue pos) (RS (gd X fa ca) W E (denS .cont call)) := PS.weak ps_continue fun D σ H ⟨F, mu, ρ, S, s, p⟩ => by simp only [denS] at p; exact p F mu σ H .refl s
theorem s_ite {t : Expr} {a b : List Stmt} {ct : CE} {ca' cb : CSs} {pos : Pos} (ht : PT X t (RT (gd X fa ca) W (den ct call))) (ha : PSs X a (RS (gd X fa ca) W E (denSs ca' call))) (hb : PSs X b (RS (gd X fa ca) W E (denSs cb call))) : PS X (.If t a b pos) (RS (gd X fa ca) W E (denS (.ite ct ca' cb) call)) := by
  refine PS.weak (ps_if ht ha hb) fun D σ H ⟨F, mu, ρ, S, s, p⟩ => ?_
  simp only [denS] at p
  refine RT.mono (fun b H1 ⟨F1, mu1, r1, S1, s1, hb, p1⟩ => ?_) (RT.bindS s p fun r S1 hne => ?_)
  · cases h : tru r S1 with
    | none => rw [h] at hne; exact absurd rfl hne
    | some b => exact ⟨b, rfl⟩
  · rw [hb] at p1
    cases b with
    | true => exact ⟨F1, mu1, ρ, S1, s1, p1⟩
    | false => exact ⟨F1, mu1, ρ, S1, s1, p1⟩
theorem s_raise (c : Cxs tb X W fa ca call n N sc) {k : Nat} {x m : Str} {j : Nat} {p p2 p3 pos : Pos} (h1 : glB sc x = true) (h2 : nmB x = true) (hk : tb.ecs[k]? = some x) :
    PS X (.Raise (some (.Call (.Name x p) [.Constant (.str m) j p2] [] p3)) none pos) (RS (gd X fa ca) W E (denS (.raise k) call)) := by
  obtain ⟨g1, g2, g3, g4⟩ := c.cx.ecs k x hk
  refine PS.weak (ps_raise c.cx.calm c.cx.tk (pmk_own PySem.F.excBase_ValueError g4 g1 g2 g3 (show X.env.scope.names.lookup x = _ by rw [c.cx.hsc]; exact glo_of h1) (nm_of h2).1)) fun D σ H ⟨F, mu, ρ, S, s, p⟩ => ?_
  simp only [denS] at p
  exact p F mu (.ref (ca k)) none σ H .refl s ⟨rfl, rfl⟩
/-- one after another -/
theorem ss_nil : PSs X [] (RS (gd X fa ca) W E (denSs .nil call)) := PSs.weak pss_nil fun D σ H ⟨F, mu, ρ, S, s, p⟩ => by simp only [denSs] at p; exact p F mu σ H .refl s
theorem PostS.seq {g : Gd} {F : Hp} {mu : List Addr} {D : Ends} {r : Fl} {k : Env → Sto → Fl} (p : PostS g W E F mu D (match r with | .nx ρ' S' => k ρ' S' | f => f)) : PostS g W E F mu { D with nx := fun σ H => RS g W E k D σ H } r := by
  cases r with
  | nx ρ' S' => exact fun F' mu' σ' H' e s => ⟨F', mu', ρ', S', s, PostS.ext e p⟩
  | bk _ _ => exact p
  | ct _ _ => exact p
  | rt _ _ => exact p
  | ex _ _ _ => exact p
  | bad => exact p
theorem ss_cons {st : Stmt} {r : List Stmt} {a : CS} {b : CSs} (h1 : PS X st (RS (gd X fa ca) W E (denS a call))) (h2 : PSs X r (RS (gd X fa ca) W E (denSs b call))) : PSs X (st :: r) (RS (gd X fa ca) W E (denSs (.cons a b) call)) := by
  refine PSs.weak (pss_cons h1 h2) fun D σ H ⟨F, mu, ρ, S, s, p⟩ => ?_
  simp only [denSs] at p
  exact ⟨F, mu, ρ, S, s, PostS.seq p⟩
theorem SE0.frz {g : Gd} {F : Hp} {mu : List Addr} {ρ : Env} {S : Sto} {σ : L2.St} {H : Hp} {i : Nat} {r : Rv} (s : SE0 g E F mu ρ S σ H) (e : getV ρ i = some r) (ho : own (some r) = true) : ∃ F', Ext F mu F' mu ∧ SE0 g E F' mu (ρ.set i (some (.sh r.shr))) S σ H := by
  obtain ⟨v, hσ, rel, nw⟩ := s.sr.get e
  obtain ⟨F', gh', rel', sub, same, oth⟩ := freeze s.sr.gh rel nw
  have ei := getV_get e
  refine ⟨F', ⟨sub.le, List.prefix_rfl⟩, ⟨gh', by rw [List.length_set]; exact s.sr.len, fun j t w hj hw => ?_, fun j k t u hjk hj hk h1 h2 => ?_⟩, ⟨s.ev.keep, s.ev.dom, fun a h1 h2 => by rw [same a h1]; exact s.ev.froz a h1 h2, s.ev.le.trans sub.le, s.ev.pre, s.ev.fresh⟩⟩
  · by_cases hij : i = j
    · subst hij
      rw [List.getElem?_set_self (by exact (List.getElem?_eq_some_iff.mp ei).1)] at hj
      cases hj
      rw [hσ] at hw
      cases hw
      exact ⟨v, rfl, rel', trivial⟩
    · rw [List.getElem?_set_ne hij] at hj
      have q := s.sr.sl j t w hj hw
      cases t with
      | none => exact trivial
      | some t =>
        obtain ⟨u, rfl, q1, q2⟩ := q
        refine ⟨u, rfl, ?_, q2⟩
        cases t with
        | sh d => exact RelD.mono sub.le List.prefix_rfl q1
        | nl ds =>
          obtain ⟨b, xs, rfl, b1, b2, b3, b4⟩ := q1
          refine ⟨b, xs, rfl, b1, ?_, b3, b4.mono sub.le List.prefix_rfl⟩
          rw [oth b (fun z => s.sr.dis i j _ _ hij ei hj ho rfl (by rw [hσ, hw, z]))]; exact b2
        | nd ds =>
          obtain ⟨b, xs, rfl, b1, b2, b3, b4⟩ := q1
          refine ⟨b, xs, rfl, b1, ?_, b3, b4.mono sub.le List.prefix_rfl⟩
          rw [oth b (fun z => s.sr.dis i j _ _ hij ei hj ho rfl (by rw [hσ, hw, z]))]; exact b2
  · have fix : ∀ {j : Nat} {t : Option Rv}, (ρ.set i (some (.sh r.shr)))[j]? = some t → own t = true → j ≠ i ∧ ρ[j]? = some t := fun {j t} hj h1 => by
      by_cases hij : i = j
      · subst hij
        rw [List.getElem?_set_self (by exact (List.getElem?_eq_some_iff.mp ei).1)] at hj
        cases hj; cases h1
      · rw [List.getElem?_set_ne hij] at hj; exact ⟨fun z => hij z.symm, hj⟩
    exact s.sr.dis j k t u hjk (fix hj h1).2 (fix hk h2).2 h1 h2
theorem ss_frz {r : List Stmt} {i : Nat} {b : CSs} (h2 : PSs X r (RS (gd X fa ca) W E (denSs b call))) : PSs X r (RS (gd X fa ca) W E (denSs (.frz i b) call)) := by
  refine PSs.weak h2 fun D σ H ⟨F, mu, ρ, S, s, p⟩ => ?_
  simp only [denSs] at p
  cases e : getV ρ i with
  | none => rw [e] at p; exact ⟨F, mu, ρ, S, s, p⟩
  | some r =>
    rw [e] at p
    have fin : ∃ F', Ext F mu F' mu ∧ SE0 (gd X fa ca) E F' mu (ρ.set i (some (.sh r.shr))) S σ H := by
      cases r with
      | sh d =>
        have ei := getV_get e
        have q : ρ.set i (some (.sh d)) = ρ := by
          refine List.ext_getElem? fun j => ?_
          by_cases hij : i = j
          · subst hij; rw [List.getElem?_set_self (by exact (List.getElem?_eq_some_iff.mp ei).1), ei]
          · rw [List.getElem?_set_ne hij]
        exact ⟨F, .refl, by rw [show (Rv.sh d).shr = d from rfl, q]; exact s⟩
      | nl _ => exact s.frz e rfl
      | nd _ => exact s.frz e rfl
    obtain ⟨F', ex, s'⟩ := fin
    exact ⟨F', mu, _, S, s', PostS.ext ex p⟩
/-- a list of one's own goes into the store -/
theorem SE0.keep {g : Gd} {F : Hp} {mu : List Addr} {ρ : Env} {S : Sto} {σ : L2.St} {H : Hp} {i : Nat} {ds : List D} (s : SE0 g E F mu ρ S σ H) (e : getV ρ i = some (.nl ds)) : ∃ a, Ext F mu F (mu ++ [a]) ∧ SE0 g E F (mu ++ [a]) (ρ.set i (some (.sh (.ref S.length)))) (S ++ [.lst ds]) σ H := by
  obtain ⟨v, hσ, rel, nw⟩ := s.sr.get e
  obtain ⟨a, xs, rfl, a1, a2, a3, a4⟩ := rel
  have ei := getV_get e
  have pre : mu <+: mu ++ [a] := List.prefix_append _ _
  have hlen := s.sr.gh.len
  refine ⟨a, ⟨.refl, pre⟩, ⟨⟨s.sr.gh.sub, List.nodup_append.mpr ⟨s.sr.gh.nd, List.pairwise_singleton _ _, fun x hx y hy z => a3 (by rw [← List.mem_singleton.mp hy, ← z]; exact hx)⟩, by simp [hlen], fun j b m h1 h2 => ?_⟩, by rw [List.length_set]; exact s.sr.len, fun j t w hj hw => ?_, fun j k t u hjk hj hk h1 h2 => ?_⟩,
    ⟨s.ev.keep, s.ev.dom, s.ev.froz, s.ev.le, s.ev.pre.trans pre, fun b hb => ?_⟩⟩
  · by_cases hj : j < mu.length
    · rw [List.getElem?_append_left hj] at h1
      rw [List.getElem?_append_left (by omega)] at h2
      obtain ⟨q1, q2⟩ := s.sr.gh.at_ j b m h1 h2
      exact ⟨q1, q2.mono .refl pre rfl⟩
    · rw [List.getElem?_append_right (by omega)] at h1
      rw [List.getElem?_append_right (by omega)] at h2
      have e1 : j - mu.length = 0 := by
        have := (List.getElem?_eq_some_iff.mp h1).1
        simp at this; omega
      rw [e1] at h1
      rw [show j - S.length = 0 by omega] at h2
      simp at h1 h2
      subst h1 h2
      exact ⟨a2, xs, a1, a4.mono .refl pre⟩
  · by_cases hij : i = j
    · subst hij
      rw [List.getElem?_set_self (by exact (List.getElem?_eq_some_iff.mp ei).1)] at hj
      cases hj
      rw [hσ] at hw
      cases hw
      exact ⟨_, rfl, .ref (by rw [← hlen, List.getElem?_append_right (Nat.le_refl _)]; simp), trivial⟩
    · rw [List.getElem?_set_ne hij] at hj
      have q := s.sr.sl j t w hj hw
      cases t with
      | none => exact trivial
      | some t =>
        obtain ⟨u, rfl, q1, q2⟩ := q
        refine ⟨u, rfl, ?_, q2⟩
        cases t with
        | sh d => exact RelD.mono .refl pre q1
        | nl es =>
          obtain ⟨b, ys, rfl, b1, b2, b3, b4⟩ := q1
          refine ⟨b, ys, rfl, b1, b2, fun z => ?_, b4.mono .refl pre⟩
          rcases List.mem_append.mp z with z | z
          · exact b3 z
          · exact s.sr.dis i j _ _ hij ei hj rfl rfl (by rw [hσ, hw, List.mem_singleton.mp z])
        | nd es =>
          obtain ⟨b, ys, rfl, b1, b2, b3, b4⟩ := q1
          refine ⟨b, ys, rfl, b1, b2, fun z => ?_, b4.mono .refl pre⟩
          rcases List.mem_append.mp z with z | z
          · exact b3 z
          · exact s.sr.dis i j _ _ hij ei hj rfl rfl (by rw [hσ, hw, List.mem_singleton.mp z])
  · have fix : ∀ {j : Nat} {t : Option Rv}, (ρ.set i (some (.sh (.ref S.length))))[j]? = some t → own t = true → j ≠ i ∧ ρ[j]? = some t := fun {j t} hj h1 => by
      by_cases hij : i = j
      · subst hij
        rw [List.getElem?_set_self (by exact (List.getElem?_eq_some_iff.mp ei).1)] at hj
        cases hj; cases h1
      · rw [List.getElem?_set_ne hij] at hj; exact ⟨fun z => hij z.symm, hj⟩
    exact s.sr.dis j k t u hjk (fix hj h1).2 (fix hk h2).2 h1 h2
  · rcases List.mem_append.mp hb with hb | hb
    · exact s.ev.fresh b hb
    · rw [List.mem_singleton.mp hb]; exact .inr (nw a rfl)
theorem ss_sto {r : List Stmt} {i : Nat} {b : CSs} (h2 : PSs X r (RS (gd X fa ca) W E (denSs b call))) : PSs X r (RS (gd X fa ca) W E (denSs (.sto i b) call)) := by
  refine PSs.weak h2 fun D σ H ⟨F, mu, ρ, S, s, p⟩ => ?_
  simp only [denSs] at p
  split at p
  · rename_i ds e
    obtain ⟨a, ex, s'⟩ := s.keep e
    exact ⟨F, mu ++ [a], _, _, s', PostS.ext ex p⟩
  · exact p.elim
end
end Z

set_option Elab.async false
set_option linter.all false
set_option autoImplicit false
set_option maxRecDepth 100000
set_option maxHeartbeats 1000000
/-! Z18: statements with targets, loops, try. -/
namespace Z
open PySem L2

/-! ### several names at once -/
def nm1 (sc : Scope) (line : Nat) : Expr → Option Str
  | .Name id pos => if sc.names.lookup id == some .local && pos.line == line then some id else none
  | _ => none
def nmL (sc : Scope) (ts : List Expr) : List Str := ts.filterMap (nm1 sc ((ts.head?.map (·.pos.line)).getD 0))
def swN (sc : Scope) (ts vs : List Expr) : Option (Option (List Str)) :=
  if (!(ts.length == 2 || ts.length == 3) || vs.length != ts.length) = true then some none else
  if vs.any isStar = true then some none else
  if ((nmL sc ts).length != ts.length || (nmL sc ts).eraseDups.length != (nmL sc ts).length) = true then some none else
  if vs.all (foldedForSure 8) = true then some none else
  if vs.all (constantsAlone 8) = true then none else some (some (nmL sc ts))
theorem swN_ok {ts vs : List Expr} {k k2 : Nat} {p p2 : Pos} {env : PySem.Env} {r : Option (List Str)} (hk : env.scope.kind = .function) (h : swN env.scope ts vs = some r) : swappedStores [.Tuple ts k p] (.Tuple vs k2 p2) env = pure r := by
  have hb : (env.blockKind != .function) = false := by unfold PySem.Env.blockKind; rw [hk]; rfl
  have main : swappedStores [.Tuple ts k p] (.Tuple vs k2 p2) env =
    (if ((!(ts.length == 2 || ts.length == 3) || vs.length != ts.length) || env.blockKind != .function) = true then pure none else
    if vs.any isStar = true then pure none else
    if ((nmL env.scope ts).length != ts.length || (nmL env.scope ts).eraseDups.length != (nmL env.scope ts).length) = true then pure none else
    if vs.all (foldedForSure 8) = true then pure none else
    if vs.all (constantsAlone 8) = true then (do unsupported "assign.tuple-of-constant-expressions:order-of-the-stores"; pure (some (nmL env.scope ts))) else pure (some (nmL env.scope ts))) := by
    unfold swappedStores
    rfl
  rw [main, hb, Bool.or_false]
  unfold swN at h
  by_cases c1 : (!(ts.length == 2 || ts.length == 3) || vs.length != ts.length) = true
  · rw [if_pos c1] at h ⊢; cases h; rfl
  · rw [if_neg c1] at h ⊢
    by_cases c2 : vs.any isStar = true
    · rw [if_pos c2] at h ⊢; cases h; rfl
    · rw [if_neg c2] at h ⊢
      by_cases c3 : ((nmL env.scope ts).length != ts.length || (nmL env.scope ts).eraseDups.length != (nmL env.scope ts).length) = true
      · rw [if_pos c3] at h ⊢; cases h; rfl
      · rw [if_neg c3] at h ⊢
        by_cases c4 : vs.all (foldedForSure 8) = true
        · rw [if_pos c4] at h ⊢; cases h; rfl
        · rw [if_neg c4] at h ⊢
          by_cases c5 : vs.all (constantsAlone 8) = true
          · rw [if_pos c5] at h; cases h
          · rw [if_neg c5] at h ⊢; cases h; rfl

section
variable {tb : Tb} {X : Cx} {W : WX} {fa ca : Nat → Addr} {call : Call} {n : Nat} {N : List Str} {sc : Scope} {E : Ent0}
/-- a tuple is unpacked -/
theorem s_unp (c : Cxs tb X W fa ca call n N sc) {ts : List Expr} {k : Nat} {tp pos : Pos} {v : Expr} {g : CG} {e : CE} (hg : chkG N sc g (.Tuple ts k tp) = true) (he : PE X v (RE (gd X fa ca) false W (den e call))) (hc : isComp v = false) (hw : swappedStores [.Tuple ts k tp] v X.env = pure none) :
    PS X (.Assign [.Tuple ts k tp] v pos) (RS (gd X fa ca) W E (denS (.unp g e) call)) := by
  refine PS.weak (ps_asg he (pg_of c.cx.hN c.cx.nd c.cx.calm c.loc hg) (by show swapsWith v (some (.Tuple ts k tp)) pos.line X.env = _; exact noSwap hc) hw (by rfl)) fun D σ H ⟨F, mu, ρ, S, s, p⟩ => ?_
  simp only [denS] at p
  refine RE.mono (fun v H1 ⟨F1, mu1, r, S1, s1, rel, p1⟩ => ?_) (RE.bindSh s p)
  cases eg : setG g r.shr ρ with
  | none => rw [eg] at p1; exact p1.elim
  | some ρ' =>
    rw [eg] at p1
    exact tgT_ok (gg := gd X fa ca) eg rel s1.sr fun σ1 sr1 _ => p1 F1 mu1 σ1 H1 .refl ⟨sr1, s1.ev⟩
def setVs : List (Nat × Bool) → List V → L2.St → L2.St
  | (i, _) :: is, v :: vs, σ => setVs is vs (σ.set i (some v))
  | _, _, σ => σ
def PostP (g : Gd) (W : WX) (E : Ent0) (F : Hp) (mu : List Addr) (is : List (Nat × Bool)) (σ0 : L2.St) (Q : List V → Hp → Prop) (r : Fl) : Prop :=
  match r with
  | .nx ρ' S' => ∀ F' mu' vs H', Ext F mu F' mu' → vs.length = is.length → SE0 g E F' mu' ρ' S' (setVs is vs σ0) H' → Q vs H'
  | .ex x ρe S' => ∀ F' mu' cls d σ' H', Ext F mu F' mu' → SE0 g E F' mu' ρe S' σ' H' → ExR g F' mu' H' x cls d → W cls d σ' H'
  | _ => False
def RP (g : Gd) (W : WX) (E : Ent0) (es : CEs) (is : List (Nat × Bool)) (call : Call) : TA := fun σ H Q => ∃ F mu ρ S ρ0 σ0, SE0 g E F mu ρ S σ H ∧ SE0 g E F mu ρ0 S σ0 H ∧
  (∀ vs H', Q vs H' → True) ∧ PostP g W E F mu is σ0 Q ((dens es call ρ S).fl ρ fun rs S1 => match setPs is rs ρ0 with | some ρ' => .nx ρ' S1 | none => .bad)
theorem p_nil : PA X [] (RP (gd X fa ca) W E .nil [] call) := PA.weak pa_nil fun σ H Q ⟨F, mu, ρ, S, ρ0, σ0, s, s0, _, p⟩ => by
  simp only [dens, Res.fl, setPs] at p
  exact p F mu [] H .refl rfl s0
theorem p_cons {x : Expr} {r : List Expr} {c : CE} {es : CEs} {i : Nat} {o : Bool} {is : List (Nat × Bool)} (hx : PE X x (RE (gd X fa ca) false W (den c call))) (hr : PA X r (RP (gd X fa ca) W E es is call)) (hs : isStar x = false) : PA X (x :: r) (RP (gd X fa ca) W E (.cons c es) ((i, o) :: is) call) := by
  refine PA.weak (pa_cons hx hr (starOf hs)) fun σ H Q ⟨F, mu, ρ, S, ρ0, σ0, s, s0, _, p⟩ => ?_
  simp only [dens] at p
  refine ⟨E.H, F, mu, ρ, S, s.sr, ?_⟩
  cases e : den c call ρ S with
  | bad => rw [e] at p; exact p
  | ex y S1 =>
    rw [e] at p
    exact fun F' mu' cls d H' ev gh exr => p F' mu' cls d σ H' ev.ext (s.evo ev gh) exr
  | ok r1 S1 =>
    rw [e] at p
    intro F1 mu1 v H1 ev gh rel nw
    have step : ∀ F2 r2, Evo F mu H F2 mu1 H1 → SE0 (gd X fa ca) E F2 mu1 ρ S1 σ H1 → SE0 (gd X fa ca) E F2 mu1 (ρ0.set i (some r2)) S1 (σ0.set i (some v)) H1 → r2 = (if o = true then r1 else .sh r1.shr) →
        RP (gd X fa ca) W E es is call σ H1 fun vs H2 => Q (v :: vs) H2 := fun F2 r2 ev2 s2 s02 er => by
      refine ⟨F2, mu1, ρ, S1, _, _, s2, s02, fun _ _ _ => trivial, ?_⟩
      cases e2 : dens es call ρ S1 with
      | bad => simp only [Res.bind, e2, Res.fl] at p; exact p.elim
      | ex y S2 => simp only [Res.bind, e2, Res.fl] at p; exact fun F' mu' cls d σ' H' ex s' => p F' mu' cls d σ' H' (ev2.ext.trans ex) s'
      | ok rs S2 =>
        simp only [Res.bind, e2, Res.fl, setPs] at p
        simp only [Res.fl]
        rw [← er] at p
        cases e3 : setPs is rs (ρ0.set i (some r2)) with
        | none => rw [e3] at p; exact p.elim
        | some ρ' =>
          rw [e3] at p
          exact fun F' mu' vs H' ex hl s' => p F' mu' (v :: vs) H' (ev2.ext.trans ex) (by rw [List.length_cons, hl]; rfl) s'
    cases o with
    | true => exact step F1 r1 ev (s.evo ev gh) (s0.setO (s0.evo ev gh) rel (nw rfl)) rfl
    | false =>
      obtain ⟨F2, ev2, gh2, rel2, _, _⟩ := share ev gh rel (nw rfl)
      exact step F2 (.sh r1.shr) ev2 (s.evo ev2 gh2) ((s0.evo ev2 gh2).setSh rel2) rfl
theorem par_start {es : CEs} {is : List (Nat × Bool)} {D : Ends} {σ : L2.St} {H : Hp} {Q : List V → Hp → Prop} (q : RS (gd X fa ca) W E (denS (.par is es) call) D σ H) (hq : ∀ vs H', vs.length = is.length → D.nx (setVs is vs σ) H' → Q vs H') : RP (gd X fa ca) W E es is call σ H Q := by
  obtain ⟨F, mu, ρ, S, s, p⟩ := q
  simp only [denS] at p
  refine ⟨F, mu, ρ, S, ρ, σ, s, s, fun _ _ _ => trivial, ?_⟩
  cases e : dens es call ρ S with
  | bad => rw [e] at p; exact p
  | ex y S1 => rw [e] at p; exact p
  | ok rs S1 =>
    simp only [e, Res.fl] at p
    simp only [Res.fl]
    cases e3 : setPs is rs ρ with
    | none => rw [e3] at p; exact p.elim
    | some ρ' =>
      rw [e3] at p
      exact fun F' mu' vs H' ex hl s' => hq vs H' hl (p F' mu' _ H' ex s')
theorem len2 {α : Type} {l : List α} (h : l.length = 2) : ∃ a b, l = [a, b] := by
  rcases l with _ | ⟨a, _ | ⟨b, _ | ⟨d, l⟩⟩⟩
  · cases h
  · cases h
  · exact ⟨a, b, rfl⟩
  · simp at h
theorem len3 {α : Type} {l : List α} (h : l.length = 3) : ∃ a b c, l = [a, b, c] := by
  rcases l with _ | ⟨a, _ | ⟨b, _ | ⟨d, _ | ⟨e, l⟩⟩⟩⟩
  · cases h
  · cases h
  · simp at h
  · exact ⟨a, b, d, rfl⟩
  · simp at h
theorem s_par2 (c : Cxs tb X W fa ca call n N sc) {i j : Nat} {o o' : Bool} {x y : Str} {a b : Expr} {es : CEs} {px py pt pos : Pos} {kt k2 : Nat} {pt2 : Pos} (hi : N[i]? = some x) (hj : N[j]? = some y) (hij : i ≠ j) (hx : sc.names.lookup x = some .local) (hy : sc.names.lookup y = some .local)
    (ha : PA X [a, b] (RP (gd X fa ca) W E es [(i, o), (j, o')] call)) (hw : swN sc [.Name x px, .Name y py] [a, b] = some (some [x, y])) :
    PS X (.Assign [.Tuple [.Name x px, .Name y py] kt pt] (.Tuple [a, b] k2 pt2) pos) (RS (gd X fa ca) W E (denS (.par [(i, o), (j, o')] es) call)) := by
  have cx := c.cx
  refine PS.weak (ps_par cx.calm (by rw [cx.hN]; exact cx.nd) (by rw [cx.hN]; exact hi) (by rw [cx.hN]; exact hj) hij (by rw [cx.hsc]; exact hx) (by rw [cx.hsc]; exact hy) ha (swN_ok (by rw [cx.hsc]; exact c.kind) (by rw [cx.hsc]; exact hw))) fun D σ H q => ?_
  refine par_start q fun vs H' hl h => ?_
  obtain ⟨u, v, rfl⟩ := len2 hl
  exact ⟨u, v, rfl, h⟩
theorem s_par3 (c : Cxs tb X W fa ca call n N sc) {i j l : Nat} {o o' o2 : Bool} {x y z : Str} {a b d : Expr} {es : CEs} {px py pz pt pos : Pos} {kt k2 : Nat} {pt2 : Pos} (hi : N[i]? = some x) (hj : N[j]? = some y) (hl : N[l]? = some z) (hij : i ≠ j) (hil : i ≠ l) (hjl : j ≠ l)
    (hx : sc.names.lookup x = some .local) (hy : sc.names.lookup y = some .local) (hz : sc.names.lookup z = some .local)
    (ha : PA X [a, b, d] (RP (gd X fa ca) W E es [(i, o), (j, o'), (l, o2)] call)) (hw : swN sc [.Name x px, .Name y py, .Name z pz] [a, b, d] = some (some [x, y, z])) :
    PS X (.Assign [.Tuple [.Name x px, .Name y py, .Name z pz] kt pt] (.Tuple [a, b, d] k2 pt2) pos) (RS (gd X fa ca) W E (denS (.par [(i, o), (j, o'), (l, o2)] es) call)) := by
  have cx := c.cx
  refine PS.weak (ps_par3 cx.calm (by rw [cx.hN]; exact cx.nd) (by rw [cx.hN]; exact hi) (by rw [cx.hN]; exact hj) (by rw [cx.hN]; exact hl) hij hil hjl (by rw [cx.hsc]; exact hx) (by rw [cx.hsc]; exact hy) (by rw [cx.hsc]; exact hz) ha (swN_ok (by rw [cx.hsc]; exact c.kind) (by rw [cx.hsc]; exact hw))) fun D σ H q => ?_
  refine par_start q fun vs H' hl h => ?_
  obtain ⟨u, v, w, rfl⟩ := len3 hl
  exact ⟨u, v, w, rfl, h⟩

/-- .. where the tuple is made and unpacked -/
theorem gNms_set {Q : L2.St → Hp → Prop} {H : Hp} : ∀ {is : List (Nat × Bool)} {vs : List V} {σ : L2.St}, vs.length = is.length → Q (setVs is vs σ) H → gNms (is.map (·.1)) vs σ H Q
  | [], [], σ, _, q => ⟨rfl, q⟩
  | [], _ :: _, _, h, _ => by cases h
  | _ :: _, [], _, h, _ => by cases h
  | (i, o) :: is, v :: vs, σ, h, q => ⟨v, vs, rfl, gNms_set (Q := Q) (Nat.succ.inj h) q⟩
theorem par_startT {es : CEs} {is : List (Nat × Bool)} {D : Ends} {σ : L2.St} {H : Hp} {Q : List V → Hp → Prop} (q : RS (gd X fa ca) W E (denS (.par is es) call) D σ H)
    (hq : ∀ vs H', vs.length = is.length → (∀ p, H' p = none → D.nx (setVs is vs σ) (upd H' p (.tup vs))) → Q vs H') : RP (gd X fa ca) W E es is call σ H Q := by
  obtain ⟨F, mu, ρ, S, s, p⟩ := q
  simp only [denS] at p
  refine ⟨F, mu, ρ, S, ρ, σ, s, s, fun _ _ _ => trivial, ?_⟩
  cases e : dens es call ρ S with
  | bad => rw [e] at p; exact p
  | ex y S1 => rw [e] at p; exact p
  | ok rs S1 =>
    simp only [e, Res.fl] at p
    simp only [Res.fl]
    cases e3 : setPs is rs ρ with
    | none => rw [e3] at p; exact p.elim
    | some ρ' =>
      rw [e3] at p
      exact fun F' mu' vs H' ex hl s' => hq vs H' hl fun a ha => p F' mu' _ _ ex (s'.evo (ev_new (o := .tup vs) s'.sr.gh ha).1 (ev_new (o := .tup vs) s'.sr.gh ha).2)
theorem s_parT (c : Cxs tb X W fa ca call n N sc) {is : List (Nat × Bool)} {es : CEs} {ts vs : List Expr} {kt k2 : Nat} {pt pt2 pos : Pos} (hg : gNs N sc (is.map (·.1)) ts = true) (h1000 : is.length ≤ 1000)
    (ha : PA X vs (RP (gd X fa ca) W E es is call)) (hw : swN sc ts vs = some none) :
    PS X (.Assign [.Tuple ts kt pt] (.Tuple vs k2 pt2) pos) (RS (gd X fa ca) W E (denS (.par is es) call)) := by
  have cx := c.cx
  obtain ⟨g1, g2⟩ := gNs_env (env := X.env) hg
  refine PS.weak (ps_asg (pe_tup ha) (pg_tup cx.calm (pgs_of cx.hN cx.nd c.loc hg) g1 g2) (by simp only [swapsWithSole]; exact noSwap rfl) (swN_ok (by rw [cx.hsc]; exact c.kind) (by rw [cx.hsc]; exact hw)) (by rfl)) fun D σ H q => ?_
  refine par_startT q fun vs H' hl h => ⟨by rw [hl]; exact size1000 h1000, fun p hp => ?_⟩
  exact ⟨p, vs, rfl, SqT.of upd_same, by rw [hl, List.length_map], gNms_set hl (h p hp)⟩

/-! ### o[k] = v -/
def rPut (g : Gd) : V → V → V → Hp → (Hp → Prop) → Prop := fun o i v H Q => (∃ a es F mu kvs k b, o = .ref a ∧ i = .ref b ∧ H a = some (dO g.P g.w a es) ∧ Sub F H ∧ RelKs g F mu kvs es ∧ isKey k = true ∧ RelD g F mu k (.ref b) ∧ kvs.length < sizeLine ∧
  Q (upd H a (dO g.P g.w a (putE es (nk k) b v)))) ∨ rSetL o i v H Q
theorem put_ok (cx : Cxt tb X W fa ca call n N sc) : PSet X (rPut (gd X fa ca)) := by
  intro pins s σ H o i v ov iv u Q I ro ri rv h
  rcases h with ⟨a, es, F, mu, kvs, k, b, rfl, rfl, ha, sub, rk, hk, rb, hz, q⟩ | h
  · cases ro
    cases ri
    exact dput_ok (d := .non) cx.room I sub ha rk hk rb rv hz fun s' I' => ⟨_, I', q⟩
  · exact set_list pins s σ H o i v ov iv u Q I ro ri rv h
theorem isSlice_asg {o i : Expr} {p : Pos} {env : PySem.Env} (h : isSlice i = false) : ∀ v, assign (.Subscript o i p) env v = (do
      let ov ← holding [v] (eval o env)
      let iv ← holding [v, ov] (eval i env)
      standAt p
      holding [v, ov, iv] (setItem ov iv v)
      release [v, ov, iv] []) := by
  intro v
  cases i <;> first | rfl | cases h
theorem ixN_lt {m : Nat} {i : Int} {j : Nat} (h : L2.ixN m i = some j) : j < m := (ixN_seq h).2.1
theorem s_put (c : Cxs tb X W fa ca call n N sc) {i : Nat} {x : Str} {px sp pos : Pos} {ix v : Expr} {k e : CE} (hN : N[i]? = some x) (hv : visB sc x = true) (hm : nmB x = true) (he : PE X v (RE (gd X fa ca) false W (den e call))) (hk : PE X ix (RE (gd X fa ca) true W (den k call)))
    (hs : isSlice ix = false) : PS X (.Assign [.Subscript (.Name x px) ix sp] v pos) (RS (gd X fa ca) W E (denS (.put i k e) call)) := by
  obtain ⟨h1, h2, _⟩ := nm_of hm
  have cx := c.cx
  refine PS.weak (ps_asg he (pg_sub (pe_var (i := i) (by rw [cx.hN]; exact hN) (by rw [cx.hsc]; exact vis_of hv) h1 h2) hk (put_ok cx) (isSlice_asg hs)) (by simp only [swapsWithSole]; exact noSwap3) (by cases v <;> rfl) (by rfl)) fun D σ H ⟨F, mu, ρ, S, s, p⟩ => ?_
  simp only [denS] at p
  refine RE.mono (fun w H1 ⟨F1, mu1, r, S1, s1, rel, p1⟩ => ?_) (RE.bindSh s p)
  cases eo : getV ρ i with
  | none => rw [eo] at p1; exact p1.elim
  | some o =>
    rw [eo] at p1
    obtain ⟨ov, hσ, relo, nwo⟩ := s1.sr.get eo
    refine ⟨ov, hσ, RE.mono (fun y H2 ⟨F2, mu2, r2, S2, a2, s2, _, p2⟩ => ?_) (RE.bindS (b1 := true) s1 p1)⟩
    have rel2 := rel.mono a2.evo.le a2.evo.pre
    have relo2 := relo.evo a2.evo s1.sr.gh.sub
    cases o with
    | nd kvs =>
      simp only [putS] at p2
      cases ev : vw r2 S2 with
      | none => rw [ev] at p2; exact p2.elim
      | some kd =>
        simp only [ev] at p2
        split at p2
        · rename_i hkd
          obtain ⟨a, es, rfl, b1, b2, b3, b4⟩ := relo2
          obtain ⟨b, rfl, rb⟩ := vw_key ev a2.rel hkd.1
          refine .inl ⟨a, es, F2, mu2, kvs, kd, b, rfl, rfl, b1, s2.sr.gh.sub, b4, hkd.1, rb, hkd.2, ?_⟩
          exact p2 F2 mu2 σ _ .refl (s2.mut eo rfl hσ b2 b3 (nwo a rfl) ⟨a, _, rfl, upd_same, b2, b3, relKs_put b4 hkd.1 rb rel2⟩)
        · exact p2.elim
    | nl ds =>
      simp only [putS] at p2
      split at p2
      · split at p2
        · rename_i m hm
          have rel3 := a2.rel
          cases rel3
          obtain ⟨a, xs, rfl, b1, b2, b3, b4⟩ := relo2
          rw [b4.length] at hm
          refine .inr ⟨a, xs, _, m, rfl, rfl, b1, hm, ?_⟩
          exact p2 F2 mu2 σ _ .refl (s2.mut eo rfl hσ b2 b3 (nwo a rfl) ⟨a, _, rfl, upd_same, b2, b3, b4.set rel2 m⟩)
        · exact p2.elim
      · exact p2.elim
    | sh d =>
      cases d with
      | ref m =>
        simp only [putS] at p2
        split at p2
        · rename_i ds hds
          split at p2
          · split at p2
            · rename_i q hq
              have rel3 := a2.rel
              cases rel3
              cases relo2 with
              | ref hmu =>
                obtain ⟨a', hm', hF, xs, hH, hr⟩ := s2.sr.gh.get hds
                rw [hmu] at hm'
                cases hm'
                rw [hr.length] at hq
                refine .inr ⟨_, xs, _, q, rfl, rfl, hH, hq, ?_⟩
                exact p2 F2 mu2 σ _ .refl (s2.sto hmu ⟨_, upd_same, hr.set rel2 q⟩)
            · exact p2.elim
          · exact p2.elim
        · exact p2.elim
      | _ => exact p2.elim
theorem s_app (c : Cxs tb X W fa ca call n N sc) {i : Nat} {x : Str} {px apos cpos pos : Pos} {v : Expr} {e : CE} (hN : N[i]? = some x) (hv : visB sc x = true) (hm : nmB x = true) (he : PE X v (RE (gd X fa ca) false W (den e call))) (hs : isStar v = false) (hl : (apos.endLine == cpos.line) = true) :
    PS X (.Expr (.Call (.Attribute (.Name x px) "append" apos) [v] [] cpos) pos) (RS (gd X fa ca) W E (denS (.app i e) call)) := by
  obtain ⟨h1, h2, _⟩ := nm_of hm
  have cx := c.cx
  refine PS.weak (ps_expr (pe_bm PySem.F.plainAttrs_list PySem.F.slot_list_append PySem.F.type_list_append (show MtR X "list.append" rAppend from mt_append) (pe_var (i := i) (by rw [cx.hN]; exact hN) (by rw [cx.hsc]; exact vis_of hv) h1 h2) (pa_cons he pa_nil (starOf hs)) (by rfl) (by rw [starOf hs]; rfl) hl (starOf hs) (by rfl)) (by rfl)) fun D σ H ⟨F, mu, ρ, S, s, p⟩ => ?_
  simp only [denS] at p
  split at p
  · rename_i ds eo
    obtain ⟨ov, hσ, relo, nwo⟩ := s.sr.get eo
    obtain ⟨a, xs, rfl, b1, b2, b3, b4⟩ := relo
    refine ⟨.ref a, hσ, .inl ⟨rfl, xs, .inl (.inl b1)⟩, RE.mono (fun w H1 ⟨F1, mu1, r, S1, s1, rel, p1⟩ => ?_) (RE.bindSh s p)⟩
    split at p1
    · rename_i hz
      obtain ⟨ov, hσ', relo', _⟩ := s1.sr.get eo
      rw [hσ] at hσ'
      cases hσ'
      obtain ⟨a', xs', e', c1, c2, c3, c4⟩ := relo'
      cases e'
      rw [c4.length] at hz
      exact ⟨a, xs', w, rfl, rfl, c1, hz, p1 F1 mu1 σ _ .refl (s1.mut eo rfl hσ c2 c3 (nwo a rfl) ⟨a, _, rfl, upd_same, c2, c3, c4.append (.cons rel .nil)⟩)⟩
    · exact p1.elim
  · exact p.elim

/-! ### loops -/
theorem allSh_ext {g : Gd} {F F1 H H1 : Hp} {mu mu1 : List Addr} (e : Ext F mu F1 mu1) : ∀ {rs : List Rv} {vs : List V}, AllSh rs → Paired (RelR g F mu H) rs vs → Paired (RelR g F1 mu1 H1) rs vs
  | _, _, _, .nil => .nil
  | r :: rs, _, al, .cons h t => by
    obtain ⟨d, rfl⟩ := al r List.mem_cons_self
    exact .cons (RelD.mono e.1 e.2 h) (allSh_ext e (fun q hq => al q (List.mem_cons_of_mem _ hq)) t)
theorem s_for (c : Cxs tb X W fa ca call n N sc) {tg iter : Expr} {body : List Stmt} {it : CI} {g : CG} {b : CSs} {ks : List Nat} {pos : Pos} (hi : PI X tg iter (RI (gd X fa ca) true W (deni it call))) (hg : chkG N sc g tg = true) (hb : PSs X body (RS (gd X fa ca) W E (denSs b call))) (hs : isSet iter = false) :
    PS X (.For tg iter body [] pos) (RS (gd X fa ca) W E (denS (.for_ it g b ks) call)) := by
  refine PS.weak (ps_for c.po c.cx.calm hi (pg_of c.cx.hN c.cx.nd c.cx.calm c.loc hg) hb (noFold hs)) fun D σ H ⟨F, mu, ρ, S, s, p⟩ => ?_
  simp only [denS] at p
  obtain ⟨Zh, F0, mu0, ρ0, S0, sr0, p0⟩ := RI.bindS s p
  refine ⟨Zh, F0, mu0, ρ0, S0, sr0, ?_⟩
  cases ei : deni it call ρ0 S0 with
  | bad => rw [ei] at p0; exact p0
  | ex x S1 => rw [ei] at p0; exact p0
  | ok ds0 S1 =>
    rw [ei] at p0
    intro FJ muJ J HJ rs vs evJ ghJ relJ alJ itsJ
    obtain ⟨F1, mu1, ds, S2, rs1, vs1, s1, rel1, al1, its1, p1⟩ := p0 FJ muJ J HJ rs vs evJ ghJ relJ alJ itsJ
    refine ⟨fun i m σ H => m = ds.length - i ∧ i ≤ ds.length ∧ ∃ F mu ρ S, Ext F1 mu1 F mu ∧ SE0 (gd X fa ca) E F mu ρ S σ H ∧ PostS (gd X fa ca) W E F mu D (forL g (denSs b call) ks (ds.drop i) ρ S), ⟨ds.length, rfl, Nat.zero_le _, F1, mu1, ρ, S2, .refl, s1, p1⟩, ?_⟩
    rintro i m σ H ⟨rfl, hi, F2, mu2, ρ2, S3, ex2, s2, p2⟩
    have itx := its1 F2 mu2 S3 H i s2.sr.gh ex2.1 ex2.2 (allSh_ext ex2 al1 rel1)
    by_cases hlt : i < ds.length
    · obtain ⟨go, yl⟩ := itx.1 hlt
      refine .inr ⟨go, fun σ' H' => ∃ F mu ρ S, Ext F1 mu1 F mu ∧ SE0 (gd X fa ca) E F mu ρ S σ' H' ∧ PostS (gd X fa ca) W E F mu D (forL g (denSs b call) ks (ds.drop (i + 1)) ρ S), fun σ' H' q => ⟨_, by omega, rfl, hlt, q⟩, fun x H3 hy => ?_⟩
      obtain ⟨F3, d, hd, ev3, gh3, rd⟩ := yl x H3 hy
      have hdrop : ds.drop i = d :: ds.drop (i + 1) := by
        obtain ⟨hh, rfl⟩ := List.getElem?_eq_some_iff.mp hd
        exact List.drop_eq_getElem_cons hh
      rw [hdrop] at p2
      simp only [forL] at p2
      have s3 := s2.evo ev3 gh3
      have ex3 := ex2.trans ev3.ext
      cases eg : setG g d ρ2 with
      | none => rw [eg] at p2; exact p2.elim
      | some ρ3 =>
        simp only [eg] at p2
        refine tgT_ok (gg := gd X fa ca) eg rd s3.sr fun σ1 sr1 _ => ⟨F3, mu2, ρ3, S3, ⟨sr1, s3.ev⟩, ?_⟩
        have p3 := PostS.ext ev3.ext p2
        cases eb : denSs b call ρ3 S3 with
        | nx ρ4 S4 =>
          rw [eb] at p3
          exact fun F' mu' σ' H' e' s' => ⟨F', mu', _, S4, ex3.trans e', s'.kill ks, PostS.ext e' p3⟩
        | ct ρ4 S4 =>
          rw [eb] at p3
          exact fun F' mu' σ' H' e' s' => ⟨F', mu', _, S4, ex3.trans e', s'.kill ks, PostS.ext e' p3⟩
        | bk ρ4 S4 =>
          rw [eb] at p3
          exact fun F' mu' σ' H' e' s' => p3 F' mu' σ' H' e' (s'.kill ks)
        | rt r S4 => rw [eb] at p3; exact p3
        | ex x ρ4 S4 => rw [eb] at p3; exact p3
        | bad => rw [eb] at p3; exact p3
    · have ei : i = ds.length := by omega
      subst ei
      refine .inl ⟨itx.2 rfl, ?_⟩
      rw [List.drop_length] at p2
      simp only [forL] at p2
      exact p2 F2 mu2 σ H .refl (s2.kill ks)
theorem s_while (c : Cxs tb X W fa ca call n N sc) {t : Expr} {body : List Stmt} {k : Nat} {ct : CE} {b : CSs} {ks : List Nat} {pos : Pos} (ht : PT X t (RT (gd X fa ca) W (den ct call))) (hb : PSs X body (RS (gd X fa ca) W E (denSs b call))) :
    PS X (.While t body [] pos) (RS (gd X fa ca) W E (denS (.while_ k ct b ks) call)) := by
  refine PS.weak (ps_while c.po ht hb) fun D σ H ⟨F, mu, ρ, S, s, p⟩ => ?_
  simp only [denS] at p
  refine ⟨fun m σ H => ∃ F mu ρ S, SE0 (gd X fa ca) E F mu ρ S σ H ∧ PostS (gd X fa ca) W E F mu D (whileL (den ct call) (denSs b call) ks m ρ S), ⟨k, F, mu, ρ, S, s, p⟩, ?_⟩
  rintro m σ H ⟨F, mu, ρ, S, s, p⟩
  cases m with
  | zero => simp only [whileL] at p; exact p.elim
  | succ m =>
    simp only [whileL] at p
    refine ⟨E.H, F, mu, ρ, S, s.sr, ?_⟩
    cases et : den ct call ρ S with
    | bad => rw [et] at p; exact p
    | ex x S1 => rw [et] at p; exact PostS.px s p
    | ok tv S1 =>
      simp only [et] at p
      cases ek : tru tv S1 with
      | none => rw [ek] at p; exact p.elim
      | some k =>
        simp only [ek] at p
        refine ⟨k, ek, fun F1 mu1 H1 ev gh => ?_⟩
        have s1 := s.evo ev gh
        cases k with
        | false =>
          simp only [Bool.false_eq_true, ↓reduceIte]
          exact p F1 mu1 σ H1 ev.ext (s1.kill ks)
        | true =>
          simp only [↓reduceIte]
          refine ⟨fun σ' H' => ∃ F mu ρ S, SE0 (gd X fa ca) E F mu ρ S σ' H' ∧ PostS (gd X fa ca) W E F mu D (whileL (den ct call) (denSs b call) ks m ρ S), fun σ' H' q => ⟨m, Nat.lt_succ_self m, q⟩, F1, mu1, ρ, S1, s1, ?_⟩
          have p3 := PostS.ext ev.ext p
          cases eb : denSs b call ρ S1 with
          | nx ρ4 S4 =>
            simp only [eb] at p3
            exact fun F' mu' σ' H' e' s' => ⟨F', mu', _, S4, s'.kill ks, PostS.ext e' p3⟩
          | ct ρ4 S4 =>
            simp only [eb] at p3
            exact fun F' mu' σ' H' e' s' => ⟨F', mu', _, S4, s'.kill ks, PostS.ext e' p3⟩
          | bk ρ4 S4 =>
            simp only [eb] at p3
            exact fun F' mu' σ' H' e' s' => p3 F' mu' σ' H' e' (s'.kill ks)
          | rt r S4 => simp only [eb] at p3; exact p3
          | ex x ρ4 S4 => simp only [eb] at p3; exact p3
          | bad => simp only [eb] at p3; exact p3
end
end Z

set_option Elab.async false
set_option linter.all false
set_option autoImplicit false
set_option maxRecDepth 100000
set_option maxHeartbeats 1000000
/-! Z19: every checked statement does what it means. -/
namespace Z
open PySem L2

/-! ### try -/
def vOf : D → V
  | .bl b => .bl b
  | .int i => .int i
  | .str x => .str x
  | _ => .non
def tsOf : HA → Addr → Value → Option Addr → TS
  | .ret d => fun _ _ _ => tRet (tC (vOf d))
  | .cont => fun _ _ _ => tCont
def lsOf (ca : Nat → Addr) (hs : List (Nat × HA)) : List (Value × (Addr → Value → Option Addr → TS)) := hs.map fun p => (.ref (ca p.1), tsOf p.2)
def chkA : HA → Stmt → Bool
  | .ret d, .Return (some (.Constant c _ _)) _ => conB d c
  | .cont, .Continue _ => true
  | _, _ => false
def chkH (tb : Tb) (sc : Scope) : List (Nat × HA) → List ExceptHandler → Bool
  | [], [] => true
  | (j, a) :: hs, .ExceptHandler (some (.Name x _)) none [st] _ :: hds => glB sc x && nmB x && decide (tb.ecs[j]? = some x) && chkA a st && chkH tb sc hs hds
  | _, _ => false
theorem vOf_rel {d : D} {c : Const} {g : Gd} {F : Hp} {mu : List Addr} (h : conB d c = true) : RelD g F mu d (vOf d) := by
  cases d with
  | non => exact .non
  | bl b => exact .bl b
  | int b => exact .int b
  | str b => exact .str b
  | _ => cases c <;> simp [conB] at h
theorem pe_conV {X : Cx} {d : D} {c : Const} {k : Nat} {pos : Pos} (h : conB d c = true) : PE X (.Constant c k pos) (tC (vOf d)) := by
  cases d with
  | non => cases c <;> simp [conB] at h; exact pe_non
  | bl b => cases c <;> simp [conB] at h; subst h; exact pe_bl
  | int b => cases c <;> simp [conB] at h; subst h; exact pe_int
  | str b => cases c <;> simp [conB] at h; subst h; exact pe_str
  | _ => cases c <;> simp [conB] at h
section
variable {tb : Tb} {X : Cx} {W : WX} {fa ca : Nat → Addr} {call : Call} {n : Nat} {N : List Str} {sc : Scope} {E : Ent0}
theorem hds_ok (c : Cxs tb X W fa ca call n N sc) : ∀ {hs : List (Nat × HA)} {hds : List ExceptHandler}, chkH tb sc hs hds = true → HdsOk X hds (lsOf ca hs)
  | [], [], _ => .nil
  | [], _ :: _, h => by simp [chkH] at h
  | (_, _) :: _, [], h => by simp [chkH] at h
  | (j, a) :: hs, hd :: hds, h => by
    unfold chkH at h
    split at h
    · rename_i e _; cases e
    · rename_i x p1 st p2 hds' e1 e2
      simp only [Bool.and_eq_true, decide_eq_true_eq] at h
      cases e1
      cases e2
      obtain ⟨⟨⟨⟨h1, h2⟩, h3⟩, h4⟩, h5⟩ := h
      obtain ⟨g1, g2, g3, g4⟩ := c.cx.ecs j x h3
      refine .cons ⟨show X.env.scope.names.lookup x = _ by rw [c.cx.hsc]; exact glo_of h1, (nm_of h2).1, .inl g1⟩ (fun b oe cls d pn _ _ => ?_) (hds_ok c h5)
      unfold chkA at h4
      split at h4
      · exact pss_one (ps_ret (pe_conV h4))
      · exact pss_one ps_continue
      · cases h4
    · cases h
theorem chkH_lt {tb : Tb} {sc : Scope} : ∀ {hs : List (Nat × HA)} {hds : List ExceptHandler}, chkH tb sc hs hds = true → ∀ p ∈ hs, p.1 < tb.ecs.length ∧ ∀ d, p.2 = .ret d → ∃ c, conB d c = true
  | [], _, _, p, hp => by cases hp
  | (_, _) :: _, [], h, _, _ => by simp [chkH] at h
  | (j, a) :: hs, hd :: hds, h, p, hp => by
    unfold chkH at h
    split at h
    · rename_i e _; cases e
    · rename_i x p1 st p2 hds' e1 e2
      simp only [Bool.and_eq_true, decide_eq_true_eq] at h
      cases e1
      cases e2
      rcases List.mem_cons.mp hp with rfl | hp
      · refine ⟨(List.getElem?_eq_some_iff.mp h.1.1.2).1, fun d hd => ?_⟩
        have h4 := h.1.2
        cases hd
        unfold chkA at h4
        split at h4
        · rename_i e; cases e; exact ⟨_, h4⟩
        · rename_i e; cases e
        · cases h4
      · exact chkH_lt h.2 p hp
    · cases h
theorem many_ok (c : Cxs tb X W fa ca call n N sc) {x : Exn} {ρ : Env} {S : Sto} {F : Hp} {mu : List Addr} {D : Ends} {σ : L2.St} {H : Hp} {cls : Value} {d : Option Addr} (hx : x.c < tb.ecs.length) (s : SE0 (gd X fa ca) E F mu ρ S σ H) (exr : ExR (gd X fa ca) F mu H x cls d) :
    ∀ {hs : List (Nat × HA)}, (∀ p ∈ hs, p.1 < tb.ecs.length ∧ ∀ d, p.2 = .ret d → ∃ c, conB d c = true) → PostS (gd X fa ca) W E F mu D (handL x ρ S hs) → wMany X.K W D (lsOf ca hs) cls d σ H
  | [], _, p => p F mu cls d σ H .refl s exr
  | (j, a) :: hs, hl, p => by
    obtain ⟨hj, ha⟩ := hl (j, a) List.mem_cons_self
    obtain ⟨ec, _⟩ := id exr
    refine ⟨subc x.c j, by rw [ec]; exact c.cx.exm x.c j hx hj, fun hb b _ => ?_, fun hb => ?_⟩
    · simp only [handL] at p
      rw [if_pos hb] at p
      cases a with
      | ret d =>
        obtain ⟨c', hc⟩ := ha d rfl
        exact p F mu (vOf d) H s.sr.gh s.ev (vOf_rel hc) trivial
      | cont => exact p F mu σ H .refl s
    · simp only [handL] at p
      rw [if_neg (by rw [hb]; decide)] at p
      exact many_ok c hx s exr (fun q hq => hl q (List.mem_cons_of_mem _ hq)) p
theorem Cxs.tr (c : Cxs tb X W fa ca call n N sc) {W' : WX} {pn : List (Addr × Obj)} {xe : Value → Shared → Prop} (tk : Takes (X.tr pn xe) W') (po : PassesOwn (model X.prog X.w) X.A X.env xe) : Cxs tb (X.tr pn xe) W' fa ca call n N sc where
  cx := ⟨c.cx.hN, c.cx.nd, c.cx.hsc, c.cx.calm, c.cx.room, tk, c.cx.fns, c.cx.cns, c.cx.ecs, c.cx.exm, c.cx.bls⟩
  po := po
  stk := c.stk
  fr := c.fr
  fn := c.fn
  kind := c.kind
theorem s_try (c : Cxs tb X W fa ca call n N sc) {body : List Stmt} {h0 : ExceptHandler} {hds : List ExceptHandler} {b : CSs} {m : Nat} {hs : List (Nat × HA)} {pos : Pos}
    (hb : ∀ (W' : WX) (pn : List (Addr × Obj)) (xe : Value → Shared → Prop), Cxs tb (X.tr pn xe) W' fa ca call n N sc → PSs (X.tr pn xe) body (RS (gd X fa ca) W' E (denSs b call)))
    (hm : m ≤ tb.ecs.length) (hh : chkH tb sc hs (h0 :: hds) = true) : PS X (.Try body (h0 :: hds) [] [] pos) (RS (gd X fa ca) W E (denS (.try_ b m hs) call)) := by
  refine PS.weak (ps_try_many (tb := fun W' => RS (gd X fa ca) W' E (denSs b call)) c.stk c.fr c.cx.tk (fun W' pn xe tk po => hb W' pn xe (c.tr tk po)) (hds_ok c hh)) fun D σ H ⟨F, mu, ρ, S, s, p⟩ => ⟨F, mu, ρ, S, s, ?_⟩
  simp only [denS] at p
  cases e : denSs b call ρ S with
  | nx _ _ => rw [e] at p; exact p
  | bk _ _ => rw [e] at p; exact p
  | ct _ _ => rw [e] at p; exact p
  | rt _ _ => rw [e] at p; exact p
  | bad => rw [e] at p; exact p
  | ex x ρ2 S2 =>
    rw [e] at p
    have p : PostS (gd X fa ca) W E F mu D (if x.c < m then handL x ρ2 S2 hs else .bad) := p
    by_cases hx : x.c < m
    · rw [if_pos hx] at p
      exact fun F' mu' cls d σ' H' ex s' exr => many_ok c (Nat.lt_of_lt_of_le hx hm) s' exr (chkH_lt hh) (PostS.ext ex p)
    · rw [if_neg hx] at p; exact p.elim
end

/-! ### the look at statements -/
def locB (sc : Scope) (x : Str) : Bool := decide (sc.names.lookup x = some .local)
def setOkB (sc : Scope) (x : Str) (px : Pos) (v : Expr) : Bool := !isComp v || !(px.line == v.pos.line) ||
  (match v with
  | .ListComp _ _ scope _ => locB sc x && !(scope.names.any fun (n, k) => n == x && (k == .local || k == .cell))
  | _ => false)
def parB (N : List Str) (sc : Scope) (is : List (Nat × Bool)) (ts vs : List Expr) : Bool :=
  match is with
  | [(i, _), (j, _)] => match ts with
    | [.Name x _, .Name y _] => decide (N[i]? = some x) && decide (N[j]? = some y) && decide (i ≠ j) && locB sc x && locB sc y && decide (swN sc ts vs = some (some [x, y]))
    | _ => false
  | [(i, _), (j, _), (l, _)] => match ts with
    | [.Name x _, .Name y _, .Name z _] => decide (N[i]? = some x) && decide (N[j]? = some y) && decide (N[l]? = some z) && decide (i ≠ j) && decide (i ≠ l) && decide (j ≠ l) && locB sc x && locB sc y && locB sc z && decide (swN sc ts vs = some (some [x, y, z]))
    | _ => false
  | _ => false
def unpB (sc : Scope) (ts : List Expr) (v : Expr) : Bool :=
  match v with
  | .Tuple vs _ _ => decide (swN sc ts vs = some none)
  | _ => true
mutual
def chkS (tb : Tb) (N : List Str) (sc : Scope) : CS → Stmt → Bool
  | .set i e, st => match st with
    | .Assign [.Name x px] v _ => gN N sc i (.Name x px) && chkE tb N e sc false v && setOkB sc x px v
    | _ => false
  | .setO i e, st => match st with
    | .Assign [.Name x px] v _ => gN N sc i (.Name x px) && chkE tb N e sc false v && setOkB sc x px v
    | _ => false
  | .unp g e, st => match st with
    | .Assign [.Tuple ts k tp] v _ => chkG N sc g (.Tuple ts k tp) && chkE tb N e sc false v && !isComp v && unpB sc ts v
    | _ => false
  | .par is es, st => match st with
    | .Assign [.Tuple ts _ _] (.Tuple vs _ _) _ => decide (es.len = is.length) && chkEs tb N es sc true vs && (parB N sc is ts vs || (gNs N sc (is.map (·.1)) ts && decide (is.length ≤ 1000) && decide (swN sc ts vs = some none)))
    | _ => false
  | .put i k e, st => match st with
    | .Assign [.Subscript (.Name x _) ix _] v _ => decide (N[i]? = some x) && visB sc x && nmB x && chkE tb N k sc true ix && !isSlice ix && chkE tb N e sc false v
    | _ => false
  | .app i e, st => match st with
    | .Expr (.Call (.Attribute (.Name x _) nm apos) [v] [] cpos) _ => decide (nm = ("append" : Str)) && (apos.endLine == cpos.line) && decide (N[i]? = some x) && visB sc x && nmB x && chkE tb N e sc false v && !isStar v
    | _ => false
  | .exp e, st => match st with
    | .Expr v _ => chkE tb N e sc true v && !isComp v
    | _ => false
  | .ite t a b, st => match st with
    | .If c p q _ => chkE tb N t sc true c && chkSs tb N sc a p && chkSs tb N sc b q
    | _ => false
  | .for_ it g body ks, st => match st with
    | .For tg iter p [] _ => chkI tb N it sc true tg iter && chkG N sc g tg && !isSet iter && chkSs tb N sc body p
    | _ => false
  | .while_ n t body ks, st => match st with
    | .While c p [] _ => chkE tb N t sc true c && chkSs tb N sc body p
    | _ => false
  | .ret e, st => match st with
    | .Return (some v) _ => chkE tb N e sc false v
    | _ => false
  | .retv i, st => match st with
    | .Return (some (.Name x _)) _ => decide (N[i]? = some x) && visB sc x && nmB x
    | _ => false
  | .retN, st => match st with
    | .Return none _ => true
    | _ => false
  | .raise k, st => match st with
    | .Raise (some (.Call (.Name x _) [.Constant (.str _) _ _] [] _)) none _ => glB sc x && nmB x && decide (tb.ecs[k]? = some x)
    | _ => false
  | .try_ body m hs, st => match st with
    | .Try p hds [] [] _ => chkSs tb N sc body p && decide (m ≤ tb.ecs.length) && chkH tb sc hs hds && !hs.isEmpty
    | _ => false
  | .brk, st => match st with
    | .Break _ => true
    | _ => false
  | .cont, st => match st with
    | .Continue _ => true
    | _ => false
  | .pass, st => match st with
    | .Pass _ => true
    | _ => false
def chkSs (tb : Tb) (N : List Str) (sc : Scope) : CSs → List Stmt → Bool
  | .nil, sts => sts.isEmpty
  | .cons s ss, sts => match sts with
    | st :: r => chkS tb N sc s st && chkSs tb N sc ss r
    | [] => false
  | .frz i ss, sts => chkSs tb N sc ss sts
  | .sto i ss, sts => chkSs tb N sc ss sts
end
section
variable (tb : Tb) (fa ca : Nat → Addr) (call : Call) (n : Nat) (N : List Str) {sc : Scope} {E : Ent0}
theorem sP : ∀ (es : CEs) (is : List (Nat × Bool)) {X : Cx} {W : WX} {xs : List Expr}, Cxs tb X W fa ca call n N sc → chkEs tb N es sc true xs = true → es.len = is.length → PA X xs (RP (gd X fa ca) W E es is call)
  | .nil, is, X, W, xs, c, h, hl => by
    simp only [chkEs] at h
    have hi : is = [] := by cases is <;> first | rfl | cases hl
    rw [any_nil h, hi]; exact p_nil
  | .cons e es, is, X, W, xs, c, h, hl => by
    simp only [chkEs] at h
    cases xs with
    | nil => cases h
    | cons x r =>
      cases is with
      | nil => cases hl
      | cons p is =>
        obtain ⟨i, o⟩ := p
        simp only [Bool.and_eq_true] at h
        exact p_cons (sE tb fa ca call n N e c.cx h.1.1).pe (sP es is c h.2 (Nat.succ.inj hl)) (isStar_of h.1.2)
theorem chkEs_len : ∀ (es : CEs) (sc : Scope) (sh : Bool) (xs : List Expr), chkEs tb N es sc sh xs = true → xs.length = es.len
  | .nil, _, _, xs, h => by simp only [chkEs] at h; rw [any_nil h]; rfl
  | .cons e es, sc, sh, xs, h => by
    simp only [chkEs] at h
    cases xs with
    | nil => cases h
    | cons x r =>
      simp only [Bool.and_eq_true] at h
      exact congrArg (· + 1) (chkEs_len es sc sh r h.2)
end
end Z

set_option Elab.async false
set_option linter.all false
set_option autoImplicit false
set_option maxRecDepth 100000
set_option maxHeartbeats 1000000
/-! Z20: every checked statement does what it means; defs. -/
namespace Z
open PySem L2
theorem compE {tb : Tb} {N : List Str} {e : CE} {sc : Scope} {bor : Bool} {elt : Expr} {gens : List Comprehension} {scope : Scope} {pos : Pos} (h : chkE tb N e sc bor (.ListComp elt gens scope pos) = true) : ∃ it g ws t f, e = .comp it g ws t f := by
  cases e with
  | comp it g ws t f => exact ⟨it, g, ws, t, f, rfl⟩
  | _ => simp [chkE] at h
theorem noTup {ts : List Expr} {k : Nat} {tp : Pos} {v : Expr} {env : PySem.Env} (h : ∀ vs k p, v ≠ .Tuple vs k p) : swappedStores [.Tuple ts k tp] v env = pure none := by cases v <;> first | rfl | exact absurd rfl (h _ _ _)
section
variable (tb : Tb) (fa ca : Nat → Addr) (call : Call) (n : Nat) (N : List Str) {sc : Scope} {E : Ent0}
theorem sSet {X : Cx} {W : WX} {i : Nat} {e : CE} {x : Str} {px pos : Pos} {v : Expr} (c : Cxs tb X W fa ca call n N sc) (hg : gN N sc i (.Name x px) = true) (he : chkE tb N e sc false v = true) (hs : setOkB sc x px v = true) :
    PS X (.Assign [.Name x px] v pos) (tAsg (RE (gd X fa ca) false W (den e call)) (gName i)) := by
  simp only [setOkB, Bool.or_eq_true] at hs
  rcases hs with (hs | hs) | hs
  · exact s_set c hg (sE tb fa ca call n N e c.cx he).pe (noSwap (isStar_of hs))
  · exact s_set c hg (sE tb fa ca call n N e c.cx he).pe (noSwap2 (isStar_of hs))
  · split at hs
    · rename_i elt gens scope cpos
      simp only [Bool.and_eq_true, locB, decide_eq_true_eq] at hs
      by_cases hl : (px.line == cpos.line) = true
      · obtain ⟨y, p, ey, h1, h2⟩ := gN_of hg
        cases ey
        obtain ⟨it, g, ws, t, f, rfl⟩ := compE he
        have h := he
        simp only [chkE] at h
        split at h
        · rename_i tg iter ifs asy
          simp only [Bool.and_eq_true, decide_eq_true_eq] at h
          obtain ⟨⟨⟨⟨⟨⟨⟨h0, g1⟩, g2⟩, g3⟩, g4⟩, g5⟩, g6⟩, g7⟩ := h
          subst h0
          have hgs : ∀ i ∈ g.slots, i ∈ ws := fun i hi => by
            have := List.all_eq_true.mp g4 i hi
            exact List.contains_iff_mem.mp this
          have hi := sI tb fa ca call n N it (tg := tg) c.cx g1
          have hf : ∀ (s : Shared) (H : Hp) (C : Addr) (cl : List (Str × Addr)) (fp : List Addr), PE (X.blk s H scope (compEnvC scope cl C X.env) fp) elt (RE (gd X fa ca) false W0 (den f call)) := fun s H C cl fp => (sE tb fa ca call n N f (c.cx.blk s H scope C cl fp) g6).pe
          split at g5
          · have z : t = .con (.bl true) := by
              unfold trueE at g5
              split at g5
              · rename_i b; cases b <;> first | rfl | cases g5
              · cases g5
            subst z
            exact s_setLc c h1 hs.1 hl (isStar_of hs.2) hi g2 g3 hgs (tt := tYes) (fun _ _ _ _ _ => pts_nil) (fun σ H Q ⟨Zh, F, mu, ρ, S, sr, p⟩ => by
              simp only [den] at p
              obtain ⟨k, hk, p⟩ := p
              cases hk
              exact p F mu H .refl sr.gh) hf (isStar_of g7)
          · exact s_setLc c h1 hs.1 hl (isStar_of hs.2) hi g2 g3 hgs (tt := RT (gd X fa ca) W0 (den t call)) (fun s H C cl fp => pts_one ((sE tb fa ca call n N t (c.cx.blk s H scope C cl fp) g5).pt rfl)) (fun _ _ _ z => z) hf (isStar_of g7)
          · cases g5
        · cases h
      · exact s_set c hg (sE tb fa ca call n N e c.cx he).pe (noSwap2 (by simpa [Expr.pos] using hl))
    · cases hs
mutual
theorem sS : ∀ (a : CS) {X : Cx} {W : WX} {st : Stmt}, Cxs tb X W fa ca call n N sc → chkS tb N sc a st = true → PS X st (RS (gd X fa ca) W E (denS a call))
  | .set i e, X, W, st, c, h => by
    simp only [chkS] at h
    split at h
    · simp only [Bool.and_eq_true] at h
      exact PS.weak (sSet tb fa ca call n N c h.1.1 h.1.2 h.2) fun D σ H q => r_set D σ H q
    · cases h
  | .setO i e, X, W, st, c, h => by
    simp only [chkS] at h
    split at h
    · simp only [Bool.and_eq_true] at h
      exact PS.weak (sSet tb fa ca call n N c h.1.1 h.1.2 h.2) fun D σ H q => r_setO D σ H q
    · cases h
  | .unp g e, X, W, st, c, h => by
    simp only [chkS] at h
    split at h
    · simp only [Bool.and_eq_true] at h
      obtain ⟨⟨⟨h1, h2⟩, h3⟩, h4⟩ := h
      refine s_unp c h1 (sE tb fa ca call n N e c.cx h2).pe (isStar_of h3) ?_
      unfold unpB at h4
      split at h4
      · exact swN_ok (by rw [c.cx.hsc]; exact c.kind) (by rw [c.cx.hsc]; exact of_decide_eq_true h4)
      · rename_i hv
        exact noTup fun vs k p z => hv vs k p z
    · cases h
  | .par is es, X, W, st, c, h => by
    simp only [chkS] at h
    split at h
    · rename_i ts k1 tp vs k2 tp2 p
      simp only [Bool.and_eq_true, decide_eq_true_eq] at h
      obtain ⟨⟨h1, h2⟩, h3⟩ := h
      have hP := sP tb fa ca call n N (E := E) es is c h2 h1
      have hl := chkEs_len tb N es sc true vs h2
      rw [h1] at hl
      rw [Bool.or_eq_true] at h3
      rcases h3 with h3 | h3
      case inr =>
        simp only [Bool.and_eq_true, decide_eq_true_eq] at h3
        exact s_parT c h3.1.1 h3.1.2 hP h3.2
      unfold parB at h3
      split at h3
      · split at h3
        · simp only [Bool.and_eq_true, decide_eq_true_eq, locB] at h3
          obtain ⟨⟨⟨⟨⟨q1, q2⟩, q3⟩, q4⟩, q5⟩, q6⟩ := h3
          obtain ⟨a, b, rfl⟩ := len2 hl
          exact s_par2 c q1 q2 q3 q4 q5 hP q6
        · cases h3
      · split at h3
        · simp only [Bool.and_eq_true, decide_eq_true_eq, locB] at h3
          obtain ⟨⟨⟨⟨⟨⟨⟨⟨⟨q1, q2⟩, q3⟩, q4⟩, q5⟩, q6⟩, q7⟩, q8⟩, q9⟩, q10⟩ := h3
          obtain ⟨a, b, d, rfl⟩ := len3 hl
          exact s_par3 c q1 q2 q3 q4 q5 q6 q7 q8 q9 hP q10
        · cases h3
      · cases h3
    · cases h
  | .put i k e, X, W, st, c, h => by
    simp only [chkS] at h
    split at h
    · simp only [Bool.and_eq_true, decide_eq_true_eq] at h
      obtain ⟨⟨⟨⟨⟨h1, h2⟩, h3⟩, h4⟩, h5⟩, h6⟩ := h
      exact s_put c h1 h2 h3 (sE tb fa ca call n N e c.cx h6).pe (sE tb fa ca call n N k c.cx h4).pe (isStar_of h5)
    · cases h
  | .app i e, X, W, st, c, h => by
    simp only [chkS] at h
    split at h
    · simp only [Bool.and_eq_true, decide_eq_true_eq] at h
      obtain ⟨⟨⟨⟨⟨⟨h0, h1⟩, h2⟩, h3⟩, h4⟩, h5⟩, h6⟩ := h
      subst h0
      exact s_app c h2 h3 h4 (sE tb fa ca call n N e c.cx h5).pe (isStar_of h6) h1
    · cases h
  | .exp e, X, W, st, c, h => by
    simp only [chkS] at h
    split at h
    · simp only [Bool.and_eq_true] at h
      exact s_exp c (sE tb fa ca call n N e c.cx h.1).pe (isStar_of h.2)
    · cases h
  | .ite t a b, X, W, st, c, h => by
    simp only [chkS] at h
    split at h
    · simp only [Bool.and_eq_true] at h
      exact s_ite ((sE tb fa ca call n N t c.cx h.1.1).pt rfl) (sSs a c h.1.2) (sSs b c h.2)
    · cases h
  | .for_ it g body ks, X, W, st, c, h => by
    simp only [chkS] at h
    split at h
    · simp only [Bool.and_eq_true] at h
      obtain ⟨⟨⟨h1, h2⟩, h3⟩, h4⟩ := h
      exact s_for c (sI tb fa ca call n N it c.cx h1) h2 (sSs body c h4) (isStar_of h3)
    · cases h
  | .while_ k t body ks, X, W, st, c, h => by
    simp only [chkS] at h
    split at h
    · simp only [Bool.and_eq_true] at h
      exact s_while c ((sE tb fa ca call n N t c.cx h.1).pt rfl) (sSs body c h.2)
    · cases h
  | .ret e, X, W, st, c, h => by
    simp only [chkS] at h
    split at h
    · exact s_ret c (sE tb fa ca call n N e c.cx h).pe
    · cases h
  | .retv i, X, W, st, c, h => by
    simp only [chkS] at h
    split at h
    · simp only [Bool.and_eq_true, decide_eq_true_eq] at h
      exact s_retv c h.1.1 h.1.2 h.2
    · cases h
  | .retN, X, W, st, c, h => by
    simp only [chkS] at h
    split at h
    · exact s_retN
    · cases h
  | .raise k, X, W, st, c, h => by
    simp only [chkS] at h
    split at h
    · simp only [Bool.and_eq_true, decide_eq_true_eq] at h
      exact s_raise c h.1.1 h.1.2 h.2
    · cases h
  | .try_ body m hs, X, W, st, c, h => by
    simp only [chkS] at h
    split at h
    · rename_i p hds pos
      simp only [Bool.and_eq_true, decide_eq_true_eq] at h
      obtain ⟨⟨⟨h1, h2⟩, h3⟩, h4⟩ := h
      cases hds with
      | nil =>
        cases hs with
        | nil => cases h4
        | cons a hs => obtain ⟨j, a⟩ := a; simp [chkH] at h3
      | cons h0 hds => exact s_try c (fun W' pn xe c' => sSs body c' h1) h2 h3
    · cases h
  | .brk, X, W, st, c, h => by
    simp only [chkS] at h
    split at h
    · exact s_brk
    · cases h
  | .cont, X, W, st, c, h => by
    simp only [chkS] at h
    split at h
    · exact s_cont
    · cases h
  | .pass, X, W, st, c, h => by
    simp only [chkS] at h
    split at h
    · exact s_pass
    · cases h
theorem sSs : ∀ (as : CSs) {X : Cx} {W : WX} {sts : List Stmt}, Cxs tb X W fa ca call n N sc → chkSs tb N sc as sts = true → PSs X sts (RS (gd X fa ca) W E (denSs as call))
  | .nil, X, W, sts, c, h => by simp only [chkSs] at h; rw [any_nil h]; exact ss_nil
  | .cons a as, X, W, sts, c, h => by
    simp only [chkSs] at h
    cases sts with
    | nil => cases h
    | cons st r =>
      simp only [Bool.and_eq_true] at h
      exact ss_cons (sS a c h.1) (sSs as c h.2)
  | .frz i as, X, W, sts, c, h => by
    simp only [chkSs] at h
    exact ss_frz (sSs as c h)
  | .sto i as, X, W, sts, c, h => by
    simp only [chkSs] at h
    exact ss_sto (sSs as c h)
end
end
end Z

set_option Elab.async false
set_option linter.all false
set_option autoImplicit false
set_option maxRecDepth 100000
set_option maxHeartbeats 1000000
/-! Z21: defs keep their promises. -/
namespace Z
open PySem L2

def AllI {α : Type} (P : Nat → α → Prop) : Nat → List α → Prop
  | _, [] => True
  | i, a :: l => P i a ∧ AllI P (i + 1) l
theorem allI_get {α : Type} {P : Nat → α → Prop} : ∀ {l : List α} {k i : Nat} {a : α}, AllI P k l → l[i]? = some a → P (k + i) a
  | [], _, _, _, _, e => by simp at e
  | a :: l, k, 0, b, h, e => by simp at e; subst e; exact h.1
  | a :: l, k, i + 1, b, h, e => by
    have q := allI_get (i := i) h.2 (by simpa using e)
    rw [show k + (i + 1) = k + 1 + i by omega]; exact q
/-- a def as the look at the program finds it -/
structure FnG (tb : Tb) (K : PySem.W.Frag) (mg : Str → Option Value) (f : Addr) (nm : Str) (np : Nat) (fd : Fd) (ps : List Str) : Prop where
  mg : mg nm = some (.ref f)
  ex : ∃ (qual : Str) (st : Stmt) (fdata : FuncData) (N : List Str), Fun K nm qual st f fdata ∧ (∀ us : List Value, us.length = ps.length → bindArgs fdata ⟨us, []⟩ = pure (ps.zip us)) ∧ ps.length = np ∧ FnScope N ps (defScope st) ∧ fd.np = np ∧ fd.nl = N.length ∧ np ≤ N.length ∧ chkSs tb N (defScope st) fd.body (defBody st) = true
structure Glob (P : Program) (w : World) (K : PySem.W.Frag) (mg : Str → Option Value) (tb : Tb) (T : List Fd) (pss : List (List Str)) (fa ca : Nat → Addr) : Prop where
  cns : AllI (fun _ (p : Str × D) => ∃ v u, mg p.1 = some u ∧ RelV v u ∧ tupC K v ∧ ∀ F mu, RelD ⟨P, w, K, fa, ca⟩ F mu p.2 v) 0 tb.cns
  ecs : AllI (fun k x => mg x = some (.ref (ca k)) ∧ PySem.W.keepIn K (.ref (ca k)) = true ∧ (PySem.W.subIn K (.ref (ca k)) (.type "BaseException") = some true ∧ PySem.W.typeIn K (.ref (ca k)) = some (.type "type")) ∧ PySem.W.excIn K (ca k) bmBase "ValueError.__new__" = true) 0 tb.ecs
  exm : ∀ i j, i < tb.ecs.length → j < tb.ecs.length → PySem.W.exmOne K (.ref (ca i)) (.ref (ca j)) = some (subc i j)
  bls : ∀ x, tb.bls.contains x = true → mg x = none
  len : tb.fns.length = T.length
  len2 : (tb.fns.zip T).length = pss.length
  fns : AllI (fun i (p : ((Str × Nat) × Fd) × List Str) => FnG tb K mg (fa i) p.1.1.1 p.1.1.2 p.1.2 p.2) 0 ((tb.fns.zip T).zip pss)
section
variable {P : Program} {w : World} {K : PySem.W.Frag} {mg : Str → Option Value} {base : Heap} {tb : Tb} {T : List Fd} {pss : List (List Str)} {fa ca : Nat → Addr}
theorem zip_get {α β : Type} : ∀ {l : List α} {m : List β} {i : Nat} {a : α}, l.length = m.length → l[i]? = some a → ∃ b, m[i]? = some b ∧ (l.zip m)[i]? = some (a, b)
  | [], _, _, _, _, e => by simp at e
  | _ :: _, [], _, _, h, _ => by simp at h
  | a :: l, b :: m, 0, _, _, e => by simp at e; subst e; exact ⟨b, by simp, by simp⟩
  | a :: l, b :: m, i + 1, _, h, e => by
    obtain ⟨c, h1, h2⟩ := zip_get (m := m) (i := i) (Nat.succ.inj h) (by simpa using e)
    exact ⟨c, by simpa using h1, by simpa using h2⟩
/-- the entry of a def -/
theorem start_sr {g : Gd} {H F : Hp} {mu : List Addr} {S : Sto} {ds : List D} {vs : List V} {N : List Str} (gh : Gh g F mu S H) (r : RelDs g F mu ds vs) (hl : vs.length ≤ N.length) :
    SR g H F mu (ds.map (fun d => some (.sh d)) ++ List.replicate (N.length - ds.length) none) S (L2.start N vs) H := by
  have hlen := r.length
  refine ⟨gh, by simp [L2.start, hlen], fun i s o h1 h2 => ?_, fun i j s t _ h1 _ h3 _ => ?_⟩
  · by_cases hi : i < ds.length
    · rw [List.getElem?_append_left (by simpa using hi), List.getElem?_map, List.getElem?_eq_getElem hi] at h1
      simp only [Option.map_some, Option.some.injEq] at h1
      subst h1
      obtain ⟨v, e1, e2⟩ := r.get (List.getElem?_eq_getElem hi)
      rw [L2.start, List.getElem?_append_left (by simpa [← hlen] using hi), List.getElem?_map, e1] at h2
      simp only [Option.map_some, Option.some.injEq] at h2
      subst h2
      exact ⟨v, rfl, e2, trivial⟩
    · rw [List.getElem?_append_right (by simpa using hi)] at h1
      have := List.getElem?_eq_some_iff.mp h1
      obtain ⟨_, e⟩ := this
      rw [List.getElem_replicate] at e
      subst e
      exact trivial
  · by_cases hi : i < ds.length
    · rw [List.getElem?_append_left (by simpa using hi), List.getElem?_map, List.getElem?_eq_getElem hi] at h1
      simp only [Option.map_some, Option.some.injEq] at h1
      subst h1; cases h3
    · rw [List.getElem?_append_right (by simpa using hi)] at h1
      obtain ⟨_, e⟩ := List.getElem?_eq_some_iff.mp h1
      rw [List.getElem_replicate] at e
      subst e; cases h3
theorem fns_ok (G : Glob P w K mg tb T pss fa ca) : ∀ (n : Nat) (id : Nat) (nm : Str) (np : Nat), tb.fns[id]? = some (nm, np) → ∃ fd ps, pss[id]? = some ps ∧ mg nm = some (.ref (fa id)) ∧ PySem.W.keepIn K (.ref (fa id)) = true ∧ (∀ us : List Value, us.length = ps.length → bindArgs fd ⟨us, []⟩ = pure (ps.zip us)) ∧ ps.length = np ∧
    ∀ base : Heap, FnOk P w K mg base (L2.CX P w) (2 * n) (fa id) fd ps (spI ⟨P, w, K, fa, ca⟩ (Phi T n) id np)
  | 0, id, nm, np, e => by
    obtain ⟨fd, h1, h2⟩ := zip_get G.len e
    obtain ⟨ps, h0, h2⟩ := zip_get G.len2 h2
    have q := allI_get G.fns h2
    rw [Nat.zero_add] at q
    obtain ⟨qual, st, fdata, N, h3, h4, h5, _⟩ := q.ex
    refine ⟨fdata, ps, h0, q.mg, h3.kp, h4, h5, fun base => ⟨fun vs H Q E z => by rw [z.1, h5], fun A outer s H args us vs Q E _ _ _ _ z => ?_⟩⟩
    obtain ⟨_, F, mu, S, ds, _, _, z⟩ := z
    exact z.elim
  | n + 1, id, nm, np, e => by
    obtain ⟨fd, h1, h2⟩ := zip_get G.len e
    obtain ⟨ps, h0, h2⟩ := zip_get G.len2 h2
    have q := allI_get G.fns h2
    rw [Nat.zero_add] at q
    obtain ⟨qual, st, fdata, N, h3, h4, h5, h6, h7, h8, h9, h10⟩ := q.ex
    refine ⟨fdata, ps, h0, q.mg, h3.kp, h4, h5, fun base => ?_⟩
    show FnOk P w K mg base (L2.CX P w) (2 * n + 1 + 1) (fa id) fdata ps _
    refine h3.okX h6 (fun vs H Q E z => by rw [z.1, h5]) fun cdv A outer s H vs Q E hr z => ?_
    obtain ⟨hl, F, mu, S, ds, gh, rds, z⟩ := z
    have hds : ds.length = fd.np := by rw [rds.length, hl, h7]
    have z : PostC ⟨P, w, K, fa, ca⟩ F mu H Q E (runF fd (Phi T n) ds S) := by
      have e2 : Phi T (n + 1) id ds S = runF fd (Phi T n) ds S := by simp only [Phi, h1]
      rw [e2] at z; exact z
    let X := cxOf (L2.CX P w) P w K mg base N qual (defScope st) (fa id) cdv A outer s H E
    have cx : Cxt tb X (fun cls d _ H => E cls d H) fa ca (Phi T n) n N (defScope st) := {
      hN := rfl
      nd := h6.nd
      hsc := rfl
      calm := rfl
      room := hr
      tk := takes_of rfl rfl rfl rfl
      fns := fun id nm np e => by
        obtain ⟨fd, ps, _, q1, q2, q3, q4, q5⟩ := fns_ok G n id nm np e
        exact ⟨fd, ps, q1, q2, .all q3, q4, q5 base⟩
      cns := fun j x d e => allI_get G.cns e
      ecs := fun k x e => by
        obtain ⟨q1, q2, q3, q4⟩ := allI_get G.ecs e
        rw [Nat.zero_add] at q1 q2 q3 q4
        exact ⟨q1, q2, raises_own q3.1 q3.2, q4⟩
      exm := G.exm
      bls := G.bls }
    have cs : Cxs tb X (fun cls d _ H => E cls d H) fa ca (Phi T n) n N (defScope st) := { cx := cx, po := passes_of rfl, stk := rfl, fr := rfl, fn := fun _ => rfl, kind := h6.kind }
    refine ⟨RS ⟨P, w, K, fa, ca⟩ (fun cls d _ H => E cls d H) ⟨F, mu, H⟩ (denSs fd.body (Phi T n)), sSs tb fa ca (Phi T n) n N fd.body cs h10, F, mu, _, S, ⟨start_sr gh rds (by rw [hl]; exact h9), .refl⟩, ?_⟩
    unfold runF at z
    rw [if_pos hds] at z
    have e3 : fd.nl - fd.np = N.length - ds.length := by rw [h8, hds]
    rw [e3] at z
    cases eb : denSs fd.body (Phi T n) (ds.map (fun d => some (.sh d)) ++ List.replicate (N.length - ds.length) none) S with
    | nx ρ' S' => rw [eb] at z; exact fun F' mu' σ' H' _ s' => z F' mu' .non H' s'.ev s'.sr.gh .non trivial
    | rt r S' => rw [eb] at z; exact fun F' mu' v H' gh' ev rel nw => z F' mu' v H' ev gh' rel nw
    | ex x ρ' S' => rw [eb] at z; exact fun F' mu' cls d σ' H' _ s' exr => z F' mu' cls d H' s'.ev s'.sr.gh exr
    | bk _ _ => rw [eb] at z; exact z.elim
    | ct _ _ => rw [eb] at z; exact z.elim
    | bad => rw [eb] at z; exact z.elim
/-- the law's promise -/
def spL (m : Nat) (K : PySem.W.Frag) : Sp := fun vs H Q _ => ∃ (a : Addr) (ns : List Int), vs = [.ref a] ∧ ns.length ≤ m ∧ SqL K H a (ns.map V.int) ∧ ∀ H', Q (.bl true) H'
theorem law_ok {T : List Fd} {n id m : Nat} (hn : ∀ ns : List Int, ns.length ≤ m → ∃ S', Phi T n id [.scr ns] [] = .ok (.sh (.bl true)) S') {vs : List V} {H : Hp} {Q : VK} {E : XK} (z : spL m K vs H Q E) : spI ⟨P, w, K, fa, ca⟩ (Phi T n) id 1 vs H Q E := by
  obtain ⟨a, ns, rfl, hl, hs, k⟩ := z
  obtain ⟨S', e⟩ := hn ns hl
  have gh : Gh ⟨P, w, K, fa, ca⟩ H [] [] H := ⟨fun _ _ h => h, .nil, rfl, fun i b m h => by simp at h⟩
  refine ⟨rfl, H, [], [], [.scr ns], gh, .cons (.scr hs) .nil, ?_⟩
  rw [e]
  intro F' mu' v H' _ _ rel _
  cases rel
  exact k H'
theorem law_fn {n id m : Nat} {nm x : Str} {f : Addr} (G : Glob P w K mg tb T pss fa ca) (e : tb.fns[id]? = some (nm, 1)) (ep : pss[id]? = some [x]) (hf : mg nm = some (.ref f)) (hn : ∀ ns : List Int, ns.length ≤ m → ∃ S', Phi T n id [.scr ns] [] = .ok (.sh (.bl true)) S') :
    ∃ fd : FuncData, (∀ (s : Shared) (u : Value), BindsTo s fd ⟨[u], []⟩ [(x, u)]) ∧ ∀ base : Heap, FnOk P w K mg base (L2.CX P w) (2 * n) f fd [x] (spL m K) := by
  obtain ⟨fd, ps, h0, h1, h2, h3, h4, h5⟩ := fns_ok G n id nm 1 e
  rw [ep] at h0
  cases h0
  rw [hf] at h1
  cases h1
  exact ⟨fd, fun s u => .of_eq (h3 [u] rfl), fun base => (h5 base).imp fun vs H Q E z => law_ok hn z⟩
theorem walk_Z {l : PySem.W.OpenLaw} {m n id : Nat} {q : Program} {loose : List Str} {XP : (Str → Option Value) → Heap → Prop} {YP : World → Heap → Prop} {d : DefRec} {K : Params → PySem.W.Frag} {x : Str} {tb : Tb} {T : List Fd} {pss : List (List Str)}
    (hn : l.most = some m) (hn2 : m ≤ sizeLine) (hdf : d.params.defaults = []) (hr : Room (2 * n) callerA) (hY : ∀ (w : World) (h : Heap), YP w h → (K w.params).In h) (e : tb.fns[id]? = some (d.name, 1)) (ep : pss[id]? = some [x])
    (hp : ∀ ns : List Int, ns.length ≤ m → ∃ S', Phi T n id [.scr ns] [] = .ok (.sh (.bl true)) S')
    (F : ∀ (w : World) (mg : Str → Option Value) (h : Heap), (K w.params).In h → h.Ns mainGlobals mg → ∃ fa ca, Glob l.prog w (K w.params) mg tb T pss fa ca) :
    PySem.W.WalkO q loose XP YP l.row.toRowW d [] (fun f vs => PySem.call f vs) :=
  walk_of (K := K) (CX := fun w => L2.CX l.prog w) (sp := fun w => spL m (K w.params)) (k := 2 * n) (x := x) hn hn2 hdf hr hY (fun w mg fa h kin G hmg => by
    obtain ⟨fa', ca, g⟩ := F w mg h kin G
    obtain ⟨fd, h1, h2⟩ := law_fn g e ep hmg hp
    exact ⟨fd, h1, fun base _ _ => h2 base⟩) (fun w H a ns h1 h2 h3 => ⟨a, ns, rfl, h1, h3, fun _ => rfl⟩) fun w H s e s' h => by
    obtain ⟨_, _, _, _, _, _, _, _, _, _, _, _, z⟩ := h
    exact z.elim
theorem exm_of2 {K : PySem.W.Frag} {i j : Addr} {r : Bool} (b : PySem.W.subIn K (.ref j) (.type "BaseException") = some true) (c : PySem.W.isClsIn K j = true) (t : PySem.W.typeIn K (.ref j) = some (.type "type")) (s : PySem.W.subIn K (.ref i) (.ref j) = some r) :
    PySem.W.exmOne K (.ref i) (.ref j) = some r := by
  have c' : (PySem.W.clsIn K j).isSome = true := c
  unfold PySem.W.exmOne PySem.W.kitCls
  simp only [b, c', t, s]
  rfl
end
end Z

set_option Elab.async false
set_option linter.all false
set_option autoImplicit false
set_option maxRecDepth 100000
set_option maxHeartbeats 4000000
set_option pp.maxSteps 400
set_option pp.deepTerms false
/-! Z22: plain facts that every law's meaning uses. -/
namespace Z
theorem phi_at {T : List Fd} {id : Nat} {fd : Fd} (h : T[id]? = some fd) (n : Nat) (ds : List D) (S : Sto) : Phi T (n + 1) id ds S = runF fd (Phi T n) ds S := by simp only [Phi, h]
theorem sz {n : Nat} (h : n ≤ 1000) : (n ≤ PySem.sizeLine) = True := eq_true (size1000 h)
/-- data that isinstance reads -/
def isD : D → Bool
  | .non => true
  | .bl _ => true
  | .int _ => true
  | .str _ => true
  | .tup _ => true
  | .lst _ => true
  | _ => false
theorem isD_non : isD .non = true := of_eq_true (eq_true rfl)
theorem isD_bl (b : Bool) : isD (.bl b) = true := of_eq_true (eq_true rfl)
theorem isD_int (b : Int) : isD (.int b) = true := of_eq_true (eq_true rfl)
theorem isD_str (b : PySem.Str) : isD (.str b) = true := of_eq_true (eq_true rfl)
theorem isD_tup (b : List D) : isD (.tup b) = true := of_eq_true (eq_true rfl)
theorem isD_lst (b : List D) : isD (.lst b) = true := of_eq_true (eq_true rfl)
def wh (v : D) (lo hi : Int) : Bool :=
  match v with
  | .int i => decide (lo ≤ i) && decide (i ≤ hi)
  | _ => false
def wd (v : D) (lo hi : Int) : Bool :=
  match v with
  | .tup ds => decide (lo ≤ ds.length) && decide ((ds.length : Int) ≤ hi)
  | _ => false
/-- a source of draws stands in the store at m -/
def Src (S : Sto) (m : Nat) : Prop := ∃ a b : Int, S[m]? = some (.lst [.int a, .int b]) ∧ 0 ≤ a ∧ 0 ≤ b
theorem compL_map {g : CG} {t f : Env → Sto → Res Rv} {ρ : Env} {S : Sto} {h : D → D} : ∀ {ds : List D}, (∀ d ∈ ds, ∃ ρ1 tv v, setG g d ρ = some ρ1 ∧ t ρ1 S = .ok tv S ∧ tru tv S = some true ∧ f ρ1 S = .ok v S ∧ v.shr = h d) → compL g t f ds ρ S = .ok (ds.map h) S
  | [], _ => rfl
  | d :: ds, H => by
    obtain ⟨ρ1, tv, v, h1, h2, h3, h4, h5⟩ := H d List.mem_cons_self
    simp only [compL, h1, h2, h3, h4, compL_map fun x hx => H x (List.mem_cons_of_mem _ hx), List.map_cons, h5]
theorem compL_inv {g : CG} {t f : Env → Sto → Res Rv} {ρ : Env} (I : Sto → Prop) (P : D → Prop) : ∀ {ds : List D} {S : Sto}, I S → (∀ d ∈ ds, ∀ S, I S → ∃ ρ1 tv v S', setG g d ρ = some ρ1 ∧ t ρ1 S = .ok tv S ∧ tru tv S = some true ∧ f ρ1 S = .ok v S' ∧ I S' ∧ P v.shr) →
    ∃ r S', compL g t f ds ρ S = .ok r S' ∧ I S' ∧ (∀ x ∈ r, P x) ∧ r.length = ds.length
  | [], S, hI, _ => ⟨[], S, rfl, hI, fun _ h => (nomatch h), rfl⟩
  | d :: ds, S, hI, H => by
    obtain ⟨ρ1, tv, v, S1, h1, h2, h3, h4, h5, h6⟩ := H d List.mem_cons_self S hI
    obtain ⟨r, S2, e, i2, p2, l2⟩ := compL_inv I P h5 fun x hx => H x (List.mem_cons_of_mem _ hx)
    refine ⟨v.shr :: r, S2, by simp only [compL, h1, h2, h3, h4, e], i2, fun x hx => ?_, by simp [l2]⟩
    rcases List.mem_cons.mp hx with rfl | hx
    · exact h6
    · exact p2 x hx
/-- a loop whose body comes back to the same slots -/
theorem forL_inv {g : CG} {body : Env → Sto → Fl} {ks : List Nat} {ρ : Env} (I : Sto → Prop) : ∀ {ds : List D} {S : Sto}, I S → (∀ d ∈ ds, ∀ S, I S → ∃ ρ1 ρ2 S', setG g d ρ = some ρ1 ∧ (body ρ1 S = .nx ρ2 S' ∨ body ρ1 S = .ct ρ2 S') ∧ killL ρ2 ks = killL ρ ks ∧ killL ρ2 ks = ρ ∧ I S') →
    ∃ S', forL g body ks ds ρ S = .nx (killL ρ ks) S' ∧ I S'
  | [], S, hI, _ => ⟨S, rfl, hI⟩
  | d :: ds, S, hI, H => by
    obtain ⟨ρ1, ρ2, S1, h1, h2, h3, h4, h5⟩ := H d List.mem_cons_self S hI
    obtain ⟨S2, e, i2⟩ := forL_inv I h5 fun x hx => H x (List.mem_cons_of_mem _ hx)
    refine ⟨S2, ?_, i2⟩
    rcases h2 with h2 | h2 <;> simp only [forL, h1, h2, h4, e]
theorem forL_gen {g : CG} {body : Env → Sto → Fl} {ks : List Nat} (I : Nat → Env → Sto → Prop) : ∀ {ds : List D} {i : Nat} {ρ : Env} {S : Sto}, I i ρ S → (∀ d ∈ ds, ∀ i ρ S, I i ρ S → ∃ ρ1 ρ2 S', setG g d ρ = some ρ1 ∧ (body ρ1 S = .nx ρ2 S' ∨ body ρ1 S = .ct ρ2 S') ∧ I (i + 1) (killL ρ2 ks) S') →
    ∃ ρ' S', forL g body ks ds ρ S = .nx (killL ρ' ks) S' ∧ I (i + ds.length) ρ' S'
  | [], i, ρ, S, hI, _ => ⟨ρ, S, rfl, hI⟩
  | d :: ds, i, ρ, S, hI, H => by
    obtain ⟨ρ1, ρ2, S1, h1, h2, h5⟩ := H d List.mem_cons_self i ρ S hI
    obtain ⟨ρ', S2, e, i2⟩ := forL_gen I h5 fun x hx => H x (List.mem_cons_of_mem _ hx)
    refine ⟨ρ', S2, ?_, by rw [List.length_cons, Nat.add_comm ds.length 1, ← Nat.add_assoc]; exact i2⟩
    rcases h2 with h2 | h2 <;> simp only [forL, h1, h2, e]
theorem ne_word {w : PySem.Str} {S : Sto} (h : w.cps.all (· < 0x110000) = true) : cmpS .ne (.sh (.str w)) (.sh (.str w)) S = some false := by simp [cmpS, eqS, vw, okd, deq, h]
theorem enumD_mem : ∀ (ds : List D) (k : Int) (d : D), d ∈ enumD k ds → ∃ (i : Nat) (x : D), d = .tup [.int (k + i), x] ∧ ds[i]? = some x
  | [], _, _, h => by cases h
  | x :: ds, k, d, h => by
    rcases List.mem_cons.mp h with rfl | h
    · exact ⟨0, x, by simp, by simp⟩
    · obtain ⟨i, y, e, hy⟩ := enumD_mem ds (k + 1) d h
      exact ⟨i + 1, y, by rw [e, show k + 1 + (i : Int) = k + ((i + 1 : Nat) : Int) by omega], by simpa using hy⟩
end Z

set_option Elab.async false
set_option linter.all false
set_option maxRecDepth 100000
/-! P0: the texts that more than one law reaches, over the numbers of their defs. -/
namespace Z
open PySem
structure Ids where
  f_is_whole : Nat := 999
  f_is_wide : Nat := 999
  f_are_rolls : Nat := 999
  f_is_right_car : Nat := 999
  f_is_right_note : Nat := 999
  f_are_right_notes : Nat := 999
  f_is_shown : Nat := 999
  f_is_drive : Nat := 999
  f_is_right_course : Nat := 999
  f_need_car : Nat := 999
  f_is_note : Nat := 999
  f_are_notes : Nat := 999
  f_is_course : Nat := 999
  f__law_source : Nat := 999
  f__law_pick : Nat := 999
  f__law_chosen : Nat := 999
  f__law_is_bool : Nat := 999
  f__law_wide : Nat := 999
  f__law_whole : Nat := 999
  f__law_good_car : Nat := 999
  f__law_good_note : Nat := 999
  f__law_good_notes : Nat := 999
  f__law_good_drive : Nat := 999
  f__law_good_course : Nat := 999
  f__law_car : Nat := 999
  f__law_drive : Nat := 999
  f__law_drawn_course : Nat := 999
  f__law_shows : Nat := 999
  f__law_noted : Nat := 999
  f__law_drawn_notes : Nat := 999
  f_shown_behind : Nat := 999
  f_need_course : Nat := 999
  f_behind : Nat := 999
  f_truly_shown : Nat := 999
  f_shown_at : Nat := 999
  f_need_notes : Nat := 999
  f_steps_from : Nat := 999
  f_slips_at : Nat := 999
  f_first_stands : Nat := 999
  f_stands_behind : Nat := 999
  f_layers : Nat := 999
  f_edges : Nat := 999
  f_do_fit : Nat := 999
  f_drive_of : Nat := 999
  f_one_course : Nat := 999
  f_is_fitting : Nat := 999
  f_fits : Nat := 999
  f_can_be : Nat := 999
  f_course_for : Nat := 999
  f__law_misses : Nat := 999
  f__law_is_fit : Nat := 999
  f__law_drives : Nat := 999
  f__law_ways : Nat := 999
  f__law_next : Nat := 999
  f_need_index : Nat := 999
  f_lengths_of : Nat := 999
  f_sums : Nat := 999
  f_lengths : Nat := 999
  f_distance : Nat := 999
  f_is_word : Nat := 999
  f_last_stands : Nat := 999
  f_word_for : Nat := 999
  f_set_back : Nat := 999
  f_exchanged : Nat := 999
  f_wrong : Nat := 999
  f_only : Nat := 999
  f_all_lots : Nat := 999
  f_first_wrong : Nat := 999
  f_least_wrong : Nat := 999
  f__law_some_fit : Nat := 999
  f__law_unread : Nat := 999
  f_first_parting : Nat := 999
  f_need_alike : Nat := 999
  f_same : Nat := 999
  f_parting : Nat := 999
  f_says_nothing : Nat := 999
  f__law_all_courses : Nat := 999
  f__law_tiny : Nat := 999
  f_unread_places : Nat := 999
  f_shown_there : Nat := 999
  f_do_settle : Nat := 999
  f_lots : Nat := 999
  f_need_places : Nat := 999
  f_settles : Nat := 999
  f_fewest : Nat := 999
  f_number_in : Nat := 999
  f_car_in : Nat := 999
  f_note_in : Nat := 999
  f_notes_in : Nat := 999
  f__law_book : Nat := 999
  f__law_lengths_of : Nat := 999
  f_word_of : Nat := 999
  f_notes_text : Nat := 999
  c_MOST_LONG : Nat := 999
  c_MOST_SHORT : Nat := 999
  c_MOST_BOTH : Nat := 999
  c_MOST_LENGTH : Nat := 999
  c_MOST_NOTES : Nat := 999
  c_COUNTERS : Nat := 999
  c_UNREAD : Nat := 999
  c_READ : Nat := 999
  c_SETS : Nat := 999
  x_MileError : Nat := 999
  x_InvalidCar : Nat := 999
  x_InvalidCourse : Nat := 999
  x_InvalidShown : Nat := 999
  x_InvalidDrive : Nat := 999
  x_InvalidNotes : Nat := 999
  x_InvalidIndex : Nat := 999
  x_InvalidCounter : Nat := 999
  x_Unlike : Nat := 999
  x_InvalidPlaces : Nat := 999
  x_InvalidWay : Nat := 999
  x_WrongLine : Nat := 999
  x_InvalidNote : Nat := 999
  x_NothingToUndo : Nat := 999
  x_TooMany : Nat := 999
  xn : Nat := 0
def b_is_whole (I : Ids) : CSs :=
(.cons (.ret (.and (.bi (.isi .int) (.cons (.varB 0) (.nil))) (.and (.not (.bi (.isi .bool) (.cons (.varB 0) (.nil)))) (.chain .le .le (.varB 1) (.varB 0) (.varB 2))))) (.nil))
def fd_is_whole (I : Ids) : Fd := ⟨3, 3, b_is_whole I⟩
def b_is_wide (I : Ids) : CSs :=
(.cons (.ret (.and (.bi (.isi .tup) (.cons (.varB 0) (.nil))) (.chain .le .le (.varB 1) (.bi .len (.cons (.varB 0) (.nil))) (.varB 2)))) (.nil))
def fd_is_wide (I : Ids) : Fd := ⟨3, 3, b_is_wide I⟩
def b_are_rolls (I : Ids) : CSs :=
(.cons (.ret (.and (.call (I.f_is_whole) (.cons (.var 0) (.cons (.con (.int 2)) (.cons (.glob (I.c_MOST_LONG) (.int 40)) (.nil))))) (.and (.call (I.f_is_whole) (.cons (.var 1) (.cons (.con (.int 2)) (.cons (.glob (I.c_MOST_SHORT) (.int 20)) (.nil))))) (.cmp .le (.op .mul (.varB 0) (.varB 1)) (.glob (I.c_MOST_BOTH) (.int 200)))))) (.nil))
def fd_are_rolls (I : Ids) : Fd := ⟨2, 2, b_are_rolls I⟩
def b_is_right_car (I : Ids) : CSs :=
(.cons (.ite (.or (.not (.call (I.f_is_wide) (.cons (.var 0) (.cons (.con (.int 5)) (.cons (.con (.int 5)) (.nil)))))) (.not (.call (I.f_are_rolls) (.cons (.idx (.varB 0) (.con (.int 0))) (.cons (.idx (.varB 0) (.con (.int 1))) (.nil))))))
(.cons (.ret (.con (.bl false))) (.nil))
(.nil)) (.cons (.ret (.and (.call (I.f_is_whole) (.cons (.idx (.varB 0) (.con (.int 2))) (.cons (.con (.int 1)) (.cons (.glob (I.c_MOST_LENGTH) (.int 12)) (.nil))))) (.and (.call (I.f_is_whole) (.cons (.idx (.varB 0) (.con (.int 3))) (.cons (.con (.int 0)) (.cons (.con (.int 2)) (.nil))))) (.call (I.f_is_whole) (.cons (.idx (.varB 0) (.con (.int 4))) (.cons (.con (.int 0)) (.cons (.con (.int 1)) (.nil)))))))) (.nil)))
def fd_is_right_car (I : Ids) : Fd := ⟨1, 1, b_is_right_car I⟩
def b_is_right_note_e0 (I : Ids) : CE :=
.or (.cmp .is (.varB 2) (.con (.non))) (.call (I.f_is_whole) (.cons (.var 2) (.cons (.con (.int 0)) (.cons (.op .sub (.varB 3) (.con (.int 1))) (.nil)))))
def b_is_right_note (I : Ids) : CSs :=
(.cons (.ite (.not (.call (I.f_is_wide) (.cons (.var 1) (.cons (.con (.int 2)) (.cons (.con (.int 2)) (.nil))))))
(.cons (.ret (.con (.bl false))) (.nil))
(.nil)) (.cons (.ret (.bi .all (.cons (.comp (.zip (.varB 1) (.varB 0)) (.tup [2, 3]) [2, 3] (.con (.bl true)) (b_is_right_note_e0 I)) (.nil)))) (.nil)))
def fd_is_right_note (I : Ids) : Fd := ⟨2, 4, b_is_right_note I⟩
def b_are_right_notes_e0 (I : Ids) : CE :=
.call (I.f_is_right_note) (.cons (.var 0) (.cons (.var 2) (.nil)))
def b_are_right_notes (I : Ids) : CSs :=
(.cons (.ret (.and (.call (I.f_is_wide) (.cons (.var 1) (.cons (.con (.int 1)) (.cons (.glob (I.c_MOST_NOTES) (.int 8)) (.nil))))) (.bi .all (.cons (.comp (.val (.varB 1)) (.nm 2) [2] (.con (.bl true)) (b_are_right_notes_e0 I)) (.nil))))) (.nil))
def fd_are_right_notes (I : Ids) : Fd := ⟨2, 3, b_are_right_notes I⟩
def b_is_shown_e0 (I : Ids) : CE :=
.call (I.f_is_whole) (.cons (.var 2) (.cons (.con (.int 0)) (.cons (.op .sub (.varB 3) (.con (.int 1))) (.nil))))
def b_is_shown (I : Ids) : CSs :=
(.cons (.ret (.and (.call (I.f_is_wide) (.cons (.var 1) (.cons (.con (.int 2)) (.cons (.con (.int 2)) (.nil))))) (.bi .all (.cons (.comp (.zip (.varB 1) (.varB 0)) (.tup [2, 3]) [2, 3] (.con (.bl true)) (b_is_shown_e0 I)) (.nil))))) (.nil))
def fd_is_shown (I : Ids) : Fd := ⟨2, 4, b_is_shown I⟩
def b_is_drive_e0 (I : Ids) : CE :=
.or (.cmp .is (.varB 2) (.con (.non))) (.call (I.f_is_whole) (.cons (.var 2) (.cons (.con (.int 0)) (.cons (.idx (.varB 1) (.con (.int 0))) (.nil)))))
def b_is_drive (I : Ids) : CSs :=
(.cons (.ite (.or (.not (.call (I.f_is_wide) (.cons (.var 1) (.cons (.con (.int 3)) (.cons (.con (.int 3)) (.nil)))))) (.not (.call (I.f_is_whole) (.cons (.idx (.varB 1) (.con (.int 0))) (.cons (.con (.int 0)) (.cons (.idx (.varB 0) (.con (.int 2))) (.nil)))))))
(.cons (.ret (.con (.bl false))) (.nil))
(.nil)) (.cons (.ret (.bi .all (.cons (.comp (.val (.slc (.varB 1) (.con (.int 1)) (.con .non))) (.nm 2) [2] (.con (.bl true)) (b_is_drive_e0 I)) (.nil)))) (.nil)))
def fd_is_drive (I : Ids) : Fd := ⟨2, 3, b_is_drive I⟩
def b_is_right_course_e0 (I : Ids) : CE :=
.call (I.f_is_drive) (.cons (.var 0) (.cons (.var 2) (.nil)))
def b_is_right_course (I : Ids) : CSs :=
(.cons (.ite (.or (.not (.call (I.f_is_wide) (.cons (.var 1) (.cons (.con (.int 2)) (.cons (.con (.int 2)) (.nil)))))) (.or (.not (.call (I.f_is_shown) (.cons (.var 0) (.cons (.idx (.varB 1) (.con (.int 0))) (.nil))))) (.not (.call (I.f_is_wide) (.cons (.idx (.varB 1) (.con (.int 1))) (.cons (.con (.int 0)) (.cons (.op .sub (.glob (I.c_MOST_NOTES) (.int 8)) (.con (.int 1))) (.nil))))))))
(.cons (.ret (.con (.bl false))) (.nil))
(.nil)) (.cons (.ret (.bi .all (.cons (.comp (.val (.idx (.varB 1) (.con (.int 1)))) (.nm 2) [2] (.con (.bl true)) (b_is_right_course_e0 I)) (.nil)))) (.nil)))
def fd_is_right_course (I : Ids) : Fd := ⟨2, 3, b_is_right_course I⟩
def b_need_car (I : Ids) : CSs :=
(.cons (.ite (.not (.call (I.f_is_right_car) (.cons (.var 0) (.nil))))
(.cons (.raise (I.x_InvalidCar)) (.nil))
(.nil)) (.nil))
def fd_need_car (I : Ids) : Fd := ⟨1, 1, b_need_car I⟩
def b_is_note (I : Ids) : CSs :=
(.cons (.exp (.call (I.f_need_car) (.cons (.var 0) (.nil)))) (.cons (.ret (.call (I.f_is_right_note) (.cons (.var 0) (.cons (.var 1) (.nil))))) (.nil)))
def fd_is_note (I : Ids) : Fd := ⟨2, 2, b_is_note I⟩
def b_are_notes (I : Ids) : CSs :=
(.cons (.exp (.call (I.f_need_car) (.cons (.var 0) (.nil)))) (.cons (.ret (.call (I.f_are_right_notes) (.cons (.var 0) (.cons (.var 1) (.nil))))) (.nil)))
def fd_are_notes (I : Ids) : Fd := ⟨2, 2, b_are_notes I⟩
def b_is_course (I : Ids) : CSs :=
(.cons (.exp (.call (I.f_need_car) (.cons (.var 0) (.nil)))) (.cons (.ret (.call (I.f_is_right_course) (.cons (.var 0) (.cons (.var 1) (.nil))))) (.nil)))
def fd_is_course (I : Ids) : Fd := ⟨2, 2, b_is_course I⟩
def b__law_source (I : Ids) : CSs :=
(.cons (.set 2 (.con (.int 0))) (.cons (.ite (.cmp .gt (.bi .len (.cons (.varB 0) (.nil))) (.varB 1))
(.cons (.set 2 (.bi .int (.cons (.idx (.varB 0) (.varB 1)) (.nil)))) (.nil))
(.nil)) (.cons (.set 3 (.op .mod (.op .add (.op .add (.op .mul (.varB 2) (.con (.int 16807))) (.op .mul (.con (.int 60919)) (.varB 1))) (.con (.int 31))) (.con (.int 2147481173)))) (.cons (.set 3 (.op .add (.op .add (.op .mod (.op .mul (.varB 3) (.varB 3)) (.con (.int 2147481151))) (.op .mul (.con (.int 2)) (.varB 1))) (.con (.int 5)))) (.cons (.ret (.lst (.cons (.ife (.cmp .ge (.varB 2) (.op .pow (.con (.int 10)) (.con (.int 18)))) (.var 2) (.con (.int 0))) (.cons (.var 3) (.nil))))) (.nil))))))
def fd__law_source (I : Ids) : Fd := ⟨2, 4, b__law_source I⟩
def b__law_pick (I : Ids) : CSs :=
(.cons (.ite (.cmp .gt (.idx (.varB 0) (.con (.int 0))) (.con (.int 0)))
(.cons (.set 2 (.op .mod (.bi .int (.cons (.idx (.varB 0) (.con (.int 0))) (.nil))) (.varB 1))) (.cons (.put 0 (.con (.int 0)) (.op .fdiv (.bi .int (.cons (.idx (.varB 0) (.con (.int 0))) (.nil))) (.varB 1))) (.cons (.ret (.var 2)) (.nil))))
(.nil)) (.cons (.put 0 (.con (.int 1)) (.op .mod (.bi .int (.cons (.op .add (.op .mul (.idx (.varB 0) (.con (.int 1))) (.con (.int 44497))) (.con (.int 9973))) (.nil))) (.con (.int 2147483647)))) (.cons (.ret (.op .mod (.op .fdiv (.op .mod (.bi .int (.cons (.op .mul (.idx (.varB 0) (.con (.int 1))) (.idx (.varB 0) (.con (.int 1)))) (.nil))) (.con (.int 2147483399))) (.con (.int 11))) (.varB 1))) (.nil))))
def fd__law_pick (I : Ids) : Fd := ⟨2, 3, b__law_pick I⟩
def b__law_chosen (I : Ids) : CSs :=
(.cons (.ret (.idx (.varB 1) (.call (I.f__law_pick) (.cons (.var 0) (.cons (.bi .len (.cons (.varB 1) (.nil))) (.nil)))))) (.nil))
def fd__law_chosen (I : Ids) : Fd := ⟨2, 2, b__law_chosen I⟩
def b__law_is_bool (I : Ids) : CSs :=
(.cons (.ret (.and (.bi (.isi .bool) (.cons (.varB 0) (.nil))) (.cmp .eq (.varB 0) (.varB 1)))) (.nil))
def fd__law_is_bool (I : Ids) : Fd := ⟨2, 2, b__law_is_bool I⟩
def b__law_wide (I : Ids) : CSs :=
(.cons (.ret (.and (.bi (.isi .tup) (.cons (.varB 0) (.nil))) (.chain .le .le (.varB 1) (.bi .len (.cons (.varB 0) (.nil))) (.varB 2)))) (.nil))
def fd__law_wide (I : Ids) : Fd := ⟨3, 3, b__law_wide I⟩
def b__law_whole (I : Ids) : CSs :=
(.cons (.ret (.and (.bi (.isi .int) (.cons (.varB 0) (.nil))) (.and (.not (.bi (.isi .bool) (.cons (.varB 0) (.nil)))) (.chain .le .le (.varB 1) (.varB 0) (.varB 2))))) (.nil))
def fd__law_whole (I : Ids) : Fd := ⟨3, 3, b__law_whole I⟩
def b__law_good_car (I : Ids) : CSs :=
(.cons (.ite (.or (.not (.call (I.f__law_wide) (.cons (.var 0) (.cons (.con (.int 5)) (.cons (.con (.int 5)) (.nil)))))) (.or (.not (.call (I.f__law_whole) (.cons (.idx (.varB 0) (.con (.int 0))) (.cons (.con (.int 2)) (.cons (.con (.int 40)) (.nil)))))) (.not (.call (I.f__law_whole) (.cons (.idx (.varB 0) (.con (.int 1))) (.cons (.con (.int 2)) (.cons (.con (.int 20)) (.nil))))))))
(.cons (.ret (.con (.bl false))) (.nil))
(.nil)) (.cons (.ite (.or (.cmp .gt (.op .mul (.idx (.varB 0) (.con (.int 0))) (.idx (.varB 0) (.con (.int 1)))) (.con (.int 200))) (.not (.call (I.f__law_whole) (.cons (.idx (.varB 0) (.con (.int 2))) (.cons (.con (.int 1)) (.cons (.con (.int 12)) (.nil)))))))
(.cons (.ret (.con (.bl false))) (.nil))
(.nil)) (.cons (.ret (.and (.call (I.f__law_whole) (.cons (.idx (.varB 0) (.con (.int 3))) (.cons (.con (.int 0)) (.cons (.con (.int 2)) (.nil))))) (.call (I.f__law_whole) (.cons (.idx (.varB 0) (.con (.int 4))) (.cons (.con (.int 0)) (.cons (.con (.int 1)) (.nil))))))) (.nil))))
def fd__law_good_car (I : Ids) : Fd := ⟨1, 1, b__law_good_car I⟩
def b__law_good_note_t0 (I : Ids) : CE :=
.and (.cmp .isn (.idx (.varB 1) (.varB 3)) (.con (.non))) (.not (.call (I.f__law_whole) (.cons (.idx (.varB 1) (.varB 3)) (.cons (.con (.int 0)) (.cons (.op .sub (.idx (.varB 0) (.varB 3)) (.con (.int 1))) (.nil))))))
def b__law_good_note_e0 (I : Ids) : CE :=
.var 3
def b__law_good_note (I : Ids) : CSs :=
(.cons (.ite (.not (.call (I.f__law_wide) (.cons (.var 1) (.cons (.con (.int 2)) (.cons (.con (.int 2)) (.nil))))))
(.cons (.ret (.con (.bl false))) (.nil))
(.nil)) (.cons (.set 2 (.comp (.val (.tup (.cons (.con (.int 0)) (.cons (.con (.int 1)) (.nil))))) (.nm 3) [3] ((b__law_good_note_t0 I)) (b__law_good_note_e0 I))) (.cons (.ret (.cmp .eq (.varB 2) (.lst (.nil)))) (.nil))))
def fd__law_good_note (I : Ids) : Fd := ⟨2, 4, b__law_good_note I⟩
def b__law_good_notes_t0 (I : Ids) : CE :=
.not (.call (I.f__law_good_note) (.cons (.var 0) (.cons (.var 2) (.nil))))
def b__law_good_notes_e0 (I : Ids) : CE :=
.var 2
def b__law_good_notes (I : Ids) : CSs :=
(.cons (.ret (.and (.call (I.f__law_wide) (.cons (.var 1) (.cons (.con (.int 1)) (.cons (.con (.int 8)) (.nil))))) (.cmp .eq (.comp (.val (.varB 1)) (.nm 2) [2] ((b__law_good_notes_t0 I)) (b__law_good_notes_e0 I)) (.lst (.nil))))) (.nil))
def fd__law_good_notes (I : Ids) : Fd := ⟨2, 3, b__law_good_notes I⟩
def b__law_good_drive_t0 (I : Ids) : CE :=
.and (.cmp .isn (.varB 2) (.con (.non))) (.not (.call (I.f__law_whole) (.cons (.var 2) (.cons (.con (.int 0)) (.cons (.idx (.varB 1) (.con (.int 0))) (.nil))))))
def b__law_good_drive_e0 (I : Ids) : CE :=
.var 2
def b__law_good_drive (I : Ids) : CSs :=
(.cons (.ite (.or (.not (.call (I.f__law_wide) (.cons (.var 1) (.cons (.con (.int 3)) (.cons (.con (.int 3)) (.nil)))))) (.not (.call (I.f__law_whole) (.cons (.idx (.varB 1) (.con (.int 0))) (.cons (.con (.int 0)) (.cons (.idx (.varB 0) (.con (.int 2))) (.nil)))))))
(.cons (.ret (.con (.bl false))) (.nil))
(.nil)) (.cons (.ret (.cmp .eq (.comp (.val (.slc (.varB 1) (.con (.int 1)) (.con .non))) (.nm 2) [2] ((b__law_good_drive_t0 I)) (b__law_good_drive_e0 I)) (.lst (.nil)))) (.nil)))
def fd__law_good_drive (I : Ids) : Fd := ⟨2, 3, b__law_good_drive I⟩
def b__law_good_course_t0 (I : Ids) : CE :=
.not (.call (I.f__law_good_drive) (.cons (.var 0) (.cons (.var 2) (.nil))))
def b__law_good_course_e0 (I : Ids) : CE :=
.var 2
def b__law_good_course (I : Ids) : CSs :=
(.cons (.ite (.or (.not (.call (I.f__law_wide) (.cons (.var 1) (.cons (.con (.int 2)) (.cons (.con (.int 2)) (.nil)))))) (.or (.not (.call (I.f__law_good_note) (.cons (.var 0) (.cons (.idx (.varB 1) (.con (.int 0))) (.nil))))) (.cmp .inn (.con (.non)) (.idx (.varB 1) (.con (.int 0))))))
(.cons (.ret (.con (.bl false))) (.nil))
(.nil)) (.cons (.ret (.and (.call (I.f__law_wide) (.cons (.idx (.varB 1) (.con (.int 1))) (.cons (.con (.int 0)) (.cons (.con (.int 7)) (.nil))))) (.cmp .eq (.comp (.val (.idx (.varB 1) (.con (.int 1)))) (.nm 2) [2] ((b__law_good_course_t0 I)) (b__law_good_course_e0 I)) (.lst (.nil))))) (.nil)))
def fd__law_good_course (I : Ids) : Fd := ⟨2, 3, b__law_good_course I⟩
def b__law_car (I : Ids) : CSs :=
(.cons (.unp (.tup [3, 4]) (.call (I.f__law_chosen) (.cons (.var 0) (.cons (.lst (.cons (.tup (.cons (.con (.int 20)) (.cons (.con (.int 10)) (.nil)))) (.cons (.tup (.cons (.con (.int 10)) (.cons (.con (.int 5)) (.nil)))) (.cons (.tup (.cons (.con (.int 12)) (.cons (.con (.int 7)) (.nil)))) (.cons (.tup (.cons (.con (.int 40)) (.cons (.con (.int 4)) (.nil)))) (.cons (.tup (.cons (.con (.int 9)) (.cons (.con (.int 20)) (.nil)))) (.cons (.tup (.cons (.con (.int 3)) (.cons (.con (.int 2)) (.nil)))) (.cons (.tup (.cons (.con (.int 6)) (.cons (.con (.int 4)) (.nil)))) (.cons (.tup (.cons (.con (.int 5)) (.cons (.con (.int 5)) (.nil)))) (.cons (.tup (.cons (.con (.int 8)) (.cons (.con (.int 3)) (.nil)))) (.nil))))))))))) (.nil))))) (.cons (.set 2 (.op .add (.con (.int 1)) (.call (I.f__law_pick) (.cons (.var 0) (.cons (.con (.int 12)) (.nil)))))) (.cons (.ite (.varB 1)
(.cons (.unp (.tup [3, 4]) (.call (I.f__law_chosen) (.cons (.var 0) (.cons (.lst (.cons (.tup (.cons (.con (.int 3)) (.cons (.con (.int 2)) (.nil)))) (.cons (.tup (.cons (.con (.int 4)) (.cons (.con (.int 3)) (.nil)))) (.cons (.tup (.cons (.con (.int 5)) (.cons (.con (.int 3)) (.nil)))) (.cons (.tup (.cons (.con (.int 6)) (.cons (.con (.int 4)) (.nil)))) (.cons (.tup (.cons (.con (.int 2)) (.cons (.con (.int 5)) (.nil)))) (.cons (.tup (.cons (.con (.int 4)) (.cons (.con (.int 4)) (.nil)))) (.nil)))))))) (.nil))))) (.cons (.set 2 (.op .add (.con (.int 1)) (.call (I.f__law_pick) (.cons (.var 0) (.cons (.con (.int 6)) (.nil)))))) (.nil)))
(.nil)) (.cons (.ret (.tup (.cons (.var 3) (.cons (.var 4) (.cons (.var 2) (.cons (.call (I.f__law_chosen) (.cons (.var 0) (.cons (.lst (.cons (.con (.int 0)) (.cons (.con (.int 0)) (.cons (.con (.int 1)) (.cons (.con (.int 1)) (.cons (.con (.int 2)) (.nil))))))) (.nil)))) (.cons (.call (I.f__law_pick) (.cons (.var 0) (.cons (.con (.int 2)) (.nil)))) (.nil)))))))) (.nil)))))
def fd__law_car (I : Ids) : Fd := ⟨2, 5, b__law_car I⟩
def b__law_drive (I : Ids) : CSs :=
(.cons (.par [(3, false), (4, false), (5, false)] (.cons (.call (I.f__law_pick) (.cons (.var 0) (.cons (.op .add (.idx (.varB 1) (.con (.int 2))) (.con (.int 1))) (.nil)))) (.cons (.con (.non)) (.cons (.con (.non)) (.nil))))) (.cons (.ite (.cmp .eq (.call (I.f__law_pick) (.cons (.var 0) (.cons (.con (.int 3)) (.nil)))) (.con (.int 0)))
(.cons (.set 4 (.call (I.f__law_pick) (.cons (.var 0) (.cons (.op .add (.varB 3) (.con (.int 1))) (.nil))))) (.nil))
(.nil)) (.cons (.ite (.varB 2)
(.cons (.set 5 (.call (I.f__law_pick) (.cons (.var 0) (.cons (.op .add (.varB 3) (.con (.int 1))) (.nil))))) (.nil))
(.nil)) (.cons (.ret (.tup (.cons (.var 3) (.cons (.var 4) (.cons (.var 5) (.nil)))))) (.nil)))))
def fd__law_drive (I : Ids) : Fd := ⟨3, 6, b__law_drive I⟩
def b__law_drawn_course_e0 (I : Ids) : CE :=
.call (I.f__law_drive) (.cons (.var 0) (.cons (.var 1) (.cons (.cmp .eq (.varB 5) (.varB 3)) (.nil))))
def b__law_drawn_course (I : Ids) : CSs :=
(.cons (.set 3 (.ife (.cmp .gt (.idx (.varB 1) (.con (.int 4))) (.con (.int 0))) (.call (I.f__law_pick) (.cons (.var 0) (.cons (.op .add (.op .mul (.con (.int 2)) (.varB 2)) (.con (.int 1))) (.nil)))) (.var 2))) (.cons (.set 4 (.bi .tuple (.cons (.comp (.range1 (.varB 2)) (.nm 5) [5] (.con (.bl true)) (b__law_drawn_course_e0 I)) (.nil)))) (.cons (.ret (.tup (.cons (.tup (.cons (.call (I.f__law_pick) (.cons (.var 0) (.cons (.idx (.varB 1) (.con (.int 0))) (.nil)))) (.cons (.call (I.f__law_pick) (.cons (.var 0) (.cons (.idx (.varB 1) (.con (.int 1))) (.nil)))) (.nil)))) (.cons (.var 4) (.nil))))) (.nil))))
def fd__law_drawn_course (I : Ids) : Fd := ⟨3, 6, b__law_drawn_course I⟩
def b__law_shows_l0 (I : Ids) : CSs :=
(.cons (.set 3 (.op .mod (.ife (.cmp .is (.varB 7) (.con (.non))) (.op .add (.varB 3) (.varB 5)) (.varB 7)) (.idx (.varB 0) (.con (.int 0))))) (.cons (.set 4 (.op .mod (.ife (.cmp .is (.varB 6) (.con (.non))) (.op .add (.varB 4) (.varB 5)) (.varB 6)) (.idx (.varB 0) (.con (.int 1))))) (.cons (.app 2 (.tup (.cons (.var 3) (.cons (.var 4) (.nil))))) (.nil))))
def b__law_shows (I : Ids) : CSs :=
(.cons (.unp (.tup [3, 4]) (.idx (.varB 1) (.con (.int 0)))) (.cons (.setO 2 (.lst (.cons (.tup (.cons (.var 3) (.cons (.var 4) (.nil)))) (.nil)))) (.cons (.for_ (.val (.idx (.varB 1) (.con (.int 1)))) (.tup [5, 6, 7]) (b__law_shows_l0 I) [5, 6, 7]) (.cons (.retv 2) (.nil)))))
def fd__law_shows (I : Ids) : Fd := ⟨2, 8, b__law_shows I⟩
def b__law_noted_l0 (I : Ids) : CSs :=
(.cons (.set 8 (.call (I.f__law_pick) (.cons (.var 0) (.cons (.con (.int 9)) (.nil))))) (.cons (.set 9 (.ife (.cmp .gt (.varB 8) (.con (.int 2))) (.idx (.varB 5) (.varB 7)) (.con (.non)))) (.cons (.ite (.and (.cmp .eq (.varB 8) (.con (.int 8))) (.varB 3))
(.cons (.set 9 (.call (I.f__law_pick) (.cons (.var 0) (.cons (.idx (.varB 1) (.varB 7)) (.nil))))) (.nil))
(.nil)) (.cons (.set 6 (.op .add (.varB 6) (.tup (.cons (.var 9) (.nil))))) (.nil)))))
def b__law_noted_l1 (I : Ids) : CSs :=
(.cons (.set 6 (.tup (.nil))) (.cons (.for_ (.val (.tup (.cons (.con (.int 0)) (.cons (.con (.int 1)) (.nil))))) (.nm 7) (b__law_noted_l0 I) [7, 8, 9]) (.cons (.set 4 (.op .add (.varB 4) (.tup (.cons (.var 6) (.nil))))) (.nil))))
def b__law_noted (I : Ids) : CSs :=
(.cons (.set 4 (.tup (.nil))) (.cons (.for_ (.val (.var 2)) (.nm 5) (b__law_noted_l1 I) [5, 6, 7, 8, 9]) (.cons (.ret (.var 4)) (.nil))))
def fd__law_noted (I : Ids) : Fd := ⟨4, 10, b__law_noted I⟩
def b__law_drawn_notes (I : Ids) : CSs :=
(.cons (.set 4 (.call (I.f__law_drawn_course) (.cons (.var 0) (.cons (.var 1) (.cons (.op .sub (.varB 2) (.con (.int 1))) (.nil)))))) (.cons (.ret (.call (I.f__law_noted) (.cons (.var 0) (.cons (.var 1) (.cons (.call (I.f__law_shows) (.cons (.var 1) (.cons (.var 4) (.nil)))) (.cons (.var 3) (.nil))))))) (.nil)))
def fd__law_drawn_notes (I : Ids) : Fd := ⟨4, 5, b__law_drawn_notes I⟩
def b_shown_behind (I : Ids) : CSs :=
(.cons (.unp (.tup [5, 6, 7]) (.var 2)) (.cons (.set 3 (.ife (.cmp .is (.varB 7) (.con (.non))) (.op .add (.idx (.varB 1) (.con (.int 0))) (.varB 5)) (.var 7))) (.cons (.set 4 (.ife (.cmp .is (.varB 6) (.con (.non))) (.op .add (.idx (.varB 1) (.con (.int 1))) (.varB 5)) (.var 6))) (.cons (.ret (.tup (.cons (.op .mod (.varB 3) (.idx (.varB 0) (.con (.int 0)))) (.cons (.op .mod (.varB 4) (.idx (.varB 0) (.con (.int 1)))) (.nil))))) (.nil)))))
def fd_shown_behind (I : Ids) : Fd := ⟨3, 8, b_shown_behind I⟩
def b_need_course (I : Ids) : CSs :=
(.cons (.ite (.or (.not (.call (I.f_is_right_course) (.cons (.var 0) (.cons (.var 1) (.nil))))) (.and (.cmp .isn (.varB 2) (.con (.non))) (.cmp .ne (.bi .len (.cons (.idx (.varB 1) (.con (.int 1))) (.nil))) (.varB 2))))
(.cons (.raise (I.x_InvalidCourse)) (.nil))
(.nil)) (.nil))
def fd_need_course (I : Ids) : Fd := ⟨3, 3, b_need_course I⟩
def b_behind (I : Ids) : CSs :=
(.cons (.exp (.call (I.f_need_car) (.cons (.var 0) (.nil)))) (.cons (.ite (.not (.call (I.f_is_shown) (.cons (.var 0) (.cons (.var 1) (.nil)))))
(.cons (.raise (I.x_InvalidShown)) (.nil))
(.nil)) (.cons (.ite (.not (.call (I.f_is_drive) (.cons (.var 0) (.cons (.var 2) (.nil)))))
(.cons (.raise (I.x_InvalidDrive)) (.nil))
(.nil)) (.cons (.ret (.call (I.f_shown_behind) (.cons (.var 0) (.cons (.var 1) (.cons (.var 2) (.nil)))))) (.nil)))))
def fd_behind (I : Ids) : Fd := ⟨3, 3, b_behind I⟩
def b_truly_shown_l0 (I : Ids) : CSs :=
(.cons (.app 2 (.call (I.f_shown_behind) (.cons (.var 0) (.cons (.idx (.varB 2) (.op .sub (.bi .len (.cons (.varB 2) (.nil))) (.con (.int 1)))) (.cons (.var 3) (.nil)))))) (.nil))
def b_truly_shown (I : Ids) : CSs :=
(.cons (.setO 2 (.lst (.cons (.idx (.varB 1) (.con (.int 0))) (.nil)))) (.cons (.for_ (.val (.idx (.varB 1) (.con (.int 1)))) (.nm 3) (b_truly_shown_l0 I) [3]) (.cons (.retv 2) (.nil))))
def fd_truly_shown (I : Ids) : Fd := ⟨2, 4, b_truly_shown I⟩
def b_shown_at (I : Ids) : CSs :=
(.cons (.exp (.call (I.f_need_car) (.cons (.var 0) (.nil)))) (.cons (.exp (.call (I.f_need_course) (.cons (.var 0) (.cons (.var 1) (.cons (.con (.non)) (.nil)))))) (.cons (.ret (.call (I.f_truly_shown) (.cons (.var 0) (.cons (.var 1) (.nil))))) (.nil))))
def fd_shown_at (I : Ids) : Fd := ⟨2, 2, b_shown_at I⟩
def b_need_notes (I : Ids) : CSs :=
(.cons (.ite (.not (.call (I.f_are_right_notes) (.cons (.var 0) (.cons (.var 1) (.nil)))))
(.cons (.raise (I.x_InvalidNotes)) (.nil))
(.nil)) (.nil))
def fd_need_notes (I : Ids) : Fd := ⟨2, 2, b_need_notes I⟩
def b_steps_from_e0 (I : Ids) : CE :=
.tup (.cons (.con (.bl true)) (.cons (.var 8) (.nil)))
def b_steps_from_e1 (I : Ids) : CE :=
.tup (.cons (.con (.bl true)) (.cons (.var 8) (.nil)))
def b_steps_from_e2 (I : Ids) : CE :=
.tup (.cons (.tup (.cons (.var 3) (.cons (.var 9) (.cons (.var 6) (.nil))))) (.cons (.tup (.cons (.var 7) (.cons (.var 10) (.nil)))) (.nil)))
def b_steps_from_l0 (I : Ids) : CSs :=
(.cons (.set 2 (.op .add (.varB 2) (.comp (.val (.varB 4)) (.tup [9, 10]) [9, 10] (.con (.bl true)) (b_steps_from_e2 I)))) (.nil))
def b_steps_from_l1 (I : Ids) : CSs :=
(.cons (.set 4 (.op .add (.lst (.cons (.tup (.cons (.con (.bl false)) (.cons (.op .mod (.op .add (.idx (.varB 1) (.con (.int 1))) (.varB 3)) (.idx (.varB 0) (.con (.int 1)))) (.nil)))) (.nil))) (.comp (.range1 (.bi .min (.cons (.op .add (.varB 3) (.con (.int 1))) (.cons (.idx (.varB 0) (.con (.int 1))) (.nil))))) (.nm 8) [8] (.con (.bl true)) (b_steps_from_e0 I)))) (.cons (.set 5 (.lst (.cons (.tup (.cons (.con (.bl false)) (.cons (.op .mod (.op .add (.idx (.varB 1) (.con (.int 0))) (.varB 3)) (.idx (.varB 0) (.con (.int 0)))) (.nil)))) (.nil)))) (.cons (.ite (.cmp .gt (.idx (.varB 0) (.con (.int 4))) (.con (.int 0)))
(.cons (.set 5 (.op .add (.varB 5) (.comp (.range1 (.bi .min (.cons (.op .add (.varB 3) (.con (.int 1))) (.cons (.idx (.varB 0) (.con (.int 0))) (.nil))))) (.nm 8) [8] (.con (.bl true)) (b_steps_from_e1 I)))) (.nil))
(.nil)) (.cons (.for_ (.val (.var 5)) (.tup [6, 7]) (b_steps_from_l0 I) [6, 7, 9, 10]) (.nil)))))
def b_steps_from (I : Ids) : CSs :=
(.cons (.set 2 (.lst (.nil))) (.cons (.for_ (.range1 (.op .add (.idx (.varB 0) (.con (.int 2))) (.con (.int 1)))) (.nm 3) (b_steps_from_l1 I) [3, 4, 5, 6, 7, 8, 9, 10]) (.cons (.ret (.var 2)) (.nil))))
def fd_steps_from (I : Ids) : Fd := ⟨2, 11, b_steps_from I⟩
def b_slips_at_t0 (I : Ids) : CE :=
.and (.cmp .isn (.idx (.varB 0) (.varB 2)) (.con (.non))) (.cmp .ne (.idx (.varB 0) (.varB 2)) (.idx (.varB 1) (.varB 2)))
def b_slips_at_e0 (I : Ids) : CE :=
.var 2
def b_slips_at (I : Ids) : CSs :=
(.cons (.ret (.bi .len (.cons (.comp (.val (.tup (.cons (.con (.int 0)) (.cons (.con (.int 1)) (.nil))))) (.nm 2) [2] ((b_slips_at_t0 I)) (b_slips_at_e0 I)) (.nil)))) (.nil))
def fd_slips_at (I : Ids) : Fd := ⟨2, 3, b_slips_at I⟩
def b_first_stands_e0 (I : Ids) : CE :=
.tup (.cons (.var 3) (.cons (.var 5) (.nil)))
def b_first_stands_l0 (I : Ids) : CSs :=
(.cons (.set 2 (.op .add (.varB 2) (.comp (.range1 (.idx (.varB 0) (.con (.int 1)))) (.nm 5) [5] (.con (.bl true)) (b_first_stands_e0 I)))) (.nil))
def b_first_stands_t0 (I : Ids) : CE :=
.cmp .le (.call (I.f_slips_at) (.cons (.var 1) (.cons (.var 4) (.nil)))) (.idx (.varB 0) (.con (.int 3)))
def b_first_stands_e1 (I : Ids) : CE :=
.tup (.cons (.var 4) (.cons (.call (I.f_slips_at) (.cons (.var 1) (.cons (.var 4) (.nil)))) (.cons (.con (.int 0)) (.nil))))
def b_first_stands (I : Ids) : CSs :=
(.cons (.set 2 (.lst (.nil))) (.cons (.for_ (.range1 (.idx (.varB 0) (.con (.int 0)))) (.nm 3) (b_first_stands_l0 I) [3, 5]) (.cons (.ret (.comp (.val (.varB 2)) (.nm 4) [4] ((b_first_stands_t0 I)) (b_first_stands_e1 I))) (.nil))))
def fd_first_stands (I : Ids) : Fd := ⟨2, 6, b_first_stands I⟩
def b_stands_behind_l0 (I : Ids) : CSs :=
(.cons (.set 9 (.op .add (.varB 5) (.call (I.f_slips_at) (.cons (.var 1) (.cons (.var 8) (.nil)))))) (.cons (.ite (.and (.cmp .le (.varB 9) (.idx (.varB 0) (.con (.int 3)))) (.cmp .le (.op .add (.varB 6) (.bi .int (.cons (.idx (.varB 7) (.con (.int 2))) (.nil)))) (.idx (.varB 0) (.con (.int 4)))))
(.cons (.app 3 (.tup (.cons (.var 7) (.cons (.tup (.cons (.var 8) (.cons (.var 9) (.cons (.op .add (.varB 6) (.bi .int (.cons (.idx (.varB 7) (.con (.int 2))) (.nil)))) (.nil))))) (.nil))))) (.nil))
(.nil)) (.nil)))
def b_stands_behind (I : Ids) : CSs :=
(.cons (.unp (.tup [4, 5, 6]) (.var 2)) (.cons (.setO 3 (.lst (.nil))) (.cons (.for_ (.val (.call (I.f_steps_from) (.cons (.var 0) (.cons (.var 4) (.nil))))) (.tup [7, 8]) (b_stands_behind_l0 I) [7, 8, 9]) (.cons (.retv 3) (.nil)))))
def fd_stands_behind (I : Ids) : Fd := ⟨3, 10, b_stands_behind I⟩
def b_layers_e0 (I : Ids) : CE :=
.tup (.cons (.var 5) (.cons (.con (.bl true)) (.nil)))
def b_layers_l0 (I : Ids) : CSs :=
(.cons (.put 4 (.varB 7) (.con (.bl true))) (.nil))
def b_layers_l1 (I : Ids) : CSs :=
(.cons (.for_ (.val (.call (I.f_stands_behind) (.cons (.var 0) (.cons (.var 3) (.cons (.var 5) (.nil)))))) (.tup [6, 7]) (b_layers_l0 I) [6, 7]) (.nil))
def b_layers_l2 (I : Ids) : CSs :=
(.cons (.setO 4 (.dct0)) (.cons (.for_ (.val (.idx (.varB 2) (.op .sub (.bi .len (.cons (.varB 2) (.nil))) (.con (.int 1))))) (.nm 5) (b_layers_l1 I) [6, 7]) (.frz 4 (.cons (.app 2 (.var 4)) (.nil)))))
def b_layers (I : Ids) : CSs :=
(.cons (.setO 2 (.lst (.cons (.bi .dict (.cons (.comp (.val (.call (I.f_first_stands) (.cons (.var 0) (.cons (.idx (.varB 1) (.con (.int 0))) (.nil))))) (.nm 5) [5] (.con (.bl true)) (b_layers_e0 I)) (.nil))) (.nil)))) (.cons (.for_ (.val (.slc (.varB 1) (.con (.int 1)) (.con .non))) (.nm 3) (b_layers_l2 I) [3, 4, 6, 7]) (.cons (.retv 2) (.nil))))
def fd_layers (I : Ids) : Fd := ⟨2, 8, b_layers I⟩
def b_edges_l0 (I : Ids) : CSs :=
(.cons (.ite (.cmp .inn (.varB 9) (.varB 4))
(.cons (.app 6 (.tup (.cons (.var 7) (.cons (.var 8) (.cons (.var 9) (.nil)))))) (.nil))
(.nil)) (.nil))
def b_edges_l1 (I : Ids) : CSs :=
(.cons (.for_ (.val (.call (I.f_stands_behind) (.cons (.var 0) (.cons (.idx (.varB 1) (.op .add (.varB 5) (.con (.int 1)))) (.cons (.var 7) (.nil)))))) (.tup [8, 9]) (b_edges_l0 I) [8, 9]) (.nil))
def b_edges_e0 (I : Ids) : CE :=
.tup (.cons (.idx (.varB 10) (.con (.int 0))) (.cons (.con (.bl true)) (.nil)))
def b_edges_l2 (I : Ids) : CSs :=
(.cons (.setO 6 (.lst (.nil))) (.cons (.for_ (.val (.idx (.varB 3) (.varB 5))) (.nm 7) (b_edges_l1 I) [7, 8, 9]) (.cons (.set 4 (.bi .dict (.cons (.comp (.val (.varB 6)) (.nm 10) [10] (.con (.bl true)) (b_edges_e0 I)) (.nil)))) (.frz 6 (.cons (.set 2 (.op .add (.lst (.cons (.var 6) (.nil))) (.varB 2))) (.nil))))))
def b_edges (I : Ids) : CSs :=
(.cons (.set 2 (.lst (.nil))) (.cons (.set 3 (.call (I.f_layers) (.cons (.var 0) (.cons (.var 1) (.nil))))) (.cons (.set 4 (.idx (.varB 3) (.op .sub (.bi .len (.cons (.varB 3) (.nil))) (.con (.int 1))))) (.cons (.for_ (.ranged (.op .sub (.bi .len (.cons (.varB 1) (.nil))) (.con (.int 2))) (.neg (.con (.int 1)))) (.nm 5) (b_edges_l2 I) [5, 6, 7, 8, 9, 10]) (.cons (.ret (.var 2)) (.nil))))))
def fd_edges (I : Ids) : Fd := ⟨2, 11, b_edges I⟩
def b_do_fit (I : Ids) : CSs :=
(.cons (.set 2 (.call (I.f_layers) (.cons (.var 0) (.cons (.var 1) (.nil))))) (.cons (.ret (.cmp .gt (.bi .len (.cons (.idx (.varB 2) (.op .sub (.bi .len (.cons (.varB 2) (.nil))) (.con (.int 1)))) (.nil))) (.con (.int 0)))) (.nil)))
def fd_do_fit (I : Ids) : Fd := ⟨2, 3, b_do_fit I⟩
def b_drive_of (I : Ids) : CSs :=
(.cons (.unp (.tup [2, 3, 4]) (.var 0)) (.cons (.ret (.tup (.cons (.var 2) (.cons (.ife (.varB 3) (.idx (.varB 1) (.con (.int 1))) (.con (.non))) (.cons (.ife (.varB 4) (.idx (.varB 1) (.con (.int 0))) (.con (.non))) (.nil)))))) (.nil)))
def fd_drive_of (I : Ids) : Fd := ⟨2, 5, b_drive_of I⟩
def b_one_course_l0 (I : Ids) : CSs :=
(.cons (.ite (.or (.cmp .is (.varB 3) (.con (.non))) (.cmp .eq (.varB 6) (.varB 3)))
(.cons (.set 5 (.ife (.cmp .is (.varB 5) (.con (.non))) (.idx (.varB 6) (.con (.int 0))) (.var 5))) (.cons (.set 4 (.op .add (.varB 4) (.tup (.cons (.call (I.f_drive_of) (.cons (.var 7) (.cons (.idx (.varB 8) (.con (.int 0))) (.nil)))) (.nil))))) (.cons (.set 3 (.var 8)) (.cons (.brk) (.nil)))))
(.nil)) (.nil))
def b_one_course_l1 (I : Ids) : CSs :=
(.cons (.for_ (.val (.var 2)) (.tup [6, 7, 8]) (b_one_course_l0 I) [6, 7, 8]) (.nil))
def b_one_course (I : Ids) : CSs :=
(.cons (.ite (.not (.call (I.f_do_fit) (.cons (.var 0) (.cons (.var 1) (.nil)))))
(.cons (.ret (.con (.non))) (.nil))
(.nil)) (.cons (.ite (.cmp .eq (.bi .len (.cons (.varB 1) (.nil))) (.con (.int 1)))
(.cons (.ret (.tup (.cons (.idx (.idx (.call (I.f_first_stands) (.cons (.var 0) (.cons (.idx (.varB 1) (.con (.int 0))) (.nil)))) (.con (.int 0))) (.con (.int 0))) (.cons (.tup (.nil)) (.nil))))) (.nil))
(.nil)) (.cons (.unp (.tup [3, 4, 5]) (.tup (.cons (.con (.non)) (.cons (.tup (.nil)) (.cons (.con (.non)) (.nil)))))) (.cons (.for_ (.val (.call (I.f_edges) (.cons (.var 0) (.cons (.var 1) (.nil))))) (.nm 2) (b_one_course_l1 I) [2, 6, 7, 8]) (.cons (.ret (.tup (.cons (.var 5) (.cons (.var 4) (.nil))))) (.nil))))))
def fd_one_course (I : Ids) : Fd := ⟨2, 9, b_one_course I⟩
def b_is_fitting_e0 (I : Ids) : CE :=
.call (I.f_slips_at) (.cons (.var 6) (.cons (.var 7) (.nil)))
def b_is_fitting_t0 (I : Ids) : CE :=
.cmp .isn (.idx (.varB 5) (.con (.int 2))) (.con (.non))
def b_is_fitting_e1 (I : Ids) : CE :=
.var 5
def b_is_fitting (I : Ids) : CSs :=
(.cons (.set 3 (.bi .sum (.cons (.comp (.zip (.varB 1) (.call (I.f_truly_shown) (.cons (.var 0) (.cons (.var 2) (.nil))))) (.tup [6, 7]) [6, 7] (.con (.bl true)) (b_is_fitting_e0 I)) (.nil)))) (.cons (.set 4 (.bi .len (.cons (.comp (.val (.idx (.varB 2) (.con (.int 1)))) (.nm 5) [5] ((b_is_fitting_t0 I)) (b_is_fitting_e1 I)) (.nil)))) (.cons (.ret (.and (.cmp .le (.varB 3) (.idx (.varB 0) (.con (.int 3)))) (.cmp .le (.varB 4) (.idx (.varB 0) (.con (.int 4)))))) (.nil))))
def fd_is_fitting (I : Ids) : Fd := ⟨3, 8, b_is_fitting I⟩
def b_fits (I : Ids) : CSs :=
(.cons (.exp (.call (I.f_need_car) (.cons (.var 0) (.nil)))) (.cons (.exp (.call (I.f_need_notes) (.cons (.var 0) (.cons (.var 1) (.nil))))) (.cons (.exp (.call (I.f_need_course) (.cons (.var 0) (.cons (.var 2) (.cons (.op .sub (.bi .len (.cons (.varB 1) (.nil))) (.con (.int 1))) (.nil)))))) (.cons (.ret (.call (I.f_is_fitting) (.cons (.var 0) (.cons (.var 1) (.cons (.var 2) (.nil)))))) (.nil)))))
def fd_fits (I : Ids) : Fd := ⟨3, 3, b_fits I⟩
def b_can_be (I : Ids) : CSs :=
(.cons (.exp (.call (I.f_need_car) (.cons (.var 0) (.nil)))) (.cons (.exp (.call (I.f_need_notes) (.cons (.var 0) (.cons (.var 1) (.nil))))) (.cons (.ret (.call (I.f_do_fit) (.cons (.var 0) (.cons (.var 1) (.nil))))) (.nil))))
def fd_can_be (I : Ids) : Fd := ⟨2, 2, b_can_be I⟩
def b_course_for (I : Ids) : CSs :=
(.cons (.exp (.call (I.f_need_car) (.cons (.var 0) (.nil)))) (.cons (.exp (.call (I.f_need_notes) (.cons (.var 0) (.cons (.var 1) (.nil))))) (.cons (.ret (.call (I.f_one_course) (.cons (.var 0) (.cons (.var 1) (.nil))))) (.nil))))
def fd_course_for (I : Ids) : Fd := ⟨2, 2, b_course_for I⟩
def b__law_misses_e0 (I : Ids) : CE :=
.bi .int (.cons (.and (.cmp .isn (.idx (.varB 0) (.varB 2)) (.con (.non))) (.cmp .ne (.idx (.varB 0) (.varB 2)) (.idx (.varB 1) (.varB 2)))) (.nil))
def b__law_misses (I : Ids) : CSs :=
(.cons (.ret (.bi .sum (.cons (.comp (.val (.tup (.cons (.con (.int 0)) (.cons (.con (.int 1)) (.nil))))) (.nm 2) [2] (.con (.bl true)) (b__law_misses_e0 I)) (.nil)))) (.nil))
def fd__law_misses (I : Ids) : Fd := ⟨2, 3, b__law_misses I⟩
def b__law_is_fit_e0 (I : Ids) : CE :=
.call (I.f__law_misses) (.cons (.var 4) (.cons (.var 5) (.nil)))
def b__law_is_fit_t0 (I : Ids) : CE :=
.cmp .isn (.idx (.varB 6) (.con (.int 2))) (.con (.non))
def b__law_is_fit_e1 (I : Ids) : CE :=
.var 6
def b__law_is_fit (I : Ids) : CSs :=
(.cons (.set 3 (.bi .sum (.cons (.comp (.zip (.varB 1) (.call (I.f__law_shows) (.cons (.var 0) (.cons (.var 2) (.nil))))) (.tup [4, 5]) [4, 5] (.con (.bl true)) (b__law_is_fit_e0 I)) (.nil)))) (.cons (.ret (.and (.cmp .le (.varB 3) (.idx (.varB 0) (.con (.int 3)))) (.cmp .le (.bi .len (.cons (.comp (.val (.idx (.varB 2) (.con (.int 1)))) (.nm 6) [6] ((b__law_is_fit_t0 I)) (b__law_is_fit_e1 I)) (.nil))) (.idx (.varB 0) (.con (.int 4)))))) (.nil)))
def fd__law_is_fit (I : Ids) : Fd := ⟨3, 7, b__law_is_fit I⟩
def b__law_drives_l0 (I : Ids) : CSs :=
(.cons (.set 6 (.ife (.cmp .is (.varB 4) (.con (.non))) (.con (.non)) (.op .mod (.varB 4) (.idx (.varB 0) (.con (.int 1)))))) (.cons (.set 7 (.ife (.cmp .is (.varB 5) (.con (.non))) (.con (.non)) (.op .mod (.varB 5) (.idx (.varB 0) (.con (.int 0)))))) (.cons (.ite (.cmp .nin (.tup (.cons (.var 1) (.cons (.var 6) (.cons (.var 7) (.nil))))) (.varB 3))
(.cons (.put 3 (.tup (.cons (.var 1) (.cons (.var 6) (.cons (.var 7) (.nil))))) (.con (.bl true))) (.cons (.app 2 (.tup (.cons (.var 1) (.cons (.var 4) (.cons (.var 5) (.nil)))))) (.nil)))
(.nil)) (.nil))))
def b__law_drives_l1 (I : Ids) : CSs :=
(.cons (.for_ (.val (.op .add (.lst (.cons (.con (.non)) (.nil))) (.ife (.cmp .gt (.idx (.varB 0) (.con (.int 4))) (.con (.int 0))) (.listr (.op .add (.varB 1) (.con (.int 1)))) (.lst (.nil))))) (.nm 5) (b__law_drives_l0 I) [5, 6, 7]) (.nil))
def b__law_drives_l2 (I : Ids) : CSs :=
(.cons (.for_ (.val (.op .add (.lst (.cons (.con (.non)) (.nil))) (.listr (.op .add (.varB 1) (.con (.int 1)))))) (.nm 4) (b__law_drives_l1 I) [4, 5, 6, 7]) (.nil))
def b__law_drives (I : Ids) : CSs :=
(.cons (.par [(2, true), (3, true)] (.cons (.lst (.nil)) (.cons (.dct0) (.nil)))) (.cons (.for_ (.range1 (.op .add (.idx (.varB 0) (.con (.int 2))) (.con (.int 1)))) (.nm 1) (b__law_drives_l2 I) [1, 4, 5, 6, 7]) (.cons (.retv 2) (.nil))))
def fd__law_drives (I : Ids) : Fd := ⟨1, 8, b__law_drives I⟩
def b__law_ways_l0 (I : Ids) : CSs :=
(.cons (.set 9 (.tup (.cons (.op .fdiv (.varB 2) (.idx (.varB 0) (.con (.int 1)))) (.cons (.op .mod (.varB 2) (.idx (.varB 0) (.con (.int 1)))) (.nil))))) (.cons (.ite (.cmp .le (.call (I.f__law_misses) (.cons (.idx (.varB 1) (.con (.int 0))) (.cons (.var 9) (.nil)))) (.idx (.varB 0) (.con (.int 3))))
(.cons (.put 6 (.tup (.cons (.var 9) (.cons (.call (I.f__law_misses) (.cons (.idx (.varB 1) (.con (.int 0))) (.cons (.var 9) (.nil)))) (.cons (.con (.int 0)) (.nil))))) (.con (.bl true))) (.nil))
(.nil)) (.nil)))
def b__law_ways_l1 (I : Ids) : CSs :=
(.cons (.set 14 (.call (I.f__law_next) (.cons (.var 0) (.cons (.var 3) (.cons (.var 10) (.cons (.var 13) (.nil))))))) (.cons (.ite (.cmp .isn (.varB 14) (.con (.non)))
(.cons (.app 11 (.tup (.cons (.var 10) (.cons (.var 13) (.cons (.var 14) (.nil)))))) (.cons (.put 12 (.varB 14) (.con (.bl true))) (.nil)))
(.nil)) (.nil)))
def b__law_ways_l2 (I : Ids) : CSs :=
(.cons (.for_ (.val (.var 8)) (.nm 13) (b__law_ways_l1 I) [13, 14]) (.nil))
def b__law_ways_l3 (I : Ids) : CSs :=
(.cons (.par [(11, true), (12, true)] (.cons (.lst (.nil)) (.cons (.dct0) (.nil)))) (.frz 6 (.cons (.for_ (.val (.var 6)) (.nm 10) (b__law_ways_l2 I) [10, 13, 14]) (.frz 11 (.cons (.app 7 (.var 11)) (.frz 12 (.cons (.setO 6 (.var 12)) (.nil))))))))
def b__law_ways_t0 (I : Ids) : CE :=
.cmp .inn (.idx (.varB 15) (.con (.int 2))) (.varB 4)
def b__law_ways_e0 (I : Ids) : CE :=
.var 15
def b__law_ways_e1 (I : Ids) : CE :=
.tup (.cons (.idx (.varB 15) (.con (.int 0))) (.cons (.con (.bl true)) (.nil)))
def b__law_ways_l4 (I : Ids) : CSs :=
(.cons (.put 7 (.varB 5) (.comp (.val (.idx (.varB 7) (.varB 5))) (.nm 15) [15] ((b__law_ways_t0 I)) (b__law_ways_e0 I))) (.cons (.set 4 (.bi .dict (.cons (.comp (.val (.idx (.varB 7) (.varB 5))) (.nm 15) [15] (.con (.bl true)) (b__law_ways_e1 I)) (.nil)))) (.nil)))
def b__law_ways (I : Ids) : CSs :=
(.cons (.par [(6, true), (7, true), (8, false)] (.cons (.dct0) (.cons (.lst (.nil)) (.cons (.call (I.f__law_drives) (.cons (.var 0) (.nil))) (.nil))))) (.cons (.for_ (.range1 (.op .mul (.idx (.varB 0) (.con (.int 0))) (.idx (.varB 0) (.con (.int 1))))) (.nm 2) (b__law_ways_l0 I) [2, 9]) (.cons (.for_ (.val (.slc (.varB 1) (.con (.int 1)) (.con .non))) (.nm 3) (b__law_ways_l3 I) [3, 10, 11, 12, 13, 14]) (.frz 6 (.cons (.set 4 (.var 6)) (.cons (.for_ (.ranged (.op .sub (.bi .len (.cons (.varB 7) (.nil))) (.con (.int 1))) (.neg (.con (.int 1)))) (.nm 5) (b__law_ways_l4 I) [5, 15]) (.cons (.retv 7) (.nil))))))))
def fd__law_ways (I : Ids) : Fd := ⟨2, 16, b__law_ways I⟩
def b__law_next (I : Ids) : CSs :=
(.cons (.unp (.tup [5, 6, 7]) (.var 2)) (.cons (.set 4 (.idx (.call (I.f__law_shows) (.cons (.var 0) (.cons (.tup (.cons (.var 5) (.cons (.tup (.cons (.var 3) (.nil))) (.nil)))) (.nil)))) (.con (.int 1)))) (.cons (.par [(6, false), (7, false)] (.cons (.op .add (.varB 6) (.call (I.f__law_misses) (.cons (.var 1) (.cons (.var 4) (.nil))))) (.cons (.op .add (.varB 7) (.bi .int (.cons (.cmp .isn (.idx (.varB 3) (.con (.int 2))) (.con (.non))) (.nil)))) (.nil)))) (.cons (.ret (.ife (.and (.cmp .le (.varB 6) (.idx (.varB 0) (.con (.int 3)))) (.cmp .le (.varB 7) (.idx (.varB 0) (.con (.int 4))))) (.tup (.cons (.var 4) (.cons (.var 6) (.cons (.var 7) (.nil))))) (.con (.non)))) (.nil)))))
def fd__law_next (I : Ids) : Fd := ⟨4, 8, b__law_next I⟩
def b_need_index (I : Ids) : CSs :=
(.cons (.ite (.not (.call (I.f_is_whole) (.cons (.var 1) (.cons (.con (.int 0)) (.cons (.op .sub (.varB 0) (.con (.int 1))) (.nil))))))
(.cons (.raise (I.x_InvalidIndex)) (.nil))
(.nil)) (.nil))
def fd_need_index (I : Ids) : Fd := ⟨2, 2, b_need_index I⟩
def b_lengths_of_e0 (I : Ids) : CE :=
.idx (.varB 4) (.con (.int 0))
def b_lengths_of (I : Ids) : CSs :=
(.cons (.ret (.sortset (.comp (.val (.idx (.call (I.f_edges) (.cons (.var 0) (.cons (.var 1) (.nil)))) (.varB 2))) (.tup [3, 4, 5]) [3, 4, 5] (.con (.bl true)) (b_lengths_of_e0 I)))) (.nil))
def fd_lengths_of (I : Ids) : Fd := ⟨3, 6, b_lengths_of I⟩
def b_sums_l0 (I : Ids) : CSs :=
(.cons (.put 6 (.varB 8) (.con (.int 0))) (.cons (.put 7 (.varB 8) (.con (.int 0))) (.nil)))
def b_sums_l1 (I : Ids) : CSs :=
(.cons (.put 11 (.varB 10) (.bi .min (.cons (.mt .get (.varB 11) (.cons (.var 10) (.cons (.op .add (.idx (.varB 6) (.varB 8)) (.idx (.varB 9) (.con (.int 0)))) (.nil)))) (.cons (.op .add (.idx (.varB 6) (.varB 8)) (.idx (.varB 9) (.con (.int 0)))) (.nil))))) (.cons (.put 12 (.varB 10) (.bi .max (.cons (.mt .get (.varB 12) (.cons (.var 10) (.cons (.con (.int 0)) (.nil)))) (.cons (.op .add (.idx (.varB 7) (.varB 8)) (.idx (.varB 9) (.con (.int 0)))) (.nil))))) (.nil)))
def b_sums_l2 (I : Ids) : CSs :=
(.cons (.par [(11, true), (12, true)] (.cons (.dct0) (.cons (.dct0) (.nil)))) (.cons (.for_ (.val (.var 5)) (.tup [8, 9, 10]) (b_sums_l1 I) []) (.frz 11 (.frz 12 (.cons (.par [(6, true), (7, true)] (.cons (.var 11) (.cons (.var 12) (.nil)))) (.nil))))))
def b_sums (I : Ids) : CSs :=
(.cons (.ite (.not (.call (I.f_do_fit) (.cons (.var 0) (.cons (.var 1) (.nil)))))
(.cons (.ret (.con (.non))) (.nil))
(.nil)) (.cons (.ite (.cmp .eq (.varB 2) (.varB 3))
(.cons (.ret (.tup (.cons (.con (.int 0)) (.cons (.con (.int 0)) (.nil))))) (.nil))
(.nil)) (.cons (.set 4 (.slc (.call (I.f_edges) (.cons (.var 0) (.cons (.var 1) (.nil)))) (.varB 2) (.varB 3))) (.cons (.par [(6, true), (7, true)] (.cons (.dct0) (.cons (.dct0) (.nil)))) (.cons (.for_ (.val (.idx (.varB 4) (.con (.int 0)))) (.tup [8, 9, 10]) (b_sums_l0 I) []) (.cons (.for_ (.val (.var 4)) (.nm 5) (b_sums_l2 I) [5, 11, 12]) (.cons (.ret (.tup (.cons (.minv (.varB 6)) (.cons (.maxv (.varB 7)) (.nil))))) (.nil))))))))
def fd_sums (I : Ids) : Fd := ⟨4, 13, b_sums I⟩
def b_lengths (I : Ids) : CSs :=
(.cons (.exp (.call (I.f_need_car) (.cons (.var 0) (.nil)))) (.cons (.exp (.call (I.f_need_notes) (.cons (.var 0) (.cons (.var 1) (.nil))))) (.cons (.exp (.call (I.f_need_index) (.cons (.op .sub (.bi .len (.cons (.varB 1) (.nil))) (.con (.int 1))) (.cons (.var 2) (.nil))))) (.cons (.ret (.call (I.f_lengths_of) (.cons (.var 0) (.cons (.var 1) (.cons (.var 2) (.nil)))))) (.nil)))))
def fd_lengths (I : Ids) : Fd := ⟨3, 3, b_lengths I⟩
def b_distance (I : Ids) : CSs :=
(.cons (.exp (.call (I.f_need_car) (.cons (.var 0) (.nil)))) (.cons (.exp (.call (I.f_need_notes) (.cons (.var 0) (.cons (.var 1) (.nil))))) (.cons (.exp (.call (I.f_need_index) (.cons (.bi .len (.cons (.varB 1) (.nil))) (.cons (.var 2) (.nil))))) (.cons (.exp (.call (I.f_need_index) (.cons (.bi .len (.cons (.varB 1) (.nil))) (.cons (.var 3) (.nil))))) (.cons (.ite (.cmp .lt (.varB 3) (.varB 2))
(.cons (.raise (I.x_InvalidIndex)) (.nil))
(.nil)) (.cons (.ret (.call (I.f_sums) (.cons (.var 0) (.cons (.var 1) (.cons (.var 2) (.cons (.var 3) (.nil))))))) (.nil)))))))
def fd_distance (I : Ids) : Fd := ⟨4, 4, b_distance I⟩
def b_is_word (I : Ids) : CSs :=
(.cons (.ret (.and (.bi (.isi .str) (.cons (.varB 0) (.nil))) (.cmp .inn (.varB 0) (.varB 1)))) (.nil))
def fd_is_word (I : Ids) : Fd := ⟨2, 2, b_is_word I⟩
def b_last_stands_e0 (I : Ids) : CE :=
.tup (.cons (.idx (.varB 4) (.con (.int 0))) (.cons (.con (.bl true)) (.nil)))
def b_last_stands_e1 (I : Ids) : CE :=
.tup (.cons (.idx (.varB 4) (.con (.int 2))) (.cons (.con (.bl true)) (.nil)))
def b_last_stands (I : Ids) : CSs :=
(.cons (.ite (.cmp .eq (.bi .len (.cons (.varB 1) (.nil))) (.con (.int 1)))
(.cons (.ret (.call (I.f_first_stands) (.cons (.var 0) (.cons (.idx (.varB 1) (.con (.int 0))) (.nil))))) (.nil))
(.nil)) (.cons (.set 3 (.call (I.f_edges) (.cons (.var 0) (.cons (.var 1) (.nil))))) (.cons (.ite (.cmp .lt (.varB 2) (.bi .len (.cons (.varB 3) (.nil))))
(.cons (.ret (.bi .list (.cons (.bi .dict (.cons (.comp (.val (.idx (.varB 3) (.varB 2))) (.nm 4) [4] (.con (.bl true)) (b_last_stands_e0 I)) (.nil))) (.nil)))) (.nil))
(.nil)) (.cons (.ret (.bi .list (.cons (.bi .dict (.cons (.comp (.val (.idx (.varB 3) (.op .sub (.varB 2) (.con (.int 1))))) (.nm 4) [4] (.con (.bl true)) (b_last_stands_e1 I)) (.nil))) (.nil)))) (.nil)))))
def fd_last_stands (I : Ids) : Fd := ⟨3, 5, b_last_stands I⟩
def b_word_for (I : Ids) : CSs :=
(.cons (.ite (.not (.bi .any (.cons (.varB 0) (.nil))))
(.cons (.ret (.con (.str "never"))) (.nil))
(.nil)) (.cons (.ret (.ife (.bi .all (.cons (.varB 0) (.nil))) (.con (.str "sure")) (.con (.str "perhaps")))) (.nil)))
def fd_word_for (I : Ids) : Fd := ⟨1, 1, b_word_for I⟩
def b_set_back_e0 (I : Ids) : CE :=
.idx (.varB 4) (.con (.int 1))
def b_set_back (I : Ids) : CSs :=
(.cons (.exp (.call (I.f_need_car) (.cons (.var 0) (.nil)))) (.cons (.exp (.call (I.f_need_notes) (.cons (.var 0) (.cons (.var 1) (.nil))))) (.cons (.exp (.call (I.f_need_index) (.cons (.op .sub (.bi .len (.cons (.varB 1) (.nil))) (.con (.int 1))) (.cons (.var 2) (.nil))))) (.cons (.ret (.call (I.f_word_for) (.cons (.comp (.val (.idx (.call (I.f_edges) (.cons (.var 0) (.cons (.var 1) (.nil)))) (.varB 2))) (.tup [3, 4, 5]) [3, 4, 5] (.con (.bl true)) (b_set_back_e0 I)) (.nil)))) (.nil)))))
def fd_set_back (I : Ids) : Fd := ⟨3, 6, b_set_back I⟩
def b_exchanged_e0 (I : Ids) : CE :=
.idx (.varB 4) (.con (.int 2))
def b_exchanged (I : Ids) : CSs :=
(.cons (.exp (.call (I.f_need_car) (.cons (.var 0) (.nil)))) (.cons (.exp (.call (I.f_need_notes) (.cons (.var 0) (.cons (.var 1) (.nil))))) (.cons (.exp (.call (I.f_need_index) (.cons (.op .sub (.bi .len (.cons (.varB 1) (.nil))) (.con (.int 1))) (.cons (.var 2) (.nil))))) (.cons (.ret (.call (I.f_word_for) (.cons (.comp (.val (.idx (.call (I.f_edges) (.cons (.var 0) (.cons (.var 1) (.nil)))) (.varB 2))) (.tup [3, 4, 5]) [3, 4, 5] (.con (.bl true)) (b_exchanged_e0 I)) (.nil)))) (.nil)))))
def fd_exchanged (I : Ids) : Fd := ⟨3, 6, b_exchanged I⟩
def b_wrong_e0 (I : Ids) : CE :=
.cmp .ne (.idx (.idx (.varB 5) (.con (.int 0))) (.varB 4)) (.idx (.idx (.varB 1) (.varB 2)) (.varB 4))
def b_wrong (I : Ids) : CSs :=
(.cons (.exp (.call (I.f_need_car) (.cons (.var 0) (.nil)))) (.cons (.exp (.call (I.f_need_notes) (.cons (.var 0) (.cons (.var 1) (.nil))))) (.cons (.exp (.call (I.f_need_index) (.cons (.bi .len (.cons (.varB 1) (.nil))) (.cons (.var 2) (.nil))))) (.cons (.ite (.not (.call (I.f_is_word) (.cons (.var 3) (.cons (.glob (I.c_COUNTERS) (.tup [.str "long", .str "short"])) (.nil)))))
(.cons (.raise (I.x_InvalidCounter)) (.nil))
(.nil)) (.cons (.set 4 (.mt .index (.glob (I.c_COUNTERS) (.tup [.str "long", .str "short"])) (.cons (.varB 3) (.nil)))) (.cons (.ite (.cmp .is (.idx (.idx (.varB 1) (.varB 2)) (.varB 4)) (.con (.non)))
(.cons (.ret (.con (.str "never"))) (.nil))
(.nil)) (.cons (.ret (.call (I.f_word_for) (.cons (.comp (.val (.call (I.f_last_stands) (.cons (.var 0) (.cons (.var 1) (.cons (.var 2) (.nil)))))) (.nm 5) [5] (.con (.bl true)) (b_wrong_e0 I)) (.nil)))) (.nil))))))))
def fd_wrong (I : Ids) : Fd := ⟨4, 6, b_wrong I⟩
def b_only_e0 (I : Ids) : CE :=
.ife (.cmp .inn (.varB 2) (.varB 1)) (.var 3) (.glob (I.c_UNREAD) (.tup [.non, .non]))
def b_only (I : Ids) : CSs :=
(.cons (.ret (.bi .tuple (.cons (.comp (.enum (.varB 0)) (.tup [2, 3]) [2, 3] (.con (.bl true)) (b_only_e0 I)) (.nil)))) (.nil))
def fd_only (I : Ids) : Fd := ⟨2, 4, b_only I⟩
def b_all_lots_e0 (I : Ids) : CE :=
.op .add (.varB 5) (.tup (.cons (.var 6) (.nil)))
def b_all_lots_l0 (I : Ids) : CSs :=
(.cons (.set 4 (.op .add (.varB 4) (.comp (.range2 (.ife (.cmp .ne (.varB 5) (.tup (.nil))) (.op .add (.idx (.varB 5) (.op .sub (.bi .len (.cons (.varB 5) (.nil))) (.con (.int 1)))) (.con (.int 1))) (.con (.int 0))) (.varB 0)) (.nm 6) [6] (.con (.bl true)) (b_all_lots_e0 I)))) (.nil))
def b_all_lots_l1 (I : Ids) : CSs :=
(.cons (.set 4 (.lst (.nil))) (.cons (.for_ (.val (.var 2)) (.nm 5) (b_all_lots_l0 I) [5, 6]) (.cons (.set 2 (.var 4)) (.cons (.set 1 (.op .add (.varB 1) (.varB 2))) (.nil)))))
def b_all_lots (I : Ids) : CSs :=
(.cons (.set 1 (.lst (.cons (.tup (.nil)) (.nil)))) (.cons (.set 2 (.lst (.cons (.tup (.nil)) (.nil)))) (.cons (.for_ (.range1 (.varB 0)) (.nm 3) (b_all_lots_l1 I) [3, 4, 5, 6]) (.cons (.ret (.var 1)) (.nil)))))
def fd_all_lots (I : Ids) : Fd := ⟨1, 7, b_all_lots I⟩
def b_first_wrong_l0 (I : Ids) : CSs :=
(.cons (.ite (.cmp .eq (.bi .len (.cons (.varB 3) (.nil))) (.con (.int 0)))
(.cons (.ret (.op .add (.varB 2) (.con (.int 1)))) (.nil))
(.nil)) (.nil))
def b_first_wrong (I : Ids) : CSs :=
(.cons (.exp (.call (I.f_need_car) (.cons (.var 0) (.nil)))) (.cons (.exp (.call (I.f_need_notes) (.cons (.var 0) (.cons (.var 1) (.nil))))) (.cons (.for_ (.enum (.call (I.f_layers) (.cons (.var 0) (.cons (.var 1) (.nil))))) (.tup [2, 3]) (b_first_wrong_l0 I) [2, 3]) (.cons (.ret (.con (.non))) (.nil)))))
def fd_first_wrong (I : Ids) : Fd := ⟨2, 4, b_first_wrong I⟩
def b_least_wrong_e0 (I : Ids) : CE :=
.cmp .inn (.varB 6) (.varB 3)
def b_least_wrong_t0 (I : Ids) : CE :=
.bi .all (.cons (.comp (.val (.varB 5)) (.nm 6) [6] (.con (.bl true)) (b_least_wrong_e0 I)) (.nil))
def b_least_wrong_e1 (I : Ids) : CE :=
.var 5
def b_least_wrong_l0 (I : Ids) : CSs :=
(.cons (.set 4 (.comp (.val (.varB 2)) (.nm 5) [5] ((b_least_wrong_t0 I)) (b_least_wrong_e1 I))) (.cons (.ite (.and (.cmp .eq (.varB 4) (.lst (.nil))) (.not (.call (I.f_do_fit) (.cons (.var 0) (.cons (.call (I.f_only) (.cons (.var 1) (.cons (.var 3) (.nil)))) (.nil))))))
(.cons (.app 2 (.var 3)) (.nil))
(.nil)) (.nil)))
def b_least_wrong (I : Ids) : CSs :=
(.cons (.exp (.call (I.f_need_car) (.cons (.var 0) (.nil)))) (.cons (.exp (.call (I.f_need_notes) (.cons (.var 0) (.cons (.var 1) (.nil))))) (.cons (.setO 2 (.lst (.nil))) (.cons (.ite (.call (I.f_do_fit) (.cons (.var 0) (.cons (.var 1) (.nil))))
(.cons (.retv 2) (.nil))
(.nil)) (.cons (.for_ (.val (.call (I.f_all_lots) (.cons (.bi .len (.cons (.varB 1) (.nil))) (.nil)))) (.nm 3) (b_least_wrong_l0 I) [3, 4, 5, 6]) (.cons (.ret (.bi .sorted (.cons (.varB 2) (.nil)))) (.nil)))))))
def fd_least_wrong (I : Ids) : Fd := ⟨2, 7, b_least_wrong I⟩
def b__law_some_fit (I : Ids) : CSs :=
(.cons (.ret (.or (.cmp .eq (.bi .len (.cons (.varB 1) (.nil))) (.con (.int 1))) (.cmp .ne (.idx (.call (I.f__law_ways) (.cons (.var 0) (.cons (.var 1) (.nil)))) (.con (.int 0))) (.lst (.nil))))) (.nil))
def fd__law_some_fit (I : Ids) : Fd := ⟨2, 2, b__law_some_fit I⟩
def b__law_unread_e0 (I : Ids) : CE :=
.ife (.cmp .inn (.varB 2) (.varB 1)) (.idx (.varB 0) (.varB 2)) (.tup (.cons (.con (.non)) (.cons (.con (.non)) (.nil))))
def b__law_unread (I : Ids) : CSs :=
(.cons (.ret (.bi .tuple (.cons (.comp (.range1 (.bi .len (.cons (.varB 0) (.nil)))) (.nm 2) [2] (.con (.bl true)) (b__law_unread_e0 I)) (.nil)))) (.nil))
def fd__law_unread (I : Ids) : Fd := ⟨2, 3, b__law_unread I⟩
def b_first_parting_l0 (I : Ids) : CSs :=
(.cons (.set 14 (.tup (.cons (.var 5) (.cons (.var 7) (.nil))))) (.cons (.set 12 (.tup (.cons (.var 14) (.cons (.bi .min (.cons (.varB 3) (.cons (.call (I.f_slips_at) (.cons (.idx (.varB 1) (.con (.int 0))) (.cons (.var 14) (.nil)))) (.nil)))) (.cons (.bi .min (.cons (.varB 3) (.cons (.call (I.f_slips_at) (.cons (.idx (.varB 2) (.con (.int 0))) (.cons (.var 14) (.nil)))) (.nil)))) (.cons (.con (.int 0)) (.nil))))))) (.cons (.app 4 (.tup (.cons (.var 12) (.cons (.tup (.cons (.var 14) (.cons (.tup (.nil)) (.nil)))) (.nil))))) (.nil))))
def b_first_parting_l1 (I : Ids) : CSs :=
(.cons (.for_ (.range1 (.idx (.varB 0) (.con (.int 1)))) (.nm 7) (b_first_parting_l0 I) [7]) (.nil))
def b_first_parting_l2 (I : Ids) : CSs :=
(.cons (.set 20 (.op .add (.varB 17) (.bi .int (.cons (.idx (.varB 18) (.con (.int 2))) (.nil))))) (.cons (.set 21 (.tup (.cons (.bi .min (.cons (.varB 3) (.cons (.op .add (.varB 15) (.call (I.f_slips_at) (.cons (.var 8) (.cons (.var 19) (.nil))))) (.nil)))) (.cons (.bi .min (.cons (.varB 3) (.cons (.op .add (.varB 16) (.call (I.f_slips_at) (.cons (.var 9) (.cons (.var 19) (.nil))))) (.nil)))) (.nil))))) (.cons (.set 22 (.op .add (.op .add (.tup (.cons (.var 19) (.nil))) (.varB 21)) (.tup (.cons (.var 20) (.nil))))) (.cons (.ite (.and (.cmp .le (.varB 20) (.idx (.varB 0) (.con (.int 4)))) (.cmp .nin (.varB 22) (.varB 10)))
(.cons (.put 10 (.varB 22) (.con (.bl true))) (.cons (.app 11 (.tup (.cons (.var 22) (.cons (.tup (.cons (.idx (.varB 13) (.con (.int 0))) (.cons (.op .add (.idx (.varB 13) (.con (.int 1))) (.tup (.cons (.call (I.f_drive_of) (.cons (.var 18) (.cons (.var 19) (.nil)))) (.nil)))) (.nil)))) (.nil))))) (.nil)))
(.nil)) (.nil)))))
def b_first_parting_l3 (I : Ids) : CSs :=
(.cons (.unp (.tup [14, 15, 16, 17]) (.var 12)) (.cons (.ite (.and (.cmp .eq (.varB 15) (.varB 3)) (.cmp .eq (.varB 16) (.varB 3)))
(.cons (.cont) (.nil))
(.nil)) (.cons (.for_ (.val (.call (I.f_steps_from) (.cons (.var 0) (.cons (.var 14) (.nil))))) (.tup [18, 19]) (b_first_parting_l2 I) [18, 19, 20, 21, 22]) (.nil))))
def b_first_parting_l4 (I : Ids) : CSs :=
(.cons (.setO 10 (.dct0)) (.cons (.setO 11 (.lst (.nil))) (.cons (.for_ (.val (.var 6)) (.tup [12, 13]) (b_first_parting_l3 I) [15, 16, 17, 18, 19, 20, 21, 22]) (.frz 11 (.cons (.set 6 (.var 11)) (.nil))))))
def b_first_parting_l5 (I : Ids) : CSs :=
(.cons (.ite (.cmp .ne (.call (I.f_is_fitting) (.cons (.var 0) (.cons (.var 1) (.cons (.var 13) (.nil))))) (.call (I.f_is_fitting) (.cons (.var 0) (.cons (.var 2) (.cons (.var 13) (.nil))))))
(.cons (.ret (.var 13)) (.nil))
(.nil)) (.nil))
def b_first_parting (I : Ids) : CSs :=
(.cons (.set 3 (.op .add (.idx (.varB 0) (.con (.int 3))) (.con (.int 1)))) (.cons (.setO 4 (.lst (.nil))) (.cons (.for_ (.range1 (.idx (.varB 0) (.con (.int 0)))) (.nm 5) (b_first_parting_l1 I) [5, 7]) (.frz 4 (.cons (.set 6 (.var 4)) (.cons (.for_ (.zip (.slc (.varB 1) (.con (.int 1)) (.con .non)) (.slc (.varB 2) (.con (.int 1)) (.con .non))) (.tup [8, 9]) (b_first_parting_l4 I) [8, 9, 10, 11, 15, 16, 17, 18, 19, 20, 21, 22]) (.cons (.for_ (.val (.var 6)) (.tup [12, 13]) (b_first_parting_l5 I) []) (.cons (.ret (.con (.non))) (.nil)))))))))
def fd_first_parting (I : Ids) : Fd := ⟨3, 23, b_first_parting I⟩
def b_need_alike (I : Ids) : CSs :=
(.cons (.exp (.call (I.f_need_car) (.cons (.var 0) (.nil)))) (.cons (.exp (.call (I.f_need_notes) (.cons (.var 0) (.cons (.var 1) (.nil))))) (.cons (.exp (.call (I.f_need_notes) (.cons (.var 0) (.cons (.var 2) (.nil))))) (.cons (.ite (.cmp .ne (.bi .len (.cons (.varB 1) (.nil))) (.bi .len (.cons (.varB 2) (.nil))))
(.cons (.raise (I.x_Unlike)) (.nil))
(.nil)) (.nil)))))
def fd_need_alike (I : Ids) : Fd := ⟨3, 3, b_need_alike I⟩
def b_same (I : Ids) : CSs :=
(.cons (.exp (.call (I.f_need_alike) (.cons (.var 0) (.cons (.var 1) (.cons (.var 2) (.nil)))))) (.cons (.ret (.cmp .is (.call (I.f_first_parting) (.cons (.var 0) (.cons (.var 1) (.cons (.var 2) (.nil))))) (.con (.non)))) (.nil)))
def fd_same (I : Ids) : Fd := ⟨3, 3, b_same I⟩
def b_parting (I : Ids) : CSs :=
(.cons (.exp (.call (I.f_need_alike) (.cons (.var 0) (.cons (.var 1) (.cons (.var 2) (.nil)))))) (.cons (.ret (.call (I.f_first_parting) (.cons (.var 0) (.cons (.var 1) (.cons (.var 2) (.nil)))))) (.nil)))
def fd_parting (I : Ids) : Fd := ⟨3, 3, b_parting I⟩
def b_says_nothing_t0 (I : Ids) : CE :=
.cmp .ne (.varB 5) (.varB 3)
def b_says_nothing_e0 (I : Ids) : CE :=
.var 5
def b_says_nothing_l0 (I : Ids) : CSs :=
(.cons (.set 4 (.comp (.range1 (.bi .len (.cons (.varB 1) (.nil)))) (.nm 5) [5] ((b_says_nothing_t0 I)) (b_says_nothing_e0 I))) (.cons (.ite (.cmp .is (.call (I.f_first_parting) (.cons (.var 0) (.cons (.call (I.f_only) (.cons (.var 1) (.cons (.var 4) (.nil)))) (.cons (.var 1) (.nil))))) (.con (.non)))
(.cons (.app 2 (.var 3)) (.nil))
(.nil)) (.nil)))
def b_says_nothing (I : Ids) : CSs :=
(.cons (.exp (.call (I.f_need_car) (.cons (.var 0) (.nil)))) (.cons (.exp (.call (I.f_need_notes) (.cons (.var 0) (.cons (.var 1) (.nil))))) (.cons (.setO 2 (.lst (.nil))) (.cons (.for_ (.range1 (.bi .len (.cons (.varB 1) (.nil)))) (.nm 3) (b_says_nothing_l0 I) [3, 4, 5]) (.cons (.retv 2) (.nil))))))
def fd_says_nothing (I : Ids) : Fd := ⟨2, 6, b_says_nothing I⟩
def b__law_all_courses_l0 (I : Ids) : CSs :=
(.cons (.app 2 (.tup (.cons (.tup (.cons (.op .fdiv (.varB 3) (.idx (.varB 0) (.con (.int 1)))) (.cons (.op .mod (.varB 3) (.idx (.varB 0) (.con (.int 1)))) (.nil)))) (.cons (.tup (.nil)) (.nil))))) (.nil))
def b__law_all_courses_l1 (I : Ids) : CSs :=
(.cons (.ite (.call (I.f__law_is_fit) (.cons (.var 0) (.cons (.slc (.varB 1) (.con .non) (.op .add (.varB 4) (.con (.int 2)))) (.cons (.tup (.cons (.var 6) (.cons (.op .add (.varB 7) (.tup (.cons (.var 8) (.nil)))) (.nil)))) (.nil)))))
(.cons (.app 5 (.tup (.cons (.var 6) (.cons (.op .add (.varB 7) (.tup (.cons (.var 8) (.nil)))) (.nil))))) (.nil))
(.nil)) (.nil))
def b__law_all_courses_l2 (I : Ids) : CSs :=
(.cons (.for_ (.val (.call (I.f__law_drives) (.cons (.var 0) (.nil)))) (.nm 8) (b__law_all_courses_l1 I) [8]) (.nil))
def b__law_all_courses_l3 (I : Ids) : CSs :=
(.cons (.setO 5 (.lst (.nil))) (.frz 2 (.cons (.for_ (.val (.var 2)) (.tup [6, 7]) (b__law_all_courses_l2 I) [6, 7, 8]) (.frz 5 (.cons (.setO 2 (.var 5)) (.nil))))))
def b__law_all_courses_t0 (I : Ids) : CE :=
.call (I.f__law_is_fit) (.cons (.var 0) (.cons (.var 1) (.cons (.var 9) (.nil))))
def b__law_all_courses_e0 (I : Ids) : CE :=
.var 9
def b__law_all_courses (I : Ids) : CSs :=
(.cons (.setO 2 (.lst (.nil))) (.cons (.for_ (.range1 (.op .mul (.idx (.varB 0) (.con (.int 0))) (.idx (.varB 0) (.con (.int 1))))) (.nm 3) (b__law_all_courses_l0 I) [3]) (.cons (.for_ (.range1 (.op .sub (.bi .len (.cons (.varB 1) (.nil))) (.con (.int 1)))) (.nm 4) (b__law_all_courses_l3 I) [4, 5, 6, 7, 8]) (.cons (.ret (.comp (.val (.varB 2)) (.nm 9) [9] ((b__law_all_courses_t0 I)) (b__law_all_courses_e0 I))) (.nil)))))
def fd__law_all_courses (I : Ids) : Fd := ⟨2, 10, b__law_all_courses I⟩
def b__law_tiny (I : Ids) : CSs :=
(.cons (.unp (.tup [1, 2]) (.call (I.f__law_chosen) (.cons (.var 0) (.cons (.lst (.cons (.tup (.cons (.con (.int 3)) (.cons (.con (.int 2)) (.nil)))) (.cons (.tup (.cons (.con (.int 2)) (.cons (.con (.int 2)) (.nil)))) (.cons (.tup (.cons (.con (.int 2)) (.cons (.con (.int 3)) (.nil)))) (.cons (.tup (.cons (.con (.int 4)) (.cons (.con (.int 2)) (.nil)))) (.nil)))))) (.nil))))) (.cons (.ret (.tup (.cons (.var 1) (.cons (.var 2) (.cons (.op .add (.con (.int 1)) (.call (I.f__law_pick) (.cons (.var 0) (.cons (.con (.int 2)) (.nil))))) (.cons (.call (I.f__law_pick) (.cons (.var 0) (.cons (.con (.int 2)) (.nil)))) (.cons (.call (I.f__law_chosen) (.cons (.var 0) (.cons (.lst (.cons (.con (.int 0)) (.cons (.con (.int 0)) (.cons (.con (.int 1)) (.nil))))) (.nil)))) (.nil)))))))) (.nil)))
def fd__law_tiny (I : Ids) : Fd := ⟨1, 3, b__law_tiny I⟩
def b_unread_places_t0 (I : Ids) : CE :=
.cmp .is (.varB 5) (.con (.non))
def b_unread_places_e0 (I : Ids) : CE :=
.tup (.cons (.var 2) (.cons (.var 4) (.nil)))
def b_unread_places_l0 (I : Ids) : CSs :=
(.cons (.set 1 (.op .add (.varB 1) (.comp (.zip (.glob (I.c_COUNTERS) (.tup [.str "long", .str "short"])) (.varB 3)) (.tup [4, 5]) [4, 5] ((b_unread_places_t0 I)) (b_unread_places_e0 I)))) (.nil))
def b_unread_places (I : Ids) : CSs :=
(.cons (.set 1 (.lst (.nil))) (.cons (.for_ (.enum (.var 0)) (.tup [2, 3]) (b_unread_places_l0 I) [2, 3, 4, 5]) (.cons (.ret (.var 1)) (.nil))))
def fd_unread_places (I : Ids) : Fd := ⟨1, 6, b_unread_places I⟩
def b_shown_there_t0 (I : Ids) : CE :=
.cmp .eq (.varB 3) (.varB 2)
def b_shown_there_e0 (I : Ids) : CE :=
.idx (.idx (.varB 0) (.con (.int 0))) (.mt .index (.glob (I.c_COUNTERS) (.tup [.str "long", .str "short"])) (.cons (.varB 4) (.nil)))
def b_shown_there (I : Ids) : CSs :=
(.cons (.ret (.bi .tuple (.cons (.comp (.val (.varB 1)) (.tup [3, 4]) [3, 4] ((b_shown_there_t0 I)) (b_shown_there_e0 I)) (.nil)))) (.nil))
def fd_shown_there (I : Ids) : Fd := ⟨3, 5, b_shown_there I⟩
def b_do_settle_l0 (I : Ids) : CSs :=
(.cons (.put 5 (.tup (.cons (.var 7) (.cons (.call (I.f_shown_there) (.cons (.var 7) (.cons (.var 3) (.cons (.con (.int 0)) (.nil))))) (.cons (.con (.non)) (.nil))))) (.con (.bl true))) (.nil))
def b_do_settle_l1 (I : Ids) : CSs :=
(.cons (.put 12 (.varB 14) (.op .add (.mt .get (.varB 12) (.cons (.var 14) (.cons (.tup (.nil)) (.nil)))) (.tup (.cons (.tup (.cons (.var 15) (.cons (.var 16) (.nil)))) (.nil))))) (.nil))
def b_do_settle_l2 (I : Ids) : CSs :=
(.cons (.put 13 (.tup (.cons (.var 9) (.cons (.op .add (.varB 15) (.call (I.f_shown_there) (.cons (.var 9) (.cons (.var 3) (.cons (.op .add (.varB 10) (.con (.int 1))) (.nil)))))) (.cons (.ife (.cmp .eq (.varB 10) (.varB 2)) (.idx (.varB 8) (.con (.int 0))) (.var 16)) (.nil))))) (.con (.bl true))) (.nil))
def b_do_settle_l3 (I : Ids) : CSs :=
(.cons (.for_ (.val (.mt .get (.varB 12) (.cons (.var 7) (.cons (.tup (.nil)) (.nil))))) (.tup [15, 16]) (b_do_settle_l2 I) []) (.nil))
def b_do_settle_l4 (I : Ids) : CSs :=
(.cons (.setO 12 (.dct0)) (.frz 5 (.cons (.for_ (.val (.var 5)) (.tup [14, 15, 16]) (b_do_settle_l1 I) []) (.cons (.setO 13 (.dct0)) (.cons (.for_ (.val (.var 11)) (.tup [7, 8, 9]) (b_do_settle_l3 I) []) (.frz 13 (.cons (.setO 5 (.var 13)) (.nil))))))))
def b_do_settle_l5 (I : Ids) : CSs :=
(.cons (.ite (.cmp .ne (.mt .get (.varB 6) (.cons (.var 15) (.cons (.var 16) (.nil)))) (.varB 16))
(.cons (.ret (.con (.bl false))) (.nil))
(.nil)) (.cons (.put 6 (.varB 15) (.var 16)) (.nil)))
def b_do_settle (I : Ids) : CSs :=
(.cons (.set 4 (.call (I.f_edges) (.cons (.var 0) (.cons (.var 1) (.nil))))) (.cons (.setO 5 (.dct0)) (.cons (.for_ (.val (.idx (.varB 4) (.con (.int 0)))) (.tup [7, 8, 9]) (b_do_settle_l0 I) []) (.cons (.for_ (.enum (.var 4)) (.tup [10, 11]) (b_do_settle_l4 I) [10, 11, 12, 13]) (.cons (.setO 6 (.dct0)) (.frz 5 (.cons (.for_ (.val (.var 5)) (.tup [14, 15, 16]) (b_do_settle_l5 I) []) (.cons (.ret (.con (.bl true))) (.nil)))))))))
def fd_do_settle (I : Ids) : Fd := ⟨4, 17, b_do_settle I⟩
def b_lots_t0 (I : Ids) : CE :=
.or (.cmp .eq (.varB 5) (.tup (.nil))) (.cmp .gt (.varB 6) (.idx (.varB 5) (.op .sub (.bi .len (.cons (.varB 5) (.nil))) (.con (.int 1)))))
def b_lots_e0 (I : Ids) : CE :=
.op .add (.varB 5) (.tup (.cons (.var 6) (.nil)))
def b_lots_l0 (I : Ids) : CSs :=
(.cons (.set 4 (.op .add (.varB 4) (.comp (.val (.varB 0)) (.nm 6) [6] ((b_lots_t0 I)) (b_lots_e0 I)))) (.nil))
def b_lots_l1 (I : Ids) : CSs :=
(.cons (.set 4 (.lst (.nil))) (.cons (.for_ (.val (.var 2)) (.nm 5) (b_lots_l0 I) [5, 6]) (.cons (.set 2 (.var 4)) (.nil))))
def b_lots (I : Ids) : CSs :=
(.cons (.set 2 (.lst (.cons (.tup (.nil)) (.nil)))) (.cons (.for_ (.range1 (.varB 1)) (.nm 3) (b_lots_l1 I) [3, 4, 5, 6]) (.cons (.ret (.var 2)) (.nil))))
def fd_lots (I : Ids) : Fd := ⟨2, 7, b_lots I⟩
def b_need_places_l0 (I : Ids) : CSs :=
(.cons (.ite (.or (.not (.call (I.f_is_wide) (.cons (.var 3) (.cons (.con (.int 2)) (.cons (.con (.int 2)) (.nil)))))) (.or (.not (.call (I.f_is_whole) (.cons (.idx (.varB 3) (.con (.int 0))) (.cons (.con (.int 0)) (.cons (.bi .len (.cons (.varB 0) (.nil))) (.nil)))))) (.not (.call (I.f_is_word) (.cons (.idx (.varB 3) (.con (.int 1))) (.cons (.glob (I.c_COUNTERS) (.tup [.str "long", .str "short"])) (.nil)))))))
(.cons (.raise (I.x_InvalidPlaces)) (.nil))
(.nil)) (.cons (.ite (.cmp .nin (.varB 3) (.varB 2))
(.cons (.raise (I.x_InvalidPlaces)) (.nil))
(.nil)) (.nil)))
def b_need_places_e0 (I : Ids) : CE :=
.cmp .lt (.idx (.varB 1) (.varB 4)) (.idx (.varB 1) (.op .add (.varB 4) (.con (.int 1))))
def b_need_places (I : Ids) : CSs :=
(.cons (.set 2 (.call (I.f_unread_places) (.cons (.var 0) (.nil)))) (.cons (.ite (.not (.call (I.f_is_wide) (.cons (.var 1) (.cons (.con (.int 0)) (.cons (.bi .len (.cons (.varB 2) (.nil))) (.nil))))))
(.cons (.raise (I.x_InvalidPlaces)) (.nil))
(.nil)) (.cons (.for_ (.val (.var 1)) (.nm 3) (b_need_places_l0 I) [3]) (.cons (.ite (.not (.bi .all (.cons (.comp (.range1 (.op .sub (.bi .len (.cons (.varB 1) (.nil))) (.con (.int 1)))) (.nm 4) [4] (.con (.bl true)) (b_need_places_e0 I)) (.nil))))
(.cons (.raise (I.x_InvalidPlaces)) (.nil))
(.nil)) (.nil)))))
def fd_need_places (I : Ids) : Fd := ⟨2, 5, b_need_places I⟩
def b_settles (I : Ids) : CSs :=
(.cons (.exp (.call (I.f_need_car) (.cons (.var 0) (.nil)))) (.cons (.exp (.call (I.f_need_notes) (.cons (.var 0) (.cons (.var 1) (.nil))))) (.cons (.exp (.call (I.f_need_index) (.cons (.op .sub (.bi .len (.cons (.varB 1) (.nil))) (.con (.int 1))) (.cons (.var 2) (.nil))))) (.cons (.exp (.call (I.f_need_places) (.cons (.var 1) (.cons (.var 3) (.nil))))) (.cons (.ret (.call (I.f_do_settle) (.cons (.var 0) (.cons (.var 1) (.cons (.var 2) (.cons (.var 3) (.nil))))))) (.nil))))))
def fd_settles (I : Ids) : Fd := ⟨4, 4, b_settles I⟩
def b_fewest_t0 (I : Ids) : CE :=
.call (I.f_do_settle) (.cons (.var 0) (.cons (.var 1) (.cons (.var 2) (.cons (.var 5) (.nil)))))
def b_fewest_e0 (I : Ids) : CE :=
.var 5
def b_fewest_l0 (I : Ids) : CSs :=
(.cons (.set 4 (.comp (.val (.call (I.f_lots) (.cons (.call (I.f_unread_places) (.cons (.var 1) (.nil))) (.cons (.var 3) (.nil))))) (.nm 5) [5] ((b_fewest_t0 I)) (b_fewest_e0 I))) (.cons (.ite (.cmp .ne (.varB 4) (.lst (.nil)))
(.cons (.ret (.var 4)) (.nil))
(.nil)) (.nil)))
def b_fewest (I : Ids) : CSs :=
(.cons (.exp (.call (I.f_need_car) (.cons (.var 0) (.nil)))) (.cons (.exp (.call (I.f_need_notes) (.cons (.var 0) (.cons (.var 1) (.nil))))) (.cons (.exp (.call (I.f_need_index) (.cons (.op .sub (.bi .len (.cons (.varB 1) (.nil))) (.con (.int 1))) (.cons (.var 2) (.nil))))) (.cons (.for_ (.range1 (.con (.int 3))) (.nm 3) (b_fewest_l0 I) [3, 4, 5]) (.cons (.ret (.lst (.nil))) (.nil))))))
def fd_fewest (I : Ids) : Fd := ⟨3, 6, b_fewest I⟩
def b_number_in_l0 (I : Ids) : CSs :=
(.cons (.ite (.cmp .eq (.varB 0) (.bi .str (.cons (.varB 1) (.nil))))
(.cons (.ret (.var 1)) (.nil))
(.nil)) (.nil))
def b_number_in (I : Ids) : CSs :=
(.cons (.for_ (.range1 (.op .add (.glob (I.c_MOST_LONG) (.int 40)) (.con (.int 1)))) (.nm 1) (b_number_in_l0 I) [1]) (.cons (.ret (.neg (.con (.int 1)))) (.nil)))
def fd_number_in (I : Ids) : Fd := ⟨1, 2, b_number_in I⟩
def b__law_lengths_of_e0 (I : Ids) : CE :=
.idx (.idx (.varB 3) (.con (.int 1))) (.con (.int 0))
def b__law_lengths_of (I : Ids) : CSs :=
(.cons (.ret (.sortset (.comp (.val (.idx (.call (I.f__law_ways) (.cons (.var 0) (.cons (.var 1) (.nil)))) (.varB 2))) (.nm 3) [3] (.con (.bl true)) (b__law_lengths_of_e0 I)))) (.nil))
def fd__law_lengths_of (I : Ids) : Fd := ⟨3, 4, b__law_lengths_of I⟩
def b_word_of (I : Ids) : CSs :=
(.cons (.ret (.ife (.cmp .is (.varB 0) (.con (.non))) (.con (.str "-")) (.bi .str (.cons (.varB 0) (.nil))))) (.nil))
def fd_word_of (I : Ids) : Fd := ⟨1, 1, b_word_of I⟩
end Z

set_option Elab.async false
set_option linter.all false
set_option autoImplicit false
set_option maxRecDepth 100000
set_option maxHeartbeats 4000000
set_option pp.maxSteps 400
set_option pp.deepTerms false
/-! P1: what is a car, a note, a course: for any data. -/
namespace Z
/-- data that == serves is data that isinstance reads -/
theorem okd_isD {v : D} {k : Nat} (h : okd v k = true) : isD v = true := by
  cases v <;> first | exact of_eq_true (eq_true rfl) | (simp [okd] at h)
theorem okds_all : ∀ {ds : List D} {k : Nat}, okds ds k = true → ∀ d ∈ ds, okd d k = true
  | [], _, _, _, h => nomatch h
  | d :: ds, k, h, x, hx => by
    simp only [okds, Bool.and_eq_true] at h
    rcases List.mem_cons.mp hx with rfl | hx
    · exact h.1
    · exact okds_all h.2 x hx
theorem okd_tup {ds : List D} {k : Nat} (h : okd (.tup ds) k = true) : okds ds (k - 1) = true := by
  simp only [okd, Bool.and_eq_true] at h; exact h.2
abbrev carD (l s m k b : Int) : D := .tup [.int l, .int s, .int m, .int k, .int b]
structure Car (l s m k b : Int) : Prop where
  l2 : 2 ≤ l
  l40 : l ≤ 40
  s2 : 2 ≤ s
  s20 : s ≤ 20
  ls : l * s ≤ 200
  m1 : 1 ≤ m
  m12 : m ≤ 12
  k0 : 0 ≤ k
  k2 : k ≤ 2
  b0 : 0 ≤ b
  b1 : b ≤ 1
def noneOr (v : D) (i : Int) : Bool :=
  match v with
  | .non => true
  | v => wh v 0 i
def rollsB : D → D → Bool
  | .int i, .int j => decide (2 ≤ i) && decide (i ≤ 40) && (decide (2 ≤ j) && decide (j ≤ 20)) && decide (i * j ≤ 200)
  | _, _ => false
def rcB : D → Bool
  | .tup [a, b, c, d, e] => rollsB a b && (wh c 1 12 && (wh d 0 2 && wh e 0 1))
  | _ => false
def rnB (l s : Int) : D → Bool
  | .tup [x, y] => noneOr x (l - 1) && noneOr y (s - 1)
  | _ => false
def rnsB (l s : Int) : D → Bool
  | .tup ds => (decide (1 ≤ (ds.length : Int)) && decide ((ds.length : Int) ≤ 8)) && ds.all (rnB l s)
  | _ => false
def shB (l s : Int) : D → Bool
  | .tup [x, y] => wh x 0 (l - 1) && wh y 0 (s - 1)
  | _ => false
def drB (m : Int) : D → Bool
  | .tup [a, p, r] => wh a 0 m && (match a with | .int i => noneOr p i && noneOr r i | _ => false)
  | _ => false
def coB (l s m : Int) : D → Bool
  | .tup [x, .tup ds] => shB l s x && (decide ((ds.length : Int) ≤ 7) && ds.all (drB m))
  | _ => false
/-- the number of drives that is asked for -/
def manyB (v w : D) : Bool :=
  match w with
  | .int k => match v with
    | .tup [_, .tup ds] => decide ((ds.length : Int) = k)
    | _ => false
  | _ => true
theorem boolsD_mapf {f : D → Bool} : ∀ ds : List D, boolsD (ds.map fun d => .bl (f d)) = some (ds.map f)
  | [] => rfl
  | d :: ds => by simp [boolsD, boolsD_mapf ds]
theorem den_true {c : Call} : den (.con (.bl true)) c = fun _ S => .ok (.sh (.bl true)) S := by funext ρ S; simp only [den]
theorem map_id_all (f : D → Bool) (ds : List D) : (ds.map f).all id = ds.all f := by rw [List.all_map]; rfl
section
variable {T : List Fd} {I : Ids} {n : Nat} {S : Sto}
/-- the functions of the numbers -/
structure HW (T : List Fd) (I : Ids) : Prop where
  whole : T[I.f_is_whole]? = some (fd_is_whole I)
  wide : T[I.f_is_wide]? = some (fd_is_wide I)
structure HC (T : List Fd) (I : Ids) : Prop extends HW T I where
  rolls : T[I.f_are_rolls]? = some (fd_are_rolls I)
  rcar : T[I.f_is_right_car]? = some (fd_is_right_car I)
  ncar : T[I.f_need_car]? = some (fd_need_car I)
structure HN (T : List Fd) (I : Ids) : Prop extends HC T I where
  rnote : T[I.f_is_right_note]? = some (fd_is_right_note I)
  rnotes : T[I.f_are_right_notes]? = some (fd_are_right_notes I)
structure HCo (T : List Fd) (I : Ids) : Prop extends HC T I where
  shown : T[I.f_is_shown]? = some (fd_is_shown I)
  drive : T[I.f_is_drive]? = some (fd_is_drive I)
  rcourse : T[I.f_is_right_course]? = some (fd_is_right_course I)
theorem p_whole (H : HW T I) {v : D} {lo hi : Int} (h : isD v = true) : Phi T (n + 1) I.f_is_whole [v, .int lo, .int hi] S = .ok (.sh (.bl (wh v lo hi))) S := by
  rw [phi_at H.whole]
  cases v with
  | int i =>
    simp [fd_is_whole, b_is_whole, wh, runF, denSs, denS, den, dens, deni, Res.bind, Res.fl, optR, optB, getV, getS, setIs, setG, killL, setPs, putS, forL, opS, addS, mulS, mulI, modI, fdivI, powI, int2, cmpS, cmpI, eqS, isNon, idxS, dcv, dcs, itv, lsv, sqv, vw, tru, biS, isiS, Ty.isI, Ty.isB, Ty.isS, Ty.isT, Ty.isL, mtS, mtK, slcP, partS, Rv.shr, L2.atI, L2.ixN, intsD, boolsD, handL, subc, CEs.len, sz]
    by_cases h1 : lo ≤ i <;> simp [h1]
  | _ => first | (simp [isD] at h; done) | simp [fd_is_whole, b_is_whole, wh, runF, denSs, denS, den, dens, deni, Res.bind, Res.fl, optR, optB, getV, getS, setIs, setG, killL, setPs, putS, forL, opS, addS, mulS, mulI, modI, fdivI, powI, int2, cmpS, cmpI, eqS, isNon, idxS, dcv, dcs, itv, lsv, sqv, vw, tru, biS, isiS, Ty.isI, Ty.isB, Ty.isS, Ty.isT, Ty.isL, mtS, mtK, slcP, partS, Rv.shr, L2.atI, L2.ixN, intsD, boolsD, handL, subc, CEs.len, sz]
theorem p_wide (H : HW T I) {v : D} {lo hi : Int} (h : isD v = true) : Phi T (n + 1) I.f_is_wide [v, .int lo, .int hi] S = .ok (.sh (.bl (wd v lo hi))) S := by
  rw [phi_at H.wide]
  cases v with
  | tup ds =>
    simp [fd_is_wide, b_is_wide, wd, runF, denSs, denS, den, dens, deni, Res.bind, Res.fl, optR, optB, getV, getS, setIs, setG, killL, setPs, putS, forL, opS, addS, mulS, mulI, modI, fdivI, powI, int2, cmpS, cmpI, eqS, isNon, idxS, dcv, dcs, itv, lsv, sqv, vw, tru, biS, isiS, Ty.isI, Ty.isB, Ty.isS, Ty.isT, Ty.isL, mtS, mtK, slcP, partS, Rv.shr, L2.atI, L2.ixN, intsD, boolsD, handL, subc, CEs.len, sz]
    by_cases h1 : lo ≤ ds.length <;> simp [h1]
  | _ => first | (simp [isD] at h; done) | simp [fd_is_wide, b_is_wide, wd, runF, denSs, denS, den, dens, deni, Res.bind, Res.fl, optR, optB, getV, getS, setIs, setG, killL, setPs, putS, forL, opS, addS, mulS, mulI, modI, fdivI, powI, int2, cmpS, cmpI, eqS, isNon, idxS, dcv, dcs, itv, lsv, sqv, vw, tru, biS, isiS, Ty.isI, Ty.isB, Ty.isS, Ty.isT, Ty.isL, mtS, mtK, slcP, partS, Rv.shr, L2.atI, L2.ixN, intsD, boolsD, handL, subc, CEs.len, sz]
theorem p_rolls0 (H : HW T I) (h0 : T[I.f_are_rolls]? = some (fd_are_rolls I)) {a b : D} (ha : isD a = true) (hb : isD b = true) : Phi T (n + 2) I.f_are_rolls [a, b] S = .ok (.sh (.bl (rollsB a b))) S := by
  rw [phi_at h0]
  cases hw : wh a 2 40 with
  | false =>
    have e : rollsB a b = false := by
      cases a <;> cases b <;> first | rfl | skip
      rename_i i j
      simp only [wh, Bool.and_eq_false_iff, decide_eq_false_iff_not] at hw
      simp only [rollsB]
      rcases hw with hw | hw <;> simp [hw]
    simp [fd_are_rolls, b_are_rolls, p_whole H, ha, hb, hw, e, runF, denSs, denS, den, dens, deni, Res.bind, Res.fl, optR, optB, getV, getS, setIs, setG, killL, setPs, putS, forL, opS, addS, mulS, mulI, modI, fdivI, powI, int2, cmpS, cmpI, eqS, isNon, idxS, dcv, dcs, itv, lsv, sqv, vw, tru, biS, isiS, Ty.isI, Ty.isB, Ty.isS, Ty.isT, Ty.isL, mtS, mtK, slcP, partS, Rv.shr, L2.atI, L2.ixN, intsD, boolsD, handL, subc, CEs.len, sz]
  | true =>
    cases hw2 : wh b 2 20 with
    | false =>
      have e : rollsB a b = false := by
        cases a <;> cases b <;> first | rfl | skip
        rename_i i j
        simp only [wh, Bool.and_eq_false_iff, decide_eq_false_iff_not] at hw2
        simp only [rollsB]
        rcases hw2 with hw | hw <;> simp [hw]
      simp [fd_are_rolls, b_are_rolls, p_whole H, ha, hb, hw, hw2, e, runF, denSs, denS, den, dens, deni, Res.bind, Res.fl, optR, optB, getV, getS, setIs, setG, killL, setPs, putS, forL, opS, addS, mulS, mulI, modI, fdivI, powI, int2, cmpS, cmpI, eqS, isNon, idxS, dcv, dcs, itv, lsv, sqv, vw, tru, biS, isiS, Ty.isI, Ty.isB, Ty.isS, Ty.isT, Ty.isL, mtS, mtK, slcP, partS, Rv.shr, L2.atI, L2.ixN, intsD, boolsD, handL, subc, CEs.len, sz]
    | true =>
      cases a with
      | int i =>
        cases b with
        | int j =>
          have h1 : 2 ≤ i ∧ i ≤ 40 := by simpa [wh] using hw
          have h2 : 2 ≤ j ∧ j ≤ 20 := by simpa [wh] using hw2
          have hl : -18446744073709551616 < i := by omega
          have hl2 : i < 18446744073709551616 := by omega
          have w1 : Phi T (n + 1) I.f_is_whole [.int i, .int 2, .int 40] S = _ := p_whole H rfl
          have w2 : Phi T (n + 1) I.f_is_whole [.int j, .int 2, .int 20] S = _ := p_whole H rfl
          rw [hw] at w1
          rw [hw2] at w2
          simp [fd_are_rolls, b_are_rolls, w1, w2, rollsB, h1.1, h1.2, h2.1, h2.2, hl, hl2, runF, denSs, denS, den, dens, deni, Res.bind, Res.fl, optR, optB, getV, getS, setIs, setG, killL, setPs, putS, forL, opS, addS, mulS, mulI, modI, fdivI, powI, int2, cmpS, cmpI, eqS, isNon, idxS, dcv, dcs, itv, lsv, sqv, vw, tru, biS, isiS, Ty.isI, Ty.isB, Ty.isS, Ty.isT, Ty.isL, mtS, mtK, slcP, partS, Rv.shr, L2.atI, L2.ixN, intsD, boolsD, handL, subc, CEs.len, sz]
        | _ => simp [wh] at hw2
      | _ => simp [wh] at hw
theorem p_rolls (H : HC T I) {a b : D} (ha : isD a = true) (hb : isD b = true) : Phi T (n + 2) I.f_are_rolls [a, b] S = .ok (.sh (.bl (rollsB a b))) S := p_rolls0 H.toHW H.rolls ha hb
theorem p_rcar (H : HC T I) {v : D} {k : Nat} (h : okd v k = true) : Phi T (n + 3) I.f_is_right_car [v] S = .ok (.sh (.bl (rcB v))) S := by
  rw [phi_at H.rcar]
  have hv := okd_isD h
  by_cases hw : wd v 5 5 = true
  · cases v with
    | tup ds =>
      have ho := okds_all (okd_tup h)
      rcases ds with _ | ⟨a, _ | ⟨b, _ | ⟨c, _ | ⟨d, _ | ⟨e, _ | ⟨f, ds⟩⟩⟩⟩⟩⟩ <;> first | (simp [wd] at hw; done) | skip
      · have ia := okd_isD (ho a (by simp))
        have ib := okd_isD (ho b (by simp))
        have ic := okd_isD (ho c (by simp))
        have id := okd_isD (ho d (by simp))
        have ie := okd_isD (ho e (by simp))
        cases h1 : rollsB a b with
        | false => simp [fd_is_right_car, b_is_right_car, p_wide H.toHW, p_rolls H, hv, hw, ia, ib, h1, rcB, runF, denSs, denS, den, dens, deni, Res.bind, Res.fl, optR, optB, getV, getS, setIs, setG, killL, setPs, putS, forL, opS, addS, mulS, mulI, modI, fdivI, powI, int2, cmpS, cmpI, eqS, isNon, idxS, dcv, dcs, itv, lsv, sqv, vw, tru, biS, isiS, Ty.isI, Ty.isB, Ty.isS, Ty.isT, Ty.isL, mtS, mtK, slcP, partS, Rv.shr, L2.atI, L2.ixN, intsD, boolsD, handL, subc, CEs.len, sz]
        | true =>
          cases h2 : wh c 1 12 with
          | false => simp [fd_is_right_car, b_is_right_car, p_wide H.toHW, p_whole H.toHW, p_rolls H, hv, hw, ia, ib, ic, h1, h2, rcB, runF, denSs, denS, den, dens, deni, Res.bind, Res.fl, optR, optB, getV, getS, setIs, setG, killL, setPs, putS, forL, opS, addS, mulS, mulI, modI, fdivI, powI, int2, cmpS, cmpI, eqS, isNon, idxS, dcv, dcs, itv, lsv, sqv, vw, tru, biS, isiS, Ty.isI, Ty.isB, Ty.isS, Ty.isT, Ty.isL, mtS, mtK, slcP, partS, Rv.shr, L2.atI, L2.ixN, intsD, boolsD, handL, subc, CEs.len, sz]
          | true =>
            cases h3 : wh d 0 2 <;> simp [fd_is_right_car, b_is_right_car, p_wide H.toHW, p_whole H.toHW, p_rolls H, hv, hw, ia, ib, ic, id, ie, h1, h2, h3, rcB, runF, denSs, denS, den, dens, deni, Res.bind, Res.fl, optR, optB, getV, getS, setIs, setG, killL, setPs, putS, forL, opS, addS, mulS, mulI, modI, fdivI, powI, int2, cmpS, cmpI, eqS, isNon, idxS, dcv, dcs, itv, lsv, sqv, vw, tru, biS, isiS, Ty.isI, Ty.isB, Ty.isS, Ty.isT, Ty.isL, mtS, mtK, slcP, partS, Rv.shr, L2.atI, L2.ixN, intsD, boolsD, handL, subc, CEs.len, sz]
      · simp [wd] at hw; omega
    | _ => simp [wd] at hw
  · have hw : wd v 5 5 = false := by simpa using hw
    have e : rcB v = false := by
      unfold rcB; split
      · simp [wd] at hw
      · rfl
    simp [fd_is_right_car, b_is_right_car, p_wide H.toHW, hv, hw, e, runF, denSs, denS, den, dens, deni, Res.bind, Res.fl, optR, optB, getV, getS, setIs, setG, killL, setPs, putS, forL, opS, addS, mulS, mulI, modI, fdivI, powI, int2, cmpS, cmpI, eqS, isNon, idxS, dcv, dcs, itv, lsv, sqv, vw, tru, biS, isiS, Ty.isI, Ty.isB, Ty.isS, Ty.isT, Ty.isL, mtS, mtK, slcP, partS, Rv.shr, L2.atI, L2.ixN, intsD, boolsD, handL, subc, CEs.len, sz]
theorem p_need_car (H : HC T I) {v : D} {k : Nat} (h : okd v k = true) : Phi T (n + 4) I.f_need_car [v] S = if rcB v = true then .ok (.sh .non) S else .ex ⟨I.x_InvalidCar, none⟩ S := by
  rw [phi_at H.ncar]
  cases e : rcB v <;> simp [fd_need_car, b_need_car, p_rcar H h, e, runF, denSs, denS, den, dens, deni, Res.bind, Res.fl, optR, optB, getV, getS, setIs, setG, killL, setPs, putS, forL, opS, addS, mulS, mulI, modI, fdivI, powI, int2, cmpS, cmpI, eqS, isNon, idxS, dcv, dcs, itv, lsv, sqv, vw, tru, biS, isiS, Ty.isI, Ty.isB, Ty.isS, Ty.isT, Ty.isL, mtS, mtK, slcP, partS, Rv.shr, L2.atI, L2.ixN, intsD, boolsD, handL, subc, CEs.len, sz]
theorem rcB_ok {l s m k b : Int} (c : Car l s m k b) : rcB (carD l s m k b) = true := by
  simp [rcB, rollsB, wh, c.l2, c.l40, c.s2, c.s20, c.ls, c.m1, c.m12, c.k0, c.k2, c.b0, c.b1]
theorem okd_car {l s m k b : Int} : okd (carD l s m k b) 60 = true := by simp [okd, okds]
theorem p_need_car_ok (H : HC T I) {l s m k b : Int} (c : Car l s m k b) : Phi T (n + 4) I.f_need_car [carD l s m k b] S = .ok (.sh .non) S := by
  rw [p_need_car H okd_car, rcB_ok c]; rfl
theorem p_rnote (H : HN T I) {l s m k b : Int} {v : D} {j : Nat} (h : okd v j = true) : Phi T (n + 2) I.f_is_right_note [carD l s m k b, v] S = .ok (.sh (.bl (rnB l s v))) S := by
  rw [phi_at H.rnote]
  have hv := okd_isD h
  by_cases hw : wd v 2 2 = true
  · cases v with
    | tup ds =>
      have ho := okds_all (okd_tup h)
      rcases ds with _ | ⟨x, _ | ⟨y, _ | ⟨z, ds⟩⟩⟩ <;> first | (simp [wd] at hw; done) | skip
      · have ix := okd_isD (ho x (by simp))
        have iy := okd_isD (ho y (by simp))
        cases x <;> cases y <;> first | (simp [isD] at ix; done) | (simp [isD] at iy; done) | simp [fd_is_right_note, b_is_right_note, b_is_right_note_e0, p_wide H.toHW, p_whole H.toHW, isD_non, isD_bl, isD_int, isD_str, isD_tup, isD_lst, wd, rnB, noneOr, compL, zipD, runF, denSs, denS, den, dens, deni, Res.bind, Res.fl, optR, optB, getV, getS, setIs, setG, killL, setPs, putS, forL, opS, addS, mulS, mulI, modI, fdivI, powI, int2, cmpS, cmpI, eqS, isNon, idxS, dcv, dcs, itv, lsv, sqv, vw, tru, biS, isiS, Ty.isI, Ty.isB, Ty.isS, Ty.isT, Ty.isL, mtS, mtK, slcP, partS, Rv.shr, L2.atI, L2.ixN, intsD, boolsD, handL, subc, CEs.len, sz]
      · simp [wd] at hw; omega
    | _ => simp [wd] at hw
  · have hw : wd v 2 2 = false := by simpa using hw
    have e : rnB l s v = false := by
      unfold rnB; split
      · simp [wd] at hw
      · rfl
    simp [fd_is_right_note, b_is_right_note, p_wide H.toHW, hv, hw, e, runF, denSs, denS, den, dens, deni, Res.bind, Res.fl, optR, optB, getV, getS, setIs, setG, killL, setPs, putS, forL, opS, addS, mulS, mulI, modI, fdivI, powI, int2, cmpS, cmpI, eqS, isNon, idxS, dcv, dcs, itv, lsv, sqv, vw, tru, biS, isiS, Ty.isI, Ty.isB, Ty.isS, Ty.isT, Ty.isL, mtS, mtK, slcP, partS, Rv.shr, L2.atI, L2.ixN, intsD, boolsD, handL, subc, CEs.len, sz]
theorem p_rnotes (H : HN T I) {l s m k b : Int} {v : D} {j : Nat} (h : okd v j = true) : Phi T (n + 3) I.f_are_right_notes [carD l s m k b, v] S = .ok (.sh (.bl (rnsB l s v))) S := by
  rw [phi_at H.rnotes]
  have hv := okd_isD h
  by_cases hw : wd v 1 8 = true
  · cases v with
    | tup ds =>
      have ho := okds_all (okd_tup h)
      have hc : compL (.nm 2) (fun _ S => .ok (.sh (.bl true)) S) (den (b_are_right_notes_e0 I) (Phi T (n + 2))) ds [some (.sh (carD l s m k b)), some (.sh (.tup ds)), none] S = .ok (ds.map fun d => .bl (rnB l s d)) S := by
        refine compL_map fun d hd => ⟨_, .sh (.bl true), .sh (.bl (rnB l s d)), rfl, rfl, rfl, ?_, rfl⟩
        simp [b_are_right_notes_e0, p_rnote H (ho d hd), runF, denSs, denS, den, dens, deni, Res.bind, Res.fl, optR, optB, getV, getS, setIs, setG, killL, setPs, putS, forL, opS, addS, mulS, mulI, modI, fdivI, powI, int2, cmpS, cmpI, eqS, isNon, idxS, dcv, dcs, itv, lsv, sqv, vw, tru, biS, isiS, Ty.isI, Ty.isB, Ty.isS, Ty.isT, Ty.isL, mtS, mtK, slcP, partS, Rv.shr, L2.atI, L2.ixN, intsD, boolsD, handL, subc, CEs.len, sz]
      have hw' := hw
      simp only [wd, Bool.and_eq_true, decide_eq_true_eq] at hw'
      have hz : ds.length ≤ PySem.sizeLine := size1000 (by omega)
      simp [fd_are_right_notes, b_are_right_notes, p_wide H.toHW, hv, hw, hc, hz, boolsD_mapf, map_id_all, rnsB, hw'.1, hw'.2, runF, denSs, denS, den, dens, deni, Res.bind, Res.fl, optR, optB, getV, getS, setIs, setG, killL, setPs, putS, forL, opS, addS, mulS, mulI, modI, fdivI, powI, int2, cmpS, cmpI, eqS, isNon, idxS, dcv, dcs, itv, lsv, sqv, vw, tru, biS, isiS, Ty.isI, Ty.isB, Ty.isS, Ty.isT, Ty.isL, mtS, mtK, slcP, partS, Rv.shr, L2.atI, L2.ixN, intsD, boolsD, handL, subc, CEs.len, sz]
    | _ => simp [wd] at hw
  · have hw : wd v 1 8 = false := by simpa using hw
    have e : rnsB l s v = false := by
      unfold rnsB; split
      · simp only [wd] at hw; simp only [hw, Bool.false_and]
      · rfl
    simp [fd_are_right_notes, b_are_right_notes, p_wide H.toHW, hv, hw, e, runF, denSs, denS, den, dens, deni, Res.bind, Res.fl, optR, optB, getV, getS, setIs, setG, killL, setPs, putS, forL, opS, addS, mulS, mulI, modI, fdivI, powI, int2, cmpS, cmpI, eqS, isNon, idxS, dcv, dcs, itv, lsv, sqv, vw, tru, biS, isiS, Ty.isI, Ty.isB, Ty.isS, Ty.isT, Ty.isL, mtS, mtK, slcP, partS, Rv.shr, L2.atI, L2.ixN, intsD, boolsD, handL, subc, CEs.len, sz]
theorem p_need_notes (H : HN T I) (h0 : T[I.f_need_notes]? = some (fd_need_notes I)) {l s m k b : Int} {v : D} {j : Nat} (h : okd v j = true) : Phi T (n + 4) I.f_need_notes [carD l s m k b, v] S = if rnsB l s v = true then .ok (.sh .non) S else .ex ⟨I.x_InvalidNotes, none⟩ S := by
  rw [phi_at h0]
  cases e : rnsB l s v <;> simp [fd_need_notes, b_need_notes, p_rnotes H h, e, runF, denSs, denS, den, dens, deni, Res.bind, Res.fl, optR, optB, getV, getS, setIs, setG, killL, setPs, putS, forL, opS, addS, mulS, mulI, modI, fdivI, powI, int2, cmpS, cmpI, eqS, isNon, idxS, dcv, dcs, itv, lsv, sqv, vw, tru, biS, isiS, Ty.isI, Ty.isB, Ty.isS, Ty.isT, Ty.isL, mtS, mtK, slcP, partS, Rv.shr, L2.atI, L2.ixN, intsD, boolsD, handL, subc, CEs.len, sz]
theorem p_shown (H : HCo T I) {l s m k b : Int} {v : D} {j : Nat} (h : okd v j = true) : Phi T (n + 2) I.f_is_shown [carD l s m k b, v] S = .ok (.sh (.bl (shB l s v))) S := by
  rw [phi_at H.shown]
  have hv := okd_isD h
  by_cases hw : wd v 2 2 = true
  · cases v with
    | tup ds =>
      have ho := okds_all (okd_tup h)
      rcases ds with _ | ⟨x, _ | ⟨y, _ | ⟨z, ds⟩⟩⟩ <;> first | (simp [wd] at hw; done) | skip
      · have ix := okd_isD (ho x (by simp))
        have iy := okd_isD (ho y (by simp))
        simp [fd_is_shown, b_is_shown, b_is_shown_e0, p_wide H.toHW, p_whole H.toHW, isD_non, isD_bl, isD_int, isD_str, isD_tup, isD_lst, ix, iy, wd, shB, compL, zipD, runF, denSs, denS, den, dens, deni, Res.bind, Res.fl, optR, optB, getV, getS, setIs, setG, killL, setPs, putS, forL, opS, addS, mulS, mulI, modI, fdivI, powI, int2, cmpS, cmpI, eqS, isNon, idxS, dcv, dcs, itv, lsv, sqv, vw, tru, biS, isiS, Ty.isI, Ty.isB, Ty.isS, Ty.isT, Ty.isL, mtS, mtK, slcP, partS, Rv.shr, L2.atI, L2.ixN, intsD, boolsD, handL, subc, CEs.len, sz]
      · simp [wd] at hw; omega
    | _ => simp [wd] at hw
  · have hw : wd v 2 2 = false := by simpa using hw
    have e : shB l s v = false := by
      unfold shB; split
      · simp [wd] at hw
      · rfl
    simp [fd_is_shown, b_is_shown, p_wide H.toHW, hv, hw, e, runF, denSs, denS, den, dens, deni, Res.bind, Res.fl, optR, optB, getV, getS, setIs, setG, killL, setPs, putS, forL, opS, addS, mulS, mulI, modI, fdivI, powI, int2, cmpS, cmpI, eqS, isNon, idxS, dcv, dcs, itv, lsv, sqv, vw, tru, biS, isiS, Ty.isI, Ty.isB, Ty.isS, Ty.isT, Ty.isL, mtS, mtK, slcP, partS, Rv.shr, L2.atI, L2.ixN, intsD, boolsD, handL, subc, CEs.len, sz]
theorem p_drive (H : HCo T I) {l s m k b : Int} {v : D} {j : Nat} (h : okd v j = true) : Phi T (n + 2) I.f_is_drive [carD l s m k b, v] S = .ok (.sh (.bl (drB m v))) S := by
  rw [phi_at H.drive]
  have hv := okd_isD h
  by_cases hw : wd v 3 3 = true
  · cases v with
    | tup ds =>
      have ho := okds_all (okd_tup h)
      rcases ds with _ | ⟨x, _ | ⟨y, _ | ⟨z, _ | ⟨u, ds⟩⟩⟩⟩ <;> first | (simp [wd] at hw; done) | skip
      · have ix := okd_isD (ho x (by simp))
        have iy := okd_isD (ho y (by simp))
        have iz := okd_isD (ho z (by simp))
        cases hx : wh x 0 m with
        | false => simp [fd_is_drive, b_is_drive, b_is_drive_e0, p_wide H.toHW, p_whole H.toHW, isD_non, isD_bl, isD_int, isD_str, isD_tup, isD_lst, ix, wd, drB, hx, runF, denSs, denS, den, dens, deni, Res.bind, Res.fl, optR, optB, getV, getS, setIs, setG, killL, setPs, putS, forL, opS, addS, mulS, mulI, modI, fdivI, powI, int2, cmpS, cmpI, eqS, isNon, idxS, dcv, dcs, itv, lsv, sqv, vw, tru, biS, isiS, Ty.isI, Ty.isB, Ty.isS, Ty.isT, Ty.isL, mtS, mtK, slcP, partS, Rv.shr, L2.atI, L2.ixN, intsD, boolsD, handL, subc, CEs.len, sz]
        | true =>
          cases x with
          | int i =>
            have hb : 0 ≤ i ∧ i ≤ m := by simpa [wh] using hx
            cases y <;> cases z <;> first | (simp [isD] at iy; done) | (simp [isD] at iz; done) | simp [fd_is_drive, b_is_drive, b_is_drive_e0, p_wide H.toHW, p_whole H.toHW, isD_non, isD_bl, isD_int, isD_str, isD_tup, isD_lst, wd, drB, hb.1, hb.2, noneOr, compL, cutD, HT.sIx, wh, runF, denSs, denS, den, dens, deni, Res.bind, Res.fl, optR, optB, getV, getS, setIs, setG, killL, setPs, putS, forL, opS, addS, mulS, mulI, modI, fdivI, powI, int2, cmpS, cmpI, eqS, isNon, idxS, dcv, dcs, itv, lsv, sqv, vw, tru, biS, isiS, Ty.isI, Ty.isB, Ty.isS, Ty.isT, Ty.isL, mtS, mtK, slcP, partS, Rv.shr, L2.atI, L2.ixN, intsD, boolsD, handL, subc, CEs.len, sz]
          | _ => simp [wh] at hx
      · simp [wd] at hw; omega
    | _ => simp [wd] at hw
  · have hw : wd v 3 3 = false := by simpa using hw
    have e : drB m v = false := by
      unfold drB; split
      · simp [wd] at hw
      · rfl
    simp [fd_is_drive, b_is_drive, p_wide H.toHW, hv, hw, e, runF, denSs, denS, den, dens, deni, Res.bind, Res.fl, optR, optB, getV, getS, setIs, setG, killL, setPs, putS, forL, opS, addS, mulS, mulI, modI, fdivI, powI, int2, cmpS, cmpI, eqS, isNon, idxS, dcv, dcs, itv, lsv, sqv, vw, tru, biS, isiS, Ty.isI, Ty.isB, Ty.isS, Ty.isT, Ty.isL, mtS, mtK, slcP, partS, Rv.shr, L2.atI, L2.ixN, intsD, boolsD, handL, subc, CEs.len, sz]
theorem p_rcourse (H : HCo T I) {l s m k b : Int} {v : D} {j : Nat} (h : okd v j = true) : Phi T (n + 3) I.f_is_right_course [carD l s m k b, v] S = .ok (.sh (.bl (coB l s m v))) S := by
  rw [phi_at H.rcourse]
  have hv := okd_isD h
  by_cases hw : wd v 2 2 = true
  · cases v with
    | tup ds =>
      have ho := okds_all (okd_tup h)
      rcases ds with _ | ⟨x, _ | ⟨y, _ | ⟨z, ds⟩⟩⟩ <;> first | (simp [wd] at hw; done) | skip
      · have ox := ho x (by simp)
        have oy := ho y (by simp)
        have iy := okd_isD oy
        cases h1 : shB l s x with
        | false =>
          have e : coB l s m (.tup [x, y]) = false := by cases y <;> simp [coB, h1]
          simp [fd_is_right_course, b_is_right_course, p_wide H.toHW, p_shown H ox, hv, hw, h1, e, runF, denSs, denS, den, dens, deni, Res.bind, Res.fl, optR, optB, getV, getS, setIs, setG, killL, setPs, putS, forL, opS, addS, mulS, mulI, modI, fdivI, powI, int2, cmpS, cmpI, eqS, isNon, idxS, dcv, dcs, itv, lsv, sqv, vw, tru, biS, isiS, Ty.isI, Ty.isB, Ty.isS, Ty.isT, Ty.isL, mtS, mtK, slcP, partS, Rv.shr, L2.atI, L2.ixN, intsD, boolsD, handL, subc, CEs.len, sz]
        | true =>
          cases h2 : wd y 0 7 with
          | false =>
            have e : coB l s m (.tup [x, y]) = false := by
              cases y <;> simp [coB, h1]
              simp [wd] at h2; omega
            simp [fd_is_right_course, b_is_right_course, p_wide H.toHW, p_shown H ox, hv, hw, h1, h2, iy, e, runF, denSs, denS, den, dens, deni, Res.bind, Res.fl, optR, optB, getV, getS, setIs, setG, killL, setPs, putS, forL, opS, addS, mulS, mulI, modI, fdivI, powI, int2, cmpS, cmpI, eqS, isNon, idxS, dcv, dcs, itv, lsv, sqv, vw, tru, biS, isiS, Ty.isI, Ty.isB, Ty.isS, Ty.isT, Ty.isL, mtS, mtK, slcP, partS, Rv.shr, L2.atI, L2.ixN, intsD, boolsD, handL, subc, CEs.len, sz]
          | true =>
            cases y with
            | tup es =>
              have hw2 := h2
              simp only [wd, Bool.and_eq_true, decide_eq_true_eq] at hw2
              have hc : compL (.nm 2) (fun _ S => .ok (.sh (.bl true)) S) (den (b_is_right_course_e0 I) (Phi T (n + 2))) es [some (.sh (carD l s m k b)), some (.sh (.tup [x, .tup es])), none] S = .ok (es.map fun d => .bl (drB m d)) S := by
                refine compL_map fun d hd => ⟨_, .sh (.bl true), .sh (.bl (drB m d)), rfl, rfl, rfl, ?_, rfl⟩
                simp [b_is_right_course_e0, p_drive H (okds_all (okd_tup oy) d hd), runF, denSs, denS, den, dens, deni, Res.bind, Res.fl, optR, optB, getV, getS, setIs, setG, killL, setPs, putS, forL, opS, addS, mulS, mulI, modI, fdivI, powI, int2, cmpS, cmpI, eqS, isNon, idxS, dcv, dcs, itv, lsv, sqv, vw, tru, biS, isiS, Ty.isI, Ty.isB, Ty.isS, Ty.isT, Ty.isL, mtS, mtK, slcP, partS, Rv.shr, L2.atI, L2.ixN, intsD, boolsD, handL, subc, CEs.len, sz]
              have hz : es.length ≤ PySem.sizeLine := size1000 (by omega)
              simp [fd_is_right_course, b_is_right_course, p_wide H.toHW, p_shown H ox, hv, hw, h1, h2, iy, hc, hz, boolsD_mapf, map_id_all, coB, hw2.2, runF, denSs, denS, den, dens, deni, Res.bind, Res.fl, optR, optB, getV, getS, setIs, setG, killL, setPs, putS, forL, opS, addS, mulS, mulI, modI, fdivI, powI, int2, cmpS, cmpI, eqS, isNon, idxS, dcv, dcs, itv, lsv, sqv, vw, tru, biS, isiS, Ty.isI, Ty.isB, Ty.isS, Ty.isT, Ty.isL, mtS, mtK, slcP, partS, Rv.shr, L2.atI, L2.ixN, intsD, boolsD, handL, subc, CEs.len, sz]
            | _ => simp [wd] at h2
      · simp [wd] at hw; omega
    | _ => simp [wd] at hw
  · have hw : wd v 2 2 = false := by simpa using hw
    have e : coB l s m v = false := by
      unfold coB; split
      · simp [wd] at hw
      · rfl
    simp [fd_is_right_course, b_is_right_course, p_wide H.toHW, hv, hw, e, runF, denSs, denS, den, dens, deni, Res.bind, Res.fl, optR, optB, getV, getS, setIs, setG, killL, setPs, putS, forL, opS, addS, mulS, mulI, modI, fdivI, powI, int2, cmpS, cmpI, eqS, isNon, idxS, dcv, dcs, itv, lsv, sqv, vw, tru, biS, isiS, Ty.isI, Ty.isB, Ty.isS, Ty.isT, Ty.isL, mtS, mtK, slcP, partS, Rv.shr, L2.atI, L2.ixN, intsD, boolsD, handL, subc, CEs.len, sz]
theorem coB_shape {l s m : Int} {v : D} (h : coB l s m v = true) : ∃ x ds, v = .tup [x, .tup ds] ∧ shB l s x = true ∧ ds.length ≤ 7 ∧ ds.all (drB m) = true := by
  unfold coB at h
  split at h
  · simp only [Bool.and_eq_true, decide_eq_true_eq] at h
    exact ⟨_, _, rfl, h.1, by omega, h.2.2⟩
  · cases h
theorem p_need_course (H : HCo T I) (h0 : T[I.f_need_course]? = some (fd_need_course I)) {l s m k b : Int} {v w : D} {j : Nat} (h : okd v j = true) (hw : w = .non ∨ ∃ i, w = .int i) : Phi T (n + 4) I.f_need_course [carD l s m k b, v, w] S = if (coB l s m v && manyB v w) = true then .ok (.sh .non) S else .ex ⟨I.x_InvalidCourse, none⟩ S := by
  rw [phi_at h0]
  cases e : coB l s m v with
  | false => simp [fd_need_course, b_need_course, p_rcourse H h, e, runF, denSs, denS, den, dens, deni, Res.bind, Res.fl, optR, optB, getV, getS, setIs, setG, killL, setPs, putS, forL, opS, addS, mulS, mulI, modI, fdivI, powI, int2, cmpS, cmpI, eqS, isNon, idxS, dcv, dcs, itv, lsv, sqv, vw, tru, biS, isiS, Ty.isI, Ty.isB, Ty.isS, Ty.isT, Ty.isL, mtS, mtK, slcP, partS, Rv.shr, L2.atI, L2.ixN, intsD, boolsD, handL, subc, CEs.len, sz]
  | true =>
    obtain ⟨x, ds, rfl, h1, h2, h3⟩ := coB_shape e
    rcases hw with rfl | ⟨i, rfl⟩
    · simp [fd_need_course, b_need_course, p_rcourse H h, e, manyB, runF, denSs, denS, den, dens, deni, Res.bind, Res.fl, optR, optB, getV, getS, setIs, setG, killL, setPs, putS, forL, opS, addS, mulS, mulI, modI, fdivI, powI, int2, cmpS, cmpI, eqS, isNon, idxS, dcv, dcs, itv, lsv, sqv, vw, tru, biS, isiS, Ty.isI, Ty.isB, Ty.isS, Ty.isT, Ty.isL, mtS, mtK, slcP, partS, Rv.shr, L2.atI, L2.ixN, intsD, boolsD, handL, subc, CEs.len, sz]
    · by_cases hi : (ds.length : Int) = i
      · subst hi
        simp [fd_need_course, b_need_course, p_rcourse H h, e, manyB, okd, deq, runF, denSs, denS, den, dens, deni, Res.bind, Res.fl, optR, optB, getV, getS, setIs, setG, killL, setPs, putS, forL, opS, addS, mulS, mulI, modI, fdivI, powI, int2, cmpS, cmpI, eqS, isNon, idxS, dcv, dcs, itv, lsv, sqv, vw, tru, biS, isiS, Ty.isI, Ty.isB, Ty.isS, Ty.isT, Ty.isL, mtS, mtK, slcP, partS, Rv.shr, L2.atI, L2.ixN, intsD, boolsD, handL, subc, CEs.len, sz]
      · have : ((ds.length : Int) == i) = false := by simpa using hi
        simp [fd_need_course, b_need_course, p_rcourse H h, e, manyB, okd, deq, hi, this, runF, denSs, denS, den, dens, deni, Res.bind, Res.fl, optR, optB, getV, getS, setIs, setG, killL, setPs, putS, forL, opS, addS, mulS, mulI, modI, fdivI, powI, int2, cmpS, cmpI, eqS, isNon, idxS, dcv, dcs, itv, lsv, sqv, vw, tru, biS, isiS, Ty.isI, Ty.isB, Ty.isS, Ty.isT, Ty.isL, mtS, mtK, slcP, partS, Rv.shr, L2.atI, L2.ixN, intsD, boolsD, handL, subc, CEs.len, sz]
theorem p_need_index (H : HW T I) (h0 : T[I.f_need_index]? = some (fd_need_index I)) {v : D} {j : Nat} {m : Int} (h : okd v j = true) : Phi T (n + 2) I.f_need_index [.int m, v] S = if wh v 0 (m - 1) = true then .ok (.sh .non) S else .ex ⟨I.x_InvalidIndex, none⟩ S := by
  rw [phi_at h0]
  cases e : wh v 0 (m - 1) <;> simp [fd_need_index, b_need_index, p_whole H (okd_isD h), e, runF, denSs, denS, den, dens, deni, Res.bind, Res.fl, optR, optB, getV, getS, setIs, setG, killL, setPs, putS, forL, opS, addS, mulS, mulI, modI, fdivI, powI, int2, cmpS, cmpI, eqS, isNon, idxS, dcv, dcs, itv, lsv, sqv, vw, tru, biS, isiS, Ty.isI, Ty.isB, Ty.isS, Ty.isT, Ty.isL, mtS, mtK, slcP, partS, Rv.shr, L2.atI, L2.ixN, intsD, boolsD, handL, subc, CEs.len, sz]
end
end Z

set_option Elab.async false
set_option linter.all false
set_option autoImplicit false
set_option maxRecDepth 100000
set_option maxHeartbeats 4000000
set_option pp.maxSteps 400
set_option pp.deepTerms false
/-! P2: what is drawn: by bounds. -/
namespace Z
structure Drv where
  d : Int
  p : Option Int
  r : Option Int
def optD : Option Int → D
  | none => .non
  | some i => .int i
def drvD (x : Drv) : D := .tup [.int x.d, optD x.p, optD x.r]
abbrev pt (a b : Int) : D := .tup [.int a, .int b]
def nx1 (l a d : Int) : Option Int → Int
  | none => (a + d) % l
  | some c => c % l
def trail (l s : Int) : Int → Int → List Drv → List D
  | a, b, [] => [pt a b]
  | a, b, x :: xs => pt a b :: trail l s (nx1 l a x.d x.r) (nx1 s b x.d x.p) xs
abbrev crsD (a c : Int) (xs : List Drv) : D := .tup [pt a c, .tup (xs.map drvD)]
structure HP (T : List Fd) (I : Ids) : Prop where
  source : T[I.f__law_source]? = some (fd__law_source I)
  pick : T[I.f__law_pick]? = some (fd__law_pick I)
structure HD (T : List Fd) (I : Ids) : Prop extends HP T I where
  chosen : T[I.f__law_chosen]? = some (fd__law_chosen I)
  drive : T[I.f__law_drive]? = some (fd__law_drive I)
  course : T[I.f__law_drawn_course]? = some (fd__law_drawn_course I)
structure HSh (T : List Fd) (I : Ids) : Prop where
  behind : T[I.f_shown_behind]? = some (fd_shown_behind I)
  truly : T[I.f_truly_shown]? = some (fd_truly_shown I)
section
variable {T : List Fd} {I : Ids} {n : Nat} {S : Sto}
theorem p_behind0 (h0 : T[I.f_shown_behind]? = some (fd_shown_behind I)) (l s m k b a c : Int) (x : Drv) (S : Sto) (hl : 0 < l) (hs : 0 < s) : Phi T (n + 1) I.f_shown_behind [carD l s m k b, pt a c, drvD x] S = .ok (.sh (pt (nx1 l a x.d x.r) (nx1 s c x.d x.p))) S := by
  rw [phi_at h0]; unfold fd_shown_behind
  obtain ⟨d, p, r⟩ := x
  cases p <;> cases r <;> simp [b_shown_behind, carD, drvD, optD, pt, nx1, hl, hs, runF, denSs, denS, den, dens, deni, Res.bind, Res.fl, optR, optB, getV, getS, setIs, setG, killL, setPs, putS, forL, opS, addS, mulS, mulI, modI, fdivI, powI, int2, cmpS, cmpI, eqS, isNon, idxS, dcv, dcs, itv, lsv, sqv, vw, tru, biS, isiS, Ty.isI, Ty.isB, Ty.isS, Ty.isT, Ty.isL, mtS, mtK, slcP, partS, Rv.shr, L2.atI, L2.ixN, intsD, boolsD, handL, subc, CEs.len, sz]
/-- the loops of the trail: what has been found so far, then the rest -/
theorem trail_last (l s : Int) : ∀ (xs : List Drv) (a b : Int), ∃ pre a' b', trail l s a b xs = pre ++ [pt a' b'] ∧ ∀ x, trail l s a b (xs ++ [x]) = pre ++ [pt a' b', pt (nx1 l a' x.d x.r) (nx1 s b' x.d x.p)]
  | [], a, b => ⟨[], a, b, rfl, fun _ => rfl⟩
  | y :: ys, a, b => by
    obtain ⟨pre, a', b', h1, h2⟩ := trail_last l s ys (nx1 l a y.d y.r) (nx1 s b y.d y.p)
    exact ⟨pt a b :: pre, a', b', by simp [trail, h1], fun x => by simp [trail, h2]⟩
theorem trail_len (l s : Int) : ∀ (xs : List Drv) (a b : Int), (trail l s a b xs).length = xs.length + 1
  | [], _, _ => rfl
  | y :: ys, a, b => by simp [trail, trail_len l s ys]
theorem p_truly_loop (h0 : T[I.f_shown_behind]? = some (fd_shown_behind I)) (l s m k b : Int) (crs : D) (S : Sto) (hl : 0 < l) (hs : 0 < s) : ∀ (xs ys : List Drv) (a c : Int), ys.length + xs.length ≤ 100 →
    forL (.nm 3) (denSs (b_truly_shown_l0 I) (Phi T (n + 1))) [3] (xs.map drvD) [some (.sh (carD l s m k b)), some (.sh crs), some (.nl (trail l s a c ys)), none] S =
      .nx [some (.sh (carD l s m k b)), some (.sh crs), some (.nl (trail l s a c (ys ++ xs))), none] S
  | [], ys, a, c, _ => by simp [runF, denSs, denS, den, dens, deni, Res.bind, Res.fl, optR, optB, getV, getS, setIs, setG, killL, setPs, putS, forL, opS, addS, mulS, mulI, modI, fdivI, powI, int2, cmpS, cmpI, eqS, isNon, idxS, dcv, dcs, itv, lsv, sqv, vw, tru, biS, isiS, Ty.isI, Ty.isB, Ty.isS, Ty.isT, Ty.isL, mtS, mtK, slcP, partS, Rv.shr, L2.atI, L2.ixN, intsD, boolsD, handL, subc, CEs.len, sz]
  | x :: xs, ys, a, c, hz => by
    obtain ⟨pre, a', b', h1, h2⟩ := trail_last l s ys a c
    have ih := p_truly_loop h0 l s m k b crs S hl hs xs (ys ++ [x]) a c (by simp at hz ⊢; omega)
    have e : ys ++ x :: xs = ys ++ [x] ++ xs := by simp
    have hpl : pre.length + 1 = ys.length + 1 := by
      have := trail_len l s ys a c
      rw [h1] at this; simpa using this
    have hz2 : pre.length + 1 < PySem.sizeLine := Nat.lt_of_lt_of_le (show pre.length + 1 < 1000 by simp at hz; omega) (size1000 (Nat.le_refl _))
    rw [e, ← ih]
    have i1 : ((pre.length : Int) + 1 - 1) = pre.length := by omega
    have i2 : ((pre ++ [pt a' b'])[pre.length]? : Option D) = some (pt a' b') := by simp
    rw [h2, h1]
    simp [b_truly_shown_l0, runF, denSs, denS, den, dens, deni, Res.bind, Res.fl, optR, optB, getV, getS, setIs, setG, killL, setPs, putS, forL, opS, addS, mulS, mulI, modI, fdivI, powI, int2, cmpS, cmpI, eqS, isNon, idxS, dcv, dcs, itv, lsv, sqv, vw, tru, biS, isiS, Ty.isI, Ty.isB, Ty.isS, Ty.isT, Ty.isL, mtS, mtK, slcP, partS, Rv.shr, L2.atI, L2.ixN, intsD, boolsD, handL, subc, CEs.len, sz, i1, i2, p_behind0 h0 l s m k b a' b' x S hl hs, hz2]

theorem p_truly (H : HSh T I) (l s m k b a c : Int) (xs : List Drv) (S : Sto) (hl : 0 < l) (hs : 0 < s) (hx : xs.length ≤ 50) : Phi T (n + 2) I.f_truly_shown [carD l s m k b, crsD a c xs] S = .ok (.nl (trail l s a c xs)) S := by
  rw [phi_at H.truly]; unfold fd_truly_shown
  have h := p_truly_loop (n := n) H.behind l s m k b (crsD a c xs) S hl hs xs [] a c (by simp; omega)
  have e : trail l s a c [] = [pt a c] := rfl
  rw [e] at h
  simp only [List.nil_append] at h
  have e2 : crsD a c xs = .tup [pt a c, .tup (xs.map drvD)] := rfl
  rw [e2] at h ⊢
  simp [b_truly_shown, h, runF, denSs, denS, den, dens, deni, Res.bind, Res.fl, optR, optB, getV, getS, setIs, setG, killL, setPs, putS, opS, addS, mulS, mulI, modI, fdivI, powI, int2, cmpS, cmpI, eqS, isNon, idxS, dcv, dcs, itv, lsv, sqv, vw, tru, biS, isiS, Ty.isI, Ty.isB, Ty.isS, Ty.isT, Ty.isL, mtS, mtK, slcP, partS, Rv.shr, L2.atI, L2.ixN, intsD, boolsD, handL, subc, CEs.len, sz]
theorem p_shows_loop (n : Nat)  (l s m k b : Int) (crs : D) (S : Sto) (hl : 0 < l) (hs : 0 < s) : ∀ (xs : List Drv) (pre : List D) (a c : Int), pre.length + xs.length ≤ 100 →
    ∃ u v, forL (.tup [5, 6, 7]) (denSs (b__law_shows_l0 I) (Phi T n)) [5, 6, 7] (xs.map drvD)
      [some (.sh (carD l s m k b)), some (.sh crs), some (.nl (pre ++ [pt a c])), some (.sh (.int a)), some (.sh (.int c)), none, none, none] S =
      .nx [some (.sh (carD l s m k b)), some (.sh crs), some (.nl (pre ++ trail l s a c xs)), u, v, none, none, none] S
  | [], pre, a, c, _ => ⟨some (.sh (.int a)), some (.sh (.int c)), by simp [trail, runF, denSs, denS, den, dens, deni, Res.bind, Res.fl, optR, optB, getV, getS, setIs, setG, killL, setPs, putS, forL, opS, addS, mulS, mulI, modI, fdivI, powI, int2, cmpS, cmpI, eqS, isNon, idxS, dcv, dcs, itv, lsv, sqv, vw, tru, biS, isiS, Ty.isI, Ty.isB, Ty.isS, Ty.isT, Ty.isL, mtS, mtK, slcP, partS, Rv.shr, L2.atI, L2.ixN, intsD, boolsD, handL, subc, CEs.len, sz]⟩
  | x :: xs, pre, a, c, hz => by
    obtain ⟨u, v, ih⟩ := p_shows_loop n l s m k b crs S hl hs xs (pre ++ [pt a c]) (nx1 l a x.d x.r) (nx1 s c x.d x.p) (by simp at hz ⊢; omega)
    have hz2 : pre.length + 1 < PySem.sizeLine := Nat.lt_of_lt_of_le (show pre.length + 1 < 1000 by simp at hz; omega) (size1000 (Nat.le_refl _))
    refine ⟨u, v, ?_⟩
    obtain ⟨d, p, r⟩ := x
    cases p <;> cases r <;> (simp only [nx1, trail, List.append_assoc, List.singleton_append] at ih ⊢; rw [← ih]; simp [b__law_shows_l0, carD, drvD, optD, pt, hl, hs, hz2, runF, denSs, denS, den, dens, deni, Res.bind, Res.fl, optR, optB, getV, getS, setIs, setG, killL, setPs, putS, forL, opS, addS, mulS, mulI, modI, fdivI, powI, int2, cmpS, cmpI, eqS, isNon, idxS, dcv, dcs, itv, lsv, sqv, vw, tru, biS, isiS, Ty.isI, Ty.isB, Ty.isS, Ty.isT, Ty.isL, mtS, mtK, slcP, partS, Rv.shr, L2.atI, L2.ixN, intsD, boolsD, handL, subc, CEs.len, sz])
theorem p_shows (h0 : T[I.f__law_shows]? = some (fd__law_shows I)) (l s m k b a c : Int) (xs : List Drv) (S : Sto) (hl : 0 < l) (hs : 0 < s) (hx : xs.length ≤ 50) : Phi T (n + 1) I.f__law_shows [carD l s m k b, crsD a c xs] S = .ok (.nl (trail l s a c xs)) S := by
  rw [phi_at h0]; unfold fd__law_shows
  obtain ⟨u, v, h⟩ := p_shows_loop (T := T) (I := I) n l s m k b (crsD a c xs) S hl hs xs [] a c (by simp; omega)
  have e2 : crsD a c xs = .tup [pt a c, .tup (xs.map drvD)] := rfl
  rw [e2] at h ⊢
  simp only [List.nil_append, pt] at h ⊢
  simp [b__law_shows, h, runF, denSs, denS, den, dens, deni, Res.bind, Res.fl, optR, optB, getV, getS, setIs, setG, killL, setPs, putS, opS, addS, mulS, mulI, modI, fdivI, powI, int2, cmpS, cmpI, eqS, isNon, idxS, dcv, dcs, itv, lsv, sqv, vw, tru, biS, isiS, Ty.isI, Ty.isB, Ty.isS, Ty.isT, Ty.isL, mtS, mtK, slcP, partS, Rv.shr, L2.atI, L2.ixN, intsD, boolsD, handL, subc, CEs.len, sz]
theorem p_source (h0 : T[I.f__law_source]? = some (fd__law_source I)) (ns : List Int) (k : Int) (S : Sto) (hk : 0 ≤ k) (hk2 : k < 1000) : ∃ a b, Phi T (n + 1) I.f__law_source [.scr ns, .int k] S = .ok (.nl [.int a, .int b]) S ∧ 0 ≤ a ∧ 0 ≤ b := by
  have key : ∀ num : Int, ∀ r : Res Rv, (∀ b, 0 ≤ b → r = .ok (.nl [.int (if (1000000000000000000 : Int) ≤ num then num else 0), .int b]) S → ∃ a b, r = .ok (.nl [.int a, .int b]) S ∧ 0 ≤ a ∧ 0 ≤ b) := fun num r b hb e => ⟨_, b, e, by split <;> omega, hb⟩
  have bound : ∀ z : Int, 0 ≤ z % 2147481173 ∧ z % 2147481173 < 2147481173 := fun z => ⟨Int.emod_nonneg _ (by decide), Int.emod_lt_of_pos _ (by decide)⟩
  rw [phi_at h0]; unfold fd__law_source
  by_cases hl : k < ns.length
  · have hn : k.toNat < ns.length := by omega
    have hB := bound (ns[k.toNat] * 16807 + 60919 * k + 31)
    have h1 : -18446744073709551616 < (ns[k.toNat] * 16807 + 60919 * k + 31) % 2147481173 := by omega
    have h2 : (ns[k.toNat] * 16807 + 60919 * k + 31) % 2147481173 < 18446744073709551616 := by omega
    refine key ns[k.toNat] _ ((ns[k.toNat] * 16807 + 60919 * k + 31) % 2147481173 * ((ns[k.toNat] * 16807 + 60919 * k + 31) % 2147481173) % 2147481151 + 2 * k + 5) (by have := Int.emod_nonneg ((ns[k.toNat] * 16807 + 60919 * k + 31) % 2147481173 * ((ns[k.toNat] * 16807 + 60919 * k + 31) % 2147481173)) (show (2147481151 : Int) ≠ 0 by decide); omega) ?_
    by_cases hc : (1000000000000000000 : Int) ≤ ns[k.toNat] <;> simp [b__law_source, hl, hk, hn, h1, h2, hc, runF, denSs, denS, den, dens, deni, Res.bind, Res.fl, optR, optB, getV, getS, setIs, setG, killL, setPs, putS, forL, opS, addS, mulS, mulI, modI, fdivI, powI, int2, cmpS, cmpI, eqS, isNon, idxS, dcv, dcs, itv, lsv, sqv, vw, tru, biS, isiS, Ty.isI, Ty.isB, Ty.isS, Ty.isT, Ty.isL, mtS, mtK, slcP, partS, Rv.shr, L2.atI, L2.ixN, intsD, boolsD, handL, subc, CEs.len, sz]
  · have hB := bound (60919 * k + 31)
    have h1 : -18446744073709551616 < (60919 * k + 31) % 2147481173 := by omega
    have h2 : (60919 * k + 31) % 2147481173 < 18446744073709551616 := by omega
    refine key 0 _ ((60919 * k + 31) % 2147481173 * ((60919 * k + 31) % 2147481173) % 2147481151 + 2 * k + 5) (by have := Int.emod_nonneg ((60919 * k + 31) % 2147481173 * ((60919 * k + 31) % 2147481173)) (show (2147481151 : Int) ≠ 0 by decide); omega) ?_
    simp [b__law_source, hl, h1, h2, runF, denSs, denS, den, dens, deni, Res.bind, Res.fl, optR, optB, getV, getS, setIs, setG, killL, setPs, putS, forL, opS, addS, mulS, mulI, modI, fdivI, powI, int2, cmpS, cmpI, eqS, isNon, idxS, dcv, dcs, itv, lsv, sqv, vw, tru, biS, isiS, Ty.isI, Ty.isB, Ty.isS, Ty.isT, Ty.isL, mtS, mtK, slcP, partS, Rv.shr, L2.atI, L2.ixN, intsD, boolsD, handL, subc, CEs.len, sz]
theorem p_pick (hp : T[I.f__law_pick]? = some (fd__law_pick I)) (m : Nat) (k : Int) (S : Sto) (hk : 0 < k) (hk2 : k < 1073741824) (h : Src S m) : ∃ r S', Phi T (n + 1) I.f__law_pick [.ref m, .int k] S = .ok (.sh (.int r)) S' ∧ 0 ≤ r ∧ r < k ∧ Src S' m := by
  obtain ⟨a, b, hs, ha, hb⟩ := h
  have hm : m < S.length := (List.getElem?_eq_some_iff.mp hs).1
  rw [phi_at hp]; unfold fd__law_pick
  by_cases h0 : 0 < a
  · refine ⟨a % k, S.set m (.lst [.int (a / k), .int b]), ?_, Int.emod_nonneg _ (by omega), Int.emod_lt_of_pos _ hk, a / k, b, List.getElem?_set_self hm, Int.ediv_nonneg ha (by omega), hb⟩
    simp [b__law_pick, runF, denSs, denS, den, dens, deni, Res.bind, Res.fl, optR, optB, getV, getS, setIs, setG, killL, setPs, putS, forL, opS, addS, mulS, mulI, modI, fdivI, powI, int2, cmpS, cmpI, eqS, isNon, idxS, dcv, dcs, itv, lsv, sqv, vw, tru, biS, isiS, Ty.isI, Ty.isB, Ty.isS, Ty.isT, Ty.isL, mtS, mtK, slcP, partS, Rv.shr, L2.atI, L2.ixN, intsD, boolsD, handL, subc, CEs.len, sz, hs, h0, hk, hk2]
  · have hB : 0 ≤ (b * 44497 + 9973) % 2147483647 ∧ (b * 44497 + 9973) % 2147483647 < 2147483647 := ⟨Int.emod_nonneg _ (by decide), Int.emod_lt_of_pos _ (by decide)⟩
    have hM : ((b * 44497 + 9973) % 2147483647 < 18446744073709551616) := by omega
    have hM2 : (-18446744073709551616 < (b * 44497 + 9973) % 2147483647) := by omega
    refine ⟨((b * 44497 + 9973) % 2147483647 * ((b * 44497 + 9973) % 2147483647)) % 2147483399 / 11 % k, S.set m (.lst [.int a, .int ((b * 44497 + 9973) % 2147483647)]), ?_, Int.emod_nonneg _ (by omega), Int.emod_lt_of_pos _ hk, a, _, List.getElem?_set_self hm, ha, hB.1⟩
    simp [b__law_pick, runF, denSs, denS, den, dens, deni, Res.bind, Res.fl, optR, optB, getV, getS, setIs, setG, killL, setPs, putS, forL, opS, addS, mulS, mulI, modI, fdivI, powI, int2, cmpS, cmpI, eqS, isNon, idxS, dcv, dcs, itv, lsv, sqv, vw, tru, biS, isiS, Ty.isI, Ty.isB, Ty.isS, Ty.isT, Ty.isL, mtS, mtK, slcP, partS, Rv.shr, L2.atI, L2.ixN, intsD, boolsD, handL, subc, CEs.len, sz, hs, h0, hk, hk2, List.getElem?_set_self hm, hM, hM2]

theorem p_chosen (H : HD T I) (m : Nat) (ts : List D) (S : Sto) (h0 : 0 < ts.length) (h1 : ts.length < 1000) (h : Src S m) : ∃ d S', Phi T (n + 2) I.f__law_chosen [.ref m, .lst ts] S = .ok (.sh d) S' ∧ d ∈ ts ∧ Src S' m := by
  obtain ⟨r, S', e, h2, h3, h4⟩ := p_pick (n := n) H.pick m ts.length S (by omega) (by omega) h
  rw [phi_at H.chosen]; unfold fd__law_chosen
  have hr : r.toNat < ts.length := by omega
  refine ⟨ts[r.toNat], S', ?_, List.getElem_mem hr, h4⟩
  simp [b__law_chosen, e, h2, h3, hr, runF, denSs, denS, den, dens, deni, Res.bind, Res.fl, optR, optB, getV, getS, setIs, setG, killL, setPs, putS, forL, opS, addS, mulS, mulI, modI, fdivI, powI, int2, cmpS, cmpI, eqS, isNon, idxS, dcv, dcs, itv, lsv, sqv, vw, tru, biS, isiS, Ty.isI, Ty.isB, Ty.isS, Ty.isT, Ty.isL, mtS, mtK, slcP, partS, Rv.shr, L2.atI, L2.ixN, intsD, boolsD, handL, subc, CEs.len, sz]
def pairsD (w : Bool) : List D := if w = true then [.tup [.int 3, .int 2], .tup [.int 4, .int 3], .tup [.int 5, .int 3], .tup [.int 6, .int 4], .tup [.int 2, .int 5], .tup [.int 4, .int 4]]
  else [.tup [.int 20, .int 10], .tup [.int 10, .int 5], .tup [.int 12, .int 7], .tup [.int 40, .int 4], .tup [.int 9, .int 20], .tup [.int 3, .int 2], .tup [.int 6, .int 4], .tup [.int 5, .int 5], .tup [.int 8, .int 3]]
theorem p_pair (H : HD T I) (m : Nat) (w : Bool) (S : Sto) (h : Src S m) : ∃ l s S', Phi T (n + 2) I.f__law_chosen [.ref m, .lst (pairsD w)] S = .ok (.sh (pt l s)) S' ∧ 2 ≤ l ∧ l ≤ 40 ∧ 2 ≤ s ∧ s ≤ 20 ∧ l * s ≤ 200 ∧ Src S' m := by
  obtain ⟨d, S1, e1, hd, s1⟩ := p_chosen (n := n) H m (pairsD w) S (by cases w <;> decide) (by cases w <;> decide) h
  have pr : ∃ l s, d = .tup [.int l, .int s] ∧ 2 ≤ l ∧ l ≤ 40 ∧ 2 ≤ s ∧ s ≤ 20 ∧ l * s ≤ 200 := by
    cases w <;> simp only [pairsD, List.mem_cons, List.not_mem_nil, or_false, Bool.false_eq_true, ↓reduceIte] at hd
    · rcases hd with rfl | rfl | rfl | rfl | rfl | rfl | rfl | rfl | rfl <;> exact ⟨_, _, rfl, by decide, by decide, by decide, by decide, by decide⟩
    · rcases hd with rfl | rfl | rfl | rfl | rfl | rfl <;> exact ⟨_, _, rfl, by decide, by decide, by decide, by decide, by decide⟩
  obtain ⟨l, s, rfl, c1, c2, c3, c4, c5⟩ := pr
  exact ⟨l, s, S1, e1, c1, c2, c3, c4, c5, s1⟩
theorem p_slips (H : HD T I) (m : Nat) (S : Sto) (h : Src S m) : ∃ k S', Phi T (n + 2) I.f__law_chosen [.ref m, .lst [.int 0, .int 0, .int 1, .int 1, .int 2]] S = .ok (.sh (.int k)) S' ∧ 0 ≤ k ∧ k ≤ 2 ∧ Src S' m := by
  obtain ⟨d2, S3, e3, hd2, s3⟩ := p_chosen (n := n) H m [.int 0, .int 0, .int 1, .int 1, .int 2] S (by decide) (by decide) h
  have pr2 : ∃ k, d2 = .int k ∧ 0 ≤ k ∧ k ≤ 2 := by
    simp only [List.mem_cons, List.not_mem_nil, or_false] at hd2
    rcases hd2 with rfl | rfl | rfl | rfl | rfl <;> exact ⟨_, rfl, by decide, by decide⟩
  obtain ⟨k, rfl, k0, k1⟩ := pr2
  exact ⟨k, S3, e3, k0, k1, s3⟩
theorem p_car (H : HD T I) (h0 : T[I.f__law_car]? = some (fd__law_car I)) (m : Nat) (w : Bool) (S : Sto) (h : Src S m) : ∃ l s q k b S', Phi T (n + 3) I.f__law_car [.ref m, .bl w] S = .ok (.sh (carD l s q k b)) S' ∧ Car l s q k b ∧ Src S' m := by
  rw [phi_at h0]; unfold fd__law_car
  obtain ⟨l, s, S1, e1, c1, c2, c3, c4, c5, s1⟩ := p_pair (n := n) H m false S h
  obtain ⟨r, S2, e2, r0, r1, s2⟩ := p_pick (n := n + 1) H.pick m 12 S1 (by decide) (by decide) s1
  simp only [pairsD, Bool.false_eq_true, ↓reduceIte] at e1
  cases w with
  | false =>
    obtain ⟨k, S3, e3, k0, k1, s3⟩ := p_slips (n := n) H m S2 s2
    obtain ⟨b, S4, e4, b0, b1, s4⟩ := p_pick (n := n + 1) H.pick m 2 S3 (by decide) (by decide) s3
    refine ⟨l, s, 1 + r, k, b, S4, ?_, ⟨c1, c2, c3, c4, c5, by omega, by omega, k0, k1, b0, by omega⟩, s4⟩
    simp [b__law_car, e1, e2, e3, e4, runF, denSs, denS, den, dens, deni, Res.bind, Res.fl, optR, optB, getV, getS, setIs, setG, killL, setPs, putS, forL, opS, addS, mulS, mulI, modI, fdivI, powI, int2, cmpS, cmpI, eqS, isNon, idxS, dcv, dcs, itv, lsv, sqv, vw, tru, biS, isiS, Ty.isI, Ty.isB, Ty.isS, Ty.isT, Ty.isL, mtS, mtK, slcP, partS, Rv.shr, L2.atI, L2.ixN, intsD, boolsD, handL, subc, CEs.len, sz]
  | true =>
    obtain ⟨l', s', S1', e1', c1, c2, c3, c4, c5, s1'⟩ := p_pair (n := n) H m true S2 s2
    obtain ⟨r', S2', e2', r0', r1', s2'⟩ := p_pick (n := n + 1) H.pick m 6 S1' (by decide) (by decide) s1'
    simp only [pairsD, Bool.false_eq_true, ↓reduceIte] at e1'
    obtain ⟨k, S3, e3, k0, k1, s3⟩ := p_slips (n := n) H m S2' s2'
    obtain ⟨b, S4, e4, b0, b1, s4⟩ := p_pick (n := n + 1) H.pick m 2 S3 (by decide) (by decide) s3
    refine ⟨l', s', 1 + r', k, b, S4, ?_, ⟨c1, c2, c3, c4, c5, by omega, by omega, k0, k1, b0, by omega⟩, s4⟩
    simp [b__law_car, e1, e2, e1', e2', e3, e4, runF, denSs, denS, den, dens, deni, Res.bind, Res.fl, optR, optB, getV, getS, setIs, setG, killL, setPs, putS, forL, opS, addS, mulS, mulI, modI, fdivI, powI, int2, cmpS, cmpI, eqS, isNon, idxS, dcv, dcs, itv, lsv, sqv, vw, tru, biS, isiS, Ty.isI, Ty.isB, Ty.isS, Ty.isT, Ty.isL, mtS, mtK, slcP, partS, Rv.shr, L2.atI, L2.ixN, intsD, boolsD, handL, subc, CEs.len, sz]
theorem p_tiny (H : HD T I) (h0 : T[I.f__law_tiny]? = some (fd__law_tiny I)) (m : Nat) (S : Sto) (h : Src S m) : ∃ l s q k b S', Phi T (n + 3) I.f__law_tiny [.ref m] S = .ok (.sh (carD l s q k b)) S' ∧ Car l s q k b ∧ l ≤ 4 ∧ s ≤ 3 ∧ l * s ≤ 8 ∧ q ≤ 2 ∧ k ≤ 1 ∧ Src S' m := by
  rw [phi_at h0]; unfold fd__law_tiny
  obtain ⟨d, S1, e1, hd, s1⟩ := p_chosen (n := n) H m [pt 3 2, pt 2 2, pt 2 3, pt 4 2] S (by decide) (by decide) h
  have pr : ∃ l s, d = .tup [.int l, .int s] ∧ 2 ≤ l ∧ l ≤ 4 ∧ 2 ≤ s ∧ s ≤ 3 ∧ l * s ≤ 8 := by
    simp only [List.mem_cons, List.not_mem_nil, or_false] at hd
    rcases hd with rfl | rfl | rfl | rfl <;> exact ⟨_, _, rfl, by decide, by decide, by decide, by decide, by decide⟩
  obtain ⟨l, s, rfl, c1, c2, c3, c4, c5⟩ := pr
  obtain ⟨r, S2, e2, r0, r1, s2⟩ := p_pick (n := n + 1) H.pick m 2 S1 (by decide) (by decide) s1
  obtain ⟨k, S3, e3, k0, k1, s3⟩ := p_pick (n := n + 1) H.pick m 2 S2 (by decide) (by decide) s2
  obtain ⟨d2, S4, e4, hd2, s4⟩ := p_chosen (n := n) H m [.int 0, .int 0, .int 1] S3 (by decide) (by decide) s3
  have pr2 : ∃ k, d2 = .int k ∧ 0 ≤ k ∧ k ≤ 1 := by
    simp only [List.mem_cons, List.not_mem_nil, or_false] at hd2
    rcases hd2 with rfl | rfl | rfl <;> exact ⟨_, rfl, by decide, by decide⟩
  obtain ⟨b, rfl, b0, b1⟩ := pr2
  refine ⟨l, s, 1 + r, k, b, S4, ?_, ⟨c1, by omega, c3, by omega, by omega, by omega, by omega, k0, by omega, b0, by omega⟩, c2, c4, c5, by omega, by omega, s4⟩
  simp [b__law_tiny, e1, e2, e3, e4, runF, denSs, denS, den, dens, deni, Res.bind, Res.fl, optR, optB, getV, getS, setIs, setG, killL, setPs, putS, forL, opS, addS, mulS, mulI, modI, fdivI, powI, int2, cmpS, cmpI, eqS, isNon, idxS, dcv, dcs, itv, lsv, sqv, vw, tru, biS, isiS, Ty.isI, Ty.isB, Ty.isS, Ty.isT, Ty.isL, mtS, mtK, slcP, partS, Rv.shr, L2.atI, L2.ixN, intsD, boolsD, handL, subc, CEs.len, sz]
theorem p_draw (H : HD T I) (m : Nat) (l s q k b : Int) (w : Bool) (S : Sto) (c : Car l s q k b) (h : Src S m) : ∃ x S', Phi T (n + 2) I.f__law_drive [.ref m, carD l s q k b, .bl w] S = .ok (.sh (drvD x)) S' ∧ drB q (drvD x) = true ∧ Src S' m := by
  rw [phi_at H.drive]; unfold fd__law_drive
  have hq := c.m1
  have hq2 := c.m12
  obtain ⟨d, S1, e1, d0, d1, s1⟩ := p_pick (n := n) H.pick m (q + 1) S (by omega) (by omega) h
  obtain ⟨r, S2, e2, r0, r1, s2⟩ := p_pick (n := n) H.pick m 3 S1 (by decide) (by decide) s1
  have hd : d ≤ q := by omega
  by_cases hr : r = 0
  · obtain ⟨p, S3, e3, p0, p1, s3⟩ := p_pick (n := n) H.pick m (d + 1) S2 (by omega) (by omega) s2
    have hp : p ≤ d := by omega
    cases w with
    | false =>
      refine ⟨⟨d, some p, none⟩, S3, ?_, ?_, s3⟩
      · simp [b__law_drive, carD, drvD, optD, e1, e2, e3, hr, okd, deq, runF, denSs, denS, den, dens, deni, Res.bind, Res.fl, optR, optB, getV, getS, setIs, setG, killL, setPs, putS, forL, opS, addS, mulS, mulI, modI, fdivI, powI, int2, cmpS, cmpI, eqS, isNon, idxS, dcv, dcs, itv, lsv, sqv, vw, tru, biS, isiS, Ty.isI, Ty.isB, Ty.isS, Ty.isT, Ty.isL, mtS, mtK, slcP, partS, Rv.shr, L2.atI, L2.ixN, intsD, boolsD, handL, subc, CEs.len, sz]
      · simp [drB, drvD, optD, noneOr, wh, d0, hd, p0, hp]
    | true =>
      obtain ⟨u, S4, e4, u0, u1, s4⟩ := p_pick (n := n) H.pick m (d + 1) S3 (by omega) (by omega) s3
      have hu : u ≤ d := by omega
      refine ⟨⟨d, some p, some u⟩, S4, ?_, ?_, s4⟩
      · simp [b__law_drive, carD, drvD, optD, e1, e2, e3, e4, hr, okd, deq, runF, denSs, denS, den, dens, deni, Res.bind, Res.fl, optR, optB, getV, getS, setIs, setG, killL, setPs, putS, forL, opS, addS, mulS, mulI, modI, fdivI, powI, int2, cmpS, cmpI, eqS, isNon, idxS, dcv, dcs, itv, lsv, sqv, vw, tru, biS, isiS, Ty.isI, Ty.isB, Ty.isS, Ty.isT, Ty.isL, mtS, mtK, slcP, partS, Rv.shr, L2.atI, L2.ixN, intsD, boolsD, handL, subc, CEs.len, sz]
      · simp [drB, drvD, optD, noneOr, wh, d0, hd, p0, hp, u0, hu]
  · have hrb : (r == 0) = false := by simpa using hr
    cases w with
    | false =>
      refine ⟨⟨d, none, none⟩, S2, ?_, ?_, s2⟩
      · simp [b__law_drive, carD, drvD, optD, e1, e2, hrb, okd, deq, runF, denSs, denS, den, dens, deni, Res.bind, Res.fl, optR, optB, getV, getS, setIs, setG, killL, setPs, putS, forL, opS, addS, mulS, mulI, modI, fdivI, powI, int2, cmpS, cmpI, eqS, isNon, idxS, dcv, dcs, itv, lsv, sqv, vw, tru, biS, isiS, Ty.isI, Ty.isB, Ty.isS, Ty.isT, Ty.isL, mtS, mtK, slcP, partS, Rv.shr, L2.atI, L2.ixN, intsD, boolsD, handL, subc, CEs.len, sz]
      · simp [drB, drvD, optD, noneOr, wh, d0, hd]
    | true =>
      obtain ⟨u, S4, e4, u0, u1, s4⟩ := p_pick (n := n) H.pick m (d + 1) S2 (by omega) (by omega) s2
      have hu : u ≤ d := by omega
      refine ⟨⟨d, none, some u⟩, S4, ?_, ?_, s4⟩
      · simp [b__law_drive, carD, drvD, optD, e1, e2, e4, hrb, okd, deq, runF, denSs, denS, den, dens, deni, Res.bind, Res.fl, optR, optB, getV, getS, setIs, setG, killL, setPs, putS, forL, opS, addS, mulS, mulI, modI, fdivI, powI, int2, cmpS, cmpI, eqS, isNon, idxS, dcv, dcs, itv, lsv, sqv, vw, tru, biS, isiS, Ty.isI, Ty.isB, Ty.isS, Ty.isT, Ty.isL, mtS, mtK, slcP, partS, Rv.shr, L2.atI, L2.ixN, intsD, boolsD, handL, subc, CEs.len, sz]
      · simp [drB, drvD, optD, noneOr, wh, d0, hd, u0, hu]

theorem rangeD_mem : ∀ (n : Nat) (lo : Int) (d : D), d ∈ rangeD lo n → ∃ i : Int, d = .int i ∧ lo ≤ i ∧ i < lo + n
  | 0, _, _, h => by cases h
  | n + 1, lo, d, h => by
    rcases List.mem_cons.mp h with rfl | h
    · exact ⟨lo, rfl, by omega, by omega⟩
    · obtain ⟨i, e, h1, h2⟩ := rangeD_mem n (lo + 1) d h
      exact ⟨i, e, by omega, by omega⟩
theorem all_drv {q : Int} : ∀ {r : List D}, (∀ d ∈ r, ∃ x, d = drvD x ∧ drB q (drvD x) = true) → ∃ xs : List Drv, r = xs.map drvD ∧ ∀ x ∈ xs, drB q (drvD x) = true
  | [], _ => ⟨[], rfl, fun _ h => (nomatch h)⟩
  | d :: r, h => by
    obtain ⟨x, e, hx⟩ := h d List.mem_cons_self
    obtain ⟨xs, e2, hxs⟩ := all_drv fun y hy => h y (List.mem_cons_of_mem _ hy)
    refine ⟨x :: xs, by rw [e, e2]; rfl, fun y hy => ?_⟩
    rcases List.mem_cons.mp hy with rfl | hy
    · exact hx
    · exact hxs y hy
theorem p_course (H : HD T I) (m : Nat) (l s q k b many : Int) (S : Sto) (c : Car l s q k b) (m0 : 0 ≤ many) (m7 : many ≤ 7) (h : Src S m) : ∃ a e xs S', Phi T (n + 3) I.f__law_drawn_course [.ref m, carD l s q k b, .int many] S = .ok (.sh (crsD a e xs)) S' ∧ shB l s (pt a e) = true ∧ (∀ x ∈ xs, drB q (drvD x) = true) ∧ xs.length = many.toNat ∧ Src S' m := by
  rw [phi_at H.course]; unfold fd__law_drawn_course
  have hl := c.l2
  have hl2 := c.l40
  have hs := c.s2
  have hs2 := c.s20
  -- the turn at which the counters were new
  have pat : ∃ i S1, den (.ife (.cmp .gt (.idx (.varB 1) (.con (.int 4))) (.con (.int 0))) (.call I.f__law_pick (.cons (.var 0) (.cons (.op .add (.op .mul (.con (.int 2)) (.varB 2)) (.con (.int 1))) (.nil)))) (.var 2)) (Phi T (n + 2)) [some (.sh (.ref m)), some (.sh (carD l s q k b)), some (.sh (.int many)), none, none, none] S = .ok (.sh (.int i)) S1 ∧ Src S1 m := by
    by_cases hb : 0 < b
    · obtain ⟨i, S1, e1, i0, i1, s1⟩ := p_pick (n := n + 1) H.pick m (2 * many + 1) S (by omega) (by omega) h
      exact ⟨i, S1, by simp [carD, hb, e1, runF, denSs, denS, den, dens, deni, Res.bind, Res.fl, optR, optB, getV, getS, setIs, setG, killL, setPs, putS, forL, opS, addS, mulS, mulI, modI, fdivI, powI, int2, cmpS, cmpI, eqS, isNon, idxS, dcv, dcs, itv, lsv, sqv, vw, tru, biS, isiS, Ty.isI, Ty.isB, Ty.isS, Ty.isT, Ty.isL, mtS, mtK, slcP, partS, Rv.shr, L2.atI, L2.ixN, intsD, boolsD, handL, subc, CEs.len, sz], s1⟩
    · exact ⟨many, S, by simp [carD, hb, runF, denSs, denS, den, dens, deni, Res.bind, Res.fl, optR, optB, getV, getS, setIs, setG, killL, setPs, putS, forL, opS, addS, mulS, mulI, modI, fdivI, powI, int2, cmpS, cmpI, eqS, isNon, idxS, dcv, dcs, itv, lsv, sqv, vw, tru, biS, isiS, Ty.isI, Ty.isB, Ty.isS, Ty.isT, Ty.isL, mtS, mtK, slcP, partS, Rv.shr, L2.atI, L2.ixN, intsD, boolsD, handL, subc, CEs.len, sz], h⟩
  obtain ⟨i, S1, ep, s1⟩ := pat
  have hcomp := compL_inv (g := .nm 5) (t := fun _ S => .ok (.sh (.bl true)) S) (f := den (b__law_drawn_course_e0 I) (Phi T (n + 2))) (ρ := [some (.sh (.ref m)), some (.sh (carD l s q k b)), some (.sh (.int many)), some (.sh (.int i)), none, none]) (fun S => Src S m) (fun d => ∃ x, d = drvD x ∧ drB q (drvD x) = true) (ds := rangeD 0 many.toNat) s1
    fun d hd S hS => by
      obtain ⟨j, rfl, _, _⟩ := rangeD_mem _ _ _ hd
      obtain ⟨x, S', e1, hx, s2⟩ := p_draw (n := n) H m l s q k b (j == i) S c hS
      refine ⟨_, _, .sh (drvD x), S', rfl, rfl, rfl, ?_, s2, ⟨x, rfl, hx⟩⟩
      simp only [carD] at e1
      simp [b__law_drawn_course_e0, carD, okd, deq, e1, runF, denSs, denS, den, dens, deni, Res.bind, Res.fl, optR, optB, getV, getS, setIs, setG, killL, setPs, putS, forL, opS, addS, mulS, mulI, modI, fdivI, powI, int2, cmpS, cmpI, eqS, isNon, idxS, dcv, dcs, itv, lsv, sqv, vw, tru, biS, isiS, Ty.isI, Ty.isB, Ty.isS, Ty.isT, Ty.isL, mtS, mtK, slcP, partS, Rv.shr, L2.atI, L2.ixN, intsD, boolsD, handL, subc, CEs.len, sz]
  obtain ⟨r, S2, ec, s2, hr, hlen⟩ := hcomp
  obtain ⟨xs, rfl, hxs⟩ := all_drv hr
  obtain ⟨a, S3, e3, a0, a1, s3⟩ := p_pick (n := n + 1) H.pick m l S2 (by omega) (by omega) s2
  obtain ⟨e, S4, e4, f0, f1, s4⟩ := p_pick (n := n + 1) H.pick m s S3 (by omega) (by omega) s3
  rw [rangeD_length] at hlen
  have hlen : xs.length = many.toNat := by simpa using hlen
  have hin : inR many := ⟨by omega, by omega⟩
  have hz : xs.length ≤ PySem.sizeLine := size1000 (by omega)
  have e5 : den (.con (.bl true)) (Phi T (n + 2)) = fun _ S => .ok (.sh (.bl true)) S := by funext ρ S; simp only [den]
  refine ⟨a, e, xs, S4, ?_, by simp [shB, pt, wh, a0, f0]; omega, hxs, hlen, s4⟩
  simp only [runF, b__law_drawn_course, denSs, denS, List.length_cons, List.length_nil, Nat.zero_add, Nat.reduceAdd, Nat.reduceSub, ↓reduceIte, List.map_cons, List.map_nil, List.replicate, List.cons_append, List.nil_append]
  rw [ep]
  simp only [carD] at ec ⊢
  simp [ec, e3, e4, hin, hz, crsD, pt, runF, denSs, denS, den, dens, deni, Res.bind, Res.fl, optR, optB, getV, getS, setIs, setG, killL, setPs, putS, opS, addS, mulS, mulI, modI, fdivI, powI, int2, cmpS, cmpI, eqS, isNon, idxS, dcv, dcs, itv, lsv, sqv, vw, tru, biS, isiS, Ty.isI, Ty.isB, Ty.isS, Ty.isT, Ty.isL, mtS, mtK, slcP, partS, Rv.shr, L2.atI, L2.ixN, intsD, boolsD, handL, subc, CEs.len, sz]

theorem nx1_in {l a d : Int} (r : Option Int) (hl : 0 < l) : 0 ≤ nx1 l a d r ∧ nx1 l a d r ≤ l - 1 := by
  cases r with
  | none => exact ⟨Int.emod_nonneg _ (by omega), by have := Int.emod_lt_of_pos (a + d) hl; show (a + d) % l ≤ _; omega⟩
  | some c => exact ⟨Int.emod_nonneg _ (by omega), by have := Int.emod_lt_of_pos c hl; show c % l ≤ _; omega⟩
theorem shB_nx {l s a b d e : Int} (r p : Option Int) (hl : 0 < l) (hs : 0 < s) : shB l s (pt (nx1 l a d r) (nx1 s b e p)) = true := by
  have h1 := nx1_in (a := a) (d := d) r hl
  have h2 := nx1_in (a := b) (d := e) p hs
  simp [shB, pt, wh, h1.1, h1.2, h2.1, h2.2]
theorem trail_get {l s : Int} (hl : 0 < l) (hs : 0 < s) : ∀ {xs : List Drv} {a b : Int} {i : Nat} {x : Drv}, shB l s (pt a b) = true → xs[i]? = some x →
    ∃ a' b', (trail l s a b xs)[i]? = some (pt a' b') ∧ (trail l s a b xs)[i + 1]? = some (pt (nx1 l a' x.d x.r) (nx1 s b' x.d x.p)) ∧ shB l s (pt a' b') = true
  | [], _, _, _, _, _, h => by simp at h
  | y :: ys, a, b, 0, x, hb, h => by
    simp at h; subst h
    refine ⟨a, b, rfl, ?_, hb⟩
    cases ys <;> rfl
  | y :: ys, a, b, i + 1, x, hb, h => by
    obtain ⟨a', b', h1, h2, h3⟩ := trail_get hl hs (a := nx1 l a y.d y.r) (b := nx1 s b y.d y.p) (shB_nx _ _ hl hs) (show ys[i]? = some x by simpa using h)
    exact ⟨a', b', by simpa [trail] using h1, by simpa [trail] using h2, h3⟩
theorem trail_ok (l s : Int) : ∀ (xs : List Drv) (a b : Int), okds (trail l s a b xs) 59 = true ∧ deqs (trail l s a b xs) (trail l s a b xs) = true
  | [], a, b => by simp [trail, pt, okds, okd, deqs, deq]
  | y :: ys, a, b => by
    have h := trail_ok l s ys (nx1 l a y.d y.r) (nx1 s b y.d y.p)
    simp [trail, pt, okds, okd, deqs, deq, h.1, h.2]
theorem trail_eq {l s a b : Int} {xs : List Drv} {S : Sto} : cmpS .ne (.nl (trail l s a b xs)) (.sh (.lst (trail l s a b xs))) S = some false := by
  have h := trail_ok l s xs a b
  simp [cmpS, eqS, vw, okd, deq, h.1, h.2]
theorem pt_eq {a b : Int} {S : Sto} : cmpS .ne (.sh (pt a b)) (.sh (pt a b)) S = some false := by simp [cmpS, eqS, vw, pt, okd, okds, deq, deqs]

/-! ### notes -/
abbrev Nt := Option Int × Option Int
abbrev ntD (x : Nt) : D := .tup [optD x.1, optD x.2]
structure NtOk (l s : Int) (x : Nt) : Prop where
  a : ∀ i, x.1 = some i → 0 ≤ i ∧ i < l
  b : ∀ i, x.2 = some i → 0 ≤ i ∧ i < s
abbrev ptD (p : Int × Int) : D := pt p.1 p.2
structure ShOk (l s : Int) (p : Int × Int) : Prop where
  a : 0 ≤ p.1 ∧ p.1 < l
  b : 0 ≤ p.2 ∧ p.2 < s
def trl (l s : Int) : Int → Int → List Drv → List (Int × Int)
  | a, b, [] => [(a, b)]
  | a, b, x :: xs => (a, b) :: trl l s (nx1 l a x.d x.r) (nx1 s b x.d x.p) xs
theorem trail_trl (l s : Int) : ∀ (xs : List Drv) (a b : Int), trail l s a b xs = (trl l s a b xs).map ptD
  | [], a, b => rfl
  | x :: xs, a, b => by simp [trail, trl, trail_trl l s xs, ptD]
theorem trl_len (l s : Int) : ∀ (xs : List Drv) (a b : Int), (trl l s a b xs).length = xs.length + 1
  | [], _, _ => rfl
  | y :: ys, a, b => by simp [trl, trl_len l s ys]
theorem nx1_ok {l a d : Int} (r : Option Int) (hl : 0 < l) : 0 ≤ nx1 l a d r ∧ nx1 l a d r < l := by
  have := nx1_in (a := a) (d := d) r hl; omega
theorem trl_ok {l s : Int} (hl : 0 < l) (hs : 0 < s) : ∀ (xs : List Drv) (a b : Int), 0 ≤ a ∧ a < l → 0 ≤ b ∧ b < s → ∀ p ∈ trl l s a b xs, ShOk l s p
  | [], a, b, ha, hb, p, hp => by rw [List.mem_singleton.mp hp]; exact ⟨ha, hb⟩
  | x :: xs, a, b, ha, hb, p, hp => by
    rcases List.mem_cons.mp hp with rfl | hp
    · exact ⟨ha, hb⟩
    · exact trl_ok hl hs xs _ _ (nx1_ok _ hl) (nx1_ok _ hs) p hp
/-- a number that is noted of what is shown -/
def Noted (w : Bool) (l a : Int) (x : Option Int) : Prop := (∀ i, x = some i → 0 ≤ i ∧ i < l) ∧ (w = false → x = none ∨ x = some a)
theorem p_noted1 (H : HP T I) (m : Nat) (l s q k b : Int) (w : Bool) (sh fo nt : List D) (a c : Int) (j : Int) (S : Sto) (hj : j = 0 ∨ j = 1) (cr : Car l s q k b) (hp : ShOk l s (a, c)) (h : Src S m) (v8 v9 : Option Rv) (hz : nt.length < 1000) :
    ∃ x S' u8 u9, denSs (b__law_noted_l0 I) (Phi T (n + 1)) [some (.sh (.ref m)), some (.sh (carD l s q k b)), some (.sh (.lst sh)), some (.sh (.bl w)), some (.sh (.tup fo)), some (.sh (pt a c)), some (.sh (.tup nt)), some (.sh (.int j)), v8, v9] S =
      .nx [some (.sh (.ref m)), some (.sh (carD l s q k b)), some (.sh (.lst sh)), some (.sh (.bl w)), some (.sh (.tup fo)), some (.sh (pt a c)), some (.sh (.tup (nt ++ [optD x]))), some (.sh (.int j)), u8, u9] S' ∧ Noted w (if j = 0 then l else s) (if j = 0 then a else c) x ∧ Src S' m := by
  obtain ⟨r, S1, e1, r0, r1, s1⟩ := p_pick (n := n) H.pick m 9 S (by decide) (by decide) h
  have hl := cr.l2
  have hl2 := cr.l40
  have hs := cr.s2
  have hs2 := cr.s20
  have hz2 : nt.length + 1 ≤ PySem.sizeLine := size1000 (by omega)
  by_cases h8 : r = 8 ∧ w = true
  · obtain ⟨rfl, rfl⟩ := h8
    obtain ⟨i, S2, e2, i0, i1, s2⟩ := p_pick (n := n) H.pick m (if j = 0 then l else s) S1 (by split <;> omega) (by split <;> omega) s1
    refine ⟨some i, S2, some (.sh (.int 8)), some (.sh (.int i)), ?_, ⟨fun z hz => (by cases hz; exact ⟨i0, i1⟩), fun z => (by cases z)⟩, s2⟩
    rcases hj with rfl | rfl
    · simp only [↓reduceIte] at e2
      simp [b__law_noted_l0, e1, e2, hz2, okd, deq, optD, runF, denSs, denS, den, dens, deni, Res.bind, Res.fl, optR, optB, getV, getS, setIs, setG, killL, setPs, putS, forL, opS, addS, mulS, mulI, modI, fdivI, powI, int2, cmpS, cmpI, eqS, isNon, idxS, dcv, dcs, itv, lsv, sqv, vw, tru, biS, isiS, Ty.isI, Ty.isB, Ty.isS, Ty.isT, Ty.isL, mtS, mtK, slcP, partS, Rv.shr, L2.atI, L2.ixN, intsD, boolsD, handL, subc, CEs.len, sz]
    · simp only [Int.one_ne_zero, ↓reduceIte] at e2
      simp [b__law_noted_l0, e1, e2, hz2, okd, deq, optD, runF, denSs, denS, den, dens, deni, Res.bind, Res.fl, optR, optB, getV, getS, setIs, setG, killL, setPs, putS, forL, opS, addS, mulS, mulI, modI, fdivI, powI, int2, cmpS, cmpI, eqS, isNon, idxS, dcv, dcs, itv, lsv, sqv, vw, tru, biS, isiS, Ty.isI, Ty.isB, Ty.isS, Ty.isT, Ty.isL, mtS, mtK, slcP, partS, Rv.shr, L2.atI, L2.ixN, intsD, boolsD, handL, subc, CEs.len, sz]
  · have h8' : (r == 8 && w) = false := by
      cases w <;> simp_all
    by_cases h2 : 2 < r
    · refine ⟨some (if j = 0 then a else c), S1, some (.sh (.int r)), some (.sh (.int (if j = 0 then a else c))), ?_, ⟨fun z hz => (by cases hz; split; exact hp.a; exact hp.b), fun _ => .inr rfl⟩, s1⟩
      rcases hj with rfl | rfl <;> cases w <;> cases e8 : (r == 8) <;> simp [e8] at h8' <;> simp [b__law_noted_l0, e1, e8, h2, hz2, okd, deq, optD, runF, denSs, denS, den, dens, deni, Res.bind, Res.fl, optR, optB, getV, getS, setIs, setG, killL, setPs, putS, forL, opS, addS, mulS, mulI, modI, fdivI, powI, int2, cmpS, cmpI, eqS, isNon, idxS, dcv, dcs, itv, lsv, sqv, vw, tru, biS, isiS, Ty.isI, Ty.isB, Ty.isS, Ty.isT, Ty.isL, mtS, mtK, slcP, partS, Rv.shr, L2.atI, L2.ixN, intsD, boolsD, handL, subc, CEs.len, sz]
    · refine ⟨none, S1, some (.sh (.int r)), some (.sh .non), ?_, ⟨fun z hz => (by cases hz), fun _ => .inl rfl⟩, s1⟩
      have e8 : (r == 8) = false := by simp; omega
      rcases hj with rfl | rfl <;> simp [b__law_noted_l0, e1, e8, h2, hz2, okd, deq, optD, runF, denSs, denS, den, dens, deni, Res.bind, Res.fl, optR, optB, getV, getS, setIs, setG, killL, setPs, putS, forL, opS, addS, mulS, mulI, modI, fdivI, powI, int2, cmpS, cmpI, eqS, isNon, idxS, dcv, dcs, itv, lsv, sqv, vw, tru, biS, isiS, Ty.isI, Ty.isB, Ty.isS, Ty.isT, Ty.isL, mtS, mtK, slcP, partS, Rv.shr, L2.atI, L2.ixN, intsD, boolsD, handL, subc, CEs.len, sz]
theorem p_noted2 (H : HP T I) (m : Nat) (l s q k b : Int) (w : Bool) (sh fo : List D) (a c : Int) (S : Sto) (cr : Car l s q k b) (hp : ShOk l s (a, c)) (h : Src S m) (v6 v7 v8 v9 : Option Rv) (hz : fo.length < 100) :
    ∃ x ρ S', denSs (b__law_noted_l1 I) (Phi T (n + 1)) [some (.sh (.ref m)), some (.sh (carD l s q k b)), some (.sh (.lst sh)), some (.sh (.bl w)), some (.sh (.tup fo)), some (.sh (pt a c)), v6, v7, v8, v9] S = .nx ρ S' ∧
      killL ρ [5, 6, 7, 8, 9] = [some (.sh (.ref m)), some (.sh (carD l s q k b)), some (.sh (.lst sh)), some (.sh (.bl w)), some (.sh (.tup (fo ++ [ntD x]))), none, none, none, none, none] ∧ Noted w l a x.1 ∧ Noted w s c x.2 ∧ Src S' m := by
  obtain ⟨x, S1, u8, u9, e1, n1, s1⟩ := p_noted1 (n := n) H m l s q k b w sh fo [] a c 0 S (.inl rfl) cr hp h v8 v9 (by decide)
  obtain ⟨y, S2, w8, w9, e2, n2, s2⟩ := p_noted1 (n := n) H m l s q k b w sh fo [optD x] a c 1 S1 (.inr rfl) cr hp s1 none none (by simp)
  have hz2 : fo.length + 1 ≤ PySem.sizeLine := size1000 (by omega)
  refine ⟨(x, y), [some (.sh (.ref m)), some (.sh (carD l s q k b)), some (.sh (.lst sh)), some (.sh (.bl w)), some (.sh (.tup (fo ++ [ntD (x, y)]))), some (.sh (pt a c)), some (.sh (.tup [optD x, optD y])), none, none, none], S2, ?_, rfl, n1, n2, s2⟩
  simp only [List.nil_append, List.cons_append] at e1 e2
  simp [b__law_noted_l1, e1, e2, hz2, runF, denSs, denS, den, dens, deni, Res.bind, Res.fl, optR, optB, getV, getS, setIs, setG, killL, setPs, putS, forL, opS, addS, mulS, mulI, modI, fdivI, powI, int2, cmpS, cmpI, eqS, isNon, idxS, dcv, dcs, itv, lsv, sqv, vw, tru, biS, isiS, Ty.isI, Ty.isB, Ty.isS, Ty.isT, Ty.isL, mtS, mtK, slcP, partS, Rv.shr, L2.atI, L2.ixN, intsD, boolsD, handL, subc, CEs.len, sz]
/-- notes of what is shown -/
def NotedL (w : Bool) (l s : Int) : List (Int × Int) → List Nt → Prop
  | [], [] => True
  | p :: ps, x :: xs => (Noted w l p.1 x.1 ∧ Noted w s p.2 x.2) ∧ NotedL w l s ps xs
  | _, _ => False
theorem NotedL.len {w : Bool} {l s : Int} : ∀ {ps : List (Int × Int)} {xs : List Nt}, NotedL w l s ps xs → xs.length = ps.length
  | [], [], _ => rfl
  | _ :: _, _ :: _, h => by simp [NotedL.len h.2]
  | [], _ :: _, h => h.elim
  | _ :: _, [], h => h.elim
theorem NotedL.ok {w : Bool} {l s : Int} : ∀ {ps : List (Int × Int)} {xs : List Nt}, NotedL w l s ps xs → ∀ x ∈ xs, NtOk l s x
  | [], [], _, _, h => nomatch h
  | _ :: _, _ :: _, h, x, hx => by
    rcases List.mem_cons.mp hx with rfl | hx
    · exact ⟨h.1.1.1, h.1.2.1⟩
    · exact NotedL.ok h.2 x hx
  | [], _ :: _, h, _, _ => h.elim
  | _ :: _, [], h, _, _ => h.elim
theorem p_noted_loop (H : HP T I) (m : Nat) (l s q k b : Int) (w : Bool) (sh : List D) (cr : Car l s q k b) : ∀ (ps : List (Int × Int)) (fo : List D) (S : Sto), (∀ p ∈ ps, ShOk l s p) → Src S m → fo.length + ps.length ≤ 100 →
    ∃ xs S', forL (.nm 5) (denSs (b__law_noted_l1 I) (Phi T (n + 1))) [5, 6, 7, 8, 9] (ps.map ptD) [some (.sh (.ref m)), some (.sh (carD l s q k b)), some (.sh (.lst sh)), some (.sh (.bl w)), some (.sh (.tup fo)), none, none, none, none, none] S =
      .nx [some (.sh (.ref m)), some (.sh (carD l s q k b)), some (.sh (.lst sh)), some (.sh (.bl w)), some (.sh (.tup (fo ++ xs.map ntD))), none, none, none, none, none] S' ∧ NotedL w l s ps xs ∧ Src S' m
  | [], fo, S, _, h, _ => ⟨[], S, by simp [forL, killL], trivial, h⟩
  | p :: ps, fo, S, hp, h, hz => by
    obtain ⟨x, ρ, S1, e1, k1, n1, n2, s1⟩ := p_noted2 (n := n) H m l s q k b w sh fo p.1 p.2 S cr (hp p List.mem_cons_self) h none none none none (by simp at hz; omega)
    obtain ⟨xs, S2, e2, n3, s2⟩ := p_noted_loop H m l s q k b w sh cr ps (fo ++ [ntD x]) S1 (fun p hp' => hp p (List.mem_cons_of_mem _ hp')) s1 (by simp at hz ⊢; omega)
    refine ⟨x :: xs, S2, ?_, ⟨⟨n1, n2⟩, n3⟩, s2⟩
    rw [List.map_cons, forL]
    simp only [setG, List.set_cons_zero, List.set_cons_succ, ptD]
    rw [e1]
    simp only [k1]
    rw [e2]
    simp
theorem p_noted (H : HP T I) (h0 : T[I.f__law_noted]? = some (fd__law_noted I)) (m : Nat) (l s q k b : Int) (w : Bool) (ps : List (Int × Int)) (S : Sto) (cr : Car l s q k b) (hp : ∀ p ∈ ps, ShOk l s p) (h : Src S m) (hz : ps.length ≤ 100) :
    ∃ xs S', Phi T (n + 2) I.f__law_noted [.ref m, carD l s q k b, .lst (ps.map ptD), .bl w] S = .ok (.sh (.tup (xs.map ntD))) S' ∧ NotedL w l s ps xs ∧ Src S' m := by
  rw [phi_at h0]; unfold fd__law_noted
  obtain ⟨xs, S', e, n1, s1⟩ := p_noted_loop (n := n) H m l s q k b w (ps.map ptD) cr ps [] S hp h (by simpa using hz)
  refine ⟨xs, S', ?_, n1, s1⟩
  simp only [List.nil_append] at e
  simp [b__law_noted, e, runF, denSs, denS, den, dens, deni, Res.bind, Res.fl, optR, optB, getV, getS, setIs, setG, killL, setPs, putS, opS, addS, mulS, mulI, modI, fdivI, powI, int2, cmpS, cmpI, eqS, isNon, idxS, dcv, dcs, itv, lsv, sqv, vw, tru, biS, isiS, Ty.isI, Ty.isB, Ty.isS, Ty.isT, Ty.isL, mtS, mtK, slcP, partS, Rv.shr, L2.atI, L2.ixN, intsD, boolsD, handL, subc, CEs.len, sz]
/-- a drawn course, with what it shows -/
theorem p_drawn (H : HD T I) (h0 : T[I.f__law_shows]? = some (fd__law_shows I)) (m : Nat) (l s q k b many : Int) (S : Sto) (c : Car l s q k b) (m0 : 0 ≤ many) (m7 : many ≤ 7) (h : Src S m) : ∃ a e xs S', Phi T (n + 3) I.f__law_drawn_course [.ref m, carD l s q k b, .int many] S = .ok (.sh (crsD a e xs)) S' ∧ (∀ S, Phi T (n + 3) I.f__law_shows [carD l s q k b, crsD a e xs] S = .ok (.nl ((trl l s a e xs).map ptD)) S) ∧
    shB l s (pt a e) = true ∧ (∀ x ∈ xs, drB q (drvD x) = true) ∧ xs.length = many.toNat ∧ (∀ p ∈ trl l s a e xs, ShOk l s p) ∧ Src S' m := by
  obtain ⟨a, e, xs, S', h1, h2, h3, h4, h5⟩ := p_course (n := n) H m l s q k b many S c m0 m7 h
  have hl : 0 < l := by have := c.l2; omega
  have hs : 0 < s := by have := c.s2; omega
  have hb : 0 ≤ a ∧ a < l ∧ 0 ≤ e ∧ e < s := by
    simp [shB, wh] at h2; omega
  refine ⟨a, e, xs, S', h1, fun S => ?_, h2, h3, h4, trl_ok hl hs xs a e ⟨hb.1, hb.2.1⟩ hb.2.2, h5⟩
  rw [← trail_trl]
  exact p_shows (n := n + 2) h0 l s q k b a e xs S hl hs (by omega)
theorem p_drawn_notes (H : HD T I) (h0 : T[I.f__law_shows]? = some (fd__law_shows I)) (h1 : T[I.f__law_noted]? = some (fd__law_noted I)) (h2 : T[I.f__law_drawn_notes]? = some (fd__law_drawn_notes I)) (m : Nat) (l s q k b many : Int) (w : Bool) (S : Sto) (c : Car l s q k b) (m0 : 1 ≤ many) (m7 : many ≤ 8) (h : Src S m) :
    ∃ (xs : List Nt) (S' : Sto), Phi T (n + 4) I.f__law_drawn_notes [.ref m, carD l s q k b, .int many, .bl w] S = .ok (.sh (.tup (xs.map ntD))) S' ∧ xs.length = many.toNat ∧ (∀ x ∈ xs, NtOk l s x) ∧ Src S' m := by
  obtain ⟨a, e, ds, S1, e1, e2, _, _, hlen, hok, s1⟩ := p_drawn (n := n) H h0 m l s q k b (many - 1) S c (by omega) (by omega) h
  have hz : (trl l s a e ds).length = many.toNat := by rw [trl_len]; omega
  obtain ⟨xs, S2, e3, n1, s2⟩ := p_noted (n := n + 1) H.toHP h1 m l s q k b w (trl l s a e ds) S1 c hok s1 (by omega)
  refine ⟨xs, S2, ?_, by rw [n1.len, hz], n1.ok, s2⟩
  rw [phi_at h2]; unfold fd__law_drawn_notes
  simp [b__law_drawn_notes, e1, e2, e3, runF, denSs, denS, den, dens, deni, Res.bind, Res.fl, optR, optB, getV, getS, setIs, setG, killL, setPs, putS, forL, opS, addS, mulS, mulI, modI, fdivI, powI, int2, cmpS, cmpI, eqS, isNon, idxS, dcv, dcs, itv, lsv, sqv, vw, tru, biS, isiS, Ty.isI, Ty.isB, Ty.isS, Ty.isT, Ty.isL, mtS, mtK, slcP, partS, Rv.shr, L2.atI, L2.ixN, intsD, boolsD, handL, subc, CEs.len, sz]
end
end Z

set_option Elab.async false
set_option linter.all false
set_option autoImplicit false
set_option maxRecDepth 100000
set_option maxHeartbeats 4000000
set_option pp.maxSteps 400
set_option pp.deepTerms false
/-! P3: the laws' own looks at data. -/
namespace Z
theorem compL_filt {g : CG} {t f : Env → Sto → Res Rv} {ρ : Env} {S : Sto} {p : D → Bool} {h : D → D} : ∀ {ds : List D}, (∀ d ∈ ds, ∃ ρ1 tv, setG g d ρ = some ρ1 ∧ t ρ1 S = .ok tv S ∧ tru tv S = some (p d) ∧ (p d = true → ∃ v, f ρ1 S = .ok v S ∧ v.shr = h d)) → compL g t f ds ρ S = .ok ((ds.filter p).map h) S
  | [], _ => rfl
  | d :: ds, H => by
    obtain ⟨ρ1, tv, h1, h2, h3, h4⟩ := H d List.mem_cons_self
    have ih := compL_filt (p := p) (h := h) fun x hx => H x (List.mem_cons_of_mem _ hx)
    cases e : p d with
    | false => simp only [compL, h1, h2, h3, e, ih, List.filter_cons, Bool.false_eq_true, ↓reduceIte]
    | true =>
      obtain ⟨v, h5, h6⟩ := h4 e
      simp only [compL, h1, h2, h3, e, h5, ih, List.filter_cons, ↓reduceIte, List.map_cons, h6]
mutual
theorem okd_mono : ∀ {v : D} {j k : Nat}, okd v j = true → j ≤ k → okd v k = true
  | .non, _, _, _, _ => by simp [okd]
  | .bl _, _, _, _, _ => by simp [okd]
  | .int _, _, _, _, _ => by simp [okd]
  | .str x, _, _, h, _ => by simpa [okd] using h
  | .tup ds, j, k, h, hk => by
    simp only [okd, Bool.and_eq_true, decide_eq_true_eq] at h ⊢
    exact ⟨by omega, okds_mono h.2 (by omega)⟩
  | .lst ds, j, k, h, hk => by
    simp only [okd, Bool.and_eq_true, decide_eq_true_eq] at h ⊢
    exact ⟨by omega, okds_mono h.2 (by omega)⟩
  | .dct _, _, _, h, _ => by simp [okd] at h
  | .scr _, _, _, h, _ => by simp [okd] at h
  | .ref _, _, _, h, _ => by simp [okd] at h
  | .fn _, _, _, h, _ => by simp [okd] at h
theorem okds_mono : ∀ {v : List D} {j k : Nat}, okds v j = true → j ≤ k → okds v k = true
  | [], _, _, _, _ => by simp [okds]
  | d :: ds, j, k, h, hk => by
    simp only [okds, Bool.and_eq_true] at h ⊢
    exact ⟨okd_mono h.1 hk, okds_mono h.2 hk⟩
end
theorem okds_of {ds : List D} {k : Nat} (h : ∀ d ∈ ds, okd d k = true) : okds ds k = true := by
  induction ds with
  | nil => rfl
  | cons d ds ih => simp only [okds, h d List.mem_cons_self, ih fun x hx => h x (List.mem_cons_of_mem _ hx), Bool.and_self]
theorem okd_len {ds : List D} {k : Nat} (h : okd (.tup ds) k = true) : 0 < k := by
  simp only [okd, Bool.and_eq_true, decide_eq_true_eq] at h; exact h.1
theorem eq_nil {ds : List D} {S : Sto} (h : okds ds 59 = true) : cmpS .eq (.nl ds) (.nl []) S = some ds.isEmpty := by
  cases ds <;> simp [cmpS, eqS, vw, okd, okds, deq, deqs] at h ⊢
  exact h
theorem ne_nil {ds : List D} {S : Sto} (h : okds ds 59 = true) : cmpS .ne (.nl ds) (.nl []) S = some (!ds.isEmpty) := by
  cases ds <;> simp [cmpS, eqS, vw, okd, okds, deq, deqs] at h ⊢
  exact h
theorem eq_nilL {ds : List D} {S : Sto} (h : okds ds 59 = true) : cmpS .eq (.sh (.lst ds)) (.nl []) S = some ds.isEmpty := by
  cases ds <;> simp [cmpS, eqS, vw, okd, okds, deq, deqs] at h ⊢
  exact h
theorem ne_nilL {ds : List D} {S : Sto} (h : okds ds 59 = true) : cmpS .ne (.sh (.lst ds)) (.nl []) S = some (!ds.isEmpty) := by
  cases ds <;> simp [cmpS, eqS, vw, okd, okds, deq, deqs] at h ⊢
  exact h
theorem isNon_non : isNon (.sh .non) = true := of_eq_true (eq_true rfl)
theorem isNon_eq (v : D) : isNon (.sh v) = true ↔ v = .non := by cases v <;> simp [isNon]
theorem filter_isEmpty (p : D → Bool) (ds : List D) : ((ds.filter p).map fun x => x).isEmpty = ds.all fun d => !p d := by
  induction ds with
  | nil => rfl
  | cons d ds ih => cases e : p d <;> simp [List.filter_cons, e] at ih ⊢; exact ih
section
variable {T : List Fd} {I : Ids} {n : Nat} {S : Sto}
structure HG (T : List Fd) (I : Ids) : Prop where
  wide : T[I.f__law_wide]? = some (fd__law_wide I)
  whole : T[I.f__law_whole]? = some (fd__law_whole I)
  note : T[I.f__law_good_note]? = some (fd__law_good_note I)
structure HGc (T : List Fd) (I : Ids) : Prop extends HG T I where
  drive : T[I.f__law_good_drive]? = some (fd__law_good_drive I)
  course : T[I.f__law_good_course]? = some (fd__law_good_course I)
theorem g_bool (h0 : T[I.f__law_is_bool]? = some (fd__law_is_bool I)) (a b : Bool) : Phi T (n + 1) I.f__law_is_bool [.bl a, .bl b] S = .ok (.sh (.bl (a == b))) S := by
  rw [phi_at h0]
  simp [fd__law_is_bool, b__law_is_bool, okd, deq, runF, denSs, denS, den, dens, deni, Res.bind, Res.fl, optR, optB, getV, getS, setIs, setG, killL, setPs, putS, forL, opS, addS, mulS, mulI, modI, fdivI, powI, int2, cmpS, cmpI, eqS, isNon, idxS, dcv, dcs, itv, lsv, sqv, vw, tru, biS, isiS, Ty.isI, Ty.isB, Ty.isS, Ty.isT, Ty.isL, mtS, mtK, slcP, partS, Rv.shr, L2.atI, L2.ixN, intsD, boolsD, handL, subc, CEs.len, sz]
theorem g_whole (h0 : T[I.f__law_whole]? = some (fd__law_whole I)) {v : D} {lo hi : Int} (h : isD v = true) : Phi T (n + 1) I.f__law_whole [v, .int lo, .int hi] S = .ok (.sh (.bl (wh v lo hi))) S := by
  rw [phi_at h0]
  cases v with
  | int i =>
    simp [fd__law_whole, b__law_whole, wh, runF, denSs, denS, den, dens, deni, Res.bind, Res.fl, optR, optB, getV, getS, setIs, setG, killL, setPs, putS, forL, opS, addS, mulS, mulI, modI, fdivI, powI, int2, cmpS, cmpI, eqS, isNon, idxS, dcv, dcs, itv, lsv, sqv, vw, tru, biS, isiS, Ty.isI, Ty.isB, Ty.isS, Ty.isT, Ty.isL, mtS, mtK, slcP, partS, Rv.shr, L2.atI, L2.ixN, intsD, boolsD, handL, subc, CEs.len, sz]
    by_cases h1 : lo ≤ i <;> simp [h1]
  | _ => first | (simp [isD] at h; done) | simp [fd__law_whole, b__law_whole, wh, runF, denSs, denS, den, dens, deni, Res.bind, Res.fl, optR, optB, getV, getS, setIs, setG, killL, setPs, putS, forL, opS, addS, mulS, mulI, modI, fdivI, powI, int2, cmpS, cmpI, eqS, isNon, idxS, dcv, dcs, itv, lsv, sqv, vw, tru, biS, isiS, Ty.isI, Ty.isB, Ty.isS, Ty.isT, Ty.isL, mtS, mtK, slcP, partS, Rv.shr, L2.atI, L2.ixN, intsD, boolsD, handL, subc, CEs.len, sz]
theorem g_wide (h0 : T[I.f__law_wide]? = some (fd__law_wide I)) {v : D} {lo hi : Int} (h : isD v = true) : Phi T (n + 1) I.f__law_wide [v, .int lo, .int hi] S = .ok (.sh (.bl (wd v lo hi))) S := by
  rw [phi_at h0]
  cases v with
  | tup ds =>
    simp [fd__law_wide, b__law_wide, wd, runF, denSs, denS, den, dens, deni, Res.bind, Res.fl, optR, optB, getV, getS, setIs, setG, killL, setPs, putS, forL, opS, addS, mulS, mulI, modI, fdivI, powI, int2, cmpS, cmpI, eqS, isNon, idxS, dcv, dcs, itv, lsv, sqv, vw, tru, biS, isiS, Ty.isI, Ty.isB, Ty.isS, Ty.isT, Ty.isL, mtS, mtK, slcP, partS, Rv.shr, L2.atI, L2.ixN, intsD, boolsD, handL, subc, CEs.len, sz]
    by_cases h1 : lo ≤ ds.length <;> simp [h1]
  | _ => first | (simp [isD] at h; done) | simp [fd__law_wide, b__law_wide, wd, runF, denSs, denS, den, dens, deni, Res.bind, Res.fl, optR, optB, getV, getS, setIs, setG, killL, setPs, putS, forL, opS, addS, mulS, mulI, modI, fdivI, powI, int2, cmpS, cmpI, eqS, isNon, idxS, dcv, dcs, itv, lsv, sqv, vw, tru, biS, isiS, Ty.isI, Ty.isB, Ty.isS, Ty.isT, Ty.isL, mtS, mtK, slcP, partS, Rv.shr, L2.atI, L2.ixN, intsD, boolsD, handL, subc, CEs.len, sz]
theorem g_car (h1 : T[I.f__law_whole]? = some (fd__law_whole I)) (h2 : T[I.f__law_wide]? = some (fd__law_wide I)) (h0 : T[I.f__law_good_car]? = some (fd__law_good_car I)) {v : D} {k : Nat} (h : okd v k = true) : Phi T (n + 2) I.f__law_good_car [v] S = .ok (.sh (.bl (rcB v))) S := by
  rw [phi_at h0]
  have hv := okd_isD h
  by_cases hw : wd v 5 5 = true
  · cases v with
    | tup ds =>
      have ho := okds_all (okd_tup h)
      rcases ds with _ | ⟨a, _ | ⟨b, _ | ⟨c, _ | ⟨d, _ | ⟨e, _ | ⟨f, ds⟩⟩⟩⟩⟩⟩ <;> first | (simp [wd] at hw; done) | skip
      · have ia := okd_isD (ho a (by simp))
        have ib := okd_isD (ho b (by simp))
        have ic := okd_isD (ho c (by simp))
        have id := okd_isD (ho d (by simp))
        have ie := okd_isD (ho e (by simp))
        cases wa : wh a 2 40 with
        | false =>
          have e : rcB (.tup [a, b, c, d, e]) = false := by
            cases a <;> simp [rcB, rollsB]
            rename_i i
            cases b <;> simp
            simp [wh] at wa
            intro z1 z2; have := wa z1; omega
          simp [fd__law_good_car, b__law_good_car, g_wide h2, g_whole h1, hv, hw, ia, wa, e, runF, denSs, denS, den, dens, deni, Res.bind, Res.fl, optR, optB, getV, getS, setIs, setG, killL, setPs, putS, forL, opS, addS, mulS, mulI, modI, fdivI, powI, int2, cmpS, cmpI, eqS, isNon, idxS, dcv, dcs, itv, lsv, sqv, vw, tru, biS, isiS, Ty.isI, Ty.isB, Ty.isS, Ty.isT, Ty.isL, mtS, mtK, slcP, partS, Rv.shr, L2.atI, L2.ixN, intsD, boolsD, handL, subc, CEs.len, sz]
        | true =>
          cases wb : wh b 2 20 with
          | false =>
            have e : rcB (.tup [a, b, c, d, e]) = false := by
              cases a <;> simp [rcB, rollsB]
              cases b <;> simp
              simp [wh] at wb
              intro _ _ z1 z2; have := wb z1; omega
            simp [fd__law_good_car, b__law_good_car, g_wide h2, g_whole h1, hv, hw, ia, ib, wa, wb, e, runF, denSs, denS, den, dens, deni, Res.bind, Res.fl, optR, optB, getV, getS, setIs, setG, killL, setPs, putS, forL, opS, addS, mulS, mulI, modI, fdivI, powI, int2, cmpS, cmpI, eqS, isNon, idxS, dcv, dcs, itv, lsv, sqv, vw, tru, biS, isiS, Ty.isI, Ty.isB, Ty.isS, Ty.isT, Ty.isL, mtS, mtK, slcP, partS, Rv.shr, L2.atI, L2.ixN, intsD, boolsD, handL, subc, CEs.len, sz]
          | true =>
            cases a with
            | int i =>
              cases b with
              | int j =>
                have q1 : 2 ≤ i ∧ i ≤ 40 := by simpa [wh] using wa
                have q2 : 2 ≤ j ∧ j ≤ 20 := by simpa [wh] using wb
                have hl : -18446744073709551616 < i := by omega
                have hl2 : i < 18446744073709551616 := by omega
                have w1 : Phi T (n + 1) I.f__law_whole [.int i, .int 2, .int 40] S = _ := g_whole h1 rfl
                have w2 : Phi T (n + 1) I.f__law_whole [.int j, .int 2, .int 20] S = _ := g_whole h1 rfl
                rw [wa] at w1
                rw [wb] at w2
                by_cases hp : i * j ≤ 200
                · have hp' : ¬ (200 < i * j) := by omega
                  cases e1 : wh c 1 12 <;> cases e2 : wh d 0 2 <;> simp [fd__law_good_car, b__law_good_car, g_wide h2, g_whole h1, w1, w2, hv, hw, ic, id, ie, q1.1, q1.2, q2.1, q2.2, hl, hl2, hp, hp', e1, e2, rcB, rollsB, runF, denSs, denS, den, dens, deni, Res.bind, Res.fl, optR, optB, getV, getS, setIs, setG, killL, setPs, putS, forL, opS, addS, mulS, mulI, modI, fdivI, powI, int2, cmpS, cmpI, eqS, isNon, idxS, dcv, dcs, itv, lsv, sqv, vw, tru, biS, isiS, Ty.isI, Ty.isB, Ty.isS, Ty.isT, Ty.isL, mtS, mtK, slcP, partS, Rv.shr, L2.atI, L2.ixN, intsD, boolsD, handL, subc, CEs.len, sz]
                · have hp' : 200 < i * j := by omega
                  simp [fd__law_good_car, b__law_good_car, g_wide h2, g_whole h1, w1, w2, hv, hw, q1.1, q1.2, q2.1, q2.2, hl, hl2, hp, hp', rcB, rollsB, runF, denSs, denS, den, dens, deni, Res.bind, Res.fl, optR, optB, getV, getS, setIs, setG, killL, setPs, putS, forL, opS, addS, mulS, mulI, modI, fdivI, powI, int2, cmpS, cmpI, eqS, isNon, idxS, dcv, dcs, itv, lsv, sqv, vw, tru, biS, isiS, Ty.isI, Ty.isB, Ty.isS, Ty.isT, Ty.isL, mtS, mtK, slcP, partS, Rv.shr, L2.atI, L2.ixN, intsD, boolsD, handL, subc, CEs.len, sz]
              | _ => simp [wh] at wb
            | _ => simp [wh] at wa
      · simp [wd] at hw; omega
    | _ => simp [wd] at hw
  · have hw : wd v 5 5 = false := by simpa using hw
    have e : rcB v = false := by
      unfold rcB; split
      · simp [wd] at hw
      · rfl
    simp [fd__law_good_car, b__law_good_car, g_wide h2, hv, hw, e, runF, denSs, denS, den, dens, deni, Res.bind, Res.fl, optR, optB, getV, getS, setIs, setG, killL, setPs, putS, forL, opS, addS, mulS, mulI, modI, fdivI, powI, int2, cmpS, cmpI, eqS, isNon, idxS, dcv, dcs, itv, lsv, sqv, vw, tru, biS, isiS, Ty.isI, Ty.isB, Ty.isS, Ty.isT, Ty.isL, mtS, mtK, slcP, partS, Rv.shr, L2.atI, L2.ixN, intsD, boolsD, handL, subc, CEs.len, sz]
theorem g_note (H : HG T I) {l s m k b : Int} {v : D} {j : Nat} (h : okd v j = true) : Phi T (n + 2) I.f__law_good_note [carD l s m k b, v] S = .ok (.sh (.bl (rnB l s v))) S := by
  rw [phi_at H.note]
  have hv := okd_isD h
  by_cases hw : wd v 2 2 = true
  · cases v with
    | tup ds =>
      have ho := okds_all (okd_tup h)
      rcases ds with _ | ⟨x, _ | ⟨y, _ | ⟨z, ds⟩⟩⟩ <;> first | (simp [wd] at hw; done) | skip
      · have ix := okd_isD (ho x (by simp))
        have iy := okd_isD (ho y (by simp))
        have hx : noneOr x (l - 1) = (isNon (.sh x) || wh x 0 (l - 1)) := by cases x <;> simp [noneOr, isNon, wh]
        have hy : noneOr y (s - 1) = (isNon (.sh y) || wh y 0 (s - 1)) := by cases y <;> simp [noneOr, isNon, wh]
        cases e1 : isNon (.sh x) <;> cases e2 : isNon (.sh y) <;> cases e3 : wh x 0 (l - 1) <;> cases e4 : wh y 0 (s - 1) <;>
          (simp only [rnB, hx, hy, e1, e2, e3, e4]
           simp [fd__law_good_note, b__law_good_note, b__law_good_note_t0, b__law_good_note_e0, g_wide H.wide, g_whole H.whole, isD_non, isD_bl, isD_int, isD_str, isD_tup, isD_lst, ix, iy, wd, compL, runF, denSs, denS, den, dens, deni, Res.bind, Res.fl, optR, optB, getV, getS, setIs, setG, killL, setPs, putS, opS, int2, cmpS, idxS, dcv, dcs, itv, lsv, sqv, vw, eqS, tru, Rv.shr, L2.atI, L2.ixN, CEs.len, sz, okd, okds, deq, deqs, e1, e2, e3, e4, isNon_non])
      · simp [wd] at hw; omega
    | _ => simp [wd] at hw
  · have hw : wd v 2 2 = false := by simpa using hw
    have e : rnB l s v = false := by
      unfold rnB; split
      · simp [wd] at hw
      · rfl
    simp [fd__law_good_note, b__law_good_note, g_wide H.wide, hv, hw, e, runF, denSs, denS, den, dens, deni, Res.bind, Res.fl, optR, optB, getV, getS, setIs, setG, killL, setPs, putS, forL, opS, addS, mulS, mulI, modI, fdivI, powI, int2, cmpS, cmpI, eqS, isNon, idxS, dcv, dcs, itv, lsv, sqv, vw, tru, biS, isiS, Ty.isI, Ty.isB, Ty.isS, Ty.isT, Ty.isL, mtS, mtK, slcP, partS, Rv.shr, L2.atI, L2.ixN, intsD, boolsD, handL, subc, CEs.len, sz]
theorem filt_ok {ds : List D} {p : D → Bool} {k : Nat} (h : okds ds k = true) : okds ((ds.filter p).map fun x => x) k = true :=
  okds_of fun d hd => by
    obtain ⟨x, hx, rfl⟩ := List.mem_map.mp hd
    exact okds_all h x (List.mem_filter.mp hx).1
theorem g_notes (H : HG T I) (h0 : T[I.f__law_good_notes]? = some (fd__law_good_notes I)) {l s m k b : Int} {v : D} (h : okd v 60 = true) : Phi T (n + 3) I.f__law_good_notes [carD l s m k b, v] S = .ok (.sh (.bl (rnsB l s v))) S := by
  rw [phi_at h0]
  have hv := okd_isD h
  by_cases hw : wd v 1 8 = true
  · cases v with
    | tup ds =>
      have ho := okds_all (okd_tup h)
      have hc : compL (.nm 2) (den (b__law_good_notes_t0 I) (Phi T (n + 2))) (den (b__law_good_notes_e0 I) (Phi T (n + 2))) ds [some (.sh (carD l s m k b)), some (.sh (.tup ds)), none] S = .ok ((ds.filter fun d => !rnB l s d).map fun x => x) S := by
        refine compL_filt fun d hd => ⟨_, .sh (.bl (!rnB l s d)), rfl, ?_, rfl, fun _ => ⟨.sh d, ?_, rfl⟩⟩
        · simp [b__law_good_notes_t0, g_note H (ho d hd), runF, denSs, denS, den, dens, deni, Res.bind, Res.fl, optR, optB, getV, getS, setIs, setG, killL, setPs, putS, forL, opS, addS, mulS, mulI, modI, fdivI, powI, int2, cmpS, cmpI, eqS, isNon, idxS, dcv, dcs, itv, lsv, sqv, vw, tru, biS, isiS, Ty.isI, Ty.isB, Ty.isS, Ty.isT, Ty.isL, mtS, mtK, slcP, partS, Rv.shr, L2.atI, L2.ixN, intsD, boolsD, handL, subc, CEs.len, sz]
        · simp [b__law_good_notes_e0, runF, denSs, denS, den, dens, deni, Res.bind, Res.fl, optR, optB, getV, getS, setIs, setG, killL, setPs, putS, forL, opS, addS, mulS, mulI, modI, fdivI, powI, int2, cmpS, cmpI, eqS, isNon, idxS, dcv, dcs, itv, lsv, sqv, vw, tru, biS, isiS, Ty.isI, Ty.isB, Ty.isS, Ty.isT, Ty.isL, mtS, mtK, slcP, partS, Rv.shr, L2.atI, L2.ixN, intsD, boolsD, handL, subc, CEs.len, sz]
      have hw' := hw
      simp only [wd, Bool.and_eq_true, decide_eq_true_eq] at hw'
      have hz : ((ds.filter fun d => !rnB l s d).map fun x => x).length ≤ PySem.sizeLine := size1000 (by rw [List.length_map]; have := List.length_filter_le (fun d => !rnB l s d) ds; omega)
      have he : cmpS .eq (.nl ((ds.filter fun d => !rnB l s d).map fun x => x)) (.nl []) S = some (ds.all (rnB l s)) := by
        rw [eq_nil (filt_ok (okd_tup h)), filter_isEmpty]
        simp
      simp only [fd__law_good_notes, b__law_good_notes, runF, denSs, denS, den, dens, deni, Res.bind, Res.fl, optR, optB, getV, getS, List.length_cons, List.length_nil, Nat.zero_add, Nat.reduceAdd, Nat.reduceSub, ↓reduceIte, List.map_cons, List.map_nil, List.replicate, List.cons_append, List.nil_append, List.getElem?_cons_zero, List.getElem?_cons_succ, Rv.shr, g_wide H.wide, hv, hw, tru, dcs, itv, killL, List.set_cons_zero, List.set_cons_succ, hc, if_pos hz, he, rnsB, hw'.1, hw'.2, decide_true, Bool.true_and, Bool.and_true]
    | _ => simp [wd] at hw
  · have hw : wd v 1 8 = false := by simpa using hw
    have e : rnsB l s v = false := by
      unfold rnsB; split
      · simp only [wd] at hw; simp only [hw, Bool.false_and]
      · rfl
    simp [fd__law_good_notes, b__law_good_notes, g_wide H.wide, hv, hw, e, runF, denSs, denS, den, dens, deni, Res.bind, Res.fl, optR, optB, getV, getS, setIs, setG, killL, setPs, putS, forL, opS, addS, mulS, mulI, modI, fdivI, powI, int2, cmpS, cmpI, eqS, isNon, idxS, dcv, dcs, itv, lsv, sqv, vw, tru, biS, isiS, Ty.isI, Ty.isB, Ty.isS, Ty.isT, Ty.isL, mtS, mtK, slcP, partS, Rv.shr, L2.atI, L2.ixN, intsD, boolsD, handL, subc, CEs.len, sz]
theorem g_drive (H : HGc T I) {l s m k b : Int} {v : D} (h : okd v 60 = true) : Phi T (n + 2) I.f__law_good_drive [carD l s m k b, v] S = .ok (.sh (.bl (drB m v))) S := by
  rw [phi_at H.drive]
  have hv := okd_isD h
  by_cases hw : wd v 3 3 = true
  · cases v with
    | tup ds =>
      have ho := okds_all (okd_tup h)
      rcases ds with _ | ⟨x, _ | ⟨y, _ | ⟨z, _ | ⟨u, ds⟩⟩⟩⟩ <;> first | (simp [wd] at hw; done) | skip
      · have ix := okd_isD (ho x (by simp))
        have iy := okd_isD (ho y (by simp))
        have iz := okd_isD (ho z (by simp))
        have oy := ho y (by simp)
        have oz := ho z (by simp)
        cases e0 : wh x 0 m with
        | false => simp [fd__law_good_drive, b__law_good_drive, g_wide H.wide, g_whole H.whole, isD_non, isD_bl, isD_int, isD_str, isD_tup, isD_lst, ix, wd, drB, e0, runF, denSs, denS, den, dens, deni, Res.bind, Res.fl, optR, optB, getV, getS, setIs, setG, killL, setPs, putS, forL, opS, addS, mulS, mulI, modI, fdivI, powI, int2, cmpS, cmpI, eqS, isNon, idxS, dcv, dcs, itv, lsv, sqv, vw, tru, biS, isiS, Ty.isI, Ty.isB, Ty.isS, Ty.isT, Ty.isL, mtS, mtK, slcP, partS, Rv.shr, L2.atI, L2.ixN, intsD, boolsD, handL, subc, CEs.len, sz]
        | true =>
          cases x with
          | int i =>
            have hx : noneOr y i = (isNon (.sh y) || wh y 0 i) := by cases y <;> simp [noneOr, isNon, wh]
            have hy : noneOr z i = (isNon (.sh z) || wh z 0 i) := by cases z <;> simp [noneOr, isNon, wh]
            cases e1 : isNon (.sh y) <;> cases e2 : isNon (.sh z) <;> cases e3 : wh y 0 i <;> cases e4 : wh z 0 i <;>
              (simp only [drB, e0, hx, hy, e1, e2, e3, e4]
               simp [fd__law_good_drive, b__law_good_drive, b__law_good_drive_t0, b__law_good_drive_e0, g_wide H.wide, g_whole H.whole, isD_non, isD_bl, isD_int, isD_str, isD_tup, isD_lst, e0, iy, iz, oy, oz, wd, compL, cutD, HT.sIx, slcP, partS, runF, denSs, denS, den, dens, deni, Res.bind, Res.fl, optR, optB, getV, getS, setIs, setG, killL, setPs, putS, opS, int2, cmpS, idxS, dcv, dcs, itv, lsv, sqv, vw, eqS, tru, Rv.shr, L2.atI, L2.ixN, CEs.len, sz, okd, okds, deq, deqs, e1, e2, e3, e4, isNon_non])
          | _ => simp [wh] at e0
      · simp [wd] at hw; omega
    | _ => simp [wd] at hw
  · have hw : wd v 3 3 = false := by simpa using hw
    have e : drB m v = false := by
      unfold drB; split
      · simp [wd] at hw
      · rfl
    simp [fd__law_good_drive, b__law_good_drive, g_wide H.wide, hv, hw, e, runF, denSs, denS, den, dens, deni, Res.bind, Res.fl, optR, optB, getV, getS, setIs, setG, killL, setPs, putS, forL, opS, addS, mulS, mulI, modI, fdivI, powI, int2, cmpS, cmpI, eqS, isNon, idxS, dcv, dcs, itv, lsv, sqv, vw, tru, biS, isiS, Ty.isI, Ty.isB, Ty.isS, Ty.isT, Ty.isL, mtS, mtK, slcP, partS, Rv.shr, L2.atI, L2.ixN, intsD, boolsD, handL, subc, CEs.len, sz]
theorem g_course (H : HGc T I) {l s m k b : Int} {v : D} (h : okd v 60 = true) : Phi T (n + 3) I.f__law_good_course [carD l s m k b, v] S = .ok (.sh (.bl (coB l s m v))) S := by
  rw [phi_at H.course]
  have hv := okd_isD h
  by_cases hw : wd v 2 2 = true
  · cases v with
    | tup ds =>
      have ho := okds_all (okd_tup h)
      rcases ds with _ | ⟨x, _ | ⟨y, _ | ⟨z, ds⟩⟩⟩ <;> first | (simp [wd] at hw; done) | skip
      · have ox := ho x (by simp)
        have oy := ho y (by simp)
        have iy := okd_isD oy
        have gn : ∀ S, Phi T (n + 2) I.f__law_good_note [carD l s m k b, x] S = .ok (.sh (.bl (rnB l s x))) S := fun S => g_note H.toHG ox
        cases h1 : rnB l s x with
        | false =>
          have e : coB l s m (.tup [x, y]) = false := by
            cases y <;> simp [coB]
            intro z
            have : rnB l s x = true := by
              unfold shB at z
              split at z
              · rename_i x y
                simp only [Bool.and_eq_true] at z
                have n1 : noneOr x (l - 1) = true := by cases x <;> simp_all [noneOr, wh]
                have n2 : noneOr y (s - 1) = true := by cases y <;> simp_all [noneOr, wh]
                simp [rnB, n1, n2]
              · cases z
            rw [this] at h1; cases h1
          simp [fd__law_good_course, b__law_good_course, g_wide H.wide, gn, hv, hw, h1, e, runF, denSs, denS, den, dens, deni, Res.bind, Res.fl, optR, optB, getV, getS, setIs, setG, killL, setPs, putS, forL, opS, addS, mulS, mulI, modI, fdivI, powI, int2, cmpS, cmpI, eqS, isNon, idxS, dcv, dcs, itv, lsv, sqv, vw, tru, biS, isiS, Ty.isI, Ty.isB, Ty.isS, Ty.isT, Ty.isL, mtS, mtK, slcP, partS, Rv.shr, L2.atI, L2.ixN, intsD, boolsD, handL, subc, CEs.len, sz]
        | true =>
          have hx : ∃ p q, x = .tup [p, q] := by
            unfold rnB at h1
            split at h1
            · exact ⟨_, _, rfl⟩
            · cases h1
          obtain ⟨p, q, rfl⟩ := hx
          have op := okds_all (okd_tup ox) p (by simp)
          have oq := okds_all (okd_tup ox) q (by simp)
          have op' := okd_mono op (show _ ≤ 59 by omega)
          have oq' := okd_mono oq (show _ ≤ 59 by omega)
          have hin : inS (.sh .non) (.sh (.tup [p, q])) S = some (isNon (.sh p) || isNon (.sh q)) := by
            have dn : ∀ v : D, deq v .non = isNon (.sh v) := fun v => by cases v <;> rfl
            simp only [inS, dcv, vw, Option.bind_some, sqv, okd, okds, op', oq', Bool.and_self, and_self, ↓reduceIte, List.any_cons, List.any_nil, Bool.or_false, dn]
          cases h2 : (isNon (.sh p) || isNon (.sh q)) with
          | true =>
            have e : coB l s m (.tup [.tup [p, q], y]) = false := by
              have : shB l s (.tup [p, q]) = false := by
                rw [Bool.or_eq_true] at h2
                rcases h2 with h2 | h2
                · rw [isNon_eq] at h2; subst h2; simp [shB, wh]
                · rw [isNon_eq] at h2; subst h2; simp [shB, wh]
              cases y <;> simp [coB, this]
            simp [fd__law_good_course, b__law_good_course, g_wide H.wide, gn, hv, hw, h1, hin, h2, e, runF, denSs, denS, den, dens, Res.bind, Res.fl, optR, optB, getV, getS, cmpS, idxS, dcv, sqv, tru, Rv.shr, L2.atI, L2.ixN]
          | false =>
            have h3 : shB l s (.tup [p, q]) = true := by
              simp only [rnB, Bool.and_eq_true] at h1
              rw [Bool.or_eq_false_iff] at h2
              have n1 : wh p 0 (l - 1) = true := by
                have := h1.1; have := h2.1
                cases p <;> simp_all [noneOr, wh, isNon]
              have n2 : wh q 0 (s - 1) = true := by
                have := h1.2; have := h2.2
                cases q <;> simp_all [noneOr, wh, isNon]
              simp [shB, n1, n2]
            cases h4 : wd y 0 7 with
            | false =>
              have e : coB l s m (.tup [.tup [p, q], y]) = false := by
                cases y <;> simp [coB, h3]
                simp [wd] at h4; omega
              simp [fd__law_good_course, b__law_good_course, g_wide H.wide, gn, hv, hw, h1, hin, h2, h4, iy, e, runF, denSs, denS, den, dens, Res.bind, Res.fl, optR, optB, getV, getS, cmpS, idxS, dcv, sqv, tru, Rv.shr, L2.atI, L2.ixN]
            | true =>
              cases y with
              | tup es =>
                have hw2 := h4
                simp only [wd, Bool.and_eq_true, decide_eq_true_eq] at hw2
                have hc : compL (.nm 2) (den (b__law_good_course_t0 I) (Phi T (n + 2))) (den (b__law_good_course_e0 I) (Phi T (n + 2))) es [some (.sh (carD l s m k b)), some (.sh (.tup [.tup [p, q], .tup es])), none] S = .ok ((es.filter fun d => !drB m d).map fun x => x) S := by
                  refine compL_filt fun d hd => ⟨_, .sh (.bl (!drB m d)), rfl, ?_, rfl, fun _ => ⟨.sh d, ?_, rfl⟩⟩
                  · have od := okd_mono (okds_all (okd_tup oy) d hd) (show _ ≤ 60 by omega)
                    simp [b__law_good_course_t0, g_drive H od, runF, denSs, denS, den, dens, deni, Res.bind, Res.fl, optR, optB, getV, getS, setIs, setG, killL, setPs, putS, forL, opS, addS, mulS, mulI, modI, fdivI, powI, int2, cmpS, cmpI, eqS, isNon, idxS, dcv, dcs, itv, lsv, sqv, vw, tru, biS, isiS, Ty.isI, Ty.isB, Ty.isS, Ty.isT, Ty.isL, mtS, mtK, slcP, partS, Rv.shr, L2.atI, L2.ixN, intsD, boolsD, handL, subc, CEs.len, sz]
                  · simp [b__law_good_course_e0, runF, denSs, denS, den, dens, deni, Res.bind, Res.fl, optR, optB, getV, getS, setIs, setG, killL, setPs, putS, forL, opS, addS, mulS, mulI, modI, fdivI, powI, int2, cmpS, cmpI, eqS, isNon, idxS, dcv, dcs, itv, lsv, sqv, vw, tru, biS, isiS, Ty.isI, Ty.isB, Ty.isS, Ty.isT, Ty.isL, mtS, mtK, slcP, partS, Rv.shr, L2.atI, L2.ixN, intsD, boolsD, handL, subc, CEs.len, sz]
                have hz : ((es.filter fun d => !drB m d).map fun x => x).length ≤ PySem.sizeLine := size1000 (by rw [List.length_map]; have := List.length_filter_le (fun d => !drB m d) es; omega)
                have he : cmpS .eq (.nl ((es.filter fun d => !drB m d).map fun x => x)) (.nl []) S = some (es.all (drB m)) := by
                  rw [eq_nil (filt_ok (okds_mono (okd_tup oy) (show _ ≤ 59 by omega))), filter_isEmpty]
                  simp
                have ee : coB l s m (.tup [.tup [p, q], .tup es]) = es.all (drB m) := by simp [coB, h3]; intro z; omega
                have x1 : idxS (.sh (.tup [.tup [p, q], .tup es])) (.sh (.int 0)) S = some (.sh (.tup [p, q])) := by simp [idxS, dcv, sqv, L2.atI, L2.ixN]
                have x2 : idxS (.sh (.tup [.tup [p, q], .tup es])) (.sh (.int 1)) S = some (.sh (.tup es)) := by simp [idxS, dcv, sqv, L2.atI, L2.ixN]
                have hin2 : cmpS .inn (.sh .non) (.sh (.tup [p, q])) S = some false := by rw [← h2]; exact hin
                rw [ee]
                simp only [fd__law_good_course, b__law_good_course, runF, denSs, denS, den, dens, deni, Res.bind, Res.fl, optR, optB, getV, getS, List.length_cons, List.length_nil, Nat.zero_add, Nat.reduceAdd, Nat.reduceSub, ↓reduceIte, List.map_cons, List.map_nil, List.replicate, List.cons_append, List.nil_append, List.getElem?_cons_zero, List.getElem?_cons_succ, Rv.shr, g_wide H.wide, hv, hw, tru, dcs, itv, killL, List.set_cons_zero, List.set_cons_succ, hc, if_pos hz, he, gn, h1, h4, iy, x1, x2, hin2, Option.map_some, Bool.not_true, Bool.not_false]
              | _ => simp [wd] at h4
      · simp [wd] at hw; omega
    | _ => simp [wd] at hw
  · have hw : wd v 2 2 = false := by simpa using hw
    have e : coB l s m v = false := by
      unfold coB; split
      · simp [wd] at hw
      · rfl
    simp [fd__law_good_course, b__law_good_course, g_wide H.wide, hv, hw, e, runF, denSs, denS, den, dens, deni, Res.bind, Res.fl, optR, optB, getV, getS, setIs, setG, killL, setPs, putS, forL, opS, addS, mulS, mulI, modI, fdivI, powI, int2, cmpS, cmpI, eqS, isNon, idxS, dcv, dcs, itv, lsv, sqv, vw, tru, biS, isiS, Ty.isI, Ty.isB, Ty.isS, Ty.isT, Ty.isL, mtS, mtK, slcP, partS, Rv.shr, L2.atI, L2.ixN, intsD, boolsD, handL, subc, CEs.len, sz]
end
end Z

set_option Elab.async false
set_option linter.all false
set_option autoImplicit false
set_option maxRecDepth 100000
set_option maxHeartbeats 4000000
set_option pp.maxSteps 400
set_option pp.deepTerms false
/-! P4: slices, places, dicts as lists, loops as folds. -/
namespace Z
theorem cut_take {ds : List D} {i : Int} (h : 0 ≤ i) : cutD ds none (some i) = ds.take i.toNat := by
  have e : HT.sIx ds.length ds.length (some i) = min i.toNat ds.length := by
    show (if i < 0 then _ else _) = _
    rw [if_neg (by omega)]
  simp only [cutD, HT.sIx_none, e, List.drop_zero, Nat.sub_zero]
  rw [List.take_eq_take_iff]; omega
theorem cut_drop {ds : List D} {i : Int} (h : 0 ≤ i) : cutD ds (some i) none = ds.drop i.toNat := by
  have e : HT.sIx ds.length 0 (some i) = min i.toNat ds.length := by
    show (if i < 0 then _ else _) = _
    rw [if_neg (by omega)]
  simp only [cutD, HT.sIx_none, e]
  rw [List.take_of_length_le (by simp)]
  by_cases hi : i.toNat ≤ ds.length
  · rw [Nat.min_eq_left hi]
  · rw [Nat.min_eq_right (by omega), List.drop_length, List.drop_eq_nil_of_le (by omega)]
theorem cut_mid {ds : List D} {i j : Int} (h : 0 ≤ i) (h2 : 0 ≤ j) : cutD ds (some i) (some j) = (ds.take j.toNat).drop i.toNat := by
  have e : HT.sIx ds.length 0 (some i) = min i.toNat ds.length := by
    show (if i < 0 then _ else _) = _
    rw [if_neg (by omega)]
  have e2 : HT.sIx ds.length ds.length (some j) = min j.toNat ds.length := by
    show (if j < 0 then _ else _) = _
    rw [if_neg (by omega)]
  simp only [cutD, e, e2]
  rw [List.drop_take]
  by_cases hi : i.toNat ≤ ds.length
  · rw [Nat.min_eq_left hi, List.take_eq_take_iff, List.length_drop]; omega
  · have e3 : min i.toNat ds.length = ds.length := Nat.min_eq_right (by omega)
    rw [e3, List.drop_length, List.drop_eq_nil_of_le (by omega : ds.length ≤ i.toNat)]; simp
theorem atI_of {ds : List D} {i : Nat} {v : D} (h : ds[i]? = some v) : L2.atI ds (i : Int) = some v := by
  have hi := (List.getElem?_eq_some_iff.mp h).1
  simp only [L2.atI, L2.ixN]
  rw [if_pos (by omega), if_pos (by omega)]
  simpa using h
theorem atI_int {ds : List D} {i : Int} {v : D} (h0 : 0 ≤ i) (h : ds[i.toNat]? = some v) : L2.atI ds i = some v := by
  have := atI_of h
  rwa [Int.toNat_of_nonneg h0] at this
theorem ixN_int {n : Nat} {i : Int} (h0 : 0 ≤ i) (h : i < n) : L2.ixN n i = some i.toNat := by
  simp only [L2.ixN, if_pos h0, if_pos h]
theorem c_gt {i j : Int} {S : Sto} : cmpS .gt (.sh (.int i)) (.sh (.int j)) S = some (decide (j < i)) := rfl
theorem c_ge {i j : Int} {S : Sto} : cmpS .ge (.sh (.int i)) (.sh (.int j)) S = some (decide (j ≤ i)) := rfl
theorem c_lt {i j : Int} {S : Sto} : cmpS .lt (.sh (.int i)) (.sh (.int j)) S = some (decide (i < j)) := rfl
theorem c_le {i j : Int} {S : Sto} : cmpS .le (.sh (.int i)) (.sh (.int j)) S = some (decide (i ≤ j)) := rfl
theorem c_eqi {i j : Int} {S : Sto} : cmpS .eq (.sh (.int i)) (.sh (.int j)) S = some (i == j) := by simp [cmpS, eqS, vw, okd, deq]
theorem c_nei {i j : Int} {S : Sto} : cmpS .ne (.sh (.int i)) (.sh (.int j)) S = some (!(i == j)) := by simp [cmpS, eqS, vw, okd, deq]
theorem c_is {x : Rv} {S : Sto} : cmpS .is x (.sh .non) S = some (isNon x) := rfl
theorem c_isn {x : Rv} {S : Sto} : cmpS .isn x (.sh .non) S = some (!isNon x) := rfl
theorem c_inn {x y : Rv} {S : Sto} : cmpS .inn x y S = inS x y S := rfl
theorem c_nin {x y : Rv} {S : Sto} : cmpS .nin x y S = (inS x y S).map (!·) := rfl
theorem inR_of {i : Int} (h1 : -1000000 ≤ i) (h2 : i ≤ 1000000) : inR i := ⟨by omega, by omega⟩
end Z

set_option Elab.async false
set_option linter.all false
set_option autoImplicit false
set_option maxRecDepth 100000
set_option maxHeartbeats 4000000
set_option pp.maxSteps 400
set_option pp.deepTerms false
/-! P5: layers of stands, in plain lists. -/
namespace Z
structure Cr where
  l : Int
  s : Int
  m : Int
  k : Int
  b : Int
abbrev crD (c : Cr) : D := carD c.l c.s c.m c.k c.b
abbrev Cr.Ok (c : Cr) : Prop := Car c.l c.s c.m c.k c.b
def rngI (lo : Int) : Nat → List Int
  | 0 => []
  | n + 1 => lo :: rngI (lo + 1) n
theorem rangeD_rng : ∀ (n : Nat) (lo : Int), rangeD lo n = (rngI lo n).map .int
  | 0, _ => rfl
  | n + 1, lo => by simp only [rangeD, rngI, List.map_cons, rangeD_rng n]
theorem mem_rng : ∀ {n : Nat} {lo i : Int}, i ∈ rngI lo n ↔ lo ≤ i ∧ i < lo + n
  | 0, lo, i => by simp [rngI]
  | n + 1, lo, i => by
    simp only [rngI, List.mem_cons, mem_rng]; omega
theorem rng_len : ∀ (n : Nat) (lo : Int), (rngI lo n).length = n
  | 0, _ => rfl
  | n + 1, lo => by simp [rngI, rng_len n]
theorem rng_nodup : ∀ (n : Nat) (lo : Int), (rngI lo n).Nodup
  | 0, _ => List.nodup_nil
  | n + 1, lo => by
    rw [rngI, List.nodup_cons]
    exact ⟨fun h => by have := mem_rng.mp h; omega, rng_nodup n _⟩
abbrev Sh := Int × Int
abbrev St := Sh × Int × Int
structure Stp where
  d : Int
  p : Bool
  q : Bool
deriving DecidableEq
abbrev stD (x : St) : D := .tup [.tup [.int x.1.1, .int x.1.2], .int x.2.1, .int x.2.2]
abbrev spD (x : Stp) : D := .tup [.int x.d, .bl x.p, .bl x.q]
abbrev shD (x : Sh) : D := .tup [.int x.1, .int x.2]
abbrev Ed := St × Stp × St
abbrev edD (e : Ed) : D := .tup [stD e.1, spD e.2.1, stD e.2.2]
/-! ### lists of keys -/
section
variable {α β : Type} [DecidableEq α]
def insK (l : List α) (t : α) : List α := if t ∈ l then l else l ++ [t]
def keysOf (l : List α) : List α := l.foldl insK []
theorem mem_insK {l : List α} {t x : α} : x ∈ insK l t ↔ x ∈ l ∨ x = t := by
  unfold insK; split
  · rename_i h
    exact ⟨.inl, fun h' => h'.elim id fun e => e ▸ h⟩
  · simp
theorem mem_foldK : ∀ {xs l : List α} {x : α}, x ∈ xs.foldl insK l ↔ x ∈ l ∨ x ∈ xs
  | [], l, x => by simp
  | y :: ys, l, x => by
    rw [List.foldl_cons, mem_foldK, mem_insK, List.mem_cons]
    exact ⟨fun h => by rcases h with (h | h) | h <;> simp [h], fun h => by rcases h with h | h | h <;> simp [h]⟩
theorem mem_keysOf {xs : List α} {x : α} : x ∈ keysOf xs ↔ x ∈ xs := by simp [keysOf, mem_foldK]
theorem nodup_insK {l : List α} {t : α} (h : l.Nodup) : (insK l t).Nodup := by
  unfold insK; split
  · exact h
  · rename_i ht
    rw [List.nodup_append]
    exact ⟨h, by simp, fun a ha b hb => by rw [List.mem_singleton.mp hb]; exact fun e => ht (e ▸ ha)⟩
theorem nodup_foldK : ∀ {xs l : List α}, l.Nodup → (xs.foldl insK l).Nodup
  | [], _, h => h
  | _ :: ys, _, h => nodup_foldK (xs := ys) (nodup_insK h)
theorem nodup_keysOf (xs : List α) : (keysOf xs).Nodup := nodup_foldK List.nodup_nil
theorem foldK_nodup : ∀ {xs l : List α}, (l ++ xs).Nodup → xs.foldl insK l = l ++ xs
  | [], l, _ => by simp
  | y :: ys, l, h => by
    have hy : y ∉ l := fun hy => by
      rw [List.nodup_append] at h
      exact h.2.2 y hy y (by simp) rfl
    rw [List.foldl_cons, show insK l y = l ++ [y] by simp [insK, hy], foldK_nodup (by simpa using h)]
    simp
theorem keysOf_nodup {xs : List α} (h : xs.Nodup) : keysOf xs = xs := by
  have := foldK_nodup (xs := xs) (l := []) (by simpa using h)
  simpa [keysOf] using this
theorem keysOf_nil {xs : List α} : keysOf xs = [] ↔ xs = [] := by
  constructor
  · intro h
    cases xs with
    | nil => rfl
    | cons x xs =>
      have : x ∈ keysOf (x :: xs) := mem_keysOf.mpr (by simp)
      rw [h] at this; cases this
  · rintro rfl; rfl
/-! ### dicts with values -/
def getA (l : List (α × β)) (a : α) : Option β := (l.find? fun p => decide (p.1 = a)).map (·.2)
def putA (l : List (α × β)) (a : α) (b : β) : List (α × β) :=
  if (l.any fun p => decide (p.1 = a)) = true then l.map (fun p => if p.1 = a then (p.1, b) else p) else l ++ [(a, b)]
variable {enc : α → D} {val : β → D}
theorem dgetA (hinj : ∀ a b, nk (enc a) = nk (enc b) ↔ a = b) (a : α) : ∀ l : List (α × β), dget (l.map fun p => (enc p.1, val p.2)) (enc a) = (getA l a).map val
  | [] => rfl
  | p :: l => by
    have ih := dgetA hinj a l
    simp only [dget, getA, List.map_cons, List.find?_cons] at ih ⊢
    by_cases h : p.1 = a
    · have h' : nk (enc p.1) = nk (enc a) := (hinj _ _).mpr h
      simp only [h', h, decide_true, Option.map_some]
    · have h' : ¬ nk (enc p.1) = nk (enc a) := fun e => h ((hinj _ _).mp e)
      simp only [h', h, decide_false]
      exact ih
theorem dputA (hinj : ∀ a b, nk (enc a) = nk (enc b) ↔ a = b) (a : α) (b : β) (l : List (α × β)) : dput (l.map fun p => (enc p.1, val p.2)) (enc a) (val b) = (putA l a b).map fun p => (enc p.1, val p.2) := by
  have h1 : ((l.map fun p => (enc p.1, val p.2)).any fun p => decide (nk p.1 = nk (enc a))) = l.any fun p => decide (p.1 = a) := by
    rw [List.any_map]
    congr 1; funext p
    simp only [Function.comp, hinj]
  unfold dput putA
  rw [h1]
  split
  · rw [List.map_map, List.map_map]
    apply List.map_congr_left
    intro p _
    simp only [Function.comp]
    by_cases h : p.1 = a
    · rw [if_pos ((hinj _ _).mpr h), if_pos h]
    · rw [if_neg (fun e => h ((hinj _ _).mp e)), if_neg h]
  · simp
theorem getA_putA (l : List (α × β)) (a x : α) (b : β) : getA (putA l a b) x = if x = a then some b else getA l x := by
  unfold putA
  split
  · rename_i h
    induction l with
    | nil => simp at h
    | cons p l ih =>
      by_cases hp : p.1 = a
      · by_cases hx : x = a
        · subst hx; simp [getA, hp]
        · have : ¬ a = x := fun e => hx e.symm
          by_cases hl : (l.any fun p => decide (p.1 = a)) = true
          · have ih' := ih hl
            rw [if_neg hx] at ih' ⊢
            simp only [getA, List.map_cons, List.find?_cons, hp, ↓reduceIte, this, decide_false] at ih' ⊢
            exact ih'
          · have hm : l.map (fun p => if p.1 = a then (p.1, b) else p) = l := by
              conv => rhs; rw [← List.map_id l]
              apply List.map_congr_left
              intro p hp'
              rw [if_neg (fun e => hl (List.any_eq_true.mpr ⟨p, hp', by simp [e]⟩))]; rfl
            simp [getA, hp, hx, hm, this]
      · have hl : (l.any fun p => decide (p.1 = a)) = true := by simpa [hp] using h
        have ih := ih hl
        by_cases hx : p.1 = x
        · have : ¬ x = a := fun e => hp (hx.trans e)
          simp [getA, hp, hx, this]
        · simp only [getA, List.map_cons, List.find?_cons, hp, hx, ↓reduceIte, decide_false] at ih ⊢
          exact ih
  · rename_i h
    have ha : getA l a = none := by
      unfold getA
      rw [Option.map_eq_none_iff, List.find?_eq_none]
      intro p hp e
      exact h (List.any_eq_true.mpr ⟨p, hp, e⟩)
    by_cases hx : x = a
    · subst hx
      unfold getA at ha ⊢
      rw [Option.map_eq_none_iff] at ha
      simp [List.find?_append, ha]
    · have : ¬ a = x := fun e => hx e.symm
      simp only [getA, List.find?_append, List.find?_cons, this, decide_false, List.find?_nil, Option.or_none, hx, ↓reduceIte]
/-! ### dicts of keys alone -/
theorem kput (hinj : ∀ a b, nk (enc a) = nk (enc b) ↔ a = b) (v : D) (a : α) (l : List α) : dput (l.map fun x => (enc x, v)) (enc a) v = (insK l a).map fun x => (enc x, v) := by
  have h1 : ((l.map fun x => (enc x, v)).any fun p => decide (nk p.1 = nk (enc a))) = decide (a ∈ l) := by
    rw [List.any_map]
    induction l with
    | nil => rfl
    | cons x l ih =>
      simp only [List.any_cons, ih, Function.comp, hinj, List.mem_cons]
      by_cases h : x = a
      · simp [h]
      · have : ¬ a = x := fun e => h e.symm
        simp [h, this]
  unfold dput insK
  rw [h1]
  by_cases h : a ∈ l
  · simp only [h, decide_true, ↓reduceIte]
    rw [List.map_map]
    apply List.map_congr_left
    intro x _
    simp only [Function.comp]
    split <;> rfl
  · simp [h]
theorem kget (hinj : ∀ a b, nk (enc a) = nk (enc b) ↔ a = b) (v : D) (a : α) : ∀ l : List α, (dget (l.map fun x => (enc x, v)) (enc a)).isSome = decide (a ∈ l)
  | [] => by simp [dget]
  | x :: l => by
    have ih := kget hinj v a l
    simp only [dget, List.map_cons, List.find?_cons, hinj] at ih ⊢
    by_cases h : x = a
    · simp [h]
    · have : ¬ a = x := fun e => h e.symm
      simp only [h, decide_false, ih, List.mem_cons, this, false_or]
theorem kdict (hinj : ∀ a b, nk (enc a) = nk (enc b) ↔ a = b) (hkey : ∀ a, isKey (enc a) = true) (v : D) : ∀ (xs l : List α), dictOf (xs.map fun a => .tup [enc a, v]) (l.map fun x => (enc x, v)) = some ((xs.foldl insK l).map fun x => (enc x, v))
  | [], l => rfl
  | x :: xs, l => by
    simp only [List.map_cons, dictOf, hkey, ↓reduceIte, kput hinj, List.foldl_cons]
    exact kdict hinj hkey v xs _
end
theorem nk_st (x y : St) : nk (stD x) = nk (stD y) ↔ x = y := by
  obtain ⟨⟨a, b⟩, c, d⟩ := x
  obtain ⟨⟨a', b'⟩, c', d'⟩ := y
  simp [nk, nks, and_assoc]
theorem key_st (x : St) : isKey (stD x) = true := by simp [isKey, isTup, hk, hks]
/-! ### steps -/
def miss (x : Option Int) (a : Int) : Int :=
  match x with
  | none => 0
  | some i => if i = a then 0 else 1
def slip (x : Nt) (p : Sh) : Int := miss x.1 p.1 + miss x.2 p.2
def b2i (b : Bool) : Int := if b = true then 1 else 0
def shorts (c : Cr) (p : Sh) (d : Int) : List (Bool × Int) := (false, (p.2 + d) % c.s) :: (rngI 0 (min (d + 1) c.s).toNat).map fun i => (true, i)
def longs (c : Cr) (p : Sh) (d : Int) : List (Bool × Int) := (false, (p.1 + d) % c.l) :: (if 0 < c.b then (rngI 0 (min (d + 1) c.l).toNat).map fun i => (true, i) else [])
def steps1 (c : Cr) (p : Sh) (d : Int) : List (Stp × Sh) := (longs c p d).flatMap fun y => (shorts c p d).map fun x => (⟨d, x.1, y.1⟩, (y.2, x.2))
def steps (c : Cr) (p : Sh) : List (Stp × Sh) := (rngI 0 (c.m + 1).toNat).flatMap (steps1 c p)
def firsts (c : Cr) (x : Nt) : List St :=
  ((((rngI 0 c.l.toNat).flatMap fun a => (rngI 0 c.s.toNat).map fun b => (a, b)).filter fun p => decide (slip x p ≤ c.k)).map fun p => (p, slip x p, 0))
def nexts (c : Cr) (x : Nt) (st : St) : List (Stp × St) :=
  ((steps c st.1).filter fun y => decide (st.2.1 + slip x y.2 ≤ c.k) && decide (st.2.2 + b2i y.1.q ≤ c.b)).map fun y => (y.1, (y.2, st.2.1 + slip x y.2, st.2.2 + b2i y.1.q))
theorem miss_bd (x : Option Int) (a : Int) : 0 ≤ miss x a ∧ miss x a ≤ 1 := by
  cases x with
  | none => simp [miss]
  | some i => simp only [miss]; split <;> omega
theorem slip_bd (x : Nt) (p : Sh) : 0 ≤ slip x p ∧ slip x p ≤ 2 := by
  have := miss_bd x.1 p.1; have := miss_bd x.2 p.2; simp only [slip]; omega
/-! ### layers, over any steps -/
section
variable {Λ : Type} (succ : Nt → St → List (Λ × St))
def nextL (x : Nt) (L : List St) : List St := keysOf (L.flatMap fun s => (succ x s).map (·.2))
def lays (L : List St) : List Nt → List (List St)
  | [] => [L]
  | x :: xs => L :: lays (nextL succ x L) xs
def rowOf (x : Nt) (L alive : List St) : List (St × Λ × St) := L.flatMap fun s => ((succ x s).filter fun p => decide (p.2 ∈ alive)).map fun p => (s, p.1, p.2)
def rowsA (L : List St) : List Nt → List (List (St × Λ × St)) × List St
  | [] => ([], L)
  | x :: xs => (rowOf succ x L (rowsA (nextL succ x L) xs).2 :: (rowsA (nextL succ x L) xs).1, keysOf ((rowOf succ x L (rowsA (nextL succ x L) xs).2).map (·.1)))
/-- the notes can be gone through from a stand -/
def Can : List Nt → St → Prop
  | [], _ => True
  | x :: xs, s => ∃ p ∈ succ x s, Can xs p.2
variable {succ}
theorem mem_nextL {x : Nt} {L : List St} {t : St} : t ∈ nextL succ x L ↔ ∃ s ∈ L, ∃ p ∈ succ x s, p.2 = t := by
  simp [nextL, mem_keysOf]
theorem mem_rowOf {x : Nt} {L A : List St} {e : St × Λ × St} : e ∈ rowOf succ x L A ↔ e.1 ∈ L ∧ (e.2.1, e.2.2) ∈ succ x e.1 ∧ e.2.2 ∈ A := by
  simp only [rowOf, List.mem_flatMap, List.mem_map, List.mem_filter, decide_eq_true_eq]
  constructor
  · rintro ⟨s, hs, p, ⟨hp, ha⟩, rfl⟩
    exact ⟨hs, hp, ha⟩
  · rintro ⟨h1, h2, h3⟩
    exact ⟨e.1, h1, (e.2.1, e.2.2), ⟨h2, h3⟩, rfl⟩
theorem mem_alive : ∀ {xs : List Nt} {L : List St} {s : St}, s ∈ (rowsA succ L xs).2 ↔ s ∈ L ∧ Can succ xs s
  | [], L, s => by simp [rowsA, Can]
  | x :: xs, L, s => by
    rw [rowsA, mem_keysOf, List.mem_map]
    constructor
    · rintro ⟨e, he, rfl⟩
      rw [mem_rowOf, mem_alive] at he
      exact ⟨he.1, (e.2.1, e.2.2), he.2.1, he.2.2.2⟩
    · rintro ⟨h1, p, hp, hc⟩
      refine ⟨(s, p.1, p.2), ?_, rfl⟩
      rw [mem_rowOf, mem_alive]
      exact ⟨h1, hp, mem_nextL.mpr ⟨s, h1, p, hp, rfl⟩, hc⟩
/-- the layer at a place, the rest of the notes there -/
def layAt (L : List St) : List Nt → Nat → List St
  | _, 0 => L
  | [], _ + 1 => []
  | x :: xs, i + 1 => layAt (nextL succ x L) xs i
theorem mem_rows : ∀ {xs : List Nt} {L : List St} {i : Nat} {x : Nt} {row : List (St × Λ × St)}, xs[i]? = some x → (rowsA succ L xs).1[i]? = some row → ∀ e, e ∈ row ↔ e.1 ∈ layAt (succ := succ) L xs i ∧ (e.2.1, e.2.2) ∈ succ x e.1 ∧ Can succ (xs.drop (i + 1)) e.2.2
  | [], _, _, _, _, h, _, _ => by simp at h
  | y :: ys, L, 0, x, row, h, hr, e => by
    simp at h; subst h
    simp [rowsA] at hr; subst hr
    rw [mem_rowOf, mem_alive, mem_nextL]
    simp only [layAt, List.drop_one, List.tail_cons, List.drop_succ_cons, List.drop_zero]
    constructor
    · rintro ⟨h1, h2, _, h3⟩; exact ⟨h1, h2, h3⟩
    · rintro ⟨h1, h2, h3⟩; exact ⟨h1, h2, ⟨e.1, h1, _, h2, rfl⟩, h3⟩
  | y :: ys, L, i + 1, x, row, h, hr, e => by
    have := mem_rows (xs := ys) (L := nextL succ y L) (i := i) (x := x) (row := row) (by simpa using h) (by simpa [rowsA] using hr) e
    simpa [layAt] using this
theorem rowsA_len : ∀ (xs : List Nt) (L : List St), (rowsA succ L xs).1.length = xs.length
  | [], _ => rfl
  | x :: xs, L => by simp [rowsA, rowsA_len xs]
theorem lays_len : ∀ (xs : List Nt) (L : List St), (lays succ L xs).length = xs.length + 1
  | [], _ => rfl
  | x :: xs, L => by simp [lays, lays_len xs]
theorem lays_get : ∀ {xs : List Nt} {L : List St} {i : Nat}, i ≤ xs.length → (lays succ L xs)[i]? = some (layAt (succ := succ) L xs i)
  | [], L, 0, _ => rfl
  | [], L, i + 1, h => by simp at h
  | x :: xs, L, 0, _ => rfl
  | x :: xs, L, i + 1, h => by
    have := lays_get (xs := xs) (L := nextL succ x L) (i := i) (by simpa using h)
    simpa [lays, layAt] using this
/-- the last layer is empty if and only if the notes can't be gone through -/
theorem last_nil : ∀ {xs : List Nt} {L : List St}, layAt (succ := succ) L xs xs.length ≠ [] ↔ ∃ s ∈ L, Can succ xs s
  | [], L => by
    simp only [List.length_nil, layAt, Can, and_true]
    constructor
    · intro h; cases L with
      | nil => exact absurd rfl h
      | cons s L => exact ⟨s, by simp⟩
    · rintro ⟨s, hs⟩ h; rw [h] at hs; cases hs
  | x :: xs, L => by
    rw [List.length_cons, layAt, last_nil]
    constructor
    · rintro ⟨t, ht, hc⟩
      obtain ⟨s, hs, p, hp, rfl⟩ := mem_nextL.mp ht
      exact ⟨s, hs, p, hp, hc⟩
    · rintro ⟨s, hs, p, hp, hc⟩
      exact ⟨p.2, mem_nextL.mpr ⟨s, hs, p, hp, rfl⟩, hc⟩
theorem row0_nil {x : Nt} {xs : List Nt} {L : List St} {row : List (St × Λ × St)} (h : (rowsA succ L (x :: xs)).1[0]? = some row) : row ≠ [] ↔ ∃ s ∈ L, Can succ (x :: xs) s := by
  have hm := mem_rows (succ := succ) (xs := x :: xs) (L := L) (i := 0) (x := x) (row := row) rfl h
  constructor
  · intro hr
    cases row with
    | nil => exact absurd rfl hr
    | cons e row =>
      obtain ⟨h1, h2, h3⟩ := (hm e).mp (by simp)
      exact ⟨e.1, h1, _, h2, h3⟩
  · rintro ⟨s, hs, p, hp, hc⟩ hr
    have := (hm (s, p.1, p.2)).mpr ⟨hs, hp, hc⟩
    rw [hr] at this; cases this
end
/-! ### two kinds of steps that lead to the same stands -/
section
variable {Λ Μ : Type} {s1 : Nt → St → List (Λ × St)} {s2 : Nt → St → List (Μ × St)} {R : Λ → Μ → Prop}
structure Alike (s1 : Nt → St → List (Λ × St)) (s2 : Nt → St → List (Μ × St)) (R : Λ → Μ → Prop) : Prop where
  a : ∀ x s, ∀ p ∈ s1 x s, ∃ q ∈ s2 x s, R p.1 q.1 ∧ q.2 = p.2
  b : ∀ x s, ∀ q ∈ s2 x s, ∃ p ∈ s1 x s, R p.1 q.1 ∧ p.2 = q.2
theorem Alike.next (A : Alike s1 s2 R) {x : Nt} {L M : List St} (h : ∀ s, s ∈ L ↔ s ∈ M) (t : St) : t ∈ nextL s1 x L ↔ t ∈ nextL s2 x M := by
  rw [mem_nextL, mem_nextL]
  constructor
  · rintro ⟨s, hs, p, hp, rfl⟩
    obtain ⟨q, hq, _, e⟩ := A.a x s p hp
    exact ⟨s, (h s).mp hs, q, hq, e⟩
  · rintro ⟨s, hs, p, hp, rfl⟩
    obtain ⟨q, hq, _, e⟩ := A.b x s p hp
    exact ⟨s, (h s).mpr hs, q, hq, e⟩
theorem Alike.can (A : Alike s1 s2 R) : ∀ (xs : List Nt) (s : St), Can s1 xs s ↔ Can s2 xs s
  | [], _ => Iff.rfl
  | x :: xs, s => by
    simp only [Can]
    constructor
    · rintro ⟨p, hp, hc⟩
      obtain ⟨q, hq, _, e⟩ := A.a x s p hp
      exact ⟨q, hq, (A.can xs _).mp (e ▸ hc)⟩
    · rintro ⟨p, hp, hc⟩
      obtain ⟨q, hq, _, e⟩ := A.b x s p hp
      exact ⟨q, hq, (A.can xs _).mpr (e ▸ hc)⟩
theorem Alike.lay (A : Alike s1 s2 R) : ∀ {xs : List Nt} {L M : List St} (i : Nat), (∀ s, s ∈ L ↔ s ∈ M) → ∀ t, t ∈ layAt (succ := s1) L xs i ↔ t ∈ layAt (succ := s2) M xs i
  | _, _, _, 0, h, t => by simpa [layAt] using h t
  | [], _, _, i + 1, h, t => by simp [layAt]
  | x :: xs, L, M, i + 1, h, t => by
    simp only [layAt]
    exact A.lay i (fun t => A.next h t) t
structure RowSim (R : Λ → Μ → Prop) (r1 : List (St × Λ × St)) (r2 : List (St × Μ × St)) : Prop where
  a : ∀ e ∈ r1, ∃ f ∈ r2, R e.2.1 f.2.1 ∧ f.1 = e.1 ∧ f.2.2 = e.2.2
  b : ∀ f ∈ r2, ∃ e ∈ r1, R e.2.1 f.2.1 ∧ e.1 = f.1 ∧ e.2.2 = f.2.2
theorem Alike.rows (A : Alike s1 s2 R) {xs : List Nt} {L M : List St} (h : ∀ s, s ∈ L ↔ s ∈ M) {i : Nat} {r1 : List (St × Λ × St)} {r2 : List (St × Μ × St)} (h1 : (rowsA s1 L xs).1[i]? = some r1) (h2 : (rowsA s2 M xs).1[i]? = some r2) : RowSim R r1 r2 := by
  have hi : i < xs.length := by have := (List.getElem?_eq_some_iff.mp h1).1; rwa [rowsA_len] at this
  obtain ⟨x, hx⟩ : ∃ x, xs[i]? = some x := ⟨_, List.getElem?_eq_getElem hi⟩
  have m1 := mem_rows hx h1
  have m2 := mem_rows hx h2
  constructor
  · intro e he
    obtain ⟨q1, q2, q3⟩ := (m1 e).mp he
    obtain ⟨q, hq, hr, ee⟩ := A.a x e.1 _ q2
    refine ⟨(e.1, q.1, q.2), (m2 _).mpr ⟨(A.lay i h _).mp q1, hq, ?_⟩, hr, rfl, ee⟩
    rw [ee]; exact (A.can _ _).mp q3
  · intro e he
    obtain ⟨q1, q2, q3⟩ := (m2 e).mp he
    obtain ⟨q, hq, hr, ee⟩ := A.b x e.1 _ q2
    refine ⟨(e.1, q.1, q.2), (m1 _).mpr ⟨(A.lay i h _).mpr q1, hq, ?_⟩, hr, rfl, ee⟩
    rw [ee]; exact (A.can _ _).mpr q3
end
end Z

set_option Elab.async false
set_option linter.all false
set_option autoImplicit false
set_option maxRecDepth 100000
set_option maxHeartbeats 4000000
set_option pp.maxSteps 400
set_option pp.deepTerms false
/-! P6: the program's steps, stands, layers. -/
namespace Z
theorem szB {n : Nat} (h : n ≤ 16000000) : (n ≤ PySem.sizeLine) = True := eq_true (Nat.le_trans h (by decide))
theorem szL {n : Nat} (h : n < 16000000) : (n < PySem.sizeLine) = True := eq_true (Nat.lt_of_lt_of_le h (by decide))
/-- one turn of a loop -/
def stp (g : CG) (body : Env → Sto → Fl) (d : D) (ρ : Env) (S : Sto) : Fl :=
  match setG g d ρ with
  | none => .bad
  | some ρ1 => body ρ1 S
theorem stp_nx {g : CG} {body : Env → Sto → Fl} {d : D} {ρ ρ2 : Env} {S S2 : Sto} {ks : List Nat} {ds : List D} (h : stp g body d ρ S = .nx ρ2 S2 ∨ stp g body d ρ S = .ct ρ2 S2) : forL g body ks (d :: ds) ρ S = forL g body ks ds (killL ρ2 ks) S2 := by
  unfold stp at h
  rw [forL]
  cases e : setG g d ρ with
  | none => rw [e] at h; rcases h with h | h <;> cases h
  | some ρ1 => rw [e] at h; rcases h with h | h <;> simp only [h]
theorem forL_det {α : Type} {enc : α → D} {g : CG} {body : Env → Sto → Fl} {ks : List Nat} {S : Sto} (env : List α → Env) : ∀ (xs pre : List α), (∀ p x post, pre ++ xs = p ++ x :: post → ∃ ρ2, (stp g body (enc x) (env p) S = .nx ρ2 S ∨ stp g body (enc x) (env p) S = .ct ρ2 S) ∧ killL ρ2 ks = env (p ++ [x])) → killL (env (pre ++ xs)) ks = env (pre ++ xs) →
    forL g body ks (xs.map enc) (env pre) S = .nx (env (pre ++ xs)) S
  | [], pre, _, hk => by simp only [List.map_nil, forL, List.append_nil] at hk ⊢; rw [hk]
  | x :: xs, pre, H, hk => by
    obtain ⟨ρ2, h1, h3⟩ := H pre x xs rfl
    have e : pre ++ x :: xs = pre ++ [x] ++ xs := by simp
    rw [List.map_cons, stp_nx h1, h3]
    rw [e] at hk ⊢
    exact forL_det env xs (pre ++ [x]) (fun p y post h => H p y post (by rw [e]; exact h)) hk
theorem forL_typ {α : Type} {enc : α → D} {g : CG} {body : Env → Sto → Fl} {ks : List Nat} {S : Sto} (Inv : List α → Env → Prop) : ∀ (xs pre : List α) (ρ : Env), (∀ p x post, pre ++ xs = p ++ x :: post → ∀ ρ, Inv p ρ → ∃ ρ2, (stp g body (enc x) ρ S = .nx ρ2 S ∨ stp g body (enc x) ρ S = .ct ρ2 S) ∧ Inv (p ++ [x]) (killL ρ2 ks)) → Inv pre ρ →
    ∃ ρ', forL g body ks (xs.map enc) ρ S = .nx (killL ρ' ks) S ∧ Inv (pre ++ xs) ρ'
  | [], pre, ρ, _, hi => ⟨ρ, rfl, by simpa using hi⟩
  | x :: xs, pre, ρ, H, hi => by
    obtain ⟨ρ2, h1, h3⟩ := H pre x xs rfl ρ hi
    have e : pre ++ x :: xs = pre ++ [x] ++ xs := by simp
    obtain ⟨ρ', h4, h5⟩ := forL_typ Inv xs (pre ++ [x]) _ (fun p y post h => H p y post (by rw [e]; exact h)) h3
    exact ⟨ρ', by rw [List.map_cons, stp_nx h1]; exact h4, by rw [e]; exact h5⟩
theorem compL_typ {α : Type} {enc : α → D} {g : CG} {t f : Env → Sto → Res Rv} {ρ : Env} {S : Sto} {p : α → Bool} {h : α → D} : ∀ {xs : List α}, (∀ x ∈ xs, ∃ ρ1 tv, setG g (enc x) ρ = some ρ1 ∧ t ρ1 S = .ok tv S ∧ tru tv S = some (p x) ∧ (p x = true → ∃ v, f ρ1 S = .ok v S ∧ v.shr = h x)) → compL g t f (xs.map enc) ρ S = .ok ((xs.filter p).map h) S
  | [], _ => rfl
  | x :: xs, H => by
    obtain ⟨ρ1, tv, h1, h2, h3, h4⟩ := H x List.mem_cons_self
    have ih := compL_typ (p := p) (h := h) fun y hy => H y (List.mem_cons_of_mem _ hy)
    cases e : p x with
    | false => simp only [List.map_cons, compL, h1, h2, h3, e, ih, List.filter_cons, Bool.false_eq_true, ↓reduceIte]
    | true =>
      obtain ⟨v, h5, h6⟩ := h4 e
      simp only [List.map_cons, compL, h1, h2, h3, e, h5, ih, List.filter_cons, ↓reduceIte, List.map_cons, h6]
theorem compL_all {α : Type} {enc : α → D} {g : CG} {t f : Env → Sto → Res Rv} {ρ : Env} {S : Sto} {h : α → D} {xs : List α} (H : ∀ x ∈ xs, ∃ ρ1 v, setG g (enc x) ρ = some ρ1 ∧ t ρ1 S = .ok (.sh (.bl true)) S ∧ f ρ1 S = .ok v S ∧ v.shr = h x) : compL g t f (xs.map enc) ρ S = .ok (xs.map h) S := by
  have e := compL_typ (enc := enc) (g := g) (t := t) (f := f) (ρ := ρ) (S := S) (p := fun _ => true) (h := h) (xs := xs) fun x hx => by
    obtain ⟨ρ1, v, h1, h2, h3, h4⟩ := H x hx
    exact ⟨ρ1, _, h1, h2, rfl, fun _ => ⟨v, h3, h4⟩⟩
  rw [e, List.filter_eq_self.mpr (by simp)]
theorem flatMap_le {α β : Type} {f : α → List β} {B : Nat} : ∀ {l : List α}, (∀ x ∈ l, (f x).length ≤ B) → (l.flatMap f).length ≤ l.length * B
  | [], _ => by simp
  | x :: l, h => by
    rw [List.flatMap_cons, List.length_append, List.length_cons, Nat.succ_mul]
    have := h x List.mem_cons_self
    have := flatMap_le fun y hy => h y (List.mem_cons_of_mem _ hy)
    omega
theorem mul_le_of {a b c d : Nat} (h1 : a ≤ c) (h2 : b ≤ d) : a * b ≤ c * d := Nat.mul_le_mul h1 h2
theorem cr_0 {c : Cr} {S : Sto} : idxS (.sh (crD c)) (.sh (.int 0)) S = some (.sh (.int c.l)) := by simp [idxS, dcv, sqv, L2.atI, L2.ixN]
theorem cr_1 {c : Cr} {S : Sto} : idxS (.sh (crD c)) (.sh (.int 1)) S = some (.sh (.int c.s)) := by simp [idxS, dcv, sqv, L2.atI, L2.ixN]
theorem cr_2 {c : Cr} {S : Sto} : idxS (.sh (crD c)) (.sh (.int 2)) S = some (.sh (.int c.m)) := by simp [idxS, dcv, sqv, L2.atI, L2.ixN]
theorem cr_3 {c : Cr} {S : Sto} : idxS (.sh (crD c)) (.sh (.int 3)) S = some (.sh (.int c.k)) := by simp [idxS, dcv, sqv, L2.atI, L2.ixN]
theorem cr_4 {c : Cr} {S : Sto} : idxS (.sh (crD c)) (.sh (.int 4)) S = some (.sh (.int c.b)) := by simp [idxS, dcv, sqv, L2.atI, L2.ixN]
theorem ix_0 {x : D} {xs : List D} {S : Sto} : idxS (.sh (.tup (x :: xs))) (.sh (.int 0)) S = some (.sh x) := by
  have : L2.atI (x :: xs) 0 = some x := atI_of (i := 0) rfl
  simp [idxS, dcv, sqv, this]
/-! ### sizes -/
theorem shorts_len (c : Cr) (hc : c.Ok) (p : Sh) (d : Int) (hd : d ≤ 12) : (shorts c p d).length ≤ 14 := by
  have := hc.s20
  simp only [shorts, List.length_cons, List.length_map, rng_len]; omega
theorem longs_len (c : Cr) (hc : c.Ok) (p : Sh) (d : Int) (hd : d ≤ 12) : (longs c p d).length ≤ 14 := by
  have := hc.l40
  simp only [longs, List.length_cons]
  split
  · simp only [List.length_map, rng_len]; omega
  · simp
theorem steps1_len (c : Cr) (hc : c.Ok) (p : Sh) (d : Int) (hd : d ≤ 12) : (steps1 c p d).length ≤ 196 := by
  have h := flatMap_le (l := longs c p d) (f := fun y => (shorts c p d).map fun x => ((⟨d, x.1, y.1⟩ : Stp), ((y.2, x.2) : Sh))) (B := 14) fun y _ => by rw [List.length_map]; exact shorts_len c hc p d hd
  have := longs_len c hc p d hd
  have : (longs c p d).length * 14 ≤ 14 * 14 := Nat.mul_le_mul_right _ this
  simp only [steps1]; omega
theorem steps_len (c : Cr) (hc : c.Ok) (p : Sh) : (steps c p).length ≤ 2548 := by
  have hm := hc.m12
  have h := flatMap_le (l := rngI 0 (c.m + 1).toNat) (f := steps1 c p) (B := 196) fun d hd => steps1_len c hc p d (by have := mem_rng.mp hd; omega)
  rw [rng_len] at h
  have : (c.m + 1).toNat * 196 ≤ 13 * 196 := Nat.mul_le_mul_right _ (by omega)
  simp only [steps]; omega
theorem nexts_len (c : Cr) (hc : c.Ok) (x : Nt) (s : St) : (nexts c x s).length ≤ 2548 := by
  have := steps_len c hc s.1
  simp only [nexts, List.length_map]
  exact Nat.le_trans (List.length_filter_le _ _) this
section
variable {T : List Fd} {I : Ids} {n : Nat} {S : Sto}
structure HS (T : List Fd) (I : Ids) : Prop where
  steps : T[I.f_steps_from]? = some (fd_steps_from I)
  slips : T[I.f_slips_at]? = some (fd_slips_at I)
structure HF (T : List Fd) (I : Ids) : Prop extends HS T I where
  firsts : T[I.f_first_stands]? = some (fd_first_stands I)
  behind : T[I.f_stands_behind]? = some (fd_stands_behind I)
  layers : T[I.f_layers]? = some (fd_layers I)
theorem p_slipsat (H : HS T I) (x : Nt) (a b : Int) : Phi T (n + 1) I.f_slips_at [.tup [optD x.1, optD x.2], .tup [.int a, .int b]] S = .ok (.sh (.int (slip x (a, b)))) S := by
  rw [phi_at H.slips]
  obtain ⟨x, y⟩ := x
  have e : ∀ i j : Int, (i == j) = decide (i = j) := fun i j => by by_cases h : i = j <;> simp [h]
  cases x with
  | none =>
    cases y with
    | none => simp [fd_slips_at, b_slips_at, b_slips_at_t0, b_slips_at_e0, compL, optD, slip, miss, okd, deq, runF, denSs, denS, den, dens, deni, Res.bind, Res.fl, optR, optB, getV, getS, setIs, setG, killL, setPs, putS, forL, opS, addS, mulS, mulI, modI, fdivI, powI, int2, cmpS, cmpI, eqS, isNon, idxS, dcv, dcs, itv, lsv, sqv, vw, tru, biS, isiS, Ty.isI, Ty.isB, Ty.isS, Ty.isT, Ty.isL, mtS, mtK, slcP, partS, Rv.shr, L2.atI, L2.ixN, intsD, boolsD, handL, subc, CEs.len, sz]
    | some j => by_cases h : j = b <;> simp [fd_slips_at, b_slips_at, b_slips_at_t0, b_slips_at_e0, compL, optD, slip, miss, okd, deq, e, h, runF, denSs, denS, den, dens, deni, Res.bind, Res.fl, optR, optB, getV, getS, setIs, setG, killL, setPs, putS, forL, opS, addS, mulS, mulI, modI, fdivI, powI, int2, cmpS, cmpI, eqS, isNon, idxS, dcv, dcs, itv, lsv, sqv, vw, tru, biS, isiS, Ty.isI, Ty.isB, Ty.isS, Ty.isT, Ty.isL, mtS, mtK, slcP, partS, Rv.shr, L2.atI, L2.ixN, intsD, boolsD, handL, subc, CEs.len, sz]
  | some i =>
    cases y with
    | none => by_cases h : i = a <;> simp [fd_slips_at, b_slips_at, b_slips_at_t0, b_slips_at_e0, compL, optD, slip, miss, okd, deq, e, h, runF, denSs, denS, den, dens, deni, Res.bind, Res.fl, optR, optB, getV, getS, setIs, setG, killL, setPs, putS, forL, opS, addS, mulS, mulI, modI, fdivI, powI, int2, cmpS, cmpI, eqS, isNon, idxS, dcv, dcs, itv, lsv, sqv, vw, tru, biS, isiS, Ty.isI, Ty.isB, Ty.isS, Ty.isT, Ty.isL, mtS, mtK, slcP, partS, Rv.shr, L2.atI, L2.ixN, intsD, boolsD, handL, subc, CEs.len, sz]
    | some j => by_cases h : i = a <;> by_cases h2 : j = b <;> simp [fd_slips_at, b_slips_at, b_slips_at_t0, b_slips_at_e0, compL, optD, slip, miss, okd, deq, e, h, h2, runF, denSs, denS, den, dens, deni, Res.bind, Res.fl, optR, optB, getV, getS, setIs, setG, killL, setPs, putS, forL, opS, addS, mulS, mulI, modI, fdivI, powI, int2, cmpS, cmpI, eqS, isNon, idxS, dcv, dcs, itv, lsv, sqv, vw, tru, biS, isiS, Ty.isI, Ty.isB, Ty.isS, Ty.isT, Ty.isL, mtS, mtK, slcP, partS, Rv.shr, L2.atI, L2.ixN, intsD, boolsD, handL, subc, CEs.len, sz]
/-! ### steps_from -/
abbrev biD (x : Bool × Int) : D := .tup [.bl x.1, .int x.2]
theorem get_set_at {ρ : Env} {i : Nat} {v : Option Rv} (h : i < ρ.length) : (ρ.set i v)[i]? = some v := by simp [h]
theorem comp_e0 {c : Call} (ns : List Int) (ρ : Env) (h : 8 < ρ.length) : compL (.nm 8) (fun _ S => .ok (.sh (.bl true)) S) (den (b_steps_from_e0 I) c) (ns.map .int) ρ S = .ok ((ns.map fun i => (true, i)).map biD) S := by
  rw [compL_map (h := fun d => .tup [.bl true, d])]
  · simp [List.map_map]
  · intro d hd
    obtain ⟨i, _, rfl⟩ := List.mem_map.mp hd
    exact ⟨_, _, .sh (.tup [.bl true, .int i]), rfl, rfl, rfl, by simp [b_steps_from_e0, den, dens, Res.bind, optR, getS, getV, h, Rv.shr], rfl⟩
theorem comp_e1 {c : Call} (ns : List Int) (ρ : Env) (h : 8 < ρ.length) : compL (.nm 8) (fun _ S => .ok (.sh (.bl true)) S) (den (b_steps_from_e1 I) c) (ns.map .int) ρ S = .ok ((ns.map fun i => (true, i)).map biD) S := comp_e0 (I := I) ns ρ h
abbrev stepD (x : Stp × Sh) : D := .tup [spD x.1, shD x.2]
theorem comp_e2 {c : Call} (ys : List (Bool × Int)) (d : Int) (w : Bool) (lg : Int) (a0 a1 a2 a4 a5 a8 a9 a10 : Option Rv) :
    compL (.tup [9, 10]) (fun _ S => .ok (.sh (.bl true)) S) (den (b_steps_from_e2 I) c) (ys.map biD) [a0, a1, a2, some (.sh (.int d)), a4, a5, some (.sh (.bl w)), some (.sh (.int lg)), a8, a9, a10] S = .ok ((ys.map fun x => ((⟨d, x.1, w⟩ : Stp), ((lg, x.2) : Sh))).map stepD) S := by
  rw [compL_map (h := fun y => match y with | .tup [.bl p, .int i] => stepD (⟨d, p, w⟩, (lg, i)) | _ => .non)]
  · rw [List.map_map, List.map_map]; rfl
  · intro y hy
    obtain ⟨⟨p, i⟩, _, rfl⟩ := List.mem_map.mp hy
    refine ⟨_, _, .sh (stepD (⟨d, p, w⟩, (lg, i))), rfl, rfl, rfl, ?_, rfl⟩
    simp [b_steps_from_e2, den, dens, Res.bind, optR, getS, getV, Rv.shr]
theorem steps_l0 {c : Call} (cr sh : D) (d : Int) (ys : List (Bool × Int)) (hys : ys.length ≤ 21) (v5 v8 : Option Rv) (zs : List (Bool × Int)) (hzs : zs.length ≤ 41) (fo : List D) (hfo : fo.length ≤ 12000) :
    forL (.tup [6, 7]) (denSs (b_steps_from_l0 I) c) [6, 7, 9, 10] (zs.map biD) [some (.sh cr), some (.sh sh), some (.sh (.lst fo)), some (.sh (.int d)), some (.sh (.lst (ys.map biD))), v5, none, none, v8, none, none] S =
      .nx [some (.sh cr), some (.sh sh), some (.sh (.lst (fo ++ (zs.flatMap fun y => ys.map fun x => ((⟨d, x.1, y.1⟩ : Stp), ((y.2, x.2) : Sh))).map stepD))), some (.sh (.int d)), some (.sh (.lst (ys.map biD))), v5, none, none, v8, none, none] S := by
  have h := forL_det (S := S) (enc := biD) (g := .tup [6, 7]) (body := denSs (b_steps_from_l0 I) c) (ks := [6, 7, 9, 10]) (fun pre => [some (.sh cr), some (.sh sh), some (.sh (.lst (fo ++ (pre.flatMap fun y => ys.map fun x => ((⟨d, x.1, y.1⟩ : Stp), ((y.2, x.2) : Sh))).map stepD))), some (.sh (.int d)), some (.sh (.lst (ys.map biD))), v5, none, none, v8, none, none]) zs [] ?_ rfl
  · simpa using h
  · rintro pre ⟨w, lg⟩ post hp
    have hpl : pre.length ≤ 41 := by
      have : zs.length = _ := congrArg List.length (show zs = pre ++ (w, lg) :: post by simpa using hp)
      simp at this; omega
    have hB := flatMap_le (l := pre) (f := fun y => ys.map fun x => ((⟨d, x.1, y.1⟩ : Stp), ((y.2, x.2) : Sh))) (B := 21) fun y _ => by rw [List.length_map]; exact hys
    have hB2 : pre.length * 21 ≤ 41 * 21 := Nat.mul_le_mul_right _ hpl
    have hc := comp_e2 (I := I) (S := S) (c := c) ys d w lg (some (.sh cr)) (some (.sh sh)) (some (.sh (.lst (fo ++ (pre.flatMap fun y => ys.map fun x => ((⟨d, x.1, y.1⟩ : Stp), ((y.2, x.2) : Sh))).map stepD)))) (some (.sh (.lst (ys.map biD)))) v5 v8 none none
    have z1 : (ys.length ≤ PySem.sizeLine) = True := szB (by omega)
    have z2 : ((fo ++ (pre.flatMap fun y => ys.map fun x => ((⟨d, x.1, y.1⟩ : Stp), ((y.2, x.2) : Sh))).map stepD).length + ys.length ≤ PySem.sizeLine) = True := szB (by rw [List.length_append, List.length_map]; omega)
    refine ⟨[some (.sh cr), some (.sh sh), some (.sh (.lst ((fo ++ (pre.flatMap fun y => ys.map fun x => ((⟨d, x.1, y.1⟩ : Stp), ((y.2, x.2) : Sh))).map stepD) ++ (ys.map fun x => ((⟨d, x.1, w⟩ : Stp), ((lg, x.2) : Sh))).map stepD))), some (.sh (.int d)), some (.sh (.lst (ys.map biD))), v5, some (.sh (.bl w)), some (.sh (.int lg)), v8, none, none], .inl ?_, by simp [killL]⟩
    generalize (fo ++ (pre.flatMap fun y => ys.map fun x => ((⟨d, x.1, y.1⟩ : Stp), ((y.2, x.2) : Sh))).map stepD) = F at hc z2 ⊢
    simp only [stp, setG, setIs, b_steps_from_l0, denSs, denS, den, deni, Res.bind, Res.fl, optR, getS, getV, List.getElem?_cons_zero, List.getElem?_cons_succ, dcs, itv, killL, List.set_cons_zero, List.set_cons_succ, hc, opS, addS, lsv, Option.bind_some, Rv.shr, List.length_map, z1, z2, ↓reduceIte]
theorem p_steps (H : HS T I) (c : Cr) (hc : c.Ok) (a b : Int) : Phi T (n + 1) I.f_steps_from [crD c, .tup [.int a, .int b]] S = .ok (.sh (.lst ((steps c (a, b)).map stepD))) S := by
  rw [phi_at H.steps]
  have hs := hc.s2
  have hl := hc.l2
  have hm := hc.m12
  have hm1 := hc.m1
  have hs0 : 0 < c.s := by omega
  have hl0 : 0 < c.l := by omega
  have h := forL_det (S := S) (enc := fun i : Int => .int i) (g := .nm 3) (body := denSs (b_steps_from_l1 I) (Phi T n)) (ks := [3, 4, 5, 6, 7, 8, 9, 10]) (fun pre => [some (.sh (crD c)), some (.sh (.tup [.int a, .int b])), some (.sh (.lst ((pre.flatMap (steps1 c (a, b))).map stepD))), none, none, none, none, none, none, none, none]) (rngI 0 (c.m + 1).toNat) [] ?_ rfl
  · have hin : inR (c.m + 1) := inR_of (by omega) (by omega)
    simp only [List.nil_append, ← rangeD_rng, List.flatMap_nil, List.map_nil] at h
    simp [fd_steps_from, b_steps_from, hin, h, runF, denSs, denS, den, dens, deni, Res.bind, Res.fl, optR, optB, getV, getS, setIs, setG, killL, setPs, putS, opS, addS, mulS, mulI, modI, fdivI, powI, int2, cmpS, cmpI, eqS, isNon, idxS, dcv, dcs, itv, lsv, sqv, vw, tru, biS, isiS, Ty.isI, Ty.isB, Ty.isS, Ty.isT, Ty.isL, mtS, mtK, slcP, partS, Rv.shr, L2.atI, L2.ixN, intsD, boolsD, handL, subc, CEs.len, sz]
    rfl
  · intro pre d post hp
    have hd : d ∈ rngI 0 (c.m + 1).toNat := by
      have : rngI 0 (c.m + 1).toNat = pre ++ d :: post := by simpa using hp
      rw [this]; simp
    obtain ⟨d0, d1⟩ := mem_rng.mp hd
    have hpl : pre.length ≤ 13 := by
      have := congrArg List.length hp
      simp [rng_len] at this; omega
    have hB := flatMap_le (l := pre) (f := steps1 c (a, b)) (B := 196) fun y hy => steps1_len c hc _ _ (by have h1 : y ∈ rngI 0 (c.m + 1).toNat := (by simp at hp; rw [hp]; simp [hy]); have := mem_rng.mp h1; omega)
    have hB2 : pre.length * 196 ≤ 13 * 196 := Nat.mul_le_mul_right _ hpl
    have hF : ((pre.flatMap (steps1 c (a, b))).map stepD).length ≤ 12000 := by rw [List.length_map]; omega
    have in1 : inR (min (d + 1) c.s) := inR_of (by omega) (by omega)
    have in2 : inR (min (d + 1) c.l) := inR_of (by omega) (by omega)
    have mi : ∀ u v : Int, (if v < u then v else u) = min u v := fun u v => by split <;> omega
    have z1 : ((min (d + 1) c.s).toNat ≤ PySem.sizeLine) = True := szB (by omega)
    have z2 : ((min (d + 1) c.l).toNat ≤ PySem.sizeLine) = True := szB (by omega)
    have z3 : (1 + (min (d + 1) c.s).toNat ≤ PySem.sizeLine) = True := szB (by omega)
    have z4 : (1 + (min (d + 1) c.l).toNat ≤ PySem.sizeLine) = True := szB (by omega)
    have l0 := steps_l0 (I := I) (c := Phi T n) (S := S) (crD c) (.tup [.int a, .int b]) d (shorts c (a, b) d) (Nat.le_trans (shorts_len c hc _ _ (by omega)) (by decide)) (some (.sh (.lst ((longs c (a, b) d).map biD)))) none (longs c (a, b) d) (Nat.le_trans (longs_len c hc _ _ (by omega)) (by decide)) ((pre.flatMap (steps1 c (a, b))).map stepD) hF
    have e1 : (shorts c (a, b) d).map biD = biD (false, (b + d) % c.s) :: (((rngI 0 (min (d + 1) c.s).toNat).map fun i => (true, i)).map biD) := rfl
    refine ⟨[some (.sh (crD c)), some (.sh (.tup [.int a, .int b])), some (.sh (.lst (((pre.flatMap (steps1 c (a, b))).map stepD) ++ (steps1 c (a, b) d).map stepD))), some (.sh (.int d)), some (.sh (.lst ((shorts c (a, b) d).map biD))), some (.sh (.lst ((longs c (a, b) d).map biD))), none, none, none, none, none], .inl ?_, by simp [killL]⟩
    · have l0' : forL (.tup [6, 7]) (denSs (b_steps_from_l0 I) (Phi T n)) [6, 7, 9, 10] ((longs c (a, b) d).map biD) _ S = _ := l0
      have g1 : ∀ ρ : Env, 8 < ρ.length → compL (.nm 8) (fun _ S => .ok (.sh (.bl true)) S) (den (b_steps_from_e0 I) (Phi T n)) (rangeD 0 (min (d + 1) c.s).toNat) ρ S = .ok (((rngI 0 (min (d + 1) c.s).toNat).map fun i => (true, i)).map biD) S := fun ρ h => by rw [rangeD_rng]; exact comp_e0 _ ρ h
      have g2 : ∀ ρ : Env, 8 < ρ.length → compL (.nm 8) (fun _ S => .ok (.sh (.bl true)) S) (den (b_steps_from_e1 I) (Phi T n)) (rangeD 0 (min (d + 1) c.l).toNat) ρ S = .ok (((rngI 0 (min (d + 1) c.l).toNat).map fun i => (true, i)).map biD) S := fun ρ h => by rw [rangeD_rng]; exact comp_e1 _ ρ h
      generalize ((pre.flatMap (steps1 c (a, b))).map stepD) = F at l0' ⊢
      rw [e1] at l0' ⊢
      by_cases hb : 0 < c.b
      · have e2 : (longs c (a, b) d).map biD = biD (false, (a + d) % c.l) :: (((rngI 0 (min (d + 1) c.l).toNat).map fun i => (true, i)).map biD) := by simp [longs, hb]
        rw [e2] at l0' ⊢
        simp [stp, b_steps_from_l1, hb, mi, in1, in2, g1, g2, z1, z2, z3, z4, hs0, hl0, l0', steps1, rng_len, -List.map_map, runF, denSs, denS, den, dens, deni, Res.bind, Res.fl, optR, optB, getV, getS, setIs, setG, killL, setPs, putS, opS, addS, mulS, mulI, modI, fdivI, powI, int2, cmpS, cmpI, eqS, isNon, idxS, dcv, dcs, itv, lsv, sqv, vw, tru, biS, isiS, Ty.isI, Ty.isB, Ty.isS, Ty.isT, Ty.isL, mtS, mtK, slcP, partS, Rv.shr, L2.atI, L2.ixN, intsD, boolsD, handL, subc, CEs.len, sz]
      · have e2 : (longs c (a, b) d).map biD = [biD (false, (a + d) % c.l)] := by simp [longs, hb]
        rw [e2] at l0' ⊢
        simp [stp, b_steps_from_l1, hb, mi, in1, g1, z1, z3, hs0, hl0, l0', steps1, rng_len, -List.map_map, runF, denSs, denS, den, dens, deni, Res.bind, Res.fl, optR, optB, getV, getS, setIs, setG, killL, setPs, putS, opS, addS, mulS, mulI, modI, fdivI, powI, int2, cmpS, cmpI, eqS, isNon, idxS, dcv, dcs, itv, lsv, sqv, vw, tru, biS, isiS, Ty.isI, Ty.isB, Ty.isS, Ty.isT, Ty.isL, mtS, mtK, slcP, partS, Rv.shr, L2.atI, L2.ixN, intsD, boolsD, handL, subc, CEs.len, sz]
/-! ### first_stands -/
theorem firsts_every_len (c : Cr) (hc : c.Ok) : ((rngI 0 c.l.toNat).flatMap fun a => (rngI 0 c.s.toNat).map fun b => ((a, b) : Sh)).length ≤ 800 := by
  have h := flatMap_le (l := rngI 0 c.l.toNat) (f := fun a => (rngI 0 c.s.toNat).map fun b => ((a, b) : Sh)) (B := 20) fun y _ => by rw [List.length_map, rng_len]; have := hc.s20; omega
  rw [rng_len] at h
  have := hc.l40
  have : c.l.toNat * 20 ≤ 40 * 20 := Nat.mul_le_mul_right _ (by omega)
  omega
theorem firsts_len (c : Cr) (hc : c.Ok) (x : Nt) : (firsts c x).length ≤ 800 := by
  simp only [firsts, List.length_map]
  exact Nat.le_trans (List.length_filter_le _ _) (firsts_every_len c hc)
theorem p_firsts (H : HF T I) (c : Cr) (hc : c.Ok) (x : Nt) : Phi T (n + 2) I.f_first_stands [crD c, ntD x] S = .ok (.nl ((firsts c x).map stD)) S := by
  rw [phi_at H.firsts]
  have hs := hc.s2
  have hl := hc.l2
  have hs2 := hc.s20
  have hl2 := hc.l40
  have in1 : inR c.l := inR_of (by omega) (by omega)
  have in2 : inR c.s := inR_of (by omega) (by omega)
  have h := forL_det (S := S) (enc := fun i : Int => .int i) (g := .nm 3) (body := denSs (b_first_stands_l0 I) (Phi T (n + 1))) (ks := [3, 5]) (fun pre => [some (.sh (crD c)), some (.sh (ntD x)), some (.sh (.lst ((pre.flatMap fun a => (rngI 0 c.s.toNat).map fun b => ((a, b) : Sh)).map shD))), none, none, none]) (rngI 0 c.l.toNat) [] ?_ rfl
  · have hcomp : ∀ ds : List Sh, ds.length ≤ 800 → compL (.nm 4) (den (b_first_stands_t0 I) (Phi T (n + 1))) (den (b_first_stands_e1 I) (Phi T (n + 1))) (ds.map shD) [some (.sh (crD c)), some (.sh (ntD x)), some (.sh (.lst (ds.map shD))), none, none, none] S = .ok ((ds.filter fun p => decide (slip x p ≤ c.k)).map fun p => stD (p, slip x p, 0)) S := by
      intro ds _
      refine compL_typ fun p hp => ⟨_, .sh (.bl (decide (slip x p ≤ c.k))), rfl, ?_, rfl, fun _ => ⟨.sh (stD (p, slip x p, 0)), ?_, rfl⟩⟩
      · simp [b_first_stands_t0, p_slipsat H.toHS, runF, denSs, denS, den, dens, deni, Res.bind, Res.fl, optR, optB, getV, getS, setIs, setG, killL, setPs, putS, forL, opS, addS, mulS, mulI, modI, fdivI, powI, int2, cmpS, cmpI, eqS, isNon, idxS, dcv, dcs, itv, lsv, sqv, vw, tru, biS, isiS, Ty.isI, Ty.isB, Ty.isS, Ty.isT, Ty.isL, mtS, mtK, slcP, partS, Rv.shr, L2.atI, L2.ixN, intsD, boolsD, handL, subc, CEs.len, sz]
      · simp [b_first_stands_e1, p_slipsat H.toHS, runF, denSs, denS, den, dens, deni, Res.bind, Res.fl, optR, optB, getV, getS, setIs, setG, killL, setPs, putS, forL, opS, addS, mulS, mulI, modI, fdivI, powI, int2, cmpS, cmpI, eqS, isNon, idxS, dcv, dcs, itv, lsv, sqv, vw, tru, biS, isiS, Ty.isI, Ty.isB, Ty.isS, Ty.isT, Ty.isL, mtS, mtK, slcP, partS, Rv.shr, L2.atI, L2.ixN, intsD, boolsD, handL, subc, CEs.len, sz]
    simp only [List.nil_append, ← rangeD_rng, List.flatMap_nil, List.map_nil] at h
    have hcomp := hcomp _ (firsts_every_len c hc)
    have e1 : (firsts c x).map stD = (((rngI 0 c.l.toNat).flatMap fun a => (rngI 0 c.s.toNat).map fun b => ((a, b) : Sh)).filter fun p => decide (slip x p ≤ c.k)).map fun p => stD (p, slip x p, 0) := by
      rw [firsts, List.map_map]; rfl
    have zz := firsts_len c hc x
    rw [firsts, List.length_map] at zz
    rw [e1]
    have z1 : (((((rngI 0 c.l.toNat).flatMap fun a => (rngI 0 c.s.toNat).map fun b => ((a, b) : Sh)).filter fun p => decide (slip x p ≤ c.k))).length ≤ PySem.sizeLine) = True := szB (by omega)
    generalize ((rngI 0 c.l.toNat).flatMap fun a => (rngI 0 c.s.toNat).map fun b => ((a, b) : Sh)) = ev at h hcomp z1 ⊢
    simp [fd_first_stands, b_first_stands, in1, h, hcomp, z1, runF, denSs, denS, den, dens, deni, Res.bind, Res.fl, optR, optB, getV, getS, setIs, setG, killL, setPs, putS, opS, addS, mulS, mulI, modI, fdivI, powI, int2, cmpS, cmpI, eqS, isNon, idxS, dcv, dcs, itv, lsv, sqv, vw, tru, biS, isiS, Ty.isI, Ty.isB, Ty.isS, Ty.isT, Ty.isL, mtS, mtK, slcP, partS, Rv.shr, L2.atI, L2.ixN, intsD, boolsD, handL, subc, CEs.len, sz]
  · intro pre a post hp
    have hpl : pre.length ≤ 40 := by
      have := congrArg List.length hp
      simp [rng_len] at this; omega
    have hB := flatMap_le (l := pre) (f := fun a => (rngI 0 c.s.toNat).map fun b => ((a, b) : Sh)) (B := 20) fun y _ => by rw [List.length_map, rng_len]; omega
    have hB2 : pre.length * 20 ≤ 40 * 20 := Nat.mul_le_mul_right _ hpl
    have hcc : ∀ a0 a1 a2 a4 a5, compL (.nm 5) (fun _ S => .ok (.sh (.bl true)) S) (den (b_first_stands_e0 I) (Phi T (n + 1))) (rangeD 0 c.s.toNat) [a0, a1, a2, some (.sh (.int a)), a4, a5] S = .ok (((rngI 0 c.s.toNat).map fun b => ((a, b) : Sh)).map shD) S := by
      intro a0 a1 a2 a4 a5
      rw [rangeD_rng, List.map_map]
      refine compL_all fun b hb => ⟨_, .sh (.tup [.int a, .int b]), rfl, rfl, ?_, rfl⟩
      simp [b_first_stands_e0, runF, denSs, denS, den, dens, deni, Res.bind, Res.fl, optR, optB, getV, getS, setIs, setG, killL, setPs, putS, forL, opS, addS, mulS, mulI, modI, fdivI, powI, int2, cmpS, cmpI, eqS, isNon, idxS, dcv, dcs, itv, lsv, sqv, vw, tru, biS, isiS, Ty.isI, Ty.isB, Ty.isS, Ty.isT, Ty.isL, mtS, mtK, slcP, partS, Rv.shr, L2.atI, L2.ixN, intsD, boolsD, handL, subc, CEs.len, sz]
    have z1 : (c.s.toNat ≤ PySem.sizeLine) = True := szB (by omega)
    have z2 : (((pre.flatMap fun a => (rngI 0 c.s.toNat).map fun b => ((a, b) : Sh)).map shD).length + c.s.toNat ≤ PySem.sizeLine) = True := szB (by rw [List.length_map]; omega)
    refine ⟨[some (.sh (crD c)), some (.sh (ntD x)), some (.sh (.lst ((pre.flatMap fun a => (rngI 0 c.s.toNat).map fun b => ((a, b) : Sh)).map shD ++ ((rngI 0 c.s.toNat).map fun b => ((a, b) : Sh)).map shD))), some (.sh (.int a)), none, none], .inl ?_, by simp [killL]⟩
    generalize (pre.flatMap fun a => (rngI 0 c.s.toNat).map fun b => ((a, b) : Sh)).map shD = F at z2 ⊢
    simp [stp, b_first_stands_l0, in2, hcc, z1, z2, rng_len, -List.map_map, runF, denSs, denS, den, dens, deni, Res.bind, Res.fl, optR, optB, getV, getS, setIs, setG, killL, setPs, putS, opS, addS, mulS, mulI, modI, fdivI, powI, int2, cmpS, cmpI, eqS, isNon, idxS, dcv, dcs, itv, lsv, sqv, vw, tru, biS, isiS, Ty.isI, Ty.isB, Ty.isS, Ty.isT, Ty.isL, mtS, mtK, slcP, partS, Rv.shr, L2.atI, L2.ixN, intsD, boolsD, handL, subc, CEs.len, sz]
/-! ### stands_behind -/
theorem p_behind_st (H : HF T I) (c : Cr) (hc : c.Ok) (x : Nt) (s : St) : Phi T (n + 2) I.f_stands_behind [crD c, ntD x, stD s] S = .ok (.nl ((nexts c x s).map fun p => .tup [spD p.1, stD p.2])) S := by
  rw [phi_at H.behind]
  obtain ⟨⟨a, b⟩, k, w⟩ := s
  have h := forL_det (S := S) (enc := stepD) (g := .tup [7, 8]) (body := denSs (b_stands_behind_l0 I) (Phi T (n + 1))) (ks := [7, 8, 9]) (fun pre => [some (.sh (crD c)), some (.sh (ntD x)), some (.sh (stD ((a, b), k, w))), some (.nl ((((pre.filter fun y => decide (k + slip x y.2 ≤ c.k) && decide (w + b2i y.1.q ≤ c.b)).map fun y => (y.1, ((y.2, k + slip x y.2, w + b2i y.1.q) : St)))).map fun p => .tup [spD p.1, stD p.2])), some (.sh (shD (a, b))), some (.sh (.int k)), some (.sh (.int w)), none, none, none]) (steps c (a, b)) [] ?_ rfl
  · simp only [List.nil_append, List.filter_nil, List.map_nil] at h
    have e : ((nexts c x ((a, b), k, w)).map fun p => D.tup [spD p.1, stD p.2]) = ((((steps c (a, b)).filter fun y => decide (k + slip x y.2 ≤ c.k) && decide (w + b2i y.1.q ≤ c.b)).map fun y => (y.1, ((y.2, k + slip x y.2, w + b2i y.1.q) : St)))).map fun p => .tup [spD p.1, stD p.2] := rfl
    rw [e]
    have ps : ∀ S, Phi T (n + 1) I.f_steps_from [crD c, .tup [.int a, .int b]] S = .ok (.sh (.lst ((steps c (a, b)).map stepD))) S := fun S => p_steps H.toHS c hc a b
    simp [fd_stands_behind, b_stands_behind, ps, h, -List.map_map, runF, denSs, denS, den, dens, deni, Res.bind, Res.fl, optR, optB, getV, getS, setIs, setG, killL, setPs, putS, opS, addS, mulS, mulI, modI, fdivI, powI, int2, cmpS, cmpI, eqS, isNon, idxS, dcv, dcs, itv, lsv, sqv, vw, tru, biS, isiS, Ty.isI, Ty.isB, Ty.isS, Ty.isT, Ty.isL, mtS, mtK, slcP, partS, Rv.shr, L2.atI, L2.ixN, intsD, boolsD, handL, subc, CEs.len, sz]
  · rintro pre ⟨⟨d, u, v⟩, ⟨a', b'⟩⟩ post hp
    have hlen : pre.length ≤ 2548 := by
      have h1 := congrArg List.length hp
      have h2 := steps_len c hc (a, b)
      simp at h1; omega
    have hB : (((((pre.filter fun y => decide (k + slip x y.2 ≤ c.k) && decide (w + b2i y.1.q ≤ c.b)).map fun y => (y.1, ((y.2, k + slip x y.2, w + b2i y.1.q) : St)))).map fun p => D.tup [spD p.1, stD p.2]).length < PySem.sizeLine) = True := szL (by
      have := List.length_filter_le (fun y : Stp × Sh => decide (k + slip x y.2 ≤ c.k) && decide (w + b2i y.1.q ≤ c.b)) pre
      simp only [List.length_map]; omega)
    rw [List.filter_append, List.map_append, List.map_append, List.filter_cons, List.filter_nil]
    generalize ((((pre.filter fun y => decide (k + slip x y.2 ≤ c.k) && decide (w + b2i y.1.q ≤ c.b)).map fun y => (y.1, ((y.2, k + slip x y.2, w + b2i y.1.q) : St)))).map fun p => D.tup [spD p.1, stD p.2]) = F at hB ⊢
    have ps := p_slipsat (n := n) (S := S) H.toHS x a' b'
    have hq : (if v = true then (1 : Int) else 0) = b2i v := rfl
    by_cases h1 : k + slip x (a', b') ≤ c.k
    · by_cases h2 : w + b2i v ≤ c.b
      · refine ⟨[some (.sh (crD c)), some (.sh (ntD x)), some (.sh (stD ((a, b), k, w))), some (.nl (F ++ [.tup [spD ⟨d, u, v⟩, stD ((a', b'), k + slip x (a', b'), w + b2i v)]])), some (.sh (shD (a, b))), some (.sh (.int k)), some (.sh (.int w)), some (.sh (spD ⟨d, u, v⟩)), some (.sh (shD (a', b'))), some (.sh (.int (k + slip x (a', b'))))], .inl ?_, by simp [killL, h1, h2]⟩
        simp [stp, b_stands_behind_l0, ps, hq, h1, h2, hB, runF, denSs, denS, den, dens, deni, Res.bind, Res.fl, optR, optB, getV, getS, setIs, setG, killL, setPs, putS, forL, opS, addS, mulS, mulI, modI, fdivI, powI, int2, cmpS, cmpI, eqS, isNon, idxS, dcv, dcs, itv, lsv, sqv, vw, tru, biS, isiS, Ty.isI, Ty.isB, Ty.isS, Ty.isT, Ty.isL, mtS, mtK, slcP, partS, Rv.shr, L2.atI, L2.ixN, intsD, boolsD, handL, subc, CEs.len, sz]
      · refine ⟨[some (.sh (crD c)), some (.sh (ntD x)), some (.sh (stD ((a, b), k, w))), some (.nl F), some (.sh (shD (a, b))), some (.sh (.int k)), some (.sh (.int w)), some (.sh (spD ⟨d, u, v⟩)), some (.sh (shD (a', b'))), some (.sh (.int (k + slip x (a', b'))))], .inl ?_, by simp [killL, h1, h2]⟩
        simp [stp, b_stands_behind_l0, ps, hq, h1, h2, hB, runF, denSs, denS, den, dens, deni, Res.bind, Res.fl, optR, optB, getV, getS, setIs, setG, killL, setPs, putS, forL, opS, addS, mulS, mulI, modI, fdivI, powI, int2, cmpS, cmpI, eqS, isNon, idxS, dcv, dcs, itv, lsv, sqv, vw, tru, biS, isiS, Ty.isI, Ty.isB, Ty.isS, Ty.isT, Ty.isL, mtS, mtK, slcP, partS, Rv.shr, L2.atI, L2.ixN, intsD, boolsD, handL, subc, CEs.len, sz]
    · refine ⟨[some (.sh (crD c)), some (.sh (ntD x)), some (.sh (stD ((a, b), k, w))), some (.nl F), some (.sh (shD (a, b))), some (.sh (.int k)), some (.sh (.int w)), some (.sh (spD ⟨d, u, v⟩)), some (.sh (shD (a', b'))), some (.sh (.int (k + slip x (a', b'))))], .inl ?_, by simp [killL, h1]⟩
      simp [stp, b_stands_behind_l0, ps, hq, h1, hB, runF, denSs, denS, den, dens, deni, Res.bind, Res.fl, optR, optB, getV, getS, setIs, setG, killL, setPs, putS, forL, opS, addS, mulS, mulI, modI, fdivI, powI, int2, cmpS, cmpI, eqS, isNon, idxS, dcv, dcs, itv, lsv, sqv, vw, tru, biS, isiS, Ty.isI, Ty.isB, Ty.isS, Ty.isT, Ty.isL, mtS, mtK, slcP, partS, Rv.shr, L2.atI, L2.ixN, intsD, boolsD, handL, subc, CEs.len, sz]
end
end Z

set_option Elab.async false
set_option linter.all false
set_option autoImplicit false
set_option maxRecDepth 100000
set_option maxHeartbeats 4000000
set_option pp.maxSteps 400
set_option pp.deepTerms false
/-! P7: the program's layers and edges. -/
namespace Z
/-! ### how many stands there are -/
theorem nodup_le {α : Type} [DecidableEq α] : ∀ {l U : List α}, l.Nodup → (∀ x ∈ l, x ∈ U) → l.length ≤ U.length
  | [], _, _, _ => Nat.zero_le _
  | x :: l, U, h, hs => by
    rw [List.nodup_cons] at h
    have hx : x ∈ U := hs x List.mem_cons_self
    have := nodup_le (U := U.erase x) h.2 fun y hy => (List.mem_erase_of_ne (fun e => h.1 (by rw [← e]; exact hy))).mpr (hs y (List.mem_cons_of_mem _ hy))
    rw [List.length_erase_of_mem hx] at this
    have := List.length_pos_of_mem hx
    rw [List.length_cons]; omega
structure StOk (c : Cr) (s : St) : Prop where
  a : 0 ≤ s.1.1 ∧ s.1.1 < c.l
  b : 0 ≤ s.1.2 ∧ s.1.2 < c.s
  k : 0 ≤ s.2.1 ∧ s.2.1 ≤ c.k
  n : 0 ≤ s.2.2 ∧ s.2.2 ≤ c.b
def allSt (c : Cr) : List St := (rngI 0 c.l.toNat).flatMap fun a => (rngI 0 c.s.toNat).flatMap fun b => (rngI 0 3).flatMap fun k => (rngI 0 2).map fun n => ((a, b), k, n)
theorem allSt_len (c : Cr) (hc : c.Ok) : (allSt c).length ≤ 1200 := by
  have h3 : ∀ a b : Int, ((rngI 0 3).flatMap fun k => (rngI 0 2).map fun n => (((a, b), k, n) : St)).length ≤ 6 := fun a b => by
    simp [rngI]
  have h2 : ∀ a : Int, ((rngI 0 c.s.toNat).flatMap fun b => (rngI 0 3).flatMap fun k => (rngI 0 2).map fun n => (((a, b), k, n) : St)).length ≤ c.s.toNat * 6 := fun a => by
    have := flatMap_le (l := rngI 0 c.s.toNat) (f := fun b => (rngI 0 3).flatMap fun k => (rngI 0 2).map fun n => (((a, b), k, n) : St)) (B := 6) fun b _ => h3 a b
    rwa [rng_len] at this
  have h1 := flatMap_le (l := rngI 0 c.l.toNat) (f := fun a => (rngI 0 c.s.toNat).flatMap fun b => (rngI 0 3).flatMap fun k => (rngI 0 2).map fun n => (((a, b), k, n) : St)) (B := c.s.toNat * 6) fun a _ => h2 a
  rw [rng_len] at h1
  have hl := hc.l2
  have hs := hc.s2
  have hm : c.l.toNat * c.s.toNat ≤ 200 := by
    have h := hc.ls
    have e1 : ((c.l.toNat * c.s.toNat : Nat) : Int) = c.l * c.s := by
      rw [Int.natCast_mul, Int.toNat_of_nonneg (by omega), Int.toNat_of_nonneg (by omega)]
    omega
  have : c.l.toNat * (c.s.toNat * 6) = c.l.toNat * c.s.toNat * 6 := (Nat.mul_assoc _ _ _).symm
  simp only [allSt]; omega
theorem mem_allSt {c : Cr} (hc : c.Ok) {s : St} (h : StOk c s) : s ∈ allSt c := by
  obtain ⟨⟨a, b⟩, k, n⟩ := s
  have h1 := h.a
  have h2 := h.b
  have h3 := h.k
  have h4 := h.n
  have hk := hc.k2
  have hb := hc.b1
  simp only at h1 h2 h3 h4
  simp only [allSt, List.mem_flatMap, List.mem_map]
  exact ⟨a, mem_rng.mpr (by omega), b, mem_rng.mpr (by omega), k, mem_rng.mpr (by omega), n, mem_rng.mpr (by omega), rfl⟩
structure Lok (c : Cr) (L : List St) : Prop where
  nd : L.Nodup
  ok : ∀ s ∈ L, StOk c s
theorem Lok.len {c : Cr} {L : List St} (hc : c.Ok) (h : Lok c L) : L.length ≤ 1200 :=
  Nat.le_trans (nodup_le h.nd fun s hs => mem_allSt hc (h.ok s hs)) (allSt_len c hc)
theorem Lok.nil (c : Cr) : Lok c [] := ⟨List.nodup_nil, fun _ h => nomatch h⟩
theorem Lok.ins {c : Cr} {L : List St} (h : Lok c L) {s : St} (hs : StOk c s) : Lok c (insK L s) :=
  ⟨nodup_insK h.nd, fun t ht => (mem_insK.mp ht).elim (h.ok t) fun e => e ▸ hs⟩
theorem Lok.fold {c : Cr} : ∀ {xs L : List St}, Lok c L → (∀ s ∈ xs, StOk c s) → Lok c (xs.foldl insK L)
  | [], _, h, _ => h
  | x :: xs, L, h, hx => Lok.fold (xs := xs) (h.ins (hx x List.mem_cons_self)) fun s hs => hx s (List.mem_cons_of_mem _ hs)
theorem Lok.keys {c : Cr} {xs : List St} (hx : ∀ s ∈ xs, StOk c s) : Lok c (keysOf xs) := Lok.fold (Lok.nil c) hx
theorem emod_bd {a l : Int} (hl : 0 < l) : 0 ≤ a % l ∧ a % l < l := ⟨Int.emod_nonneg _ (by omega), Int.emod_lt_of_pos _ hl⟩
theorem steps_ok {c : Cr} (hc : c.Ok) {p : Sh} : ∀ y ∈ steps c p, ShOk c.l c.s y.2 := by
  have hl : 0 < c.l := by have := hc.l2; omega
  have hs : 0 < c.s := by have := hc.s2; omega
  intro y hy
  simp only [steps, steps1, List.mem_flatMap, List.mem_map] at hy
  obtain ⟨d, hd, u, hu, v, hv, rfl⟩ := hy
  refine ⟨?_, ?_⟩
  · show 0 ≤ u.2 ∧ u.2 < c.l
    simp only [longs, List.mem_cons] at hu
    rcases hu with rfl | hu
    · exact emod_bd hl
    · split at hu
      · obtain ⟨i, hi, rfl⟩ := List.mem_map.mp hu
        have := mem_rng.mp hi
        simp only; omega
      · cases hu
  · show 0 ≤ v.2 ∧ v.2 < c.s
    simp only [shorts, List.mem_cons] at hv
    rcases hv with rfl | hv
    · exact emod_bd hs
    · obtain ⟨i, hi, rfl⟩ := List.mem_map.mp hv
      have := mem_rng.mp hi
      simp only; omega
theorem nexts_ok {c : Cr} (hc : c.Ok) {x : Nt} {s : St} (h : StOk c s) : ∀ p ∈ nexts c x s, StOk c p.2 := by
  intro p hp
  simp only [nexts, List.mem_map, List.mem_filter, Bool.and_eq_true, decide_eq_true_eq] at hp
  obtain ⟨y, ⟨hy, h1, h2⟩, rfl⟩ := hp
  have hk := h.k
  have hn := h.n
  have ho := steps_ok hc y hy
  have hsl := slip_bd x y.2
  have hq : 0 ≤ b2i y.1.q := by cases y.1.q <;> simp [b2i]
  exact ⟨ho.a, ho.b, ⟨by simp only; omega, h1⟩, ⟨by simp only; omega, h2⟩⟩
theorem firsts_ok {c : Cr} (hc : c.Ok) {x : Nt} : ∀ s ∈ firsts c x, StOk c s := by
  intro s hs
  have hl := hc.l2
  have hs' := hc.s2
  simp only [firsts, List.mem_map, List.mem_filter, List.mem_flatMap, decide_eq_true_eq] at hs
  obtain ⟨p, ⟨⟨a, ha, b, hb, rfl⟩, h⟩, rfl⟩ := hs
  have h1 := mem_rng.mp ha
  have h2 := mem_rng.mp hb
  have h3 := slip_bd x (a, b)
  have h4 := hc.b0
  exact ⟨by simp only; omega, by simp only; omega, ⟨h3.1, h⟩, by simp only; omega⟩
theorem next_ok {c : Cr} (hc : c.Ok) {x : Nt} {L : List St} (h : ∀ s ∈ L, StOk c s) : Lok c (nextL (nexts c) x L) := Lok.keys fun t ht => by
  obtain ⟨s, hs, ht⟩ := List.mem_flatMap.mp ht
  obtain ⟨p, hp, rfl⟩ := List.mem_map.mp ht
  exact nexts_ok hc (h s hs) p hp
/-! ### the last layer -/
section
variable {Λ : Type} {succ : Nt → St → List (Λ × St)}
def lastL (succ : Nt → St → List (Λ × St)) (L : List St) (xs : List Nt) : List St := xs.foldl (fun L x => nextL succ x L) L
theorem lays_snoc : ∀ (xs : List Nt) (L : List St) (x : Nt), lays succ L (xs ++ [x]) = lays succ L xs ++ [nextL succ x (lastL succ L xs)]
  | [], L, x => rfl
  | y :: ys, L, x => by
    have := lays_snoc ys (nextL succ y L) x
    simp only [List.cons_append, lays, this, lastL, List.foldl_cons]
theorem lays_last : ∀ (xs : List Nt) (L : List St), (lays succ L xs)[xs.length]? = some (lastL succ L xs)
  | [], L => rfl
  | y :: ys, L => by
    have := lays_last ys (nextL succ y L)
    simpa [lays, lastL] using this
theorem lastL_layAt : ∀ (xs : List Nt) (L : List St), layAt (succ := succ) L xs xs.length = lastL succ L xs
  | [], _ => rfl
  | y :: ys, L => by
    have := lastL_layAt ys (nextL succ y L)
    simpa [layAt, lastL] using this
theorem layAt_next : ∀ {xs : List Nt} {L : List St} {i : Nat} {x : Nt}, xs[i]? = some x → layAt (succ := succ) L xs (i + 1) = nextL succ x (layAt (succ := succ) L xs i)
  | [], _, _, _, h => by simp at h
  | y :: ys, L, 0, x, h => by simp at h; subst h; simp [layAt]
  | y :: ys, L, i + 1, x, h => by
    have := layAt_next (xs := ys) (L := nextL succ y L) (i := i) (x := x) (by simpa using h)
    simpa [layAt] using this
end
theorem layAt_ok {c : Cr} (hc : c.Ok) : ∀ {xs : List Nt} {L : List St} (i : Nat), Lok c L → Lok c (layAt (succ := nexts c) L xs i)
  | _, L, 0, h => by simpa [layAt] using h
  | [], L, i + 1, h => by simpa [layAt] using Lok.nil c
  | x :: xs, L, i + 1, h => by
    simpa [layAt] using layAt_ok hc (xs := xs) i (next_ok hc (x := x) h.ok)
theorem lastL_ok {c : Cr} (hc : c.Ok) {xs : List Nt} {L : List St} (h : Lok c L) : Lok c (lastL (nexts c) L xs) := by
  rw [← lastL_layAt]; exact layAt_ok hc _ h
abbrev kD (L : List St) : List (D × D) := L.map fun s => (stD s, .bl true)
abbrev layD (L : List St) : D := .dct (kD L)
theorem in_lay {L : List St} {t : St} {S : Sto} : inS (.sh (stD t)) (.sh (layD L)) S = some (decide (t ∈ L)) := by
  simp only [inS, dcv, vw, Option.bind_some, key_st, ↓reduceIte]
  rw [kget nk_st]
  exact congrArg some (decide_eq_decide.mpr Iff.rfl)
section
variable {T : List Fd} {I : Ids} {n : Nat} {S : Sto}
abbrev nxD (p : Stp × St) : D := .tup [spD p.1, stD p.2]
theorem layers_l0 {c : Cr} {cr : D} (hc : c.Ok) (a1 a2 a3 a5 : Option Rv) (ps : List (Stp × St)) (hp : ∀ p ∈ ps, StOk c p.2) (L : List St) (hL : Lok c L) :
    forL (.tup [6, 7]) (denSs (b_layers_l0 I) (Phi T n)) [6, 7] (ps.map nxD) [some (.sh cr), a1, a2, a3, some (.nd (kD L)), a5, none, none] S =
      .nx [some (.sh cr), a1, a2, a3, some (.nd (kD ((ps.map (·.2)).foldl insK L))), a5, none, none] S := by
  have h := forL_det (S := S) (enc := nxD) (g := .tup [6, 7]) (body := denSs (b_layers_l0 I) (Phi T n)) (ks := [6, 7]) (fun pre => [some (.sh cr), a1, a2, a3, some (.nd (kD ((pre.map (·.2)).foldl insK L))), a5, none, none]) ps [] ?_ rfl
  · simpa using h
  · intro pre p post hpp
    have hpp : ps = pre ++ p :: post := by simpa using hpp
    have hl : Lok c ((pre.map (·.2)).foldl insK L) := hL.fold fun s hs => by
      obtain ⟨q, hq, rfl⟩ := List.mem_map.mp hs
      exact hp q (by rw [hpp]; simp [hq])
    have hz : (((pre.map (·.2)).foldl insK L).length < PySem.sizeLine) = True := szL (by have := hl.len hc; omega)
    refine ⟨[some (.sh cr), a1, a2, a3, some (.nd (kD (insK ((pre.map (·.2)).foldl insK L) p.2))), a5, some (.sh (spD p.1)), some (.sh (stD p.2))], .inl ?_, by simp [killL]⟩
    generalize ((pre.map (·.2)).foldl insK L) = F at hz ⊢
    have hput := kput nk_st (.bl true) p.2 F
    have hk := key_st p.2
    simp only [stp, setG, setIs, b_layers_l0, denSs, denS, den, Res.fl, optR, getV, List.set_cons_zero, List.set_cons_succ, List.getElem?_cons_zero, List.getElem?_cons_succ, putS, vw, hk, List.length_map, hz, and_self, ↓reduceIte, Rv.shr, hput]
theorem layers_l1 (H : HF T I) {c : Cr} (hc : c.Ok) (x : Nt) (a1 a2 : Option Rv) : ∀ (ss pre : List St) (L : List St) (o5 : Option Rv), Lok c L → (∀ s ∈ ss, StOk c s) →
    ∃ o5', forL (.nm 5) (denSs (b_layers_l1 I) (Phi T (n + 2))) [6, 7] (ss.map stD) [some (.sh (crD c)), a1, a2, some (.sh (ntD x)), some (.nd (kD L)), o5, none, none] S =
      .nx [some (.sh (crD c)), a1, a2, some (.sh (ntD x)), some (.nd (kD ((ss.flatMap fun s => (nexts c x s).map (·.2)).foldl insK L))), o5', none, none] S
  | [], pre, L, o5, hL, hss => ⟨o5, rfl⟩
  | s :: ss, pre, L, o5, hL, hss => by
    have h0 := layers_l0 (T := T) (I := I) (n := n + 2) (S := S) (cr := crD c) hc a1 a2 (some (.sh (ntD x))) (some (.sh (stD s))) (nexts c x s) (nexts_ok hc (hss s List.mem_cons_self)) L hL
    have hL2 : Lok c (((nexts c x s).map (·.2)).foldl insK L) := hL.fold fun t ht => by
      obtain ⟨p, hp, rfl⟩ := List.mem_map.mp ht
      exact nexts_ok hc (hss s List.mem_cons_self) p hp
    obtain ⟨o5', h1⟩ := layers_l1 H hc x a1 a2 ss (pre ++ [s]) _ (some (.sh (stD s))) hL2 fun t ht => hss t (List.mem_cons_of_mem _ ht)
    refine ⟨o5', ?_⟩
    have e : ((s :: ss).flatMap fun s => (nexts c x s).map (·.2)).foldl insK L = (ss.flatMap fun s => (nexts c x s).map (·.2)).foldl insK (((nexts c x s).map (·.2)).foldl insK L) := by
      rw [List.flatMap_cons, List.foldl_append]
    rw [e, ← h1, List.map_cons]
    have pb := p_behind_st (n := n) (S := S) H c hc x s
    have hb : stp (.nm 5) (denSs (b_layers_l1 I) (Phi T (n + 2))) (stD s) [some (.sh (crD c)), a1, a2, some (.sh (ntD x)), some (.nd (kD L)), o5, none, none] S = .nx [some (.sh (crD c)), a1, a2, some (.sh (ntD x)), some (.nd (kD (((nexts c x s).map (·.2)).foldl insK L))), some (.sh (stD s)), none, none] S := by
      simp only [stp, setG, b_layers_l1, denSs, denS, den, dens, deni, Res.bind, Res.fl, optR, getV, getS, List.set_cons_zero, List.set_cons_succ, List.getElem?_cons_zero, List.getElem?_cons_succ, List.map_cons, List.map_nil, Rv.shr, pb, dcs, itv, h0]
    rw [stp_nx (.inl hb)]
    rfl
abbrev laysD (Ls : List (List St)) : List D := Ls.map layD
theorem p_layers (H : HF T I) (c : Cr) (hc : c.Ok) (x : Nt) (xs : List Nt) (hx : xs.length ≤ 100) : Phi T (n + 3) I.f_layers [crD c, .tup ((x :: xs).map ntD)] S = .ok (.nl (laysD (lays (nexts c) (keysOf (firsts c x)) xs))) S := by
  rw [phi_at H.layers]
  have hL0 : Lok c (keysOf (firsts c x)) := Lok.keys (firsts_ok hc)
  have hfl := firsts_len c hc x
  have key := forL_typ (S := S) (enc := ntD) (g := .nm 3) (body := denSs (b_layers_l2 I) (Phi T (n + 2))) (ks := [3, 4, 6, 7]) (fun pre ρ => ∃ o5, ρ = [some (.sh (crD c)), some (.sh (.tup ((x :: xs).map ntD))), some (.nl (laysD (lays (nexts c) (keysOf (firsts c x)) pre))), none, none, o5, none, none]) xs [] [some (.sh (crD c)), some (.sh (.tup ((x :: xs).map ntD))), some (.nl [layD (keysOf (firsts c x))]), none, none, none, none, none] ?_ ⟨none, rfl⟩
  · obtain ⟨ρ', h, o5, rfl⟩ := key
    have hcomp : compL (.nm 5) (fun _ S => .ok (.sh (.bl true)) S) (den (b_layers_e0 I) (Phi T (n + 2))) ((firsts c x).map stD) [some (.sh (crD c)), some (.sh (.tup ((x :: xs).map ntD))), none, none, none, none, none, none] S = .ok ((firsts c x).map fun s => .tup [stD s, .bl true]) S :=
      compL_all fun s hs => ⟨_, .sh (.tup [stD s, .bl true]), rfl, rfl, by simp [b_layers_e0, runF, denSs, denS, den, dens, deni, Res.bind, Res.fl, optR, optB, getV, getS, setIs, setG, killL, setPs, putS, forL, opS, addS, mulS, mulI, modI, fdivI, powI, int2, cmpS, cmpI, eqS, isNon, idxS, dcv, dcs, itv, lsv, sqv, vw, tru, biS, isiS, Ty.isI, Ty.isB, Ty.isS, Ty.isT, Ty.isL, mtS, mtK, slcP, partS, Rv.shr, L2.atI, L2.ixN, intsD, boolsD, handL, subc, CEs.len, sz], rfl⟩
    have hd := kdict nk_st key_st (.bl true) (firsts c x) []
    have z1 : ((firsts c x).length ≤ PySem.sizeLine) = True := szB (by omega)
    have pf : ∀ S, Phi T (n + 2) I.f_first_stands [crD c, ntD x] S = .ok (.nl ((firsts c x).map stD)) S := fun S => p_firsts H c hc x
    have hdict : biS .dict [.nl ((firsts c x).map fun s => .tup [stD s, .bl true])] S = some (.nd (kD (keysOf (firsts c x)))) := by
      simp only [biS, lsv, Option.bind_some]
      rw [show ([] : List (D × D)) = ([] : List St).map fun x => (stD x, .bl true) from rfl, hd]; rfl
    have hat : L2.atI (ntD x :: xs.map ntD) 0 = some (ntD x) := atI_of (i := 0) rfl
    have hcut : cutD (ntD x :: xs.map ntD) (some 1) none = xs.map ntD := by rw [cut_drop (by decide)]; rfl
    simp only [List.nil_append, List.map_cons] at h hcomp ⊢
    simp only [fd_layers, b_layers, runF, denSs, denS, den, dens, deni, Res.bind, Res.fl, optR, getV, getS, idxS, dcv, sqv, List.length_cons, List.length_nil, List.map_cons, List.map_nil, List.replicate, List.cons_append, List.nil_append, List.getElem?_cons_zero, List.getElem?_cons_succ, Rv.shr, Option.bind_some, hat, Option.map_some, pf, dcs, itv, killL, List.set_cons_zero, List.set_cons_succ, hcomp, List.length_map, z1, ↓reduceIte, hdict, Nat.reduceAdd, Nat.reduceSub, partS, slcP, hcut, h]
  · rintro pre y post hpp ρ ⟨o5, rfl⟩
    have hpp : xs = pre ++ y :: post := by simpa using hpp
    have hpl : pre.length ≤ 100 := by have := congrArg List.length hpp; simp at this; omega
    have hlast := lastL_ok hc (xs := pre) hL0
    obtain ⟨o5', h1⟩ := layers_l1 (n := n) (S := S) H hc y (some (.sh (.tup ((x :: xs).map ntD)))) (some (.nl (laysD (lays (nexts c) (keysOf (firsts c x)) pre)))) (lastL (nexts c) (keysOf (firsts c x)) pre) [] [] o5 (Lok.nil c) hlast.ok
    refine ⟨[some (.sh (crD c)), some (.sh (.tup ((x :: xs).map ntD))), some (.nl (laysD (lays (nexts c) (keysOf (firsts c x)) pre) ++ [layD (nextL (nexts c) y (lastL (nexts c) (keysOf (firsts c x)) pre))])), some (.sh (ntD y)), some (.sh (layD (nextL (nexts c) y (lastL (nexts c) (keysOf (firsts c x)) pre)))), o5', none, none], .inl ?_, o5', by simp [killL, lays_snoc]⟩
    have hlen : (laysD (lays (nexts c) (keysOf (firsts c x)) pre)).length = pre.length + 1 := by rw [List.length_map, lays_len]
    have hat : L2.atI (laysD (lays (nexts c) (keysOf (firsts c x)) pre)) (((pre.length + 1 : Nat) : Int) - 1) = some (layD (lastL (nexts c) (keysOf (firsts c x)) pre)) := by
      rw [show (((pre.length + 1 : Nat) : Int) - 1) = (pre.length : Int) by omega]
      exact atI_of (by rw [List.getElem?_map, lays_last]; rfl)
    have z2 : (pre.length + 1 < PySem.sizeLine) = True := szL (by omega)
    have hk : (kD (lastL (nexts c) (keysOf (firsts c x)) pre)).map (·.1) = (lastL (nexts c) (keysOf (firsts c x)) pre).map stD := by rw [List.map_map]; rfl
    have e1 : ((lastL (nexts c) (keysOf (firsts c x)) pre).flatMap fun s => (nexts c y s).map (·.2)).foldl insK [] = nextL (nexts c) y (lastL (nexts c) (keysOf (firsts c x)) pre) := rfl
    rw [e1] at h1
    simp only [List.map_nil] at h1
    generalize laysD (lays (nexts c) (keysOf (firsts c x)) pre) = F at hlen hat h1 ⊢
    simp only [stp, setG, b_layers_l2, denSs, denS, den, dens, deni, Res.bind, Res.fl, optR, getV, getS, List.set_cons_zero, List.set_cons_succ, List.getElem?_cons_zero, List.getElem?_cons_succ, biS, dcv, sqv, lsv, Option.map_some, hlen, opS, int2, idxS, Option.bind_some, hat, dcs, hk, h1, Rv.shr, z2, ↓reduceIte]
/-! ### edges -/
structure HE (T : List Fd) (I : Ids) : Prop extends HF T I where
  edges : T[I.f_edges]? = some (fd_edges I)
theorem edges_l0 {c : Cr} (hc : c.Ok) (cr : D) (a1 a2 a3 a5 a10 : Option Rv) (A : List St) (s : St) (F : List D) (ps : List (Stp × St)) (hps : ps.length ≤ 2548) (hF : F.length ≤ 3500000) :
    forL (.tup [8, 9]) (denSs (b_edges_l0 I) (Phi T n)) [8, 9] (ps.map nxD) [some (.sh cr), a1, a2, a3, some (.sh (layD A)), a5, some (.nl F), some (.sh (stD s)), none, none, a10] S =
      .nx [some (.sh cr), a1, a2, a3, some (.sh (layD A)), a5, some (.nl (F ++ (((ps.filter fun p => decide (p.2 ∈ A)).map fun p => ((s, p.1, p.2) : Ed)).map edD))), some (.sh (stD s)), none, none, a10] S := by
  have h := forL_det (S := S) (enc := nxD) (g := .tup [8, 9]) (body := denSs (b_edges_l0 I) (Phi T n)) (ks := [8, 9]) (fun pre => [some (.sh cr), a1, a2, a3, some (.sh (layD A)), a5, some (.nl (F ++ (((pre.filter fun p => decide (p.2 ∈ A)).map fun p => ((s, p.1, p.2) : Ed)).map edD))), some (.sh (stD s)), none, none, a10]) ps [] ?_ rfl
  · simpa using h
  · intro pre p post hpp
    have hpl : pre.length ≤ 2548 := by have := congrArg List.length hpp; simp at this; omega
    have hfl := List.length_filter_le (fun p : Stp × St => decide (p.2 ∈ A)) pre
    have z1 : ((F ++ (((pre.filter fun p => decide (p.2 ∈ A)).map fun p => ((s, p.1, p.2) : Ed)).map edD)).length < PySem.sizeLine) = True := szL (by simp only [List.length_append, List.length_map]; omega)
    have hin := in_lay (L := A) (t := p.2) (S := S)
    by_cases hp : p.2 ∈ A
    · refine ⟨[some (.sh cr), a1, a2, a3, some (.sh (layD A)), a5, some (.nl ((F ++ (((pre.filter fun p => decide (p.2 ∈ A)).map fun p => ((s, p.1, p.2) : Ed)).map edD)) ++ [edD (s, p.1, p.2)])), some (.sh (stD s)), some (.sh (spD p.1)), some (.sh (stD p.2)), a10], .inl ?_, by simp [killL, List.filter_append, hp]⟩
      rw [decide_eq_true hp] at hin
      generalize (F ++ (((pre.filter fun p => decide (p.2 ∈ A)).map fun p => ((s, p.1, p.2) : Ed)).map edD)) = G at z1 ⊢
      simp only [stp, setG, setIs, b_edges_l0, denSs, denS, den, dens, Res.bind, Res.fl, optR, optB, getV, getS, cmpS, List.set_cons_zero, List.set_cons_succ, List.getElem?_cons_zero, List.getElem?_cons_succ, hin, tru, z1, ↓reduceIte, List.map_cons, List.map_nil, Rv.shr]
    · refine ⟨[some (.sh cr), a1, a2, a3, some (.sh (layD A)), a5, some (.nl (F ++ (((pre.filter fun p => decide (p.2 ∈ A)).map fun p => ((s, p.1, p.2) : Ed)).map edD))), some (.sh (stD s)), some (.sh (spD p.1)), some (.sh (stD p.2)), a10], .inl ?_, by simp [killL, List.filter_append, hp]⟩
      rw [decide_eq_false hp] at hin
      generalize (F ++ (((pre.filter fun p => decide (p.2 ∈ A)).map fun p => ((s, p.1, p.2) : Ed)).map edD)) = G at z1 ⊢
      simp only [stp, setG, setIs, b_edges_l0, denSs, denS, den, dens, Res.bind, Res.fl, optR, optB, getV, getS, cmpS, List.set_cons_zero, List.set_cons_succ, List.getElem?_cons_zero, List.getElem?_cons_succ, hin, tru]
theorem rowOf_len {c : Cr} (hc : c.Ok) (x : Nt) (A : List St) : ∀ (L : List St), (rowOf (nexts c) x L A).length ≤ L.length * 2548 := fun L =>
  flatMap_le fun s _ => by
    rw [List.length_map]
    exact Nat.le_trans (List.length_filter_le _ _) (nexts_len c hc x s)
theorem edges_l1 (H : HE T I) {c : Cr} (hc : c.Ok) (ys : List Nt) (x : Nt) (i : Nat) (hx : ys[i + 1]? = some x) (a2 a3 a10 : Option Rv) (A L : List St) (hL : L.length ≤ 1200) :
    forL (.nm 7) (denSs (b_edges_l1 I) (Phi T (n + 2))) [7, 8, 9] (L.map stD) [some (.sh (crD c)), some (.sh (.tup (ys.map ntD))), a2, a3, some (.sh (layD A)), some (.sh (.int i)), some (.nl []), none, none, none, a10] S =
      .nx [some (.sh (crD c)), some (.sh (.tup (ys.map ntD))), a2, a3, some (.sh (layD A)), some (.sh (.int i)), some (.nl ((rowOf (nexts c) x L A).map edD)), none, none, none, a10] S := by
  have h := forL_det (S := S) (enc := stD) (g := .nm 7) (body := denSs (b_edges_l1 I) (Phi T (n + 2))) (ks := [7, 8, 9]) (fun pre => [some (.sh (crD c)), some (.sh (.tup (ys.map ntD))), a2, a3, some (.sh (layD A)), some (.sh (.int i)), some (.nl ((rowOf (nexts c) x pre A).map edD)), none, none, none, a10]) L [] ?_ rfl
  · have e0 : rowOf (nexts c) x [] A = [] := rfl
    simpa [e0] using h
  · intro pre s post hpp
    have hpl : pre.length ≤ 1200 := by have := congrArg List.length hpp; simp at this; omega
    have hr := rowOf_len hc x A pre
    have hr2 : pre.length * 2548 ≤ 1200 * 2548 := Nat.mul_le_mul_right _ hpl
    have h0 := edges_l0 (T := T) (I := I) (n := n + 2) (S := S) hc (crD c) (some (.sh (.tup (ys.map ntD)))) a2 a3 (some (.sh (.int i))) a10 A s ((rowOf (nexts c) x pre A).map edD) (nexts c x s) (nexts_len c hc x s) (by rw [List.length_map]; omega)
    have pb := p_behind_st (n := n) (S := S) H.toHF c hc x s
    have hat : L2.atI (ys.map ntD) (((i : Nat) : Int) + 1) = some (ntD x) := atI_of (i := i + 1) (by rw [List.getElem?_map, hx]; rfl)
    refine ⟨[some (.sh (crD c)), some (.sh (.tup (ys.map ntD))), a2, a3, some (.sh (layD A)), some (.sh (.int i)), some (.nl ((rowOf (nexts c) x pre A).map edD ++ (((nexts c x s).filter fun p => decide (p.2 ∈ A)).map fun p => ((s, p.1, p.2) : Ed)).map edD)), some (.sh (stD s)), none, none, a10], .inl ?_, by simp [killL, rowOf]⟩
    generalize (rowOf (nexts c) x pre A).map edD = F at h0 ⊢
    simp only [stp, setG, b_edges_l1, denSs, denS, den, dens, deni, Res.bind, Res.fl, optR, getV, getS, List.set_cons_zero, List.set_cons_succ, List.getElem?_cons_zero, List.getElem?_cons_succ, opS, addS, idxS, dcv, sqv, Option.bind_some, hat, Option.map_some, List.map_cons, List.map_nil, Rv.shr, pb, dcs, itv, h0]
abbrev rowD (r : List Ed) : D := .lst (r.map edD)
theorem rangeM_succ (i : Nat) : rangeM ((i : Int)) (i + 1) = .int i :: rangeM ((i : Int) - 1) i := rfl
theorem rowsA_at {c : Cr} {xs : List Nt} {L : List St} {i : Nat} {x : Nt} (h : xs[i]? = some x) : rowsA (nexts c) (layAt (succ := nexts c) L xs i) (xs.drop i) =
    (rowOf (nexts c) x (layAt (succ := nexts c) L xs i) (rowsA (nexts c) (layAt (succ := nexts c) L xs (i + 1)) (xs.drop (i + 1))).2 :: (rowsA (nexts c) (layAt (succ := nexts c) L xs (i + 1)) (xs.drop (i + 1))).1, keysOf ((rowOf (nexts c) x (layAt (succ := nexts c) L xs i) (rowsA (nexts c) (layAt (succ := nexts c) L xs (i + 1)) (xs.drop (i + 1))).2).map (·.1))) := by
  have e : xs.drop i = x :: xs.drop (i + 1) := by
    obtain ⟨hi, hx⟩ := List.getElem?_eq_some_iff.mp h
    rw [← hx]; exact List.drop_eq_getElem_cons hi
  rw [e, rowsA, layAt_next h]
theorem edges_l2 (H : HE T I) {c : Cr} (hc : c.Ok) (x0 : Nt) (xs : List Nt) (hxs : xs.length ≤ 100) (L : List St) (hL : Lok c L) : ∀ (i : Nat), i ≤ xs.length →
    forL (.nm 5) (denSs (b_edges_l2 I) (Phi T (n + 2))) [5, 6, 7, 8, 9, 10] (rangeM ((i : Int) - 1) i) [some (.sh (crD c)), some (.sh (.tup ((x0 :: xs).map ntD))), some (.sh (.lst ((rowsA (nexts c) (layAt (succ := nexts c) L xs i) (xs.drop i)).1.map rowD))), some (.sh (.lst (laysD (lays (nexts c) L xs)))), some (.sh (layD (rowsA (nexts c) (layAt (succ := nexts c) L xs i) (xs.drop i)).2)), none, none, none, none, none, none] S =
      .nx [some (.sh (crD c)), some (.sh (.tup ((x0 :: xs).map ntD))), some (.sh (.lst ((rowsA (nexts c) L xs).1.map rowD))), some (.sh (.lst (laysD (lays (nexts c) L xs)))), some (.sh (layD (rowsA (nexts c) L xs).2)), none, none, none, none, none, none] S
  | 0, _ => by simp [rangeM, forL, killL, layAt]
  | i + 1, hi => by
    have ih := edges_l2 H hc x0 xs hxs L hL i (by omega)
    obtain ⟨x, hx⟩ : ∃ x, xs[i]? = some x := ⟨_, List.getElem?_eq_getElem (by omega)⟩
    rw [rowsA_at hx] at ih
    have e1 : ((i + 1 : Nat) : Int) - 1 = i := by omega
    rw [e1, rangeM_succ, ← ih]
    have hlay := layAt_ok hc (xs := xs) i hL
    have hll := hlay.len hc
    have h1 := edges_l1 (n := n) (S := S) H hc (x0 :: xs) x i (by simpa using hx) (some (.sh (.lst ((rowsA (nexts c) (layAt (succ := nexts c) L xs (i + 1)) (xs.drop (i + 1))).1.map rowD)))) (some (.sh (.lst (laysD (lays (nexts c) L xs))))) none (rowsA (nexts c) (layAt (succ := nexts c) L xs (i + 1)) (xs.drop (i + 1))).2 (layAt (succ := nexts c) L xs i) hll
    have hat : L2.atI (laysD (lays (nexts c) L xs)) (i : Int) = some (layD (layAt (succ := nexts c) L xs i)) := atI_of (by rw [List.getElem?_map, lays_get (by omega)]; rfl)
    have hrl : (rowsA (nexts c) (layAt (succ := nexts c) L xs (i + 1)) (xs.drop (i + 1))).1.length ≤ 100 := by rw [rowsA_len, List.length_drop]; omega
    generalize (rowsA (nexts c) (layAt (succ := nexts c) L xs (i + 1)) (xs.drop (i + 1))).1 = R at h1 hrl ⊢
    generalize (rowsA (nexts c) (layAt (succ := nexts c) L xs (i + 1)) (xs.drop (i + 1))).2 = A at h1 ⊢
    have hrow := rowOf_len hc x A (layAt (succ := nexts c) L xs i)
    have hr2 : (layAt (succ := nexts c) L xs i).length * 2548 ≤ 1200 * 2548 := Nat.mul_le_mul_right _ hll
    have hk : (kD (layAt (succ := nexts c) L xs i)).map (·.1) = (layAt (succ := nexts c) L xs i).map stD := by rw [List.map_map]; rfl
    generalize hrw : rowOf (nexts c) x (layAt (succ := nexts c) L xs i) A = row at h1 hrow ⊢
    have hcomp : ∀ a0 a1 a2 a3 a4 a5 a6 a7 a8 a9, compL (.nm 10) (fun _ S => .ok (.sh (.bl true)) S) (den (b_edges_e0 I) (Phi T (n + 2))) (row.map edD) [a0, a1, a2, a3, a4, a5, a6, a7, a8, a9, none] S = .ok ((row.map (·.1)).map fun s => .tup [stD s, .bl true]) S := by
      intro a0 a1 a2 a3 a4 a5 a6 a7 a8 a9
      rw [List.map_map]
      exact compL_all fun e he => ⟨_, .sh (.tup [stD e.1, .bl true]), rfl, rfl, by simp [b_edges_e0, runF, denSs, denS, den, dens, deni, Res.bind, Res.fl, optR, optB, getV, getS, setIs, setG, killL, setPs, putS, forL, opS, addS, mulS, mulI, modI, fdivI, powI, int2, cmpS, cmpI, eqS, isNon, idxS, dcv, dcs, itv, lsv, sqv, vw, tru, biS, isiS, Ty.isI, Ty.isB, Ty.isS, Ty.isT, Ty.isL, mtS, mtK, slcP, partS, Rv.shr, L2.atI, L2.ixN, intsD, boolsD, handL, subc, CEs.len, sz], rfl⟩
    have hdict : biS .dict [.nl ((row.map (·.1)).map fun s => .tup [stD s, .bl true])] S = some (.nd (kD (keysOf (row.map (·.1))))) := by
      simp only [biS, lsv, Option.bind_some]
      rw [show ([] : List (D × D)) = ([] : List St).map fun x => (stD x, .bl true) from rfl, kdict nk_st key_st]; rfl
    have z1 : (row.length ≤ PySem.sizeLine) = True := szB (by omega)
    have z2 : (1 + R.length ≤ PySem.sizeLine) = True := szB (by omega)
    simp only [List.map_cons] at h1
    have hb : stp (.nm 5) (denSs (b_edges_l2 I) (Phi T (n + 2))) (.int i) [some (.sh (crD c)), some (.sh (.tup ((x0 :: xs).map ntD))), some (.sh (.lst (R.map rowD))), some (.sh (.lst (laysD (lays (nexts c) L xs)))), some (.sh (layD A)), none, none, none, none, none, none] S = .nx [some (.sh (crD c)), some (.sh (.tup ((x0 :: xs).map ntD))), some (.sh (.lst (rowD row :: R.map rowD))), some (.sh (.lst (laysD (lays (nexts c) L xs)))), some (.sh (layD (keysOf (row.map (·.1))))), some (.sh (.int i)), some (.sh (rowD row)), none, none, none, none] S := by
      simp only [stp, setG, b_edges_l2, denSs, denS, den, dens, deni, Res.bind, Res.fl, optR, getV, getS, List.set_cons_zero, List.set_cons_succ, List.getElem?_cons_zero, List.getElem?_cons_succ, idxS, dcv, sqv, lsv, Option.bind_some, hat, Option.map_some, dcs, hk, h1, itv, killL, hcomp, List.length_map, z1, ↓reduceIte, hdict, Rv.shr, List.map_cons, List.map_nil, opS, addS, List.length_cons, List.length_nil, Nat.zero_add, z2, List.cons_append, List.nil_append]
    rw [stp_nx (.inl hb)]
    rfl
theorem p_edges (H : HE T I) (c : Cr) (hc : c.Ok) (x : Nt) (xs : List Nt) (hx : xs.length ≤ 100) : Phi T (n + 4) I.f_edges [crD c, .tup ((x :: xs).map ntD)] S = .ok (.sh (.lst ((rowsA (nexts c) (keysOf (firsts c x)) xs).1.map rowD))) S := by
  rw [phi_at H.edges]
  have hL0 : Lok c (keysOf (firsts c x)) := Lok.keys (firsts_ok hc)
  have hl := p_layers (n := n) (S := S) H.toHF c hc x xs hx
  have h2 := edges_l2 (n := n + 1) (S := S) H hc x xs hx (keysOf (firsts c x)) hL0 xs.length (Nat.le_refl _)
  rw [List.drop_length, lastL_layAt] at h2
  simp only [rowsA, List.map_nil] at h2
  have hlen : (laysD (lays (nexts c) (keysOf (firsts c x)) xs)).length = xs.length + 1 := by rw [List.length_map, lays_len]
  have hat : L2.atI (laysD (lays (nexts c) (keysOf (firsts c x)) xs)) (((xs.length + 1 : Nat) : Int) - 1) = some (layD (lastL (nexts c) (keysOf (firsts c x)) xs)) := by
    rw [show (((xs.length + 1 : Nat) : Int) - 1) = (xs.length : Int) by omega]
    exact atI_of (by rw [List.getElem?_map, lays_last]; rfl)
  have in1 : inR ((xs.length : Int) - 1) := inR_of (by omega) (by omega)
  have in2 : inR (-1) := inR_of (by omega) (by omega)
  have e1 : ((xs.length : Int) - 1 - -1).toNat = xs.length := by omega
  have e2 : (((xs.length + 1 : Nat) : Int) - 2) = (xs.length : Int) - 1 := by omega
  have e3 : ((x :: xs).map ntD).length = xs.length + 1 := by simp
  simp only [fd_edges, b_edges, runF, denSs, denS, den, dens, deni, Res.bind, Res.fl, optR, getV, getS, idxS, dcv, sqv, lsv, List.length_cons, List.length_nil, List.map_cons, List.map_nil, List.replicate, List.cons_append, List.nil_append, List.getElem?_cons_zero, List.getElem?_cons_succ, Rv.shr, ↓reduceIte, Nat.reduceAdd, Nat.reduceSub, List.set_cons_zero, List.set_cons_succ] at e3 h2 hl ⊢
  simp only [hl, biS, dcv, sqv, lsv, Option.map_some, hlen, opS, int2, Option.bind_some, hat, List.length_cons, List.length_map, Option.map_some, in1, in2, and_self, ↓reduceIte, e1, e2, List.set_cons_zero, List.set_cons_succ, List.getElem?_cons_zero, List.getElem?_cons_succ, Rv.shr, h2]
/-! ### whether they fit -/
theorem p_do_fit (H : HF T I) (h0 : T[I.f_do_fit]? = some (fd_do_fit I)) (c : Cr) (hc : c.Ok) (x : Nt) (xs : List Nt) (hx : xs.length ≤ 100) : Phi T (n + 4) I.f_do_fit [crD c, .tup ((x :: xs).map ntD)] S = .ok (.sh (.bl (decide (0 < (lastL (nexts c) (keysOf (firsts c x)) xs).length)))) S := by
  rw [phi_at h0]
  have hl := p_layers (n := n) (S := S) H c hc x xs hx
  have hlen : (laysD (lays (nexts c) (keysOf (firsts c x)) xs)).length = xs.length + 1 := by rw [List.length_map, lays_len]
  have hat : L2.atI (laysD (lays (nexts c) (keysOf (firsts c x)) xs)) (((xs.length + 1 : Nat) : Int) - 1) = some (layD (lastL (nexts c) (keysOf (firsts c x)) xs)) := by
    rw [show (((xs.length + 1 : Nat) : Int) - 1) = (xs.length : Int) by omega]
    exact atI_of (by rw [List.getElem?_map, lays_last]; rfl)
  simp only [fd_do_fit, b_do_fit, runF, denSs, denS, den, dens, Res.bind, Res.fl, optR, optB, getV, getS, idxS, dcv, sqv, lsv, List.length_cons, List.length_nil, List.map_cons, List.map_nil, List.replicate, List.cons_append, List.nil_append, List.getElem?_cons_zero, List.getElem?_cons_succ, Rv.shr, ↓reduceIte, Nat.reduceAdd, Nat.reduceSub, List.set_cons_zero, List.set_cons_succ] at hl ⊢
  simp only [hl, biS, dcv, sqv, lsv, Option.map_some, hlen, opS, int2, Option.bind_some, hat, List.length_map, Rv.shr, List.set_cons_zero, List.set_cons_succ, List.getElem?_cons_zero, List.getElem?_cons_succ, c_gt]
  have e : decide ((0 : Int) < ((lastL (nexts c) (keysOf (firsts c x)) xs).length : Int)) = decide (0 < (lastL (nexts c) (keysOf (firsts c x)) xs).length) := decide_eq_decide.mpr (by omega)
  rw [e]
end
end Z

set_option Elab.async false
set_option linter.all false
set_option maxRecDepth 100000
set_option maxHeartbeats 0
namespace K34
open PySem Z
open L2 (FnScope Fun defScope defBody defArgs fun_mk RelV Vals SqT V)
def I : Ids := { f_is_whole := 0, f_is_wide := 1, f_is_word := 2, f_are_rolls := 3, f__law_source := 6, f__law_pick := 7, c_MOST_BOTH := 0, c_MOST_SHORT := 1, c_MOST_LONG := 2, c_SETS := 3, c_READ := 4, x_MileError := 0, x_InvalidCar := 1, x_InvalidWay := 2, xn := 3 }
def b_greatest_common_w0 : CE :=
.cmp .ne (.varB 1) (.con (.int 0))
def b_greatest_common_l0 : CSs :=
(.cons (.par [(0, false), (1, false)] (.cons (.var 1) (.cons (.op .mod (.varB 0) (.varB 1)) (.nil)))) (.nil))
def b_greatest_common : CSs :=
(.cons (.while_ 2000 b_greatest_common_w0 b_greatest_common_l0 []) (.cons (.ret (.var 0)) (.nil)))
def b_clear_up_to : CSs :=
(.cons (.ite (.not (.call (I.f_are_rolls) (.cons (.var 0) (.cons (.var 1) (.nil)))))
(.cons (.raise 1) (.nil))
(.nil)) (.cons (.ite (.or (.not (.call (I.f_is_wide) (.cons (.var 2) (.cons (.con (.int 2)) (.cons (.con (.int 2)) (.nil)))))) (.or (.not (.call (I.f_is_word) (.cons (.idx (.varB 2) (.con (.int 0))) (.cons (.glob 4 (.tup [.str "both", .str "long", .str "short"])) (.nil))))) (.not (.call (I.f_is_word) (.cons (.idx (.varB 2) (.con (.int 1))) (.cons (.glob 3 (.tup [.str "free", .str "kept", .str "nought"])) (.nil)))))))
(.cons (.raise 2) (.nil))
(.nil)) (.cons (.set 3 (.cmp .ne (.idx (.varB 2) (.con (.int 1))) (.con (.str "free")))) (.cons (.ite (.cmp .eq (.idx (.varB 2) (.con (.int 0))) (.con (.str "short")))
(.cons (.ret (.ife (.varB 3) (.op .sub (.varB 1) (.con (.int 1))) (.con (.int 0)))) (.nil))
(.nil)) (.cons (.ite (.or (.cmp .eq (.idx (.varB 2) (.con (.int 0))) (.con (.str "long"))) (.not (.varB 3)))
(.cons (.ret (.op .sub (.varB 0) (.con (.int 1)))) (.nil))
(.nil)) (.cons (.ret (.op .sub (.op .fdiv (.op .mul (.varB 0) (.varB 1)) (.call 4 (.cons (.var 0) (.cons (.var 1) (.nil))))) (.con (.int 1)))) (.nil)))))))
def b__law_ends_e0 : CE :=
.op .mod (.varB 9) (.varB 1)
def b__law_ends_l0 : CSs :=
(.cons (.set 8 (.tup (.cons (.op .mod (.op .add (.idx (.varB 3) (.con (.int 0))) (.varB 4)) (.varB 0)) (.cons (.var 7) (.nil))))) (.cons (.put 6 (.dsel ["long", "short", "both"] (.cons (.slc (.varB 8) (.con .non) (.con (.int 1))) (.cons (.slc (.varB 8) (.con (.int 1)) (.con .non)) (.cons (.var 8) (.nil)))) (.idx (.varB 2) (.con (.int 0)))) (.con (.bl true))) (.nil)))
def b__law_ends : CSs :=
(.cons (.set 5 (.lst (.cons (.op .mod (.op .add (.idx (.varB 3) (.con (.int 1))) (.varB 4)) (.varB 1)) (.nil)))) (.cons (.ite (.cmp .eq (.idx (.varB 2) (.con (.int 1))) (.con (.str "nought")))
(.cons (.set 5 (.lst (.cons (.op .mod (.varB 4) (.varB 1)) (.nil)))) (.nil))
(.nil)) (.cons (.ite (.cmp .eq (.idx (.varB 2) (.con (.int 1))) (.con (.str "free")))
(.cons (.set 5 (.op .add (.varB 5) (.comp (.range1 (.op .add (.varB 4) (.con (.int 1)))) (.nm 9) [9] (.con (.bl true)) b__law_ends_e0))) (.nil))
(.nil)) (.cons (.setO 6 (.dct0)) (.cons (.for_ (.val (.var 5)) (.nm 7) b__law_ends_l0 [7, 8]) (.cons (.ret (.bi .list (.cons (.varB 6) (.nil)))) (.nil)))))))
def b__law_due_t0 : CE :=
.cmp .inn (.varB 6) (.varB 3)
def b__law_due_e0 : CE :=
.var 6
def b__law_due_l0 : CSs :=
(.cons (.put 3 (.varB 6) (.con (.bl true))) (.nil))
def b__law_due_w0 : CE :=
.cmp .le (.varB 4) (.con (.int 1000))
def b__law_due_l1 : CSs :=
(.cons (.set 5 (.call 8 (.cons (.var 0) (.cons (.var 1) (.cons (.var 2) (.cons (.tup (.cons (.op .sub (.varB 0) (.con (.int 1))) (.cons (.con (.int 1)) (.nil)))) (.cons (.var 4) (.nil)))))))) (.cons (.ite (.cmp .ne (.comp (.val (.varB 5)) (.nm 6) [6] (b__law_due_t0) b__law_due_e0) (.lst (.nil)))
(.cons (.ret (.op .sub (.varB 4) (.con (.int 1)))) (.nil))
(.nil)) (.cons (.for_ (.val (.var 5)) (.nm 6) b__law_due_l0 []) (.cons (.set 4 (.op .add (.varB 4) (.con (.int 1)))) (.nil)))))
def b__law_due : CSs :=
(.cons (.par [(3, true), (4, false)] (.cons (.dct0) (.cons (.con (.int 0)) (.nil)))) (.cons (.while_ 2000 b__law_due_w0 b__law_due_l1 [5, 6]) (.cons (.ret (.con (.int 1000))) (.nil))))
def b__law_outcome : CSs :=
(.cons (.try_
(.cons (.ret (.call 5 (.cons (.var 0) (.cons (.var 1) (.cons (.var 2) (.nil)))))) (.nil)) 3 [(1, .ret (.str "car!")), (2, .ret (.str "way!"))]) (.nil))
def b_law_l0 : CSs :=
(.cons (.ite (.cmp .ne (.call 10 (.cons (.var 3) (.cons (.var 4) (.cons (.tup (.cons (.var 5) (.cons (.var 7) (.nil)))) (.nil))))) (.call 9 (.cons (.var 3) (.cons (.var 4) (.cons (.tup (.cons (.var 5) (.cons (.var 7) (.nil)))) (.nil))))))
(.cons (.ret (.con (.bl false))) (.nil))
(.nil)) (.nil))
def b_law_l1 : CSs :=
(.cons (.for_ (.val (.tup (.cons (.con (.str "kept")) (.cons (.con (.str "nought")) (.cons (.con (.str "free")) (.nil)))))) (.nm 7) b_law_l0 []) (.nil))
def b_law_l2 : CSs :=
(.cons (.ite (.or (.cmp .ne (.call 10 (.cons (.var 6) (.cons (.con (.int 2)) (.cons (.con (.non)) (.nil))))) (.con (.str "car!"))) (.cmp .ne (.call 10 (.cons (.con (.int 2)) (.cons (.var 6) (.cons (.con (.non)) (.nil))))) (.con (.str "car!"))))
(.cons (.ret (.con (.bl false))) (.nil))
(.nil)) (.nil))
def b_law_l3 : CSs :=
(.cons (.ite (.cmp .ne (.call 10 (.cons (.var 3) (.cons (.var 4) (.cons (.var 6) (.nil))))) (.con (.str "way!")))
(.cons (.ret (.con (.bl false))) (.nil))
(.nil)) (.nil))
def b_law_l4 : CSs :=
(.cons (.setO 2 (.call (I.f__law_source) (.cons (.var 0) (.cons (.var 1) (.nil))))) (.sto 2 (.cons (.set 3 (.op .add (.con (.int 2)) (.call (I.f__law_pick) (.cons (.var 2) (.cons (.con (.int 39)) (.nil)))))) (.cons (.set 4 (.op .add (.con (.int 2)) (.call (I.f__law_pick) (.cons (.var 2) (.cons (.bi .min (.cons (.con (.int 19)) (.cons (.op .sub (.op .fdiv (.con (.int 200)) (.varB 3)) (.con (.int 1))) (.nil)))) (.nil)))))) (.cons (.for_ (.val (.tup (.cons (.con (.str "long")) (.cons (.con (.str "short")) (.cons (.con (.str "both")) (.nil)))))) (.nm 5) b_law_l1 [5]) (.cons (.for_ (.val (.lst (.cons (.con (.non)) (.cons (.con (.int 1)) (.cons (.con (.int 41)) (.cons (.con (.bl true)) (.cons (.con (.str "5")) (.cons (.tup (.cons (.con (.int 2)) (.nil))) (.nil))))))))) (.nm 6) b_law_l2 []) (.cons (.ite (.or (.cmp .ne (.call 10 (.cons (.con (.int 15)) (.cons (.con (.int 14)) (.cons (.tup (.cons (.con (.str "long")) (.cons (.con (.str "kept")) (.nil)))) (.nil))))) (.con (.str "car!"))) (.cmp .ne (.call 10 (.cons (.con (.int 2)) (.cons (.con (.int 21)) (.cons (.con (.non)) (.nil))))) (.con (.str "car!"))))
(.cons (.ret (.con (.bl false))) (.nil))
(.nil)) (.cons (.for_ (.val (.lst (.cons (.con (.non)) (.cons (.tup (.cons (.con (.str "long")) (.nil))) (.cons (.lst (.cons (.con (.str "long")) (.cons (.con (.str "kept")) (.nil)))) (.cons (.tup (.cons (.con (.str "kept")) (.cons (.con (.str "long")) (.nil)))) (.cons (.tup (.cons (.con (.str "both")) (.cons (.con (.str "Free")) (.nil)))) (.cons (.tup (.cons (.con (.str "both")) (.cons (.con (.non)) (.nil)))) (.cons (.con (.str "long")) (.nil)))))))))) (.nm 6) b_law_l3 []) (.nil)))))))))
def b_law_e0 : CE :=
.call 5 (.cons (.con (.int 20)) (.cons (.con (.int 9)) (.cons (.tup (.cons (.con (.str "both")) (.cons (.var 7) (.nil)))) (.nil))))
def b_law : CSs :=
(.cons (.for_ (.range1 (.bi .max (.cons (.con (.int 6)) (.cons (.bi .min (.cons (.con (.int 24)) (.cons (.bi .len (.cons (.varB 0) (.nil))) (.nil)))) (.nil))))) (.nm 1) b_law_l4 [1, 2, 3, 4, 5, 6]) (.cons (.ret (.cmp .eq (.comp (.val (.tup (.cons (.con (.str "kept")) (.cons (.con (.str "nought")) (.cons (.con (.str "free")) (.nil)))))) (.nm 7) [7] (.con (.bl true)) b_law_e0) (.lst (.cons (.con (.int 179)) (.cons (.con (.int 179)) (.cons (.con (.int 19)) (.nil))))))) (.nil)))
def T : List Fd := [fd_is_whole I, fd_is_wide I, fd_is_word I, fd_are_rolls I, ⟨2, 2, b_greatest_common⟩, ⟨3, 4, b_clear_up_to⟩, fd__law_source I, fd__law_pick I, ⟨5, 10, b__law_ends⟩, ⟨3, 7, b__law_due⟩, ⟨3, 3, b__law_outcome⟩, ⟨1, 8, b_law⟩]
theorem h_is_whole : T[I.f_is_whole]? = some (fd_is_whole I) := rfl
theorem h_is_wide : T[I.f_is_wide]? = some (fd_is_wide I) := rfl
theorem h_is_word : T[I.f_is_word]? = some (fd_is_word I) := rfl
theorem h_are_rolls : T[I.f_are_rolls]? = some (fd_are_rolls I) := rfl
theorem h__law_source : T[I.f__law_source]? = some (fd__law_source I) := rfl
theorem h__law_pick : T[I.f__law_pick]? = some (fd__law_pick I) := rfl
theorem h_greatest_common : T[4]? = some ⟨2, 2, b_greatest_common⟩ := rfl
theorem h_clear_up_to : T[5]? = some ⟨3, 4, b_clear_up_to⟩ := rfl
theorem h__law_ends : T[8]? = some ⟨5, 10, b__law_ends⟩ := rfl
theorem h__law_due : T[9]? = some ⟨3, 7, b__law_due⟩ := rfl
theorem h__law_outcome : T[10]? = some ⟨3, 3, b__law_outcome⟩ := rfl
theorem h_law : T[11]? = some ⟨1, 8, b_law⟩ := rfl
theorem xe_MileError : I.x_MileError = 0 := rfl
theorem xe_InvalidCar : I.x_InvalidCar = 1 := rfl
theorem xe_InvalidWay : I.x_InvalidWay = 2 := rfl
theorem xe_n : I.xn = 3 := rfl
def tb : Tb := ⟨[(("is_whole" : Str), 3), (("is_wide" : Str), 3), (("is_word" : Str), 2), (("are_rolls" : Str), 2), (("greatest_common" : Str), 2), (("clear_up_to" : Str), 3), (("_law_source" : Str), 2), (("_law_pick" : Str), 2), (("_law_ends" : Str), 5), (("_law_due" : Str), 3), (("_law_outcome" : Str), 3), (("law" : Str), 1)], [(("MOST_BOTH" : Str), .int 200), (("MOST_SHORT" : Str), .int 20), (("MOST_LONG" : Str), .int 40), (("SETS" : Str), .tup [.str "free", .str "kept", .str "nought"]), (("READ" : Str), .tup [.str "both", .str "long", .str "short"])], [("isinstance" : Str), ("bool" : Str), ("int" : Str), ("len" : Str), ("tuple" : Str), ("str" : Str), ("range" : Str), ("list" : Str), ("max" : Str), ("min" : Str)], [("MileError" : Str), ("InvalidCar" : Str), ("InvalidWay" : Str)]⟩
def pss : List (List Str) := [(["value", "low", "high"] : List Str), (["value", "low", "high"] : List Str), (["value", "words"] : List Str), (["long", "short"] : List Str), (["one", "other"] : List Str), (["long", "short", "way"] : List Str), (["script", "k"] : List Str), (["source", "many"] : List Str), (["long", "short", "way", "begin", "length"] : List Str), (["long", "short", "way"] : List Str), (["long", "short", "way"] : List Str), (["script"] : List Str)]
def st (i : Nat) : Stmt := (PySem.Challenge.pw_rolledmiles_k34_ways_of_noting.main.body)[i]?.getD (.Pass ⟨0, 0, 0, 0⟩)
def n_is_whole : List Str := ["value", "low", "high"]
theorem sc_is_whole : FnScope n_is_whole ["value", "low", "high"] (defScope (st 8)) := ⟨rfl, rfl, rfl, by decide +kernel, rfl, by decide +kernel, by decide +kernel⟩
theorem ck_is_whole : chkSs tb n_is_whole (defScope (st 8)) (b_is_whole I) (defBody (st 8)) = true := by kernel_rfl
def n_is_wide : List Str := ["value", "low", "high"]
theorem sc_is_wide : FnScope n_is_wide ["value", "low", "high"] (defScope (st 9)) := ⟨rfl, rfl, rfl, by decide +kernel, rfl, by decide +kernel, by decide +kernel⟩
theorem ck_is_wide : chkSs tb n_is_wide (defScope (st 9)) (b_is_wide I) (defBody (st 9)) = true := by kernel_rfl
def n_is_word : List Str := ["value", "words"]
theorem sc_is_word : FnScope n_is_word ["value", "words"] (defScope (st 10)) := ⟨rfl, rfl, rfl, by decide +kernel, rfl, by decide +kernel, by decide +kernel⟩
theorem ck_is_word : chkSs tb n_is_word (defScope (st 10)) (b_is_word I) (defBody (st 10)) = true := by kernel_rfl
def n_are_rolls : List Str := ["long", "short"]
theorem sc_are_rolls : FnScope n_are_rolls ["long", "short"] (defScope (st 11)) := ⟨rfl, rfl, rfl, by decide +kernel, rfl, by decide +kernel, by decide +kernel⟩
theorem ck_are_rolls : chkSs tb n_are_rolls (defScope (st 11)) (b_are_rolls I) (defBody (st 11)) = true := by kernel_rfl
def n_greatest_common : List Str := ["one", "other"]
theorem sc_greatest_common : FnScope n_greatest_common ["one", "other"] (defScope (st 15)) := ⟨rfl, rfl, rfl, by decide +kernel, rfl, by decide +kernel, by decide +kernel⟩
theorem ck_greatest_common : chkSs tb n_greatest_common (defScope (st 15)) b_greatest_common (defBody (st 15)) = true := by kernel_rfl
def n_clear_up_to : List Str := ["long", "short", "way", "useful"]
theorem sc_clear_up_to : FnScope n_clear_up_to ["long", "short", "way"] (defScope (st 16)) := ⟨rfl, rfl, rfl, by decide +kernel, rfl, by decide +kernel, by decide +kernel⟩
theorem ck_clear_up_to : chkSs tb n_clear_up_to (defScope (st 16)) b_clear_up_to (defBody (st 16)) = true := by kernel_rfl
def n__law_source : List Str := ["script", "k", "number", "start"]
theorem sc__law_source : FnScope n__law_source ["script", "k"] (defScope (st 18)) := ⟨rfl, rfl, rfl, by decide +kernel, rfl, by decide +kernel, by decide +kernel⟩
theorem ck__law_source : chkSs tb n__law_source (defScope (st 18)) (b__law_source I) (defBody (st 18)) = true := by kernel_rfl
def n__law_pick : List Str := ["source", "many", "found"]
theorem sc__law_pick : FnScope n__law_pick ["source", "many"] (defScope (st 19)) := ⟨rfl, rfl, rfl, by decide +kernel, rfl, by decide +kernel, by decide +kernel⟩
theorem ck__law_pick : chkSs tb n__law_pick (defScope (st 19)) (b__law_pick I) (defBody (st 19)) = true := by kernel_rfl
def n__law_ends : List Str := ["long", "short", "way", "begin", "length", "shorts", "found", "one", "pair", "since"]
theorem sc__law_ends : FnScope n__law_ends ["long", "short", "way", "begin", "length"] (defScope (st 20)) := ⟨rfl, rfl, rfl, by decide +kernel, rfl, by decide +kernel, by decide +kernel⟩
theorem ck__law_ends : chkSs tb n__law_ends (defScope (st 20)) b__law_ends (defBody (st 20)) = true := by kernel_rfl
def n__law_due : List Str := ["long", "short", "way", "met", "length", "some", "one"]
theorem sc__law_due : FnScope n__law_due ["long", "short", "way"] (defScope (st 21)) := ⟨rfl, rfl, rfl, by decide +kernel, rfl, by decide +kernel, by decide +kernel⟩
theorem ck__law_due : chkSs tb n__law_due (defScope (st 21)) b__law_due (defBody (st 21)) = true := by kernel_rfl
def n__law_outcome : List Str := ["long", "short", "way"]
theorem sc__law_outcome : FnScope n__law_outcome ["long", "short", "way"] (defScope (st 22)) := ⟨rfl, rfl, rfl, by decide +kernel, rfl, by decide +kernel, by decide +kernel⟩
theorem ck__law_outcome : chkSs tb n__law_outcome (defScope (st 22)) b__law_outcome (defBody (st 22)) = true := by kernel_rfl
def n_law : List Str := ["script", "k", "source", "long", "short", "read", "odd", "sets"]
theorem sc_law : FnScope n_law ["script"] (defScope (st 23)) := ⟨rfl, rfl, rfl, by decide +kernel, rfl, by decide +kernel, by decide +kernel⟩
theorem ck_law : chkSs tb n_law (defScope (st 23)) b_law (defBody (st 23)) = true := by kernel_rfl
theorem glob {P : Program} {w : World} {K : PySem.W.Frag} {h : Heap} {mg : Str → Option Value} (X : K.In h) (G : h.Ns mainGlobals mg)
    {f0 f1 f2 f3 f4 f5 f6 f7 f8 f9 f10 f11 e0 e1 e2 t3 t7 : Addr} {od0 an0 od1 an1 od2 an2 od3 an3 od4 an4 od5 an5 od6 an6 od7 an7 od8 an8 od9 an9 od10 an10 od11 an11 : Option Addr} {sl0 sl1 sl2 sl3 sl4 sl5 sl6 sl7 sl8 sl9 sl10 sl11 ts3 ts7 : Array (Option Value)} {oc0 kV0 dc0 pm0 cd0 ct0 oc1 kV1 dc1 pm1 cd1 ct1 oc2 kV2 dc2 pm2 cd2 ct2 oc3 kV3 dc3 pm3 cd3 ct3 oc4 kV4 dc4 pm4 cd4 ct4 oc5 kV5 dc5 pm5 cd5 ct5 oc6 kV6 dc6 pm6 cd6 ct6 oc7 kV7 dc7 pm7 cd7 ct7 oc8 kV8 dc8 pm8 cd8 ct8 oc9 kV9 dc9 pm9 cd9 ct9 oc10 kV10 dc10 pm10 cd10 ct10 oc11 kV11 dc11 pm11 cd11 ct11 : Value} {tn3 tn7 : Nat} {tk0 tk1 tk2 tk4 tk5 tk6 tk8 tk9 tk10 : Tok}
    (a0 : PySem.W.nsIn K mainGlobals "is_whole" = some (some (.ref f0)))
    (l0 : K.lookup f0 = some ⟨oc0, od0, .func (PySem.W.fnOf "is_whole" "is_whole" (defArgs (st 8)) (defBody (st 8)) (defScope (st 8)) .none kV0 dc0 pm0 an0 cd0 ct0), sl0⟩)
    (c0 : PySem.W.codeIn K cd0 "is_whole" = true)
    (k0 : PySem.W.keepIn K (.ref f0) = true)
    (a1 : PySem.W.nsIn K mainGlobals "is_wide" = some (some (.ref f1)))
    (l1 : K.lookup f1 = some ⟨oc1, od1, .func (PySem.W.fnOf "is_wide" "is_wide" (defArgs (st 9)) (defBody (st 9)) (defScope (st 9)) .none kV1 dc1 pm1 an1 cd1 ct1), sl1⟩)
    (c1 : PySem.W.codeIn K cd1 "is_wide" = true)
    (k1 : PySem.W.keepIn K (.ref f1) = true)
    (a2 : PySem.W.nsIn K mainGlobals "is_word" = some (some (.ref f2)))
    (l2 : K.lookup f2 = some ⟨oc2, od2, .func (PySem.W.fnOf "is_word" "is_word" (defArgs (st 10)) (defBody (st 10)) (defScope (st 10)) .none kV2 dc2 pm2 an2 cd2 ct2), sl2⟩)
    (c2 : PySem.W.codeIn K cd2 "is_word" = true)
    (k2 : PySem.W.keepIn K (.ref f2) = true)
    (a3 : PySem.W.nsIn K mainGlobals "are_rolls" = some (some (.ref f3)))
    (l3 : K.lookup f3 = some ⟨oc3, od3, .func (PySem.W.fnOf "are_rolls" "are_rolls" (defArgs (st 11)) (defBody (st 11)) (defScope (st 11)) .none kV3 dc3 pm3 an3 cd3 ct3), sl3⟩)
    (c3 : PySem.W.codeIn K cd3 "are_rolls" = true)
    (k3 : PySem.W.keepIn K (.ref f3) = true)
    (a4 : PySem.W.nsIn K mainGlobals "greatest_common" = some (some (.ref f4)))
    (l4 : K.lookup f4 = some ⟨oc4, od4, .func (PySem.W.fnOf "greatest_common" "greatest_common" (defArgs (st 15)) (defBody (st 15)) (defScope (st 15)) .none kV4 dc4 pm4 an4 cd4 ct4), sl4⟩)
    (c4 : PySem.W.codeIn K cd4 "greatest_common" = true)
    (k4 : PySem.W.keepIn K (.ref f4) = true)
    (a5 : PySem.W.nsIn K mainGlobals "clear_up_to" = some (some (.ref f5)))
    (l5 : K.lookup f5 = some ⟨oc5, od5, .func (PySem.W.fnOf "clear_up_to" "clear_up_to" (defArgs (st 16)) (defBody (st 16)) (defScope (st 16)) .none kV5 dc5 pm5 an5 cd5 ct5), sl5⟩)
    (c5 : PySem.W.codeIn K cd5 "clear_up_to" = true)
    (k5 : PySem.W.keepIn K (.ref f5) = true)
    (a6 : PySem.W.nsIn K mainGlobals "_law_source" = some (some (.ref f6)))
    (l6 : K.lookup f6 = some ⟨oc6, od6, .func (PySem.W.fnOf "_law_source" "_law_source" (defArgs (st 18)) (defBody (st 18)) (defScope (st 18)) .none kV6 dc6 pm6 an6 cd6 ct6), sl6⟩)
    (c6 : PySem.W.codeIn K cd6 "_law_source" = true)
    (k6 : PySem.W.keepIn K (.ref f6) = true)
    (a7 : PySem.W.nsIn K mainGlobals "_law_pick" = some (some (.ref f7)))
    (l7 : K.lookup f7 = some ⟨oc7, od7, .func (PySem.W.fnOf "_law_pick" "_law_pick" (defArgs (st 19)) (defBody (st 19)) (defScope (st 19)) .none kV7 dc7 pm7 an7 cd7 ct7), sl7⟩)
    (c7 : PySem.W.codeIn K cd7 "_law_pick" = true)
    (k7 : PySem.W.keepIn K (.ref f7) = true)
    (a8 : PySem.W.nsIn K mainGlobals "_law_ends" = some (some (.ref f8)))
    (l8 : K.lookup f8 = some ⟨oc8, od8, .func (PySem.W.fnOf "_law_ends" "_law_ends" (defArgs (st 20)) (defBody (st 20)) (defScope (st 20)) .none kV8 dc8 pm8 an8 cd8 ct8), sl8⟩)
    (c8 : PySem.W.codeIn K cd8 "_law_ends" = true)
    (k8 : PySem.W.keepIn K (.ref f8) = true)
    (a9 : PySem.W.nsIn K mainGlobals "_law_due" = some (some (.ref f9)))
    (l9 : K.lookup f9 = some ⟨oc9, od9, .func (PySem.W.fnOf "_law_due" "_law_due" (defArgs (st 21)) (defBody (st 21)) (defScope (st 21)) .none kV9 dc9 pm9 an9 cd9 ct9), sl9⟩)
    (c9 : PySem.W.codeIn K cd9 "_law_due" = true)
    (k9 : PySem.W.keepIn K (.ref f9) = true)
    (a10 : PySem.W.nsIn K mainGlobals "_law_outcome" = some (some (.ref f10)))
    (l10 : K.lookup f10 = some ⟨oc10, od10, .func (PySem.W.fnOf "_law_outcome" "_law_outcome" (defArgs (st 22)) (defBody (st 22)) (defScope (st 22)) .none kV10 dc10 pm10 an10 cd10 ct10), sl10⟩)
    (c10 : PySem.W.codeIn K cd10 "_law_outcome" = true)
    (k10 : PySem.W.keepIn K (.ref f10) = true)
    (a11 : PySem.W.nsIn K mainGlobals "law" = some (some (.ref f11)))
    (l11 : K.lookup f11 = some ⟨oc11, od11, .func (PySem.W.fnOf "law" "law" (defArgs (st 23)) (defBody (st 23)) (defScope (st 23)) .none kV11 dc11 pm11 an11 cd11 ct11), sl11⟩)
    (c11 : PySem.W.codeIn K cd11 "law" = true)
    (k11 : PySem.W.keepIn K (.ref f11) = true)
    (ea0 : PySem.W.nsIn K mainGlobals "MileError" = some (some (.ref e0)))
    (ek0 : PySem.W.keepIn K (.ref e0) = true)
    (eb0 : PySem.W.subIn K (.ref e0) (.type "BaseException") = some true)
    (et0 : PySem.W.typeIn K (.ref e0) = some (.type "type"))
    (ei0 : PySem.W.isClsIn K e0 = true)
    (ex0 : PySem.W.excIn K e0 bmBase "ValueError.__new__" = true)
    (ea1 : PySem.W.nsIn K mainGlobals "InvalidCar" = some (some (.ref e1)))
    (ek1 : PySem.W.keepIn K (.ref e1) = true)
    (eb1 : PySem.W.subIn K (.ref e1) (.type "BaseException") = some true)
    (et1 : PySem.W.typeIn K (.ref e1) = some (.type "type"))
    (ei1 : PySem.W.isClsIn K e1 = true)
    (ex1 : PySem.W.excIn K e1 bmBase "ValueError.__new__" = true)
    (ea2 : PySem.W.nsIn K mainGlobals "InvalidWay" = some (some (.ref e2)))
    (ek2 : PySem.W.keepIn K (.ref e2) = true)
    (eb2 : PySem.W.subIn K (.ref e2) (.type "BaseException") = some true)
    (et2 : PySem.W.typeIn K (.ref e2) = some (.type "type"))
    (ei2 : PySem.W.isClsIn K e2 = true)
    (ex2 : PySem.W.excIn K e2 bmBase "ValueError.__new__" = true)
    (es0_0 : PySem.W.subIn K (.ref e0) (.ref e0) = some true)
    (es0_1 : PySem.W.subIn K (.ref e0) (.ref e1) = some false)
    (es0_2 : PySem.W.subIn K (.ref e0) (.ref e2) = some false)
    (es1_0 : PySem.W.subIn K (.ref e1) (.ref e0) = some true)
    (es1_1 : PySem.W.subIn K (.ref e1) (.ref e1) = some true)
    (es1_2 : PySem.W.subIn K (.ref e1) (.ref e2) = some false)
    (es2_0 : PySem.W.subIn K (.ref e2) (.ref e0) = some true)
    (es2_1 : PySem.W.subIn K (.ref e2) (.ref e1) = some false)
    (es2_2 : PySem.W.subIn K (.ref e2) (.ref e2) = some true)
    (ca0 : PySem.W.nsIn K mainGlobals "MOST_BOTH" = some (some (.int 200 tk0)))
    (ca1 : PySem.W.nsIn K mainGlobals "MOST_SHORT" = some (some (.int 20 tk1)))
    (ca2 : PySem.W.nsIn K mainGlobals "MOST_LONG" = some (some (.int 40 tk2)))
    (tl3 : K.lookup t3 = some ⟨.type "tuple", none, .seq #[.str "free" tk4, .str "kept" tk5, .str "nought" tk6] tn3, ts3⟩)
    (ca3 : PySem.W.nsIn K mainGlobals "SETS" = some (some (.ref t3)))
    (tl7 : K.lookup t7 = some ⟨.type "tuple", none, .seq #[.str "both" tk8, .str "long" tk9, .str "short" tk10] tn7, ts7⟩)
    (ca4 : PySem.W.nsIn K mainGlobals "READ" = some (some (.ref t7)))
    (zg0 : PySem.W.nsIn K mainGlobals "isinstance" = some none)
    (zg1 : PySem.W.nsIn K mainGlobals "bool" = some none)
    (zg2 : PySem.W.nsIn K mainGlobals "int" = some none)
    (zg3 : PySem.W.nsIn K mainGlobals "len" = some none)
    (zg4 : PySem.W.nsIn K mainGlobals "tuple" = some none)
    (zg5 : PySem.W.nsIn K mainGlobals "str" = some none)
    (zg6 : PySem.W.nsIn K mainGlobals "range" = some none)
    (zg7 : PySem.W.nsIn K mainGlobals "list" = some none)
    (zg8 : PySem.W.nsIn K mainGlobals "max" = some none)
    (zg9 : PySem.W.nsIn K mainGlobals "min" = some none)
    : ∃ fa ca, Glob P w K mg tb T pss fa ca := by
  refine ⟨fun i => ([f0, f1, f2, f3, f4, f5, f6, f7, f8, f9, f10, f11] : List Addr).getD i 0, fun i => ([e0, e1, e2] : List Addr).getD i 0, ?_⟩
  refine ⟨?_, ?_, ?_, ?_, rfl, rfl, ?_⟩
  · exact ⟨⟨.int 200, _, PySem.W.mg_of X G ca0, ⟨_, rfl⟩, (fun p e => nomatch e), fun F mu => .int _⟩, ⟨⟨.int 20, _, PySem.W.mg_of X G ca1, ⟨_, rfl⟩, (fun p e => nomatch e), fun F mu => .int _⟩, ⟨⟨.int 40, _, PySem.W.mg_of X G ca2, ⟨_, rfl⟩, (fun p e => nomatch e), fun F mu => .int _⟩, ⟨⟨.ref t3, _, PySem.W.mg_of X G ca3, rfl, (fun p e => by cases e; exact ⟨_, tl3, rfl, rfl⟩), fun F mu => .tup (xs := [.str "free", .str "kept", .str "nought"]) (.inr ⟨_, _, _, tl3, rfl, rfl, (show 3 ≤ PySem.sizeLine by decide), .cons (⟨_, rfl⟩) (.cons (⟨_, rfl⟩) (.cons (⟨_, rfl⟩) (.nil)))⟩) (.cons (.str _) (.cons (.str _) (.cons (.str _) (.nil))))⟩, ⟨⟨.ref t7, _, PySem.W.mg_of X G ca4, rfl, (fun p e => by cases e; exact ⟨_, tl7, rfl, rfl⟩), fun F mu => .tup (xs := [.str "both", .str "long", .str "short"]) (.inr ⟨_, _, _, tl7, rfl, rfl, (show 3 ≤ PySem.sizeLine by decide), .cons (⟨_, rfl⟩) (.cons (⟨_, rfl⟩) (.cons (⟨_, rfl⟩) (.nil)))⟩) (.cons (.str _) (.cons (.str _) (.cons (.str _) (.nil))))⟩, trivial⟩⟩⟩⟩⟩
  · exact ⟨⟨PySem.W.mg_of X G ea0, ek0, ⟨eb0, et0⟩, ex0⟩, ⟨⟨PySem.W.mg_of X G ea1, ek1, ⟨eb1, et1⟩, ex1⟩, ⟨⟨PySem.W.mg_of X G ea2, ek2, ⟨eb2, et2⟩, ex2⟩, trivial⟩⟩⟩
  · intro i j hi hj
    have hi : i < 3 := hi
    have hj : j < 3 := hj
    match i, hi, j, hj with
    | 0, _, 0, _ => exact exm_of2 eb0 ei0 et0 es0_0
    | 0, _, 1, _ => exact exm_of2 eb1 ei1 et1 es0_1
    | 0, _, 2, _ => exact exm_of2 eb2 ei2 et2 es0_2
    | 1, _, 0, _ => exact exm_of2 eb0 ei0 et0 es1_0
    | 1, _, 1, _ => exact exm_of2 eb1 ei1 et1 es1_1
    | 1, _, 2, _ => exact exm_of2 eb2 ei2 et2 es1_2
    | 2, _, 0, _ => exact exm_of2 eb0 ei0 et0 es2_0
    | 2, _, 1, _ => exact exm_of2 eb1 ei1 et1 es2_1
    | 2, _, 2, _ => exact exm_of2 eb2 ei2 et2 es2_2
    | i + 3, hi, _, _ => exact absurd hi (by omega)
    | 0, _, j + 3, hj => exact absurd hj (by omega)
    | 1, _, j + 3, hj => exact absurd hj (by omega)
    | 2, _, j + 3, hj => exact absurd hj (by omega)
  · intro x hx
    have hx : (["isinstance", "bool", "int", "len", "tuple", "str", "range", "list", "max", "min"] : List Str).contains x = true := hx
    simp only [List.contains_cons, List.contains_nil, Bool.or_eq_true, beq_iff_eq, Bool.false_eq_true, or_false] at hx
    rcases hx with rfl | rfl | rfl | rfl | rfl | rfl | rfl | rfl | rfl | rfl
    · exact PySem.W.mg_none_of X G zg0
    · exact PySem.W.mg_none_of X G zg1
    · exact PySem.W.mg_none_of X G zg2
    · exact PySem.W.mg_none_of X G zg3
    · exact PySem.W.mg_none_of X G zg4
    · exact PySem.W.mg_none_of X G zg5
    · exact PySem.W.mg_none_of X G zg6
    · exact PySem.W.mg_none_of X G zg7
    · exact PySem.W.mg_none_of X G zg8
    · exact PySem.W.mg_none_of X G zg9
  · exact ⟨⟨PySem.W.mg_of X G a0, _, st 8, _, n_is_whole, fun_mk l0 c0 k0, fun us hl => match us, hl with | [_, _, _], _ => rfl, rfl, sc_is_whole, rfl, rfl, by decide, ck_is_whole⟩,
    ⟨⟨PySem.W.mg_of X G a1, _, st 9, _, n_is_wide, fun_mk l1 c1 k1, fun us hl => match us, hl with | [_, _, _], _ => rfl, rfl, sc_is_wide, rfl, rfl, by decide, ck_is_wide⟩,
    ⟨⟨PySem.W.mg_of X G a2, _, st 10, _, n_is_word, fun_mk l2 c2 k2, fun us hl => match us, hl with | [_, _], _ => rfl, rfl, sc_is_word, rfl, rfl, by decide, ck_is_word⟩,
    ⟨⟨PySem.W.mg_of X G a3, _, st 11, _, n_are_rolls, fun_mk l3 c3 k3, fun us hl => match us, hl with | [_, _], _ => rfl, rfl, sc_are_rolls, rfl, rfl, by decide, ck_are_rolls⟩,
    ⟨⟨PySem.W.mg_of X G a4, _, st 15, _, n_greatest_common, fun_mk l4 c4 k4, fun us hl => match us, hl with | [_, _], _ => rfl, rfl, sc_greatest_common, rfl, rfl, by decide, ck_greatest_common⟩,
    ⟨⟨PySem.W.mg_of X G a5, _, st 16, _, n_clear_up_to, fun_mk l5 c5 k5, fun us hl => match us, hl with | [_, _, _], _ => rfl, rfl, sc_clear_up_to, rfl, rfl, by decide, ck_clear_up_to⟩,
    ⟨⟨PySem.W.mg_of X G a6, _, st 18, _, n__law_source, fun_mk l6 c6 k6, fun us hl => match us, hl with | [_, _], _ => rfl, rfl, sc__law_source, rfl, rfl, by decide, ck__law_source⟩,
    ⟨⟨PySem.W.mg_of X G a7, _, st 19, _, n__law_pick, fun_mk l7 c7 k7, fun us hl => match us, hl with | [_, _], _ => rfl, rfl, sc__law_pick, rfl, rfl, by decide, ck__law_pick⟩,
    ⟨⟨PySem.W.mg_of X G a8, _, st 20, _, n__law_ends, fun_mk l8 c8 k8, fun us hl => match us, hl with | [_, _, _, _, _], _ => rfl, rfl, sc__law_ends, rfl, rfl, by decide, ck__law_ends⟩,
    ⟨⟨PySem.W.mg_of X G a9, _, st 21, _, n__law_due, fun_mk l9 c9 k9, fun us hl => match us, hl with | [_, _, _], _ => rfl, rfl, sc__law_due, rfl, rfl, by decide, ck__law_due⟩,
    ⟨⟨PySem.W.mg_of X G a10, _, st 22, _, n__law_outcome, fun_mk l10 c10 k10, fun us hl => match us, hl with | [_, _, _], _ => rfl, rfl, sc__law_outcome, rfl, rfl, by decide, ck__law_outcome⟩,
    ⟨⟨PySem.W.mg_of X G a11, _, st 23, _, n_law, fun_mk l11 c11 k11, fun us hl => match us, hl with | [_], _ => rfl, rfl, sc_law, rfl, rfl, by decide, ck_law⟩,
    trivial⟩⟩⟩⟩⟩⟩⟩⟩⟩⟩⟩⟩
end K34

set_option Elab.async false
set_option linter.all false
set_option autoImplicit false
set_option maxRecDepth 100000
set_option maxHeartbeats 4000000
set_option pp.maxSteps 400
set_option pp.deepTerms false
namespace K34
open Z
theorem hp : HP T I := ⟨h__law_source, h__law_pick⟩
theorem hw : HW T I := ⟨h_is_whole, h_is_wide⟩
theorem p_gcd_loop (n : Nat) (S : Sto) : ∀ (b a f : Nat), b < f → whileL (den b_greatest_common_w0 (Phi T n)) (denSs b_greatest_common_l0 (Phi T n)) [] f [some (.sh (.int a)), some (.sh (.int b))] S = .nx [some (.sh (.int (Nat.gcd a b))), some (.sh (.int 0))] S := by
  intro b
  induction b using Nat.strongRecOn with
  | _ b ih =>
    intro a f hf
    cases f with
    | zero => omega
    | succ f =>
      by_cases hb : b = 0
      · subst hb
        simp [whileL, b_greatest_common_w0, okd, deq, runF, denSs, denS, den, dens, deni, Res.bind, Res.fl, optR, optB, getV, getS, setIs, setG, killL, setPs, putS, forL, opS, addS, mulS, mulI, modI, fdivI, powI, int2, cmpS, cmpI, eqS, isNon, idxS, dcv, dcs, itv, lsv, sqv, vw, tru, biS, isiS, Ty.isI, Ty.isB, Ty.isS, Ty.isT, Ty.isL, mtS, mtK, slcP, partS, Rv.shr, L2.atI, L2.ixN, intsD, boolsD, handL, subc, CEs.len, sz]
      · have hm : a % b < b := Nat.mod_lt _ (by omega)
        have h := ih (a % b) hm b f (by omega)
        have e : Nat.gcd a b = Nat.gcd b (a % b) := by rw [Nat.gcd_comm a b, Nat.gcd_rec b a, Nat.gcd_comm]
        have hb2 : ((b : Int) == 0) = false := by simpa using hb
        have hp : (0 : Int) < (b : Int) := by omega
        have hp2 : 0 < b := by omega
        have h1 : den b_greatest_common_w0 (Phi T n) [some (.sh (.int a)), some (.sh (.int b))] S = .ok (.sh (.bl true)) S := by simp [b_greatest_common_w0, okd, deq, hb, hb2, runF, denSs, denS, den, dens, deni, Res.bind, Res.fl, optR, optB, getV, getS, setIs, setG, killL, setPs, putS, forL, opS, addS, mulS, mulI, modI, fdivI, powI, int2, cmpS, cmpI, eqS, isNon, idxS, dcv, dcs, itv, lsv, sqv, vw, tru, biS, isiS, Ty.isI, Ty.isB, Ty.isS, Ty.isT, Ty.isL, mtS, mtK, slcP, partS, Rv.shr, L2.atI, L2.ixN, intsD, boolsD, handL, subc, CEs.len, sz]
        have h2 : denSs b_greatest_common_l0 (Phi T n) [some (.sh (.int a)), some (.sh (.int b))] S = .nx [some (.sh (.int b)), some (.sh (.int (a % b : Nat)))] S := by simp [b_greatest_common_l0, hp, hp2, runF, denSs, denS, den, dens, deni, Res.bind, Res.fl, optR, optB, getV, getS, setIs, setG, killL, setPs, putS, forL, opS, addS, mulS, mulI, modI, fdivI, powI, int2, cmpS, cmpI, eqS, isNon, idxS, dcv, dcs, itv, lsv, sqv, vw, tru, biS, isiS, Ty.isI, Ty.isB, Ty.isS, Ty.isT, Ty.isL, mtS, mtK, slcP, partS, Rv.shr, L2.atI, L2.ixN, intsD, boolsD, handL, subc, CEs.len, sz]
        rw [e, ← h]
        simp only [whileL, h1, h2, tru, killL]

theorem p_gcd (n : Nat) (a b : Nat) (S : Sto) (hb : b < 2000) : Phi T (n + 1) 4 [.int a, .int b] S = .ok (.sh (.int (Nat.gcd a b))) S := by
  rw [phi_at h_greatest_common]
  simp [b_greatest_common, p_gcd_loop n S b a 2000 hb, runF, denSs, denS, den, dens, deni, Res.bind, Res.fl, optR, optB, getV, getS, setIs, setG, killL, setPs, putS, forL, opS, addS, mulS, mulI, modI, fdivI, powI, int2, cmpS, cmpI, eqS, isNon, idxS, dcv, dcs, itv, lsv, sqv, vw, tru, biS, isiS, Ty.isI, Ty.isB, Ty.isS, Ty.isT, Ty.isL, mtS, mtK, slcP, partS, Rv.shr, L2.atI, L2.ixN, intsD, boolsD, handL, subc, CEs.len, sz]
theorem p_word (n : Nat) (v : D) (ws : List D) (S : Sto) (h : isD v = true) (hv : ∀ x, v = .str x → okd v 60 = true) (hw : okds ws 59 = true) : Phi T (n + 1) I.f_is_word [v, .tup ws] S = .ok (.sh (.bl ((match v with | .str _ => true | _ => false) && ws.any fun z => deq z v))) S := by
  rw [phi_at h_is_word]
  cases v with
  | str x => simp [fd_is_word, b_is_word, inS, hv x rfl, hw, runF, denSs, denS, den, dens, deni, Res.bind, Res.fl, optR, optB, getV, getS, setIs, setG, killL, setPs, putS, forL, opS, addS, mulS, mulI, modI, fdivI, powI, int2, cmpS, cmpI, eqS, isNon, idxS, dcv, dcs, itv, lsv, sqv, vw, tru, biS, isiS, Ty.isI, Ty.isB, Ty.isS, Ty.isT, Ty.isL, mtS, mtK, slcP, partS, Rv.shr, L2.atI, L2.ixN, intsD, boolsD, handL, subc, CEs.len, sz]
  | _ => first | (simp [isD] at h; done) | simp [fd_is_word, b_is_word, runF, denSs, denS, den, dens, deni, Res.bind, Res.fl, optR, optB, getV, getS, setIs, setG, killL, setPs, putS, forL, opS, addS, mulS, mulI, modI, fdivI, powI, int2, cmpS, cmpI, eqS, isNon, idxS, dcv, dcs, itv, lsv, sqv, vw, tru, biS, isiS, Ty.isI, Ty.isB, Ty.isS, Ty.isT, Ty.isL, mtS, mtK, slcP, partS, Rv.shr, L2.atI, L2.ixN, intsD, boolsD, handL, subc, CEs.len, sz]

theorem ne_long_short : (("long" : PySem.Str) == ("short" : PySem.Str)) = false := by decide +kernel
theorem ne_long_both : (("long" : PySem.Str) == ("both" : PySem.Str)) = false := by decide +kernel
theorem ne_long_kept : (("long" : PySem.Str) == ("kept" : PySem.Str)) = false := by decide +kernel
theorem ne_long_nought : (("long" : PySem.Str) == ("nought" : PySem.Str)) = false := by decide +kernel
theorem ne_long_free : (("long" : PySem.Str) == ("free" : PySem.Str)) = false := by decide +kernel
theorem ne_short_long : (("short" : PySem.Str) == ("long" : PySem.Str)) = false := by decide +kernel
theorem ne_short_both : (("short" : PySem.Str) == ("both" : PySem.Str)) = false := by decide +kernel
theorem ne_short_kept : (("short" : PySem.Str) == ("kept" : PySem.Str)) = false := by decide +kernel
theorem ne_short_nought : (("short" : PySem.Str) == ("nought" : PySem.Str)) = false := by decide +kernel
theorem ne_short_free : (("short" : PySem.Str) == ("free" : PySem.Str)) = false := by decide +kernel
theorem ne_both_long : (("both" : PySem.Str) == ("long" : PySem.Str)) = false := by decide +kernel
theorem ne_both_short : (("both" : PySem.Str) == ("short" : PySem.Str)) = false := by decide +kernel
theorem ne_both_kept : (("both" : PySem.Str) == ("kept" : PySem.Str)) = false := by decide +kernel
theorem ne_both_nought : (("both" : PySem.Str) == ("nought" : PySem.Str)) = false := by decide +kernel
theorem ne_both_free : (("both" : PySem.Str) == ("free" : PySem.Str)) = false := by decide +kernel
theorem ne_kept_long : (("kept" : PySem.Str) == ("long" : PySem.Str)) = false := by decide +kernel
theorem ne_kept_short : (("kept" : PySem.Str) == ("short" : PySem.Str)) = false := by decide +kernel
theorem ne_kept_both : (("kept" : PySem.Str) == ("both" : PySem.Str)) = false := by decide +kernel
theorem ne_kept_nought : (("kept" : PySem.Str) == ("nought" : PySem.Str)) = false := by decide +kernel
theorem ne_kept_free : (("kept" : PySem.Str) == ("free" : PySem.Str)) = false := by decide +kernel
theorem ne_nought_long : (("nought" : PySem.Str) == ("long" : PySem.Str)) = false := by decide +kernel
theorem ne_nought_short : (("nought" : PySem.Str) == ("short" : PySem.Str)) = false := by decide +kernel
theorem ne_nought_both : (("nought" : PySem.Str) == ("both" : PySem.Str)) = false := by decide +kernel
theorem ne_nought_kept : (("nought" : PySem.Str) == ("kept" : PySem.Str)) = false := by decide +kernel
theorem ne_nought_free : (("nought" : PySem.Str) == ("free" : PySem.Str)) = false := by decide +kernel
theorem ne_free_long : (("free" : PySem.Str) == ("long" : PySem.Str)) = false := by decide +kernel
theorem ne_free_short : (("free" : PySem.Str) == ("short" : PySem.Str)) = false := by decide +kernel
theorem ne_free_both : (("free" : PySem.Str) == ("both" : PySem.Str)) = false := by decide +kernel
theorem ne_free_kept : (("free" : PySem.Str) == ("kept" : PySem.Str)) = false := by decide +kernel
theorem ne_free_nought : (("free" : PySem.Str) == ("nought" : PySem.Str)) = false := by decide +kernel
theorem ok_long : (("long" : PySem.Str).cps.all fun x => decide (x < 1114112)) = true := by decide +kernel
theorem ok_short : (("short" : PySem.Str).cps.all fun x => decide (x < 1114112)) = true := by decide +kernel
theorem ok_both : (("both" : PySem.Str).cps.all fun x => decide (x < 1114112)) = true := by decide +kernel
theorem ok_kept : (("kept" : PySem.Str).cps.all fun x => decide (x < 1114112)) = true := by decide +kernel
theorem ok_nought : (("nought" : PySem.Str).cps.all fun x => decide (x < 1114112)) = true := by decide +kernel
theorem ok_free : (("free" : PySem.Str).cps.all fun x => decide (x < 1114112)) = true := by decide +kernel

/-! ### ways -/
inductive Rd where | lo | sh | bo
inductive Se where | kept | nought | free
def rdW : Rd → PySem.Str | .lo => "long" | .sh => "short" | .bo => "both"
def seW : Se → PySem.Str | .kept => "kept" | .nought => "nought" | .free => "free"
abbrev wayD (r : Rd) (t : Se) : D := .tup [.str (rdW r), .str (seW t)]
def proj : Rd → Int → Int → List Int
  | .lo, a, _ => [a]
  | .sh, _, o => [o]
  | .bo, a, o => [a, o]
def shs : Se → Int → Int → List Int
  | .kept, s, L => [(1 + L) % s]
  | .nought, s, L => [L % s]
  | .free, s, L => (1 + L) % s :: (rngI 0 (L + 1).toNat).map (· % s)
def raw (r : Rd) (t : Se) (l s L : Int) : List (List Int) := (shs t s L).map (proj r ((l - 1 + L) % l))
abbrev kyL (k : List Int) : D := .tup (k.map .int)
theorem nks_int : ∀ (a b : List Int), nks (a.map .int) = nks (b.map .int) ↔ a = b
  | [], [] => by simp [nks]
  | [], _ :: _ => by simp [nks]
  | _ :: _, [] => by simp [nks]
  | x :: a, y :: b => by simp [nks, nk, nks_int a b]
theorem nk_kyL (a b : List Int) : nk (kyL a) = nk (kyL b) ↔ a = b := by
  simp only [nk, PySem.NestedKey.tup.injEq, nks_int]
theorem hks_int : ∀ (a : List Int) (n : Nat), hks (a.map .int) n = true
  | [], _ => rfl
  | x :: a, n => by simp [hks, hk, hks_int a n]
theorem key_kyL (a : List Int) : isKey (kyL a) = true := by simp [isKey, isTup, hk, hks_int]
theorem okd_kyL (a : List Int) : okd (kyL a) 59 = true := by
  have : okds (a.map .int) 58 = true := okds_of' a
  simp [okd, this]
where okds_of' : ∀ a : List Int, okds (a.map .int) 58 = true
  | [] => rfl
  | x :: a => by simp [okds, okd, okds_of' a]
/-! ### clear_up_to -/
theorem rolls_ok {l s : Int} (h1 : 2 ≤ l) (h2 : l ≤ 40) (h3 : 2 ≤ s) (h4 : s ≤ 20) (h5 : l * s ≤ 200) : rollsB (.int l) (.int s) = true := by simp [rollsB, h1, h2, h3, h4, h5]
def clearV : Rd → Se → Nat → Nat → Nat
  | .sh, .free, _, _ => 0
  | .sh, _, _, q => q - 1
  | .lo, _, p, _ => p - 1
  | .bo, .free, p, _ => p - 1
  | .bo, _, p, q => Nat.lcm p q - 1
theorem word_r (n : Nat) (r : Rd) (S : Sto) : Phi T (n + 1) I.f_is_word [.str (rdW r), .tup [.str "both", .str "long", .str "short"]] S = .ok (.sh (.bl true)) S := by
  rw [p_word n _ _ S rfl (fun x hx => by cases r <;> (cases hx; decide +kernel)) (by decide +kernel)]
  cases r <;> simp [rdW, deq]
theorem word_s (n : Nat) (t : Se) (S : Sto) : Phi T (n + 1) I.f_is_word [.str (seW t), .tup [.str "free", .str "kept", .str "nought"]] S = .ok (.sh (.bl true)) S := by
  rw [p_word n _ _ S rfl (fun x hx => by cases t <;> (cases hx; decide +kernel)) (by decide +kernel)]
  cases t <;> simp [seW, deq]
def isNo : Se → Bool | .nought => true | _ => false
def isFr : Se → Bool | .free => true | _ => false
def useful : Se → Bool | .free => false | _ => true
def isSh : Rd → Bool | .sh => true | _ => false
def isLo : Rd → Bool | .lo => true | _ => false
theorem shr_nl {d : List D} : (Rv.nl d).shr = .lst d := rfl
theorem shr_sh {d : D} : (Rv.sh d).shr = d := rfl
theorem q_use (t : Se) (S : Sto) : cmpS .ne (.sh (.str (seW t))) (.sh (.str "free")) S = some (useful t) := by
  cases t <;> simp [cmpS, eqS, vw, seW, okd, deq, useful, ok_kept, ok_nought, ok_free, ne_kept_free, ne_nought_free]
theorem q_no (t : Se) (S : Sto) : cmpS .eq (.sh (.str (seW t))) (.sh (.str "nought")) S = some (isNo t) := by
  cases t <;> simp [cmpS, eqS, vw, seW, isNo, okd, deq, ok_kept, ok_nought, ok_free, ne_kept_nought, ne_free_nought]
theorem q_fr (t : Se) (S : Sto) : cmpS .eq (.sh (.str (seW t))) (.sh (.str "free")) S = some (isFr t) := by
  cases t <;> simp [cmpS, eqS, vw, seW, isFr, okd, deq, ok_kept, ok_nought, ok_free, ne_kept_free, ne_nought_free]
theorem q_sh (r : Rd) (S : Sto) : cmpS .eq (.sh (.str (rdW r))) (.sh (.str "short")) S = some (isSh r) := by
  cases r <;> simp [cmpS, eqS, vw, rdW, okd, deq, isSh, ok_long, ok_short, ok_both, ne_long_short, ne_both_short]
theorem q_lo (r : Rd) (S : Sto) : cmpS .eq (.sh (.str (rdW r))) (.sh (.str "long")) S = some (isLo r) := by
  cases r <;> simp [cmpS, eqS, vw, rdW, okd, deq, isLo, ok_long, ok_short, ok_both, ne_short_long, ne_both_long]
theorem way_0 (r : Rd) (t : Se) (S : Sto) : idxS (.sh (wayD r t)) (.sh (.int 0)) S = some (.sh (.str (rdW r))) := by simp [idxS, dcv, sqv, L2.atI, L2.ixN]
theorem way_1 (r : Rd) (t : Se) (S : Sto) : idxS (.sh (wayD r t)) (.sh (.int 1)) S = some (.sh (.str (seW t))) := by simp [idxS, dcv, sqv, L2.atI, L2.ixN]
theorem ss_nx {s : CS} {ss : CSs} {c : Call} {ρ ρ' : Env} {S S' : Sto} (h : denS s c ρ S = .nx ρ' S') : denSs (.cons s ss) c ρ S = denSs ss c ρ' S' := by
  rw [denSs, h]
theorem ss_rt {s : CS} {ss : CSs} {c : Call} {ρ : Env} {S S' : Sto} {r : Rv} (h : denS s c ρ S = .rt r S') : denSs (.cons s ss) c ρ S = .rt r S' := by
  rw [denSs, h]
theorem run_rt {fd : Fd} {c : Call} {ds : List D} {S S' : Sto} {r : Rv} (hl : ds.length = fd.np) (h : denSs fd.body c (ds.map (fun d => some (.sh d)) ++ List.replicate (fd.nl - fd.np) none) S = .rt r S') : runF fd c ds S = .ok r S' := by
  unfold runF; rw [if_pos hl, h]
theorem ite_f {t : CE} {a : CSs} {c : Call} {ρ : Env} {S S1 : Sto} (h : den t c ρ S = .ok (.sh (.bl false)) S1) : denS (.ite t a .nil) c ρ S = .nx ρ S1 := by
  rw [denS, h]; simp only [Res.fl, tru, denSs]
theorem ite_t {t : CE} {a b : CSs} {c : Call} {ρ : Env} {S S1 : Sto} (h : den t c ρ S = .ok (.sh (.bl true)) S1) : denS (.ite t a b) c ρ S = denSs a c ρ S1 := by
  rw [denS, h]; simp only [Res.fl, tru]
theorem ret_rt {e : CE} {c : Call} {ρ : Env} {S S1 : Sto} {r : Rv} (h : den e c ρ S = .ok r S1) : denS (.ret e) c ρ S = .rt r S1 := by
  rw [denS, h]; rfl
theorem clear_P (P : Call) (A B W : D) (p q g lc : Int) (S : Sto) (u a b : Bool) (hr : P I.f_are_rolls [.int p, .int q] S = .ok (.sh (.bl true)) S)
    (w1 : P I.f_is_word [A, .tup [.str "both", .str "long", .str "short"]] S = .ok (.sh (.bl true)) S) (w2 : P I.f_is_word [B, .tup [.str "free", .str "kept", .str "nought"]] S = .ok (.sh (.bl true)) S)
    (w3 : P I.f_is_wide [W, .int 2, .int 2] S = .ok (.sh (.bl true)) S) (x0 : idxS (.sh W) (.sh (.int 0)) S = some (.sh A)) (x1 : idxS (.sh W) (.sh (.int 1)) S = some (.sh B))
    (k0 : cmpS .ne (.sh B) (.sh (.str "free")) S = some u) (k1 : cmpS .eq (.sh A) (.sh (.str "short")) S = some a) (k2 : cmpS .eq (.sh A) (.sh (.str "long")) S = some b)
    (hg : P 4 [.int p, .int q] S = .ok (.sh (.int g)) S) (g1 : 0 < g) (g2 : g < 1073741824) (hp0 : 0 ≤ p) (hp : p ≤ 40) (hl : p * q / g = lc) :
    runF ⟨3, 4, b_clear_up_to⟩ P [.int p, .int q, W] S = .ok (.sh (.int (if a = true then (if u = true then q - 1 else 0) else if (b || !u) = true then p - 1 else lc - 1))) S := by
  have m1 : -(2 ^ 64 : Int) < p := by omega
  have m2 : p < (2 ^ 64 : Int) := by omega
  refine run_rt rfl ?_
  unfold b_clear_up_to
  refine (ss_nx (ite_f (S1 := S) ?_)).trans ?_
  · simp only [den, dens, Res.bind, optR, optB, getS, getV, List.map_cons, List.map_nil, List.replicate, List.cons_append, List.nil_append, List.getElem?_cons_zero, List.getElem?_cons_succ, shr_sh, hr, tru, Option.map_some, Bool.not_true]
  refine (ss_nx (ite_f (S1 := S) ?_)).trans ?_
  · simp only [den, dens, Res.bind, optR, optB, getS, getV, List.map_cons, List.map_nil, List.replicate, List.cons_append, List.nil_append, List.getElem?_cons_zero, List.getElem?_cons_succ, shr_sh, w3, w1, w2, x0, x1, tru, Option.map_some, Bool.not_true]
  refine (ss_nx (ρ' := [some (.sh (.int p)), some (.sh (.int q)), some (.sh W), some (.sh (.bl u))]) (S' := S) ?_).trans ?_
  · simp only [denS, den, Res.bind, Res.fl, optR, optB, getS, getV, List.length_cons, List.length_nil, Nat.reduceAdd, Nat.reduceSub, List.map_cons, List.map_nil, List.replicate, List.cons_append, List.nil_append, List.getElem?_cons_zero, List.getElem?_cons_succ, x1, k0, shr_sh, List.set_cons_zero, List.set_cons_succ]
  have ht1 : den (.cmp .eq (.idx (.varB 2) (.con (.int 0))) (.con (.str "short"))) P [some (.sh (.int p)), some (.sh (.int q)), some (.sh W), some (.sh (.bl u))] S = .ok (.sh (.bl a)) S := by
    simp only [den, Res.bind, optR, optB, getV, List.getElem?_cons_zero, List.getElem?_cons_succ, x0, k1]
  cases a with
  | true =>
    refine ss_rt ((ite_t ht1).trans (ss_rt (ret_rt ?_)))
    cases u <;> simp [den, Res.bind, optR, getV, tru, opS, int2]
  | false =>
    refine (ss_nx (ite_f ht1)).trans ?_
    have ht2 : den (.or (.cmp .eq (.idx (.varB 2) (.con (.int 0))) (.con (.str "long"))) (.not (.varB 3))) P [some (.sh (.int p)), some (.sh (.int q)), some (.sh W), some (.sh (.bl u))] S = .ok (.sh (.bl (b || !u))) S := by
      simp only [den, Res.bind, optR, optB, getV, List.getElem?_cons_zero, List.getElem?_cons_succ, x0, k2, tru]
      cases b <;> simp
    cases hbu : (b || !u) with
    | true =>
      rw [hbu] at ht2
      refine ss_rt ((ite_t ht2).trans (ss_rt (ret_rt ?_)))
      simp [den, Res.bind, optR, getV, opS, int2]
    | false =>
      rw [hbu] at ht2
      refine (ss_nx (ite_f ht2)).trans (ss_rt (ret_rt ?_))
      simp only [den, dens, Res.bind, optR, getS, getV, List.getElem?_cons_zero, List.getElem?_cons_succ, opS, mulS, mulI, m1, m2, and_self, true_or, ↓reduceIte, Option.map_some, List.map_cons, List.map_nil, shr_sh, hg, int2, fdivI, g1, g2, hl, Bool.false_eq_true]
theorem p_clear (n : Nat) (r : Rd) (t : Se) (p q : Nat) (S : Sto) (h1 : 2 ≤ p) (h2 : p ≤ 40) (h3 : 2 ≤ q) (h4 : q ≤ 20) (h5 : p * q ≤ 200) : Phi T (n + 3) 5 [.int p, .int q, wayD r t] S = .ok (.sh (.int (clearV r t p q))) S := by
  rw [phi_at h_clear_up_to]
  have hr := p_rolls0 (n := n) (S := S) hw h_are_rolls (a := .int p) (b := .int q) rfl rfl
  rw [rolls_ok (by omega) (by omega) (by omega) (by omega) (by exact_mod_cast h5)] at hr
  have w1 : Phi T (n + 2) I.f_is_word [.str (rdW r), .tup [.str "both", .str "long", .str "short"]] S = .ok (.sh (.bl true)) S := word_r (n + 1) r S
  have w2 : Phi T (n + 2) I.f_is_word [.str (seW t), .tup [.str "free", .str "kept", .str "nought"]] S = .ok (.sh (.bl true)) S := word_s (n + 1) t S
  have w3 : Phi T (n + 2) I.f_is_wide [wayD r t, .int 2, .int 2] S = .ok (.sh (.bl true)) S := p_wide (n := n + 1) hw rfl
  have g : Phi T (n + 2) 4 [.int p, .int q] S = _ := p_gcd (n + 1) p q S (by omega)
  have hg : 0 < Nat.gcd p q := Nat.gcd_pos_of_pos_left _ (by omega)
  have hg2 : Nat.gcd p q ≤ p := Nat.gcd_le_left _ (by omega)
  have g1 : 0 < ((Nat.gcd p q : Nat) : Int) := by omega
  have g2 : ((Nat.gcd p q : Nat) : Int) < 1073741824 := by omega
  have hlcm : 0 < Nat.lcm p q := Nat.lcm_pos (by omega) (by omega)
  have hl : ((p : Int) * (q : Int) / ((Nat.gcd p q : Nat) : Int)) = ((Nat.lcm p q : Nat) : Int) := by
    have : ((p * q / Nat.gcd p q : Nat) : Int) = ((p : Int) * (q : Int) / ((Nat.gcd p q : Nat) : Int)) := by
      rw [Int.natCast_ediv, Int.natCast_mul]
    rw [← this]; rfl
  have m1 : -(2 ^ 64 : Int) < (p : Int) := by omega
  have m2 : (p : Int) < (2 ^ 64 : Int) := by omega
  have c1 : (((q - 1 : Nat) : Nat) : Int) = (q : Int) - 1 := by omega
  have c2 : (((p - 1 : Nat) : Nat) : Int) = (p : Int) - 1 := by omega
  have c3 : (((Nat.lcm p q - 1 : Nat) : Nat) : Int) = ((Nat.lcm p q : Nat) : Int) - 1 := by omega
  have hv : ((clearV r t p q : Nat) : Int) = if isSh r = true then (if useful t = true then (q : Int) - 1 else 0) else if (isLo r || !useful t) = true then (p : Int) - 1 else ((Nat.lcm p q : Nat) : Int) - 1 := by
    cases r <;> cases t <;> simp [clearV, isSh, isLo, useful, c1, c2, c3]
  have x0 := way_0 r t S
  have x1 := way_1 r t S
  have k0 := q_use t S
  have k1 := q_sh r S
  have k2 := q_lo r S
  rw [hv]
  exact clear_P (Phi T (n + 2)) (D.str (rdW r)) (D.str (seW t)) (wayD r t) p q _ _ S (useful t) (isSh r) (isLo r) hr w1 w2 w3 x0 x1 k0 k1 k2 g g1 g2 (by omega) (by omega) hl
theorem clear_car (n : Nat) (a b w : D) (S : Sto) (ha : isD a = true) (hb : isD b = true) (h : rollsB a b = false) : Phi T (n + 3) 5 [a, b, w] S = .ex ⟨1, none⟩ S := by
  rw [phi_at h_clear_up_to]
  simp [b_clear_up_to, p_rolls0 hw h_are_rolls, ha, hb, h, runF, denSs, denS, den, dens, deni, Res.bind, Res.fl, optR, optB, getV, getS, setIs, setG, killL, setPs, putS, forL, opS, addS, mulS, mulI, modI, fdivI, powI, int2, cmpS, cmpI, eqS, isNon, idxS, dcv, dcs, itv, lsv, sqv, vw, tru, biS, isiS, Ty.isI, Ty.isB, Ty.isS, Ty.isT, Ty.isL, mtS, mtK, slcP, partS, Rv.shr, L2.atI, L2.ixN, intsD, boolsD, handL, subc, CEs.len, sz]
theorem clear_thin (n : Nat) (a b w : D) (S : Sto) (ha : isD a = true) (hb : isD b = true) (h : rollsB a b = true) (hwd : isD w = true) (hn : wd w 2 2 = false) : Phi T (n + 3) 5 [a, b, w] S = .ex ⟨2, none⟩ S := by
  rw [phi_at h_clear_up_to]
  simp [b_clear_up_to, p_rolls0 hw h_are_rolls, p_wide hw, ha, hb, h, hwd, hn, runF, denSs, denS, den, dens, deni, Res.bind, Res.fl, optR, optB, getV, getS, setIs, setG, killL, setPs, putS, forL, opS, addS, mulS, mulI, modI, fdivI, powI, int2, cmpS, cmpI, eqS, isNon, idxS, dcv, dcs, itv, lsv, sqv, vw, tru, biS, isiS, Ty.isI, Ty.isB, Ty.isS, Ty.isT, Ty.isL, mtS, mtK, slcP, partS, Rv.shr, L2.atI, L2.ixN, intsD, boolsD, handL, subc, CEs.len, sz]
theorem clear_word (n : Nat) (a b u v : D) (S : Sto) (ha : isD a = true) (hb : isD b = true) (h : rollsB a b = true) (r1 r2 : Bool) (h1 : ∀ S, Phi T (n + 2) I.f_is_word [u, .tup [.str "both", .str "long", .str "short"]] S = .ok (.sh (.bl r1)) S) (h2 : r1 = true → ∀ S, Phi T (n + 2) I.f_is_word [v, .tup [.str "free", .str "kept", .str "nought"]] S = .ok (.sh (.bl r2)) S) (h3 : (r1 && r2) = false) : Phi T (n + 3) 5 [a, b, .tup [u, v]] S = .ex ⟨2, none⟩ S := by
  rw [phi_at h_clear_up_to]
  cases r1 with
  | false => simp [b_clear_up_to, p_rolls0 hw h_are_rolls, p_wide hw, isD_non, isD_bl, isD_int, isD_str, isD_tup, isD_lst, ha, hb, h, wd, h1, runF, denSs, denS, den, dens, deni, Res.bind, Res.fl, optR, optB, getV, getS, setIs, setG, killL, setPs, putS, forL, opS, addS, mulS, mulI, modI, fdivI, powI, int2, cmpS, cmpI, eqS, isNon, idxS, dcv, dcs, itv, lsv, sqv, vw, tru, biS, isiS, Ty.isI, Ty.isB, Ty.isS, Ty.isT, Ty.isL, mtS, mtK, slcP, partS, Rv.shr, L2.atI, L2.ixN, intsD, boolsD, handL, subc, CEs.len, sz]
  | true =>
    have h3 : r2 = false := by simpa using h3
    subst h3
    have h2 := h2 rfl
    simp [b_clear_up_to, p_rolls0 hw h_are_rolls, p_wide hw, isD_non, isD_bl, isD_int, isD_str, isD_tup, isD_lst, ha, hb, h, wd, h1, h2, runF, denSs, denS, den, dens, deni, Res.bind, Res.fl, optR, optB, getV, getS, setIs, setG, killL, setPs, putS, forL, opS, addS, mulS, mulI, modI, fdivI, powI, int2, cmpS, cmpI, eqS, isNon, idxS, dcv, dcs, itv, lsv, sqv, vw, tru, biS, isiS, Ty.isI, Ty.isB, Ty.isS, Ty.isT, Ty.isL, mtS, mtK, slcP, partS, Rv.shr, L2.atI, L2.ixN, intsD, boolsD, handL, subc, CEs.len, sz]
/-! ### what can be noted -/
theorem shs_len (t : Se) (s L : Int) (hL : L ≤ 2000) : (shs t s L).length ≤ 2100 := by
  cases t <;> simp [shs, rng_len]
  omega
theorem shs_P (P : Call) (B W : D) (t : Se) (l s L : Int) (S : Sto) (hs0 : 0 < s) (hL0 : 0 ≤ L) (hL : L ≤ 2000) (x1 : ∀ S, idxS (.sh W) (.sh (.int 1)) S = some (.sh B)) (n1 : ∀ S, cmpS .eq (.sh B) (.sh (.str "nought")) S = some (isNo t)) (n2 : ∀ S, cmpS .eq (.sh B) (.sh (.str "free")) S = some (isFr t)) (ss : CSs) :
    denSs (.cons (.set 5 (.lst (.cons (.op .mod (.op .add (.idx (.varB 3) (.con (.int 1))) (.varB 4)) (.varB 1)) (.nil)))) (.cons (.ite (.cmp .eq (.idx (.varB 2) (.con (.int 1))) (.con (.str "nought")))
(.cons (.set 5 (.lst (.cons (.op .mod (.varB 4) (.varB 1)) (.nil)))) (.nil))
(.nil)) (.cons (.ite (.cmp .eq (.idx (.varB 2) (.con (.int 1))) (.con (.str "free")))
(.cons (.set 5 (.op .add (.varB 5) (.comp (.range1 (.op .add (.varB 4) (.con (.int 1)))) (.nm 9) [9] (.con (.bl true)) b__law_ends_e0))) (.nil))
(.nil)) ss))) P [some (.sh (.int l)), some (.sh (.int s)), some (.sh W), some (.sh (.tup [.int (l - 1), .int 1])), some (.sh (.int L)), none, none, none, none, none] S = denSs ss P [some (.sh (.int l)), some (.sh (.int s)), some (.sh W), some (.sh (.tup [.int (l - 1), .int 1])), some (.sh (.int L)), some (.sh (.lst ((shs t s L).map .int))), none, none, none, none] S := by
  have y1 : ∀ S, idxS (.sh (.tup [.int (l - 1), .int 1])) (.sh (.int 1)) S = some (.sh (.int 1)) := fun S => by simp [idxS, dcv, sqv, L2.atI, L2.ixN]
  have hin : inR (L + 1) := ⟨by omega, by omega⟩
  have z1 : ((L + 1).toNat ≤ PySem.sizeLine) = True := szB (by omega)
  have z2 : (1 + (L + 1).toNat ≤ PySem.sizeLine) = True := szB (by omega)
  have hc : ∀ a0 a2 a3 a4 a5 a6 a7 a8, compL (.nm 9) (fun _ S => .ok (.sh (.bl true)) S) (den b__law_ends_e0 P) (rangeD 0 (L + 1).toNat) [a0, some (.sh (.int s)), a2, a3, a4, a5, a6, a7, a8, none] S = .ok (((rngI 0 (L + 1).toNat).map (· % s)).map .int) S := by
    intro a0 a2 a3 a4 a5 a6 a7 a8
    rw [rangeD_rng, List.map_map]
    exact compL_all fun i hi => ⟨_, .sh (.int (i % s)), rfl, rfl, by simp [b__law_ends_e0, hs0, runF, denSs, denS, den, dens, deni, Res.bind, Res.fl, optR, optB, getV, getS, setIs, setG, killL, setPs, putS, forL, opS, addS, mulS, mulI, modI, fdivI, powI, int2, cmpS, cmpI, eqS, isNon, idxS, dcv, dcs, itv, lsv, sqv, vw, tru, biS, isiS, Ty.isI, Ty.isB, Ty.isS, Ty.isT, Ty.isL, mtS, mtK, slcP, partS, Rv.shr, L2.atI, L2.ixN, intsD, boolsD, handL, subc, CEs.len, sz], rfl⟩
  refine (ss_nx (ρ' := [some (.sh (.int l)), some (.sh (.int s)), some (.sh W), some (.sh (.tup [.int (l - 1), .int 1])), some (.sh (.int L)), some (.sh (.lst [.int ((1 + L) % s)])), none, none, none, none]) (S' := S) ?_).trans ?_
  · simp [y1, hs0, denS, den, dens, Res.bind, Res.fl, optR, getV, opS, addS, int2, modI, Rv.shr]
  have t1 : ∀ v5, den (.cmp .eq (.idx (.varB 2) (.con (.int 1))) (.con (.str "nought"))) P [some (.sh (.int l)), some (.sh (.int s)), some (.sh W), some (.sh (.tup [.int (l - 1), .int 1])), some (.sh (.int L)), v5, none, none, none, none] S = .ok (.sh (.bl (isNo t))) S := by
    intro v5
    simp only [den, Res.bind, optR, optB, getV, List.getElem?_cons_zero, List.getElem?_cons_succ, x1, n1]
  have t2 : ∀ v5, den (.cmp .eq (.idx (.varB 2) (.con (.int 1))) (.con (.str "free"))) P [some (.sh (.int l)), some (.sh (.int s)), some (.sh W), some (.sh (.tup [.int (l - 1), .int 1])), some (.sh (.int L)), v5, none, none, none, none] S = .ok (.sh (.bl (isFr t))) S := by
    intro v5
    simp only [den, Res.bind, optR, optB, getV, List.getElem?_cons_zero, List.getElem?_cons_succ, x1, n2]
  cases t with
  | kept => exact (ss_nx (ite_f (t1 _))).trans ((ss_nx (ite_f (t2 _))).trans rfl)
  | nought =>
    refine (ss_nx (ρ' := [some (.sh (.int l)), some (.sh (.int s)), some (.sh W), some (.sh (.tup [.int (l - 1), .int 1])), some (.sh (.int L)), some (.sh (.lst [.int (L % s)])), none, none, none, none]) (S' := S) ((ite_t (t1 _)).trans ?_)).trans ((ss_nx (ite_f (t2 _))).trans rfl)
    simp [hs0, denSs, denS, den, dens, Res.bind, Res.fl, optR, getV, opS, int2, modI, Rv.shr]
  | free =>
    refine (ss_nx (ite_f (t1 _))).trans ((ss_nx (ρ' := [some (.sh (.int l)), some (.sh (.int s)), some (.sh W), some (.sh (.tup [.int (l - 1), .int 1])), some (.sh (.int L)), some (.sh (.lst ((shs .free s L).map .int))), none, none, none, none]) (S' := S) ((ite_t (t2 _)).trans ?_)).trans rfl)
    simp [hin, hc, z1, z2, rng_len, shs, -List.map_map, denSs, denS, den, dens, deni, Res.bind, Res.fl, optR, getV, killL, opS, addS, lsv, int2, Rv.shr]
theorem p_ends (n : Nat) (r : Rd) (t : Se) (l s L : Int) (S : Sto) (h1 : 2 ≤ l) (h3 : 2 ≤ s) (hL0 : 0 ≤ L) (hL : L ≤ 2000) : Phi T (n + 1) 8 [.int l, .int s, wayD r t, .tup [.int (l - 1), .int 1], .int L] S = .ok (.nl ((keysOf (raw r t l s L)).map kyL)) S := by
  rw [phi_at h__law_ends]
  have hl0 : 0 < l := by omega
  have hs0 : 0 < s := by omega
  have hloop : ∀ (A : Int), (l - 1 + L) % l = A → ∀ (os : List Int), os.length ≤ 2100 → forL (.nm 7) (denSs b__law_ends_l0 (Phi T n)) [7, 8] (os.map .int) [some (.sh (.int l)), some (.sh (.int s)), some (.sh (wayD r t)), some (.sh (.tup [.int (l - 1), .int 1])), some (.sh (.int L)), some (.sh (.lst (os.map .int))), some (.nd []), none, none, none] S =
      .nx [some (.sh (.int l)), some (.sh (.int s)), some (.sh (wayD r t)), some (.sh (.tup [.int (l - 1), .int 1])), some (.sh (.int L)), some (.sh (.lst (os.map .int))), some (.nd ((keysOf (os.map (proj r A))).map fun k => (kyL k, .bl true))), none, none, none] S := by
    intro A hAe os hos
    have h := forL_det (S := S) (enc := fun i : Int => .int i) (g := .nm 7) (body := denSs b__law_ends_l0 (Phi T n)) (ks := [7, 8]) (fun pre => [some (.sh (.int l)), some (.sh (.int s)), some (.sh (wayD r t)), some (.sh (.tup [.int (l - 1), .int 1])), some (.sh (.int L)), some (.sh (.lst (os.map .int))), some (.nd ((keysOf (pre.map (proj r A))).map fun k => (kyL k, .bl true))), none, none, none]) os [] ?_ rfl
    · exact h
    · intro pre o post hpp
      have hpl : pre.length ≤ 2100 := by have := congrArg List.length hpp; simp at this; omega
      have hk : (keysOf (pre.map (proj r A))).length ≤ 2100 := by
        have := nodup_le (nodup_keysOf (pre.map (proj r A))) (U := pre.map (proj r A)) fun x hx => mem_keysOf.mp hx
        rw [List.length_map] at this; omega
      have e1 : keysOf ((pre ++ [o]).map (proj r A)) = insK (keysOf (pre.map (proj r A))) (proj r A o) := by simp [keysOf]
      rw [e1]
      generalize keysOf (pre.map (proj r A)) = M at hk ⊢
      have z2 : (M.length < PySem.sizeLine) = True := szL (by omega)
      have hput := kput nk_kyL (.bl true) (proj r A o) M
      have hkey := key_kyL (proj r A o)
      have cA : cutD [.int A, .int o] none (some 1) = [.int A] := by rw [cut_take (by decide)]; rfl
      have cB : cutD [.int A, .int o] (some 1) none = [.int o] := by rw [cut_drop (by decide)]; rfl
      have hsel : selD ["long", "short", "both"] [.tup [.int A], .tup [.int o], .tup [.int A, .int o]] (rdW r) = some (kyL (proj r A o)) := by
        have s1 : ¬ (("long" : PySem.Str) = "short") := by decide +kernel
        have s2 : ¬ (("long" : PySem.Str) = "both") := by decide +kernel
        have s3 : ¬ (("short" : PySem.Str) = "both") := by decide +kernel
        cases r <;> simp [selD, rdW, proj, s1, s2, s3]
      have x0 := fun S => way_0 r t S
      refine ⟨[some (.sh (.int l)), some (.sh (.int s)), some (.sh (wayD r t)), some (.sh (.tup [.int (l - 1), .int 1])), some (.sh (.int L)), some (.sh (.lst (os.map .int))), some (.nd ((insK M (proj r A o)).map fun k => (kyL k, .bl true))), some (.sh (.int o)), some (.sh (.tup [.int A, .int o])), none], .inl ?_, by simp [killL]⟩
      have y0 : ∀ S, idxS (.sh (.tup [.int (l - 1), .int 1])) (.sh (.int 0)) S = some (.sh (.int (l - 1))) := fun S => by simp [idxS, dcv, sqv, L2.atI, L2.ixN]
      generalize wayD r t = W at x0 ⊢
      have hvw : ∀ S, vw (.sh (kyL (proj r A o))) S = some (kyL (proj r A o)) := fun _ => rfl
      generalize kyL (proj r A o) = KK at hput hkey hsel hvw ⊢
      simp only [stp, setG, b__law_ends_l0, denSs, denS, den, dens, Res.bind, Res.fl, optR, getV, getS, List.set_cons_zero, List.set_cons_succ, List.getElem?_cons_zero, List.getElem?_cons_succ, List.map_cons, List.map_nil, shr_sh, y0, opS, addS, int2, modI, hl0, ↓reduceIte, Option.map_some, hAe, partS, slcP, cA, cB, x0, hsel, putS, hvw, hkey, List.length_map, z2, and_self, hput]
  have hz := shs_len t s L hL
  have hl2 := hloop _ rfl (shs t s L) (by omega)
  have hraw : (shs t s L).map (proj r ((l - 1 + L) % l)) = raw r t l s L := rfl
  rw [hraw] at hl2
  have x1 := fun S => way_1 r t S
  have n1 : ∀ S, cmpS .eq (.sh (.str (seW t))) (.sh (.str "nought")) S = some (isNo t) := fun S => q_no t S
  have n2 : ∀ S, cmpS .eq (.sh (.str (seW t))) (.sh (.str "free")) S = some (isFr t) := fun S => q_fr t S
  refine run_rt rfl ?_
  unfold b__law_ends
  refine (shs_P (Phi T n) (D.str (seW t)) (wayD r t) t l s L S hs0 hL0 hL x1 n1 n2 _).trans ?_
  refine (ss_nx (ρ' := [some (.sh (.int l)), some (.sh (.int s)), some (.sh (wayD r t)), some (.sh (.tup [.int (l - 1), .int 1])), some (.sh (.int L)), some (.sh (.lst ((shs t s L).map .int))), some (.nd []), none, none, none]) (S' := S) rfl).trans ?_
  have hf : denS (.for_ (.val (.var 5)) (.nm 7) b__law_ends_l0 [7, 8]) (Phi T n) [some (.sh (.int l)), some (.sh (.int s)), some (.sh (wayD r t)), some (.sh (.tup [.int (l - 1), .int 1])), some (.sh (.int L)), some (.sh (.lst ((shs t s L).map .int))), some (.nd []), none, none, none] S = _ := hl2
  refine (ss_nx hf).trans (ss_rt (ret_rt ?_))
  simp only [den, dens, Res.bind, optR, getV, List.getElem?_cons_zero, List.getElem?_cons_succ, biS, dcv, List.map_map]
  rfl
/-! ### due -/
theorem foldK_len {α : Type} [DecidableEq α] : ∀ (E M : List α), (E.foldl insK M).length ≤ M.length + E.length
  | [], M => by simp
  | x :: E, M => by
    have h1 := foldK_len E (insK M x)
    have h2 : (insK M x).length ≤ M.length + 1 := by unfold insK; split <;> simp
    rw [List.foldl_cons, List.length_cons]; omega
theorem due_l0 (P : Call) (a0 a1 a2 a4 a5 : Option Rv) (S : Sto) (E M : List (List Int)) (hM : M.length + E.length ≤ 15000000) :
    ∃ o6, forL (.nm 6) (denSs b__law_due_l0 P) [] (E.map kyL) [a0, a1, a2, some (.nd (M.map fun k => (kyL k, .bl true))), a4, a5, none] S = .nx [a0, a1, a2, some (.nd ((E.foldl insK M).map fun k => (kyL k, .bl true))), a4, a5, o6] S := by
  have key := forL_typ (S := S) (enc := kyL) (g := .nm 6) (body := denSs b__law_due_l0 P) (ks := []) (fun pre ρ => ∃ o6, ρ = [a0, a1, a2, some (.nd ((pre.foldl insK M).map fun k => (kyL k, .bl true))), a4, a5, o6] ∧ (pre.foldl insK M).length ≤ M.length + pre.length) E [] [a0, a1, a2, some (.nd (M.map fun k => (kyL k, .bl true))), a4, a5, none] ?_ ⟨none, rfl, Nat.le_refl _⟩
  · obtain ⟨ρ', h, o6, rfl, _⟩ := key
    exact ⟨o6, h⟩
  · rintro pre k post hpp ρ ⟨o6, rfl, hle⟩
    have hpl : pre.length ≤ E.length := by have := congrArg List.length hpp; simp at this; omega
    have hput := kput nk_kyL (.bl true) k (pre.foldl insK M)
    have hkey := key_kyL k
    have hvw : vw (.sh (kyL k)) S = some (kyL k) := rfl
    have z : ((pre.foldl insK M).length < PySem.sizeLine) = True := szL (by omega)
    have hle2 := foldK_len (pre ++ [k]) M
    refine ⟨[a0, a1, a2, some (.nd ((insK (pre.foldl insK M) k).map fun k => (kyL k, .bl true))), a4, a5, some (.sh (kyL k))], .inl ?_, some (.sh (kyL k)), by simp [killL], hle2⟩
    generalize pre.foldl insK M = N at hput z ⊢
    generalize kyL k = KK at hput hkey hvw ⊢
    simp only [stp, setG, b__law_due_l0, denSs, denS, den, Res.fl, optR, getV, List.set_cons_zero, List.set_cons_succ, List.getElem?_cons_zero, List.getElem?_cons_succ, putS, hvw, hkey, List.length_map, z, and_self, ↓reduceIte, shr_sh, hput]
theorem due_body (P : Call) (l s z : Int) (W : D) (S : Sto) (E M : List (List Int)) (hE : P 8 [.int l, .int s, W, .tup [.int (l - 1), .int 1], .int z] S = .ok (.nl (E.map kyL)) S) (hM : M.length + E.length ≤ 15000000) :
    ((∃ k ∈ E, k ∈ M) → denSs b__law_due_l1 P [some (.sh (.int l)), some (.sh (.int s)), some (.sh W), some (.nd (M.map fun k => (kyL k, .bl true))), some (.sh (.int z)), none, none] S = .rt (.sh (.int (z - 1))) S) ∧
    ((¬ ∃ k ∈ E, k ∈ M) → ∃ ρ, denSs b__law_due_l1 P [some (.sh (.int l)), some (.sh (.int s)), some (.sh W), some (.nd (M.map fun k => (kyL k, .bl true))), some (.sh (.int z)), none, none] S = .nx ρ S ∧ killL ρ [5, 6] = [some (.sh (.int l)), some (.sh (.int s)), some (.sh W), some (.nd ((E.foldl insK M).map fun k => (kyL k, .bl true))), some (.sh (.int (z + 1))), none, none]) := by
  have h1 : denS (.set 5 (.call 8 (.cons (.var 0) (.cons (.var 1) (.cons (.var 2) (.cons (.tup (.cons (.op .sub (.varB 0) (.con (.int 1))) (.cons (.con (.int 1)) (.nil)))) (.cons (.var 4) (.nil)))))))) P [some (.sh (.int l)), some (.sh (.int s)), some (.sh W), some (.nd (M.map fun k => (kyL k, .bl true))), some (.sh (.int z)), none, none] S = .nx [some (.sh (.int l)), some (.sh (.int s)), some (.sh W), some (.nd (M.map fun k => (kyL k, .bl true))), some (.sh (.int z)), some (.sh (.lst (E.map kyL))), none] S := by
    generalize M.map (fun k => (kyL k, D.bl true)) = MM
    simp only [denS, den, dens, Res.bind, Res.fl, optR, getV, getS, opS, int2, List.getElem?_cons_zero, List.getElem?_cons_succ, List.map_cons, List.map_nil, Option.map_some, shr_sh, hE, shr_nl, List.set_cons_zero, List.set_cons_succ]
  have hc : compL (.nm 6) (den b__law_due_t0 P) (den b__law_due_e0 P) (E.map kyL) [some (.sh (.int l)), some (.sh (.int s)), some (.sh W), some (.nd (M.map fun k => (kyL k, .bl true))), some (.sh (.int z)), some (.sh (.lst (E.map kyL))), none] S = .ok ((E.filter fun k => decide (k ∈ M)).map kyL) S := by
    refine compL_typ fun k hk => ⟨_, .sh (.bl (decide (k ∈ M))), rfl, ?_, rfl, fun _ => ⟨.sh (kyL k), ?_, rfl⟩⟩
    · have hin : inS (.sh (kyL k)) (.nd (M.map fun k => (kyL k, .bl true))) S = some (decide (k ∈ M)) := by
        simp only [inS, dcv, vw, Option.bind_some, key_kyL, ↓reduceIte]
        rw [kget nk_kyL]
        exact congrArg some (decide_eq_decide.mpr Iff.rfl)
      generalize M.map (fun k => (kyL k, D.bl true)) = MM at hin ⊢
      generalize kyL k = KK at hin ⊢
      simp only [b__law_due_t0, den, Res.bind, optR, optB, getV, List.set_cons_zero, List.set_cons_succ, List.getElem?_cons_zero, List.getElem?_cons_succ, c_inn, hin]
    · simp only [b__law_due_e0, den, optR, getS, getV, List.set_cons_zero, List.set_cons_succ, List.getElem?_cons_zero, List.getElem?_cons_succ]
  have hfl := List.length_filter_le (fun k : List Int => decide (k ∈ M)) E
  have z1 : ((E.filter fun k => decide (k ∈ M)).length ≤ PySem.sizeLine) = True := szB (by omega)
  have hne := ne_nil (S := S) (ds := (E.filter fun k => decide (k ∈ M)).map kyL) (okds_of fun d hd => by obtain ⟨k, _, rfl⟩ := List.mem_map.mp hd; exact okd_kyL k)
  have ht : den (.cmp .ne (.comp (.val (.varB 5)) (.nm 6) [6] (b__law_due_t0) b__law_due_e0) (.lst (.nil))) P [some (.sh (.int l)), some (.sh (.int s)), some (.sh W), some (.nd (M.map fun k => (kyL k, .bl true))), some (.sh (.int z)), some (.sh (.lst (E.map kyL))), none] S = .ok (.sh (.bl (!((E.filter fun k => decide (k ∈ M)).map kyL).isEmpty))) S := by
    generalize hF : (E.filter fun k => decide (k ∈ M)).map kyL = F at hc hne ⊢
    have z2 : (F.length ≤ PySem.sizeLine) = True := by rw [← hF, List.length_map]; exact z1
    generalize M.map (fun k => (kyL k, D.bl true)) = MM at hc ⊢
    simp only [den, dens, deni, Res.bind, optR, optB, getV, List.getElem?_cons_zero, List.getElem?_cons_succ, dcs, itv, killL, List.set_cons_zero, List.set_cons_succ, hc, z2, ↓reduceIte, List.map_nil, hne]
  have hem : (!((E.filter fun k => decide (k ∈ M)).map kyL).isEmpty) = true ↔ ∃ k ∈ E, k ∈ M := by
    simp [List.isEmpty_iff, List.filter_eq_nil_iff]
  constructor
  · intro hx
    rw [hem.mpr hx] at ht
    unfold b__law_due_l1
    refine (ss_nx h1).trans (ss_rt ((ite_t ht).trans (ss_rt (ret_rt ?_))))
    simp only [den, Res.bind, optR, getV, List.getElem?_cons_zero, List.getElem?_cons_succ, opS, int2, Option.map_some]
  · intro hx
    have hb : (!((E.filter fun k => decide (k ∈ M)).map kyL).isEmpty) = false := by
      cases h : (!((E.filter fun k => decide (k ∈ M)).map kyL).isEmpty) with
      | false => rfl
      | true => exact absurd (hem.mp h) hx
    rw [hb] at ht
    obtain ⟨o6, h0⟩ := due_l0 P (some (.sh (.int l))) (some (.sh (.int s))) (some (.sh W)) (some (.sh (.int z))) (some (.sh (.lst (E.map kyL)))) S E M hM
    have hf : denS (.for_ (.val (.var 5)) (.nm 6) b__law_due_l0 []) P [some (.sh (.int l)), some (.sh (.int s)), some (.sh W), some (.nd (M.map fun k => (kyL k, .bl true))), some (.sh (.int z)), some (.sh (.lst (E.map kyL))), none] S = _ := h0
    refine ⟨[some (.sh (.int l)), some (.sh (.int s)), some (.sh W), some (.nd ((E.foldl insK M).map fun k => (kyL k, .bl true))), some (.sh (.int (z + 1))), some (.sh (.lst (E.map kyL))), o6], ?_, rfl⟩
    unfold b__law_due_l1
    refine (ss_nx h1).trans ((ss_nx (ite_f ht)).trans ((ss_nx hf).trans ((ss_nx ?_).trans rfl)))
    simp only [denS, den, Res.bind, Res.fl, optR, getV, List.getElem?_cons_zero, List.getElem?_cons_succ, opS, addS, Option.map_some, shr_sh, List.set_cons_zero, List.set_cons_succ]
theorem raw_len (r : Rd) (t : Se) (l s L : Int) (hL : L ≤ 2000) : (raw r t l s L).length ≤ 2100 := by
  rw [raw, List.length_map]; exact shs_len t s L hL
theorem keysOf_len {α : Type} [DecidableEq α] (l : List α) : (keysOf l).length ≤ l.length := by
  have := foldK_len l []
  simpa [keysOf] using this
theorem due_loop (n : Nat) (r : Rd) (t : Se) (l s : Int) (R : Nat) (S : Sto) (h1 : 2 ≤ l) (h3 : 2 ≤ s) (hR : R ≤ 1000) (hA : ∀ L : Nat, L < R → ∀ L' : Nat, L' < L → ∀ k ∈ raw r t l s L, k ∉ raw r t l s L') (hB : ∃ k ∈ raw r t l s R, ∃ L' : Nat, L' < R ∧ k ∈ raw r t l s L') :
    ∀ (f L : Nat) (z : Int) (M : List (List Int)), z = L → R - L < f → L ≤ R → (∀ k, k ∈ M ↔ ∃ L' : Nat, L' < L ∧ k ∈ raw r t l s L') → M.length ≤ 2100 * L →
    whileL (den b__law_due_w0 (Phi T (n + 1))) (denSs b__law_due_l1 (Phi T (n + 1))) [5, 6] f [some (.sh (.int l)), some (.sh (.int s)), some (.sh (wayD r t)), some (.nd (M.map fun k => (kyL k, .bl true))), some (.sh (.int z)), none, none] S = .rt (.sh (.int ((R : Int) - 1))) S
  | 0, _, _, _, _, h, _, _, _ => by omega
  | f + 1, L, z, M, hz, hf, hL, hM, hl => by
    have hE := p_ends n r t l s z S h1 h3 (by omega) (by omega)
    have hk := keysOf_len (raw r t l s z)
    have hk2 := raw_len r t l s z (by omega)
    have hw0 : den b__law_due_w0 (Phi T (n + 1)) [some (.sh (.int l)), some (.sh (.int s)), some (.sh (wayD r t)), some (.nd (M.map fun k => (kyL k, .bl true))), some (.sh (.int z)), none, none] S = .ok (.sh (.bl true)) S := by
      have hz2 : decide (z ≤ 1000) = true := decide_eq_true (by omega)
      simp only [b__law_due_w0, den, Res.bind, optR, optB, getV, List.getElem?_cons_zero, List.getElem?_cons_succ, c_le, hz2]
    obtain ⟨b1, b2⟩ := due_body (Phi T (n + 1)) l s z (wayD r t) S (keysOf (raw r t l s z)) M hE (by omega)
    by_cases hLR : L = R
    · subst hLR
      have hx : ∃ k ∈ keysOf (raw r t l s z), k ∈ M := by
        obtain ⟨k, g1, L', g2, g3⟩ := hB
        exact ⟨k, mem_keysOf.mpr (hz ▸ g1), (hM k).mpr ⟨L', g2, g3⟩⟩
      rw [whileL, hw0]
      simp only [tru, b1 hx]
      rw [hz]
    · have hx : ¬ ∃ k ∈ keysOf (raw r t l s z), k ∈ M := by
        rintro ⟨k, g1, g2⟩
        obtain ⟨L', g3, g4⟩ := (hM k).mp g2
        exact hA L (by omega) L' g3 k (hz ▸ mem_keysOf.mp g1) g4
      obtain ⟨ρ, e1, k1⟩ := b2 hx
      have ih := due_loop n r t l s R S h1 h3 hR hA hB f (L + 1) (z + 1) ((keysOf (raw r t l s z)).foldl insK M) (by omega) (by omega) (by omega) (fun k => by
        rw [mem_foldK, mem_keysOf, hM]
        constructor
        · rintro (⟨L', g1, g2⟩ | g)
          · exact ⟨L', by omega, g2⟩
          · exact ⟨L, by omega, hz ▸ g⟩
        · rintro ⟨L', g1, g2⟩
          by_cases h : L' = L
          · subst h; exact .inr (hz ▸ g2)
          · exact .inl ⟨L', by omega, g2⟩) (by have := foldK_len (keysOf (raw r t l s z)) M; omega)
      rw [whileL, hw0]
      simp only [tru, e1, k1]
      exact ih
theorem p_due (n : Nat) (r : Rd) (t : Se) (l s : Int) (R : Nat) (S : Sto) (h1 : 2 ≤ l) (h3 : 2 ≤ s) (hR : R ≤ 1000) (hA : ∀ L : Nat, L < R → ∀ L' : Nat, L' < L → ∀ k ∈ raw r t l s L, k ∉ raw r t l s L') (hB : ∃ k ∈ raw r t l s R, ∃ L' : Nat, L' < R ∧ k ∈ raw r t l s L') :
    Phi T (n + 2) 9 [.int l, .int s, wayD r t] S = .ok (.sh (.int ((R : Int) - 1))) S := by
  rw [phi_at h__law_due]
  have h := due_loop n r t l s R S h1 h3 hR hA hB 2000 0 0 [] rfl (by omega) (Nat.zero_le _) (fun k => by simp) (Nat.zero_le _)
  refine run_rt rfl ?_
  unfold b__law_due
  have hw : denS (.while_ 2000 b__law_due_w0 b__law_due_l1 [5, 6]) (Phi T (n + 1)) [some (.sh (.int l)), some (.sh (.int s)), some (.sh (wayD r t)), some (.nd []), some (.sh (.int 0)), none, none] S = .rt (.sh (.int ((R : Int) - 1))) S := h
  refine (ss_nx (ρ' := [some (.sh (.int l)), some (.sh (.int s)), some (.sh (wayD r t)), some (.nd []), some (.sh (.int 0)), none, none]) (S' := S) rfl).trans (ss_rt hw)
/-! ### the first length that is met again -/
theorem mod_dvd {a l : Int} {L L' : Nat} (h : (a + L) % l = (a + L') % l) (hL : L' ≤ L) : l ∣ ((L - L' : Nat) : Int) := by
  have h2 := Int.emod_emod_of_dvd (a + L - (a + L')) (Int.dvd_refl l)
  have : (a + L - (a + L')) % l = 0 := by rw [Int.sub_emod, h, Int.sub_self, Int.zero_emod]
  have e : a + (L : Int) - (a + L') = ((L - L' : Nat) : Int) := by omega
  rw [e] at this
  exact Int.dvd_of_emod_eq_zero this
theorem dvd_le {l : Nat} {d : Nat} (h : (l : Int) ∣ (d : Int)) (hd : 0 < d) : l ≤ d := Nat.le_of_dvd hd (Int.natCast_dvd_natCast.mp h)
theorem mod_per {a l : Int} {d : Nat} (h : l ∣ (d : Int)) : (a + d) % l = a % l := by
  obtain ⟨k, hk⟩ := h
  rw [hk, Int.add_mul_emod_self_left]
theorem rep {p q : Nat} (hp : 2 ≤ p) (hq : 2 ≤ q) (r : Rd) (t : Se) :
    (∀ L : Nat, L < clearV r t p q + 1 → ∀ L' : Nat, L' < L → ∀ k ∈ raw r t p q L, k ∉ raw r t p q L') ∧ (∃ k ∈ raw r t p q (clearV r t p q + 1 : Nat), ∃ L' : Nat, L' < clearV r t p q + 1 ∧ k ∈ raw r t p q L') := by
  have hlc : 0 < Nat.lcm p q := Nat.lcm_pos (by omega) (by omega)
  have far : ∀ {L L' : Nat}, L < p → L' < L → ((p : Int) - 1 + L) % p ≠ ((p : Int) - 1 + L') % p := fun {L L'} h1 h2 h => by
    have := dvd_le (mod_dvd h (Nat.le_of_lt h2)) (by omega); omega
  have both : ∀ {L L' : Nat} {a b : Int}, L < Nat.lcm p q → L' < L → (a + L) % p = (a + L') % p → (b + L) % q = (b + L') % q → False := fun {L L' a b} h1 h2 h3 h4 => by
    have d1 := Int.natCast_dvd_natCast.mp (mod_dvd h3 (Nat.le_of_lt h2))
    have d2 := Int.natCast_dvd_natCast.mp (mod_dvd h4 (Nat.le_of_lt h2))
    have := Nat.le_of_dvd (by omega) (Nat.lcm_dvd d1 d2)
    omega
  have pp : ∀ a : Int, (a + (p : Nat)) % (p : Int) = a % p := fun a => mod_per (Int.dvd_refl _)
  have qq : ∀ a : Int, (a + (q : Nat)) % (q : Int) = a % q := fun a => mod_per (Int.dvd_refl _)
  have lp : ∀ a : Int, (a + (Nat.lcm p q : Nat)) % (p : Int) = a % p := fun a => mod_per (Int.natCast_dvd_natCast.mpr (Nat.dvd_lcm_left _ _))
  have lq : ∀ a : Int, (a + (Nat.lcm p q : Nat)) % (q : Int) = a % q := fun a => mod_per (Int.natCast_dvd_natCast.mpr (Nat.dvd_lcm_right _ _))
  have e1 : p - 1 + 1 = p := by omega
  have e2 : q - 1 + 1 = q := by omega
  have e3 : Nat.lcm p q - 1 + 1 = Nat.lcm p q := by omega
  have z0 : ∀ (t : Se) (s L : Int), ∃ o, o ∈ shs t s L := fun t s L => by cases t <;> exact ⟨_, List.mem_cons_self⟩
  have fr0 : ∀ L : Nat, (0 : Int) % q ∈ shs .free q L := fun L => by
    simp only [shs, List.mem_cons, List.mem_map, mem_rng]
    exact .inr ⟨0, by omega, rfl⟩
  have mm : ∀ {r : Rd} {t : Se} {s L : Int} {k : List Int}, k ∈ raw r t (p : Int) s L ↔ ∃ o ∈ shs t s L, proj r (((p : Int) - 1 + L) % p) o = k := by
    intro r t s L k; simp only [raw, List.mem_map]
  cases r with
  | lo =>
    have ec : clearV .lo t p q + 1 = p := by cases t <;> simp only [clearV] <;> omega
    rw [ec]
    refine ⟨fun L h1 L' h2 k hk hk' => ?_, ?_⟩
    · obtain ⟨o, _, rfl⟩ := mm.mp hk
      obtain ⟨o', _, e⟩ := mm.mp hk'
      simp only [proj, List.cons.injEq, and_true] at e
      exact far h1 h2 e.symm
    · obtain ⟨o, ho⟩ := z0 t q p
      obtain ⟨o', ho'⟩ := z0 t q ((0 : Nat) : Int)
      refine ⟨_, mm.mpr ⟨o, ho, rfl⟩, 0, by omega, mm.mpr ⟨o', ho', ?_⟩⟩
      simp only [proj, pp, Int.natCast_zero, Int.add_zero]
  | sh =>
    cases t with
    | free =>
      refine ⟨fun L h1 L' h2 k hk hk' => by simp only [clearV] at h1; omega, [0 % (q : Int)], mm.mpr ⟨_, fr0 1, rfl⟩, 0, by simp [clearV], mm.mpr ⟨_, fr0 0, rfl⟩⟩
    | kept =>
      have ec : clearV .sh .kept p q + 1 = q := by simp only [clearV]; omega
      rw [ec]
      refine ⟨fun L h1 L' h2 k hk hk' => ?_, [(1 : Int) % q], mm.mpr ⟨(1 + (q : Nat)) % (q : Int), List.mem_cons_self, by simp only [proj, qq]⟩, 0, by omega, mm.mpr ⟨(1 + ((0 : Nat) : Int)) % (q : Int), List.mem_cons_self, by simp [proj]⟩⟩
      obtain ⟨o, ho, rfl⟩ := mm.mp hk
      obtain ⟨o', ho', e⟩ := mm.mp hk'
      simp only [shs, List.mem_singleton] at ho ho'
      simp only [proj, List.cons.injEq, and_true, ho, ho'] at e
      have := dvd_le (mod_dvd e.symm (Nat.le_of_lt h2)) (by omega); omega
    | nought =>
      have ec : clearV .sh .nought p q + 1 = q := by simp only [clearV]; omega
      rw [ec]
      refine ⟨fun L h1 L' h2 k hk hk' => ?_, [(0 : Int) % q], mm.mpr ⟨((q : Nat) : Int) % (q : Int), List.mem_cons_self, by simp [proj]⟩, 0, by omega, mm.mpr ⟨((0 : Nat) : Int) % (q : Int), List.mem_cons_self, by simp [proj]⟩⟩
      obtain ⟨o, ho, rfl⟩ := mm.mp hk
      obtain ⟨o', ho', e⟩ := mm.mp hk'
      simp only [shs, List.mem_singleton] at ho ho'
      simp only [proj, List.cons.injEq, and_true, ho, ho'] at e
      have e : ((0 : Int) + L) % q = ((0 : Int) + L') % q := by rw [Int.zero_add, Int.zero_add]; exact e.symm
      have := dvd_le (mod_dvd e (Nat.le_of_lt h2)) (by omega); omega
  | bo =>
    cases t with
    | free =>
      have ec : clearV .bo .free p q + 1 = p := by simp only [clearV]; omega
      rw [ec]
      refine ⟨fun L h1 L' h2 k hk hk' => ?_, _, mm.mpr ⟨_, fr0 p, rfl⟩, 0, by omega, mm.mpr ⟨_, fr0 0, ?_⟩⟩
      · obtain ⟨o, _, rfl⟩ := mm.mp hk
        obtain ⟨o', _, e⟩ := mm.mp hk'
        simp only [proj, List.cons.injEq] at e
        exact far h1 h2 e.1.symm
      · simp only [proj, pp, Int.natCast_zero, Int.add_zero]
    | kept =>
      have ec : clearV .bo .kept p q + 1 = Nat.lcm p q := by simp only [clearV]; omega
      rw [ec]
      refine ⟨fun L h1 L' h2 k hk hk' => ?_, _, mm.mpr ⟨_, List.mem_cons_self, rfl⟩, 0, hlc, mm.mpr ⟨(1 + ((0 : Nat) : Int)) % (q : Int), List.mem_cons_self, ?_⟩⟩
      · obtain ⟨o, ho, rfl⟩ := mm.mp hk
        obtain ⟨o', ho', e⟩ := mm.mp hk'
        simp only [shs, List.mem_singleton] at ho ho'
        simp only [proj, List.cons.injEq, and_true, ho, ho'] at e
        exact both h1 h2 e.1.symm e.2.symm
      · simp only [proj, lp, lq, Int.natCast_zero, Int.add_zero]
    | nought =>
      have ec : clearV .bo .nought p q + 1 = Nat.lcm p q := by simp only [clearV]; omega
      rw [ec]
      refine ⟨fun L h1 L' h2 k hk hk' => ?_, _, mm.mpr ⟨_, List.mem_cons_self, rfl⟩, 0, hlc, mm.mpr ⟨((0 : Nat) : Int) % (q : Int), List.mem_cons_self, ?_⟩⟩
      · obtain ⟨o, ho, rfl⟩ := mm.mp hk
        obtain ⟨o', ho', e⟩ := mm.mp hk'
        simp only [shs, List.mem_singleton] at ho ho'
        simp only [proj, List.cons.injEq, and_true, ho, ho'] at e
        have e2 : ((0 : Int) + L) % q = ((0 : Int) + L') % q := by rw [Int.zero_add, Int.zero_add]; exact e.2.symm
        exact both h1 h2 e.1.symm e2
      · have := lq 0
        rw [Int.zero_add] at this
        simp only [proj, lp, this, Int.natCast_zero, Int.add_zero]
/-! ### the law -/
theorem for_nx {it : CI} {g : CG} {b : CSs} {ks : List Nat} {c : Call} {ρ : Env} {S S1 : Sto} {ds : List D} (h : deni it c ρ S = .ok ds S1) : denS (.for_ it g b ks) c ρ S = forL g (denSs b c) ks ds ρ S1 := by
  rw [denS, h]; rfl
theorem cmpR_ok {o : Cop} {a b : CE} {c : Call} {ρ : Env} {S S1 S2 : Sto} {x y : Rv} {r : Bool} (h1 : den a c ρ S = .ok x S1) (h2 : den b c ρ S1 = .ok y S2) (h3 : cmpS o x y S2 = some r) : den (.cmp o a b) c ρ S = .ok (.sh (.bl r)) S2 := by
  rw [den, h1]; simp only [Res.bind, h2, h3, optB]
theorem range1R_ok {a : CE} {c : Call} {ρ : Env} {S S1 : Sto} {v : Int} (h : den a c ρ S = .ok (.sh (.int v)) S1) (hin : inR v) : deni (.range1 a) c ρ S = .ok (rangeD 0 v.toNat) S1 := by
  rw [deni, h]; simp only [Res.bind, hin, ↓reduceIte]
theorem out_ok (n : Nat) (a b w : D) (v : Int) (S : Sto) (h : Phi T n 5 [a, b, w] S = .ok (.sh (.int v)) S) : Phi T (n + 1) 10 [a, b, w] S = .ok (.sh (.int v)) S := by
  rw [phi_at h__law_outcome]
  simp [b__law_outcome, h, runF, denSs, denS, den, dens, deni, Res.bind, Res.fl, optR, optB, getV, getS, setIs, setG, killL, setPs, putS, forL, opS, addS, mulS, mulI, modI, fdivI, powI, int2, cmpS, cmpI, eqS, isNon, idxS, dcv, dcs, itv, lsv, sqv, vw, tru, biS, isiS, Ty.isI, Ty.isB, Ty.isS, Ty.isT, Ty.isL, mtS, mtK, slcP, partS, Rv.shr, L2.atI, L2.ixN, intsD, boolsD, handL, subc, CEs.len, sz]
theorem out_car (n : Nat) (a b w : D) (S : Sto) (h : Phi T n 5 [a, b, w] S = .ex ⟨1, none⟩ S) : Phi T (n + 1) 10 [a, b, w] S = .ok (.sh (.str "car!")) S := by
  rw [phi_at h__law_outcome]
  simp [b__law_outcome, h, runF, denSs, denS, den, dens, deni, Res.bind, Res.fl, optR, optB, getV, getS, setIs, setG, killL, setPs, putS, forL, opS, addS, mulS, mulI, modI, fdivI, powI, int2, cmpS, cmpI, eqS, isNon, idxS, dcv, dcs, itv, lsv, sqv, vw, tru, biS, isiS, Ty.isI, Ty.isB, Ty.isS, Ty.isT, Ty.isL, mtS, mtK, slcP, partS, Rv.shr, L2.atI, L2.ixN, intsD, boolsD, handL, subc, CEs.len, sz]
theorem out_way (n : Nat) (a b w : D) (S : Sto) (h : Phi T n 5 [a, b, w] S = .ex ⟨2, none⟩ S) : Phi T (n + 1) 10 [a, b, w] S = .ok (.sh (.str "way!")) S := by
  rw [phi_at h__law_outcome]
  simp [b__law_outcome, h, runF, denSs, denS, den, dens, deni, Res.bind, Res.fl, optR, optB, getV, getS, setIs, setG, killL, setPs, putS, forL, opS, addS, mulS, mulI, modI, fdivI, powI, int2, cmpS, cmpI, eqS, isNon, idxS, dcv, dcs, itv, lsv, sqv, vw, tru, biS, isiS, Ty.isI, Ty.isB, Ty.isS, Ty.isT, Ty.isL, mtS, mtK, slcP, partS, Rv.shr, L2.atI, L2.ixN, intsD, boolsD, handL, subc, CEs.len, sz]
theorem n_int (v : Int) (S : Sto) : cmpS .ne (.sh (.int v)) (.sh (.int v)) S = some false := by simp [cmpS, eqS, vw, okd, deq]
theorem n_car (S : Sto) : cmpS .ne (.sh (.str "car!")) (.sh (.str "car!")) S = some false := ne_word (by decide +kernel)
theorem n_way (S : Sto) : cmpS .ne (.sh (.str "way!")) (.sh (.str "way!")) S = some false := ne_word (by decide +kernel)
theorem l0_P (P : Call) (a0 a1 a2 o6 : Option Rv) (l s v : Int) (A B : D) (S : Sto) (h1 : P 10 [.int l, .int s, .tup [A, B]] S = .ok (.sh (.int v)) S) (h2 : P 9 [.int l, .int s, .tup [A, B]] S = .ok (.sh (.int v)) S) :
    denSs b_law_l0 P [a0, a1, a2, some (.sh (.int l)), some (.sh (.int s)), some (.sh A), o6, some (.sh B)] S = .nx [a0, a1, a2, some (.sh (.int l)), some (.sh (.int s)), some (.sh A), o6, some (.sh B)] S := by
  have hn := n_int v S
  unfold b_law_l0
  refine (ss_nx (ite_f ?_)).trans rfl
  simp only [den, dens, Res.bind, optR, optB, getV, getS, List.getElem?_cons_zero, List.getElem?_cons_succ, List.map_cons, List.map_nil, shr_sh, h1, h2, hn]
theorem both_ok (n : Nat) (r : Rd) (t : Se) (p q : Nat) (S : Sto) (h1 : 2 ≤ p) (h2 : p ≤ 40) (h3 : 2 ≤ q) (h4 : q ≤ 20) (h5 : p * q ≤ 200) :
    ∃ v : Int, Phi T (n + 4) 10 [.int p, .int q, wayD r t] S = .ok (.sh (.int v)) S ∧ Phi T (n + 4) 9 [.int p, .int q, wayD r t] S = .ok (.sh (.int v)) S := by
  obtain ⟨hA, hB⟩ := rep h1 h3 r t
  have hlcm : Nat.lcm p q ≤ p * q := Nat.lcm_le_mul (by omega) (by omega)
  have hc : clearV r t p q + 1 ≤ 1000 := by
    cases r <;> cases t <;> simp only [clearV] <;> omega
  refine ⟨(clearV r t p q : Nat), out_ok (n + 3) _ _ _ _ S (p_clear n r t p q S h1 h2 h3 h4 h5), ?_⟩
  have := p_due (n + 2) r t p q (clearV r t p q + 1) S (by omega) (by omega) hc hA hB
  rw [this]
  simp
theorem l1_ok (n : Nat) (r : Rd) (p q : Nat) (S : Sto) (h1 : 2 ≤ p) (h2 : p ≤ 40) (h3 : 2 ≤ q) (h4 : q ≤ 20) (h5 : p * q ≤ 200) (a0 a1 a2 o6 o7 : Option Rv) :
    ∃ o7', denSs b_law_l1 (Phi T (n + 4)) [a0, a1, a2, some (.sh (.int p)), some (.sh (.int q)), some (.sh (.str (rdW r))), o6, o7] S = .nx [a0, a1, a2, some (.sh (.int p)), some (.sh (.int q)), some (.sh (.str (rdW r))), o6, o7'] S := by
  have key := forL_typ (S := S) (enc := fun t : Se => .str (seW t)) (g := .nm 7) (body := denSs b_law_l0 (Phi T (n + 4))) (ks := []) (fun _ ρ => ∃ o, ρ = [a0, a1, a2, some (.sh (.int p)), some (.sh (.int q)), some (.sh (.str (rdW r))), o6, o]) [.kept, .nought, .free] [] [a0, a1, a2, some (.sh (.int p)), some (.sh (.int q)), some (.sh (.str (rdW r))), o6, o7] ?_ ⟨o7, rfl⟩
  · obtain ⟨ρ', h, o, rfl⟩ := key
    refine ⟨o, ?_⟩
    unfold b_law_l1
    refine (ss_nx ((for_nx (ds := [.str "kept", .str "nought", .str "free"]) (S1 := S) ?_).trans h)).trans rfl
    simp [runF, denSs, denS, den, dens, deni, Res.bind, Res.fl, optR, optB, getV, getS, setIs, setG, killL, setPs, putS, opS, addS, mulS, mulI, modI, fdivI, powI, int2, cmpS, cmpI, eqS, isNon, idxS, dcv, dcs, itv, lsv, sqv, vw, tru, biS, isiS, Ty.isI, Ty.isB, Ty.isS, Ty.isT, Ty.isL, mtS, mtK, slcP, partS, Rv.shr, L2.atI, L2.ixN, intsD, boolsD, handL, subc, CEs.len, sz]
  · rintro pre t post _ ρ ⟨o, rfl⟩
    obtain ⟨v, e1, e2⟩ := both_ok n r t p q S h1 h2 h3 h4 h5
    exact ⟨_, .inl (l0_P (Phi T (n + 4)) a0 a1 a2 o6 p q v (.str (rdW r)) (.str (seW t)) S e1 e2), _, rfl⟩
def odds : List D := [.non, .int 1, .int 41, .bl true, .str "5", .tup [.int 2]]
def ways : List D := [.non, .tup [.str "long"], .lst [.str "long", .str "kept"], .tup [.str "kept", .str "long"], .tup [.str "both", .str "Free"], .tup [.str "both", .non], .str "long"]
theorem odd_ok (n : Nat) (d : D) (h : d ∈ odds) (S : Sto) : Phi T (n + 4) 10 [d, .int 2, .non] S = .ok (.sh (.str "car!")) S ∧ Phi T (n + 4) 10 [.int 2, d, .non] S = .ok (.sh (.str "car!")) S := by
  simp only [odds, List.mem_cons, List.not_mem_nil, or_false] at h
  rcases h with rfl | rfl | rfl | rfl | rfl | rfl <;> exact ⟨out_car (n + 3) _ _ _ S (clear_car n _ _ _ S rfl rfl (by decide +kernel)), out_car (n + 3) _ _ _ S (clear_car n _ _ _ S rfl rfl (by decide +kernel))⟩
theorem way_ok (n : Nat) (d : D) (h : d ∈ ways) (p q : Int) (S : Sto) (hr : rollsB (.int p) (.int q) = true) : Phi T (n + 4) 10 [.int p, .int q, d] S = .ok (.sh (.str "way!")) S := by
  simp only [ways, List.mem_cons, List.not_mem_nil, or_false] at h
  have no : ∀ (v : D) (ws : List D), isD v = true → (∀ x, v = .str x → okd v 60 = true) → okds ws 59 = true → ((match v with | .str _ => true | _ => false) && ws.any fun z => deq z v) = false → ∀ S, Phi T (n + 2) I.f_is_word [v, .tup ws] S = .ok (.sh (.bl false)) S := by
    intro v ws h1 h2 h3 h4 S
    rw [p_word (n + 1) v ws S h1 h2 h3]
    cases v <;> first | rfl | (simp only [Bool.true_and] at h4 ⊢; rw [h4])
  rcases h with rfl | rfl | rfl | rfl | rfl | rfl | rfl
  · exact out_way (n + 3) _ _ _ S (clear_thin n _ _ _ S rfl rfl hr rfl rfl)
  · exact out_way (n + 3) _ _ _ S (clear_thin n _ _ _ S rfl rfl hr rfl rfl)
  · exact out_way (n + 3) _ _ _ S (clear_thin n _ _ _ S rfl rfl hr rfl rfl)
  · exact out_way (n + 3) _ _ _ S (clear_word n _ _ _ _ S rfl rfl hr false false (no _ _ rfl (fun x hx => by cases hx; decide +kernel) (by decide +kernel) (by decide +kernel)) (fun h => by cases h) rfl)
  · exact out_way (n + 3) _ _ _ S (clear_word n _ _ _ _ S rfl rfl hr true false (fun S => word_r (n + 1) .bo S) (fun _ => no _ _ rfl (fun x hx => by cases hx; decide +kernel) (by decide +kernel) (by decide +kernel)) rfl)
  · exact out_way (n + 3) _ _ _ S (clear_word n _ _ _ _ S rfl rfl hr true false (fun S => word_r (n + 1) .bo S) (fun _ => no _ _ rfl (fun x hx => by cases hx) (by decide +kernel) (by decide +kernel)) rfl)
  · exact out_way (n + 3) _ _ _ S (clear_thin n _ _ _ S rfl rfl hr rfl rfl)
theorem l2_P (P : Call) (a0 a1 a2 a3 a4 a5 o7 : Option Rv) (d : D) (S : Sto) (h1 : P 10 [d, .int 2, .non] S = .ok (.sh (.str "car!")) S) (h2 : P 10 [.int 2, d, .non] S = .ok (.sh (.str "car!")) S) :
    denSs b_law_l2 P [a0, a1, a2, a3, a4, a5, some (.sh d), o7] S = .nx [a0, a1, a2, a3, a4, a5, some (.sh d), o7] S := by
  have hn := n_car S
  unfold b_law_l2
  refine (ss_nx (ite_f ?_)).trans rfl
  simp only [den, dens, Res.bind, optR, optB, getV, getS, List.getElem?_cons_zero, List.getElem?_cons_succ, List.map_cons, List.map_nil, shr_sh, h1, h2, hn, tru]
theorem l3_P (P : Call) (a0 a1 a2 a5 o7 : Option Rv) (l s : Int) (d : D) (S : Sto) (h1 : P 10 [.int l, .int s, d] S = .ok (.sh (.str "way!")) S) :
    denSs b_law_l3 P [a0, a1, a2, some (.sh (.int l)), some (.sh (.int s)), a5, some (.sh d), o7] S = .nx [a0, a1, a2, some (.sh (.int l)), some (.sh (.int s)), a5, some (.sh d), o7] S := by
  have hn := n_way S
  unfold b_law_l3
  refine (ss_nx (ite_f ?_)).trans rfl
  simp only [den, dens, Res.bind, optR, optB, getV, getS, List.getElem?_cons_zero, List.getElem?_cons_succ, List.map_cons, List.map_nil, shr_sh, h1, hn, tru]
/-! ### each k -/
def l4t : CSs := (.cons (.for_ (.val (.tup (.cons (.con (.str "long")) (.cons (.con (.str "short")) (.cons (.con (.str "both")) (.nil)))))) (.nm 5) b_law_l1 [5]) (.cons (.for_ (.val (.lst (.cons (.con (.non)) (.cons (.con (.int 1)) (.cons (.con (.int 41)) (.cons (.con (.bl true)) (.cons (.con (.str "5")) (.cons (.tup (.cons (.con (.int 2)) (.nil))) (.nil))))))))) (.nm 6) b_law_l2 []) (.cons (.ite (.or (.cmp .ne (.call 10 (.cons (.con (.int 15)) (.cons (.con (.int 14)) (.cons (.tup (.cons (.con (.str "long")) (.cons (.con (.str "kept")) (.nil)))) (.nil))))) (.con (.str "car!"))) (.cmp .ne (.call 10 (.cons (.con (.int 2)) (.cons (.con (.int 21)) (.cons (.con (.non)) (.nil))))) (.con (.str "car!"))))
(.cons (.ret (.con (.bl false))) (.nil))
(.nil)) (.cons (.for_ (.val (.lst (.cons (.con (.non)) (.cons (.tup (.cons (.con (.str "long")) (.nil))) (.cons (.lst (.cons (.con (.str "long")) (.cons (.con (.str "kept")) (.nil)))) (.cons (.tup (.cons (.con (.str "kept")) (.cons (.con (.str "long")) (.nil)))) (.cons (.tup (.cons (.con (.str "both")) (.cons (.con (.str "Free")) (.nil)))) (.cons (.tup (.cons (.con (.str "both")) (.cons (.con (.non)) (.nil)))) (.cons (.con (.str "long")) (.nil)))))))))) (.nm 6) b_law_l3 []) (.nil)))))
theorem forL_st {g : CG} {body : Env → Sto → Fl} {ks : List Nat} (J : Env → Sto → Prop) : ∀ (ds : List D) (ρ : Env) (S : Sto), J ρ S → (∀ d ∈ ds, ∀ ρ S, J ρ S → ∃ ρ2 S', stp g body d ρ S = .nx ρ2 S' ∧ J (killL ρ2 ks) S') → ∃ ρ' S', forL g body ks ds ρ S = .nx (killL ρ' ks) S' ∧ J ρ' S'
  | [], ρ, S, h, _ => ⟨ρ, S, rfl, h⟩
  | d :: ds, ρ, S, h, H => by
    obtain ⟨ρ2, S1, e, h1⟩ := H d List.mem_cons_self ρ S h
    obtain ⟨ρ', S', e2, h2⟩ := forL_st J ds _ _ h1 fun x hx => H x (List.mem_cons_of_mem _ hx)
    exact ⟨ρ', S', by rw [stp_nx (.inl e)]; exact e2, h2⟩
theorem l4t_ok (n p q : Nat) (S : Sto) (h1 : 2 ≤ p) (h2 : p ≤ 40) (h3 : 2 ≤ q) (h4 : q ≤ 20) (h5 : p * q ≤ 200) (a0 a1 a2 o7 : Option Rv) :
    ∃ o6 o7', denSs l4t (Phi T (n + 4)) [a0, a1, a2, some (.sh (.int p)), some (.sh (.int q)), none, none, o7] S = .nx [a0, a1, a2, some (.sh (.int p)), some (.sh (.int q)), none, o6, o7'] S := by
  have k1 := forL_typ (S := S) (enc := fun t : Rd => .str (rdW t)) (g := .nm 5) (body := denSs b_law_l1 (Phi T (n + 4))) (ks := [5]) (fun _ ρ => ∃ o, ρ = [a0, a1, a2, some (.sh (.int p)), some (.sh (.int q)), none, none, o]) [.lo, .sh, .bo] [] [a0, a1, a2, some (.sh (.int p)), some (.sh (.int q)), none, none, o7] (by
    rintro pre r post _ ρ ⟨o, rfl⟩
    obtain ⟨o7', e⟩ := l1_ok n r p q S h1 h2 h3 h4 h5 a0 a1 a2 none o
    exact ⟨_, .inl e, o7', rfl⟩) ⟨o7, rfl⟩
  obtain ⟨_, e1, o7', rfl⟩ := k1
  have k2 := forL_typ (S := S) (enc := fun d : {d : D // d ∈ odds} => d.1) (g := .nm 6) (body := denSs b_law_l2 (Phi T (n + 4))) (ks := []) (fun _ ρ => ∃ o, ρ = [a0, a1, a2, some (.sh (.int p)), some (.sh (.int q)), none, o, o7']) odds.attach [] [a0, a1, a2, some (.sh (.int p)), some (.sh (.int q)), none, none, o7'] (by
    rintro pre ⟨d, hd⟩ post _ ρ ⟨o, rfl⟩
    obtain ⟨f1, f2⟩ := odd_ok n d hd S
    exact ⟨_, .inl (l2_P (Phi T (n + 4)) a0 a1 a2 _ _ none o7' d S f1 f2), _, rfl⟩) ⟨none, rfl⟩
  obtain ⟨_, e2, o6, rfl⟩ := k2
  have hr : rollsB (.int p) (.int q) = true := rolls_ok (by omega) (by omega) (by omega) (by omega) (by exact_mod_cast h5)
  have k3 := forL_typ (S := S) (enc := fun d : {d : D // d ∈ ways} => d.1) (g := .nm 6) (body := denSs b_law_l3 (Phi T (n + 4))) (ks := []) (fun _ ρ => ∃ o, ρ = [a0, a1, a2, some (.sh (.int p)), some (.sh (.int q)), none, o, o7']) ways.attach [] [a0, a1, a2, some (.sh (.int p)), some (.sh (.int q)), none, o6, o7'] (by
    rintro pre ⟨d, hd⟩ post _ ρ ⟨o, rfl⟩
    have f1 := way_ok n d hd p q S hr
    exact ⟨_, .inl (l3_P (Phi T (n + 4)) a0 a1 a2 none o7' p q d S f1), _, rfl⟩) ⟨o6, rfl⟩
  obtain ⟨_, e3, o6', rfl⟩ := k3
  have ha : odds.attach.map (fun d : {d : D // d ∈ odds} => d.1) = odds := by simp
  have hb : ways.attach.map (fun d : {d : D // d ∈ ways} => d.1) = ways := by simp
  rw [ha] at e2
  rw [hb] at e3
  have f1 : Phi T (n + 4) 10 [.int 15, .int 14, .tup [.str "long", .str "kept"]] S = .ok (.sh (.str "car!")) S := out_car (n + 3) _ _ _ S (clear_car n _ _ _ S rfl rfl (by decide +kernel))
  have f2 : Phi T (n + 4) 10 [.int 2, .int 21, .non] S = .ok (.sh (.str "car!")) S := out_car (n + 3) _ _ _ S (clear_car n _ _ _ S rfl rfl (by decide +kernel))
  have hn := n_car S
  refine ⟨o6', o7', ?_⟩
  unfold l4t
  refine (ss_nx ((for_nx (ds := [.str "long", .str "short", .str "both"]) (S1 := S) (by simp [runF, denSs, denS, den, dens, deni, Res.bind, Res.fl, optR, optB, getV, getS, setIs, setG, killL, setPs, putS, opS, addS, mulS, mulI, modI, fdivI, powI, int2, cmpS, cmpI, eqS, isNon, idxS, dcv, dcs, itv, lsv, sqv, vw, tru, biS, isiS, Ty.isI, Ty.isB, Ty.isS, Ty.isT, Ty.isL, mtS, mtK, slcP, partS, Rv.shr, L2.atI, L2.ixN, intsD, boolsD, handL, subc, CEs.len, sz])).trans e1)).trans ?_
  refine (ss_nx ((for_nx (ds := odds) (S1 := S) (by simp [odds, runF, denSs, denS, den, dens, deni, Res.bind, Res.fl, optR, optB, getV, getS, setIs, setG, killL, setPs, putS, opS, addS, mulS, mulI, modI, fdivI, powI, int2, cmpS, cmpI, eqS, isNon, idxS, dcv, dcs, itv, lsv, sqv, vw, tru, biS, isiS, Ty.isI, Ty.isB, Ty.isS, Ty.isT, Ty.isL, mtS, mtK, slcP, partS, Rv.shr, L2.atI, L2.ixN, intsD, boolsD, handL, subc, CEs.len, sz])).trans e2)).trans ?_
  refine (ss_nx (ρ' := [a0, a1, a2, some (.sh (.int p)), some (.sh (.int q)), none, o6, o7']) (S' := S) (ite_f ?_)).trans ?_
  · generalize Phi T (n + 4) = P at f1 f2 ⊢
    simp only [den, dens, Res.bind, optR, optB, getV, getS, List.getElem?_cons_zero, List.getElem?_cons_succ, List.map_cons, List.map_nil, shr_sh, f1, f2, hn, tru]
  exact (ss_nx ((for_nx (ds := ways) (S1 := S) (by simp [ways, runF, denSs, denS, den, dens, deni, Res.bind, Res.fl, optR, optB, getV, getS, setIs, setG, killL, setPs, putS, opS, addS, mulS, mulI, modI, fdivI, powI, int2, cmpS, cmpI, eqS, isNon, idxS, dcv, dcs, itv, lsv, sqv, vw, tru, biS, isiS, Ty.isI, Ty.isB, Ty.isS, Ty.isT, Ty.isL, mtS, mtK, slcP, partS, Rv.shr, L2.atI, L2.ixN, intsD, boolsD, handL, subc, CEs.len, sz])).trans e3)).trans rfl
theorem l4_ok (n : Nat) (ns : List Int) (kk : Int) (hk : 0 ≤ kk) (hk2 : kk < 1000) (o7 : Option Rv) (S : Sto) : ∃ ρ2 S' o7', denSs b_law_l4 (Phi T (n + 4)) [some (.sh (.scr ns)), some (.sh (.int kk)), none, none, none, none, none, o7] S = .nx ρ2 S' ∧ killL ρ2 [1, 2, 3, 4, 5, 6] = [some (.sh (.scr ns)), none, none, none, none, none, none, o7'] := by
  obtain ⟨p, q, es, p0, q0⟩ := p_source (n := n + 3) h__law_source ns kk S hk hk2
  obtain ⟨m, hm⟩ : ∃ m, m = S.length := ⟨_, rfl⟩
  have hS : Src (S ++ [.lst [.int p, .int q]]) m := ⟨p, q, by rw [hm]; simp, p0, q0⟩
  obtain ⟨x, S2, e2, x0, x1, s2⟩ := p_pick (n := n + 3) h__law_pick m 39 _ (by decide) (by decide) hS
  have hd : (0 : Int) < 2 + x := by omega
  have d1 : (200 : Int) / (2 + x) * (2 + x) ≤ 200 := Int.ediv_mul_le _ (by omega)
  have d2 : 4 ≤ (200 : Int) / (2 + x) := (Int.le_ediv_iff_mul_le hd).mpr (by omega)
  obtain ⟨w, hw⟩ : ∃ w, w = (200 : Int) / (2 + x) := ⟨_, rfl⟩
  rw [← hw] at d1 d2
  obtain ⟨v, hv, v0, v1, v2⟩ : ∃ v : Int, (∀ S, biS .min [.sh (.int 19), .sh (.int (w - 1))] S = some (.sh (.int v))) ∧ 0 < v ∧ v ≤ 19 ∧ v ≤ w - 1 := by
    by_cases h : w - 1 < 19
    · exact ⟨w - 1, fun S => by simp [h, runF, denSs, denS, den, dens, deni, Res.bind, Res.fl, optR, optB, getV, getS, setIs, setG, killL, setPs, putS, forL, opS, addS, mulS, mulI, modI, fdivI, powI, int2, cmpS, cmpI, eqS, isNon, idxS, dcv, dcs, itv, lsv, sqv, vw, tru, biS, isiS, Ty.isI, Ty.isB, Ty.isS, Ty.isT, Ty.isL, mtS, mtK, slcP, partS, Rv.shr, L2.atI, L2.ixN, intsD, boolsD, handL, subc, CEs.len, sz], by omega, by omega, by omega⟩
    · exact ⟨19, fun S => by simp [h, runF, denSs, denS, den, dens, deni, Res.bind, Res.fl, optR, optB, getV, getS, setIs, setG, killL, setPs, putS, forL, opS, addS, mulS, mulI, modI, fdivI, powI, int2, cmpS, cmpI, eqS, isNon, idxS, dcv, dcs, itv, lsv, sqv, vw, tru, biS, isiS, Ty.isI, Ty.isB, Ty.isS, Ty.isT, Ty.isL, mtS, mtK, slcP, partS, Rv.shr, L2.atI, L2.ixN, intsD, boolsD, handL, subc, CEs.len, sz], by omega, by omega, by omega⟩
  obtain ⟨y, S3, e3, y0, y1, s3⟩ := p_pick (n := n + 3) h__law_pick m v S2 (by omega) (by omega) s2
  have hmul : (2 + x) * (2 + y) ≤ 200 := by
    have : (2 + x) * (2 + y) ≤ (2 + x) * w := Int.mul_le_mul_of_nonneg_left (by omega) (by omega)
    rw [Int.mul_comm w] at d1
    omega
  obtain ⟨P, hP⟩ : ∃ P : Nat, (P : Int) = 2 + x := ⟨(2 + x).toNat, by omega⟩
  obtain ⟨Q, hQ⟩ : ∃ Q : Nat, (Q : Int) = 2 + y := ⟨(2 + y).toNat, by omega⟩
  have hPQ : P * Q ≤ 200 := by rw [← hP, ← hQ] at hmul; exact_mod_cast hmul
  obtain ⟨o6, o7', e4⟩ := l4t_ok n P Q S3 (by omega) (by omega) (by omega) (by omega) hPQ (some (.sh (.scr ns))) (some (.sh (.int kk))) (some (.sh (.ref m))) o7
  rw [hP, hQ] at e4
  refine ⟨[some (.sh (.scr ns)), some (.sh (.int kk)), some (.sh (.ref m)), some (.sh (.int (2 + x))), some (.sh (.int (2 + y))), none, o6, o7'], S3, o7', ?_, ?_⟩
  · unfold b_law_l4
    refine (ss_nx (ρ' := [some (.sh (.scr ns)), some (.sh (.int kk)), some (.nl [.int p, .int q]), none, none, none, none, o7]) (S' := S) ?_).trans ?_
    · generalize Phi T (n + 4) = C at es ⊢
      simp only [denS, den, dens, Res.bind, Res.fl, optR, getV, getS, List.getElem?_cons_zero, List.getElem?_cons_succ, List.map_cons, List.map_nil, shr_sh, es, List.set_cons_zero, List.set_cons_succ]
    refine (denSs.eq_def _ _ _ _).trans ?_
    simp only [getV, getS, List.getElem?_cons_zero, List.getElem?_cons_succ, List.set_cons_zero, List.set_cons_succ, shr_nl, ← hm]
    refine (ss_nx (ρ' := [some (.sh (.scr ns)), some (.sh (.int kk)), some (.sh (.ref m)), some (.sh (.int (2 + x))), none, none, none, o7]) (S' := S2) ?_).trans ?_
    · generalize Phi T (n + 4) = C at e2 ⊢
      simp only [denS, den, dens, Res.bind, Res.fl, optR, getV, getS, List.getElem?_cons_zero, List.getElem?_cons_succ, List.map_cons, List.map_nil, shr_sh, e2, opS, addS, int2, Option.map_some, List.set_cons_zero, List.set_cons_succ]
    refine (ss_nx (ρ' := [some (.sh (.scr ns)), some (.sh (.int kk)), some (.sh (.ref m)), some (.sh (.int (2 + x))), some (.sh (.int (2 + y))), none, none, o7]) (S' := S3) ?_).trans e4
    · generalize Phi T (n + 4) = C at e3 ⊢
      have hdv : ∀ S, opS .fdiv (.sh (.int 200)) (.sh (.int (2 + x))) S = some (.sh (.int w)) := fun S => by
        have hd2 : 2 + x < 1073741824 := by omega
        rw [hw]; simp [opS, int2, fdivI, hd, hd2]
      have hsb : ∀ S, opS .sub (.sh (.int w)) (.sh (.int 1)) S = some (.sh (.int (w - 1))) := fun S => by simp [opS, int2]
      have had : ∀ S, opS .add (.sh (.int 2)) (.sh (.int y)) S = some (.sh (.int (2 + y))) := fun S => by simp [opS, addS, int2]
      simp only [denS, den, dens, Res.bind, Res.fl, optR, getV, getS, List.getElem?_cons_zero, List.getElem?_cons_succ, List.map_cons, List.map_nil, shr_sh, hdv, hsb, hv, e3, had, List.set_cons_zero, List.set_cons_succ]
  · rfl
theorem e0_P (P : Call) (ns : List Int) (S : Sto) (f0 : P 5 [.int 20, .int 9, .tup [.str "both", .str "kept"]] S = .ok (.sh (.int 179)) S) (f1 : P 5 [.int 20, .int 9, .tup [.str "both", .str "nought"]] S = .ok (.sh (.int 179)) S) (f2 : P 5 [.int 20, .int 9, .tup [.str "both", .str "free"]] S = .ok (.sh (.int 19)) S) :
    compL (.nm 7) (fun _ S => .ok (.sh (.bl true)) S) (den b_law_e0 P) [.str "kept", .str "nought", .str "free"] [some (.sh (.scr ns)), none, none, none, none, none, none, none] S = .ok [.int 179, .int 179, .int 19] S := by
  simp [b_law_e0, compL, f0, f1, f2, runF, denSs, denS, den, dens, deni, Res.bind, Res.fl, optR, optB, getV, getS, setIs, setG, killL, setPs, putS, opS, addS, mulS, mulI, modI, fdivI, powI, int2, cmpI, isNon, idxS, dcv, dcs, itv, lsv, sqv, vw, tru, biS, isiS, Ty.isI, Ty.isB, Ty.isS, Ty.isT, Ty.isL, mtS, mtK, slcP, partS, Rv.shr, L2.atI, L2.ixN, intsD, boolsD, handL, subc, CEs.len, sz]
def tl : CSs := (.cons (.ret (.cmp .eq (.comp (.val (.tup (.cons (.con (.str "kept")) (.cons (.con (.str "nought")) (.cons (.con (.str "free")) (.nil)))))) (.nm 7) [7] (.con (.bl true)) b_law_e0) (.lst (.cons (.con (.int 179)) (.cons (.con (.int 179)) (.cons (.con (.int 19)) (.nil))))))) (.nil))
theorem tl_lst (P : Call) (ρ : Env) (S : Sto) : den (.lst (.cons (.con (.int 179)) (.cons (.con (.int 179)) (.cons (.con (.int 19)) (.nil))))) P ρ S = .ok (.nl [.int 179, .int 179, .int 19]) S := by
  simp [runF, denSs, denS, den, dens, deni, Res.bind, Res.fl, optR, optB, getV, getS, setIs, setG, killL, setPs, putS, forL, opS, addS, mulS, mulI, modI, fdivI, powI, int2, cmpS, cmpI, eqS, isNon, idxS, dcv, dcs, itv, lsv, sqv, vw, tru, biS, isiS, Ty.isI, Ty.isB, Ty.isS, Ty.isT, Ty.isL, mtS, mtK, slcP, partS, Rv.shr, L2.atI, L2.ixN, intsD, boolsD, handL, subc, CEs.len, sz]
theorem tl_eq (S : Sto) : cmpS .eq (.nl [.int 179, .int 179, .int 19]) (.nl [.int 179, .int 179, .int 19]) S = some true := by
  simp [cmpS, eqS, vw, okd, okds, deq, deqs]
theorem tl_P (P : Call) (ns : List Int) (o7 : Option Rv) (S : Sto) (hc : compL (.nm 7) (fun _ S => .ok (.sh (.bl true)) S) (den b_law_e0 P) [.str "kept", .str "nought", .str "free"] [some (.sh (.scr ns)), none, none, none, none, none, none, none] S = .ok [.int 179, .int 179, .int 19] S) : denSs tl P [some (.sh (.scr ns)), none, none, none, none, none, none, o7] S = .rt (.sh (.bl true)) S := by
  have h : den (.comp (.val (.tup (.cons (.con (.str "kept")) (.cons (.con (.str "nought")) (.cons (.con (.str "free")) (.nil)))))) (.nm 7) [7] (.con (.bl true)) b_law_e0) P [some (.sh (.scr ns)), none, none, none, none, none, none, o7] S = .ok (.nl [.int 179, .int 179, .int 19]) S := by
    simp [hc, runF, denSs, denS, den, dens, deni, Res.bind, Res.fl, optR, optB, getV, getS, setIs, setG, killL, setPs, putS, forL, opS, addS, mulS, mulI, modI, fdivI, powI, int2, cmpS, cmpI, eqS, isNon, idxS, dcv, dcs, itv, lsv, sqv, vw, tru, biS, isiS, Ty.isI, Ty.isB, Ty.isS, Ty.isT, Ty.isL, mtS, mtK, slcP, partS, Rv.shr, L2.atI, L2.ixN, intsD, boolsD, handL, subc, CEs.len, sz]
  exact ss_rt (ret_rt (cmpR_ok h (tl_lst P _ S) (tl_eq S)))
theorem tl_ok (n : Nat) (ns : List Int) (o7 : Option Rv) (S : Sto) : denSs tl (Phi T (n + 3)) [some (.sh (.scr ns)), none, none, none, none, none, none, o7] S = .rt (.sh (.bl true)) S := by
  have f0 := p_clear n .bo .kept 20 9 S (by decide) (by decide) (by decide) (by decide) (by decide)
  have f1 := p_clear n .bo .nought 20 9 S (by decide) (by decide) (by decide) (by decide) (by decide)
  have f2 := p_clear n .bo .free 20 9 S (by decide) (by decide) (by decide) (by decide) (by decide)
  have c0 : clearV .bo .kept 20 9 = 179 := by decide +kernel
  have c1 : clearV .bo .nought 20 9 = 179 := by decide +kernel
  have c2 : clearV .bo .free 20 9 = 19 := by decide +kernel
  rw [c0] at f0
  rw [c1] at f1
  rw [c2] at f2
  exact tl_P (Phi T (n + 3)) ns o7 S (e0_P (Phi T (n + 3)) ns S f0 f1 f2)
def lev : Nat := 6
theorem pure (ns : List Int) (_ : ns.length ≤ 63) : ∃ S', Phi T lev 11 [.scr ns] [] = .ok (.sh (.bl true)) S' := by
  show ∃ S', Phi T (5 + 1) 11 [.scr ns] [] = .ok (.sh (.bl true)) S'
  rw [phi_at h_law]
  have hv : ∃ v : Int, den (.bi .max (.cons (.con (.int 6)) (.cons (.bi .min (.cons (.con (.int 24)) (.cons (.bi .len (.cons (.varB 0) (.nil))) (.nil)))) (.nil)))) (Phi T 5) [some (.sh (.scr ns)), none, none, none, none, none, none, none] [] = .ok (.sh (.int v)) [] ∧ 0 ≤ v ∧ v ≤ 24 := by
    refine ⟨_, by simp only [runF, denSs, denS, den, dens, deni, Res.bind, Res.fl, optR, optB, getV, getS, setIs, setG, killL, setPs, putS, forL, opS, addS, mulS, mulI, modI, fdivI, powI, int2, cmpS, cmpI, eqS, isNon, idxS, dcv, dcs, itv, lsv, sqv, vw, tru, biS, isiS, Ty.isI, Ty.isB, Ty.isS, Ty.isT, Ty.isL, mtS, mtK, slcP, partS, Rv.shr, L2.atI, L2.ixN, intsD, boolsD, handL, subc, CEs.len, sz]; rfl, ?_⟩
    split <;> split <;> omega
  obtain ⟨v, ev, v0, v1⟩ := hv
  obtain ⟨_, S1, e1, o7, rfl⟩ := forL_st (g := .nm 1) (body := denSs b_law_l4 (Phi T 5)) (ks := [1, 2, 3, 4, 5, 6]) (fun ρ _ => ∃ o7, ρ = [some (.sh (.scr ns)), none, none, none, none, none, none, o7]) (rangeD 0 v.toNat) [some (.sh (.scr ns)), none, none, none, none, none, none, none] [] ⟨none, rfl⟩
    fun d hd ρ S hJ => by
      obtain ⟨o7, rfl⟩ := hJ
      obtain ⟨j, rfl, j0, j1⟩ := rangeD_mem _ _ _ hd
      obtain ⟨ρ2, S', o7', e, hk⟩ := l4_ok 1 ns j j0 (by omega) o7 S
      exact ⟨ρ2, S', e, o7', hk⟩
  have hin : inR v := ⟨by omega, by omega⟩
  have ht := tl_ok 2 ns o7 S1
  refine ⟨S1, ?_⟩
  exact run_rt rfl ((ss_nx ((for_nx (range1R_ok ev hin)).trans e1)).trans ht)
end K34

open PySem PySem.W PyProof.Rows
set_option maxRecDepth 100000 in
set_option maxHeartbeats 0 in
theorem PySem.Challenge.cw_rolledmiles_k34_ways_of_noting_holds : PySem.Challenge.rw_rolledmiles_k34_ways_of_noting.Holds := by
  w_on; o_law; k_head; (case hw => w_witness2)
  k_fill
  refine Z.walk_Z (n := K34.lev) (id := 11) (x := "script") (tb := K34.tb) (T := K34.T) (pss := K34.pss) rfl (by decide +kernel) rfl ⟨rfl, by decide, by decide⟩ (fun w h Y => PySem.W.kIn_of Y) rfl rfl K34.pure ?F
  case F =>
    intro w mg h KX G
    refine' K34.glob KX G ?a0 ?l0 ?c0 ?k0 ?a1 ?l1 ?c1 ?k1 ?a2 ?l2 ?c2 ?k2 ?a3 ?l3 ?c3 ?k3 ?a4 ?l4 ?c4 ?k4 ?a5 ?l5 ?c5 ?k5 ?a6 ?l6 ?c6 ?k6 ?a7 ?l7 ?c7 ?k7 ?a8 ?l8 ?c8 ?k8 ?a9 ?l9 ?c9 ?k9 ?a10 ?l10 ?c10 ?k10 ?a11 ?l11 ?c11 ?k11 ?ea0 ?ek0 ?eb0 ?et0 ?ei0 ?ex0 ?ea1 ?ek1 ?eb1 ?et1 ?ei1 ?ex1 ?ea2 ?ek2 ?eb2 ?et2 ?ei2 ?ex2 ?es0_0 ?es0_1 ?es0_2 ?es1_0 ?es1_1 ?es1_2 ?es2_0 ?es2_1 ?es2_2 ?ca0 ?ca1 ?ca2 ?tl3 ?ca3 ?tl7 ?ca4 ?zg0 ?zg1 ?zg2 ?zg3 ?zg4 ?zg5 ?zg6 ?zg7 ?zg8 ?zg9
    (case a0 => k_is)
    (case l0 => k_is)
    (case c0 => k_is)
    (case k0 => k_is)
    (case a1 => k_is)
    (case l1 => k_is)
    (case c1 => k_is)
    (case k1 => k_is)
    (case a2 => k_is)
    (case l2 => k_is)
    (case c2 => k_is)
    (case k2 => k_is)
    (case a3 => k_is)
    (case l3 => k_is)
    (case c3 => k_is)
    (case k3 => k_is)
    (case a4 => k_is)
    (case l4 => k_is)
    (case c4 => k_is)
    (case k4 => k_is)
    (case a5 => k_is)
    (case l5 => k_is)
    (case c5 => k_is)
    (case k5 => k_is)
    (case a6 => k_is)
    (case l6 => k_is)
    (case c6 => k_is)
    (case k6 => k_is)
    (case a7 => k_is)
    (case l7 => k_is)
    (case c7 => k_is)
    (case k7 => k_is)
    (case a8 => k_is)
    (case l8 => k_is)
    (case c8 => k_is)
    (case k8 => k_is)
    (case a9 => k_is)
    (case l9 => k_is)
    (case c9 => k_is)
    (case k9 => k_is)
    (case a10 => k_is)
    (case l10 => k_is)
    (case c10 => k_is)
    (case k10 => k_is)
    (case a11 => k_is)
    (case l11 => k_is)
    (case c11 => k_is)
    (case k11 => k_is)
    (case ea0 => k_is)
    (case ek0 => k_is)
    (case eb0 => k_is)
    (case et0 => k_is)
    (case ei0 => k_is)
    (case ex0 => k_exc)
    (case ea1 => k_is)
    (case ek1 => k_is)
    (case eb1 => k_is)
    (case et1 => k_is)
    (case ei1 => k_is)
    (case ex1 => k_exc)
    (case ea2 => k_is)
    (case ek2 => k_is)
    (case eb2 => k_is)
    (case et2 => k_is)
    (case ei2 => k_is)
    (case ex2 => k_exc)
    (case es0_0 => k_is)
    (case es0_1 => k_is)
    (case es0_2 => k_is)
    (case es1_0 => k_is)
    (case es1_1 => k_is)
    (case es1_2 => k_is)
    (case es2_0 => k_is)
    (case es2_1 => k_is)
    (case es2_2 => k_is)
    (case ca0 => k_is)
    (case ca1 => k_is)
    (case ca2 => k_is)
    (case ca3 => k_is)
    (case ca4 => k_is)
    (case zg0 => k_is)
    (case zg1 => k_is)
    (case zg2 => k_is)
    (case zg3 => k_is)
    (case zg4 => k_is)
    (case zg5 => k_is)
    (case zg6 => k_is)
    (case zg7 => k_is)
    (case zg8 => k_is)
    (case zg9 => k_is)
    (case tl7 => k_is)
    (case tl3 => k_is)
