import PyProof.Rows.All
import Wide.All
import OpenK.AllK
import Wide.FinOn
import KE.KStateDown
import Lean
import PySem.Syntax
import HandS.ForMost
import HandS.Deep
import HandS.Wide
import HandS.TupAny
import HandS.TupLe
import HandS.IsInst
import HandS.RaiseMore
import HandS.Zip
import HandS.Rev
import HandS.Conv
import HandS.TupMul
import HandS.Replace
import HandS.ReplaceList
import HandS.Style
import HandS.Iter
import HandS.NoneIn
import KE.DataEq
import KE.DataCmp
import KE.DataAny
import KE.DataIsa
import KE.SortData
import KE.SortLaws
import PyProof.ReprRoads
import PyProof.SeqIndex
import PyProof.ToksMono
import HandS.Dict
import PyProof.WalkLemmas
import PyProof.TupleOfSeq
import HandS.StrMore
import KE.GoesEnum
import KE.KDictZip
import PyProof.ListNew
import HandS.ListItems
import HandS.SetTxt0
import HandS.Set
import HandS.SetFor
import KE.GoesSet
import HandS.More
import HandS.Defaults
import HandS.Ends
import HandS.Head0
import HandS.Head1
import HandS.Head2
import HandS.HeadEnd
import HandS.HeadHook1
import HandS.HeadHook2
import PySem.Challenge.RW_sortfollow_k79_whole_what_follows_goes_o
set_option Elab.async false
set_option linter.all false
set_option maxRecDepth 100000
set_option maxHeartbeats 1000000
/-! D1: data, the small language, what it computes (predicate transformers). No model in sight. -/
namespace SF
open PySem

inductive Dat where
  | non | bl (b : Bool) | int (i : Int) | str (s : List Nat)
  | tup (l : List Dat) | lst (l : List Dat) | dic (l : List (Dat × Dat))
  | obj (c : Nat) (fs : List Dat) | pot | scr (l : List Int)
  deriving Inhabited

/-- a predicate transformer -/
abbrev W (α : Type) := (α → Prop) → Prop

/-! ### equality, order -/
mutual
def eqD : Dat → Dat → Bool
  | .non, .non => true
  | .bl a, .bl b => a == b
  | .bl a, .int j => (if a then 1 else 0) == j
  | .int i, .bl b => i == (if b then 1 else 0)
  | .int i, .int j => i == j
  | .str x, .str y => x == y
  | .lst xs, .lst ys => eqDs xs ys
  | .tup xs, .tup ys => eqDs xs ys
  | _, _ => false
def eqDs : List Dat → List Dat → Bool
  | [], [] => true
  | x :: xs, y :: ys => eqD x y && eqDs xs ys
  | _, _ => false
end

/-- lists of signs in order -/
def ltS : List Nat → List Nat → Bool
  | [], [] => false
  | [], _ :: _ => true
  | _ :: _, [] => false
  | a :: as, b :: bs => if a < b then true else if a = b then ltS as bs else false
mutual
/-- x < y of data that are alike -/
def ltD : Dat → Dat → Bool
  | .bl a, .bl b => !a && b
  | .int i, .int j => decide (i < j)
  | .str x, .str y => ltS x y
  | .lst xs, .lst ys => ltDs xs ys
  | .tup xs, .tup ys => ltDs xs ys
  | _, _ => false
def ltDs : List Dat → List Dat → Bool
  | [], [] => false
  | [], _ :: _ => true
  | _ :: _, [] => false
  | x :: xs, y :: ys => if eqD x y then ltDs xs ys else ltD x y
end
mutual
/-- the two can be compared by <, place by place -/
def alikeD : Dat → Dat → Bool
  | .bl _, .bl _ => true
  | .int _, .int _ => true
  | .str _, .str _ => true
  | .lst xs, .lst ys => alikeDs xs ys
  | .tup xs, .tup ys => alikeDs xs ys
  | _, _ => false
def alikeDs : List Dat → List Dat → Bool
  | x :: xs, y :: ys => alikeD x y && alikeDs xs ys
  | _, _ => true
end

/-- plain data of bounded depth -/
def okd : Nat → Dat → Prop
  | _, .non => True
  | _, .bl _ => True
  | _, .int _ => True
  | _, .str _ => True
  | n + 1, .tup l => ∀ x ∈ l, okd n x
  | n + 1, .lst l => ∀ x ∈ l, okd n x
  | _, _ => False
/-- data whose repr has a bounded text: depth, signs -/
def rpd : Nat → Nat → Dat → Prop
  | _, w, .non => 4 ≤ w
  | _, w, .bl _ => 5 ≤ w
  | _, w, .int i => i.natAbs < 10 ^ (w - 1) ∧ 2 ≤ w ∧ i.natAbs < 2 ^ 1900
  | _, w, .str s => (∀ c ∈ s, c < 128) ∧ 10 * s.length + 2 ≤ w
  | n + 1, w, .tup l => ∃ v, (∀ x ∈ l, rpd n v x) ∧ l.length * (v + 2) + 3 ≤ w
  | n + 1, w, .lst l => ∃ v, (∀ x ∈ l, rpd n v x) ∧ l.length * (v + 2) + 3 ≤ w
  | _, _, _ => False

/-! ### the language -/
inductive O2 | add | sub | mul | fdiv | mod | pow deriving DecidableEq
inductive C2 | eq | ne | lt | le | gt | ge | inn | nin deriving DecidableEq
inductive Ty | int | bool | str | tuple | list | dict deriving DecidableEq
/-- built-in functions and types, called by position -/
inductive B1 | len | abs | all | any | max | min | sorted | repr | tuple | list | int | str | bool | dict deriving DecidableEq
/-- methods of built-in types -/
inductive M1 | index | get | join | replace | upper | lstrip | count | split | partition | startswith deriving DecidableEq
/-- targets -/
inductive P where | v (i : Nat) | t (l : List P)

/-- where a parameter's value comes from: by position, by keyword, by default -/
inductive Src where | p (i : Nat) | k (i : Nat) | dn | di (i : Int) | db (b : Bool) deriving DecidableEq
inductive E where
  | var (i : Nat) | obs (i : Nat) | glob (i : Nat)
  | non | bl (b : Bool) | int (i : Int) | str (s : List Nat)
  | op2 (o : O2) (a b : E) | neg (a : E) | cmp (o : C2) (a b : E) | chain (o o' : C2) (a b c : E) | isN (a : E) | notN (a : E)
  | and (a b : E) | or (a b : E) | not (a : E) | ite (c a b : E)
  | tup (l : List E) | lst (l : List E)
  | idx (a i : E) | slc (a lo hi : E)
  | bi (b : B1) (l : List E) | isi (a : E) (t : Ty) | me (m : M1) (o : E) (l : List E)
  | call (f : Nat) (l kl : List E) (sh : List Src)
  | comp (own : List Nat) (p : P) (it c e : E)
  | zip (a b : E) | enum (a : E) | range (a : E) | range2 (a b : E)
  | sset (a : E) | scomp (own : List Nat) (p : P) (it c e : E)
  | comp2 (own : List Nat) (p : P) (it c : E) (p1 : P) (it1 c1 e : E) | isB (ng : Bool) (a : E) (b : Bool) | rangeD (a : E) | slcS (a k : E) | lzip (a b : E) | dnew

inductive S where
  | ins (i : Nat) (ix e : E) | set (i : Nat) (e : E) | own (i : Nat) (e : E) | unp (p : P) (e : E) | unpL (ps : List P) (e : E) | par (os : List Bool) (is : List Nat) (es : List E)
  | frz (i : Nat) | app (i : Nat) (e : E) | ext (i : Nat) (e : E) | pop (i : Nat) (e : E) | sto (i : Nat) (ix e : E) | stoD (i : Nat) (ix e : E) | stp (i j : Nat) (ix e : E) | parC (os : List Bool) (is : List Nat) (es : List E)
  | exp (e : E) | ret (e : E) | retN | pass
  | ite (c : E) (a b : List S) | for (p : P) (it : E) (b : List S) | whl (c : E) (b : List S)

/-! ### operations by value -/
/-- an index from either end -/
def atD (l : List Dat) (i : Int) : Option Dat := L2.atI l i
def cut {α : Type} (l : List α) (lo hi : Option Int) : List α := (l.drop (HT.sIx l.length 0 lo)).take (HT.sIx l.length l.length hi - HT.sIx l.length 0 lo)
def big : Nat := 16777216

def op2W (o : O2) (x y : Dat) (Q : Dat → Prop) : Prop :=
  match o, x, y with
  | .add, .int i, .int j => Q (.int (i + j))
  | .add, .str s, .str t => s.length + t.length ≤ big ∧ Q (.str (s ++ t))
  | .add, .tup s, .tup t => s.length + t.length ≤ big ∧ Q (.tup (s ++ t))
  | .add, .lst s, .lst t => s.length + t.length ≤ big ∧ Q (.lst (s ++ t))
  | .sub, .int i, .int j => Q (.int (i - j))
  | .mul, .int i, .int j => ((i.natAbs < 2 ^ 64 ∨ j.natAbs < 2 ^ 64) ∨ (i.natAbs < 2 ^ 100000 ∧ j.natAbs < 2 ^ 100000)) ∧ Q (.int (i * j))
  | .mul, .lst s, .int j => (0 ≤ j ∧ j < 2 ^ 60 ∧ s.length * j.toNat ≤ big) ∧ Q (.lst (List.replicate j.toNat s).flatten)
  | .fdiv, .int i, .int j => (0 < j ∧ j.natAbs < 2 ^ 8000) ∧ Q (.int (i / j))
  | .mod, .int i, .int j => 0 < j ∧ Q (.int (i % j))
  | .pow, .int i, .int j => (0 ≤ j ∧ j ≤ 1000 ∧ i.natAbs < 2 ^ 100000) ∧ Q (.int (i ^ j.toNat))
  | _, _, _ => False

/-- x in y -/
def inW (x y : Dat) (Q : Bool → Prop) : Prop :=
  match y with
  | .tup l => okd 60 x ∧ (∀ z ∈ l, okd 60 z) ∧ Q (l.any fun z => eqD z x)
  | .lst l => okd 60 x ∧ (∀ z ∈ l, okd 60 z) ∧ Q (l.any fun z => eqD z x)
  | .str s => match x with
    | .str [c] => Q (decide (c ∈ s))
    | _ => False
  | _ => False
def isNum : Dat → Bool
  | .int _ => true
  | .str _ => true
  | .tup _ => true
  | .lst _ => true
  | _ => false
def ordW (x y : Dat) (r : Bool) (Q : Bool → Prop) : Prop := (isNum x = true ∧ alikeD x y = true ∧ okd 60 x ∧ okd 60 y) ∧ Q r
def cmpW (o : C2) (x y : Dat) (Q : Bool → Prop) : Prop :=
  match o with
  | .eq => okd 60 x ∧ okd 60 y ∧ Q (eqD x y)
  | .ne => okd 60 x ∧ okd 60 y ∧ Q (!eqD x y)
  | .lt => ordW x y (ltD x y) Q
  | .gt => ordW x y (ltD y x) Q
  | .le => ordW x y (!ltD y x) Q
  | .ge => ordW x y (!ltD x y) Q
  | .inn => inW x y Q
  | .nin => inW x y fun b => Q (!b)

def isiD : Dat → Ty → Bool
  | .bl _, .int => true
  | .bl _, .bool => true
  | .int _, .int => true
  | .str _, .str => true
  | .tup _, .tuple => true
  | .lst _, .list => true
  | .dic _, .dict => true
  | _, _ => false
/-- kinds that isinstance is asked of -/
def isiOk : Dat → Bool
  | .obj _ _ => false
  | .pot => false
  | .scr _ => false
  | _ => true

/-- the stable sorted list -/
def sortD (l : List Dat) : List Dat := l.mergeSort fun x y => !ltD y x
def alikeAll (l : List Dat) : Prop := ∀ x ∈ l, ∀ y ∈ l, alikeD x y = true
def noEmpty : Dat → Bool
  | .tup [] => false
  | .lst [] => false
  | _ => true
/-- the first of equal ones kept -/
def dedup : List Dat → List Dat
  | [] => []
  | x :: xs => x :: (dedup xs).filter fun y => !eqD x y
def isKey (s : List Nat) : Dat → Bool
  | .str t => decide (t = s)
  | _ => false
/-- what a dict holds at a text -/
def getK (l : List (Dat × Dat)) (s : List Nat) : Option Dat := (l.find? fun p => isKey s p.1).map (·.2)
def putD (l : List (Dat × Dat)) (s : List Nat) (d : Dat) : List (Dat × Dat) :=
  if (l.any fun p => isKey s p.1) = true then l.map fun p => if isKey s p.1 = true then (p.1, d) else p else l ++ [(.str s, d)]
/-- the texts met, each once -/
def setN (l : List (List Nat)) : List (List Nat) := l.foldl (fun l k => if k ∈ l then l else k :: l) []
/-- .. in order -/
def sortN (l : List (List Nat)) : List (List Nat) := (setN l).mergeSort fun a b => !ltS b a
def allB (l : List Dat) : Option (List Bool) := l.mapM fun d => match d with | .bl b => some b | _ => none
def seqD : Dat → Option (List Dat)
  | .tup l => some l
  | .lst l => some l
  | _ => none
def strsD (l : List Dat) : Option (List (List Nat)) := l.mapM fun d => match d with | .str s => some s | _ => none
def joinS (sep : List Nat) : List (List Nat) → List Nat
  | [] => []
  | [x] => x
  | x :: y :: r => x ++ sep ++ joinS sep (y :: r)
mutual
/-- the library's data -/
def toPy : Dat → PyData
  | .non => .none
  | .bl b => .bool b
  | .int i => .int i
  | .str s => .str ⟨s.toArray⟩
  | .tup l => .tuple (toPys l)
  | .lst l => .list (toPys l)
  | .dic l => .dict (toPyKv l)
  | .obj _ _ => .none
  | .pot => .none
  | .scr _ => .none
def toPys : List Dat → List PyData
  | [] => []
  | x :: r => toPy x :: toPys r
def toPyKv : List (Dat × Dat) → List (PyData × PyData)
  | [] => []
  | (k, v) :: r => (toPy k, toPy v) :: toPyKv r
end
def reprD (d : Dat) : List Nat := (toPy d).shown.cps.toList

def lenW (l : List Dat) (Q : Dat → Prop) : Prop :=
  match l with
  | [.tup l] => Q (.int l.length)
  | [.lst l] => Q (.int l.length)
  | [.str l] => Q (.int l.length)
  | [.scr l] => Q (.int l.length)
  | _ => False
def absW (l : List Dat) (Q : Dat → Prop) : Prop :=
  match l with
  | [.int i] => Q (.int i.natAbs)
  | _ => False
def allW (l : List Dat) (Q : Dat → Prop) : Prop :=
  match l with
  | [.lst l] => ∃ (bs : List Bool), l = bs.map Dat.bl ∧ Q (.bl (bs.all id))
  | _ => False
def anyW (l : List Dat) (Q : Dat → Prop) : Prop :=
  match l with
  | [.lst l] => ∃ (bs : List Bool), l = bs.map Dat.bl ∧ Q (.bl (bs.any id))
  | _ => False
def maxW (l : List Dat) (Q : Dat → Prop) : Prop :=
  match l with
  | [.int i, .int j] => Q (.int (max i j))
  | _ => False
def minW (l : List Dat) (Q : Dat → Prop) : Prop :=
  match l with
  | [.int i, .int j] => Q (.int (min i j))
  | _ => False
def sortedW (l : List Dat) (Q : Dat → Prop) : Prop :=
  match l with
  | [.lst l] => alikeAll l ∧ (∀ z ∈ l, okd 60 z ∧ noEmpty z = true) ∧ Q (.lst (sortD l))
  | [.tup l] => (∃ ts : List (List Nat), l = ts.map .str) ∧ Q (.lst (sortD l))
  | _ => False
def reprW (l : List Dat) (Q : Dat → Prop) : Prop :=
  match l with
  | [x] => rpd 60 big x ∧ Q (.str (reprD x))
  | _ => False
def tupleW (l : List Dat) (Q : Dat → Prop) : Prop :=
  match l with
  | [.lst l] => Q (.tup l)
  | [.tup l] => Q (.tup l)
  | _ => False
def listW (l : List Dat) (Q : Dat → Prop) : Prop :=
  match l with
  | [.lst l] => Q (.lst l)
  | [.tup l] => Q (.lst l)
  | _ => False
def intW (l : List Dat) (Q : Dat → Prop) : Prop :=
  match l with
  | [.int i] => Q (.int i)
  | [.bl b] => Q (.int (if b then 1 else 0))
  | _ => False
def biW (b : B1) (l : List Dat) (Q : Dat → Prop) : Prop :=
  match b with
  | .len => lenW l Q
  | .abs => absW l Q
  | .all => allW l Q
  | .any => anyW l Q
  | .max => maxW l Q
  | .min => minW l Q
  | .sorted => sortedW l Q
  | .repr => reprW l Q
  | .tuple => tupleW l Q
  | .list => listW l Q
  | .int => intW l Q
  | _ => False

/-! ### names -/
inductive Slot where | no | val (d : Dat) | own (d : Dat)
abbrev Env := List Slot
def getV (δ : Env) (i : Nat) (Q : Dat → Prop) : Prop :=
  match δ[i]? with
  | some (.val d) => Q d
  | _ => False
/-- .. an owned list looked at -/
def getO (δ : Env) (i : Nat) (Q : Dat → Prop) : Prop :=
  match δ[i]? with
  | some (.own d) => Q d
  | _ => False
mutual
/-- a target takes a value -/
def bindP : P → Dat → Env → (Env → Prop) → Prop
  | .v i, d, δ, Q => Q (δ.set i (.val d))
  | .t ps, .tup ds, δ, Q => bindPs ps ds δ Q
  | .t _, _, _, _ => False
def bindPs : List P → List Dat → Env → (Env → Prop) → Prop
  | [], [], δ, Q => Q δ
  | p :: ps, d :: ds, δ, Q => bindP p d δ fun δ' => bindPs ps ds δ' Q
  | _, _, _, _ => False
end
def wipeD (δ : Env) : List Nat → Env
  | [] => δ
  | i :: r => (wipeD δ r).set i .no
/-- one after another -/
def mapW {α : Type} (f : α → (Option Dat → Prop) → Prop) : List α → (List Dat → Prop) → Prop
  | [], Q => Q []
  | x :: xs, Q => f x fun o => mapW f xs fun ys => Q (match o with | some y => y :: ys | none => ys)
/-- one after another, each with a list -/
def flatW {α : Type} (f : α → (List Dat → Prop) → Prop) : List α → (List Dat → Prop) → Prop
  | [], Q => Q []
  | x :: xs, Q => f x fun zs => flatW f xs fun ys => Q (zs ++ ys)
def iterD : Dat → Option (List Dat)
  | .tup l => some l
  | .lst l => some l
  | .str s => some (s.map fun c => .str [c])
  | _ => none
def sliceW (x lo hi : Dat) (Q : Dat → Prop) : Prop :=
  let k (l h : Option Int) : Prop := match x with
    | .tup xs => Q (.tup (cut xs l h))
    | .lst xs => Q (.lst (cut xs l h))
    | .str xs => Q (.str (cut xs l h))
    | _ => False
  match lo, hi with
  | .non, .non => k none none
  | .int i, .non => k (some i) none
  | .non, .int j => k none (some j)
  | .int i, .int j => k (some i) (some j)
  | _, _ => False
def idxW (x i : Dat) (Q : Dat → Prop) : Prop :=
  match x, i with
  | .tup l, .int i => ∃ d, atD l i = some d ∧ Q d
  | .lst l, .int i => ∃ d, atD l i = some d ∧ Q d
  | .str l, .int i => ∃ c, atD (l.map fun c => Dat.str [c]) i = some c ∧ Q c
  | .dic l, .str s => ∃ d, getK l s = some d ∧ Q d
  | .scr l, .int i => ∃ d, atD (l.map Dat.int) i = some d ∧ Q d
  | _, _ => False
def indexW (o : Dat) (l : List Dat) (Q : Dat → Prop) : Prop :=
  match o, l with
  | .tup xs, [x] => okd 60 x ∧ (∀ z ∈ xs, okd 60 z) ∧ (xs.any fun z => eqD z x) = true ∧ Q (.int (xs.findIdx fun z => eqD z x))
  | .lst xs, [x] => okd 60 x ∧ (∀ z ∈ xs, okd 60 z) ∧ (xs.any fun z => eqD z x) = true ∧ Q (.int (xs.findIdx fun z => eqD z x))
  | _, _ => False
def joinW (o : Dat) (l : List Dat) (Q : Dat → Prop) : Prop :=
  match o, l with
  | .str sep, [.lst l] => ∃ ss, l = ss.map Dat.str ∧ (ss.map List.length).sum + ss.length * sep.length ≤ big ∧ Q (.str (joinS sep ss))
  | .str sep, [.tup l] => ∃ ss, l = ss.map Dat.str ∧ (ss.map List.length).sum + ss.length * sep.length ≤ big ∧ Q (.str (joinS sep ss))
  | _, _ => False
def replaceW (o : Dat) (l : List Dat) (Q : Dat → Prop) : Prop :=
  match o, l with
  | .str s, [.str [a], .str t] => (t ≠ [a] ∧ s.length + (s.length + 1) * t.length ≤ big) ∧ Q (.str (s.flatMap fun c => if c = a then t else [c]))
  | _, _ => False
def lstripW (o : Dat) (l : List Dat) (Q : Dat → Prop) : Prop :=
  match o, l with
  | .str s, [.str t] => Q (.str (s.dropWhile fun c => t.contains c))
  | _, _ => False
def meW (m : M1) (o : Dat) (l : List Dat) (Q : Dat → Prop) : Prop :=
  match m with
  | .index => indexW o l Q
  | .join => joinW o l Q
  | .replace => replaceW o l Q
  | .lstrip => lstripW o l Q
  | _ => False
/-- what a method may be asked of -/
def meOk (m : M1) (o : Dat) : Bool :=
  match m, o with
  | .index, .tup _ => true
  | .index, .lst _ => true
  | .index, _ => false
  | .get, _ => false
  | _, .str _ => true
  | _, _ => false
def negW (x : Dat) (Q : Dat → Prop) : Prop :=
  match x with
  | .int i => Q (.int (-i))
  | _ => False
def rangeW (x : Dat) (Q : Dat → Prop) : Prop :=
  match x with
  | .int n => (-(2 ^ 60) < n ∧ n ≤ big) ∧ Q (.lst ((List.range n.toNat).map fun i : Nat => .int i))
  | _ => False
def range2W (x y : Dat) (Q : Dat → Prop) : Prop :=
  match x, y with
  | .int u, .int n => (-(2 ^ 60) < u ∧ u < 2 ^ 60 ∧ -(2 ^ 60) < n ∧ n < 2 ^ 60 ∧ n - u ≤ big) ∧ Q (.lst ((List.range (n - u).toNat).map fun i : Nat => .int (u + i)))
  | _, _ => False
/-- range(x, -1, -1) -/
def rangeDW (x : Dat) (Q : Dat → Prop) : Prop :=
  match x with
  | .int n => (-1 ≤ n ∧ n < big) ∧ Q (.lst ((List.range (n + 1).toNat).map fun i : Nat => .int (n - i)))
  | _ => False
mutual
def varsP : P → List Nat
  | .v i => [i]
  | .t ps => varsPs ps
def varsPs : List P → List Nat
  | [] => []
  | p :: ps => varsP p ++ varsPs ps
end
def isNon : Dat → Bool
  | .non => true
  | _ => false
def boolW (d : Dat) (Q : Bool → Prop) : Prop :=
  match d with
  | .bl b => Q b
  | _ => False
/-- two lists, or two tuples -/
def zipOk (x y : Dat) (l r : List Dat) : Prop := (x = .lst l ∧ y = .lst r) ∨ (x = .tup l ∧ y = .tup r)
/-- list(zip(x, y)) -/
def lzipW (x y : Dat) (Q : Dat → Prop) : Prop := ∃ l r, zipOk x y l r ∧ Q (.lst (List.zipWith (fun p q => .tup [p, q]) l r))
/-- every k-th item -/
def pickS {α : Type} (l : List α) (k : Int) : List α := (sliceRange (sliceBounds none none (some k) l.length).1 (sliceBounds none none (some k) l.length).2.1 (sliceBounds none none (some k) l.length).2.2).filterMap fun j => l[j]?
def loS (n : Nat) (k : Int) : Int := (Builtin.Slice.sliceAdjust none none k (n : Int)).1
def plS (n : Nat) (k : Int) : Nat := Builtin.Slice.slicePlaces (Builtin.Slice.sliceAdjust none none k (n : Int)).1 (Builtin.Slice.sliceAdjust none none k (n : Int)).2 k
/-- the same of a tuple -/
def pickT {α : Type} (l : List α) (k : Int) : List α := (List.range (plS l.length k)).filterMap fun (j : Nat) => l[(loS l.length k + (j : Int) * k).toNat]?
def slcSO (x : Dat) (k : Int) (Q : Dat → Prop) : Prop := (∃ l, x = .tup l ∧ k ≠ 0 ∧ Q (.tup (pickT l k))) ∨ ∃ l, x = .lst l ∧ k ≠ 0 ∧ Q (.lst (pickS l k))
def slcS (x y : Dat) (Q : Dat → Prop) : Prop := ∃ k, y = .int k ∧ slcSO x k Q
theorem slcSO_mono (x : Dat) (k : Int) (P Q : Dat → Prop) (h : ∀ d, P d → Q d) (hp : slcSO x k P) : slcSO x k Q := by
  rcases hp with ⟨l, e1, e2, p⟩ | ⟨l, e1, e2, p⟩
  · exact .inl ⟨l, e1, e2, h _ p⟩
  · exact .inr ⟨l, e1, e2, h _ p⟩
/-- a list or a tuple -/
def enumOk (x : Dat) (l : List Dat) : Prop := x = .lst l ∨ x = .tup l
def pickD (sh : List Src) (ds ks : List Dat) : List Dat := sh.map fun
  | .p i => ds.getD i .non
  | .k i => ks.getD i .non
  | .dn => .non
  | .di i => .int i
  | .db b => .bl b
/-- how an expression stands: a value that is kept; looked at; walked -/
inductive M where | v | b | i
section
/-! C: what a call of a def gives; G: the constants of the module -/
variable (C : Nat → List Dat → (Dat → Prop) → Prop) (G : Nat → Option Dat)
mutual
def ev : E → M → Env → (Dat → Prop) → Prop
  | .var i, _, δ, Q => getV δ i Q
  | .obs i, m, δ, Q => match m with | .v => False | _ => getO δ i Q
  | .glob i, _, _, Q => match G i with | some d => Q d | none => False
  | .non, _, _, Q => Q .non
  | .bl b, _, _, Q => Q (.bl b)
  | .int i, _, _, Q => Q (.int i)
  | .str s, _, _, Q => Q (.str s)
  | .op2 o a b, _, δ, Q => ev a .b δ fun x => ev b .b δ fun y => op2W o x y Q
  | .neg a, _, δ, Q => ev a .v δ fun x => negW x Q
  | .cmp o a b, _, δ, Q => ev a .b δ fun x => ev b .b δ fun y => cmpW o x y fun b => Q (.bl b)
  | .chain o o' a b c, _, δ, Q => ev a .b δ fun x => ev b .b δ fun y => cmpW o x y fun k => if k = true then ev c .b δ fun z => cmpW o' y z fun k' => Q (.bl k') else Q (.bl false)
  | .isN a, _, δ, Q => ev a .v δ fun x => Q (.bl (isNon x))
  | .notN a, _, δ, Q => ev a .v δ fun x => Q (.bl (!isNon x))
  | .and a b, _, δ, Q => ev a .v δ fun x => boolW x fun k => if k = true then ev b .v δ Q else Q (.bl false)
  | .or a b, _, δ, Q => ev a .v δ fun x => boolW x fun k => if k = true then Q (.bl true) else ev b .v δ Q
  | .not a, _, δ, Q => ev a .v δ fun x => boolW x fun k => Q (.bl (!k))
  | .ite c a b, _, δ, Q => ev c .v δ fun x => boolW x fun k => if k = true then ev a .v δ Q else ev b .v δ Q
  | .tup l, _, δ, Q => evs l .v δ fun ds => Q (.tup ds)
  | .lst l, _, δ, Q => evs l .v δ fun ds => Q (.lst ds)
  | .idx a i, _, δ, Q => ev a .b δ fun x => ev i .v δ fun y => idxW x y Q
  | .slc a lo hi, _, δ, Q => ev a .b δ fun x => ev lo .v δ fun l => ev hi .v δ fun h => sliceW x l h Q
  | .bi b l, _, δ, Q => evs l .b δ fun ds => biW b ds Q
  | .isi a t, _, δ, Q => ev a .v δ fun x => isiOk x = true ∧ Q (.bl (isiD x t))
  | .me m o l, _, δ, Q => ev o .b δ fun x => meOk m x = true ∧ evs l .b δ fun ds => meW m x ds Q
  | .call f l kl sh, _, δ, Q => evs l .v δ fun ds => evs kl .v δ fun ks => C f (pickD sh ds ks) Q
  | .comp own p it c e, _, δ, Q => ev it .i δ fun x => ∃ ds, iterD x = some ds ∧
      mapW (fun d K => bindP p d (wipeD δ own) fun δ' => ev c .v δ' fun b => boolW b fun k => if k = true then ev e .v δ' fun y => K (some y) else K none) ds fun ys => Q (.lst ys)
  | .dnew, _, δ, Q => Q (.dic [])
  | .sset a, _, δ, Q => ev a .b δ fun x => ∃ l : List (List Nat), x = .lst (l.map .str) ∧ l.length ≤ 1000 ∧ Q (.lst ((sortN l).map .str))
  | .scomp own p it c e, _, δ, Q => ev it .i δ fun x => ∃ ds, iterD x = some ds ∧ ds.length ≤ 1000 ∧
      mapW (fun d K => bindP p d (wipeD δ own) fun δ' => ev c .v δ' fun b => boolW b fun k => if k = true then ev e .v δ' fun y => ∃ t, y = .str t ∧ K (some y) else K none) ds fun ys => ∃ l : List (List Nat), ys = l.map .str ∧ Q (.lst ((sortN l).map .str))
  | .zip a b, m, δ, Q => match m with
    | .i => ev a .b δ fun x => ev b .b δ fun y => ∃ l r, zipOk x y l r ∧ Q (.lst (List.zipWith (fun p q => .tup [p, q]) l r))
    | _ => False
  | .enum a, m, δ, Q => match m with
    | .i => ev a .b δ fun x => ∃ l, enumOk x l ∧ Q (.lst (l.mapIdx fun i d => .tup [.int i, d]))
    | _ => False
  | .range a, m, δ, Q => match m with
    | .i => ev a .v δ fun x => rangeW x Q
    | _ => False
  | .range2 a b, m, δ, Q => match m with
    | .i => ev a .v δ fun x => ev b .v δ fun y => range2W x y Q
    | _ => False
  | .comp2 own p it c p1 it1 c1 e, _, δ, Q => ev it .i δ fun x => ∃ ds B, iterD x = some ds ∧ ds.length * B ≤ big ∧
      flatW (fun d K => bindP p d (wipeD δ own) fun δ' => ev c .v δ' fun b => boolW b fun k => if k = true then ev it1 .i δ' fun x1 => ∃ ds1, iterD x1 = some ds1 ∧ ds1.length ≤ B ∧
        mapW (fun d1 K1 => bindP p1 d1 (wipeD δ' (varsP p1)) fun δ'' => ev c1 .v δ'' fun b1 => boolW b1 fun k1 => if k1 = true then ev e .v δ'' fun y => K1 (some y) else K1 none) ds1 K else K []) ds fun ys => Q (.lst ys)
  | .slcS a k, _, δ, Q => ev a .b δ fun x => ev k .v δ fun y => slcS x y Q
  | .lzip a b, _, δ, Q => ev a .b δ fun x => ev b .b δ fun y => lzipW x y Q
  | .isB ng a b, _, δ, Q => ev a .v δ fun x => boolW x fun k => Q (.bl ((k == b) != ng))
  | .rangeD a, m, δ, Q => match m with
    | .i => ev a .v δ fun x => rangeDW x Q
    | _ => False
def evs : List E → M → Env → (List Dat → Prop) → Prop
  | [], _, _, Q => Q []
  | e :: r, m, δ, Q => ev e m δ fun d => evs r m δ fun ds => Q (d :: ds)
end

/-- what is wanted behind a statement -/
structure Post where
  nx : Env → Prop
  rt : Env → Dat → Prop
  bk : Env → Prop := fun _ => False
  ct : Env → Prop := fun _ => False

def forW (p : P) (b : Env → Post → Prop) : List Dat → Env → Post → Prop
  | [], δ, D => D.nx δ
  | d :: ds, δ, D => bindP p d δ fun δ' => b δ' { nx := fun δ'' => forW p b ds δ'' D, ct := fun δ'' => forW p b ds δ'' D, bk := D.nx, rt := D.rt }
def whlW (c : Env → (Bool → Prop) → Prop) (b : Env → Post → Prop) : Nat → Env → Post → Prop
  | 0, _, _ => False
  | n + 1, δ, D => c δ fun k => if k = true then b δ { nx := fun δ' => whlW c b n δ' D, ct := fun δ' => whlW c b n δ' D, bk := D.nx, rt := D.rt } else D.nx δ
/-- a fresh list or dict -/
def isFresh : E → Bool
  | .lst _ => true
  | .comp .. => true
  | .comp2 .. => true
  | .bi .list _ => true
  | .bi .sorted _ => true
  | .op2 .add _ _ => true
  | .op2 .mul _ _ => true
  | .slc _ _ _ => true
  | .slcS _ _ => true
  | .lzip _ _ => true
  | .sset _ => true
  | .scomp .. => true
  | .dnew => true
  | _ => false
def isBox : Dat → Bool
  | .lst _ => true
  | .dic _ => true
  | _ => false
def setPar : List Bool → List Nat → List Dat → Env → Env
  | o :: os, i :: is, d :: ds, δ => setPar os is ds (δ.set i (if o then .own d else .val d))
  | _, _, _, δ => δ
/-- a[i] = v -/
def setAt (l : List Dat) (i : Int) (d : Dat) : Option (List Dat) :=
  if 0 ≤ i then (if i.toNat < l.length then some (l.set i.toNat d) else none)
  else if 0 ≤ i + l.length then some (l.set (i + l.length).toNat d) else none
mutual
def exec : S → Env → Post → Prop
  | .set i e, δ, D => ev C G e .v δ fun d => D.nx (δ.set i (.val d))
  | .own i e, δ, D => ev C G e .v δ fun d => isBox d = true ∧ D.nx (δ.set i (.own d))
  | .unp p e, δ, D => ev C G e .v δ fun d => bindP p d δ D.nx
  | .unpL ps e, δ, D => ev C G e .v δ fun d => ∃ l, d = .lst l ∧ bindPs ps l δ D.nx
  | .par os is es, δ, D => evs C G es .v δ fun ds => ((os.zip ds).all fun p => !p.1 || isBox p.2) = true ∧ D.nx (setPar os.reverse is.reverse ds.reverse δ)
  | .frz i, δ, D => getO δ i fun d => D.nx (δ.set i (.val d))
  | .app i e, δ, D => getO δ i fun x => ∃ l, x = .lst l ∧ ev C G e .v δ fun d => l.length < big ∧ D.nx (δ.set i (.own (.lst (l ++ [d]))))
  | .ext i e, δ, D => getO δ i fun x => ∃ l, x = .lst l ∧ ev C G e .b δ fun d => ∃ r, d = .lst r ∧ l.length + r.length ≤ big ∧ D.nx (δ.set i (.own (.lst (l ++ r))))
  | .pop i e, δ, D => getO δ i fun x => ∃ l, x = .lst l ∧ ev C G e .v δ fun k => ∃ j n, k = .int j ∧ L2.ixN l.length j = some n ∧ D.nx (δ.set i (.own (.lst (l.eraseIdx n))))
  | .ins i ix e, δ, D => getO δ i fun x => ∃ l, x = .lst l ∧ ev C G ix .v δ fun k => ev C G e .v δ fun d => ∃ j : Int, k = .int j ∧ 0 ≤ j ∧ j < 2 ^ 63 ∧ l.length < big ∧ D.nx (δ.set i (.own (.lst (l.take j.toNat ++ [d] ++ l.drop j.toNat))))
  | .parC os is es, δ, D => evs C G es .v δ fun ds => ((os.zip ds).all fun p => !p.1 || isBox p.2) = true ∧ D.nx (setPar os is ds δ)
  | .stp i j ix e, δ, D => ev C G e .v δ fun d => getO δ i fun x => ∃ l, x = .dic l ∧ getO δ j fun z => ∃ m, z = .lst m ∧ ev C G ix .v δ fun k => ∃ q a t, k = .int q ∧ L2.ixN m.length q = some a ∧ m[a]? = some (.str t) ∧ l.length < big ∧
    D.nx ((δ.set j (.own (.lst (m.eraseIdx a)))).set i (.own (.dic (putD l t d))))
  | .stoD i ix e, δ, D => ev C G e .v δ fun d => getO δ i fun x => ∃ l, x = .dic l ∧ ev C G ix .v δ fun k => ∃ t, k = .str t ∧ l.length < big ∧ D.nx (δ.set i (.own (.dic (putD l t d))))
  | .sto i ix e, δ, D => ev C G e .v δ fun d => getO δ i fun x => ∃ l, x = .lst l ∧ ev C G ix .v δ fun k => ∃ j r, k = .int j ∧ setAt l j d = some r ∧ D.nx (δ.set i (.own (.lst r)))
  | .exp e, δ, D => ev C G e .v δ fun _ => D.nx δ
  | .ret e, δ, D => ev C G e .v δ (D.rt δ)
  | .retN, δ, D => D.rt δ .non
  | .pass, δ, D => D.nx δ
  | .ite c a b, δ, D => ev C G c .v δ fun x => boolW x fun k => if k = true then execs a δ D else execs b δ D
  | .for p it b, δ, D => ev C G it .i δ fun x => ∃ ds, iterD x = some ds ∧ forW p (fun δ' D' => execs b δ' D') ds δ D
  | .whl c b, δ, D => ∃ n, n ≤ big ∧ whlW (fun δ' Q => ev C G c .v δ' fun x => boolW x Q) (fun δ' D' => execs b δ' D') n δ D
def execs : List S → Env → Post → Prop
  | [], δ, D => D.nx δ
  | s :: r, δ, D => exec s δ { D with nx := fun δ' => execs r δ' D }
end
end

/-! ### defs -/
/-- np parameters, nn names, the parameters first -/
structure FDef where
  np : Nat
  nn : Nat
  body : List S
def startD (n : Nat) (ds : List Dat) : Env := ds.map Slot.val ++ List.replicate (n - ds.length) .no
/-- what a call gives, k calls deep; prim: the defs that are told by a law of their own -/
def callW (T : List FDef) (G : Nat → Option Dat) (prim : Nat → Option (List Dat → (Dat → Prop) → Prop)) : Nat → Nat → List Dat → (Dat → Prop) → Prop
  | 0, _, _, _ => False
  | k + 1, f, ds, Q => match prim f with
    | some p => p ds Q
    | none => match T[f]? with
      | none => False
      | some d => ds.length = d.np ∧ execs (fun f' ds' Q' => callW T G prim k f' ds' Q') G d.body (startD d.nn ds) { nx := fun _ => Q .non, rt := fun _ => Q }
end SF

/-! D2: data in the abstract heap. -/
namespace SF
open PySem PySem.Spec PyProof.Rows L2

/-- the pot: a list of three ints, the third at most z -/
def potO (a : Addr) (z : Nat) : HO := .ext fun h => ∃ (x y c : Int) (t1 t2 t3 : Tok) (n : Nat), h.get? a = some { cls := .type "list", data := .seq #[.int x t1, .int y t2, .int c t3] n } ∧
  0 ≤ x ∧ x < 10 ^ 301 ∧ 0 ≤ y ∧ y < 2305843009213693951 ∧ 0 ≤ c ∧ c ≤ (z : Int)
/-- what the third cell may come to -/
def zMax : Nat := 2 ^ 30000

/-- a list that is kept: frozen -/
def FzL (H : Hp) (a : Addr) (xs : List V) : Prop := ∃ o, H a = some (.frz o (.lst xs))
theorem FzL.sq {K : PySem.W.Frag} {H : Hp} {a : Addr} {xs : List V} (h : FzL H a xs) : SqL K H a xs := by
  obtain ⟨o, h⟩ := h
  exact .inl (.inr ⟨o, h⟩)

/-- a tuple that is kept: frozen, or written -/
def TupAt (K : PySem.W.Frag) (H : Hp) (a : Addr) (xs : List V) : Prop := (∃ o : Obj, H a = some (.frz o (.tup xs)) ∧ o.dict = none) ∨
    ∃ (o : Obj) (its : Array Value) (n : Nat), K.lookup a = some o ∧ o.cls = .type "tuple" ∧ o.dict = none ∧ o.data = .seq its n ∧ its.size ≤ sizeLine ∧ Vals xs its.toList
theorem TupAt.sq {K : PySem.W.Frag} {H : Hp} {a : Addr} {xs : List V} (h : TupAt K H a xs) : SqT K H a xs := by
  rcases h with ⟨o, h, _⟩ | ⟨o, its, n, h1, h2, _, h3⟩
  · exact .inl (.inr ⟨o, h⟩)
  · exact .inr ⟨o, its, n, h1, h2, h3⟩
/-- the script -/
def ScrL (K : PySem.W.Frag) (H : Hp) (a : Addr) (xs : List V) : Prop := FzL H a xs ∨
    ∃ (o : Obj) (its : Array Value) (n : Nat), K.lookup a = some o ∧ o.cls = .type "list" ∧ o.dict = none ∧ o.data = .seq its n ∧ its.size ≤ sizeLine ∧ Vals xs its.toList
theorem ScrL.sq {K : PySem.W.Frag} {H : Hp} {a : Addr} {xs : List V} (h : ScrL K H a xs) : SqL K H a xs := by
  rcases h with h | h
  · exact h.sq
  · exact .inr h
/-- a dict that is kept -/
def FzD (H : Hp) (a : Addr) (kvs : List (Key × V)) : Prop := ∃ o, H a = some (.frz o (.dK kvs))
def kD : Key → Dat
  | .inl i => .int i
  | .inr x => .str x.cps.toList
/-- what a statement may write -/
def Chg (o : HO) : Prop := (∃ xs, o = .lst xs) ∨ ∃ kvs, o = .dK kvs
theorem Chg.frz {o : Obj} {u : HO} (h : Chg (.frz o u)) : False := by
  rcases h with ⟨_, h⟩ | ⟨_, h⟩ <;> exact nomatch h
theorem Chg.ext {φ : Heap → Prop} (h : Chg (.ext φ)) : False := by
  rcases h with ⟨_, h⟩ | ⟨_, h⟩ <;> exact nomatch h
mutual
def Rep (K : PySem.W.Frag) (H : Hp) : V → Dat → Prop
  | v, .non => v = .non
  | v, .bl b => v = .bl b
  | v, .int i => v = .int i
  | v, .str s => v = .str ⟨s.toArray⟩ ∧ s.length ≤ sizeLine
  | v, .tup l => ∃ a vs, v = .ref a ∧ TupAt K H a vs ∧ l.length ≤ sizeLine ∧ Reps K H vs l
  | v, .lst l => ∃ a vs, v = .ref a ∧ FzL H a vs ∧ l.length ≤ sizeLine ∧ Reps K H vs l
  | v, .dic l => ∃ a kvs, v = .ref a ∧ FzD H a kvs ∧ l.length ≤ sizeLine ∧ RepKv K H kvs l
  | _, .obj _ _ => False
  | v, .pot => ∃ a z, v = .ref a ∧ H a = some (potO a z)
  | v, .scr l => ∃ a, v = .ref a ∧ ScrL K H a (l.map V.int) ∧ l.length ≤ 1000
def Reps (K : PySem.W.Frag) (H : Hp) : List V → List Dat → Prop
  | [], [] => True
  | v :: vs, d :: ds => Rep K H v d ∧ Reps K H vs ds
  | _, _ => False
def RepKv (K : PySem.W.Frag) (H : Hp) : List (Key × V) → List (Dat × Dat) → Prop
  | [], [] => True
  | (k, v) :: vs, (c, d) :: ds => kD k = c ∧ Rep K H v d ∧ RepKv K H vs ds
  | _, _ => False
end

/-- what an expression may do to the heap: new things, and pots drawn from -/
def Ext (H H' : Hp) : Prop := ∀ a o, H a = some o → H' a = some o ∨ ((∃ z, o = potO a z) ∧ ∃ z, H' a = some (potO a z))
theorem Ext.refl (H : Hp) : Ext H H := fun _ _ h => .inl h
theorem Ext.trans {H H1 H2 : Hp} (a : Ext H H1) (b : Ext H1 H2) : Ext H H2 := fun c o h => by
  rcases a c o h with q | ⟨hz, z, q⟩
  · exact b c o q
  · rcases b c _ q with r | ⟨_, r⟩
    · exact .inr ⟨hz, z, r⟩
    · exact .inr ⟨hz, r⟩
theorem Ext.of_same {H H' : Hp} (h : Same H H') : Ext H H' := fun a o e => .inl (h a o e)
theorem not_pot_tup {a : Addr} {xs : List V} : ¬ ∃ z, HO.tup xs = potO a z := fun ⟨_, h⟩ => nomatch h
theorem Ext.keep {H H' : Hp} (e : Ext H H') {a : Addr} {o : HO} (h : H a = some o) (n : ∀ z, o ≠ potO a z) : H' a = some o := by
  rcases e a o h with q | ⟨⟨z, q⟩, _⟩
  · exact q
  · exact absurd q (n z)
theorem Ext.sqT {K : PySem.W.Frag} {H H' : Hp} (e : Ext H H') {a : Addr} {xs : List V} (h : TupAt K H a xs) : TupAt K H' a xs := by
  rcases h with ⟨o, h, d⟩ | h
  · exact .inl ⟨o, e.keep h (fun _ q => nomatch q), d⟩
  · exact .inr h
theorem Ext.fzL {H H' : Hp} (e : Ext H H') {a : Addr} {xs : List V} (h : FzL H a xs) : FzL H' a xs := by
  obtain ⟨o, h⟩ := h
  exact ⟨o, e.keep h fun _ q => nomatch q⟩
theorem Ext.fzD {H H' : Hp} (e : Ext H H') {a : Addr} {xs : List (Key × V)} (h : FzD H a xs) : FzD H' a xs := by
  obtain ⟨o, h⟩ := h
  exact ⟨o, e.keep h fun _ q => nomatch q⟩
theorem Ext.scrL {K : PySem.W.Frag} {H H' : Hp} (e : Ext H H') {a : Addr} {xs : List V} (h : ScrL K H a xs) : ScrL K H' a xs := by
  rcases h with h | h
  · exact .inl (e.fzL h)
  · exact .inr h

mutual
theorem Rep.ext {K : PySem.W.Frag} {H H' : Hp} (e : Ext H H') : ∀ (d : Dat) (v : V), Rep K H v d → Rep K H' v d
  | .non, v, h => by rw [Rep] at h ⊢; exact h
  | .bl b, v, h => by rw [Rep] at h ⊢; exact h
  | .int i, v, h => by rw [Rep] at h ⊢; exact h
  | .str s, v, h => by rw [Rep] at h ⊢; exact h
  | .tup l, v, h => by
    rw [Rep] at h ⊢
    obtain ⟨a, vs, h1, h2, h3, h4⟩ := h
    exact ⟨a, vs, h1, e.sqT h2, h3, Reps.ext e l vs h4⟩
  | .lst l, v, h => by
    rw [Rep] at h ⊢
    obtain ⟨a, vs, h1, h2, h3, h4⟩ := h
    exact ⟨a, vs, h1, e.fzL h2, h3, Reps.ext e l vs h4⟩
  | .dic l, v, h => by
    rw [Rep] at h ⊢
    obtain ⟨a, vs, h1, h2, h3, h4⟩ := h
    exact ⟨a, vs, h1, e.fzD h2, h3, RepKv.ext e l vs h4⟩
  | .obj c l, v, h => by rw [Rep] at h; exact h.elim
  | .pot, v, h => by
    rw [Rep] at h ⊢
    obtain ⟨a, z, h1, h2⟩ := h
    rcases e a _ h2 with q | ⟨_, z', q⟩
    · exact ⟨a, z, h1, q⟩
    · exact ⟨a, z', h1, q⟩
  | .scr l, v, h => by
    rw [Rep] at h ⊢
    obtain ⟨a, h1, h2, h3⟩ := h
    exact ⟨a, h1, e.scrL h2, h3⟩
theorem Reps.ext {K : PySem.W.Frag} {H H' : Hp} (e : Ext H H') : ∀ (ds : List Dat) (vs : List V), Reps K H vs ds → Reps K H' vs ds
  | [], [], _ => by rw [Reps]; trivial
  | [], _ :: _, h => by rw [Reps] at h <;> first | exact h.elim | simp_all
  | _ :: _, [], h => by rw [Reps] at h <;> first | exact h.elim | simp_all
  | d :: ds, v :: vs, h => by
    rw [Reps] at h ⊢
    exact ⟨Rep.ext e d v h.1, Reps.ext e ds vs h.2⟩
theorem RepKv.ext {K : PySem.W.Frag} {H H' : Hp} (e : Ext H H') : ∀ (ds : List (Dat × Dat)) (vs : List (Key × V)), RepKv K H vs ds → RepKv K H' vs ds
  | [], [], _ => by rw [RepKv]; trivial
  | [], _ :: _, h => by simp [RepKv] at h
  | (_, _) :: _, [], h => by simp [RepKv] at h
  | (c, d) :: ds, (k, v) :: vs, h => by
    rw [RepKv] at h ⊢
    exact ⟨h.1, Rep.ext e d v h.2.1, RepKv.ext e ds vs h.2.2⟩
end

/-- the pots have room for m more draws -/
def PotLe (m : Nat) (H : Hp) : Prop := m ≤ zMax ∧ ∀ a z, H a = some (potO a z) → z + m ≤ zMax
theorem PotLe.mono {m n : Nat} {H : Hp} (h : PotLe n H) (le : m ≤ n) : PotLe m H := ⟨Nat.le_trans le h.1, fun a z e => by have := h.2 a z e; omega⟩
/-- a step of at most n draws -/
structure Step (n : Nat) (H H' : Hp) : Prop where
  ext : Ext H H'
  pot : ∀ m, PotLe (n + m) H → PotLe m H'
theorem Step.refl (H : Hp) : Step 0 H H := ⟨Ext.refl H, fun m h => by rwa [Nat.zero_add] at h⟩
theorem Step.trans {n n' : Nat} {H H1 H2 : Hp} (a : Step n H H1) (b : Step n' H1 H2) : Step (n + n') H H2 :=
  ⟨a.ext.trans b.ext, fun m h => b.pot m (a.pot (n' + m) (by rw [← Nat.add_assoc]; exact h))⟩
theorem Step.mono {n n' : Nat} {H H' : Hp} (a : Step n H H') (le : n ≤ n') : Step n' H H' := ⟨a.ext, fun m h => a.pot m (h.mono (by omega))⟩
/-- new things that are no pots -/
theorem Step.of_new {H H' : Hp} (e : Same H H') (h : ∀ a z, H' a = some (potO a z) → H a = some (potO a z)) : Step 0 H H' :=
  ⟨.of_same e, fun m q => by rw [Nat.zero_add] at q; exact ⟨q.1, fun a z x => q.2 a z (h a z x)⟩⟩
theorem Step.upd {H : Hp} {p : Addr} {o : HO} (hp : H p = none) (no : ∀ z, o ≠ potO p z) : Step 0 H (upd H p o) :=
  .of_new (fun b x e => by rw [upd_ne (ne_of_none e hp)]; exact e) fun a z h => by
    by_cases ha : a = p
    · subst ha; rw [upd_same] at h; exact absurd (Option.some.inj h) (no z)
    · rwa [upd_ne ha] at h

/-! ### freezing -/
theorem Inv_keep {X : Cx} {pins : List (Addr × Obj)} {σ : L2.St} {H : Hp} {s : Shared} {a : Addr} {u : HO} (hu : Chg u) (I : Inv X pins σ H s) (h : H a = some u) : ∃ o, Inv X pins σ (upd H a (.frz o u)) s := by
  obtain ⟨ob, e'⟩ : ∃ ob, s.heap.get? a = some ob := by
    rcases hu with ⟨xs, rfl⟩ | ⟨kvs, rfl⟩
    · obtain ⟨_, _, _, _, e⟩ := I.hok a _ h
      exact ⟨_, e⟩
    · obtain ⟨_, _, _, _, o, _, _, e, _⟩ := I.hok a _ h
      exact ⟨o, e⟩
  obtain ⟨n1, n2, n3⟩ : (∀ ys, u ≠ .tup ys) ∧ (∀ o x, u ≠ .frz o x) ∧ ∀ ps, u ≠ .tbl ps := by
    rcases hu with ⟨_, rfl⟩ | ⟨_, rfl⟩ <;> exact ⟨fun _ q => (nomatch q), fun _ _ q => (nomatch q), fun _ q => (nomatch q)⟩
  have other : ∀ {b : Addr} {x : HO}, H b = some x → x ≠ u → b ≠ a := fun hb ne z => by
    subst z
    rw [h] at hb
    exact ne (Option.some.inj hb).symm
  have un : Un X.fs [] H (upd H a (.frz ob u)) s.heap s.heap := by
    refine ⟨fun b o q _ _ _ => q, fun b o q _ _ _ => ⟨o.slots, q⟩, fun b o q nn _ => ?_, fun b o q _ => ⟨o, q⟩, fun b ys q => ?_, fun b o x q => ?_, fun b ps q => ⟨#[], ?_⟩⟩
    · rw [upd_ne (fun z => by subst z; rw [h] at nn; cases nn)]; exact nn
    · rw [upd_ne (other q (n1 ys).symm)]; exact q
    · rw [upd_ne (other q (n2 o x).symm)]; exact q
    · rw [upd_ne (other q (n3 ps).symm), q]; simp
  refine ⟨ob, I.un (h' := s.heap) (t' := s.toks) un fun b x q => ?_⟩
  by_cases hb : b = a
  · subst hb
    rw [upd_same] at q; cases q
    rcases hu with ⟨_, rfl⟩ | ⟨_, rfl⟩ <;> exact ⟨e', I.hok b _ h⟩
  · rw [upd_ne hb] at q
    have hown : ∀ x, HO.own x ≠ u := fun x z => by rcases hu with ⟨_, rfl⟩ | ⟨_, rfl⟩ <;> exact nomatch z
    exact (I.hok b x q).stay (fun c v _ w => w) (fun c w => by rw [upd_ne (other w (hown _))]; exact w) fun c ys w => by rw [upd_ne (other w (n1 ys).symm)]; exact w
theorem Inv_freeze {X : Cx} {pins : List (Addr × Obj)} {σ : L2.St} {H : Hp} {s : Shared} {a : Addr} {xs : List V} (I : Inv X pins σ H s) (h : H a = some (.lst xs)) : ∃ o, Inv X pins σ (upd H a (.frz o (.lst xs))) s := Inv_keep (.inl ⟨_, rfl⟩) I h
theorem EP_freeze {X : Cx} {pins : List (Addr × Obj)} {σ : L2.St} {H : Hp} {s : Shared} {a : Addr} {xs : List V} {Q : VK} {u : Value} (I : Inv X pins σ H s) (h : H a = some (.lst xs)) (r : RelV (.ref a) u) (q : ∀ o, Q (.ref a) (upd H a (.frz o (.lst xs)))) : EP X pins σ Q u s := by
  obtain ⟨o, I'⟩ := Inv_freeze I h
  exact ⟨.ref a, _, I', r, q o⟩

/-! ### a list that is written does not matter to what is kept -/
mutual
theorem Rep.wr {K : PySem.W.Frag} {H : Hp} {a : Addr} {u : HO} (hu : Chg u) (o : HO) (h0 : H a = some u) : ∀ (d : Dat) (v : V), Rep K H v d → Rep K (L2.upd H a o) v d
  | .non, v, h => by rw [Rep] at h ⊢; exact h
  | .bl b, v, h => by rw [Rep] at h ⊢; exact h
  | .int i, v, h => by rw [Rep] at h ⊢; exact h
  | .str s, v, h => by rw [Rep] at h ⊢; exact h
  | .tup l, v, h => by
    rw [Rep] at h ⊢
    obtain ⟨b, vs, h1, h2, h3, h4⟩ := h
    refine ⟨b, vs, h1, ?_, h3, Reps.wr hu o h0 l vs h4⟩
    rcases h2 with ⟨ob, h2, d⟩ | h2
    · exact .inl ⟨ob, by rw [upd_ne (fun z => by subst z; rw [h0] at h2; cases h2; exact hu.frz)]; exact h2, d⟩
    · exact .inr h2
  | .lst l, v, h => by
    rw [Rep] at h ⊢
    obtain ⟨b, vs, h1, ⟨ob, h2⟩, h3, h4⟩ := h
    exact ⟨b, vs, h1, ⟨ob, by rw [upd_ne (fun z => by subst z; rw [h0] at h2; cases h2; exact hu.frz)]; exact h2⟩, h3, Reps.wr hu o h0 l vs h4⟩
  | .dic l, v, h => by
    rw [Rep] at h ⊢
    obtain ⟨b, vs, h1, ⟨ob, h2⟩, h3, h4⟩ := h
    exact ⟨b, vs, h1, ⟨ob, by rw [upd_ne (fun z => by subst z; rw [h0] at h2; cases h2; exact hu.frz)]; exact h2⟩, h3, RepKv.wr hu o h0 l vs h4⟩
  | .obj c l, v, h => by rw [Rep] at h; exact h.elim
  | .pot, v, h => by
    rw [Rep] at h ⊢
    obtain ⟨b, z, h1, h2⟩ := h
    exact ⟨b, z, h1, by rw [upd_ne (fun z => by subst z; rw [h0] at h2; cases h2; exact hu.ext)]; exact h2⟩
  | .scr l, v, h => by
    rw [Rep] at h ⊢
    obtain ⟨b, h1, h2, h3⟩ := h
    refine ⟨b, h1, ?_, h3⟩
    rcases h2 with ⟨ob, h2⟩ | h2
    · exact .inl ⟨ob, by rw [upd_ne (fun z => by subst z; rw [h0] at h2; cases h2; exact hu.frz)]; exact h2⟩
    · exact .inr h2
theorem Reps.wr {K : PySem.W.Frag} {H : Hp} {a : Addr} {u : HO} (hu : Chg u) (o : HO) (h0 : H a = some u) : ∀ (ds : List Dat) (vs : List V), Reps K H vs ds → Reps K (L2.upd H a o) vs ds
  | [], [], _ => by rw [Reps]; trivial
  | [], _ :: _, h => by simp [Reps] at h
  | _ :: _, [], h => by simp [Reps] at h
  | d :: ds, v :: vs, h => by
    rw [Reps] at h ⊢
    exact ⟨Rep.wr hu o h0 d v h.1, Reps.wr hu o h0 ds vs h.2⟩
theorem RepKv.wr {K : PySem.W.Frag} {H : Hp} {a : Addr} {u : HO} (hu : Chg u) (o : HO) (h0 : H a = some u) : ∀ (ds : List (Dat × Dat)) (vs : List (Key × V)), RepKv K H vs ds → RepKv K (L2.upd H a o) vs ds
  | [], [], _ => by rw [RepKv]; trivial
  | [], _ :: _, h => by simp [RepKv] at h
  | (_, _) :: _, [], h => by simp [RepKv] at h
  | (c, d) :: ds, (k, v) :: vs, h => by
    rw [RepKv] at h ⊢
    exact ⟨h.1, Rep.wr hu o h0 d v h.2.1, RepKv.wr hu o h0 ds vs h.2.2⟩
end

/-! ### owned lists; what may be looked at -/
def Own (K : PySem.W.Frag) (H : Hp) (a : Addr) : Dat → Prop
  | .lst l => ∃ vs, H a = some (.lst vs) ∧ l.length ≤ sizeLine ∧ Reps K H vs l
  | .dic l => ∃ kvs, H a = some (.dK kvs) ∧ l.length ≤ sizeLine ∧ RepKv K H kvs l
  | _ => False
def BRep (K : PySem.W.Frag) (H : Hp) (v : V) (d : Dat) : Prop := Rep K H v d ∨ ∃ a, v = .ref a ∧ Own K H a d
theorem Own.ext {K : PySem.W.Frag} {H H' : Hp} (e : Ext H H') {a : Addr} {d : Dat} (h : Own K H a d) : Own K H' a d := by
  cases d with
  | lst l =>
    obtain ⟨vs, h1, h2, h3⟩ := h
    exact ⟨vs, e.keep h1 fun _ q => (nomatch q), h2, Reps.ext e l vs h3⟩
  | dic l =>
    obtain ⟨vs, h1, h2, h3⟩ := h
    exact ⟨vs, e.keep h1 fun _ q => (nomatch q), h2, RepKv.ext e l vs h3⟩
  | _ => exact h.elim
theorem BRep.ext {K : PySem.W.Frag} {H H' : Hp} (e : Ext H H') {v : V} {d : Dat} (h : BRep K H v d) : BRep K H' v d := by
  rcases h with h | ⟨a, h1, h2⟩
  · exact .inl (Rep.ext e d v h)
  · exact .inr ⟨a, h1, h2.ext e⟩

def SlotRep (K : PySem.W.Frag) (H : Hp) : Option (Option V) → Slot → Prop
  | _, .no => True
  | some (some v), .val d => Rep K H v d
  | some (some v), .own d => ∃ a, v = .ref a ∧ Own K H a d
  | _, _ => False
def EnvRep (K : PySem.W.Frag) (σ : L2.St) (H : Hp) (δ : Env) : Prop := σ.length = δ.length ∧ ∀ (i : Nat) (s : Slot), δ[i]? = some s → SlotRep K H σ[i]? s
theorem SlotRep.ext {K : PySem.W.Frag} {H H' : Hp} (e : Ext H H') : ∀ {x : Option (Option V)} {s : Slot}, SlotRep K H x s → SlotRep K H' x s := by
  intro x s h
  cases s with
  | no => trivial
  | val d =>
    match x, h with
    | some (some v), h => exact Rep.ext e d v h
  | own d =>
    match x, h with
    | some (some v), ⟨a, h1, h2⟩ => exact ⟨a, h1, h2.ext e⟩
theorem EnvRep.ext {K : PySem.W.Frag} {σ : L2.St} {H H' : Hp} {δ : Env} (e : Ext H H') (h : EnvRep K σ H δ) : EnvRep K σ H' δ := ⟨h.1, fun i s q => (h.2 i s q).ext e⟩

/-! ### more of what is wanted -/
def Mono {α : Type} (f : (α → Prop) → Prop) : Prop := ∀ P Q : α → Prop, (∀ d, P d → Q d) → f P → f Q
theorem op2W_mono (o : O2) (x y : Dat) : Mono (op2W o x y) := by
  intro P Q h hp
  unfold op2W at *
  split at hp <;> first | exact h _ hp | exact ⟨hp.1, h _ hp.2⟩ | exact hp.elim
theorem inW_mono (x y : Dat) : Mono (inW x y) := by
  intro P Q h hp
  unfold inW at *
  split at hp
  · exact ⟨hp.1, hp.2.1, h _ hp.2.2⟩
  · exact ⟨hp.1, hp.2.1, h _ hp.2.2⟩
  · split at hp
    · exact h _ hp
    · exact hp.elim
  · exact hp.elim
theorem cmpW_mono (o : C2) (x y : Dat) : Mono (cmpW o x y) := by
  intro P Q h hp
  unfold cmpW at *
  split at hp
  · exact ⟨hp.1, hp.2.1, h _ hp.2.2⟩
  · exact ⟨hp.1, hp.2.1, h _ hp.2.2⟩
  · exact ⟨hp.1, h _ hp.2⟩
  · exact ⟨hp.1, h _ hp.2⟩
  · exact ⟨hp.1, h _ hp.2⟩
  · exact ⟨hp.1, h _ hp.2⟩
  · exact inW_mono _ _ _ _ h hp
  · exact inW_mono _ _ _ _ (fun b => h (!b)) hp
theorem boolW_mono (d : Dat) : Mono (boolW d) := by
  intro P Q h hp
  unfold boolW at *
  split at hp
  · exact h _ hp
  · exact hp.elim
theorem biW_mono (b : B1) (l : List Dat) : Mono (biW b l) := by
  intro P Q h hp
  cases b <;> simp only [biW] at hp ⊢
  all_goals first
    | exact hp.elim
    | (unfold lenW at *; split at hp <;> first | exact h _ hp | exact hp.elim)
    | (unfold absW at *; split at hp <;> first | exact h _ hp | exact hp.elim)
    | (unfold maxW at *; split at hp <;> first | exact h _ hp | exact hp.elim)
    | (unfold minW at *; split at hp <;> first | exact h _ hp | exact hp.elim)
    | (unfold tupleW at *; split at hp <;> first | exact h _ hp | exact hp.elim)
    | (unfold listW at *; split at hp <;> first | exact h _ hp | exact hp.elim)
    | (unfold intW at *; split at hp <;> first | exact h _ hp | exact hp.elim)
    | (unfold reprW at *; split at hp <;> first | exact ⟨hp.1, h _ hp.2⟩ | exact hp.elim)
    | (unfold sortedW at *; split at hp <;> first | exact ⟨hp.1, hp.2.1, h _ hp.2.2⟩ | exact ⟨hp.1, h _ hp.2⟩ | exact hp.elim)
    | (unfold allW at *; split at hp <;> first | (obtain ⟨bs, q1, q2⟩ := hp; exact ⟨bs, q1, h _ q2⟩) | exact hp.elim)
    | (unfold anyW at *; split at hp <;> first | (obtain ⟨bs, q1, q2⟩ := hp; exact ⟨bs, q1, h _ q2⟩) | exact hp.elim)
theorem meW_mono (m : M1) (o : Dat) (l : List Dat) : Mono (meW m o l) := by
  intro P Q h hp
  cases m <;> simp only [meW] at hp ⊢
  all_goals first
    | exact hp.elim
    | (unfold indexW at *; split at hp <;> first | (obtain ⟨q1, q2, q3, q4⟩ := hp; exact ⟨q1, q2, q3, h _ q4⟩) | exact hp.elim)
    | (unfold joinW at *; split at hp <;> first | (obtain ⟨l, q1, q2, q3⟩ := hp; exact ⟨l, q1, q2, h _ q3⟩) | exact hp.elim)
    | (unfold replaceW at *; split at hp <;> first | exact ⟨hp.1, h _ hp.2⟩ | exact hp.elim)
    | (unfold lstripW at *; split at hp <;> first | exact h _ hp | exact hp.elim)
theorem negW_mono (x : Dat) : Mono (negW x) := by
  intro P Q h hp
  unfold negW at *
  split at hp
  · exact h _ hp
  · exact hp.elim
theorem rangeW_mono (x : Dat) : Mono (rangeW x) := by
  intro P Q h hp
  unfold rangeW at *
  split at hp
  · exact ⟨hp.1, h _ hp.2⟩
  · exact hp.elim
theorem range2W_mono (x y : Dat) : Mono (range2W x y) := by
  intro P Q h hp
  unfold range2W at *
  split at hp
  · exact ⟨hp.1, h _ hp.2⟩
  · exact hp.elim
theorem rangeDW_mono (x : Dat) : Mono (rangeDW x) := by
  intro P Q h hp
  unfold rangeDW at *
  split at hp
  · exact ⟨hp.1, h _ hp.2⟩
  · exact hp.elim
theorem flatW_mono {α : Type} {f : α → (List Dat → Prop) → Prop} (hf : ∀ x, Mono (f x)) : ∀ (l : List α), Mono (flatW f l)
  | [] => fun P Q h hp => by rw [flatW] at *; exact h _ hp
  | x :: xs => fun P Q h hp => by
    rw [flatW] at *
    exact hf x _ _ (fun zs => flatW_mono hf xs _ _ fun ys => h _) hp
theorem idxW_mono (x i : Dat) : Mono (idxW x i) := by
  intro P Q h hp
  unfold idxW at *
  split at hp
  all_goals first
    | exact hp.elim
    | (obtain ⟨l, q1, q2⟩ := hp; exact ⟨l, q1, h _ q2⟩)
theorem sliceW_mono (x l r : Dat) : Mono (sliceW x l r) := by
  intro P Q h hp
  unfold sliceW at *
  dsimp only at *
  split at hp
  all_goals first
    | exact hp.elim
    | (split at hp <;> first | exact h _ hp | exact hp.elim)
theorem getV_mono (δ : Env) (i : Nat) : Mono (getV δ i) := by
  intro P Q h hp
  unfold getV at *
  split at hp
  · exact h _ hp
  · exact hp.elim
theorem getO_mono (δ : Env) (i : Nat) : Mono (getO δ i) := by
  intro P Q h hp
  unfold getO at *
  split at hp
  · exact h _ hp
  · exact hp.elim
mutual
theorem bindP_mono : ∀ (p : P) (d : Dat) (δ : Env), Mono (bindP p d δ)
  | .v i, d, δ => fun P Q h hp => by rw [bindP] at *; exact h _ hp
  | .t ps, d, δ => fun P Q h hp => by
    cases d with
    | tup ds => rw [bindP] at *; exact bindPs_mono ps ds δ P Q h hp
    | _ => rw [bindP] at hp <;> first | exact hp.elim | (intro _ _ z; cases z)
theorem bindPs_mono : ∀ (ps : List P) (ds : List Dat) (δ : Env), Mono (bindPs ps ds δ)
  | [], [], δ => fun P Q h hp => by rw [bindPs] at *; exact h _ hp
  | [], _ :: _, δ => fun P Q h hp => by simp [bindPs] at hp
  | _ :: _, [], δ => fun P Q h hp => by simp [bindPs] at hp
  | p :: ps, d :: ds, δ => fun P Q h hp => by
    rw [bindPs] at *
    exact bindP_mono p d δ _ _ (fun δ' => bindPs_mono ps ds δ' P Q h) hp
end
theorem mapW_mono {α : Type} {f : α → (Option Dat → Prop) → Prop} (hf : ∀ x, Mono (f x)) : ∀ (l : List α), Mono (mapW f l)
  | [] => fun P Q h hp => by rw [mapW] at *; exact h _ hp
  | x :: xs => fun P Q h hp => by
    rw [mapW] at *
    exact hf x _ _ (fun o => mapW_mono hf xs _ _ fun ys => h _) hp
end SF

/-! D2b: the readings grow with what is wanted. -/
namespace SF
open PySem PySem.Spec PyProof.Rows L2
section
variable {C : Nat → List Dat → (Dat → Prop) → Prop} {G : Nat → Option Dat}
mutual
theorem ev_mono (hC : ∀ f ds, Mono (C f ds)) : ∀ (e : E) (m : M) (δ : Env), Mono (ev C G e m δ)
  | .var i, m, δ => fun P Q h hp => by rw [ev] at *; exact getV_mono δ i _ _ h hp
  | .obs i, m, δ => fun P Q h hp => by
    cases m with
    | v => simp only [ev] at hp
    | b => simp only [ev] at hp ⊢; exact getO_mono δ i _ _ h hp
    | i => simp only [ev] at hp ⊢; exact getO_mono δ i _ _ h hp
  | .glob i, m, δ => fun P Q h hp => by
    rw [ev] at *
    split at hp
    · exact h _ hp
    · exact hp.elim
  | .non, m, δ => fun P Q h hp => by rw [ev] at *; exact h _ hp
  | .bl b, m, δ => fun P Q h hp => by rw [ev] at *; exact h _ hp
  | .int b, m, δ => fun P Q h hp => by rw [ev] at *; exact h _ hp
  | .str b, m, δ => fun P Q h hp => by rw [ev] at *; exact h _ hp
  | .op2 o a b, m, δ => fun P Q h hp => by
    rw [ev] at *
    exact ev_mono hC a .b δ _ _ (fun x => ev_mono hC b .b δ _ _ fun y => op2W_mono o x y _ _ h) hp
  | .neg a, m, δ => fun P Q h hp => by
    rw [ev] at *
    exact ev_mono hC a .v δ _ _ (fun x => negW_mono x _ _ h) hp
  | .cmp o a b, m, δ => fun P Q h hp => by
    rw [ev] at *
    exact ev_mono hC a .b δ _ _ (fun x => ev_mono hC b .b δ _ _ fun y => cmpW_mono o x y _ _ fun b => h _) hp
  | .chain o o' a b c, m, δ => fun P Q h hp => by
    rw [ev] at *
    refine ev_mono hC a .b δ _ _ (fun x => ev_mono hC b .b δ _ _ fun y => cmpW_mono o x y _ _ fun k hk => ?_) hp
    split at hk
    · rename_i hkk
      rw [if_pos hkk]
      exact ev_mono hC c .b δ _ _ (fun z => cmpW_mono o' y z _ _ fun k' => h _) hk
    · rename_i hkk
      rw [if_neg hkk]
      exact h _ hk
  | .isN a, m, δ => fun P Q h hp => by
    rw [ev] at *
    exact ev_mono hC a .v δ _ _ (fun x => h _) hp
  | .notN a, m, δ => fun P Q h hp => by
    rw [ev] at *
    exact ev_mono hC a .v δ _ _ (fun x => h _) hp
  | .and a b, m, δ => fun P Q h hp => by
    rw [ev] at *
    refine ev_mono hC a .v δ _ _ (fun x => boolW_mono x _ _ fun k hk => ?_) hp
    split at hk
    · rename_i hkk
      rw [if_pos hkk]
      exact ev_mono hC b .v δ _ _ h hk
    · rename_i hkk
      rw [if_neg hkk]
      exact h _ hk
  | .or a b, m, δ => fun P Q h hp => by
    rw [ev] at *
    refine ev_mono hC a .v δ _ _ (fun x => boolW_mono x _ _ fun k hk => ?_) hp
    split at hk
    · rename_i hkk
      rw [if_pos hkk]
      exact h _ hk
    · rename_i hkk
      rw [if_neg hkk]
      exact ev_mono hC b .v δ _ _ h hk
  | .not a, m, δ => fun P Q h hp => by
    rw [ev] at *
    exact ev_mono hC a .v δ _ _ (fun x => boolW_mono x _ _ fun k => h _) hp
  | .ite c a b, m, δ => fun P Q h hp => by
    rw [ev] at *
    refine ev_mono hC c .v δ _ _ (fun x => boolW_mono x _ _ fun k hk => ?_) hp
    split at hk
    · rename_i hkk
      rw [if_pos hkk]
      exact ev_mono hC a .v δ _ _ h hk
    · rename_i hkk
      rw [if_neg hkk]
      exact ev_mono hC b .v δ _ _ h hk
  | .tup l, m, δ => fun P Q h hp => by
    rw [ev] at *
    exact evs_mono hC l .v δ _ _ (fun x => h _) hp
  | .lst l, m, δ => fun P Q h hp => by
    rw [ev] at *
    exact evs_mono hC l .v δ _ _ (fun x => h _) hp
  | .idx a i, m, δ => fun P Q h hp => by
    rw [ev] at *
    exact ev_mono hC a .b δ _ _ (fun x => ev_mono hC i .v δ _ _ fun y => idxW_mono x y _ _ h) hp
  | .slc a l r, m, δ => fun P Q h hp => by
    rw [ev] at *
    exact ev_mono hC a .b δ _ _ (fun x => ev_mono hC l .v δ _ _ fun y => ev_mono hC r .v δ _ _ fun z => sliceW_mono x y z _ _ h) hp
  | .bi b l, m, δ => fun P Q h hp => by
    rw [ev] at *
    exact evs_mono hC l .b δ _ _ (fun ds => biW_mono b ds _ _ h) hp
  | .isi a t, m, δ => fun P Q h hp => by
    rw [ev] at *
    exact ev_mono hC a .v δ _ _ (fun x hx => ⟨hx.1, h _ hx.2⟩) hp
  | .me mm o l, m, δ => fun P Q h hp => by
    rw [ev] at *
    exact ev_mono hC o .b δ _ _ (fun x q => ⟨q.1, evs_mono hC l .b δ _ _ (fun ds => meW_mono mm x ds _ _ h) q.2⟩) hp
  | .call f l kl sh, m, δ => fun P Q h hp => by
    rw [ev] at *
    exact evs_mono hC l .v δ _ _ (fun ds => evs_mono hC kl .v δ _ _ fun ks hk => hC _ _ _ _ h hk) hp
  | .comp own p it c e, m, δ => fun P Q h hp => by
    rw [ev] at *
    refine ev_mono hC it .i δ _ _ (fun x ⟨ds, hd, hm⟩ => ⟨ds, hd, mapW_mono (fun d P Q h hp => ?_) ds _ _ (fun ys => h _) hm⟩) hp
    refine bindP_mono p d _ _ _ (fun δ' => ev_mono hC c .v δ' _ _ fun b => boolW_mono b _ _ fun k hk => ?_) hp
    split at hk
    · rename_i hkk
      rw [if_pos hkk]
      exact ev_mono hC e .v δ' _ _ (fun y => h _) hk
    · rename_i hkk
      rw [if_neg hkk]
      exact h _ hk
  | .dnew, m, δ => fun P Q h hp => by
    rw [ev] at *
    exact h _ hp
  | .sset a, m, δ => fun P Q h hp => by
    rw [ev] at *
    exact ev_mono hC a .b δ _ _ (fun x ⟨l, q1, q2, q3⟩ => ⟨l, q1, q2, h _ q3⟩) hp
  | .scomp own p it c e, m, δ => fun P Q h hp => by
    rw [ev] at *
    refine ev_mono hC it .i δ _ _ (fun x ⟨ds, hd, hz, hm⟩ => ⟨ds, hd, hz, mapW_mono (fun d P Q h hp => ?_) ds _ _ (fun ys ⟨l, q1, q2⟩ => ⟨l, q1, h _ q2⟩) hm⟩) hp
    refine bindP_mono p d _ _ _ (fun δ' => ev_mono hC c .v δ' _ _ fun b => boolW_mono b _ _ fun k hk => ?_) hp
    split at hk
    · rename_i hkk
      rw [if_pos hkk]
      exact ev_mono hC e .v δ' _ _ (fun y ⟨t, q1, q2⟩ => ⟨t, q1, h _ q2⟩) hk
    · rename_i hkk
      rw [if_neg hkk]
      exact h _ hk
  | .zip a b, m, δ => fun P Q h hp => by
    cases m with
    | v => simp only [ev] at hp
    | b => simp only [ev] at hp
    | i =>
      simp only [ev] at hp ⊢
      exact ev_mono hC a .b δ _ _ (fun x => ev_mono hC b .b δ _ _ fun y ⟨l, r, q1, q3⟩ => ⟨l, r, q1, h _ q3⟩) hp
  | .enum a, m, δ => fun P Q h hp => by
    cases m with
    | v => simp only [ev] at hp
    | b => simp only [ev] at hp
    | i =>
      simp only [ev] at hp ⊢
      exact ev_mono hC a .b δ _ _ (fun x ⟨l, q1, q2⟩ => ⟨l, q1, h _ q2⟩) hp
  | .range a, m, δ => fun P Q h hp => by
    cases m with
    | v => simp only [ev] at hp
    | b => simp only [ev] at hp
    | i =>
      simp only [ev] at hp ⊢
      exact ev_mono hC a .v δ _ _ (fun x => rangeW_mono x _ _ h) hp
  | .range2 a b, m, δ => fun P Q h hp => by
    cases m with
    | v => simp only [ev] at hp
    | b => simp only [ev] at hp
    | i =>
      simp only [ev] at hp ⊢
      exact ev_mono hC a .v δ _ _ (fun x => ev_mono hC b .v δ _ _ fun y => range2W_mono x y _ _ h) hp
  | .comp2 own p it c p1 it1 c1 e, m, δ => fun P Q h hp => by
    rw [ev] at *
    refine ev_mono hC it .i δ _ _ (fun x ⟨ds, B, hd, hB, hm⟩ => ⟨ds, B, hd, hB, flatW_mono (fun d P Q h hp => ?_) ds _ _ (fun ys => h _) hm⟩) hp
    refine bindP_mono p d _ _ _ (fun δ' => ev_mono hC c .v δ' _ _ fun b => boolW_mono b _ _ fun k hk => ?_) hp
    split at hk
    · rename_i hkk
      rw [if_pos hkk]
      refine ev_mono hC it1 .i δ' _ _ (fun x ⟨ds, hd, hB, hm⟩ => ⟨ds, hd, hB, mapW_mono (fun d P Q h hp => ?_) ds _ _ (fun ys => h _) hm⟩) hk
      refine bindP_mono p1 d _ _ _ (fun δ'' => ev_mono hC c1 .v δ'' _ _ fun b => boolW_mono b _ _ fun k hk => ?_) hp
      split at hk
      · rename_i hkk
        rw [if_pos hkk]
        exact ev_mono hC e .v δ'' _ _ (fun y => h _) hk
      · rename_i hkk
        rw [if_neg hkk]
        exact h _ hk
    · rename_i hkk
      rw [if_neg hkk]
      exact h _ hk
  | .lzip a b, m, δ => fun P Q h hp => by
    rw [ev] at hp ⊢
    exact ev_mono hC a .b δ _ _ (fun x => ev_mono hC b .b δ _ _ fun y ⟨l, r, z, q⟩ => ⟨l, r, z, h _ q⟩) hp
  | .slcS a k, m, δ => fun P Q h hp => by
    rw [ev] at *
    exact ev_mono hC a .b δ _ _ (fun x => ev_mono hC k .v δ _ _ fun y ⟨i, e, q⟩ => ⟨i, e, slcSO_mono x i _ _ h q⟩) hp
  | .isB ng a b, m, δ => fun P Q h hp => by
    rw [ev] at *
    exact ev_mono hC a .v δ _ _ (fun x => boolW_mono x _ _ fun k => h _) hp
  | .rangeD a, m, δ => fun P Q h hp => by
    cases m with
    | v => simp only [ev] at hp
    | b => simp only [ev] at hp
    | i =>
      simp only [ev] at hp ⊢
      exact ev_mono hC a .v δ _ _ (fun x => rangeDW_mono x _ _ h) hp
theorem evs_mono (hC : ∀ f ds, Mono (C f ds)) : ∀ (l : List E) (m : M) (δ : Env), Mono (evs C G l m δ)
  | [], m, δ => fun P Q h hp => by rw [evs] at *; exact h _ hp
  | e :: r, m, δ => fun P Q h hp => by
    rw [evs] at *
    exact ev_mono hC e m δ _ _ (fun d => evs_mono hC r m δ _ _ fun ds => h _) hp
end
/-- D ≤ D' -/
structure Post.Le (D D' : Post) : Prop where
  nx : ∀ δ, D.nx δ → D'.nx δ
  rt : ∀ δ d, D.rt δ d → D'.rt δ d
  bk : ∀ δ, D.bk δ → D'.bk δ
  ct : ∀ δ, D.ct δ → D'.ct δ
theorem forW_mono {p : P} {b : Env → Post → Prop} (hb : ∀ δ D D', D.Le D' → b δ D → b δ D') : ∀ (ds : List Dat) (δ : Env) (D D' : Post), D.Le D' → forW p b ds δ D → forW p b ds δ D'
  | [], δ, D, D', h, hp => by rw [forW] at *; exact h.nx _ hp
  | d :: ds, δ, D, D', h, hp => by
    rw [forW] at *
    refine bindP_mono p d δ _ _ (fun δ' hq => ?_) hp
    refine hb δ' _ _ ?_ hq
    exact ⟨fun δ'' => forW_mono hb ds δ'' D D' h, h.rt, h.nx, fun δ'' => forW_mono hb ds δ'' D D' h⟩
theorem whlW_mono {c : Env → (Bool → Prop) → Prop} {b : Env → Post → Prop} (hc : ∀ δ, Mono (c δ)) (hb : ∀ δ D D', D.Le D' → b δ D → b δ D') : ∀ (n : Nat) (δ : Env) (D D' : Post), D.Le D' → whlW c b n δ D → whlW c b n δ D'
  | 0, _, _, _, _, hp => by rw [whlW] at hp; exact hp.elim
  | n + 1, δ, D, D', h, hp => by
    rw [whlW] at *
    refine hc δ _ _ (fun k hk => ?_) hp
    split at hk
    · rename_i hkk
      rw [if_pos hkk]
      refine hb δ _ _ ?_ hk
      exact ⟨fun δ'' => whlW_mono hc hb n δ'' D D' h, h.rt, h.nx, fun δ'' => whlW_mono hc hb n δ'' D D' h⟩
    · rename_i hkk
      rw [if_neg hkk]
      exact h.nx _ hk
mutual
theorem exec_mono (hC : ∀ f ds, Mono (C f ds)) : ∀ (s : S) (δ : Env) (D D' : Post), D.Le D' → exec C G s δ D → exec C G s δ D'
  | .set i e, δ, D, D', h, hp => by rw [exec] at *; exact ev_mono hC e .v δ _ _ (fun d => h.nx _) hp
  | .own i e, δ, D, D', h, hp => by rw [exec] at *; exact ev_mono hC e .v δ _ _ (fun d hd => ⟨hd.1, h.nx _ hd.2⟩) hp
  | .unp p e, δ, D, D', h, hp => by rw [exec] at *; exact ev_mono hC e .v δ _ _ (fun d => bindP_mono p d δ _ _ h.nx) hp
  | .par os is es, δ, D, D', h, hp => by rw [exec] at *; exact evs_mono hC es .v δ _ _ (fun ds hd => ⟨hd.1, h.nx _ hd.2⟩) hp
  | .frz i, δ, D, D', h, hp => by rw [exec] at *; exact getO_mono δ i _ _ (fun d => h.nx _) hp
  | .app i e, δ, D, D', h, hp => by
    rw [exec] at *
    exact getO_mono δ i _ _ (fun x ⟨l, q1, q2⟩ => ⟨l, q1, ev_mono hC e .v δ _ _ (fun d q => ⟨q.1, h.nx _ q.2⟩) q2⟩) hp
  | .ext i e, δ, D, D', h, hp => by
    rw [exec] at *
    exact getO_mono δ i _ _ (fun x ⟨l, q1, q2⟩ => ⟨l, q1, ev_mono hC e .b δ _ _ (fun d ⟨r, q3, q4, q5⟩ => ⟨r, q3, q4, h.nx _ q5⟩) q2⟩) hp
  | .pop i e, δ, D, D', h, hp => by
    rw [exec] at *
    exact getO_mono δ i _ _ (fun x ⟨l, q1, q2⟩ => ⟨l, q1, ev_mono hC e .v δ _ _ (fun d ⟨j, r, q3, q4, q5⟩ => ⟨j, r, q3, q4, h.nx _ q5⟩) q2⟩) hp
  | .unpL ps e, δ, D, D', h, hp => by
    rw [exec] at *
    exact ev_mono hC e .v δ _ _ (fun d ⟨l, q1, q2⟩ => ⟨l, q1, bindPs_mono ps l δ _ _ h.nx q2⟩) hp
  | .ins i ix e, δ, D, D', h, hp => by
    rw [exec] at *
    exact getO_mono δ i _ _ (fun x ⟨l, q1, q2⟩ => ⟨l, q1, ev_mono hC ix .v δ _ _ (fun k q3 => ev_mono hC e .v δ _ _ (fun d ⟨j, a, b, c, f, q4⟩ => ⟨j, a, b, c, f, h.nx _ q4⟩) q3) q2⟩) hp
  | .parC os is es, δ, D, D', h, hp => by rw [exec] at *; exact evs_mono hC es .v δ _ _ (fun ds hd => ⟨hd.1, h.nx _ hd.2⟩) hp
  | .stp i j ix e, δ, D, D', h, hp => by
    rw [exec] at *
    exact ev_mono hC e .v δ _ _ (fun d => getO_mono δ i _ _ fun x ⟨l, q1, q2⟩ => ⟨l, q1, getO_mono δ j _ _ (fun z ⟨m, q3, q4⟩ => ⟨m, q3, ev_mono hC ix .v δ _ _ (fun k ⟨q, a, t, r1, r2, r3, r4, r5⟩ => ⟨q, a, t, r1, r2, r3, r4, h.nx _ r5⟩) q4⟩) q2⟩) hp
  | .stoD i ix e, δ, D, D', h, hp => by
    rw [exec] at *
    exact ev_mono hC e .v δ _ _ (fun d => getO_mono δ i _ _ fun x ⟨l, q1, q2⟩ => ⟨l, q1, ev_mono hC ix .v δ _ _ (fun k ⟨t, q3, q4, q5⟩ => ⟨t, q3, q4, h.nx _ q5⟩) q2⟩) hp
  | .sto i ix e, δ, D, D', h, hp => by
    rw [exec] at *
    exact ev_mono hC e .v δ _ _ (fun d => getO_mono δ i _ _ fun x ⟨l, q1, q2⟩ => ⟨l, q1, ev_mono hC ix .v δ _ _ (fun k ⟨j, r, q3, q4, q5⟩ => ⟨j, r, q3, q4, h.nx _ q5⟩) q2⟩) hp
  | .exp e, δ, D, D', h, hp => by rw [exec] at *; exact ev_mono hC e .v δ _ _ (fun d => h.nx _) hp
  | .ret e, δ, D, D', h, hp => by rw [exec] at *; exact ev_mono hC e .v δ _ _ (h.rt δ) hp
  | .retN, δ, D, D', h, hp => by rw [exec] at *; exact h.rt _ _ hp
  | .pass, δ, D, D', h, hp => by rw [exec] at *; exact h.nx _ hp
  | .ite c a b, δ, D, D', h, hp => by
    rw [exec] at *
    refine ev_mono hC c .v δ _ _ (fun x => boolW_mono x _ _ fun k hk => ?_) hp
    split at hk
    · rename_i hkk
      rw [if_pos hkk]
      exact execs_mono hC a δ D D' h hk
    · rename_i hkk
      rw [if_neg hkk]
      exact execs_mono hC b δ D D' h hk
  | .for p it b, δ, D, D', h, hp => by
    rw [exec] at *
    exact ev_mono hC it .i δ _ _ (fun x ⟨ds, hd, hf⟩ => ⟨ds, hd, forW_mono (fun δ' D1 D2 h' => execs_mono hC b δ' D1 D2 h') ds δ D D' h hf⟩) hp
  | .whl c b, δ, D, D', h, hp => by
    rw [exec] at *
    obtain ⟨n, hn, hw⟩ := hp
    exact ⟨n, hn, whlW_mono (fun δ' P Q h' hp' => ev_mono hC c .v δ' _ _ (fun x => boolW_mono x _ _ h') hp') (fun δ' D1 D2 h' => execs_mono hC b δ' D1 D2 h') n δ D D' h hw⟩
theorem execs_mono (hC : ∀ f ds, Mono (C f ds)) : ∀ (l : List S) (δ : Env) (D D' : Post), D.Le D' → execs C G l δ D → execs C G l δ D'
  | [], δ, D, D', h, hp => by rw [execs] at *; exact h.nx _ hp
  | s :: r, δ, D, D', h, hp => by
    rw [execs] at *
    refine exec_mono hC s δ _ _ ?_ hp
    exact ⟨fun δ' => execs_mono hC r δ' D D' h, h.rt, h.bk, h.ct⟩
end
end
theorem callW_mono {T : List FDef} {G : Nat → Option Dat} {prim : Nat → Option (List Dat → (Dat → Prop) → Prop)} (hp : ∀ f p, prim f = some p → ∀ ds, Mono (p ds)) : ∀ (k f : Nat) (ds : List Dat), Mono (callW T G prim k f ds)
  | 0, _, _ => fun P Q h hq => by rw [callW] at hq; exact hq.elim
  | k + 1, f, ds => fun P Q h hq => by
    rw [callW] at *
    split at hq
    · rename_i p e
      exact hp f p e ds _ _ h hq
    · split at hq
      · exact hq.elim
      · obtain ⟨q1, q3⟩ := hq
        refine ⟨q1, execs_mono (fun f' ds' => callW_mono hp k f' ds') _ _ _ _ ?_ q3⟩
        exact ⟨fun _ => h _, fun _ => h, fun _ z => z, fun _ z => z⟩
end SF

/-! D3a: from data here to the library's data. -/
namespace SF
open PySem PySem.Spec PyProof.Rows L2

theorem toPys_map : ∀ l : List Dat, toPys l = l.map toPy
  | [] => by simp [toPys]
  | x :: r => by simp [toPys, toPys_map r]

theorem okd_mono : ∀ (n m : Nat) (d : Dat), n ≤ m → okd n d → okd m d := by
  intro n
  induction n with
  | zero => intro m d _ h; cases d <;> simp_all [okd]
  | succ n ih =>
    intro m d hm h
    obtain ⟨m, rfl⟩ : ∃ k, m = k + 1 := ⟨m - 1, by omega⟩
    cases d with
    | tup l => simp only [okd] at h ⊢; exact fun x hx => ih m x (by omega) (h x hx)
    | lst l => simp only [okd] at h ⊢; exact fun x hx => ih m x (by omega) (h x hx)
    | _ => simp_all [okd]
theorem plainAll_of {l : List Dat} (h : ∀ x ∈ l, (toPy x).plain = true) : PyData.plainAll (toPys l) = true := by
  induction l with
  | nil => simp [toPys, PyData.plainAll]
  | cons x r ih => simp only [toPys, PyData.plainAll, Bool.and_eq_true]; exact ⟨h x (by simp), ih fun y hy => h y (by simp [hy])⟩
theorem depthAll_of {l : List Dat} {n : Nat} (h : ∀ x ∈ l, (toPy x).depth ≤ n) : PyData.depthAll (toPys l) ≤ n := by
  induction l with
  | nil => simp [toPys, PyData.depthAll]
  | cons x r ih => simp only [toPys, PyData.depthAll]; have := h x (by simp); have := ih fun y hy => h y (by simp [hy]); omega
theorem okd_plain : ∀ (n : Nat) (d : Dat), okd n d → (toPy d).plain = true ∧ (toPy d).depth ≤ n := by
  intro n
  induction n with
  | zero => intro d h; cases d <;> simp_all [okd, toPy, PyData.plain, PyData.depth]
  | succ n ih =>
    intro d h
    cases d with
    | tup l =>
      simp only [okd] at h
      simp only [toPy, PyData.plain, PyData.depth]
      exact ⟨plainAll_of fun x hx => (ih x (h x hx)).1, by have := depthAll_of fun x hx => (ih x (h x hx)).2; omega⟩
    | lst l =>
      simp only [okd] at h
      simp only [toPy, PyData.plain, PyData.depth]
      exact ⟨plainAll_of fun x hx => (ih x (h x hx)).1, by have := depthAll_of fun x hx => (ih x (h x hx)).2; omega⟩
    | _ => simp_all [okd, toPy, PyData.plain, PyData.depth]

section
variable {X : Cx} {pins : List (Addr × Obj)} {σ : L2.St} {H : Hp} {s : Shared}
mutual
theorem Rep.reads (I : L2.Inv X pins σ H s) : ∀ (d : Dat) (n : Nat) (v : V) (u : Value), okd n d → Rep X.K H v d → L2.RelV v u → ∃ as, Reads s.heap u (toPy d) as
  | .non, n, v, u, _, h, r => by rw [Rep] at h; subst h; cases r; exact ⟨_, Reads.none⟩
  | .bl b, n, v, u, _, h, r => by rw [Rep] at h; subst h; cases r; exact ⟨_, Reads.bool b⟩
  | .int i, n, v, u, _, h, r => by rw [Rep] at h; subst h; obtain ⟨t, rfl⟩ := r; exact ⟨_, Reads.int i t⟩
  | .str x, n, v, u, _, h, r => by rw [Rep] at h; obtain ⟨rfl, _⟩ := h; obtain ⟨t, rfl⟩ := r; exact ⟨_, Reads.str _ t⟩
  | .tup l, 0, v, u, o, h, r => by simp [okd] at o
  | .tup l, n + 1, v, u, o, h, r => by
    rw [Rep] at h
    obtain ⟨a, vs, rfl, h2, h3, h4⟩ := h
    cases r
    obtain ⟨its, rv, ⟨ob, ho, hc, k, hd⟩, _⟩ := I.tuple h2.sq
    obtain ⟨as, hr⟩ := Reps.reads I l n vs its (by simpa only [okd] using o) h4 rv
    exact ⟨_, Reads.tuple ho hc hd hr⟩
  | .lst l, 0, v, u, o, h, r => by simp [okd] at o
  | .lst l, n + 1, v, u, o, h, r => by
    rw [Rep] at h
    obtain ⟨a, vs, rfl, h2, h3, h4⟩ := h
    cases r
    obtain ⟨its, rv, ⟨ob, k, ho, hc, _, hd⟩, _⟩ := I.list h2.sq
    obtain ⟨as, hr⟩ := Reps.reads I l n vs its (by simpa only [okd] using o) h4 rv
    exact ⟨_, Reads.list ho hc hd hr⟩
  | .dic l, n, v, u, o, h, r => by cases n <;> simp [okd] at o
  | .obj c l, n, v, u, o, h, r => by rw [Rep] at h; exact h.elim
  | .pot, n, v, u, o, h, r => by cases n <;> simp [okd] at o
  | .scr l, n, v, u, o, h, r => by cases n <;> simp [okd] at o
theorem Reps.reads (I : L2.Inv X pins σ H s) : ∀ (l : List Dat) (n : Nat) (vs : List V) (us : List Value), (∀ x ∈ l, okd n x) → Reps X.K H vs l → L2.Vals vs us → ∃ as, ReadsAll s.heap us (toPys l) as
  | [], n, [], us, _, _, r => by cases r; exact ⟨_, ReadsAll.nil⟩
  | [], n, _ :: _, us, _, h, _ => by simp [Reps] at h
  | _ :: _, n, [], us, _, h, _ => by simp [Reps] at h
  | d :: ds, n, v :: vs, us, o, h, r => by
    rw [Reps] at h
    cases r with
    | cons r1 r2 =>
      obtain ⟨as, q1⟩ := Rep.reads I d n v _ (o d (by simp)) h.1 r1
      obtain ⟨bs, q2⟩ := Reps.reads I ds n vs _ (fun x hx => o x (by simp [hx])) h.2 r2
      exact ⟨_, ReadsAll.cons q1 q2⟩
end
theorem BRep.reads (I : L2.Inv X pins σ H s) {d : Dat} {n : Nat} {v : V} {u : Value} (o : okd n d) (h : BRep X.K H v d) (r : L2.RelV v u) : ∃ as, Reads s.heap u (toPy d) as := by
  rcases h with h | ⟨a, rfl, h⟩
  · exact Rep.reads I d n v u o h r
  · cases d with
    | lst l =>
      obtain ⟨vs, h1, h2, h3⟩ := h
      cases r
      obtain ⟨its, rv, ⟨ob, k, ho, hc, _, hd⟩, _⟩ := I.list (SqL.of (K := X.K) h1)
      cases n with
      | zero => simp [okd] at o
      | succ n =>
        obtain ⟨as, hr⟩ := Reps.reads I l n vs its (by simpa only [okd] using o) h3 rv
        exact ⟨_, Reads.list ho hc hd hr⟩
    | dic l => cases n <;> simp [okd] at o
    | _ => exact h.elim
end

/-! ### equality -/
theorem str_inj (x y : List Nat) : ((⟨x.toArray⟩ : Str) == ⟨y.toArray⟩) = (x == y) := by
  by_cases h : x = y
  · subst h; simp
  · have : ¬ (⟨x.toArray⟩ : Str) = ⟨y.toArray⟩ := fun e => h (by injection e with e; simpa using e)
    rw [beq_eq_false_iff_ne.mpr this, beq_eq_false_iff_ne.mpr h]
mutual
theorem eqD_eqv : ∀ (x y : Dat) (n : Nat), okd n x → okd n y → eqD x y = PyData.eqv (toPy x) (toPy y)
  | .non, y, n, _, hy => by cases y <;> first | (cases n <;> simp [okd] at hy; done) | simp [eqD, toPy, PyData.eqv]
  | .bl a, y, n, _, hy => by cases y <;> first | (cases n <;> simp [okd] at hy; done) | simp [eqD, toPy, PyData.eqv]
  | .int a, y, n, _, hy => by cases y <;> first | (cases n <;> simp [okd] at hy; done) | simp [eqD, toPy, PyData.eqv]
  | .str a, y, n, _, hy => by cases y <;> first | (cases n <;> simp [okd] at hy; done) | simp only [eqD, toPy, PyData.eqv, str_inj]
  | .tup l, y, 0, hx, _ => by simp [okd] at hx
  | .tup l, y, n + 1, hx, hy => by
    cases y with
    | tup r => simp only [eqD, toPy, PyData.eqv]; exact eqDs_eqv l r n (by simpa only [okd] using hx) (by simpa only [okd] using hy)
    | dic r => simp [okd] at hy
    | obj c r => simp [okd] at hy
    | pot => simp [okd] at hy
    | scr r => simp [okd] at hy
    | _ => simp [eqD, toPy, PyData.eqv]
  | .lst l, y, 0, hx, _ => by simp [okd] at hx
  | .lst l, y, n + 1, hx, hy => by
    cases y with
    | lst r => simp only [eqD, toPy, PyData.eqv]; exact eqDs_eqv l r n (by simpa only [okd] using hx) (by simpa only [okd] using hy)
    | dic r => simp [okd] at hy
    | obj c r => simp [okd] at hy
    | pot => simp [okd] at hy
    | scr r => simp [okd] at hy
    | _ => simp [eqD, toPy, PyData.eqv]
  | .dic l, y, n, hx, _ => by cases n <;> simp [okd] at hx
  | .obj c l, y, n, hx, _ => by cases n <;> simp [okd] at hx
  | .pot, y, n, hx, _ => by cases n <;> simp [okd] at hx
  | .scr _, y, n, hx, _ => by cases n <;> simp [okd] at hx
theorem eqDs_eqv : ∀ (xs ys : List Dat) (n : Nat), (∀ x ∈ xs, okd n x) → (∀ y ∈ ys, okd n y) → eqDs xs ys = PyData.eqvAll (toPys xs) (toPys ys)
  | [], [], _, _, _ => by simp [eqDs, toPys, PyData.eqvAll]
  | [], _ :: _, _, _, _ => by simp [eqDs, toPys, PyData.eqvAll]
  | _ :: _, [], _, _, _ => by simp [eqDs, toPys, PyData.eqvAll]
  | x :: xs, y :: ys, n, hx, hy => by
    simp only [eqDs, toPys, PyData.eqvAll]
    rw [eqD_eqv x y n (hx x (by simp)) (hy y (by simp)), eqDs_eqv xs ys n (fun z hz => hx z (by simp [hz])) (fun z hz => hy z (by simp [hz]))]
end

/-! ### order -/
theorem ltS_lt : ∀ x y : List Nat, ltS x y = decide (x < y)
  | [], [] => by simp [ltS]
  | [], _ :: _ => by simp [ltS]
  | _ :: _, [] => by simp [ltS]
  | a :: as, b :: bs => by
    rw [ltS, ltS_lt as bs]
    by_cases h1 : a < b
    · rw [if_pos h1]; exact (decide_eq_true (List.cons_lt_cons_iff.mpr (.inl h1))).symm
    · rw [if_neg h1]
      by_cases h2 : a = b
      · rw [if_pos h2]; subst h2
        exact decide_eq_decide.mpr ⟨fun h => List.cons_lt_cons_iff.mpr (.inr ⟨rfl, h⟩), fun h => by rcases List.cons_lt_cons_iff.mp h with h | h; exact absurd h (Nat.lt_irrefl _); exact h.2⟩
      · rw [if_neg h2]
        exact (decide_eq_false fun h => by rcases List.cons_lt_cons_iff.mp h with h | h; exact h1 h; exact h2 h.1).symm
mutual
theorem alikeD_alike : ∀ (x y : Dat), alikeD x y = true → PySem.W.alike (toPy x) (toPy y) = true
  | .bl _, y, h => by cases y <;> simp_all [alikeD, toPy, PySem.W.alike]
  | .int _, y, h => by cases y <;> simp_all [alikeD, toPy, PySem.W.alike]
  | .str _, y, h => by cases y <;> simp_all [alikeD, toPy, PySem.W.alike]
  | .tup l, y, h => by
    cases y with
    | tup r => simp only [alikeD] at h; simp only [toPy, PySem.W.alike]; exact alikeDs_alike l r h
    | _ => simp [alikeD] at h
  | .lst l, y, h => by
    cases y with
    | lst r => simp only [alikeD] at h; simp only [toPy, PySem.W.alike]; exact alikeDs_alike l r h
    | _ => simp [alikeD] at h
  | .non, y, h => by cases y <;> simp [alikeD] at h
  | .dic _, y, h => by cases y <;> simp [alikeD] at h
  | .obj _ _, y, h => by cases y <;> simp [alikeD] at h
  | .pot, y, h => by cases y <;> simp [alikeD] at h
  | .scr _, y, h => by cases y <;> simp [alikeD] at h
theorem alikeDs_alike : ∀ (xs ys : List Dat), alikeDs xs ys = true → PySem.W.alikeAll (toPys xs) (toPys ys) = true
  | [], ys, _ => by simp [toPys, PySem.W.alikeAll]
  | x :: xs, [], _ => by simp [toPys, PySem.W.alikeAll]
  | x :: xs, y :: ys, h => by
    simp only [alikeDs, Bool.and_eq_true] at h
    simp only [toPys, PySem.W.alikeAll, Bool.and_eq_true]
    exact ⟨alikeD_alike x y h.1, alikeDs_alike xs ys h.2⟩
end
mutual
theorem ltD_dataLt : ∀ (x y : Dat) (n : Nat), okd n x → okd n y → alikeD x y = true → ltD x y = PySem.W.dataLt (toPy x) (toPy y)
  | .bl a, y, n, _, _, h => by
    cases y with
    | bl b => simp only [ltD, toPy, PySem.W.dataLt_bool]; cases a <;> cases b <;> rfl
    | _ => simp [alikeD] at h
  | .int a, y, n, _, _, h => by
    cases y with
    | int b => simp only [ltD, toPy, PySem.W.dataLt_int]
    | _ => simp [alikeD] at h
  | .str a, y, n, _, _, h => by
    cases y with
    | str b => simp only [ltD, toPy, PySem.W.dataLt_str, ltS_lt]
    | _ => simp [alikeD] at h
  | .tup l, y, 0, hx, _, h => by simp [okd] at hx
  | .tup l, y, n + 1, hx, hy, h => by
    cases y with
    | tup r =>
      simp only [alikeD] at h
      simp only [ltD, toPy, PySem.W.dataLt_tuple]
      exact ltDs_lex l r n (by simpa only [okd] using hx) (by simpa only [okd] using hy) h
    | _ => simp [alikeD] at h
  | .lst l, y, 0, hx, _, h => by simp [okd] at hx
  | .lst l, y, n + 1, hx, hy, h => by
    cases y with
    | lst r =>
      simp only [alikeD] at h
      simp only [ltD, toPy, PySem.W.dataLt_list]
      exact ltDs_lex l r n (by simpa only [okd] using hx) (by simpa only [okd] using hy) h
    | _ => simp [alikeD] at h
  | .non, y, _, _, _, h => by cases y <;> simp [alikeD] at h
  | .dic _, y, _, _, _, h => by cases y <;> simp [alikeD] at h
  | .obj _ _, y, _, _, _, h => by cases y <;> simp [alikeD] at h
  | .pot, y, _, _, _, h => by cases y <;> simp [alikeD] at h
  | .scr _, y, _, _, _, h => by cases y <;> simp [alikeD] at h
theorem ltDs_lex : ∀ (xs ys : List Dat) (n : Nat), (∀ x ∈ xs, okd n x) → (∀ y ∈ ys, okd n y) → alikeDs xs ys = true → ltDs xs ys = PyProof.Rows.lexLt itemOrd (PySem.W.keyToksAll (toPys xs)) (PySem.W.keyToksAll (toPys ys))
  | [], [], _, _, _, _ => by simp only [ltDs, toPys, PySem.W.keyToksAll]; rfl
  | [], y :: ys, _, _, _, _ => by simp only [ltDs, toPys, PySem.W.keyToksAll]; rfl
  | x :: xs, [], _, _, _, _ => by simp only [ltDs, toPys, PySem.W.keyToksAll]; rfl
  | x :: xs, y :: ys, n, hx, hy, h => by
    simp only [alikeDs, Bool.and_eq_true] at h
    simp only [ltDs, toPys]
    rw [PySem.W.dataLt_cons (alikeD_alike x y h.1), eqD_eqv x y n (hx x (by simp)) (hy y (by simp)), ltD_dataLt x y n (hx x (by simp)) (hy y (by simp)) h.1,
      ltDs_lex xs ys n (fun z hz => hx z (by simp [hz])) (fun z hz => hy z (by simp [hz])) h.2]
end
end SF

/-! D3b: the operations' rules, by values. -/
namespace SF
open PySem PySem.Spec PyProof.Rows L2

/-! ### lists of data -/
theorem Reps.length {K : PySem.W.Frag} {H : Hp} : ∀ {vs : List V} {l : List Dat}, Reps K H vs l → vs.length = l.length
  | [], [], _ => rfl
  | [], _ :: _, h => by simp [Reps] at h
  | _ :: _, [], h => by simp [Reps] at h
  | v :: vs, d :: ds, h => by rw [Reps] at h; simp [Reps.length h.2]
theorem Reps.append {K : PySem.W.Frag} {H : Hp} : ∀ {vs ws : List V} {l r : List Dat}, Reps K H vs l → Reps K H ws r → Reps K H (vs ++ ws) (l ++ r)
  | [], _, [], _, _, h => h
  | [], _, _ :: _, _, h, _ => by simp [Reps] at h
  | _ :: _, _, [], _, h, _ => by simp [Reps] at h
  | v :: vs, ws, d :: ds, r, h, h' => by
    rw [Reps] at h
    show Reps K H (v :: (vs ++ ws)) (d :: (ds ++ r))
    rw [Reps]
    exact ⟨h.1, h.2.append h'⟩
theorem Reps.take {K : PySem.W.Frag} {H : Hp} : ∀ {vs : List V} {l : List Dat} (n : Nat), Reps K H vs l → Reps K H (vs.take n) (l.take n)
  | _, _, 0, _ => by simp [Reps]
  | [], [], n + 1, _ => by simp [Reps]
  | [], _ :: _, _, h => by simp [Reps] at h
  | _ :: _, [], _, h => by simp [Reps] at h
  | v :: vs, d :: ds, n + 1, h => by
    rw [Reps] at h
    rw [List.take_succ_cons, List.take_succ_cons, Reps]
    exact ⟨h.1, h.2.take n⟩
theorem Reps.drop {K : PySem.W.Frag} {H : Hp} : ∀ {vs : List V} {l : List Dat} (n : Nat), Reps K H vs l → Reps K H (vs.drop n) (l.drop n)
  | _, _, 0, h => by simpa using h
  | [], [], n + 1, _ => by simp [Reps]
  | [], _ :: _, _, h => by simp [Reps] at h
  | _ :: _, [], _, h => by simp [Reps] at h
  | v :: vs, d :: ds, n + 1, h => by
    rw [Reps] at h
    rw [List.drop_succ_cons, List.drop_succ_cons]
    exact h.2.drop n
theorem Reps.get {K : PySem.W.Frag} {H : Hp} : ∀ {vs : List V} {l : List Dat} {i : Nat} {d : Dat}, Reps K H vs l → l[i]? = some d → ∃ v, vs[i]? = some v ∧ Rep K H v d
  | [], [], i, d, _, e => by simp at e
  | [], _ :: _, _, _, h, _ => by simp [Reps] at h
  | _ :: _, [], _, _, h, _ => by simp [Reps] at h
  | v :: vs, x :: ds, 0, d, h, e => by
    rw [Reps] at h
    simp at e
    subst e
    exact ⟨v, by simp, h.1⟩
  | v :: vs, x :: ds, i + 1, d, h, e => by
    rw [Reps] at h
    obtain ⟨w, e1, e2⟩ := Reps.get (i := i) (d := d) h.2 (by simpa using e)
    exact ⟨w, by simpa using e1, e2⟩
theorem Reps.getD {K : PySem.W.Frag} {H : Hp} : ∀ {vs : List V} {l : List Dat} {i : Nat} {v : V}, Reps K H vs l → vs[i]? = some v → ∃ d, l[i]? = some d ∧ Rep K H v d
  | [], [], i, d, _, e => by simp at e
  | [], _ :: _, _, _, h, _ => by simp [Reps] at h
  | _ :: _, [], _, _, h, _ => by simp [Reps] at h
  | v :: vs, x :: ds, 0, d, h, e => by
    rw [Reps] at h
    simp at e
    subst e
    exact ⟨x, by simp, h.1⟩
  | v :: vs, x :: ds, i + 1, d, h, e => by
    rw [Reps] at h
    obtain ⟨w, e1, e2⟩ := Reps.getD (i := i) (v := d) h.2 (by simpa using e)
    exact ⟨w, by simpa using e1, e2⟩
theorem Reps.at {K : PySem.W.Frag} {H : Hp} {vs : List V} {l : List Dat} {i : Int} {d : Dat} (h : Reps K H vs l) (e : atD l i = some d) : ∃ v, atI vs i = some v ∧ Rep K H v d := by
  unfold atD atI at *
  rw [h.length]
  cases q : ixN l.length i with
  | none => rw [q] at e; cases e
  | some j =>
    rw [q] at e
    obtain ⟨v, e1, e2⟩ := h.get (i := j) (d := d) e
    exact ⟨v, e1, e2⟩
theorem Reps.cut {K : PySem.W.Frag} {H : Hp} {vs : List V} {l : List Dat} (lo hi : Option Int) (h : Reps K H vs l) : Reps K H (cutV vs lo hi) (cut l lo hi) := by
  unfold cutV SF.cut
  rw [h.length]
  exact (h.drop _).take _
theorem cut_length {α : Type} (xs : List α) (lo hi : Option Int) : (cut xs lo hi).length ≤ xs.length := by
  unfold cut
  rw [List.length_take, List.length_drop]
  omega
theorem Reps.rep {K : PySem.W.Frag} {H : Hp} {vs : List V} {l : List Dat} (h : Reps K H vs l) : ∀ n : Nat, Reps K H (List.replicate n vs).flatten (List.replicate n l).flatten
  | 0 => by simp [Reps]
  | n + 1 => by
    rw [List.replicate_succ, List.replicate_succ, List.flatten_cons, List.flatten_cons]
    exact h.append (h.rep n)

/-! ### what an operation's result is -/
def isNB : Dat → Bool
  | .lst _ => false
  | .dic _ => false
  | _ => true
/-- a new box, or no box -/
def RO (K : PySem.W.Frag) (H H' : Hp) (v : V) (d : Dat) : Prop := (∃ a, v = .ref a ∧ H a = none ∧ Own K H' a d) ∨ (isNB d = true ∧ Rep K H' v d)
/-- all that a result d may be is wanted -/
def Res (K : PySem.W.Frag) (H : Hp) (Q : VK) (d : Dat) : Prop := ∀ v H', Step 0 H H' → RO K H H' v d → Q v H'
theorem Res.rep {K : PySem.W.Frag} {H : Hp} {Q : VK} {d : Dat} {v : V} (q : Res K H Q d) (h : Rep K H v d) (nb : isNB d = true := by rfl) : Q v H := q v H (Step.refl H) (.inr ⟨nb, h⟩)
theorem Res.tup {K : PySem.W.Frag} {H : Hp} {Q : VK} {l : List Dat} {vs : List V} {p : Addr} {o : Obj} (q : Res K H Q (.tup l)) (h : Reps K H vs l) (hz : l.length ≤ sizeLine) (hp : H p = none) (hd : o.dict = none) : Q (.ref p) (upd H p (.frz o (.tup vs))) := by
  have st : Step 0 H (upd H p (.frz o (.tup vs))) := Step.upd hp fun z e => nomatch e
  refine q _ _ st (.inr ⟨rfl, ?_⟩)
  rw [Rep]
  exact ⟨p, vs, rfl, .inl ⟨o, upd_same, hd⟩, hz, Reps.ext st.ext l vs h⟩
theorem Res.lst {K : PySem.W.Frag} {H : Hp} {Q : VK} {l : List Dat} {vs : List V} {p : Addr} (q : Res K H Q (.lst l)) (h : Reps K H vs l) (hz : l.length ≤ sizeLine) (hp : H p = none) : Q (.ref p) (upd H p (.lst vs)) := by
  have st : Step 0 H (upd H p (.lst vs)) := Step.upd hp fun z e => nomatch e
  exact q _ _ st (.inl ⟨p, rfl, hp, vs, upd_same, hz, Reps.ext st.ext l vs h⟩)

/-- a list looked at -/
theorem BRep.lstAt {K : PySem.W.Frag} {H : Hp} {v : V} {l : List Dat} (h : BRep K H v (.lst l)) : ∃ a vs, v = .ref a ∧ Rd H a (.lst vs) ∧ Reps K H vs l ∧ l.length ≤ sizeLine := by
  rcases h with h | ⟨a, rfl, vs, h1, h2, h3⟩
  · rw [Rep] at h
    obtain ⟨a, vs, rfl, ⟨o, h2⟩, h3, h4⟩ := h
    exact ⟨a, vs, rfl, .inr ⟨o, h2⟩, h4, h3⟩
  · exact ⟨a, vs, rfl, .inl h1, h3, h2⟩
theorem BRep.tupAt {K : PySem.W.Frag} {H : Hp} {v : V} {l : List Dat} (h : BRep K H v (.tup l)) : ∃ a vs, v = .ref a ∧ TupAt K H a vs ∧ Reps K H vs l ∧ l.length ≤ sizeLine := by
  rcases h with h | ⟨a, rfl, h⟩
  · rw [Rep] at h
    obtain ⟨a, vs, rfl, h2, h3, h4⟩ := h
    exact ⟨a, vs, rfl, h2, h4, h3⟩
  · exact h.elim
theorem BRep.intAt {K : PySem.W.Frag} {H : Hp} {v : V} {i : Int} (h : BRep K H v (.int i)) : v = .int i := by
  rcases h with h | ⟨a, rfl, h⟩
  · rwa [Rep] at h
  · exact h.elim
theorem BRep.blAt {K : PySem.W.Frag} {H : Hp} {v : V} {i : Bool} (h : BRep K H v (.bl i)) : v = .bl i := by
  rcases h with h | ⟨a, rfl, h⟩
  · rwa [Rep] at h
  · exact h.elim
theorem BRep.strAt {K : PySem.W.Frag} {H : Hp} {v : V} {s : List Nat} (h : BRep K H v (.str s)) : v = .str ⟨s.toArray⟩ ∧ s.length ≤ sizeLine := by
  rcases h with h | ⟨a, rfl, h⟩
  · rwa [Rep] at h
  · exact h.elim
theorem rep_int {K : PySem.W.Frag} {H : Hp} (i : Int) : Rep K H (.int i) (.int i) := by rw [Rep]
theorem rep_bl {K : PySem.W.Frag} {H : Hp} (i : Bool) : Rep K H (.bl i) (.bl i) := by rw [Rep]
theorem rep_str {K : PySem.W.Frag} {H : Hp} {s : List Nat} (h : s.length ≤ sizeLine) : Rep K H (.str ⟨s.toArray⟩) (.str s) := by rw [Rep]; exact ⟨rfl, h⟩
theorem str_len (s : List Nat) : (⟨s.toArray⟩ : Str).length = s.length := by simp [Str.length]
theorem str_app (s t : List Nat) : (⟨s.toArray⟩ : Str) ++ ⟨t.toArray⟩ = ⟨(s ++ t).toArray⟩ := by
  show Str.append _ _ = _
  simp [Str.append]

/-- a new tuple -/
theorem Inv_tnew {X : Cx} {pins : List (Addr × Obj)} {σ : L2.St} {H : Hp} {s : Shared} {ys : List V} {its : List Value} {t' : Nat} (I : L2.Inv X pins σ H s) (hv : Vals ys its) (hz : ys.length ≤ sizeLine) :
    L2.Inv X pins σ (upd H s.heap.objs.size (.frz { cls := .type "tuple", data := .seq its.toArray } (.tup ys))) { s with heap := s.heap.push { cls := .type "tuple", data := .seq its.toArray }, toks := t' } :=
  I.laid (fun _ _ q => Heap.get?_push_of_some _ q) (Nat.le_refl _) ⟨Heap.get?_push_size _ rfl, hz, its, hv, IsTup.new _ _⟩
def opOf : O2 → Operator
  | .add => .Add | .sub => .Sub | .mul => .Mult | .fdiv => .FloorDiv | .mod => .Mod | .pow => .Pow
def rO2 (K : PySem.W.Frag) (o : O2) : R2 := fun x y H Q => ∃ dx dy, BRep K H x dx ∧ BRep K H y dy ∧ op2W o dx dy (Res K H Q)

section
variable {X : Cx}
theorem cat_rd {pins : List (Addr × Obj)} {s : Shared} {σ : L2.St} {H : Hp} {a b : Addr} {xs ys : List V} {Q : VK} (I : L2.Inv X pins σ H s) (ha : Rd H a (.lst xs)) (hb : Rd H b (.lst ys)) (hz : xs.length + ys.length ≤ sizeLine)
    (q : ∀ p, H p = none → Q (.ref p) (upd H p (.lst (xs ++ ys)))) : wpAny (model X.prog X.w) X.A (binaryOp .Add (.ref a) (.ref b)) (EP X pins σ Q) X.xe s := by
  obtain ⟨z, its, n, r, e⟩ := ha.ok I.hok
  obtain ⟨z2, its2, n2, r2, e2⟩ := hb.ok I.hok
  refine PySem.P.add_list e e2 ?_ (by rw [List.size_toArray, List.size_toArray, ← r.length, ← r2.length]; exact hz)
  have ea : its.toArray ++ its2.toArray = (its ++ its2).toArray := by simp
  rw [ea]
  exact ⟨.ref _, _, I.lnew (t' := s.toks) (r.append r2) (by rw [List.length_append]; omega), rfl, q _ I.fresh⟩
/-- a list, so many times -/
theorem rep_raw {prog : Program} {w : World} {A : Around} {E : Value → Shared → Prop} {s : Shared} {l : Addr} {its : Array Value} {n : Nat} {k : Int} {t : Tok} {Q : Value → Shared → Prop} (e : s.heap.get? l = some { cls := .type "list", data := .seq its n }) (lo : -(2 ^ 63) ≤ k) (hi : k < 2 ^ 63) (room : its.size * k.toNat ≤ sizeLine)
    (q : Q (.ref s.heap.objs.size) { s with heap := s.heap.push { cls := .type "list", data := .seq (List.replicate k.toNat its.toList).flatten.toArray } }) : wpAny (model prog w) A (binaryOp .Mult (.ref l) (.int k t)) Q E s := by
  have small : sizeLine ≤ (2 ^ 63 - 1) / 8 := by decide
  have ok : Builtin.List.listFitsIndex k = true ∧ Builtin.List.listTooLong (its.size * k.toNat) = false := ⟨fitsIndex_both lo hi, notLongL room⟩
  have ls : s.TypeIs (.ref l) "list" := ⟨_, e, rfl⟩
  rw [← PyProof.Rows.listMul_foldl_if] at q
  refine wpAny_binaryOp_repeat_ref (T := "list") (U := "int") (by decide) ls (fun s' => typeIs_int s' k t) noFill_list_mul PySem.F.fills_int_mul PySem.F.slot_int_rmul repeat_list PySem.F.slot_int_index.lookup ?_
  refine call_meets PySem.F.slot_int_rmul (typeIs_int s k t) PySem.F.entry_int_rmul (PySem.F.args_int_rmul_2 _ _) (int___rmul___int_list k t l its n) ⟨e, rfl, ls, ?_⟩
  refine call_meets PySem.F.slot_list_mul ls PySem.F.entry_list_mul (PySem.F.args_list_mul_2 _ _) (AutoListH.list___mul___list_int_3 l its n k t ?_ ?_ ?_) ⟨e, q⟩
  · rw [ok.1]; decide
  · omega
  · rw [ok.2]; decide
theorem rep_rd {pins : List (Addr × Obj)} {s : Shared} {σ : L2.St} {H : Hp} {l : Addr} {xs : List V} {k : Int} {t : Tok} {Q : VK} (I : L2.Inv X pins σ H s) (hH : Rd H l (.lst xs)) (h1 : -(2 ^ 63) ≤ k) (h2 : k < 2 ^ 63) (hz : xs.length * k.toNat ≤ sizeLine)
    (q : ∀ p, H p = none → Q (.ref p) (upd H p (.lst (List.replicate k.toNat xs).flatten))) : wpAny (model X.prog X.w) X.A (binaryOp .Mult (.ref l) (.int k t)) (EP X pins σ Q) X.xe s := by
  obtain ⟨_, its, n, r, e⟩ := hH.ok I.hok
  have room : its.length * k.toNat ≤ sizeLine := r.length ▸ hz
  refine rep_raw e h1 h2 (by rw [List.size_toArray]; exact room) ?_
  have rr := r.rep k.toNat
  have len : (List.replicate k.toNat xs).flatten.length ≤ sizeLine := by
    rw [PyProof.Rows.lm_len_rep_flat, Nat.mul_comm]
    exact hz
  exact ⟨.ref _, _, I.lnew (t' := s.toks) rr len, rfl, q _ I.fresh⟩
theorem or_o2 (o : O2) : OpR X (binaryOp (opOf o)) (rO2 X.K o) := by
  intro pins s σ H x y v u Q I rx ry ⟨dx, dy, hx, hy, h⟩
  unfold op2W at h
  split at h
  · rename_i i j
    have ex := hx.intAt; have ey := hy.intAt; subst ex ey
    exact op_add pins s σ H _ _ v u Q I rx ry ⟨i, j, rfl, rfl, h.rep (rep_int _)⟩
  · rename_i a b
    obtain ⟨rfl, h1⟩ := hx.strAt
    obtain ⟨rfl, h2⟩ := hy.strAt
    refine op_add_str pins s σ H _ _ v u Q I rx ry ⟨_, _, rfl, rfl, by rw [str_len, str_len]; exact h.1, ?_⟩
    rw [str_app]
    exact h.2.rep (rep_str (by rw [List.length_append]; exact h.1))
  · rename_i a b
    obtain ⟨p, xs, rfl, h1, h2, h3⟩ := hx.tupAt
    obtain ⟨p', ys, rfl, k1, k2, k3⟩ := hy.tupAt
    have hz : xs.length + ys.length ≤ sizeLine := by rw [h2.length, k2.length]; exact h.1
    cases rx; cases ry
    obtain ⟨its, r1, p1, _⟩ := I.tuple h1.sq
    obtain ⟨jts, r2, p2, _⟩ := I.tuple k1.sq
    have e1 := r1.length; have e2 := r2.length; have e3 := h2.length; have e4 := k2.length
    by_cases ha : a = []
    · have hi : its = [] := List.eq_nil_of_length_eq_zero (by subst ha; simp only [List.length_nil] at e3; omega)
      subst hi ha
      refine cat_tup0 p1 p2 ⟨.ref p', H, I, rfl, h.2.rep ?_⟩
      rw [List.nil_append, Rep]
      exact ⟨_, _, rfl, k1, k3, k2⟩
    · refine HT.cat_tup p1 p2 (fun z => ha (List.eq_nil_of_length_eq_zero (by subst z; simp only [List.length_nil] at e1; omega))) (fun z => ?_) (fun _ => ?_) (by omega)
      · have hb : b = [] := List.eq_nil_of_length_eq_zero (by subst z; simp only [List.length_nil] at e2; omega)
        subst hb
        refine ⟨.ref p, H, I, rfl, h.2.rep ?_⟩
        rw [List.append_nil, Rep]
        exact ⟨_, _, rfl, h1, h3, h2⟩
      · have hz2 : (xs ++ ys).length ≤ sizeLine := by rw [List.length_append]; exact hz
        exact ⟨.ref s.heap.objs.size, _, Inv_tnew (t' := s.toks) I (r1.append r2) hz2, rfl, h.2.tup (h2.append k2) (by rw [List.length_append]; exact h.1) (I.hok.fresh (Nat.le_refl _)) rfl⟩
  · rename_i a b
    obtain ⟨p, xs, rfl, h1, h2, h3⟩ := hx.lstAt
    obtain ⟨p', ys, rfl, k1, k2, k3⟩ := hy.lstAt
    cases rx; cases ry
    exact cat_rd I h1 k1 (by rw [h2.length, k2.length]; exact h.1) fun p hp => h.2.lst (h2.append k2) (by rw [List.length_append]; exact h.1) hp
  · rename_i i j
    have ex := hx.intAt; have ey := hy.intAt; subst ex ey
    exact op_sub pins s σ H _ _ v u Q I rx ry ⟨i, j, rfl, rfl, h.rep (rep_int _)⟩
  · rename_i i j
    have ex := hx.intAt; have ey := hy.intAt; subst ex ey
    rcases h.1 with h1 | ⟨h1, h2⟩
    · refine op_mul pins s σ H _ _ v u Q I rx ry ⟨i, j, rfl, rfl, ?_, h.2.rep (rep_int _)⟩
      rcases h1 with h | h
      · exact .inl ⟨by omega, by omega⟩
      · exact .inr ⟨by omega, by omega⟩
    · exact op_mulW pins s σ H _ _ v u Q I rx ry ⟨i, j, rfl, rfl, wide_mul h1 h2 (by decide) (by decide) (by decide), h.2.rep (rep_int _)⟩
  · rename_i a j
    obtain ⟨p, xs, rfl, h1, h2, h3⟩ := hx.lstAt
    have ey := hy.intAt; subst ey
    cases rx
    obtain ⟨t, rfl⟩ := ry
    refine rep_rd I h1 (by have := h.1.1; omega) (by have := h.1.2.1; omega) (by rw [h2.length]; exact h.1.2.2) fun p hp => h.2.lst (h2.rep _) ?_ hp
    rw [PyProof.Rows.lm_len_rep_flat, Nat.mul_comm]
    exact h.1.2.2
  · rename_i i j
    have ex := hx.intAt; have ey := hy.intAt; subst ex ey
    exact op_fdivW pins s σ H _ _ v u Q I rx ry ⟨i, j, rfl, rfl, wide_div h.1.1 h.1.2 (by decide) (by decide), h.2.rep (rep_int _)⟩
  · rename_i i j
    have ex := hx.intAt; have ey := hy.intAt; subst ex ey
    exact op_mod pins s σ H _ _ v u Q I rx ry ⟨i, j, rfl, rfl, h.1, h.2.rep (rep_int _)⟩
  · rename_i i j
    have ex := hx.intAt; have ey := hy.intAt; subst ex ey
    obtain ⟨t, rfl⟩ := rx
    obtain ⟨t', rfl⟩ := ry
    obtain ⟨⟨q1, q2, q3⟩, q4⟩ := h
    have hb : (Builtin.Int.intBits i : Int) ≤ 100000 := by
      have := PyProof.Rows.intBits_le q3; omega
    refine pow_int q1 ?_ ⟨.int _, H, I.tok _, ⟨_, rfl⟩, q4.rep (rep_int _)⟩
    calc (Builtin.Int.intBits i : Int) * j ≤ 100000 * 1000 := Int.mul_le_mul hb q2 q1 (by decide)
      _ ≤ 2 ^ 27 := by decide
  · exact h.elim
end
end SF

/-! D3c: comparisons, subscripts, slices, by values. -/
namespace SF
open PySem PySem.Spec PyProof.Rows L2

def cmpOf : C2 → CmpOp
  | .eq => .Eq | .ne => .NotEq | .lt => .Lt | .le => .LtE | .gt => .Gt | .ge => .GtE | .inn => .In | .nin => .NotIn
def rC2 (K : PySem.W.Frag) (o : C2) : R2 := fun x y H Q => ∃ dx dy, BRep K H x dx ∧ BRep K H y dy ∧ cmpW o dx dy fun b => Q (.bl b) H

theorem okds_lst {l : List Dat} (h : ∀ z ∈ l, okd 60 z) : okd 61 (.lst l) := by simpa only [okd] using h
theorem okds_tup {l : List Dat} (h : ∀ z ∈ l, okd 60 z) : okd 61 (.tup l) := by simpa only [okd] using h
theorem any_eqv {l : List Dat} {x : Dat} (hx : okd 60 x) (hl : ∀ z ∈ l, okd 60 z) : ((toPys l).any fun y => PyData.eqv y (toPy x)) = l.any fun z => eqD z x := by
  induction l with
  | nil => simp [toPys]
  | cons z r ih =>
    simp only [toPys, List.any_cons]
    rw [ih fun y hy => hl y (by simp [hy]), eqD_eqv z x 60 (hl z (by simp)) hx]
section
variable {X : Cx}
theorem or_in (hu : X.A.units + 200 < cLine) (neg : Bool) : OpR X (compareOp (if neg then .NotIn else .In)) (fun x y H Q => ∃ dx dy, BRep X.K H x dx ∧ BRep X.K H y dy ∧ inW dx dy fun b => Q (.bl (if neg then !b else b)) H) := by
  intro pins s σ H x y v u Q I rx ry ⟨dx, dy, hx, hy, h⟩
  unfold inW at h
  split at h
  · rename_i l
    obtain ⟨h1, h2, h3⟩ := h
    obtain ⟨as, ra⟩ := hx.reads I h1 rx
    obtain ⟨bs, rb⟩ := hy.reads I (okds_tup h2) ry
    have pl := okd_plain 61 _ (okds_tup h2)
    have px := okd_plain 60 _ h1
    simp only [toPy, PyData.plain, PyData.depth] at pl rb
    rw [← any_eqv h1 h2] at h3
    cases neg with
    | false => exact SeqAt.in_tuple_data rb ra pl.1 px.1 (by have := px.2; omega) ⟨.bl _, H, I, rfl, h3⟩
    | true => exact SeqAt.notIn_tuple_data rb ra pl.1 px.1 (by have := px.2; omega) ⟨.bl _, H, I, rfl, h3⟩
  · rename_i l
    obtain ⟨h1, h2, h3⟩ := h
    obtain ⟨as, ra⟩ := hx.reads I h1 rx
    obtain ⟨bs, rb⟩ := hy.reads I (okds_lst h2) ry
    have pl := okd_plain 61 _ (okds_lst h2)
    have px := okd_plain 60 _ h1
    simp only [toPy, PyData.plain, PyData.depth] at pl rb
    rw [← any_eqv h1 h2] at h3
    cases neg with
    | false => exact SeqAt.in_list_data rb ra pl.1 px.1 (by have := px.2; omega) ⟨.bl _, H, I, rfl, h3⟩
    | true => exact SeqAt.notIn_list_data rb ra pl.1 px.1 (by have := px.2; omega) ⟨.bl _, H, I, rfl, h3⟩
  · rename_i t
    split at h
    · rename_i c
      obtain ⟨rfl, _⟩ := hx.strAt
      obtain ⟨rfl, _⟩ := hy.strAt
      cases neg with
      | false => exact op_in_sign pins s σ H _ _ v u Q I rx ry ⟨c, _, rfl, rfl, by simpa using h⟩
      | true => exact op_notIn_sign pins s σ H _ _ v u Q I rx ry ⟨c, _, rfl, rfl, by simpa using h⟩
    · exact h.elim
  · exact h.elim
theorem ord_pre {x y : Dat} {r : Bool} {Q : Bool → Prop} (h : ordW x y r Q) : PySem.W.alike (toPy x) (toPy y) = true ∧ toPy x ≠ .none ∧ okd 60 x ∧ okd 60 y ∧ alikeD x y = true ∧ Q r := by
  obtain ⟨⟨h1, h2, h3, h4⟩, h5⟩ := h
  refine ⟨alikeD_alike x y h2, fun e => ?_, h3, h4, h2, h5⟩
  cases x <;> simp_all [toPy, isNum]
mutual
theorem alikeD_comm : ∀ x y : Dat, alikeD x y = alikeD y x
  | .non, y => by cases y <;> simp [alikeD]
  | .bl _, y => by cases y <;> simp [alikeD]
  | .int _, y => by cases y <;> simp [alikeD]
  | .str _, y => by cases y <;> simp [alikeD]
  | .tup l, y => by
    cases y with
    | tup r => simp only [alikeD]; exact alikeDs_comm l r
    | _ => simp [alikeD]
  | .lst l, y => by
    cases y with
    | lst r => simp only [alikeD]; exact alikeDs_comm l r
    | _ => simp [alikeD]
  | .dic _, y => by cases y <;> simp [alikeD]
  | .obj _ _, y => by cases y <;> simp [alikeD]
  | .pot, y => by cases y <;> simp [alikeD]
  | .scr _, y => by cases y <;> simp [alikeD]
theorem alikeDs_comm : ∀ xs ys : List Dat, alikeDs xs ys = alikeDs ys xs
  | [], [] => rfl
  | [], _ :: _ => by simp [alikeDs]
  | _ :: _, [] => by simp [alikeDs]
  | x :: xs, y :: ys => by simp only [alikeDs]; rw [alikeD_comm x y, alikeDs_comm xs ys]
end
theorem or_c2 (hu : X.A.units + 200 < cLine) (o : C2) : OpR X (compareOp (cmpOf o)) (rC2 X.K o) := by
  intro pins s σ H x y v u Q I rx ry ⟨dx, dy, hx, hy, h⟩
  have room : ∀ {a b : Dat}, okd 60 a → X.A.units + min (toPy a).depth (toPy b).depth < cLine := fun {a b} ha => by have := (okd_plain 60 _ ha).2; omega
  cases o with
  | eq =>
    obtain ⟨h1, h2, h3⟩ := h
    obtain ⟨as, ra⟩ := hx.reads I h1 rx
    obtain ⟨bs, rb⟩ := hy.reads I h2 ry
    rw [eqD_eqv _ _ 60 h1 h2] at h3
    exact SeqAt.eq_plain ra rb (okd_plain 60 _ h1).1 (okd_plain 60 _ h2).1 (room h1) ⟨.bl _, H, I, rfl, h3⟩
  | ne =>
    obtain ⟨h1, h2, h3⟩ := h
    obtain ⟨as, ra⟩ := hx.reads I h1 rx
    obtain ⟨bs, rb⟩ := hy.reads I h2 ry
    rw [eqD_eqv _ _ 60 h1 h2] at h3
    exact SeqAt.ne_plain ra rb (okd_plain 60 _ h1).1 (okd_plain 60 _ h2).1 (room h1) ⟨.bl _, H, I, rfl, h3⟩
  | lt =>
    have h : ordW dx dy (ltD dx dy) (fun b => Q (.bl b) H) := h
    obtain ⟨al, nn, h1, h2, ad, h3⟩ := ord_pre h
    obtain ⟨as, ra⟩ := hx.reads I h1 rx
    obtain ⟨bs, rb⟩ := hy.reads I h2 ry
    rw [ltD_dataLt _ _ 60 h1 h2 ad] at h3
    exact PySem.W.lt_data ra rb al nn (room h1) ⟨.bl _, H, I, rfl, h3⟩
  | gt =>
    have h : ordW dx dy (ltD dy dx) (fun b => Q (.bl b) H) := h
    obtain ⟨al, nn, h1, h2, ad, h3⟩ := ord_pre h
    obtain ⟨as, ra⟩ := hx.reads I h1 rx
    obtain ⟨bs, rb⟩ := hy.reads I h2 ry
    rw [ltD_dataLt _ _ 60 h2 h1 (by rw [alikeD_comm]; exact ad)] at h3
    exact PySem.W.gt_data ra rb al nn (room h1) ⟨.bl _, H, I, rfl, h3⟩
  | le =>
    have h : ordW dx dy (!ltD dy dx) (fun b => Q (.bl b) H) := h
    obtain ⟨al, nn, h1, h2, ad, h3⟩ := ord_pre h
    obtain ⟨as, ra⟩ := hx.reads I h1 rx
    obtain ⟨bs, rb⟩ := hy.reads I h2 ry
    rw [ltD_dataLt _ _ 60 h2 h1 (by rw [alikeD_comm]; exact ad)] at h3
    exact PySem.W.le_data ra rb al nn (room h1) ⟨.bl _, H, I, rfl, h3⟩
  | ge =>
    have h : ordW dx dy (!ltD dx dy) (fun b => Q (.bl b) H) := h
    obtain ⟨al, nn, h1, h2, ad, h3⟩ := ord_pre h
    obtain ⟨as, ra⟩ := hx.reads I h1 rx
    obtain ⟨bs, rb⟩ := hy.reads I h2 ry
    rw [ltD_dataLt _ _ 60 h1 h2 ad] at h3
    exact PySem.W.ge_data ra rb al nn (room h1) ⟨.bl _, H, I, rfl, h3⟩
  | inn => exact or_in hu false pins s σ H x y v u Q I rx ry ⟨dx, dy, hx, hy, h⟩
  | nin => exact or_in hu true pins s σ H x y v u Q I rx ry ⟨dx, dy, hx, hy, h⟩

/-! ### a[i], a[lo:hi] -/
/-- .. a value that stands -/
def ResV (K : PySem.W.Frag) (H : Hp) (Q : VK) (d : Dat) : Prop := ∀ v, Rep K H v d → Q v H
theorem ResV.rep {K : PySem.W.Frag} {H : Hp} {Q : VK} {d : Dat} {v : V} (q : ResV K H Q d) (h : Rep K H v d) : Q v H := q v h
def rIdx (K : PySem.W.Frag) : R2 := fun x y H Q => ∃ dx dy, BRep K H x dx ∧ BRep K H y dy ∧ idxW dx dy (ResV K H Q)
theorem reps_ints (K : PySem.W.Frag) (H : Hp) : ∀ l : List Int, Reps K H (l.map V.int) (l.map Dat.int)
  | [] => by rw [List.map_nil, List.map_nil, Reps]; trivial
  | i :: l => by rw [List.map_cons, List.map_cons, Reps, Rep]; exact ⟨rfl, reps_ints K H l⟩
theorem BRep.scrAt {K : PySem.W.Frag} {H : Hp} {v : V} {l : List Int} (h : BRep K H v (.scr l)) : ∃ a, v = .ref a ∧ ScrL K H a (l.map V.int) ∧ l.length ≤ 1000 := by
  rcases h with h | ⟨a, _, h⟩
  · rw [Rep] at h; exact h
  · exact h.elim
theorem key_is (s : List Nat) (k : Key) : decide (k = .inr (⟨s.toArray⟩ : Str)) = isKey s (kD k) := by
  cases k with
  | inl i => rfl
  | inr x =>
    show decide (Sum.inr x = Sum.inr (⟨s.toArray⟩ : Str)) = decide (x.cps.toList = s)
    refine decide_eq_decide.mpr ⟨fun e => ?_, fun e => ?_⟩
    · injection e with e
      rw [e]
    · rw [← e]
theorem RepKv.get {K : PySem.W.Frag} {H : Hp} {s : List Nat} {d : Dat} : ∀ {l : List (Dat × Dat)} {kvs : List (Key × V)}, RepKv K H kvs l → getK l s = some d → ∃ v, valV kvs (.inr (⟨s.toArray⟩ : Str)) = some v ∧ Rep K H v d
  | [], [], _, h => by simp [getK] at h
  | [], _ :: _, h, _ => by simp [RepKv] at h
  | (_, _) :: _, [], h, _ => by simp [RepKv] at h
  | (c, e) :: l, (k, v) :: kvs, h, g => by
    rw [RepKv] at h
    obtain ⟨rfl, h2, h3⟩ := h
    cases q : isKey s (kD k) with
    | true =>
      have e1 : k = .inr (⟨s.toArray⟩ : Str) := of_decide_eq_true ((key_is s k).trans q)
      refine ⟨v, valV_pos e1, ?_⟩
      have : getK ((kD k, e) :: l) s = some e := by simp [getK, q]
      rw [this] at g
      cases g
      exact h2
    | false =>
      have e1 : ¬ k = .inr (⟨s.toArray⟩ : Str) := of_decide_eq_false ((key_is s k).trans q)
      rw [valV_neg e1]
      refine RepKv.get h3 ?_
      rw [← g]
      simp [getK, q]
theorem RepKv.any {K : PySem.W.Frag} {H : Hp} {s : List Nat} : ∀ {l : List (Dat × Dat)} {kvs : List (Key × V)}, RepKv K H kvs l → (kvs.any fun kv => decide (kv.1 = .inr (⟨s.toArray⟩ : Str))) = l.any fun p => isKey s p.1
  | [], [], _ => rfl
  | [], _ :: _, h => by simp [RepKv] at h
  | (_, _) :: _, [], h => by simp [RepKv] at h
  | (c, e) :: l, (k, v) :: kvs, h => by
    rw [RepKv] at h
    obtain ⟨rfl, h2, h3⟩ := h
    rw [List.any_cons, List.any_cons, key_is, RepKv.any h3]
theorem RepKv.repl {K : PySem.W.Frag} {H : Hp} {s : List Nat} {w : V} {d : Dat} (r : Rep K H w d) : ∀ {l : List (Dat × Dat)} {kvs : List (Key × V)}, RepKv K H kvs l →
    RepKv K H (kvs.map fun kv => if kv.1 = .inr (⟨s.toArray⟩ : Str) then (kv.1, w) else kv) (l.map fun p => if isKey s p.1 = true then (p.1, d) else p)
  | [], [], _ => by rw [List.map_nil, List.map_nil, RepKv]; trivial
  | [], _ :: _, h => by simp [RepKv] at h
  | (_, _) :: _, [], h => by simp [RepKv] at h
  | (c, e) :: l, (k, v) :: kvs, h => by
    rw [RepKv] at h
    obtain ⟨rfl, h2, h3⟩ := h
    rw [List.map_cons, List.map_cons]
    cases q : isKey s (kD k) with
    | true =>
      have e1 : k = .inr (⟨s.toArray⟩ : Str) := of_decide_eq_true ((key_is s k).trans q)
      rw [if_pos e1, if_pos rfl, RepKv]
      exact ⟨rfl, r, RepKv.repl r h3⟩
    | false =>
      have e1 : ¬ k = .inr (⟨s.toArray⟩ : Str) := of_decide_eq_false ((key_is s k).trans q)
      rw [if_neg e1, if_neg (by decide), RepKv]
      exact ⟨rfl, h2, RepKv.repl r h3⟩
theorem RepKv.snoc {K : PySem.W.Frag} {H : Hp} {s : List Nat} {w : V} {d : Dat} (r : Rep K H w d) : ∀ {l : List (Dat × Dat)} {kvs : List (Key × V)}, RepKv K H kvs l → RepKv K H (kvs ++ [(.inr (⟨s.toArray⟩ : Str), w)]) (l ++ [(.str s, d)])
  | [], [], _ => by rw [List.nil_append, List.nil_append, RepKv, RepKv]; exact ⟨by simp [kD], r, trivial⟩
  | [], _ :: _, h => by simp [RepKv] at h
  | (_, _) :: _, [], h => by simp [RepKv] at h
  | (c, e) :: l, (k, v) :: kvs, h => by
    rw [RepKv] at h
    rw [List.cons_append, List.cons_append, RepKv]
    exact ⟨h.1, h.2.1, RepKv.snoc r h.2.2⟩
theorem RepKv.put {K : PySem.W.Frag} {H : Hp} {s : List Nat} {w : V} {d : Dat} {l : List (Dat × Dat)} {kvs : List (Key × V)} (h : RepKv K H kvs l) (r : Rep K H w d) : RepKv K H (putK kvs (.inr (⟨s.toArray⟩ : Str)) w) (putD l s d) := by
  unfold putK putD
  rw [h.any (s := s)]
  by_cases c : (l.any fun p => isKey s p.1) = true
  · rw [if_pos c, if_pos c]
    exact h.repl r
  · rw [if_neg c, if_neg c]
    exact h.snoc r
theorem RepKv.length {K : PySem.W.Frag} {H : Hp} : ∀ {l : List (Dat × Dat)} {kvs : List (Key × V)}, RepKv K H kvs l → kvs.length = l.length
  | [], [], _ => rfl
  | [], _ :: _, h => by simp [RepKv] at h
  | (_, _) :: _, [], h => by simp [RepKv] at h
  | (c, e) :: l, (k, v) :: kvs, h => by
    rw [RepKv] at h
    rw [List.length_cons, List.length_cons, RepKv.length h.2.2]
theorem BRep.dicAt {K : PySem.W.Frag} {H : Hp} {v : V} {l : List (Dat × Dat)} (h : BRep K H v (.dic l)) : ∃ a kvs, v = .ref a ∧ Rd H a (.dK kvs) ∧ RepKv K H kvs l ∧ l.length ≤ sizeLine := by
  rcases h with h | ⟨a, rfl, vs, h1, h2, h3⟩
  · rw [Rep] at h
    obtain ⟨a, vs, rfl, ⟨o, h2⟩, h3, h4⟩ := h
    exact ⟨a, vs, rfl, .inr ⟨o, h2⟩, h4, h3⟩
  · exact ⟨a, vs, rfl, .inl h1, h3, h2⟩
theorem ix_d (hu : X.A.units + 2 < cLine) : IxR X (rIdx X.K) := by
  intro value slice pins s σ H x y v u Q I rx ry ⟨dx, dy, hx, hy, h⟩ hs
  unfold idxW at h
  split at h
  · obtain ⟨d, e, q⟩ := h
    obtain ⟨a, vs, rfl, h1, h2, h3⟩ := hx.tupAt
    have ey := hy.intAt; subst ey
    obtain ⟨w, e2, r2⟩ := h2.at e
    exact ix_tup value slice pins s σ H _ _ v u Q I rx ry ⟨a, vs, _, w, rfl, rfl, h1.sq, e2, q.rep r2⟩ hs
  · obtain ⟨d, e, q⟩ := h
    obtain ⟨a, vs, rfl, h1, h2, h3⟩ := hx.lstAt
    have ey := hy.intAt; subst ey
    obtain ⟨w, e2, r2⟩ := h2.at e
    exact ix_list value slice pins s σ H _ _ v u Q I rx ry ⟨a, vs, _, w, rfl, rfl, .inl h1, e2, q.rep r2⟩ hs
  · rename_i l i
    obtain ⟨c, e, q⟩ := h
    obtain ⟨rfl, hl⟩ := hx.strAt
    have ey := hy.intAt; subst ey
    unfold atD atI at e
    rw [List.length_map] at e
    cases q2 : ixN l.length i with
    | none => rw [q2] at e; cases e
    | some j =>
      rw [q2] at e
      simp only [Option.bind_some, List.getElem?_map, Option.map_eq_some_iff] at e
      obtain ⟨c', e1, rfl⟩ := e
      refine ix_str value slice pins s σ H _ _ v u Q I rx ry ⟨_, i, c', rfl, rfl, by rw [str_len]; exact hl, ?_, ?_⟩ hs
      · unfold atI
        simp only [List.toList_toArray]
        rw [q2]
        exact e1
      · exact q.rep (rep_str (by simp [sizeLine]))
  · rename_i l t
    obtain ⟨d, e, q⟩ := h
    obtain ⟨a, kvs, rfl, h1, h2, _⟩ := hx.dicAt
    obtain ⟨ey, _⟩ := hy.strAt
    subst ey
    obtain ⟨w, e2, r2⟩ := h2.get e
    cases rx
    have g : DGet H a (.str ⟨t.toArray⟩) (some w) := .inl ⟨kvs, .inr ⟨t.toArray⟩, h1, rfl, e2.symm⟩
    exact PyProof.Rows.tail_any (ops := [.ref a, u]) (dict_typeIs I g) PySem.F.slot_dict_getitem.lookup (d_getItem (by omega) I g ry fun w' s3 I3 rw' => ⟨w, H, I3, rw', q.rep r2⟩) hs
  · rename_i l i
    obtain ⟨d, e, q⟩ := h
    obtain ⟨a, rfl, h1, _⟩ := hx.scrAt
    have ey := hy.intAt; subst ey
    have h2 : Reps X.K H (l.map V.int) (l.map Dat.int) := reps_ints _ _ l
    obtain ⟨w, e2, r2⟩ := h2.at e
    exact ix_list value slice pins s σ H _ _ v u Q I rx ry ⟨a, _, _, w, rfl, rfl, h1.sq, e2, q.rep r2⟩ hs
  · exact h.elim
def partD : Dat → Option (Option Int)
  | .non => some none
  | .int i => some (some i)
  | _ => none
/-- a slice by its parts -/
def sliceO (x : Dat) (l h : Option Int) (Q : Dat → Prop) : Prop :=
  match x with
  | .tup xs => Q (.tup (cut xs l h))
  | .lst xs => Q (.lst (cut xs l h))
  | .str xs => Q (.str (cut xs l h))
  | _ => False
theorem sliceW_parts {x lo hi : Dat} {Q : Dat → Prop} (h : sliceW x lo hi Q) : ∃ l r, partD lo = some l ∧ partD hi = some r ∧ sliceO x l r Q := by
  unfold sliceW at h
  dsimp only at h
  split at h
  · exact ⟨none, none, rfl, rfl, h⟩
  · exact ⟨some _, none, rfl, rfl, h⟩
  · exact ⟨none, some _, rfl, rfl, h⟩
  · exact ⟨some _, some _, rfl, rfl, h⟩
  · exact h.elim
def rSlD (K : PySem.W.Frag) : V → Option Int → Option Int → Hp → VK → Prop := fun x lo hi H Q => ∃ dx, BRep K H x dx ∧ sliceO dx lo hi (Res K H Q)
theorem cutS_cut (s : List Nat) (lo hi : Option Int) : cutS ⟨s.toArray⟩ lo hi = ⟨(cut s lo hi).toArray⟩ := by
  unfold cutS cut
  rw [str_len]
theorem sl_d : SlR X (rSlD X.K) := by
  intro pins s σ H x v vl vu lo hi sl Q I rx hs pl pu ⟨dx, hx, h⟩
  unfold sliceO at h
  split at h
  · rename_i l
    obtain ⟨a, vs, rfl, h1, h2, h3⟩ := hx.tupAt
    have hc := h2.cut lo hi
    have hz : (cut l lo hi).length ≤ sizeLine := Nat.le_trans (cut_length l lo hi) h3
    cases rx
    obtain ⟨its, r, ht, _⟩ := I.tuple h1.sq
    have e1 := r.length; have e2 := h2.length
    refine ⟨"tuple", _, PyProof.Rows.slot_tuple_getitem.lookup, ht.typeIs, ?_⟩
    have hn : its.toArray.size = l.length := by rw [List.size_toArray]; omega
    by_cases hw : HT.sIx l.length 0 lo = 0 ∧ HT.sIx l.length l.length hi = l.length
    · have e : cut l lo hi = l := by
        unfold cut
        rw [hw.1, hw.2, List.drop_zero, Nat.sub_zero, List.take_length]
      rw [e] at h
      refine getItem_tuple_whole ht hs pl pu (by rw [hn]; exact hw) ⟨.ref a, H, I, rfl, h.rep ?_⟩
      rw [Rep]
      exact ⟨a, vs, rfl, h1, h3, h2⟩
    · refine HT.getItem_tuple_cut ht hs pl pu (by rw [hn]; exact hw) ?_ (by rw [hn]; exact h3)
      rw [hn]
      have rc : Vals (cutV vs lo hi) ((its.drop (HT.sIx l.length 0 lo)).take (HT.sIx l.length l.length hi - HT.sIx l.length 0 lo)) := by
        unfold cutV
        rw [e2]
        exact (r.drop _).take _
      exact ⟨.ref s.heap.objs.size, _, Inv_tnew (t' := s.toks) I rc (by rw [hc.length]; exact hz), rfl, h.tup hc hz (I.hok.fresh (Nat.le_refl _)) rfl⟩
  · rename_i l
    obtain ⟨a, vs, rfl, h1, h2, h3⟩ := hx.lstAt
    have hc := h2.cut lo hi
    have hz : (cut l lo hi).length ≤ sizeLine := Nat.le_trans (cut_length l lo hi) h3
    exact sl_list pins s σ H _ v vl vu lo hi sl Q I rx hs pl pu ⟨a, vs, rfl, .inl h1, fun p hp => h.lst hc hz hp⟩
  · rename_i l
    obtain ⟨rfl, hl⟩ := hx.strAt
    refine sl_str pins s σ H _ v vl vu lo hi sl Q I rx hs pl pu ⟨_, rfl, by rw [str_len]; exact hl, ?_⟩
    rw [cutS_cut]
    exact h.rep (rep_str (Nat.le_trans (cut_length _ lo hi) hl))
  · exact h.elim
/-! ### every k-th item -/
theorem reps_pick {K : PySem.W.Frag} {H : Hp} {vs : List V} {l : List Dat} (h : Reps K H vs l) : ∀ js : List Nat, Reps K H (js.filterMap fun j => vs[j]?) (js.filterMap fun j => l[j]?)
  | [] => by rw [List.filterMap_nil, List.filterMap_nil, Reps]; trivial
  | j :: js => by
    have e := h.length
    rw [List.filterMap_cons, List.filterMap_cons]
    rcases Nat.lt_or_ge j l.length with q | q
    · obtain ⟨v, hv, hr⟩ := h.get (List.getElem?_eq_getElem q)
      rw [hv, List.getElem?_eq_getElem q]
      dsimp only
      rw [Reps]
      exact ⟨hr, reps_pick h js⟩
    · rw [List.getElem?_eq_none q, List.getElem?_eq_none (by omega)]
      exact reps_pick h js
theorem vals_pick {vs : List V} {us : List Value} (h : Vals vs us) : ∀ js : List Nat, Vals (js.filterMap fun j => vs[j]?) (js.filterMap fun j => us[j]?)
  | [] => by rw [List.filterMap_nil, List.filterMap_nil]; exact .nil
  | j :: js => by
    have e := h.length
    rw [List.filterMap_cons, List.filterMap_cons]
    rcases Nat.lt_or_ge j vs.length with q | q
    · obtain ⟨u, hu, hr⟩ := h.get (List.getElem?_eq_getElem q)
      rw [hu, List.getElem?_eq_getElem q]
      exact .cons hr (vals_pick h js)
    · rw [List.getElem?_eq_none q, List.getElem?_eq_none (by omega)]
      exact vals_pick h js
theorem pickS_len {α : Type} (l : List α) (k : Int) : (pickS l k).length ≤ l.length := by
  have h := slicePick_size_le ((l.map fun _ => Value.none).toArray) none none (some k)
  unfold slicePick at h
  rw [List.size_toArray, List.size_toArray, List.length_map] at h
  refine Nat.le_trans (Nat.le_of_eq ?_) h
  unfold pickS
  generalize (sliceRange _ _ _) = js
  induction js with
  | nil => rfl
  | cons j js ih =>
    rw [List.filterMap_cons, List.filterMap_cons, List.getElem?_toArray, List.getElem?_map]
    cases l[j]? with
    | none => exact ih
    | some x => exact congrArg Nat.succ ih
theorem plS_le (n : Nat) (k : Int) : plS n k ≤ n := by
  unfold plS Builtin.Slice.slicePlaces Builtin.Slice.sliceAdjust
  by_cases h : k < 0
  · have h1 : ¬ k > 0 := by omega
    simp only [h, h1, if_true, if_false]
    split
    · have := Int.ediv_le_self (b := -k) (a := (n : Int) - 1 - -1 - 1) (by omega)
      omega
    · simp
  · simp only [h, if_false]
    split
    · split
      · have := Int.ediv_le_self (b := k) (a := (n : Int) - 0 - 1) (by omega)
        omega
      · simp
    · split
      · omega
      · simp
theorem plS_one (n : Nat) : plS n 1 = n := by
  unfold plS Builtin.Slice.slicePlaces Builtin.Slice.sliceAdjust
  simp only [show ¬ ((1 : Int) < 0) by decide, show (1 : Int) > 0 by decide, if_true, if_false, Int.ediv_one]
  split <;> omega
theorem plS_rev (n : Nat) : plS n (-1) = n := by
  unfold plS Builtin.Slice.slicePlaces Builtin.Slice.sliceAdjust
  simp only [show ((-1 : Int) < 0) by decide, show ¬ ((-1 : Int) > 0) by decide, if_true, if_false, Int.neg_neg, Int.ediv_one]
  split <;> omega
theorem fm_congr {α β : Type} {f g : α → Option β} : ∀ {l : List α}, (∀ x ∈ l, f x = g x) → l.filterMap f = l.filterMap g
  | [], _ => rfl
  | a :: l, h => by rw [List.filterMap_cons, List.filterMap_cons, h a (List.mem_cons_self ..), fm_congr fun x hx => h x (List.mem_cons_of_mem _ hx)]
theorem fm_all {α : Type} : ∀ y : List α, ((List.range y.length).filterMap fun j => y[j]?) = y
  | [] => rfl
  | a :: y => by
    rw [List.length_cons, List.range_succ_eq_map, List.filterMap_cons, List.getElem?_cons_zero, List.filterMap_map]
    exact congrArg (a :: ·) (fm_all y)
theorem pickT_one {α : Type} (l : List α) : pickT l 1 = l := by
  unfold pickT
  rw [plS_one]
  refine Eq.trans (fm_congr fun j _ => ?_) (fm_all l)
  have e : (loS l.length 1 + (j : Int) * 1).toNat = j := by
    show (0 + (j : Int) * 1).toNat = j
    omega
  rw [e]
theorem pickT_rev {α : Type} (l : List α) : pickT l (-1) = l.reverse := by
  unfold pickT
  rw [plS_rev]
  have h : ∀ l : List α, (List.range l.length).reverse.filterMap (fun j => l[j]?) = l.reverse := fun l => by rw [List.filterMap_reverse, fm_all]
  rw [← h l]
  have e : (List.range l.length).reverse = (List.range l.length).map fun j => l.length - 1 - j := by
    apply List.ext_getElem?
    intro i
    rw [List.getElem?_map]
    rcases Nat.lt_or_ge i l.length with q | q
    · rw [List.getElem?_reverse (by rw [List.length_range]; exact q), List.length_range, List.getElem?_range (by omega), List.getElem?_range q]
      rfl
    · rw [List.getElem?_eq_none (by rw [List.length_reverse, List.length_range]; exact q), List.getElem?_eq_none (by rw [List.length_range]; exact q)]
      rfl
  rw [e, List.filterMap_map]
  refine fm_congr fun j hj => ?_
  have hj2 := List.mem_range.mp hj
  have e1 : (loS l.length (-1) + (j : Int) * -1).toNat = l.length - 1 - j := by
    show ((l.length : Int) - 1 + (j : Int) * -1).toNat = l.length - 1 - j
    omega
  rw [e1]
  rfl
theorem pickT_len {α : Type} (l : List α) (k : Int) : (pickT l k).length ≤ l.length := by
  unfold pickT
  refine Nat.le_trans (List.length_filterMap_le _ _) ?_
  rw [List.length_range]
  exact plS_le _ _
section
variable {prog : Program} {w : World} {A : Around} {E : Value → Shared → Prop} {s : Shared}
theorem applied_step {sl : Addr} {vk : Value} {n : Nat} {k : Int} {Q : Int × Int × Nat → Shared → Prop} (h0 : k ≠ 0) (hs : s.heap.IsSliceOf sl .none .none vk) (pk : IsPart vk (some k)) (h : Q (loS n k, k, plS n k) s) :
    wpAny (model prog w) A (Builtin.Slice.sliceApplied (.ref sl) (pure (n : Int))) Q E s := by
  have kz : (k == 0) = false := beq_eq_false_iff_ne.mpr h0
  let ⟨_, at0, _, dat⟩ := hs
  have part : ∀ (i : Nat) (x : Value), (#[Value.none, .none, vk])[i]? = some x → ∀ {A' : Around} {E' : Value → Shared → Prop} {Q' : Value → Shared → Prop}, Q' x s → wpAny (model prog w) A' (field (.ref sl) i) Q' E' s := fun i x e _ _ _ q => wpAny_field at0 dat e q
  have p0 := @part 0 .none rfl
  have p1 := @part 1 .none rfl
  have p2 := @part 2 vk rfl
  unfold Builtin.Slice.sliceApplied Builtin.Slice.sliceFields
  wp_walk using p0, p1, p2, HT.slicePart_ pk, HT.slicePart_ IsPart.none, kz
  exact h
/-- every k-th item of a tuple; the tuple itself where k is one -/
theorem getItem_tuple_step {t sl : Addr} {items : Array Value} {vk : Value} {k : Int} {Q : Value → Shared → Prop} (h0 : k ≠ 0) (ht : IsTup s.heap t items) (hs : s.heap.IsSliceOf sl .none .none vk) (pk : IsPart vk (some k)) (hsz : items.size ≤ sizeLine)
    (h1 : k = 1 → Q (.ref t) s) (h : Q (.ref s.heap.objs.size) { s with heap := s.heap.push { cls := .type "tuple", data := .seq (pickT items.toList k).toArray } }) : wpAny (model prog w) A (getItem (.ref t) (.ref sl)) Q E s := by
  have tt := ht.typeIs
  have ts : s.TypeIs (.ref sl) "slice" := ⟨_, hs.choose_spec.1, hs.choose_spec.2.1⟩
  have room : sizeOk (.seq (pickT items.toList k).toArray) := by
    have := pickT_len items.toList k
    rw [Array.length_toList] at this
    exact Nat.le_trans (by rw [List.size_toArray]; exact this) hsz
  have pick : ((List.range (plS items.size k)).filterMap fun (j : Nat) => items[(loS items.size k + (j : Int) * k).toNat]?) = pickT items.toList k := by simp [pickT]
  have inner : ∀ {A' : Around} {R : PySem.Fin → Shared → Prop} {E' : Value → Shared → Prop}, (k = 1 → R (.done (.ret (.ref t))) s) → R (.done (.ret (.ref s.heap.objs.size))) { s with heap := s.heap.push { cls := .type "tuple", data := .seq (pickT items.toList k).toArray } } → wpAny (model prog w) A' (Builtin.«tuple.__getitem__» ⟨[.ref t, .ref sl], []⟩) R E' s := by
    intro A' R E' r1 r2
    unfold Builtin.«tuple.__getitem__»
    wp_walk using tupleItemsOf_ ht, wpAny_typeOf ts, applied_step h0 hs pk
    by_cases e : k = 1
    · have all : (loS items.size k == 0 && k == 1 && plS items.size k == items.size) = true := by
        subst e
        rw [plS_one, beq_self_eq_true, beq_self_eq_true]
        rfl
      rw [if_pos all]
      wp_walk using wpAny_typeOf tt
      exact r1 e
    · have part : ¬ (loS items.size k == 0 && k == 1 && plS items.size k == items.size) = true := by
        simp [e]
      rw [if_neg part, pick]
      refine wpAny_bind (m := Builtin.Tuple.tupleExact _) (wpAny_newObj_type ?_ room)
      wp_walk
      exact r2
  have special : wpAny (model prog w) A (callSpecial? (.ref t) (Str.ofString "__getitem__") [.ref sl]) (fun v s' => ∃ u, v = some u ∧ Q u s') E s :=
    wpAny_callSpecial?_slot tt PyProof.Rows.slot_tuple_getitem (wpAny_call_entry PyProof.Rows.slot_tuple_getitem tt entry_tuple_getitem (inner (fun e => ⟨_, rfl, _, rfl, h1 e⟩) ⟨_, rfl, _, rfl, h⟩) (args_tuple_getitem _ _))
  unfold getItem
  refine wpAny_holding (wpAny_bind (wpAny_sequenceKey tt (by decide) (wpAny_bind (wpAny_mono special ?_ fun _ _ z => z))))
  rintro _ s' ⟨u, rfl, q⟩
  exact wpAny_pure q
end
theorem reps_pickT {K : PySem.W.Frag} {H : Hp} {vs : List V} {l : List Dat} (h : Reps K H vs l) (k : Int) : Reps K H (pickT vs k) (pickT l k) := by
  have e := h.length
  have f := reps_pick h ((List.range (plS l.length k)).map fun (j : Nat) => (loS l.length k + (j : Int) * k).toNat)
  rw [List.filterMap_map, List.filterMap_map] at f
  unfold pickT
  rw [e]
  exact f
theorem vals_pickT {vs : List V} {us : List Value} (h : Vals vs us) (k : Int) : Vals (pickT vs k) (pickT us k) := by
  have e := h.length
  have f := vals_pick h ((List.range (plS us.length k)).map fun (j : Nat) => (loS us.length k + (j : Int) * k).toNat)
  rw [List.filterMap_map, List.filterMap_map] at f
  unfold pickT
  rw [e]
  exact f
theorem sl_s {pins : List (Addr × Obj)} {s : Shared} {σ : L2.St} {H : Hp} {x : V} {v vk : Value} {k : Int} {sl : Addr} {Q : VK} (I : L2.Inv X pins σ H s) (rx : RelV x v) (hs : s.heap.IsSliceOf sl .none .none vk) (pk : IsPart vk (some k)) {dx : Dat} (hx : BRep X.K H x dx) (h : slcSO dx k (Res X.K H Q)) :
    ∃ T id, typeLookup (.type T) "__getitem__" = pure (some (.builtin id)) ∧ s.TypeIs v T ∧ wpAny (model X.prog X.w) X.A (getItem v (.ref sl)) (EP X pins σ Q) X.xe s := by
  rcases h with ⟨l, rfl, hk, h⟩ | ⟨l, rfl, hk, h⟩
  · obtain ⟨a, vs, rfl, h1, h2, h3⟩ := hx.tupAt
    cases rx
    obtain ⟨its, r, ht, hz⟩ := I.tuple h1.sq
    have e1 := r.length
    have e2 := h2.length
    refine ⟨"tuple", _, PyProof.Rows.slot_tuple_getitem.lookup, ht.typeIs, ?_⟩
    have hz2 : (pickT l k).length ≤ sizeLine := Nat.le_trans (pickT_len l k) h3
    refine getItem_tuple_step hk ht hs pk (by rw [List.size_toArray]; omega) (fun e => ?_) ?_
    · subst e
      rw [pickT_one] at h
      refine ⟨.ref a, H, I, rfl, h.rep ?_⟩
      rw [Rep]
      exact ⟨a, vs, rfl, h1, h3, h2⟩
    · exact ⟨.ref s.heap.objs.size, _, Inv_tnew (t' := s.toks) I (vals_pickT r k) (Nat.le_trans (pickT_len vs k) hz), rfl, h.tup (reps_pickT h2 k) hz2 (I.hok.fresh (Nat.le_refl _)) rfl⟩
  · obtain ⟨a, vs, rfl, h1, h2, h3⟩ := hx.lstAt
    cases rx
    obtain ⟨its, r, ht, hz⟩ := I.list (.inl h1)
    have e1 := r.length
    have e2 := h2.length
    refine ⟨"list", _, slot_list_getitem.lookup, ht.isList.typeIs, ?_⟩
    refine wpAny_getItem_list_slice ht.isList hs .none .none pk (fun e => hk (Option.some.inj e)) ?_ (by rw [List.size_toArray]; omega)
    have ep : slicePick its.toArray none none (some k) = (pickS its k).toArray := by
      unfold slicePick pickS
      rw [List.size_toArray]
      simp only [List.getElem?_toArray]
    rw [ep]
    have rc : Vals (pickS vs k) (pickS its k) := by
      unfold pickS
      rw [e1]
      exact vals_pick r _
    have rd : Reps X.K H (pickS vs k) (pickS l k) := by
      unfold pickS
      rw [e2]
      exact reps_pick h2 _
    have hz2 : (pickS l k).length ≤ sizeLine := Nat.le_trans (pickS_len l k) h3
    refine ⟨.ref s.heap.objs.size, _, I.laid (t' := s.toks) (o := .lst (pickS vs k)) (fun b ob q => Heap.get?_push_of_some _ q) (Nat.le_refl _) ?_, rfl, h.lst rd hz2 (I.hok.fresh (Nat.le_refl _))⟩
    exact ⟨Nat.le_trans (pickS_len vs k) hz, _, 0, rc, Heap.get?_push_size _ rfl⟩
end
end SF

/-! D3d: calls of built-in functions, by values. -/
namespace SF
open PySem PySem.Spec PyProof.Rows L2

def BReps (K : PySem.W.Frag) (H : Hp) : List V → List Dat → Prop
  | [], [] => True
  | v :: vs, d :: ds => BRep K H v d ∧ BReps K H vs ds
  | _, _ => False
theorem BReps.one {K : PySem.W.Frag} {H : Hp} {vs : List V} {d : Dat} (h : BReps K H vs [d]) : ∃ v, vs = [v] ∧ BRep K H v d := by
  match vs, h with
  | [v], h => exact ⟨v, rfl, h.1⟩
  | _ :: _ :: _, h => exact (h.2).elim
theorem BReps.two {K : PySem.W.Frag} {H : Hp} {vs : List V} {d e : Dat} (h : BReps K H vs [d, e]) : ∃ v w, vs = [v, w] ∧ BRep K H v d ∧ BRep K H w e := by
  match vs, h with
  | [v, w], h => exact ⟨v, w, rfl, h.1, h.2.1⟩
  | [_], h => exact h.2.elim
  | _ :: _ :: _ :: _, h => exact (h.2.2).elim
def rB1 (K : PySem.W.Frag) (b : B1) : List V → Hp → VK → Prop := fun vs H Q => ∃ ds, BReps K H vs ds ∧ biW b ds (Res K H Q)

theorem Reps.bools {K : PySem.W.Frag} {H : Hp} : ∀ {vs : List V} {bs : List Bool}, Reps K H vs (bs.map Dat.bl) → vs = bs.map V.bl
  | [], [], _ => rfl
  | [], _ :: _, h => by simp [Reps] at h
  | _ :: _, [], h => by simp [Reps] at h
  | v :: vs, b :: bs, h => by
    rw [List.map_cons, Reps, Rep] at h
    rw [List.map_cons, h.1, Reps.bools h.2]
theorem Reps.each {K : PySem.W.Frag} {H : Hp} : ∀ {vs : List V} {us : List Value} {l : List Dat}, Reps K H vs l → L2.Vals vs us → PySem.W.EachIs (fun u d => ∃ v, L2.RelV v u ∧ Rep K H v d) us l
  | [], _, [], _, r => by cases r; exact .nil
  | [], _, _ :: _, h, _ => by simp [Reps] at h
  | _ :: _, _, [], h, _ => by simp [Reps] at h
  | v :: vs, _, d :: ds, h, r => by
    rw [Reps] at h
    cases r with
    | cons r1 r2 => exact .cons ⟨v, r1, h.1⟩ (Reps.each h.2 r2)
theorem reps_of_each {K : PySem.W.Frag} {H : Hp} : ∀ {us : List Value} {l : List Dat}, PySem.W.EachIs (fun u d => ∃ v, L2.RelV v u ∧ Rep K H v d) us l → ∃ vs, L2.Vals vs us ∧ Reps K H vs l
  | _, _, .nil => ⟨[], .nil, by simp [Reps]⟩
  | _, _, .cons ⟨v, h1, h2⟩ t => by
    obtain ⟨vs, q1, q2⟩ := reps_of_each t
    exact ⟨v :: vs, .cons h1 q1, by rw [Reps]; exact ⟨h2, q2⟩⟩
theorem each_reads {X : Cx} {pins : List (Addr × Obj)} {σ : L2.St} {H : Hp} {s : Shared} (I : L2.Inv X pins σ H s) {n : Nat} : ∀ {us : List Value} {l : List Dat}, (∀ x ∈ l, okd n x) → PySem.W.EachIs (fun u d => ∃ v, L2.RelV v u ∧ Rep X.K H v d) us l → PySem.W.EachIs (fun u d => ∃ as, Reads s.heap u (toPy d) as) us l
  | _, _, _, .nil => .nil
  | _, _, o, .cons ⟨v, h1, h2⟩ t => .cons (Rep.reads I _ n v _ (o _ (by simp)) h2 h1) (each_reads I (fun x hx => o x (by simp [hx])) t)
theorem allAlike_of {l : List Dat} (h : alikeAll l) : PySem.W.AllAlike (l.map toPy) := by
  intro d hd d' hd'
  obtain ⟨x, hx, rfl⟩ := List.mem_map.mp hd
  obtain ⟨y, hy, rfl⟩ := List.mem_map.mp hd'
  exact alikeD_alike x y (h x hx y hy)
theorem sortable_of {l : List Dat} (h : alikeAll l) (hn : ∀ z ∈ l, noEmpty z = true) : PySem.W.Sortable (l.map toPy) := by
  cases l with
  | nil => exact .inl fun d hd => by simp at hd
  | cons x r =>
    have hx := fun y hy => h x (by simp) y hy
    by_cases ht : ∃ xs, x = .tup xs
    · obtain ⟨xs, rfl⟩ := ht
      refine .inl fun d hd => ?_
      obtain ⟨y, hy, rfl⟩ := List.mem_map.mp hd
      have h1 := hx y hy
      have h2 := hn y hy
      cases y with
      | tup ys =>
        cases ys with
        | nil => simp [noEmpty] at h2
        | cons a b => exact ⟨toPy a, toPys b, by simp only [toPy, toPys]⟩
      | _ => simp [alikeD] at h1
    · refine .inr fun d hd => ?_
      obtain ⟨y, hy, rfl⟩ := List.mem_map.mp hd
      have h1 := hx y hy
      cases y <;> cases x <;> simp_all [alikeD, toPy]
theorem sortD_eq {l : List Dat} {n : Nat} (h : alikeAll l) (ho : ∀ z ∈ l, okd n z) : l.mergeSort (PySem.W.dataLe false toPy) = sortD l := by
  unfold sortD
  refine PySem.W.sort_congr fun a ha b hb => ?_
  rw [PySem.W.dataLe_eq]
  show (!PySem.W.dataLt (toPy b) (toPy a)) = (!ltD b a)
  rw [ltD_dataLt b a n (ho b hb) (ho a ha) (h b hb a ha)]

theorem log2_1920 {i : Int} (h : i.natAbs < 2 ^ 1900) : i.natAbs.log2 < 1920 := by
  rcases Nat.eq_zero_or_pos i.natAbs with h0 | hp
  · rw [h0]; decide
  · exact Nat.lt_of_lt_of_le ((Nat.log2_lt (Nat.ne_of_gt hp)).mpr h) (by decide)

/-- sorted(a tuple of texts) -/
theorem sorted_tup {P : Program} {w : World} {A : Around} {E : Value → Shared → Prop} {s : Shared} {t : Addr} {vs : List Value} {bs : List Dat} {R : Value → Dat → Prop} {Q : Value → Shared → Prop} (ht : IsTup s.heap t vs.toArray) (hz : vs.length ≤ sizeLine) (hu : A.units + 200 < cLine) (q1 : alikeAll bs) (q2 : ∀ z ∈ bs, okd 60 z ∧ noEmpty z = true)
    (e : PySem.W.EachIs R vs bs) (er : PySem.W.EachIs (fun v b => ∃ k u, v = Value.str k u ∧ b = Dat.str k.cps.toList) vs bs)
    (h : ∀ (h1 h2 : Heap) (out : List Value) (c : Nat), (∀ b o, s.heap.get? b = some o → h1.get? b = some o) → (∀ b o, h1.get? b = some o → h2.get? b = some o) → h2.get? h1.objs.size = some (seqObj "list" (List.toArray out) c) → PySem.W.EachIs R out (sortD bs) → Q (.ref h1.objs.size) { s with heap := h2 }) : wpAny (model P w) A (call (.builtin "sorted") [.ref t]) Q E s := by
  obtain ⟨o, ho, hc, n, hd⟩ := ht
  refine Calls.call_function_entry kind_sorted plain_sorted entry_sorted (args_sorted1 _) ?_
  have col := fun Q' h' => wpAny_collect_seq (prog := P) (w := w) (A := A.in1) (E := E) (Q := Q') t (.inr rfl) ho hc hd h' (by rw [List.size_toArray]; exact hz)
  unfold Builtin.«sorted»
  dsimp only [List.headD]
  wp_walk using col
  intro h1 k1
  rw [List.toList_toArray]
  refine wpAny_bind (wpAny_newList ?_ hz)
  have made : (h1.push { cls := .type "list", data := .seq vs.toArray }).get? h1.objs.size = some (seqObj "list" vs.toArray 0) := Heap.get?_push_size _ rfl
  have er1 : PySem.W.EachIs (fun v b => ∃ as, Reads (h1.push { cls := .type "list", data := .seq vs.toArray }) v (toPy b) as ∧ h1.objs.size ∉ as) vs bs := er.mono fun v d ⟨k, u, e1, e2⟩ => by
    subst e1 e2
    refine ⟨[], ?_, by simp⟩
    rw [show toPy (.str k.cps.toList) = .str k by simp [toPy]]
    exact .str k u
  refine wpAny_bind (wpAny_holding (PySem.W.list_sort_data made e er1 (allAlike_of q1) (sortable_of q1 fun z hz => (q2 z hz).2) (by rw [← e.length]; exact hz) (fun b hb => ?_) fun out _ eo => ?_))
  · have := (okd_plain 60 _ (q2 b hb).1).2
    show A.units + 1 + 1 + _ < cLine
    omega
  rw [sortD_eq q1 fun z hz => (q2 z hz).1] at eo
  obtain ⟨c, at_⟩ := PyProof.Rows.sortedHeap_at (vs := vs) (out := out.toArray) made
  refine wpAny_pure ⟨_, rfl, h h1 _ out c k1 (fun b u q => ?_) at_ eo⟩
  have lt := Heap.lt_size q
  exact (PyProof.Rows.sortedHeap_old (Nat.ne_of_lt lt) (by rw [Heap.size_push]; exact Nat.lt_succ_of_lt lt)).trans (Heap.get?_push_of_some _ q)
theorem strs_each {K : PySem.W.Frag} {H : Hp} : ∀ {vs : List V} {its : List Value} {ts : List (List Nat)}, Reps K H vs (ts.map .str) → L2.Vals vs its → PySem.W.EachIs (fun v d => ∃ k u, v = Value.str k u ∧ d = Dat.str k.cps.toList) its (ts.map .str)
  | [], _, [], _, r => by cases r; exact .nil
  | [], _, _ :: _, h, _ => by simp [Reps] at h
  | _ :: _, _, [], h, _ => by simp [Reps] at h
  | v :: vs, _, t :: ts, h, r => by
    cases r with
    | cons a b =>
      rw [List.map_cons, Reps, Rep] at h
      obtain ⟨⟨rfl, _⟩, h⟩ := h
      obtain ⟨u, rfl⟩ := a
      exact .cons ⟨_, u, rfl, by simp⟩ (strs_each h b)
section
variable {X : Cx}
theorem cr_len : CallR X (.builtin "len") (rB1 X.K .len) := by
  intro pins s σ H xs us Q I r ⟨ds, hd, h⟩
  simp only [biW] at h
  unfold lenW at h
  split at h
  · obtain ⟨v, rfl, hv⟩ := hd.one
    obtain ⟨a, vs, rfl, h1, h2, h3⟩ := hv.tupAt
    exact call_len_seq pins s σ H _ us Q I r ⟨a, vs, rfl, .inr h1.sq, by rw [h2.length]; exact h.rep (rep_int _)⟩
  · obtain ⟨v, rfl, hv⟩ := hd.one
    obtain ⟨a, vs, rfl, h1, h2, h3⟩ := hv.lstAt
    exact call_len_seq pins s σ H _ us Q I r ⟨a, vs, rfl, .inl (.inl h1), by rw [h2.length]; exact h.rep (rep_int _)⟩
  · obtain ⟨v, rfl, hv⟩ := hd.one
    obtain ⟨rfl, hl⟩ := hv.strAt
    exact call_len_str pins s σ H _ us Q I r ⟨_, rfl, by rw [str_len]; exact hl, by rw [str_len]; exact h.rep (rep_int _)⟩
  · obtain ⟨v, rfl, hv⟩ := hd.one
    rcases hv with hv | ⟨a, _, hv⟩
    · rw [Rep] at hv
      obtain ⟨a, rfl, h1, h2⟩ := hv
      have hq := h.rep (rep_int _)
      exact call_len_seq pins s σ H _ us Q I r ⟨a, _, rfl, .inl h1.sq, by rw [List.length_map]; exact hq⟩
    · exact hv.elim
  · exact h.elim
theorem cr_abs : CallR X (.builtin "abs") (rB1 X.K .abs) := by
  intro pins s σ H xs us Q I r ⟨ds, hd, h⟩
  simp only [biW] at h
  unfold absW at h
  split at h
  · rename_i i
    obtain ⟨v, rfl, hv⟩ := hd.one
    have e := hv.intAt; subst e
    refine call_abs pins s σ H _ us Q I r ⟨i, rfl, ?_⟩
    rw [show (if i < 0 then -i else i) = ((i.natAbs : Nat) : Int) by split <;> omega]
    exact h.rep (rep_int _)
  · exact h.elim
theorem cr_allD (hc : X.calm = true) : CallR X (.builtin "all") (rB1 X.K .all) := by
  intro pins s σ H xs us Q I r ⟨ds, hd, h⟩
  simp only [biW] at h
  unfold allW at h
  split at h
  · obtain ⟨bs, rfl, q⟩ := h
    obtain ⟨v, rfl, hv⟩ := hd.one
    obtain ⟨a, vs, rfl, h1, h2, h3⟩ := hv.lstAt
    have e := h2.bools; subst e
    exact cr_all hc pins s σ H _ us Q I r ⟨a, bs, rfl, .inl h1, q.rep (rep_bl _)⟩
  · exact h.elim
theorem cr_anyD (hc : X.calm = true) : CallR X (.builtin "any") (rB1 X.K .any) := by
  intro pins s σ H xs us Q I r ⟨ds, hd, h⟩
  simp only [biW] at h
  unfold anyW at h
  split at h
  · obtain ⟨bs, rfl, q⟩ := h
    obtain ⟨v, rfl, hv⟩ := hd.one
    obtain ⟨a, vs, rfl, h1, h2, h3⟩ := hv.lstAt
    have e := h2.bools; subst e
    exact cr_any hc pins s σ H _ us Q I r ⟨a, bs, rfl, .inl h1, q.rep (rep_bl _)⟩
  · exact h.elim
theorem cr_maxD (hc : X.calm = true) : CallR X (.builtin "max") (rB1 X.K .max) := by
  intro pins s σ H xs us Q I r ⟨ds, hd, h⟩
  simp only [biW] at h
  unfold maxW at h
  split at h
  · rename_i i j
    obtain ⟨v, w, rfl, hv, hw⟩ := hd.two
    have e := hv.intAt; have e' := hw.intAt; subst e e'
    refine call_max2 hc pins s σ H _ us Q I r ⟨i, j, rfl, ?_⟩
    rw [show (if j > i then j else i) = max i j by split <;> omega]
    exact h.rep (rep_int _)
  · exact h.elim
theorem cr_minD (hc : X.calm = true) : CallR X (.builtin "min") (rB1 X.K .min) := by
  intro pins s σ H xs us Q I r ⟨ds, hd, h⟩
  simp only [biW] at h
  unfold minW at h
  split at h
  · rename_i i j
    obtain ⟨v, w, rfl, hv, hw⟩ := hd.two
    have e := hv.intAt; have e' := hw.intAt; subst e e'
    refine call_min2 hc pins s σ H _ us Q I r ⟨i, j, rfl, ?_⟩
    rw [show (if j < i then j else i) = min i j by split <;> omega]
    exact h.rep (rep_int _)
  · exact h.elim
theorem cr_intD : CallR X (.type "int") (rB1 X.K .int) := by
  intro pins s σ H xs us Q I r ⟨ds, hd, h⟩
  simp only [biW] at h
  unfold intW at h
  split at h
  · obtain ⟨v, rfl, hv⟩ := hd.one
    have e := hv.intAt; subst e
    exact call_int1 pins s σ H _ us Q I r (.inl ⟨_, rfl, h.rep (rep_int _)⟩)
  · obtain ⟨v, rfl, hv⟩ := hd.one
    have e := hv.blAt; subst e
    exact call_int1 pins s σ H _ us Q I r (.inr ⟨_, rfl, h.rep (rep_int _)⟩)
  · exact h.elim
theorem cr_tupleD : CallR X (.type "tuple") (rB1 X.K .tuple) := by
  intro pins s σ H xs us Q I r ⟨ds, hd, h⟩
  simp only [biW] at h
  unfold tupleW at h
  split at h
  · obtain ⟨v, rfl, hv⟩ := hd.one
    obtain ⟨a, vs, rfl, h1, h2, h3⟩ := hv.lstAt
    rw [Vals.ref1 r]
    obtain ⟨its, r', pl, hz⟩ := I.list (.inl h1)
    have hlen := r'.length
    refine call_tuple_list pl.isList (fun h' kp => ?_) (by simp only [List.size_toArray]; omega)
    have I1 : L2.Inv X pins σ H { s with heap := h' } := I.kept (t' := s.toks) kp
    exact ⟨.ref h'.objs.size, _, Inv_tnew (t' := s.toks) I1 r' hz, rfl, h.tup h2 h3 (I1.hok.fresh (Nat.le_refl _)) rfl⟩
  · obtain ⟨v, rfl, hv⟩ := hd.one
    obtain ⟨a, vs, rfl, h1, h2, h3⟩ := hv.tupAt
    rw [Vals.ref1 r]
    obtain ⟨its, _, p1, _⟩ := I.tuple h1.sq
    refine call_tuple_same (items := its.toArray) p1 ⟨.ref a, H, I, rfl, h.rep ?_⟩
    rw [Rep]
    exact ⟨a, vs, rfl, h1, h3, h2⟩
  · exact h.elim
theorem cr_listD : CallR X (.type "list") (rB1 X.K .list) := by
  intro pins s σ H xs us Q I r ⟨ds, hd, h⟩
  simp only [biW] at h
  unfold listW at h
  split at h
  · obtain ⟨v, rfl, hv⟩ := hd.one
    obtain ⟨a, vs, rfl, h1, h2, h3⟩ := hv.lstAt
    exact call_list_of pins s σ H _ us Q I r ⟨a, vs, rfl, .inl (.inl h1), fun p hp => h.lst h2 h3 hp⟩
  · obtain ⟨v, rfl, hv⟩ := hd.one
    obtain ⟨a, vs, rfl, h1, h2, h3⟩ := hv.tupAt
    exact call_list_of pins s σ H _ us Q I r ⟨a, vs, rfl, .inr h1.sq, fun p hp => h.lst h2 h3 hp⟩
  · exact h.elim
theorem cr_sortedD (hu : X.A.units + 200 < cLine) : CallR X (.builtin "sorted") (rB1 X.K .sorted) := by
  intro pins s σ H xs us Q I r ⟨ds, hd, h⟩
  simp only [biW] at h
  unfold sortedW at h
  split at h
  · rename_i l
    obtain ⟨q1, q2, q3⟩ := h
    obtain ⟨v, rfl, hv⟩ := hd.one
    obtain ⟨a, vs, rfl, h1, h2, h3⟩ := hv.lstAt
    obtain ⟨its, rv, hl, _⟩ := I.list (.inl h1)
    rw [Vals.ref1 r]
    have eR := h2.each rv
    have er := each_reads I (fun x hx => (q2 x hx).1) eR
    refine PySem.W.sorted_data hl.isList eR er (allAlike_of q1) (sortable_of q1 fun z hz => (q2 z hz).2) h3 (fun b hb => by have := (okd_plain 60 _ (q2 b hb).1).2; omega) fun out ho eo => ?_
    rw [sortD_eq q1 fun z hz => (q2 z hz).1] at eo
    obtain ⟨vs', rv', h2'⟩ := reps_of_each eo
    obtain ⟨ep, he'⟩ := PyProof.Rows.sortedAll_at s.heap its out.toArray
    have hln : (sortD l).length ≤ sizeLine := by unfold sortD; rw [List.length_mergeSort]; exact h3
    have hf : H (s.heap.objs.size + 1) = none := I.hok.fresh (Nat.le_succ _)
    exact ⟨.ref _, upd H (s.heap.objs.size + 1) (.lst vs'), I.laid (t' := s.toks) (fun _ _ => PyProof.Rows.sortedAll_old) (Nat.le_succ _) ⟨by rw [h2'.length]; exact hln, out, ep, rv', he'⟩, rfl, q3.lst h2' hln hf⟩
  · rename_i l
    obtain ⟨⟨ts, rfl⟩, q3⟩ := h
    obtain ⟨v, rfl, hv⟩ := hd.one
    obtain ⟨a, vs, rfl, h1, h2, h3⟩ := hv.tupAt
    obtain ⟨its, rv, p1, _⟩ := I.tuple h1.sq
    rw [Vals.ref1 r]
    have q1 : alikeAll (ts.map Dat.str) := by
      intro x hx y hy
      obtain ⟨_, _, rfl⟩ := List.mem_map.mp hx
      obtain ⟨_, _, rfl⟩ := List.mem_map.mp hy
      rw [alikeD]
    have q2 : ∀ z ∈ ts.map Dat.str, okd 60 z ∧ noEmpty z = true := by
      intro z hz
      obtain ⟨_, _, rfl⟩ := List.mem_map.mp hz
      exact ⟨by simp [okd], rfl⟩
    refine sorted_tup p1 (by rw [← rv.length, h2.length]; exact h3) hu q1 q2 (h2.each rv) (strs_each h2 rv) fun g1 g2 out c k1 k2 at_ eo => ?_
    obtain ⟨vs', rv', h2'⟩ := reps_of_each eo
    have hln : (sortD (ts.map Dat.str)).length ≤ sizeLine := by unfold sortD; rw [List.length_mergeSort]; exact h3
    have I1 := I.kept (h' := g1) (t' := s.toks) k1
    have hf : H g1.objs.size = none := I1.hok.fresh (Nat.le_refl _)
    exact ⟨.ref _, upd H g1.objs.size (.lst vs'), I1.laid (t' := s.toks) k2 (Nat.le_refl _) ⟨by rw [h2'.length]; exact hln, out, c, rv', at_⟩, rfl, q3.lst h2' hln hf⟩
  · exact h.elim
end
end SF

/-! D3e: repr, isinstance, methods, by values. -/
namespace SF
open PySem PySem.Spec PyProof.Rows L2

theorem rpd_okd : ∀ (n w : Nat) (d : Dat), rpd n w d → okd n d := by
  intro n
  induction n with
  | zero => intro w d h; cases d <;> simp_all [okd, rpd]
  | succ n ih =>
    intro w d h
    cases d with
    | tup l => simp only [okd, rpd] at h ⊢; obtain ⟨v, h1, _⟩ := h; exact fun x hx => ih v x (h1 x hx)
    | lst l => simp only [okd, rpd] at h ⊢; obtain ⟨v, h1, _⟩ := h; exact fun x hx => ih v x (h1 x hx)
    | _ => simp_all [okd, rpd]
theorem piled_bound {v : Nat} : ∀ (l : List Dat), (∀ x ∈ l, (toPy x).shown.length ≤ v) → piled (PyData.shownAll (toPys l)) ≤ l.length * (v + 2)
  | [], _ => by simp [toPys, PyData.shownAll, piled]
  | x :: r, h => by
    have h1 := h x (by simp)
    have h2 := piled_bound r fun y hy => h y (by simp [hy])
    simp only [toPys, PyData.shownAll, piled_cons, List.length_cons, Nat.succ_mul]
    omega
theorem textFrom_bound : ∀ (ts : List Str) (k : Nat) (acc : Str), (textFrom k acc ts).length ≤ acc.length + piled ts
  | [], k, acc => by simp [textFrom, piled]
  | t :: ts, k, acc => by
    have ih := textFrom_bound ts (k + 1) (acc ++ (if k > 0 then ", " else "" : String) ++ t)
    rw [strLen_append, strLen_append] at ih
    have e : ((if k > 0 then ", " else "" : String) : Str).length ≤ 2 := by split <;> decide
    rw [piled_cons]
    show (textFrom (k + 1) (acc ++ (if k > 0 then ", " else "" : String) ++ t) ts).length ≤ _
    omega
theorem listText_bound (ts : List Str) : (listText ts).length ≤ piled ts + 2 := by
  have h := textFrom_bound ts 0 ("[" : Str)
  unfold listText
  rw [strLen_append]
  have e1 : (("[" : String) : Str).length = 1 := rfl
  have e2 : (("]" : String) : Str).length = 1 := rfl
  omega
theorem tupleText_bound (ts : List Str) : (tupleText ts).length ≤ piled ts + 3 := by
  unfold tupleText
  rw [strLen_append, strLen_append]
  have e1 : (("(" : String) : Str).length = 1 := rfl
  have e2 : ((if ts.length == 1 then ",)" else ")" : String) : Str).length ≤ 2 := by split <;> decide
  have e3 : (Str.join ", " ts).length ≤ piled ts := by
    by_cases h : ts = []
    · subst h; exact Nat.zero_le _
    · have := join_length_add ts h; omega
  omega
theorem rpd_leaf (w : Nat) (d : Dat) (h : rpd 0 w d) : (toPy d).showable = true ∧ (toPy d).shown.length ≤ w := by
  cases d <;> simp only [rpd] at h
  · exact ⟨by simp [toPy, PyData.showable], by simp only [toPy, PyData.shown]; exact h⟩
  · rename_i b
    exact ⟨by simp [toPy, PyData.showable], by simp only [toPy, PyData.shown]; cases b <;> exact Nat.le_trans (by decide) h⟩
  · rename_i i
    refine ⟨by simpa [toPy, PyData.showable] using log2_1920 h.2.2, ?_⟩
    simp only [toPy, PyData.shown]
    have h1 := int_text_length_le10 (a := i) (k := w - 1) (by have := h.2.1; omega) h.1
    show (Str.ofString (toString i)).length ≤ w
    rw [PySem.ofString_length]; have := h.2.1; omega
  · rename_i s
    refine ⟨by simp [toPy, PyData.showable], ?_⟩
    simp only [toPy, PyData.shown]
    have h1 := StrLaws.reprText_len (⟨s.toArray⟩ : Str) fun c hc => Nat.lt_trans (h.1 c (by simpa using hc)) (by decide)
    rw [str_len s] at h1
    omega
theorem showAll_of : ∀ {l : List Dat}, (∀ x ∈ l, (toPy x).showable = true) → PyData.showableAll (toPys l) = true
  | [], _ => by simp [toPys, PyData.showableAll]
  | x :: r, h => by simp only [toPys, PyData.showableAll, Bool.and_eq_true]; exact ⟨h x (by simp), showAll_of fun y hy => h y (by simp [hy])⟩
theorem rpd_shown : ∀ (n w : Nat) (d : Dat), rpd n w d → (toPy d).showable = true ∧ (toPy d).shown.length ≤ w := by
  intro n
  induction n with
  | zero => exact rpd_leaf
  | succ n ih =>
    intro w d h
    cases d with
    | tup l =>
      simp only [rpd] at h
      obtain ⟨v, h1, h2⟩ := h
      have q := fun x hx => ih v x (h1 x hx)
      refine ⟨by simp only [toPy, PyData.showable]; exact showAll_of fun x hx => (q x hx).1, ?_⟩
      have b1 := piled_bound l fun x hx => (q x hx).2
      have b2 := tupleText_bound (PyData.shownAll (toPys l))
      simp only [toPy, PyData.shown]
      omega
    | lst l =>
      simp only [rpd] at h
      obtain ⟨v, h1, h2⟩ := h
      have q := fun x hx => ih v x (h1 x hx)
      refine ⟨by simp only [toPy, PyData.showable]; exact showAll_of fun x hx => (q x hx).1, ?_⟩
      have b1 := piled_bound l fun x hx => (q x hx).2
      have b2 := listText_bound (PyData.shownAll (toPys l))
      simp only [toPy, PyData.shown]
      omega
    | _ => exact rpd_leaf w _ (by simpa only [rpd] using h)
theorem plain_hasDict : ∀ d : PyData, d.plain = true → d.hasDict = false := by
  intro d
  exact PyData.rec (motive_1 := fun d => d.plain = true → d.hasDict = false) (motive_2 := fun ds => PyData.plainAll ds = true → PyData.hasDictAll ds = false) (motive_3 := fun _ => True) (motive_4 := fun _ => True)
    (by simp [PyData.hasDict]) (by simp [PyData.hasDict]) (by simp [PyData.hasDict]) (by simp [PyData.hasDict])
    (fun xs ih h => by simp only [PyData.plain] at h; simp only [PyData.hasDict]; exact ih h) (fun xs ih h => by simp only [PyData.plain] at h; simp only [PyData.hasDict]; exact ih h) (fun _ _ h => by simp [PyData.plain] at h)
    (by simp [PyData.hasDictAll]) (fun x xs h1 h2 h => by simp only [PyData.plainAll, Bool.and_eq_true] at h; simp only [PyData.hasDictAll]; rw [h1 h.1, h2 h.2]; rfl) trivial (fun _ _ _ _ => trivial) (fun _ _ _ _ => trivial) d

section
variable {X : Cx}
theorem cr_reprD (hu : X.A.units + 200 < cLine) (hg : X.A.guards = some []) : CallR X (.builtin "repr") (rB1 X.K .repr) := by
  intro pins s σ H xs us Q I r ⟨ds, hd, h⟩
  simp only [biW] at h
  unfold reprW at h
  split at h
  · rename_i d
    obtain ⟨h1, h2⟩ := h
    obtain ⟨v, rfl, hv⟩ := hd.one
    have ok := rpd_okd _ _ _ h1
    have pl := okd_plain _ _ ok
    obtain ⟨q1, q2⟩ := rpd_shown _ _ _ h1
    have hz : (toPy d).shown.length ≤ sizeLine := q2
    have fin : Q (.str (toPy d).shown) H := by
      have := h2.rep (K := X.K) (H := H) (d := .str (reprD d)) (v := .str (toPy d).shown) (by
        unfold reprD
        rw [Rep]
        exact ⟨by congr 1, by rw [Array.length_toList]; exact hz⟩)
      exact this
    match us, r with
    | [u], .cons r1 .nil =>
      obtain ⟨as, rd⟩ := hv.reads I ok r1
      have hnd := plain_hasDict _ pl.1
      have hdp := pl.2
      generalize toPy d = pd at rd q1 hz fin hnd hdp
      have heap : ∀ a, u = .ref a → wpAny (model X.prog X.w) X.A (call (.builtin "repr") [u]) (EP X pins σ Q) X.xe s := fun a e => by
        subst e
        exact repr_of_reads' rd q1 (PyData.noDict_hsm hnd) hg (by omega) (fun _ _ z => z) (fun h' w tk hk => ⟨.str _, H, I.kept hk, ⟨w, rfl⟩, fin⟩) hz
      cases rd with
      | none => exact PySem.P.repr_of_none ⟨.str _, H, I.tok _, ⟨_, rfl⟩, by simpa [PyData.shown] using fin⟩
      | bool b => exact PySem.P.repr_of_bool ⟨.str _, H, I.tok _, ⟨_, rfl⟩, by simpa [PyData.shown] using fin⟩
      | int i t => exact PySem.P.repr_of_int (by simpa [PyData.showable] using q1) ⟨.str _, H, I.tok _, ⟨_, rfl⟩, by simpa [PyData.shown] using fin⟩
      | str x t => exact PySem.P.repr_of_str ⟨.str _, H, I.tok _, ⟨_, rfl⟩, by simpa [PyData.shown] using fin⟩ (by simpa [PyData.shown] using hz)
      | list a b c e => exact heap _ rfl
      | tuple a b c e => exact heap _ rfl
      | dict => exact heap _ rfl
  · exact h.elim
end
end SF

/-! D3f: isinstance, methods, iterators, by values. -/
namespace SF
open PySem PySem.Spec PyProof.Rows L2

def tyOf : Ty → String
  | .int => "int" | .bool => "bool" | .str => "str" | .tuple => "tuple" | .list => "list" | .dict => "dict"
def tyN : Dat → String
  | .non => "NoneType" | .bl _ => "bool" | .int _ => "int" | .str _ => "str" | .tup _ => "tuple" | .lst _ => "list" | .dic _ => "dict" | _ => ""
theorem kit_isi (K : PySem.W.Frag) (d : Dat) (t : Ty) (h : isiOk d = true) : PySem.W.kitOne K (.type (tyN d)) (.type (tyOf t)) = some (isiD d t) := by
  cases d <;> cases t <;> first | (simp [isiOk] at h; done) | exact kit_ty (by simp only [tyN, tyOf, isiD]; decide +kernel)
theorem Rep.tyX {K : PySem.W.Frag} {H : Hp} {v : V} {d : Dat} (h : Rep K H v d) (ok : isiOk d = true) : TyX K H v (.type (tyN d)) := by
  cases d with
  | non => rw [Rep] at h; subst h; exact .base .non
  | bl b => rw [Rep] at h; subst h; exact .base (.bl b)
  | int b => rw [Rep] at h; subst h; exact .base (.int b)
  | str b => rw [Rep] at h; obtain ⟨rfl, _⟩ := h; exact .base (.str _)
  | tup l =>
    rw [Rep] at h
    obtain ⟨a, vs, rfl, ⟨o, h2, _⟩ | ⟨o, its, n, h2, h3, _⟩, _⟩ := h
    · exact .fTuple h2
    · exact .kTuple h2 h3
  | lst l =>
    rw [Rep] at h
    obtain ⟨a, vs, rfl, ⟨o, h2⟩, _⟩ := h
    exact .base (.frz h2)
  | dic l =>
    rw [Rep] at h
    obtain ⟨a, vs, rfl, ⟨o, h2⟩, _⟩ := h
    exact .fDict h2
  | obj c l => simp [isiOk] at ok
  | pot => simp [isiOk] at ok
  | scr l => simp [isiOk] at ok
section
variable {X : Cx}
theorem cr_isi (t : Ty) : CallR X (.builtin "isinstance") (fun vs H Q => ∃ v d, vs = [v, .ty (tyOf t)] ∧ Rep X.K H v d ∧ isiOk d = true ∧ Q (.bl (isiD d t)) H) := by
  intro pins s σ H xs us Q I r ⟨v, d, e, hv, ok, q⟩
  exact call_isi pins s σ H xs us Q I r ⟨v, _, _, _, _, e, .ty _, hv.tyX ok, kit_isi X.K d t ok, q⟩

/-! ### x.index(y) -/
theorem findIdx_any {l : List Dat} {p : Dat → Bool} (h : l.any p = true) : l.findIdx p < l.length := by
  obtain ⟨x, hx, hp⟩ := List.any_eq_true.mp h
  exact List.findIdx_lt_length_of_exists ⟨x, hx, hp⟩
theorem item_eq {A : Around} {s : Shared} {its : List Value} {xs : List Dat} {x : Value} {d : Dat} {as bs : List Addr} (hu : A.units + 200 < cLine) (rs : ReadsAll s.heap its (toPys xs) as) (rx : Reads s.heap x (toPy d) bs) (hd : okd 60 d) (hx : ∀ z ∈ xs, okd 60 z) :
    ∀ (j : Nat) (hj : j < its.length), ∃ z, xs[j]? = some z ∧ SeqAt.EqAt A s its[j] x (eqD z d) := by
  intro j hj
  have hl : its.length = xs.length := by
    have := SeqAt.ReadsAll.length (toPys xs) its as rs
    rw [this, toPys_map, List.length_map]
  have hj2 : j < xs.length := by omega
  refine ⟨xs[j], List.getElem?_eq_getElem hj2, ?_⟩
  obtain ⟨cs, r⟩ := each_nth rs j hj (by rw [toPys_map, List.length_map]; exact hj2)
  have e : (toPys xs)[j]'(by rw [toPys_map, List.length_map]; exact hj2) = toPy xs[j] := by
    simp only [toPys_map, List.getElem_map]
  rw [e] at r
  have o := hx xs[j] (List.getElem_mem hj2)
  rw [eqD_eqv _ _ 60 o hd]
  exact SeqAt.eqAt_plain _ _ A s _ _ _ _ r rx (okd_plain 60 _ o).1 (okd_plain 60 _ hd).1 (by have := (okd_plain 60 _ o).2; omega)
where
  each_nth {s : Shared} : ∀ {vs : List Value} {ds : List PyData} {as : List Addr}, ReadsAll s.heap vs ds as → ∀ (j : Nat) (h1 : j < vs.length) (h2 : j < ds.length), ∃ cs, Reads s.heap vs[j] ds[j] cs := by
    intro vs ds as r
    induction vs generalizing ds as with
    | nil => intro j h1; simp at h1
    | cons v vs ih =>
      intro j h1 h2
      cases r with
      | cons a b =>
        cases j with
        | zero => exact ⟨_, a⟩
        | succ j => exact ih b j (by simpa using h1) (by simpa using h2)

def rM1 (K : PySem.W.Frag) (m : M1) : V → List V → Hp → VK → Prop := fun x xs H Q => ∃ dx ds, BRep K H x dx ∧ BReps K H xs ds ∧ meW m dx ds (Res K H Q)
theorem index_core {s : Shared} {its : List Value} {xs : List Dat} {x : Value} {d : Dat} {as bs : List Addr} {A : Around} (hu : A.units + 200 < cLine) (rs : ReadsAll s.heap its (toPys xs) as) (rx : Reads s.heap x (toPy d) bs) (hd : okd 60 d) (hx : ∀ z ∈ xs, okd 60 z)
    (ha : (xs.any fun z => eqD z d) = true) : ∃ e : Nat → Bool, (xs.findIdx fun z => eqD z d) < its.toArray.size ∧ e (xs.findIdx fun z => eqD z d) = true ∧ (∀ m, m < (xs.findIdx fun z => eqD z d) → e m = false) ∧ ∀ (j : Nat) (hj : j < its.toArray.size), SeqAt.EqAt A s its.toArray[j] x (e j) := by
  have hl : its.length = xs.length := by
    have := SeqAt.ReadsAll.length (toPys xs) its as rs
    rw [this, toPys_map, List.length_map]
  have hj := findIdx_any ha
  refine ⟨fun j => match xs[j]? with | some z => eqD z d | none => false, by rw [List.size_toArray]; omega, ?_, fun m hm => ?_, fun j hj2 => ?_⟩
  · simp only [List.getElem?_eq_getElem hj]
    exact List.findIdx_getElem (w := hj)
  · have h2 : m < xs.length := by omega
    simp only [List.getElem?_eq_getElem h2]
    simpa using List.not_of_lt_findIdx hm
  · obtain ⟨z, e1, e2⟩ := item_eq hu rs rx hd hx j (by simpa using hj2)
    simp only [e1]
    simpa using e2
theorem mt_indexT (hu : X.A.units + 300 < cLine) : MtR X "tuple.index" (fun x xs H Q => ∃ l d, BRep X.K H x (.tup l) ∧ BReps X.K H xs [d] ∧ indexW (.tup l) [d] (Res X.K H Q)) := by
  intro pins s σ H x xs v us Q I rx rxs ⟨l, d, hx, hxs, h⟩
  obtain ⟨h1, h2, h3, h4⟩ := h
  obtain ⟨y, rfl, hy⟩ := hxs.one
  obtain ⟨a, vs, rfl, k1, k2, k3⟩ := hx.tupAt
  cases rx
  match us, rxs with
  | [u], .cons ru .nil =>
    obtain ⟨its, rv, ⟨⟨cls, dd, data, sl⟩, ho, hc, n, hdt⟩, _⟩ := I.tuple k1.sq
    simp only at hc hdt
    subst hc hdt
    obtain ⟨as, rs⟩ := Reps.reads I l 60 vs its h2 k2 rv
    obtain ⟨bs, rb⟩ := hy.reads I h1 ru
    obtain ⟨e, e1, e2, e3, e4⟩ := index_core (A := X.A.in1) (by show X.A.units + 1 + 200 < cLine; omega) rs rb h1 h2 h3
    exact call_meets F.slot_tuple_index ⟨_, ho, rfl⟩ F.entry_tuple_index (F.args_tuple_index_2 _ _)
      (SeqAt.tuple_index2_found a its.toArray n dd sl u e _ e1 (Nat.zero_le _) e1 e2 fun m _ _ hm => e3 m hm) ⟨ho, e4, ⟨.int _, H, I.tok _, ⟨_, rfl⟩, h4.rep (rep_int _)⟩⟩
theorem mt_indexL (hu : X.A.units + 300 < cLine) : MtR X "list.index" (fun x xs H Q => ∃ l d, BRep X.K H x (.lst l) ∧ BReps X.K H xs [d] ∧ indexW (.lst l) [d] (Res X.K H Q)) := by
  intro pins s σ H x xs v us Q I rx rxs ⟨l, d, hx, hxs, h⟩
  obtain ⟨h1, h2, h3, h4⟩ := h
  obtain ⟨y, rfl, hy⟩ := hxs.one
  obtain ⟨a, vs, rfl, k1, k2, k3⟩ := hx.lstAt
  cases rx
  match us, rxs with
  | [u], .cons ru .nil =>
    obtain ⟨_, its, n, rv, ho⟩ := k1.ok I.hok
    obtain ⟨as, rs⟩ := Reps.reads I l 60 vs its h2 k2 rv
    obtain ⟨bs, rb⟩ := hy.reads I h1 ru
    obtain ⟨e, e1, e2, e3, e4⟩ := index_core (A := X.A.in1) (by show X.A.units + 1 + 200 < cLine; omega) rs rb h1 h2 h3
    have hb : ((l.findIdx fun z => eqD z d : Nat) : Int) < 2 ^ 63 - 1 := by
      have := findIdx_any h3
      rw [sizeLine_eq] at k3
      omega
    exact call_meets F.slot_list_index ⟨_, ho, rfl⟩ F.entry_list_index (F.args_list_index_2 _ _)
      (SeqAt.list_index2_found a its.toArray n none #[] u e _ e1 (Nat.zero_le _) hb e2 fun m _ _ hm => e3 m hm) ⟨ho, e4, ⟨.int _, H, I.tok _, ⟨_, rfl⟩, h4.rep (rep_int _)⟩⟩
theorem Reps.strs {K : PySem.W.Frag} {H : Hp} : ∀ {vs : List V} {ss : List (List Nat)}, Reps K H vs (ss.map Dat.str) → vs = (ss.map fun s => (⟨s.toArray⟩ : Str)).map V.str
  | [], [], _ => rfl
  | [], _ :: _, h => by simp [Reps] at h
  | _ :: _, [], h => by simp [Reps] at h
  | v :: vs, b :: bs, h => by
    rw [List.map_cons, Reps, Rep] at h
    rw [List.map_cons, List.map_cons, ← h.1.1, ← Reps.strs h.2]
theorem join_eq' (sep : List Nat) : ∀ ss : List (List Nat), Str.join ⟨sep.toArray⟩ (ss.map fun s => (⟨s.toArray⟩ : Str)) = ⟨(joinS sep ss).toArray⟩
  | [] => rfl
  | [x] => rfl
  | x :: y :: r => by
    have ih := join_eq' sep (y :: r)
    show (⟨x.toArray⟩ : Str) ++ ⟨sep.toArray⟩ ++ Str.join ⟨sep.toArray⟩ ((y :: r).map fun s => (⟨s.toArray⟩ : Str)) = _
    rw [ih, str_app, str_app]
    rfl
theorem join_eq (sep : List Nat) (ss : List (List Nat)) : Txt.join ⟨sep.toArray⟩ (ss.map fun s => (⟨s.toArray⟩ : Str)) = ⟨(joinS sep ss).toArray⟩ := (TL.join_eq _ _).trans (join_eq' sep ss)
theorem joinS_len (sep : List Nat) : ∀ ss : List (List Nat), (joinS sep ss).length ≤ (ss.map List.length).sum + ss.length * sep.length
  | [] => by simp [joinS]
  | [x] => by simp [joinS]
  | x :: y :: r => by
    have ih := joinS_len sep (y :: r)
    simp only [joinS, List.length_append, List.map_cons, List.sum_cons, List.length_cons, Nat.succ_mul] at ih ⊢
    omega
theorem mt_joinD : MtR X "str.join" (rM1 X.K .join) := by
  intro pins s σ H x xs v us Q I rx rxs ⟨dx, ds, hx, hxs, h⟩
  simp only [meW] at h
  unfold joinW at h
  have len (ss : List (List Nat)) : (((ss.map fun s => (⟨s.toArray⟩ : Str))).map (·.length)).sum = (ss.map List.length).sum := by
    rw [List.map_map]
    refine congrArg _ (List.map_congr_left fun s _ => str_len s)
  split at h
  · rename_i sep l
    obtain ⟨ss, rfl, hz, q⟩ := h
    obtain ⟨y, rfl, hy⟩ := hxs.one
    obtain ⟨rfl, _⟩ := hx.strAt
    obtain ⟨a, vs, rfl, k1, k2, k3⟩ := hy.lstAt
    have e := k2.strs; subst e
    refine mt_join pins s σ H _ _ v us Q I rx rxs ⟨_, a, _, rfl, rfl, .inl (.inl k1), by rw [len, List.length_map, str_len]; exact hz, ?_⟩
    rw [join_eq]
    exact q.rep (rep_str (Nat.le_trans (joinS_len _ _) hz))
  · rename_i sep l
    obtain ⟨ss, rfl, hz, q⟩ := h
    obtain ⟨y, rfl, hy⟩ := hxs.one
    obtain ⟨rfl, _⟩ := hx.strAt
    obtain ⟨a, vs, rfl, k1, k2, k3⟩ := hy.tupAt
    have e := k2.strs; subst e
    refine mt_join pins s σ H _ _ v us Q I rx rxs ⟨_, a, _, rfl, rfl, .inr k1.sq, by rw [len, List.length_map, str_len]; exact hz, ?_⟩
    rw [join_eq]
    exact q.rep (rep_str (Nat.le_trans (joinS_len _ _) hz))
  · exact h.elim
theorem drop_takeWhile {α : Type} (p : α → Bool) : ∀ l : List α, l.drop (l.takeWhile p).length = l.dropWhile p
  | [] => rfl
  | a :: l => by
    cases h : p a
    · rw [List.takeWhile_cons, List.dropWhile_cons, h]; rfl
    · rw [List.takeWhile_cons, List.dropWhile_cons, h]; exact drop_takeWhile p l
theorem lstrip_eq (s t : List Nat) : Txt.lstripChars ⟨s.toArray⟩ ⟨t.toArray⟩ = ⟨(s.dropWhile fun c => t.contains c).toArray⟩ := by
  rw [Txt.lstripChars, PySem.W.stripBy_eq]
  show Builtin.Str.strSub _ (s.takeWhile fun c => t.toArray.contains c).length (Str.length ⟨s.toArray⟩) = _
  have e : (fun c => t.toArray.contains c) = fun c => t.contains c := by funext c; simp
  rw [e, str_len]
  unfold Builtin.Str.strSub
  congr 1
  rw [← drop_takeWhile]
  simp only [List.extract_toArray, List.extract_eq_drop_take, Array.toArray_toList]
  congr 1
  exact List.take_of_length_le (by rw [List.length_drop]; omega)
theorem mt_lstripD : MtR X "str.lstrip" (rM1 X.K .lstrip) := by
  intro pins s σ H x xs v us Q I rx rxs ⟨dx, ds, hx, hxs, h⟩
  simp only [meW] at h
  unfold lstripW at h
  split at h
  · rename_i a b
    obtain ⟨y, rfl, hy⟩ := hxs.one
    obtain ⟨rfl, h1⟩ := hx.strAt
    obtain ⟨rfl, _⟩ := hy.strAt
    refine mt_lstripChars pins s σ H _ _ v us Q I rx rxs ⟨_, _, rfl, rfl, by rw [str_len]; exact h1, ?_⟩
    rw [lstrip_eq]
    refine h.rep (rep_str (Nat.le_trans ?_ h1))
    rw [← drop_takeWhile, List.length_drop]
    omega
  · exact h.elim
end
end SF

/-! D4: expressions: the judgement QE (the state has given out a token) and its rules. -/
namespace SF
open PySem PySem.Spec PyProof.Rows L2

abbrev Mod0 := Hp → Hp → V → Dat → Prop
def RV (K : PySem.W.Frag) : Mod0 := fun _ H' v d => Rep K H' v d
def RB (K : PySem.W.Frag) : Mod0 := fun _ H' v d => BRep K H' v d
def ROw (K : PySem.W.Frag) : Mod0 := fun H H' v d => RO K H H' v d
/-- what stands behind an expression: n draws at most -/
def PX (X : Cx) (pins : List (Addr × Obj)) (σ : L2.St) (n : Nat) (H : Hp) (R : Mod0) (Φ : Dat → Prop) (u : Value) (s' : Shared) : Prop :=
  0 < s'.toks ∧ ∃ v H' d, L2.Inv X pins σ H' s' ∧ L2.RelV v u ∧ Step n H H' ∧ R H H' v d ∧ Φ d
def QE (X : Cx) (ex : Expr) (n : Nat) (R : Mod0) (f : Env → (Dat → Prop) → Prop) : Prop :=
  ∀ (E : Value → Shared → Prop) (pins : List (Addr × Obj)) (s : Shared) (σ : L2.St) (H : Hp) (δ : Env) (m : Nat) (Φ : Dat → Prop), 0 < s.toks → L2.Inv X pins σ H s → EnvRep X.K σ H δ → PotLe (n + m) H → f δ Φ →
    wpAny (model X.prog X.w) X.A (eval ex X.env) (PX X pins σ n H R Φ) E s
/-- a list of values -/
def PXs (X : Cx) (pins : List (Addr × Obj)) (σ : L2.St) (n : Nat) (H : Hp) (RL : Hp → List V → List Dat → Prop) (Φ : List Dat → Prop) (us : List Value) (s' : Shared) : Prop :=
  0 < s'.toks ∧ ∃ vs H' ds, L2.Inv X pins σ H' s' ∧ L2.Vals vs us ∧ Step n H H' ∧ RL H' vs ds ∧ Φ ds
def QA (X : Cx) (es : List Expr) (n : Nat) (RL : Hp → List V → List Dat → Prop) (f : Env → (List Dat → Prop) → Prop) : Prop :=
  ∀ (pos : Pos) (E : Value → Shared → Prop) (pins : List (Addr × Obj)) (s : Shared) (σ : L2.St) (H : Hp) (δ : Env) (m : Nat) (Φ : List Dat → Prop), 0 < s.toks → L2.Inv X pins σ H s → EnvRep X.K σ H δ → PotLe (n + m) H → f δ Φ →
    wpAny (model X.prog X.w) X.A (spliced (backTo pos (starEach es X.env))) (PXs X pins σ n H RL Φ) E s
/-- a test -/
def PXb (X : Cx) (pins : List (Addr × Obj)) (σ : L2.St) (n : Nat) (H : Hp) (Φ : Bool → Prop) (b : Bool) (s' : Shared) : Prop :=
  0 < s'.toks ∧ ∃ H', L2.Inv X pins σ H' s' ∧ Step n H H' ∧ Φ b
/-- .. whatever its 'whole' is -/
def QW (X : Cx) (ex : Expr) (n : Nat) (f : Env → (Bool → Prop) → Prop) : Prop :=
  ∀ (whole : Sem Value) (E : Value → Shared → Prop) (pins : List (Addr × Obj)) (s : Shared) (σ : L2.St) (H : Hp) (δ : Env) (m : Nat) (Φ : Bool → Prop), 0 < s.toks → L2.Inv X pins σ H s → EnvRep X.K σ H δ → PotLe (n + m) H → f δ Φ →
    wpAny (model X.prog X.w) X.A (isTrue ex X.env whole) (PXb X pins σ n H Φ) E s
def QT (X : Cx) (ex : Expr) (n : Nat) (f : Env → (Bool → Prop) → Prop) : Prop :=
  ∀ (E : Value → Shared → Prop) (pins : List (Addr × Obj)) (s : Shared) (σ : L2.St) (H : Hp) (δ : Env) (m : Nat) (Φ : Bool → Prop), 0 < s.toks → L2.Inv X pins σ H s → EnvRep X.K σ H δ → PotLe (n + m) H → f δ Φ →
    wpAny (model X.prog X.w) X.A (isTrue ex X.env (eval ex X.env)) (PXb X pins σ n H Φ) E s
theorem QW.t {X : Cx} {ex : Expr} {n : Nat} {f : Env → (Bool → Prop) → Prop} (h : QW X ex n f) : QT X ex n f := h _

section
variable {X : Cx}
/-- from a rule by values to what is wanted here -/
theorem px_of {α : Type} {t : Sem α} {E : Value → Shared → Prop} {s : Shared} {Q Q' : α → Shared → Prop} {A : Around} (ht : 0 < s.toks) (h : wpAny (model X.prog X.w) A t Q E s) (k : ∀ a s', 0 < s'.toks → Q a s' → Q' a s') : wpAny (model X.prog X.w) A t Q' E s :=
  wpAny_mono (wpAny_toks h) (fun a s' q => k a s' (Nat.lt_of_lt_of_le ht q.1) q.2) fun _ _ q => q.2
theorem ep_px {pins : List (Addr × Obj)} {σ : L2.St} {H H1 : Hp} {E' : Value → Shared → Prop} {n n' : Nat} {Φ : Dat → Prop} {u : Value} {s' : Shared} (ht : 0 < s'.toks) (st : Step n H H1) (hn : n ≤ n')
    (h : EP (X.wish E') pins σ (fun v H' => ∃ d, Step 0 H1 H' ∧ RO X.K H1 H' v d ∧ Φ d) u s') : PX X pins σ n' H (ROw X.K) Φ u s' := by
  obtain ⟨v, H', I, r, d, st', ro, hΦ⟩ := h
  refine ⟨ht, v, H', d, I.unwish, r, (st.trans st').mono hn, ?_, hΦ⟩
  rcases ro with ⟨a, e, hn, ow⟩ | q
  · refine .inl ⟨a, e, ?_, ow⟩
    cases q : H a with
    | none => rfl
    | some o => rcases st.ext a o q with z | ⟨_, z, y⟩ <;> simp_all
  · exact .inr q
theorem resV_ex {K : PySem.W.Frag} {H : Hp} {Φ : Dat → Prop} {d : Dat} (h : Φ d) : ResV K H (fun v H' => H' = H ∧ ∃ d, Rep K H v d ∧ Φ d) d := fun v r => ⟨rfl, d, r, h⟩
theorem res_ex {K : PySem.W.Frag} {H : Hp} {Φ : Dat → Prop} {d : Dat} (h : Φ d) : Res K H (fun v H' => ∃ d, Step 0 H H' ∧ RO K H H' v d ∧ Φ d) d := fun _ _ st ro => ⟨d, st, ro, h⟩

theorem PX.step {pins : List (Addr × Obj)} {σ : L2.St} {n n' k : Nat} {H H1 : Hp} {R : Mod0} {Φ : Dat → Prop} {u : Value} {s' : Shared} (st : Step n H H1) (hk : n + n' ≤ k) (hR : ∀ H' v d, R H1 H' v d → R H H' v d) (h : PX X pins σ n' H1 R Φ u s') : PX X pins σ k H R Φ u s' := by
  obtain ⟨h0, v, H', d, h1, h2, h3, h4, h5⟩ := h
  exact ⟨h0, v, H', d, h1, h2, (st.trans h3).mono hk, hR _ _ _ h4, h5⟩
theorem QE.le {ex : Expr} {n n' : Nat} {R : Mod0} {f : Env → (Dat → Prop) → Prop} (h : QE X ex n R f) (hn : n ≤ n') : QE X ex n' R f := fun E pins s σ H δ m Φ ht I er pl hf =>
  thn (h E pins s σ H δ m Φ ht I er (pl.mono (by omega)) hf) fun u s' q => q.step (Step.refl H) (by omega) fun _ _ _ z => z
theorem QE.b {ex : Expr} {n : Nat} {f : Env → (Dat → Prop) → Prop} (h : QE X ex n (RV X.K) f) : QE X ex n (RB X.K) f := fun E pins s σ H δ m Φ ht I er pl hf =>
  thn (h E pins s σ H δ m Φ ht I er pl hf) fun u s' ⟨h0, v, H', d, h1, h2, h3, h4, h5⟩ => ⟨h0, v, H', d, h1, h2, h3, .inl h4, h5⟩
/-- what was made is frozen -/
theorem PX.frz {pins : List (Addr × Obj)} {σ : L2.St} {n : Nat} {H : Hp} {Φ : Dat → Prop} {u : Value} {s' : Shared} (h : PX X pins σ n H (ROw X.K) Φ u s') : PX X pins σ n H (RV X.K) Φ u s' := by
  obtain ⟨h0, v, H', d, I, r, st, ro, h5⟩ := h
  rcases ro with ⟨a, rfl, hn, ow⟩ | q
  · have kept : ∀ {w : HO}, H' a = some w → Chg w → (∀ o : Obj, Rep X.K (upd H' a (.frz o w)) (.ref a) d) → PX X pins σ n H (RV X.K) Φ u s' := fun {w} e1 hw hr => by
      obtain ⟨o, I'⟩ := Inv_keep hw I e1
      refine ⟨h0, .ref a, _, d, I', r, ⟨fun b ob hb => ?_, fun m hm => ?_⟩, hr o, h5⟩
      · have nb : b ≠ a := fun z => by subst z; rw [hn] at hb; cases hb
        rcases st.ext b ob hb with q | ⟨q1, z, q2⟩
        · exact .inl (by rw [upd_ne nb]; exact q)
        · exact .inr ⟨q1, z, by rw [upd_ne nb]; exact q2⟩
      · have p := st.pot m hm
        refine ⟨p.1, fun b z hb => ?_⟩
        by_cases nb : b = a
        · subst nb; rw [upd_same] at hb; exact absurd (Option.some.inj hb) (fun q => nomatch q)
        · rw [upd_ne nb] at hb; exact p.2 b z hb
    cases d with
    | lst l =>
      obtain ⟨vs, e1, e2, e3⟩ := ow
      refine kept e1 (.inl ⟨_, rfl⟩) fun o => ?_
      rw [Rep]
      exact ⟨a, vs, rfl, ⟨o, upd_same⟩, e2, Reps.wr (.inl ⟨_, rfl⟩) _ e1 l vs e3⟩
    | dic l =>
      obtain ⟨vs, e1, e2, e3⟩ := ow
      refine kept e1 (.inr ⟨_, rfl⟩) fun o => ?_
      rw [Rep]
      exact ⟨a, vs, rfl, ⟨o, upd_same⟩, e2, RepKv.wr (.inr ⟨_, rfl⟩) _ e1 l vs e3⟩
    | _ => exact ow.elim
  · exact ⟨h0, v, H', d, I, r, st, q.2, h5⟩
theorem QE.frz {ex : Expr} {n : Nat} {f : Env → (Dat → Prop) → Prop} (h : QE X ex n (ROw X.K) f) : QE X ex n (RV X.K) f := fun E pins s σ H δ m Φ ht I er pl hf =>
  thn (h E pins s σ H δ m Φ ht I er pl hf) fun u s' q => q.frz

/-! ### leaves -/
theorem qe_const {ex : Expr} {v : V} {d : Dat} (h : ∀ X', PE X' ex (tC v) ∨ X'.env ≠ X.env) (hr : ∀ H, Rep X.K H v d) : QE X ex 0 (RV X.K) (fun _ Q => Q d) := fun E pins s σ H δ m Φ ht I er pl hf => by
  rcases h (X.wish E) with h | h
  · exact px_of ht (h.run pins s σ H (fun w H' => H' = H ∧ w = v) (I.wish E) ⟨rfl, rfl⟩) fun u s' t ⟨w, H', I', r, e1, e2⟩ => by
      subst e1 e2
      exact ⟨t, _, H', d, I'.unwish, r, Step.refl _, hr _, hf⟩
  · exact absurd rfl h
theorem qe_int {i : Int} {j : Nat} {pos : Pos} : QE X (.Constant (.int i) j pos) 0 (RV X.K) (fun _ Q => Q (.int i)) := qe_const (fun X' => .inl pe_int) fun _ => rep_int i
theorem qe_bl {i : Bool} {j : Nat} {pos : Pos} : QE X (.Constant (.bool i) j pos) 0 (RV X.K) (fun _ Q => Q (.bl i)) := qe_const (fun X' => .inl pe_bl) fun _ => rep_bl i
theorem qe_non {j : Nat} {pos : Pos} : QE X (.Constant .none j pos) 0 (RV X.K) (fun _ Q => Q .non) := qe_const (fun X' => .inl pe_non) fun _ => by rw [Rep]
theorem qe_str {x : Str} {j : Nat} {pos : Pos} {l : List Nat} (hx : x.cps.toList = l) (hl : l.length ≤ sizeLine) : QE X (.Constant (.str x) j pos) 0 (RV X.K) (fun _ Q => Q (.str l)) := by
  have e : x = ⟨l.toArray⟩ := by cases x; subst hx; simp
  subst e
  exact qe_const (fun X' => .inl pe_str) fun _ => rep_str hl
theorem qe_var {i : Nat} {x : Str} {pos : Pos} (hN : X.N[i]? = some x) (hv : Vis X.env.scope x) (hd : (x == ("__debug__" : Str)) = false) (hcd : (x == ("__classdict__" : Str)) = false) : QE X (.Name x pos) 0 (RV X.K) (fun δ Q => getV δ i Q) := fun E pins s σ H δ m Φ ht I er pl hf => by
  have hf : getV δ i Φ := hf
  unfold getV at hf
  split at hf
  · rename_i d e
    have sr := er.2 i _ e
    match q : σ[i]?, sr with
    | some (some v), sr =>
      exact px_of ht ((pe_var (X := X.wish E) (pos := pos) hN hv hd hcd).run pins s σ H (fun w H' => H' = H ∧ w = v) (I.wish E) ⟨v, q, rfl, rfl⟩) fun u s' t ⟨w, H', I', r, e1, e2⟩ => by
        subst e1 e2
        exact ⟨t, _, H', d, I'.unwish, r, Step.refl _, sr, hf⟩
  · exact hf.elim
theorem qe_obs {i : Nat} {x : Str} {pos : Pos} (hN : X.N[i]? = some x) (hv : Vis X.env.scope x) (hd : (x == ("__debug__" : Str)) = false) (hcd : (x == ("__classdict__" : Str)) = false) : QE X (.Name x pos) 0 (RB X.K) (fun δ Q => getO δ i Q) := fun E pins s σ H δ m Φ ht I er pl hf => by
  have hf : getO δ i Φ := hf
  unfold getO at hf
  split at hf
  · rename_i d e
    have sr := er.2 i _ e
    match q : σ[i]?, sr with
    | some (some v), ⟨a, ea, ow⟩ =>
      exact px_of ht ((pe_var (X := X.wish E) (pos := pos) hN hv hd hcd).run pins s σ H (fun w H' => H' = H ∧ w = v) (I.wish E) ⟨v, q, rfl, rfl⟩) fun u s' t ⟨w, H', I', r, e1, e2⟩ => by
        subst e1 e2
        exact ⟨t, _, H', d, I'.unwish, r, Step.refl _, .inr ⟨a, ea, ow⟩, hf⟩
  · exact hf.elim
theorem qe_glob {x : Str} {v : V} {d : Dat} {u : Value} {pos : Pos} (hg : Gl X x) (hm : X.mg x = some u) (r : L2.RelV v u) (hr : ∀ H, Rep X.K H v d) (hd : (x == ("__debug__" : Str)) = false) : QE X (.Name x pos) 0 (RV X.K) (fun _ Q => Q d) := fun E pins s σ H δ m Φ ht I er pl hf =>
  px_of ht (ld_glob (E := E) (Q := fun u' s' => u' = u ∧ L2.Inv X pins σ H s') I hg hm ⟨rfl, I⟩ hd) fun u' s' t ⟨e, I'⟩ => by
    subst e
    exact ⟨t, v, H, d, I', r, Step.refl _, hr _, hf⟩

/-! ### operators -/
variable {a b c : Expr} {n n' n'' : Nat} {fa fb fc : Env → (Dat → Prop) → Prop} {pos : Pos}
/-- two expressions in a row -/
theorem two {α : Type} (ha : QE X a n (RB X.K) fa) (hb : QE X b n' (RB X.K) fb) {E : Value → Shared → Prop} {pins : List (Addr × Obj)} {s : Shared} {σ : L2.St} {H : Hp} {δ : Env} {m : Nat} {Ψ : Dat → Dat → Prop} (ht : 0 < s.toks) (I : L2.Inv X pins σ H s) (er : EnvRep X.K σ H δ) (pl : PotLe (n + n' + m) H)
    (hf : fa δ fun x => fb δ fun y => Ψ x y) {Q : α → Shared → Prop} {f : Value → Value → Sem α}
    (k : ∀ v u s2 x y H2 dx dy, 0 < s2.toks → L2.Inv X pins σ H2 s2 → L2.RelV x v → L2.RelV y u → BRep X.K H2 x dx → BRep X.K H2 y dy → Step (n + n') H H2 → Ψ dx dy → wpAny (model X.prog X.w) X.A (f v u) Q E s2) :
    wpAny (model X.prog X.w) X.A (eval a X.env) (fun v s₁ => wpAny (model X.prog X.w) X.A (eval b X.env) (fun u s₂ => wpAny (model X.prog X.w) X.A (f v u) Q E s₂) E s₁) E s := by
  refine thn (ha E pins s σ H δ (n' + m) _ ht I er (pl.mono (by omega)) hf) fun v s1 ⟨t1, x, H1, dx, I1, r1, st1, b1, q1⟩ => ?_
  refine thn (hb E pins s1 σ H1 δ m _ t1 I1 (er.ext st1.ext) (st1.pot _ (pl.mono (by omega))) q1) fun u s2 ⟨t2, y, H2, dy, I2, r2, st2, b2, q2⟩ => ?_
  exact k v u s2 x y H2 dx dy t2 I2 r1 r2 (b1.ext st2.ext) b2 (st1.trans st2) q2
theorem qe_op2 (o : O2) (ha : QE X a n (RB X.K) fa) (hb : QE X b n' (RB X.K) fb) : QE X (.BinOp a (opOf o) b pos) (n + n') (ROw X.K) (fun δ Q => fa δ fun x => fb δ fun y => op2W o x y Q) := fun E pins s σ H δ m Φ ht I er pl hf => by
  refine wpAny_BinOp (two ha hb ht I er pl hf fun v u s2 x y H2 dx dy t2 I2 r1 r2 b1 b2 st q => ?_)
  exact px_of t2 (or_o2 (X := X.wish E) o pins s2 σ H2 x y v u _ (I2.wish E) r1 r2 ⟨dx, dy, b1, b2, op2W_mono o dx dy _ _ (fun d h => res_ex h) q⟩) fun w s' t h => ep_px t st (Nat.le_refl _) h
theorem qe_cmp (hu : X.A.units + 200 < cLine) (o : C2) (ha : QE X a n (RB X.K) fa) (hb : QE X b n' (RB X.K) fb) (hm : behindInMarks (cmpOf o) b = false) : QE X (.Compare a [cmpOf o] [b] pos) (n + n') (RV X.K) (fun δ Q => fa δ fun x => fb δ fun y => cmpW o x y fun k => Q (.bl k)) := fun E pins s σ H δ m Φ ht I er pl hf => by
  refine wpAny_Compare1 (two ha hb ht I er pl hf fun v u s2 x y H2 dx dy t2 I2 r1 r2 b1 b2 st q => ?_) hm
  exact px_of t2 (or_c2 (X := X.wish E) hu o pins s2 σ H2 x y v u (fun w H' => H' = H2 ∧ ∃ k, w = .bl k ∧ Φ (.bl k)) (I2.wish E) r1 r2 ⟨dx, dy, b1, b2, cmpW_mono o dx dy _ _ (fun k h => ⟨rfl, k, rfl, h⟩) q⟩) fun w s' t ⟨z, H', I', r', e1, k, e2, h⟩ => by
    subst e1 e2
    exact ⟨t, _, _, _, I'.unwish, r', st, rep_bl k, h⟩
theorem qw_cmp (hu : X.A.units + 200 < cLine) (o : C2) (ha : QE X a n (RB X.K) fa) (hb : QE X b n' (RB X.K) fb) (hm : behindInMarks (cmpOf o) b = false) : QW X (.Compare a [cmpOf o] [b] pos) (n + n') (fun δ Q => fa δ fun x => fb δ fun y => cmpW o x y Q) := fun whole E pins s σ H δ m Φ ht I er pl hf => by
  refine wpAny_isTrue_Compare1 (two ha hb ht I er pl hf fun v u s2 x y H2 dx dy t2 I2 r1 r2 b1 b2 st q => ?_) hm
  refine px_of t2 (or_c2 (X := X.wish E) hu o pins s2 σ H2 x y v u (fun w H' => H' = H2 ∧ ∃ k, w = .bl k ∧ Φ k) (I2.wish E) r1 r2 ⟨dx, dy, b1, b2, cmpW_mono o dx dy _ _ (fun k h => ⟨rfl, k, rfl, h⟩) q⟩) fun w s' t ⟨z, H', I', r', e1, k, e2, h⟩ => ?_
  subst e1 e2
  cases r'
  exact wpAny_truthy_bool ⟨t, _, I'.unwish, st, h⟩
end
end SF

/-! D4b: expressions, further. -/
namespace SF
open PySem PySem.Spec PyProof.Rows L2
section
variable {X : Cx} {a b c : Expr} {n n' n'' : Nat} {fa fb fc : Env → (Dat → Prop) → Prop} {pos : Pos}

theorem rep_none_iff {K : PySem.W.Frag} {H : Hp} {v : V} {d : Dat} (h : Rep K H v d) : decide (v = .non) = isNon d := by
  cases d <;> rw [Rep] at h
  · subst h; rfl
  · subst h; rfl
  · subst h; rfl
  · obtain ⟨rfl, _⟩ := h; rfl
  · obtain ⟨_, _, rfl, _⟩ := h; rfl
  · obtain ⟨_, _, rfl, _⟩ := h; rfl
  · obtain ⟨_, _, rfl, _⟩ := h; rfl
  · exact h.elim
  · obtain ⟨_, _, rfl, _⟩ := h; rfl
  · obtain ⟨_, rfl, _⟩ := h; rfl
theorem qe_isN {j : Nat} {p' : Pos} (ha : QE X a n (RV X.K) fa) : QE X (.Compare a [.Is] [.Constant .none j p'] pos) n (RV X.K) (fun δ Q => fa δ fun x => Q (.bl (isNon x))) := fun E pins s σ H δ m Φ ht I er pl hf => by
  refine wpAny_Compare1 (thn (ha E pins s σ H δ m _ ht I er pl hf) fun v s1 ⟨t1, x, H1, dx, I1, r1, st1, b1, q1⟩ => ?_) (nobehind _ (by decide) (by decide))
  refine Constant_none (is_none_gen ⟨t1, .bl _, H1, _, I1, ?_, st1, rep_bl _, q1⟩)
  rw [r1.none_iff, rep_none_iff b1]
  rfl
theorem qe_notN {j : Nat} {p' : Pos} (ha : QE X a n (RV X.K) fa) : QE X (.Compare a [.IsNot] [.Constant .none j p'] pos) n (RV X.K) (fun δ Q => fa δ fun x => Q (.bl (!isNon x))) := fun E pins s σ H δ m Φ ht I er pl hf => by
  refine wpAny_Compare1 (thn (ha E pins s σ H δ m _ ht I er pl hf) fun v s1 ⟨t1, x, H1, dx, I1, r1, st1, b1, q1⟩ => ?_) (nobehind _ (by decide) (by decide))
  refine Constant_none (isnot_none_gen ⟨t1, .bl _, H1, _, I1, ?_, st1, rep_bl _, q1⟩)
  rw [r1.none_iff, rep_none_iff b1]
  rfl
/-- is True, is not False, .. -/
theorem is_bool {a b : Bool} {E : Value → Shared → Prop} {s : Shared} {Q : Value → Shared → Prop} {M : Model} {A : Around} (h : Q (.bool (a == b)) s) : wpAny M A (compareOp .Is (.bool a) (.bool b)) Q E s := by
  by_cases e : a = b
  · subst e
    exact wpAny_is_self rfl (by simpa using h)
  · exact wpAny_is_other rfl (fun z => e (Value.bool.inj z)) (by rw [beq_eq_false_iff_ne.mpr e] at h; exact h)
theorem isnot_bool {a b : Bool} {E : Value → Shared → Prop} {s : Shared} {Q : Value → Shared → Prop} {M : Model} {A : Around} (h : Q (.bool (!(a == b))) s) : wpAny M A (compareOp .IsNot (.bool a) (.bool b)) Q E s := by
  by_cases e : a = b
  · subst e
    exact wpAny_isNot_self rfl (by simpa using h)
  · exact wpAny_isNot_other rfl (fun z => e (Value.bool.inj z)) (by rw [beq_eq_false_iff_ne.mpr e] at h; exact h)
theorem qe_isB0 {j : Nat} {p' : Pos} {k : Bool} (ha : QE X a n (RV X.K) fa) : QE X (.Compare a [.Is] [.Constant (.bool k) j p'] pos) n (RV X.K) (fun δ Q => fa δ fun x => boolW x fun b => Q (.bl (b == k))) := fun E pins s σ H δ m Φ ht I er pl hf => by
  refine wpAny_Compare1 (thn (ha E pins s σ H δ m _ ht I er pl hf) fun v s1 ⟨t1, x, H1, dx, I1, r1, st1, b1, q1⟩ => ?_) (nobehind _ (by decide) (by decide))
  dsimp only at q1
  unfold boolW at q1
  split at q1
  · rename_i b
    have b1 : Rep _ _ _ _ := b1
    rw [Rep] at b1
    subst b1
    obtain rfl : v = Value.bool b := r1
    refine Constant_bool (is_bool ⟨t1, .bl _, H1, _, I1, rfl, st1, rep_bl _, q1⟩)
  · exact q1.elim
theorem qe_isB1 {j : Nat} {p' : Pos} {k : Bool} (ha : QE X a n (RV X.K) fa) : QE X (.Compare a [.IsNot] [.Constant (.bool k) j p'] pos) n (RV X.K) (fun δ Q => fa δ fun x => boolW x fun b => Q (.bl (!(b == k)))) := fun E pins s σ H δ m Φ ht I er pl hf => by
  refine wpAny_Compare1 (thn (ha E pins s σ H δ m _ ht I er pl hf) fun v s1 ⟨t1, x, H1, dx, I1, r1, st1, b1, q1⟩ => ?_) (nobehind _ (by decide) (by decide))
  dsimp only at q1
  unfold boolW at q1
  split at q1
  · rename_i b
    have b1 : Rep _ _ _ _ := b1
    rw [Rep] at b1
    subst b1
    obtain rfl : v = Value.bool b := r1
    refine Constant_bool (isnot_bool ⟨t1, .bl _, H1, _, I1, rfl, st1, rep_bl _, q1⟩)
  · exact q1.elim
/-- a value that is a bool -/
theorem px_bool {pins : List (Addr × Obj)} {σ : L2.St} {H : Hp} {Ψ : Bool → Prop} {u : Value} {s' : Shared} (h : PX X pins σ n H (RV X.K) (fun d => boolW d Ψ) u s') : ∃ k, u = .bool k ∧ 0 < s'.toks ∧ ∃ H', L2.Inv X pins σ H' s' ∧ Step n H H' ∧ Ψ k := by
  obtain ⟨t, v, H', d, I, r, st, q, h⟩ := h
  unfold boolW at h
  split at h
  · rename_i k
    have q : Rep _ _ _ _ := q
    rw [Rep] at q
    subst q
    cases r
    exact ⟨k, rfl, t, H', I, st, h⟩
  · exact h.elim
/-- an expression whose value is a bool, as a test -/
theorem qt_val (h : QE X a n (RV X.K) fa) (he : ∀ whole, isTrue a X.env whole = (do let v ← whole; standAt a.pos; holding [v] (truthy v))) : QT X a n (fun δ Q => fa δ fun x => boolW x Q) := fun E pins s σ H δ m Φ ht I er pl hf => by
  refine isTrue_plain (thn (h E pins s σ H δ m _ ht I er pl hf) fun v s1 q => ?_) (he _)
  obtain ⟨k, rfl, t, H', I', st, q⟩ := px_bool q
  exact wpAny_truthy_bool ⟨t, H', I', st, q⟩
theorem qt_isB0 {j : Nat} {p' : Pos} {k : Bool} (ha : QE X a n (RV X.K) fa) : QT X (.Compare a [.Is] [.Constant (.bool k) j p'] pos) n (fun δ Q => fa δ fun x => boolW x fun b => Q ((b == k))) := fun E pins s σ H δ m Φ ht I er pl hf => by
  refine wpAny_isTrue_Compare1 (thn (ha E pins s σ H δ m _ ht I er pl hf) fun v s1 ⟨t1, x, H1, dx, I1, r1, st1, b1, q1⟩ => ?_) (nobehind _ (by decide) (by decide))
  dsimp only at q1
  unfold boolW at q1
  split at q1
  · rename_i b
    have b1 : Rep _ _ _ _ := b1
    rw [Rep] at b1
    subst b1
    obtain rfl : v = Value.bool b := r1
    refine Constant_bool (is_bool (wpAny_truthy_bool ⟨t1, H1, I1, st1, q1⟩))
  · exact q1.elim
theorem qt_isB1 {j : Nat} {p' : Pos} {k : Bool} (ha : QE X a n (RV X.K) fa) : QT X (.Compare a [.IsNot] [.Constant (.bool k) j p'] pos) n (fun δ Q => fa δ fun x => boolW x fun b => Q (!(b == k))) := fun E pins s σ H δ m Φ ht I er pl hf => by
  refine wpAny_isTrue_Compare1 (thn (ha E pins s σ H δ m _ ht I er pl hf) fun v s1 ⟨t1, x, H1, dx, I1, r1, st1, b1, q1⟩ => ?_) (nobehind _ (by decide) (by decide))
  dsimp only at q1
  unfold boolW at q1
  split at q1
  · rename_i b
    have b1 : Rep _ _ _ _ := b1
    rw [Rep] at b1
    subst b1
    obtain rfl : v = Value.bool b := r1
    refine Constant_bool (isnot_bool (wpAny_truthy_bool ⟨t1, H1, I1, st1, q1⟩))
  · exact q1.elim
theorem qt_isN {j : Nat} {p' : Pos} (ha : QE X a n (RV X.K) fa) : QT X (.Compare a [.Is] [.Constant .none j p'] pos) n (fun δ Q => fa δ fun x => Q (isNon x)) := fun E pins s σ H δ m Φ ht I er pl hf => by
  refine wpAny_isTrue_Compare1 (thn (ha E pins s σ H δ m _ ht I er pl hf) fun v s1 ⟨t1, x, H1, dx, I1, r1, st1, b1, q1⟩ => ?_) (nobehind _ (by decide) (by decide))
  refine Constant_none (is_none_gen (wpAny_truthy_bool ⟨t1, H1, I1, st1, ?_⟩))
  rw [r1.none_iff, rep_none_iff b1]
  exact q1
theorem qt_notN {j : Nat} {p' : Pos} (ha : QE X a n (RV X.K) fa) : QT X (.Compare a [.IsNot] [.Constant .none j p'] pos) n (fun δ Q => fa δ fun x => Q (!isNon x)) := fun E pins s σ H δ m Φ ht I er pl hf => by
  refine wpAny_isTrue_Compare1 (thn (ha E pins s σ H δ m _ ht I er pl hf) fun v s1 ⟨t1, x, H1, dx, I1, r1, st1, b1, q1⟩ => ?_) (nobehind _ (by decide) (by decide))
  refine Constant_none (isnot_none_gen (wpAny_truthy_bool ⟨t1, H1, I1, st1, ?_⟩))
  rw [r1.none_iff, rep_none_iff b1]
  exact q1

/-! ### and, or, not, if -/
variable {rest : List Expr} {ga gb : Env → (Bool → Prop) → Prop}
theorem qe_and (ha : QE X a n (RV X.K) fa) (hb : QE X (.BoolOp .And (b :: rest) pos) n' (RV X.K) fb) : QE X (.BoolOp .And (a :: b :: rest) pos) (n + n') (RV X.K) (fun δ Q => fa δ fun x => boolW x fun k => if k = true then fb δ Q else Q (.bl false)) := fun E pins s σ H δ m Φ ht I er pl hf => by
  refine BoolOp_and (thn (ha E pins s σ H δ (n' + m) _ ht I er (pl.mono (by omega)) hf) fun v s1 q => ?_)
  obtain ⟨k, rfl, t, H', I', st, q⟩ := px_bool q
  refine wpAny_truthy_bool ?_
  cases k with
  | true => exact thn (hb E pins s1 σ H' δ m Φ t I' (er.ext st.ext) (st.pot _ (pl.mono (by omega))) q) fun u s2 z => z.step st (Nat.le_refl _) fun _ _ _ w => w
  | false => exact ⟨t, .bl false, H', _, I', rfl, st.mono (by omega), rep_bl false, q⟩
theorem qe_or (ha : QE X a n (RV X.K) fa) (hb : QE X (.BoolOp .Or (b :: rest) pos) n' (RV X.K) fb) : QE X (.BoolOp .Or (a :: b :: rest) pos) (n + n') (RV X.K) (fun δ Q => fa δ fun x => boolW x fun k => if k = true then Q (.bl true) else fb δ Q) := fun E pins s σ H δ m Φ ht I er pl hf => by
  refine BoolOp_or (thn (ha E pins s σ H δ (n' + m) _ ht I er (pl.mono (by omega)) hf) fun v s1 q => ?_)
  obtain ⟨k, rfl, t, H', I', st, q⟩ := px_bool q
  refine wpAny_truthy_bool ?_
  cases k with
  | false => exact thn (hb E pins s1 σ H' δ m Φ t I' (er.ext st.ext) (st.pot _ (pl.mono (by omega))) q) fun u s2 z => z.step st (Nat.le_refl _) fun _ _ _ w => w
  | true => exact ⟨t, .bl true, H', _, I', rfl, st.mono (by omega), rep_bl true, q⟩
theorem qe_one {op : BoolOp} (ha : QE X a n (RV X.K) fa) : QE X (.BoolOp op [a] pos) n (RV X.K) fa := fun E pins s σ H δ m Φ ht I er pl hf => BoolOp_one (ha E pins s σ H δ m Φ ht I er pl hf)
theorem PXb.step {pins : List (Addr × Obj)} {σ : L2.St} {k : Nat} {H H1 : Hp} {Φ : Bool → Prop} {u : Bool} {s' : Shared} (st : Step n H H1) (hk : n + n' ≤ k) (h : PXb X pins σ n' H1 Φ u s') : PXb X pins σ k H Φ u s' := by
  obtain ⟨h0, H', h1, h3, h5⟩ := h
  exact ⟨h0, H', h1, (st.trans h3).mono hk, h5⟩
theorem qw_and (ha : QT X a n ga) (hb : QW X (.BoolOp .And (b :: rest) pos) n' gb) : QW X (.BoolOp .And (a :: b :: rest) pos) (n + n') (fun δ Q => ga δ fun k => if k = true then gb δ Q else Q false) := fun whole E pins s σ H δ m Φ ht I er pl hf => by
  refine isTrue_and (thn (ha E pins s σ H δ (n' + m) _ ht I er (pl.mono (by omega)) hf) fun k s1 ⟨t, H', I', st, q⟩ => ?_)
  cases k with
  | true => exact thn (hb whole E pins s1 σ H' δ m Φ t I' (er.ext st.ext) (st.pot _ (pl.mono (by omega))) q) fun u s2 z => z.step st (Nat.le_refl _)
  | false => exact ⟨t, H', I', st.mono (by omega), q⟩
theorem qw_or (ha : QT X a n ga) (hb : QW X (.BoolOp .Or (b :: rest) pos) n' gb) : QW X (.BoolOp .Or (a :: b :: rest) pos) (n + n') (fun δ Q => ga δ fun k => if k = true then Q true else gb δ Q) := fun whole E pins s σ H δ m Φ ht I er pl hf => by
  refine isTrue_or (thn (ha E pins s σ H δ (n' + m) _ ht I er (pl.mono (by omega)) hf) fun k s1 ⟨t, H', I', st, q⟩ => ?_)
  cases k with
  | false => exact thn (hb whole E pins s1 σ H' δ m Φ t I' (er.ext st.ext) (st.pot _ (pl.mono (by omega))) q) fun u s2 z => z.step st (Nat.le_refl _)
  | true => exact ⟨t, H', I', st.mono (by omega), q⟩
theorem qw_and1 (ha : QT X a n ga) : QW X (.BoolOp .And [a] pos) n ga := fun whole E pins s σ H δ m Φ ht I er pl hf => by
  refine isTrue_and (thn (ha E pins s σ H δ m _ ht I er pl hf) fun k s1 q => ?_)
  cases k with
  | true => exact isTrue_and_nil q
  | false => exact q
theorem qw_or1 (ha : QT X a n ga) : QW X (.BoolOp .Or [a] pos) n ga := fun whole E pins s σ H δ m Φ ht I er pl hf => by
  refine isTrue_or (thn (ha E pins s σ H δ m _ ht I er pl hf) fun k s1 q => ?_)
  cases k with
  | false => exact isTrue_or_nil q
  | true => exact q
theorem qt_not (ha : QT X a n ga) : QW X (.UnaryOp .Not a pos) n (fun δ Q => ga δ fun k => Q (!k)) := fun whole E pins s σ H δ m Φ ht I er pl hf => by
  exact isTrue_not (thn (ha E pins s σ H δ m _ ht I er pl hf) fun k s1 ⟨t, H', I', st, q⟩ => ⟨t, H', I', st, q⟩)
theorem qe_not (ha : QE X a n (RV X.K) fa) : QE X (.UnaryOp .Not a pos) n (RV X.K) (fun δ Q => fa δ fun x => boolW x fun k => Q (.bl (!k))) := fun E pins s σ H δ m Φ ht I er pl hf => by
  refine UnaryOp_ (thn (ha E pins s σ H δ m _ ht I er pl hf) fun v s1 q => ?_)
  obtain ⟨k, rfl, t, H', I', st, q⟩ := px_bool q
  exact not_of (wpAny_truthy_bool ⟨t, .bl (!k), H', _, I', rfl, st, rep_bl _, q⟩)
theorem qe_neg (ha : QE X a n (RV X.K) fa) : QE X (.UnaryOp .USub a pos) n (RV X.K) (fun δ Q => fa δ fun x => negW x Q) := fun E pins s σ H δ m Φ ht I er pl hf => by
  refine UnaryOp_ (thn (ha E pins s σ H δ m _ ht I er pl hf) fun v s1 ⟨t1, x, H1, dx, I1, r1, st1, b1, q1⟩ => ?_)
  replace q1 : negW dx Φ := q1
  unfold negW at q1
  split at q1
  · rename_i i
    have b1 : Rep _ _ _ _ := b1
    rw [Rep] at b1
    subst b1
    exact px_of t1 (un_neg (X := X.wish E) pins s1 σ H1 _ v (fun w H' => H' = H1 ∧ w = .int (-i)) (I1.wish E) r1 ⟨i, rfl, rfl, rfl⟩) fun w s' t ⟨z, H', I', r', e1, e2⟩ => by
      subst e1 e2
      exact ⟨t, _, _, _, I'.unwish, r', st1, rep_int _, q1⟩
  · exact q1.elim
theorem qe_ite {R : Mod0} (hR : ∀ H H1 H' v d, Ext H H1 → R H1 H' v d → R H H' v d) (hc : QT X c n gb) (ha : QE X a n' R fa) (hb : QE X b n'' R fb) : QE X (.IfExp c a b pos) (n + (n' + n'')) R (fun δ Q => gb δ fun k => if k = true then fa δ Q else fb δ Q) := fun E pins s σ H δ m Φ ht I er pl hf => by
  refine wpAny_IfExp (thn (hc E pins s σ H δ (n' + n'' + m) _ ht I er (pl.mono (by omega)) hf) fun k s1 ⟨t, H', I', st, q⟩ => ?_)
  cases k with
  | true => exact thn (ha E pins s1 σ H' δ m Φ t I' (er.ext st.ext) (st.pot _ (pl.mono (by omega))) q) fun u s2 z => z.step st (by omega) fun _ _ _ w => hR _ _ _ _ _ st.ext w
  | false => exact thn (hb E pins s1 σ H' δ m Φ t I' (er.ext st.ext) (st.pot _ (pl.mono (by omega))) q) fun u s2 z => z.step st (by omega) fun _ _ _ w => hR _ _ _ _ _ st.ext w

/-! ### chains -/
theorem qe_chain (hu : X.A.units + 200 < cLine) (o o' : C2) (ha : QE X a n (RB X.K) fa) (hb : QE X b n' (RB X.K) fb) (hc : QE X c n'' (RB X.K) fc) (hm : lastMarks [cmpOf o, cmpOf o'] [b, c] = false) :
    QE X (.Compare a [cmpOf o, cmpOf o'] [b, c] pos) (n + n' + n'') (RV X.K) (fun δ Q => fa δ fun x => fb δ fun y => cmpW o x y fun k => if k = true then fc δ fun z => cmpW o' y z fun k' => Q (.bl k') else Q (.bl false)) := fun E pins s σ H δ m Φ ht I er pl hf => by
  refine Compare_chain (thn (ha E pins s σ H δ (n' + n'' + m) _ ht I er (pl.mono (by omega)) hf) fun v s1 ⟨t1, x, H1, dx, I1, r1, st1, b1, q1⟩ => chain_link (thn (hb E pins s1 σ H1 δ (n'' + m) _ t1 I1 (er.ext st1.ext) (st1.pot _ (pl.mono (by omega))) q1) fun u s2 ⟨t2, y, H2, dy, I2, r2, st2, b2, q2⟩ => ?_)) hm
  refine px_of t2 (or_c2 (X := X.wish E) hu o pins s2 σ H2 x y v u (fun w H' => H' = H2 ∧ ∃ k, w = .bl k ∧ (if k = true then fc δ fun z => cmpW o' dy z fun k' => Φ (.bl k') else Φ (.bl false))) (I2.wish E) r1 r2 ⟨dx, dy, b1.ext st2.ext, b2, cmpW_mono o dx dy _ _ (fun k h => ⟨rfl, k, rfl, h⟩) q2⟩) fun w s3 t3 ⟨z, H3, I3, r3, e1, k, e2, q3⟩ => ?_
  subst e1 e2
  cases r3
  refine wpAny_truthy_bool ?_
  have st := st1.trans st2
  cases k with
  | false => exact ite_ff ⟨t3, .bl false, _, _, I3.unwish, rfl, st.mono (by omega), rep_bl false, q3⟩
  | true =>
    refine ite_tt (chain_last (thn (hc E pins s3 σ H3 δ m _ t3 I3.unwish (er.ext st.ext) (st.pot _ (pl.mono (by omega))) q3) fun w' s4 ⟨t4, z', H4, dz, I4, r4, st4, b4, q4⟩ => ?_))
    exact px_of t4 (or_c2 (X := X.wish E) hu o' pins s4 σ H4 y z' u w' (fun w H' => H' = H4 ∧ ∃ k, w = .bl k ∧ Φ (.bl k)) (I4.wish E) r2 r4 ⟨dy, dz, b2.ext st4.ext, b4, cmpW_mono o' dy dz _ _ (fun k h => ⟨rfl, k, rfl, h⟩) q4⟩) fun w s' t ⟨z, H', I', r', e1, k, e2, h⟩ => by
      subst e1 e2
      exact ⟨t, _, _, _, I'.unwish, r', (st.trans st4).mono (by omega), rep_bl k, h⟩

/-! ### displays, arguments -/
variable {es : List Expr} {e : Expr} {fs : Env → (List Dat → Prop) → Prop} {RL : Hp → List V → List Dat → Prop}
theorem qa_nil (h0 : ∀ H, RL H [] []) : QA X [] 0 RL (fun _ Q => Q []) := fun pos E pins s σ H δ m Φ ht I er pl hf => Calls.spliced_nil ⟨ht, [], H, [], I, .nil, Step.refl H, h0 H, hf⟩
theorem qa_cons {R : Mod0} (hc : ∀ H H' H'' v d vs ds, Ext H' H'' → R H H' v d → RL H'' vs ds → RL H'' (v :: vs) (d :: ds)) (ha : QE X e n R fa) (hr : QA X es n' RL fs) (hs : starEach (e :: es) X.env = (false, eval e X.env) :: starEach es X.env) :
    QA X (e :: es) (n + n') RL (fun δ Q => fa δ fun d => fs δ fun ds => Q (d :: ds)) := fun pos E pins s σ H δ m Φ ht I er pl hf => by
  rw [hs]
  show wpAny _ _ (spliced ((false, eval e X.env) :: backTo pos (starEach es X.env))) _ _ s
  refine Calls.spliced_cons (thn (ha E pins s σ H δ (n' + m) _ ht I er (pl.mono (by omega)) hf) fun u s1 ⟨t1, x, H1, dx, I1, r1, st1, b1, q1⟩ => ?_)
  exact thn (hr pos E pins s1 σ H1 δ m _ t1 I1 (er.ext st1.ext) (st1.pot _ (pl.mono (by omega))) q1) fun us s2 ⟨t2, vs, H2, ds, I2, r2, st2, b2, q2⟩ => ⟨t2, x :: vs, H2, dx :: ds, I2, .cons r1 r2, st1.trans st2, hc _ _ _ _ _ _ _ st2.ext b1 b2, q2⟩
abbrev RLv (K : PySem.W.Frag) : Hp → List V → List Dat → Prop := fun H vs ds => Reps K H vs ds
abbrev RLb (K : PySem.W.Frag) : Hp → List V → List Dat → Prop := fun H vs ds => BReps K H vs ds
theorem consV {K : PySem.W.Frag} : ∀ (H H' H'' : Hp) (v : V) (d : Dat) (vs : List V) (ds : List Dat), Ext H' H'' → RV K H H' v d → RLv K H'' vs ds → RLv K H'' (v :: vs) (d :: ds) := fun _ _ _ v d vs ds e h t => by
  show Reps _ _ _ _
  rw [Reps]
  exact ⟨Rep.ext e d v h, t⟩
theorem consB {K : PySem.W.Frag} : ∀ (H H' H'' : Hp) (v : V) (d : Dat) (vs : List V) (ds : List Dat), Ext H' H'' → RB K H H' v d → RLb K H'' vs ds → RLb K H'' (v :: vs) (d :: ds) := fun _ _ _ v d vs ds e h t => ⟨BRep.ext e h, t⟩
theorem nilV {K : PySem.W.Frag} : ∀ H : Hp, RLv K H [] [] := fun H => by show Reps _ _ _ _; rw [Reps]; trivial
theorem nilB {K : PySem.W.Frag} : ∀ H : Hp, RLb K H [] [] := fun H => trivial
theorem qe_tup {k : Nat} (hn : ∀ δ Q, fs δ Q → fs δ fun ds => ds.length ≤ sizeLine ∧ Q ds) (h : QA X es n (RLv X.K) fs) : QE X (.Tuple es k pos) n (RV X.K) (fun δ Q => fs δ fun ds => Q (.tup ds)) := fun E pins s σ H δ m Φ ht I er pl hf => by
  refine wpAny_Tuple_spliced (thn (h pos E pins s σ H δ m (fun ds => ds.length ≤ sizeLine ∧ Φ (.tup ds)) ht I er pl (hn _ _ hf)) fun us s1 ⟨t1, vs, H1, ds, I1, r1, st1, b1, z, q1⟩ => ⟨by rw [← r1.length, b1.length]; exact z, ?_⟩)
  have st : Step 0 H1 (upd H1 s1.heap.objs.size (.frz { cls := .type "tuple", data := .seq us.toArray } (.tup vs))) := Step.upd (I1.hok.fresh (Nat.le_refl _)) fun z e => nomatch e
  refine ⟨t1, .ref s1.heap.objs.size, _, .tup ds, Inv_tnew (t' := s1.toks) I1 r1 (by rw [b1.length]; exact z), rfl, (st1.trans st).mono (by omega), ?_, q1⟩
  show Rep _ _ _ _
  rw [Rep]
  exact ⟨_, vs, rfl, .inl ⟨_, upd_same, rfl⟩, z, Reps.ext st.ext ds vs b1⟩
theorem qe_lst (hn : ∀ δ Q, fs δ Q → fs δ fun ds => ds.length ≤ sizeLine ∧ Q ds) (h : QA X es n (RLv X.K) fs) : QE X (.List es pos) n (ROw X.K) (fun δ Q => fs δ fun ds => Q (.lst ds)) := fun E pins s σ H δ m Φ ht I er pl hf => by
  refine wpAny_List_spliced (thn (h pos E pins s σ H δ m (fun ds => ds.length ≤ sizeLine ∧ Φ (.lst ds)) ht I er pl (hn _ _ hf)) fun us s1 ⟨t1, vs, H1, ds, I1, r1, st1, b1, z, q1⟩ => ⟨by rw [← r1.length, b1.length]; exact z, ?_⟩)
  have hf : H1 s1.heap.objs.size = none := I1.hok.fresh (Nat.le_refl _)
  have st : Step 0 H1 (upd H1 s1.heap.objs.size (.lst vs)) := Step.upd hf fun z e => nomatch e
  refine ⟨t1, .ref s1.heap.objs.size, _, .lst ds, I1.lnew (t' := s1.toks) r1 (by rw [b1.length]; exact z), rfl, (st1.trans st).mono (by omega), .inl ⟨_, rfl, ?_, vs, upd_same, z, Reps.ext st.ext ds vs b1⟩, q1⟩
  cases q : H s1.heap.objs.size with
  | none => rfl
  | some o => rcases st1.ext _ o q with y | ⟨_, w, y⟩ <;> (rw [hf] at y; cases y)
end
end SF

/-! D4c: subscripts, calls of builtins, methods. -/
namespace SF
open PySem PySem.Spec PyProof.Rows L2
section
variable {X : Cx} {a b c : Expr} {n n' n'' : Nat} {fa fb fc : Env → (Dat → Prop) → Prop} {pos : Pos}
theorem qe_idx (hu : X.A.units + 2 < cLine) (hs : PlainIx b) (ha : QE X a n (RB X.K) fa) (hb : QE X b n' (RB X.K) fb) : QE X (.Subscript a b pos) (n + n') (RV X.K) (fun δ Q => fa δ fun x => fb δ fun y => idxW x y Q) := fun E pins s σ H δ m Φ ht I er pl hf => by
  refine Subscript_ (two ha hb ht I er pl hf fun v u s2 x y H2 dx dy t2 I2 r1 r2 b1 b2 st q => ?_)
  exact px_of t2 (ix_d (X := X.wish E) (by show X.A.units + 2 < cLine; exact hu) a b pins s2 σ H2 x y v u (fun w H' => H' = H2 ∧ ∃ d, Rep X.K H2 w d ∧ Φ d) (I2.wish E) r1 r2 ⟨dx, dy, b1, b2, idxW_mono dx dy _ _ (fun d h => resV_ex h) q⟩ (hs _ _)) fun w s' t ⟨z, H', I', r', e1, d, r, h⟩ => by
    subst e1
    exact ⟨t, _, _, _, I'.unwish, r', st, r, h⟩

/-- a bound of a slice -/
def PartOk (u : Value) (d : Dat) : Prop := ∀ o, partD d = some o → IsPart u o
def QP (X : Cx) (e : Option Expr) (n : Nat) (f : Env → (Dat → Prop) → Prop) : Prop :=
  ∀ (E : Value → Shared → Prop) (pins : List (Addr × Obj)) (s : Shared) (σ : L2.St) (H : Hp) (δ : Env) (m : Nat) (Φ : Dat → Prop), 0 < s.toks → L2.Inv X pins σ H s → EnvRep X.K σ H δ → PotLe (n + m) H → f δ Φ →
    wpAny (model X.prog X.w) X.A (evalPart e X.env) (fun u s' => 0 < s'.toks ∧ ∃ H' d, L2.Inv X pins σ H' s' ∧ Step n H H' ∧ PartOk u d ∧ Φ d) E s
theorem qp_none : QP X none 0 (fun _ Q => Q .non) := fun E pins s σ H δ m Φ ht I er pl hf => by
  rw [evalPart_none]
  refine wpAny_pure ⟨ht, H, .non, I, Step.refl H, fun o e => ?_, hf⟩
  cases Option.some.inj e
  exact .none
theorem qp_some (h : QE X a n (RV X.K) fa) : QP X (some a) n fa := fun E pins s σ H δ m Φ ht I er pl hf => by
  rw [evalPart_some]
  refine thn (h E pins s σ H δ m _ ht I er pl hf) fun u s1 ⟨t1, x, H1, d, I1, r1, st1, b1, q1⟩ => ⟨t1, H1, d, I1, st1, fun o e => ?_, q1⟩
  have b1 : Rep _ _ _ _ := b1
  cases d with
  | non =>
    rw [Rep] at b1
    subst b1
    cases r1
    cases Option.some.inj e
    exact .none
  | int i =>
    rw [Rep] at b1
    subst b1
    obtain ⟨t, rfl⟩ := r1
    cases Option.some.inj e
    exact .int i t
  | _ => cases e
variable {lo hi : Option Expr} {p2 : Pos}
theorem sliceO_mono (x : Dat) (l h : Option Int) : Mono (sliceO x l h) := by
  intro P Q k hp
  unfold sliceO at hp ⊢
  split at hp <;> first | exact k _ hp | exact hp.elim
theorem qe_slc (ha : QE X a n (RB X.K) fa) (hl : QP X lo n' fb) (hu : QP X hi n'' fc) : QE X (.Subscript a (.Slice lo hi none p2) pos) (n + n' + n'') (ROw X.K) (fun δ Q => fa δ fun x => fb δ fun l => fc δ fun h => sliceW x l h Q) := fun E pins s σ H δ m Φ ht I er pl hf => by
  refine Subscript_ (thn (ha E pins s σ H δ (n' + n'' + m) _ ht I er (pl.mono (by omega)) hf) fun v s1 ⟨t1, x, H1, dx, I1, r1, st1, b1, q1⟩ => ?_)
  refine wpAny_Slice (thn (hl E pins s1 σ H1 δ (n'' + m) _ t1 I1 (er.ext st1.ext) (st1.pot _ (pl.mono (by omega))) q1) fun vl s2 ⟨t2, H2, dl, I2, st2, o2, q2⟩ => thn (hu E pins s2 σ H2 δ m _ t2 I2 (er.ext (st1.trans st2).ext) ((st1.trans st2).pot _ (pl.mono (by omega))) q2) fun vu s3 ⟨t3, H3, du, I3, st3, o3, q3⟩ => ?_)
  rw [evalPart_none]
  refine wpAny_pure ?_
  obtain ⟨l, h, e1, e2, q⟩ := sliceW_parts q3
  have I4 : L2.Inv X pins σ H3 { s3 with heap := s3.heap.push { cls := .type "slice", data := .fields #[vl, vu, .none] } } := I3.kept (t' := s3.toks) fun b ob q => Heap.get?_push_of_some _ q
  obtain ⟨T, id, hT, hty, hg⟩ := sl_d (X := X.wish E) pins { s3 with heap := s3.heap.push { cls := .type "slice", data := .fields #[vl, vu, .none] } } σ H3 x v vl vu l h s3.heap.objs.size _ (I4.wish E) r1 (Heap.IsSliceOf.new ..) (o2 _ e1) (o3 _ e2) ⟨dx, b1.ext (st2.trans st3).ext, sliceO_mono dx l h _ _ (fun d h => res_ex h) q⟩
  show wpAny (model X.prog X.w) X.A (subscriptTail a (.Slice lo hi none p2) v (.ref s3.heap.objs.size)) _ E { s3 with heap := s3.heap.push { cls := .type "slice", data := .fields #[vl, vu, .none] } }
  refine px_of (s := { s3 with heap := s3.heap.push { cls := .type "slice", data := .fields #[vl, vu, .none] } }) t3 (tail_any (ops := [.ref s3.heap.objs.size, v]) hty hT hg (by with_unfolding_all rfl)) fun w s' t h => ep_px t ((st1.trans st2).trans st3) (by omega) h

theorem qe_slcS (ha : QE X a n (RB X.K) fa) (hk : QE X b n' (RV X.K) fb) : QE X (.Subscript a (.Slice none none (some b) p2) pos) (n + n') (ROw X.K) (fun δ Q => fa δ fun x => fb δ fun y => slcS x y Q) := fun E pins s σ H δ m Φ ht I er pl hf => by
  refine Subscript_ (thn (ha E pins s σ H δ (n' + m) _ ht I er (pl.mono (by omega)) hf) fun v s1 ⟨t1, x, H1, dx, I1, r1, st1, b1, q1⟩ => ?_)
  refine wpAny_Slice ?_
  rw [evalPart_none]
  refine wpAny_pure (wpAny_pure (thn ((qp_some hk) E pins s1 σ H1 δ m _ t1 I1 (er.ext st1.ext) (st1.pot _ (pl.mono (by omega))) q1) fun vk s2 ⟨t2, H2, dk, I2, st2, o2, q2⟩ => ?_))
  obtain ⟨k, rfl, q⟩ := q2
  have I4 : L2.Inv X pins σ H2 { s2 with heap := s2.heap.push { cls := .type "slice", data := .fields #[.none, .none, vk] } } := I2.kept (t' := s2.toks) fun b ob q => Heap.get?_push_of_some _ q
  obtain ⟨T, id, hT, hty, hg⟩ := sl_s (X := X.wish E) (I4.wish E) r1 (Heap.IsSliceOf.new ..) (o2 _ rfl) (b1.ext st2.ext) (slcSO_mono dx k _ _ (fun d h => res_ex h) q)
  show wpAny (model X.prog X.w) X.A (subscriptTail a (.Slice none none (some b) p2) v (.ref s2.heap.objs.size)) _ E { s2 with heap := s2.heap.push { cls := .type "slice", data := .fields #[.none, .none, vk] } }
  refine px_of (s := { s2 with heap := s2.heap.push { cls := .type "slice", data := .fields #[.none, .none, vk] } }) t2 (tail_any (ops := [v, .ref s2.heap.objs.size]) hty hT hg (by with_unfolding_all rfl)) fun w s' t h => ep_px t (st1.trans st2) (by omega) h

/-! ### builtins -/
variable {e : Expr} {es : List Expr} {fs : Env → (List Dat → Prop) → Prop} {RL : Hp → List V → List Dat → Prop} {x : Str} {p : Pos}
/-- a call of a builtin by values: RL what stands for the arguments -/
theorem qe_call {u : Value} {r : List V → Hp → VK → Prop} {W : List Dat → (Dat → Prop) → Prop} {R : Mod0} (hc : ∀ E, CallR (X.wish E) u r) (hT : (∃ id, u = .builtin id) ∨ ∃ T, u = .type T) (hg : Gl X x) (hm : X.mg x = none) (hv : bootBuiltins x = some u)
    (hr : ∀ (pins : List (Addr × Obj)) (σ : L2.St) (E' : Value → Shared → Prop) (H H1 : Hp) (vs : List V) (ds : List Dat) (Φ : Dat → Prop), Step n H H1 → RL H1 vs ds → W ds Φ → ∃ Q : VK, r vs H1 Q ∧ ∀ w s', 0 < s'.toks → EP (X.wish E') pins σ Q w s' → PX X pins σ n H R Φ w s')
    (ha : QA X (e :: es) n RL fs) (hn : x ≠ "__name__") (hdb : (x == ("__debug__" : Str)) = false)
    (he : starEach (e :: es) X.env = (false, eval e X.env) :: starEach es X.env) (hpl : (backTo pos (starEach es X.env)).any (·.1) = false) : QE X (.Call (.Name x p) (e :: es) [] pos) n R (fun δ Q => fs δ fun ds => W ds Q) := fun E pins s σ H δ m Φ ht I er pl hf => by
  refine wpAny_Call_Name_kw (ld_blt I hg hm hv ?_ hn hdb)
  have fin : wpAny (model X.prog X.w) X.A (spliced (backTo pos (starEach (e :: es) X.env))) (fun vs s₁ => wpAny (model X.prog X.w) X.A (call u vs) (PX X pins σ n H R Φ) E s₁) E s :=
    thn (ha pos E pins s σ H δ m _ ht I er pl hf) fun us s1 ⟨t1, vs, H1, ds, I1, r1, st1, b1, q1⟩ => by
      obtain ⟨Q, hq, hk⟩ := hr pins σ E H H1 vs ds Φ st1 b1 q1
      exact px_of t1 (hc E pins s1 σ H1 vs us Q (I1.wish E) r1 hq) fun w s' t h => hk w s' t h
  rcases hT with ⟨id, rfl⟩ | ⟨T, rfl⟩
  · exact PyProof.Rows.callWith_builtin1 fin he hpl
  · exact PyProof.Rows.callWith_type1 fin he hpl
def b1V : B1 → Option Value
  | .len => some (.builtin "len") | .abs => some (.builtin "abs") | .all => some (.builtin "all") | .any => some (.builtin "any")
  | .max => some (.builtin "max") | .min => some (.builtin "min") | .sorted => some (.builtin "sorted") | .repr => some (.builtin "repr")
  | .tuple => some (.type "tuple") | .list => some (.type "list") | .int => some (.type "int") | _ => none
def b1N : B1 → Str
  | .len => "len" | .abs => "abs" | .all => "all" | .any => "any" | .max => "max" | .min => "min" | .sorted => "sorted" | .repr => "repr"
  | .tuple => "tuple" | .list => "list" | .int => "int" | .str => "str" | .bool => "bool" | .dict => "dict"
theorem b1_callR (hu : X.A.units + 300 < cLine) (hg : X.A.guards = some []) (hc : X.calm = true) (b : B1) (u : Value) (h : b1V b = some u) (E : Value → Shared → Prop) : CallR (X.wish E) u (rB1 X.K b) := by
  cases b <;> simp only [b1V, Option.some.injEq, reduceCtorEq] at h <;> subst h <;> first
    | exact cr_len (X := X.wish E)
    | exact cr_abs (X := X.wish E)
    | exact cr_allD (X := X.wish E) hc
    | exact cr_anyD (X := X.wish E) hc
    | exact cr_maxD (X := X.wish E) hc
    | exact cr_minD (X := X.wish E) hc
    | exact cr_sortedD (X := X.wish E) (by show X.A.units + 200 < cLine; omega)
    | exact cr_reprD (X := X.wish E) (by show X.A.units + 200 < cLine; omega) hg
    | exact cr_tupleD (X := X.wish E)
    | exact cr_listD (X := X.wish E)
    | exact cr_intD (X := X.wish E)
theorem qe_bi (hu : X.A.units + 300 < cLine) (hgu : X.A.guards = some []) (hc : X.calm = true) (b : B1) (u : Value) (hb : b1V b = some u) (hx : x = b1N b) (hg : Gl X x) (hm : X.mg x = none) (hv : bootBuiltins x = some u)
    (ha : QA X (e :: es) n (RLb X.K) fs) (he : starEach (e :: es) X.env = (false, eval e X.env) :: starEach es X.env) (hpl : (backTo pos (starEach es X.env)).any (·.1) = false) : QE X (.Call (.Name x p) (e :: es) [] pos) n (ROw X.K) (fun δ Q => fs δ fun ds => biW b ds Q) := by
  refine qe_call (r := rB1 X.K b) (fun E => b1_callR hu hgu hc b u hb E) ?_ hg hm hv (fun pins σ E' H H1 vs ds Φ st rl q => ⟨_, ⟨ds, rl, biW_mono b ds _ _ (fun d h => res_ex h) q⟩, fun w s' t h => ep_px t st (Nat.le_refl _) h⟩) ha ?_ ?_ he hpl
  · cases b <;> simp only [b1V, Option.some.injEq, reduceCtorEq] at hb <;> subst hb <;> first | exact .inl ⟨_, rfl⟩ | exact .inr ⟨_, rfl⟩
  · subst hx; cases b <;> decide
  · subst hx; cases b <;> decide

/-- isinstance(a, T) -/
def RT (T : String) : Mod0 := fun _ _ v d => v = .ty T ∧ d = .non
theorem qe_ty {T : String} (hg : Gl X x) (hm : X.mg x = none) (hv : bootBuiltins x = some (.type T)) (hn : x ≠ "__name__") (hdb : (x == ("__debug__" : Str)) = false) : QE X (.Name x p) 0 (RT T) (fun _ Q => Q .non) := fun E pins s σ H δ m Φ ht I er pl hf =>
  ld_blt I hg hm hv ⟨ht, .ty T, H, .non, I, rfl, Step.refl H, ⟨rfl, rfl⟩, hf⟩ hn hdb
abbrev RLi (K : PySem.W.Frag) (T : String) : Hp → List V → List Dat → Prop := fun H vs ds => ∃ v d, vs = [v, .ty T] ∧ ds = [d] ∧ Rep K H v d
theorem qa_isi {T : String} {y : Str} {py : Pos} (ha : QE X a n (RV X.K) fa) (hy : QE X (.Name y py) 0 (RT T) (fun _ Q => Q .non)) (hs : starEach [a, .Name y py] X.env = (false, eval a X.env) :: starEach [.Name y py] X.env) (hs2 : starEach [.Name y py] X.env = (false, eval (.Name y py) X.env) :: starEach [] X.env) :
    QA X [a, .Name y py] n (RLi X.K T) (fun δ Q => fa δ fun d => Q [d]) := fun pos E pins s σ H δ m Φ ht I er pl hf => by
  rw [hs, hs2]
  show wpAny _ _ (spliced ((false, eval a X.env) :: (false, eval (.Name y py) X.env) :: backTo pos (starEach [] X.env))) _ _ s
  refine Calls.spliced_cons (thn (ha E pins s σ H δ m _ ht I er pl hf) fun u s1 ⟨t1, x, H1, dx, I1, r1, st1, b1, q1⟩ => ?_)
  refine Calls.spliced_cons (thn (hy E pins s1 σ H1 δ 0 (fun _ => True) t1 I1 (er.ext st1.ext) (st1.pot _ (pl.mono (by omega))) trivial) fun u2 s2 ⟨t2, y, H2, dy, I2, r2, st2, b2, _⟩ => ?_)
  obtain ⟨rfl, _⟩ := b2
  exact Calls.spliced_nil ⟨t2, [x, .ty T], H2, [dx], I2, .cons r1 (.cons r2 .nil), (st1.trans st2).mono (by omega), ⟨x, dx, rfl, rfl, Rep.ext st2.ext _ _ b1⟩, q1⟩
def isiW (t : Ty) (l : List Dat) (Q : Dat → Prop) : Prop :=
  match l with
  | [d] => isiOk d = true ∧ Q (.bl (isiD d t))
  | _ => False
theorem qe_isi (t : Ty) {y : Str} {py : Pos} (hx : x = "isinstance") (hg : Gl X x) (hm : X.mg x = none) (ha : QE X a n (RV X.K) fa) (hy : QE X (.Name y py) 0 (RT (tyOf t)) (fun _ Q => Q .non))
    (hs : starEach [a, .Name y py] X.env = (false, eval a X.env) :: starEach [.Name y py] X.env) (hs2 : starEach [.Name y py] X.env = (false, eval (.Name y py) X.env) :: starEach [] X.env) (hpl : (backTo pos (starEach [.Name y py] X.env)).any (·.1) = false) :
    QE X (.Call (.Name x p) [a, .Name y py] [] pos) n (RV X.K) (fun δ Q => fa δ fun d => isiOk d = true ∧ Q (.bl (isiD d t))) := by
  subst hx
  refine qe_call (u := .builtin "isinstance") (r := fun vs H Q => ∃ v d, vs = [v, .ty (tyOf t)] ∧ Rep X.K H v d ∧ isiOk d = true ∧ Q (.bl (isiD d t)) H) (W := isiW t) (fun E => cr_isi (X := X.wish E) t) (.inl ⟨_, rfl⟩) hg hm PyProof.Rows.boot_isinstance (fun pins σ E' H H1 vs ds Φ st ⟨v, d, e1, e2, rd⟩ q => ?_) (qa_isi ha hy hs hs2) (by decide) (by decide) hs hpl
  subst e1 e2
  have q : isiOk d = true ∧ Φ (.bl (isiD d t)) := q
  refine ⟨fun w H' => H' = H1 ∧ w = .bl (isiD d t), ⟨v, d, rfl, rd, q.1, rfl, rfl⟩, fun w s' t ⟨z, H', I', r', e1, e2⟩ => ?_⟩
  subst e1 e2
  exact ⟨t, _, _, _, I'.unwish, r', st, rep_bl _, q.2⟩

/-! ### methods -/
variable {o : Expr} {fo : Env → (Dat → Prop) → Prop} {apos cpos : Pos}
def m1N : M1 → Str
  | .index => "index" | .join => "join" | .lstrip => "lstrip" | .replace => "replace" | .get => "get" | .upper => "upper" | .count => "count" | .split => "split" | .partition => "partition" | .startswith => "startswith"
def meT (m : M1) (d : Dat) : String :=
  match m, d with
  | .index, .lst _ => "list"
  | .index, _ => "tuple"
  | _, _ => "str"
def meId (m : M1) (d : Dat) : String :=
  match m, d with
  | .index, .lst _ => "list.index"
  | .index, _ => "tuple.index"
  | .join, _ => "str.join"
  | .lstrip, _ => "str.lstrip"
  | .replace, _ => "str.replace"
  | _, _ => ""
/-- a method called on a value: what is to be known of it -/
structure MetR (X : Cx) (m : M1) (d : Dat) : Prop where
  pa : PlainAttrs (meT m d)
  slot : PySem.Slot (meT m d) (m1N m) (meId m d)
  ty : typeOf (.builtin (meId m d)) = pure (.type "method_descriptor")
  run : MtR X (meId m d) (fun x xs H Q => ∃ ds, BRep X.K H x d ∧ BReps X.K H xs ds ∧ meW m d ds (Res X.K H Q))
theorem met_join {d : Dat} (ok : meOk .join d = true) : MetR X .join d := by
  cases d <;> simp only [meOk, Bool.false_eq_true] at ok
  exact ⟨PySem.F.plainAttrs_str, PySem.F.slot_str_join, PySem.F.type_str_join, fun pins s σ H x xs v us Q I rx rxs ⟨ds, h1, h2, h3⟩ => mt_joinD pins s σ H x xs v us Q I rx rxs ⟨_, ds, h1, h2, h3⟩⟩
theorem met_lstrip {d : Dat} (ok : meOk .lstrip d = true) : MetR X .lstrip d := by
  cases d <;> simp only [meOk, Bool.false_eq_true] at ok
  exact ⟨PySem.F.plainAttrs_str, PySem.F.slot_str_lstrip, PySem.F.type_str_lstrip, fun pins s σ H x xs v us Q I rx rxs ⟨ds, h1, h2, h3⟩ => mt_lstripD pins s σ H x xs v us Q I rx rxs ⟨_, ds, h1, h2, h3⟩⟩
theorem met_index (hu : X.A.units + 300 < cLine) {d : Dat} (ok : meOk .index d = true) : MetR X .index d := by
  cases d <;> simp only [meOk, Bool.false_eq_true] at ok
  · rename_i l
    refine ⟨PySem.F.plainAttrs_tuple, PySem.F.slot_tuple_index, PySem.F.type_tuple_index, fun pins s σ H x xs v us Q I rx rxs ⟨ds, h1, h2, h3⟩ => ?_⟩
    have h4 : indexW (.tup l) ds (Res X.K H Q) := h3
    match ds, h2, h4 with
    | [e], h2, h4 => exact mt_indexT hu pins s σ H x xs v us Q I rx rxs ⟨l, e, h1, h2, h4⟩
  · rename_i l
    refine ⟨PySem.F.plainAttrs_list, PySem.F.slot_list_index, PySem.F.type_list_index, fun pins s σ H x xs v us Q I rx rxs ⟨ds, h1, h2, h3⟩ => ?_⟩
    have h4 : indexW (.lst l) ds (Res X.K H Q) := h3
    match ds, h2, h4 with
    | [e], h2, h4 => exact mt_indexL hu pins s σ H x xs v us Q I rx rxs ⟨l, e, h1, h2, h4⟩
/-- a frozen or written tuple, a list: of its type, with no dict -/
theorem me_type {pins : List (Addr × Obj)} {s : Shared} {σ : L2.St} {H : Hp} {v : V} {u : Value} {m : M1} {d : Dat} (I : L2.Inv X pins σ H s) (r : L2.RelV v u) (b : BRep X.K H v d) (ok : meOk m d = true) :
    s.TypeIs u (meT m d) ∧ (∀ a, u = .ref a → ∃ o, s.heap.get? a = some o ∧ o.dict = none) := by
  have key : (∃ l, d = .tup l) ∨ (∃ l, d = .lst l) ∨ ∃ l, d = .str l := by
    cases d <;> first | exact .inl ⟨_, rfl⟩ | exact .inr (.inl ⟨_, rfl⟩) | exact .inr (.inr ⟨_, rfl⟩) | (cases m <;> simp only [meOk, Bool.false_eq_true] at ok)
  rcases key with ⟨l, rfl⟩ | ⟨l, rfl⟩ | ⟨l, rfl⟩
  · have e : meT m (.tup l) = "tuple" := by cases m <;> first | rfl | (simp only [meOk, Bool.false_eq_true] at ok)
    rw [e]
    obtain ⟨a, vs, rfl, h1, h2, h3⟩ := b.tupAt
    cases r
    rcases h1 with ⟨o, h1, h4⟩ | ⟨o, its, k, h1, h4, h5, h6⟩
    · obtain ⟨h5, _, its, _, q⟩ := I.hok a _ h1
      obtain ⟨ob, q1, q2, q3⟩ := q
      rw [h5] at q1; cases q1
      exact ⟨⟨o, h5, q2⟩, fun b e => by cases e; exact ⟨o, h5, h4⟩⟩
    · have h7 := I.kIn a o h1
      exact ⟨⟨o, h7, h4⟩, fun b e => by cases e; exact ⟨o, h7, h5⟩⟩
  · have e : meT m (.lst l) = "list" := by cases m <;> first | rfl | (simp only [meOk, Bool.false_eq_true] at ok)
    rw [e]
    obtain ⟨a, vs, rfl, h1, h2, h3⟩ := b.lstAt
    cases r
    obtain ⟨z, its, k, _, q⟩ := h1.ok I.hok
    exact ⟨⟨_, q, rfl⟩, fun b e => by cases e; exact ⟨_, q, rfl⟩⟩
  · have e : meT m (.str l) = "str" := by cases m <;> first | rfl | (simp only [meOk, Bool.false_eq_true] at ok)
    rw [e]
    obtain ⟨rfl, _⟩ := b.strAt
    obtain ⟨t, rfl⟩ := r
    exact ⟨typeIs_str _ _ _, fun a e => nomatch e⟩
theorem qe_me {m1 : M1} {nm : Str} (hnm : nm = m1N m1) (hm : ∀ E d, meOk m1 d = true → MetR (X.wish E) m1 d) (ho : QE X o n (RB X.K) fo) (ha : QA X (e :: es) n' (RLb X.K) fs)
    (hbase : attributeBase o nm X.env (eval o X.env) = eval o X.env)
    (hfew : ((backTo cpos (starEach (e :: es) X.env)).all (fun x => !x.1) && (backToKw cpos (keywordEach [] X.env)).all (fun x => x.1.isSome)
      && decide ((e :: es).length + ([] : List Keyword).length + (if ([] : List Keyword).isEmpty then 0 else 1) < 30)) = true)
    (hline : (apos.endLine == cpos.line) = true) (hs : starEach (e :: es) X.env = (false, eval e X.env) :: starEach es X.env) (hpl : (backTo cpos (starEach es X.env)).any (·.1) = false) :
    QE X (.Call (.Attribute o nm apos) (e :: es) [] cpos) (n + n') (ROw X.K) (fun δ Q => fo δ fun x => meOk m1 x = true ∧ fs δ fun ds => meW m1 x ds Q) := fun E pins s σ H δ m Φ ht I er pl hf => by
  subst hnm
  refine wpAny_Call_method_late hbase hfew hline rfl (thn (ho E pins s σ H δ (n' + m) _ ht I er (pl.mono (by omega)) hf) fun v s1 ⟨t1, x, H1, dx, I1, r1, st1, b1, ok, q1⟩ => ?_)
  obtain ⟨pa, slot, hty, run⟩ := hm E dx ok
  obtain ⟨h1, h2⟩ := me_type I1 r1 b1 ok
  refine ⟨_, _, pa, slot, hty, h1, h2, ?_⟩
  have hA := ha cpos E pins s1 σ H1 δ m _ t1 I1 (er.ext st1.ext) (st1.pot _ (pl.mono (by omega))) q1
  rw [hs] at hA ⊢
  refine Calls.callWith_builtin (by show (false || (backTo cpos (starEach es X.env)).any (·.1)) = false; rw [hpl] <;> rfl) (Calls.evalArgs_plain ?_)
  refine thn hA fun us s2 ⟨t2, vs, H2, ds, I2, r2, st2, b2, q2⟩ => ?_
  exact px_of t2 (run pins s2 σ H2 x vs v us _ (I2.wish E) r1 r2 ⟨ds, b1.ext st2.ext, b2, meW_mono m1 dx ds _ _ (fun d h => res_ex h) q2⟩) fun w s' t h => ep_px t (st1.trans st2) (Nat.le_refl _) h
/-- o.replace(one sign, a text), both written -/
theorem repl_one (a : Nat) (t : List Nat) : ∀ s : List Nat, StrLaws.replL [a] t s = s.flatMap fun c => if c = a then t else [c]
  | [] => by rw [StrLaws.replL_nil]; rfl
  | c :: r => by
    by_cases h : c = a
    · subst h
      rw [StrLaws.replL_hit (by simp) (by simp), List.flatMap_cons, if_pos rfl, ← repl_one c t r]
      rfl
    · rw [StrLaws.replL_miss (by simp [h]), List.flatMap_cons, if_neg h, ← repl_one a t r]
      rfl
theorem replaceW_inv {d : Dat} {ya zl : List Nat} {Q : Dat → Prop} (h : replaceW d [.str ya, .str zl] Q) : ∃ s a, d = .str s ∧ ya = [a] ∧ (zl ≠ [a] ∧ s.length + (s.length + 1) * zl.length ≤ big) ∧ Q (.str (s.flatMap fun c => if c = a then zl else [c])) := by
  cases d <;> first
    | exact h.elim
    | (match ya, h with
        | [a], h => exact ⟨_, a, rfl, rfl, h⟩)
theorem qe_replace {y z : Str} {j k : Nat} {c0 c1 : Pos} {ya zl : List Nat} (hy : y.cps.toList = ya) (hz : z.cps.toList = zl) (ho : QE X o n (RB X.K) fo)
    (hst : starEach [.Constant (.str y) j c0, .Constant (.str z) k c1] X.env = [(false, eval (.Constant (.str y) j c0) X.env), (false, eval (.Constant (.str z) k c1) X.env)])
    (hbase : attributeBase o "replace" X.env (eval o X.env) = eval o X.env) (hline : (apos.endLine == cpos.line) = true) :
    QE X (.Call (.Attribute o "replace" apos) [.Constant (.str y) j c0, .Constant (.str z) k c1] [] cpos) n (ROw X.K) (fun δ Q => fo δ fun x => meOk .replace x = true ∧ meW .replace x [.str ya, .str zl] Q) := fun E pins s σ H δ m Φ ht I er pl hf => by
  refine PySem.Call_method2 hbase hst hline (thn (ho E pins s σ H δ m _ ht I er pl hf) fun v s1 ⟨t1, x, H1, dx, I1, r1, st1, b1, ok, q1⟩ => ?_)
  have q1 : replaceW dx [.str ya, .str zl] Φ := q1
  obtain ⟨s0, a, rfl, rfl, ⟨q1, q2⟩, q3⟩ := replaceW_inv q1
  obtain ⟨rfl, hs0⟩ := b1.strAt
  obtain ⟨tx, rfl⟩ := r1
  have hyz : (y == z) = false := by
    cases hb : y == z with
    | false => rfl
    | true =>
      have e : y = z := by simpa using hb
      subst e
      exact absurd (hz.symm.trans hy) q1
  have hy1 : 1 ≤ y.length := by
    have : y.cps.toList.length = y.length := by simp [Str.length]
    rw [hy] at this
    simp at this
    omega
  have hzl : z.length = zl.length := by rw [← hz]; simp [Str.length]
  have hrep : Txt.replace ⟨s0.toArray⟩ y z = ⟨(s0.flatMap fun c => if c = a then zl else [c]).toArray⟩ := by
    have e := StrLaws.replace_list (x := ⟨s0.toArray⟩) (z := z) hy1
    rw [hy, hz] at e
    simp only [List.toList_toArray] at e
    rw [repl_one] at e
    rw [← e]
  have hbnd : (⟨s0.toArray⟩ : Str).length + ((⟨s0.toArray⟩ : Str).length + 1) * z.length ≤ 16777216 := by rw [str_len, hzl]; exact q2
  refine ⟨"str", _, PySem.F.plainAttrs_str, PySem.F.slot_str_replace, PySem.F.type_str_replace, typeIs_str _ _ _, (fun _ e => nomatch e), Calls.callWith_builtin rfl (Calls.evalArgs_plain (Calls.spliced_cons ?_))⟩
  refine Calls.Constant_str (Calls.spliced_cons (Calls.Constant_str (Calls.spliced_nil ?_)))
  have fin : wpAny (model X.prog X.w) X.A (call (.builtin "str.replace") [.str ⟨s0.toArray⟩ tx, .str y s1.toks, .str z (s1.toks + 1)]) (EP (X.wish E) pins σ fun v H' => ∃ d, Step 0 H1 H' ∧ RO X.K H1 H' v d ∧ Φ d) E { s1 with toks := s1.toks + 1 + 1 } := by
    refine PySem.SC.replace (by show s1.toks ≠ 0; omega) (by show s1.toks + 1 ≠ 0; omega) (by show s1.toks ≠ s1.toks + 1; omega) hyz hbnd fun t' k => ⟨.str (Txt.replace ⟨s0.toArray⟩ y z), H1, (I1.tok k).wish E, ⟨t', rfl⟩, _, Step.refl _, .inr ⟨rfl, ?_⟩, q3⟩
    rw [hrep]
    refine rep_str ?_
    have := TK.replace_len ⟨s0.toArray⟩ y z
    rw [hrep, str_len] at this
    exact Nat.le_trans this hbnd
  exact px_of (s := { s1 with toks := s1.toks + 1 + 1 }) (by show 0 < s1.toks + 1 + 1; omega) fin fun w s' t h => ep_px t st1 (by omega) h
end
end SF

/-! D4d: targets. -/
namespace SF
open PySem PySem.Spec PyProof.Rows L2

/-! ### slots wiped -/
theorem wipe_get (σ : L2.St) : ∀ (vs : List Nat) (j : Nat), (wipe σ vs)[j]? = if j ∈ vs ∧ j < σ.length then some none else σ[j]?
  | [], j => by simp [wipe]
  | v :: vs, j => by
    unfold wipe
    rw [List.getElem?_set, wipe_get σ vs j, wipe_length]
    by_cases h : v = j
    · subst h
      by_cases h2 : v < σ.length
      · simp [h2]
      · simp [h2, List.getElem?_eq_none (Nat.le_of_not_lt h2)]
    · have h' : ¬ j = v := fun e => h e.symm
      simp [h, h']
theorem wipeD_length (δ : Env) : ∀ vs : List Nat, (wipeD δ vs).length = δ.length
  | [] => rfl
  | v :: vs => by unfold wipeD; rw [List.length_set, wipeD_length δ vs]
theorem wipeD_get (δ : Env) : ∀ (vs : List Nat) (j : Nat), (wipeD δ vs)[j]? = if j ∈ vs ∧ j < δ.length then some .no else δ[j]?
  | [], j => by simp [wipeD]
  | v :: vs, j => by
    unfold wipeD
    rw [List.getElem?_set, wipeD_get δ vs j, wipeD_length]
    by_cases h : v = j
    · subst h
      by_cases h2 : v < δ.length
      · simp [h2]
      · simp [h2, List.getElem?_eq_none (Nat.le_of_not_lt h2)]
    · have h' : ¬ j = v := fun e => h e.symm
      simp [h, h']
theorem wipe_set {σ : L2.St} {i : Nat} {x : Option V} {vs : List Nat} (h : i ∈ vs) : wipe (σ.set i x) vs = wipe σ vs := by
  apply List.ext_getElem?
  intro j
  rw [wipe_get, wipe_get, List.length_set, List.getElem?_set]
  by_cases e : i = j
  · subst e
    by_cases h2 : i < σ.length
    · simp [h, h2]
    · simp [h2]
  · simp [e]
theorem wipe_wipe (σ : L2.St) (vs : List Nat) : wipe (wipe σ vs) vs = wipe σ vs := by
  apply List.ext_getElem?
  intro j
  rw [wipe_get, wipe_length]
  split
  · rename_i h; rw [wipe_get, if_pos h]
  · rfl
theorem EnvRep.wipe {K : PySem.W.Frag} {σ : L2.St} {H : Hp} {δ : Env} (er : EnvRep K σ H δ) (vs : List Nat) : EnvRep K (L2.wipe σ vs) H (wipeD δ vs) := by
  refine ⟨by rw [wipe_length, wipeD_length]; exact er.1, fun i s h => ?_⟩
  rw [wipeD_get] at h
  rw [wipe_get, er.1]
  split at h
  · cases h; trivial
  · rename_i q
    rw [if_neg q]
    exact er.2 i s h
theorem EnvRep.set {K : PySem.W.Frag} {σ : L2.St} {H : Hp} {δ : Env} (er : EnvRep K σ H δ) (i : Nat) {v : V} {s : Slot} (h : SlotRep K H (some (some v)) s) : EnvRep K (σ.set i (some v)) H (δ.set i s) := by
  refine ⟨by rw [List.length_set, List.length_set]; exact er.1, fun j t q => ?_⟩
  rw [List.getElem?_set] at q ⊢
  by_cases e : i = j
  · subst e
    rw [er.1]
    by_cases h2 : i < δ.length
    · simp [h2] at q ⊢; subst q; exact h
    · simp [h2] at q
  · simp [e] at q ⊢; exact er.2 j t q

/-! ### targets -/
mutual
def tgP (K : PySem.W.Frag) : P → TG
  | .v i => gName i
  | .t ps => gTup K ps.length (tgPs K ps)
def tgPs (K : PySem.W.Frag) : List P → TGs
  | [] => gNil
  | p :: ps => gCons (tgP K p) (tgPs K ps)
end
/-- what a target leaves as it is -/
def Kp (vars : List Nat) (σ : L2.St) (δ : Env) (σ' : L2.St) (δ' : Env) : Prop := (∀ (i : Nat) (d : Dat), δ'[i]? = some (Slot.own d) → δ[i]? = some (Slot.own d) ∧ σ'[i]? = σ[i]?) ∧ ∀ vs : List Nat, (∀ i ∈ vars, i ∈ vs) → wipe σ' vs = wipe σ vs
theorem Kp.refl (σ : L2.St) (δ : Env) : Kp [] σ δ σ δ := ⟨fun _ _ h => ⟨h, rfl⟩, fun _ _ => rfl⟩
theorem Kp.trans {v1 v2 : List Nat} {σ σ1 σ2 : L2.St} {δ δ1 δ2 : Env} (a : Kp v1 σ δ σ1 δ1) (b : Kp v2 σ1 δ1 σ2 δ2) : Kp (v1 ++ v2) σ δ σ2 δ2 :=
  ⟨fun i d h => ⟨(a.1 i d (b.1 i d h).1).1, (b.1 i d h).2.trans (a.1 i d (b.1 i d h).1).2⟩, fun vs h => (b.2 vs fun i hi => h i (List.mem_append_right _ hi)).trans (a.2 vs fun i hi => h i (List.mem_append_left _ hi))⟩
theorem Kp.set (σ : L2.St) (δ : Env) (i : Nat) (v : Option V) (d : Dat) : Kp [i] σ δ (σ.set i v) (δ.set i (.val d)) := by
  refine ⟨fun j e h => ?_, fun vs h => wipe_set (h i (by simp))⟩
  rw [List.getElem?_set] at h
  by_cases q : i = j
  · subst q
    by_cases h2 : i < δ.length <;> simp [h2] at h
  · simp [q] at h
    exact ⟨h, by rw [List.getElem?_set]; simp [q]⟩
mutual
theorem bindP_ex : ∀ (p : P) (d : Dat) (δ : Env) (Ψ : Env → Prop), bindP p d δ Ψ → ∃ δ', Ψ δ'
  | .v i, d, δ, Ψ, h => by rw [bindP] at h; exact ⟨_, h⟩
  | .t qs, d, δ, Ψ, h => by
    cases d with
    | tup l => rw [bindP] at h; exact (bindPs_ex qs l δ Ψ h).1
    | _ => simp only [bindP] at h
theorem bindPs_ex : ∀ (ps : List P) (ds : List Dat) (δ : Env) (Ψ : Env → Prop), bindPs ps ds δ Ψ → (∃ δ', Ψ δ') ∧ ds.length = ps.length
  | [], [], δ, Ψ, h => by rw [bindPs] at h; exact ⟨⟨_, h⟩, rfl⟩
  | [], _ :: _, _, _, h => by simp [bindPs] at h
  | _ :: _, [], _, _, h => by simp [bindPs] at h
  | p :: ps, d :: ds, δ, Ψ, h => by
    rw [bindPs] at h
    obtain ⟨δ', h'⟩ := bindP_ex p d δ _ h
    have q := bindPs_ex ps ds δ' Ψ h'
    exact ⟨q.1, congrArg (· + 1) q.2⟩
end
theorem bindPs_len (ps : List P) (ds : List Dat) (δ : Env) (Ψ : Env → Prop) (h : bindPs ps ds δ Ψ) : ds.length = ps.length := (bindPs_ex ps ds δ Ψ h).2
mutual
theorem bind_tg {K : PySem.W.Frag} {H : Hp} : ∀ (p : P) (d : Dat) (v : V) (σ : L2.St) (δ : Env) (Φ : Env → Prop) (Q : L2.St → Hp → Prop), EnvRep K σ H δ → Rep K H v d → bindP p d δ Φ → (∀ σ' δ', EnvRep K σ' H δ' → Φ δ' → Kp (varsP p) σ δ σ' δ' → Q σ' H) → tgP K p v σ H Q
  | .v i, d, v, σ, δ, Φ, Q, er, r, hb, k => by
    rw [bindP] at hb
    rw [tgP]
    exact k _ _ (er.set i (s := .val d) r) hb (by rw [varsP]; exact Kp.set σ δ i (some v) d)
  | .t ps, d, v, σ, δ, Φ, Q, er, r, hb, k => by
    cases d with
    | tup l =>
      rw [Rep] at r
      obtain ⟨a, vs, rfl, h1, h2, h3⟩ := r
      rw [bindP] at hb
      rw [tgP]
      refine ⟨a, vs, rfl, h1.sq, ?_, ?_⟩
      · rw [h3.length]; exact bindPs_len ps l δ Φ hb
      · exact bind_tgs ps l vs σ δ Φ Q er h3 hb (by rw [varsP] at k; exact k)
    | _ => simp only [bindP] at hb
theorem bind_tgs {K : PySem.W.Frag} {H : Hp} : ∀ (ps : List P) (ds : List Dat) (vs : List V) (σ : L2.St) (δ : Env) (Φ : Env → Prop) (Q : L2.St → Hp → Prop), EnvRep K σ H δ → Reps K H vs ds → bindPs ps ds δ Φ → (∀ σ' δ', EnvRep K σ' H δ' → Φ δ' → Kp (varsPs ps) σ δ σ' δ' → Q σ' H) → tgPs K ps vs σ H Q
  | [], [], [], σ, δ, Φ, Q, er, r, hb, k => by
    rw [bindPs] at hb
    rw [tgPs]
    exact ⟨rfl, k σ δ er hb (by rw [varsPs]; exact Kp.refl σ δ)⟩
  | [], [], _ :: _, σ, δ, Φ, Q, er, r, hb, k => by simp [Reps] at r
  | [], _ :: _, vs, σ, δ, Φ, Q, er, r, hb, k => by simp [bindPs] at hb
  | _ :: _, [], vs, σ, δ, Φ, Q, er, r, hb, k => by simp [bindPs] at hb
  | p :: ps, d :: ds, [], σ, δ, Φ, Q, er, r, hb, k => by simp [Reps] at r
  | p :: ps, d :: ds, v :: vs, σ, δ, Φ, Q, er, r, hb, k => by
    rw [bindPs] at hb
    rw [Reps] at r
    rw [tgPs]
    refine ⟨v, vs, rfl, bind_tg p d v σ δ _ _ er r.1 hb fun σ1 δ1 er1 hb1 k1 => ?_⟩
    exact bind_tgs ps ds vs σ1 δ1 Φ Q er1 r.2 hb1 fun σ2 δ2 er2 h2 k2 => k σ2 δ2 er2 h2 (by rw [varsPs]; exact k1.trans k2)
end
/-- what comes out of a walk: a value; a pair just made -/
def YRep (z : Bool) (K : PySem.W.Frag) (H : Hp) (v : V) (d : Dat) : Prop := if z = true then (∃ a vs l, v = .ref a ∧ d = .tup l ∧ SqT K H a vs ∧ Reps K H vs l) else Rep K H v d
def isT : P → Bool
  | .t _ => true
  | _ => false
theorem bind_tgY {K : PySem.W.Frag} {H : Hp} {z : Bool} {p : P} (hz : z = true → isT p = true) {d : Dat} {v : V} {σ : L2.St} {δ : Env} {Φ : Env → Prop} {Q : L2.St → Hp → Prop} (er : EnvRep K σ H δ) (r : YRep z K H v d) (hb : bindP p d δ Φ) (k : ∀ σ' δ', EnvRep K σ' H δ' → Φ δ' → Kp (varsP p) σ δ σ' δ' → Q σ' H) : tgP K p v σ H Q := by
  cases z with
  | false => exact bind_tg p d v σ δ Φ Q er r hb k
  | true =>
    match p, hz rfl with
    | .t ps, _ =>
      obtain ⟨a, vs, l, rfl, rfl, h1, h2⟩ := r
      rw [bindP] at hb
      rw [tgP]
      exact ⟨a, vs, rfl, h1, by rw [h2.length]; exact bindPs_len ps l δ Φ hb, bind_tgs ps l vs σ δ Φ Q er h2 hb (by rw [varsP] at k; exact k)⟩

/-! ### what statements may do to the heap -/
/-- what is kept stays; lists under writing may change -/
def ExtS (H H' : Hp) : Prop := ∀ a o, H a = some o → Chg o ∨ H' a = some o ∨ ((∃ z, o = potO a z) ∧ ∃ z, H' a = some (potO a z))
theorem ExtS.of {H H' : Hp} (e : Ext H H') : ExtS H H' := fun a o h => .inr (e a o h)
theorem ExtS.refl (H : Hp) : ExtS H H := .of (.refl H)
theorem ExtS.trans {H H1 H2 : Hp} (a : ExtS H H1) (b : ExtS H1 H2) : ExtS H H2 := fun c o h => by
  rcases a c o h with q | q | ⟨hz, z, q⟩
  · exact .inl q
  · exact b c o q
  · rcases b c _ q with r | r | ⟨_, r⟩
    · exact r.ext.elim
    · exact .inr (.inr ⟨hz, z, r⟩)
    · exact .inr (.inr ⟨hz, r⟩)
theorem ExtS.keep {H H' : Hp} (e : ExtS H H') {a : Addr} {o : HO} (h : H a = some o) (n : ∀ z, o ≠ potO a z) (nl : ¬ Chg o) : H' a = some o := by
  rcases e a o h with q | q | ⟨⟨z, q⟩, _⟩
  · exact absurd q nl
  · exact q
  · exact absurd q (n z)
mutual
theorem Rep.extS {K : PySem.W.Frag} {H H' : Hp} (e : ExtS H H') : ∀ (d : Dat) (v : V), Rep K H v d → Rep K H' v d
  | .non, v, h => by rw [Rep] at h ⊢; exact h
  | .bl b, v, h => by rw [Rep] at h ⊢; exact h
  | .int i, v, h => by rw [Rep] at h ⊢; exact h
  | .str s, v, h => by rw [Rep] at h ⊢; exact h
  | .tup l, v, h => by
    rw [Rep] at h ⊢
    obtain ⟨a, vs, h1, h2, h3, h4⟩ := h
    refine ⟨a, vs, h1, ?_, h3, Reps.extS e l vs h4⟩
    rcases h2 with ⟨o, h, d⟩ | h
    · exact .inl ⟨o, e.keep h (fun _ q => nomatch q) Chg.frz, d⟩
    · exact .inr h
  | .lst l, v, h => by
    rw [Rep] at h ⊢
    obtain ⟨a, vs, h1, ⟨o, h2⟩, h3, h4⟩ := h
    exact ⟨a, vs, h1, ⟨o, e.keep h2 (fun _ q => nomatch q) Chg.frz⟩, h3, Reps.extS e l vs h4⟩
  | .dic l, v, h => by
    rw [Rep] at h ⊢
    obtain ⟨a, vs, h1, ⟨o, h2⟩, h3, h4⟩ := h
    exact ⟨a, vs, h1, ⟨o, e.keep h2 (fun _ q => nomatch q) Chg.frz⟩, h3, RepKv.extS e l vs h4⟩
  | .obj c l, v, h => by rw [Rep] at h; exact h.elim
  | .pot, v, h => by
    rw [Rep] at h ⊢
    obtain ⟨a, z, h1, h2⟩ := h
    rcases e a _ h2 with q | q | ⟨_, z', q⟩
    · exact q.ext.elim
    · exact ⟨a, z, h1, q⟩
    · exact ⟨a, z', h1, q⟩
  | .scr l, v, h => by
    rw [Rep] at h ⊢
    obtain ⟨a, h1, h2, h3⟩ := h
    refine ⟨a, h1, ?_, h3⟩
    rcases h2 with ⟨o, h⟩ | h
    · exact .inl ⟨o, e.keep h (fun _ q => nomatch q) Chg.frz⟩
    · exact .inr h
theorem Reps.extS {K : PySem.W.Frag} {H H' : Hp} (e : ExtS H H') : ∀ (ds : List Dat) (vs : List V), Reps K H vs ds → Reps K H' vs ds
  | [], [], _ => by rw [Reps]; trivial
  | [], _ :: _, h => by rw [Reps] at h <;> first | exact h.elim | simp_all
  | _ :: _, [], h => by rw [Reps] at h <;> first | exact h.elim | simp_all
  | d :: ds, v :: vs, h => by
    rw [Reps] at h ⊢
    exact ⟨Rep.extS e d v h.1, Reps.extS e ds vs h.2⟩
theorem RepKv.extS {K : PySem.W.Frag} {H H' : Hp} (e : ExtS H H') : ∀ (ds : List (Dat × Dat)) (vs : List (Key × V)), RepKv K H vs ds → RepKv K H' vs ds
  | [], [], _ => by rw [RepKv]; trivial
  | [], _ :: _, h => by simp [RepKv] at h
  | (_, _) :: _, [], h => by simp [RepKv] at h
  | (c, d) :: ds, (k, v) :: vs, h => by
    rw [RepKv] at h ⊢
    exact ⟨h.1, Rep.extS e d v h.2.1, RepKv.extS e ds vs h.2.2⟩
end
/-- b: looked at, under expressions alone; not b: kept, under statements too -/
def RX (b : Bool) (K : PySem.W.Frag) (H : Hp) (v : V) (d : Dat) : Prop := if b = true then BRep K H v d else Rep K H v d
def EXr (b : Bool) (H H' : Hp) : Prop := if b = true then Ext H H' else ExtS H H'
theorem RX.b {b : Bool} {K : PySem.W.Frag} {H : Hp} {v : V} {d : Dat} (h : RX b K H v d) : BRep K H v d := by
  cases b with
  | true => exact h
  | false => exact .inl h
theorem RX.ex {b : Bool} {K : PySem.W.Frag} {H H' : Hp} {v : V} {d : Dat} (e : EXr b H H') (h : RX b K H v d) : RX b K H' v d := by
  cases b with
  | true => exact BRep.ext e h
  | false => exact Rep.extS e d v h
theorem EXr.of {b : Bool} {H H' : Hp} (e : Ext H H') : EXr b H H' := by
  cases b with
  | true => exact e
  | false => exact ExtS.of e

/-! ### walks -/
structure Wlk (K : PySem.W.Frag) (b z : Bool) (H0 : Hp) (ds : List Dat) (J : It) : Prop where
  go : ∀ H i, EXr b H0 H → i < ds.length → J.go i H
  yld : ∀ H i x H' d, EXr b H0 H → ds[i]? = some d → J.yld i H x H' → Step 0 H H' ∧ YRep z K H' x d
  stop : ∀ H, EXr b H0 H → J.stop ds.length H
/-- an iterator has come -/
def PXI (X : Cx) (pins : List (Addr × Obj)) (σ : L2.St) (tg : Expr) (n : Nat) (b z : Bool) (H : Hp) (Φ : Dat → Prop) (itv : Value) (s' : Shared) : Prop :=
  0 < s'.toks ∧ ∃ (it : Addr) (fp : List Addr) (tn : Nat → Heap → Prop) (J : It) (H' : Hp) (d : Dat) (ds : List Dat), itv = .ref it ∧ L2.Inv X pins σ H' s' ∧ Turn X.prog X.w X.K tg J fp it tn ∧ tn 0 s'.heap ∧ (∀ c ∈ fp, FpOk X pins H' c) ∧
    Step n H H' ∧ Wlk X.K b z H' ds J ∧ ds.length ≤ sizeLine ∧ iterD d = some ds ∧ Φ d
def QI (X : Cx) (tg ex : Expr) (n : Nat) (b z : Bool) (f : Env → (Dat → Prop) → Prop) : Prop :=
  ∀ (E : Value → Shared → Prop) (pins : List (Addr × Obj)) (s : Shared) (σ : L2.St) (H : Hp) (δ : Env) (m : Nat) (Φ : Dat → Prop), 0 < s.toks → L2.Inv X pins σ H s → EnvRep X.K σ H δ → PotLe (n + m) H → f δ (fun d => (∃ l, iterD d = some l) ∧ Φ d) →
    wpAny (model X.prog X.w) X.A (eval ex X.env) (fun v s1 => wpAny (model X.prog X.w) X.A (pyIter v) (PXI X pins σ tg n b z H Φ) E s1) E s
end SF

/-! D4e: what may be walked. -/
namespace SF
open PySem PySem.Spec PyProof.Rows L2
abbrev RXm (b : Bool) (K : PySem.W.Frag) : Mod0 := fun _ H' v d => RX b K H' v d
section
variable {X : Cx} {a b c e e2 : Expr} {n n' n'' : Nat} {fa fb fc : Env → (Dat → Prop) → Prop} {pos p : Pos} {bb z : Bool} {tg : Expr}
theorem pxi_of {pins : List (Addr × Obj)} {σ : L2.St} {H H1 : Hp} {Φ : Dat → Prop} {itv : Value} {s' : Shared} {d : Dat} {ds : List Dat} (t : 0 < s'.toks) (st : Step n H H1) (hl : ds.length ≤ sizeLine) (hi : iterD d = some ds) (q : Φ d)
    (h : PIE X pins σ tg (fun J H' => H' = H1 ∧ Wlk X.K bb z H1 ds J) itv s') : PXI X pins σ tg n bb z H Φ itv s' := by
  obtain ⟨it, fp, tn, J, H', h1, h2, h3, h4, h5, rfl, h6⟩ := h
  exact ⟨t, it, fp, tn, J, _, d, ds, h1, h2, h3, h4, h5, st, h6, hl, hi, q⟩
theorem RX.tupAt {K : PySem.W.Frag} {H : Hp} {v : V} {l : List Dat} (h : RX bb K H v (.tup l)) : ∃ a vs, v = .ref a ∧ SqT K H a vs ∧ Reps K H vs l ∧ l.length ≤ sizeLine :=
  let ⟨a, vs, h1, h2, h3, h4⟩ := h.b.tupAt
  ⟨a, vs, h1, h2.sq, h3, h4⟩
theorem RX.lstAt {K : PySem.W.Frag} {H : Hp} {v : V} {l : List Dat} (h : RX bb K H v (.lst l)) : ∃ a vs, v = .ref a ∧ SqL K H a vs ∧ Reps K H vs l ∧ l.length ≤ sizeLine :=
  let ⟨a, vs, h1, h2, h3, h4⟩ := h.b.lstAt
  ⟨a, vs, h1, .inl h2, h3, h4⟩
theorem wlk_tup {K : PySem.W.Frag} {H : Hp} {a : Addr} {l : List Dat} (h : RX bb K H (.ref a) (.tup l)) : Wlk K bb false H l (Itt K a) where
  go := fun H1 i e hi => by
    obtain ⟨_, vs, e1, h1, h2, _⟩ := (h.ex e).tupAt
    cases e1
    obtain ⟨v, hv, _⟩ := h2.get (List.getElem?_eq_getElem hi)
    exact ⟨vs, v, h1, hv⟩
  yld := fun H1 i x H' d e hd y => by
    obtain ⟨_, vs, e1, h1, h2, _⟩ := (h.ex e).tupAt
    cases e1
    obtain ⟨rfl, y⟩ := y
    obtain ⟨v, hv, hr⟩ := h2.get hd
    rw [y vs h1] at hv
    cases hv
    exact ⟨Step.refl _, hr⟩
  stop := fun H1 e => by
    obtain ⟨_, vs, e1, h1, h2, _⟩ := (h.ex e).tupAt
    cases e1
    exact ⟨vs, h1, Nat.le_of_eq h2.length⟩
theorem wlk_lst {K : PySem.W.Frag} {H : Hp} {a : Addr} {l : List Dat} (h : RX bb K H (.ref a) (.lst l)) : Wlk K bb false H l (Itl K a) where
  go := fun H1 i e hi => by
    obtain ⟨_, vs, e1, h1, h2, _⟩ := (h.ex e).lstAt
    cases e1
    obtain ⟨v, hv, _⟩ := h2.get (List.getElem?_eq_getElem hi)
    exact ⟨vs, v, h1, hv⟩
  yld := fun H1 i x H' d e hd y => by
    obtain ⟨_, vs, e1, h1, h2, _⟩ := (h.ex e).lstAt
    cases e1
    obtain ⟨rfl, y⟩ := y
    obtain ⟨v, hv, hr⟩ := h2.get hd
    rw [y vs h1] at hv
    cases hv
    exact ⟨Step.refl _, hr⟩
  stop := fun H1 e => by
    obtain ⟨_, vs, e1, h1, h2, _⟩ := (h.ex e).lstAt
    cases e1
    exact ⟨vs, h1, Nat.le_of_eq h2.length⟩
theorem wlk_str {K : PySem.W.Frag} {H : Hp} {s : List Nat} : Wlk K bb false H (s.map fun c => .str [c]) (Its ⟨s.toArray⟩) where
  go := fun H1 i e hi => by
    rw [List.length_map] at hi
    show i < s.toArray.size
    simpa using hi
  yld := fun H1 i x H' d e hd y => by
    obtain ⟨rfl, c, hc, rfl⟩ := y
    rw [List.getElem?_map] at hd
    have hc : s[i]? = some c := by simpa using hc
    rw [hc] at hd
    cases hd
    refine ⟨Step.refl _, ?_⟩
    show Rep _ _ _ _
    exact rep_str (by simp [sizeLine])
  stop := fun H1 e => by
    rw [List.length_map]
    show s.toArray.size ≤ s.length
    simp
theorem wlk_rng {K : PySem.W.Frag} {H : Hp} {lo : Int} {k : Nat} : Wlk K bb false H ((List.range k).map fun i : Nat => .int (lo + i)) (Itr lo k) where
  go := fun H1 i e hi => by
    rw [List.length_map, List.length_range] at hi
    exact hi
  yld := fun H1 i x H' d e hd y => by
    obtain ⟨rfl, rfl⟩ := y
    rw [List.getElem?_map] at hd
    by_cases hi : i < k
    · rw [List.getElem?_range hi] at hd
      cases hd
      refine ⟨Step.refl _, ?_⟩
      show Rep _ _ _ _
      exact rep_int _
    · rw [List.getElem?_eq_none (by rw [List.length_range]; omega)] at hd
      cases hd
  stop := fun H1 e => by
    rw [List.length_map, List.length_range]
    exact Nat.le_refl k
/-- a pair just made -/
theorem yrep_pair {K : PySem.W.Frag} {H : Hp} {T : Addr} {x y : V} {d d' : Dat} (hT : H T = none) (hx : Rep K H x d) (hy : Rep K H y d') : Step 0 H (upd H T (.tup [x, y])) ∧ YRep true K (upd H T (.tup [x, y])) (.ref T) (.tup [d, d']) := by
  have st : Step 0 H (upd H T (.tup [x, y])) := Step.upd hT fun z e => nomatch e
  refine ⟨st, T, [x, y], [d, d'], rfl, rfl, .inl (.inl upd_same), ?_⟩
  rw [Reps, Reps, Reps]
  exact ⟨Rep.ext st.ext _ _ hx, Rep.ext st.ext _ _ hy, trivial⟩
theorem wlk_enum {K : PySem.W.Frag} {H : Hp} {a : Addr} {l : List Dat} (h : RX bb K H (.ref a) (.lst l)) : Wlk K bb true H (l.mapIdx fun i d => .tup [.int i, d]) (Ite K a) where
  go := fun H1 i e hi => by
    obtain ⟨_, vs, e1, h1, h2, _⟩ := (h.ex e).lstAt
    cases e1
    rw [List.length_mapIdx] at hi
    obtain ⟨v, hv, _⟩ := h2.get (List.getElem?_eq_getElem hi)
    exact ⟨vs, v, h1, hv⟩
  yld := fun H1 i x H' d e hd y => by
    obtain ⟨_, vs, e1, h1, h2, _⟩ := (h.ex e).lstAt
    cases e1
    obtain ⟨T, w, rfl, hT, rfl, y⟩ := y
    rw [List.getElem?_mapIdx] at hd
    obtain ⟨d0, hd0, rfl⟩ := Option.map_eq_some_iff.mp hd
    obtain ⟨v, hv, hr⟩ := h2.get hd0
    rw [y vs h1] at hv
    cases hv
    exact yrep_pair hT (rep_int _) hr
  stop := fun H1 e => by
    obtain ⟨_, vs, e1, h1, h2, _⟩ := (h.ex e).lstAt
    cases e1
    rw [List.length_mapIdx]
    exact ⟨vs, h1, Nat.le_of_eq h2.length⟩
/-! ### enumerate(tuple) -/
/-- the tuple at a as it stands at each turn, each item in a new pair -/
def IteT (K : PySem.W.Frag) (a : Addr) : It where
  go i H := ∃ (xs : List V) (x : V), SqT K H a xs ∧ xs[i]? = some x
  yld i H v H' := ∃ T x, v = .ref T ∧ H T = none ∧ H' = upd H T (.tup [.int (i : Nat), x]) ∧ ∀ xs, SqT K H a xs → xs[i]? = some x
  stop i H := ∃ xs : List V, SqT K H a xs ∧ xs.length ≤ i
theorem enum_apart {h : Heap} {e a it : Addr} {c : Int} {old : Value} {items : Array Value} {i : Nat} (he : IsEnum h e it c old) (ht : h.IsTuple a items) (hi : h.IsTupleIter it a i) : e ≠ a ∧ a ≠ it := by
  obtain ⟨o, ho, hc, _⟩ := ht
  obtain ⟨o2, ho2, hc2, _⟩ := hi
  refine ⟨fun q => ?_, fun q => ?_⟩
  · have he' : h.get? e = some _ := he
    rw [q, ho] at he'
    have q2 := Option.some.inj he'
    rw [q2] at hc
    exact absurd (Value.type.inj hc) (by decide)
  · rw [q, ho2] at ho
    rw [Option.some.inj ho, hc] at hc2
    exact absurd (Value.type.inj hc2) (by decide)
theorem stop_draws {prog : Program} {w : World} {A : Around} (hh : A.handled = none) {it t : Addr} {items : Array Value} {i : Nat} (hx : items[i]? = none) :
    Draws prog w A it [it, t] i (fun _ _ => True) (fun j h => j = i ∧ h.IsTupleIter it t i ∧ h.IsTuple t items) where
  live := fun _ _ st => by obtain ⟨_, ⟨o, ho, _⟩, _⟩ := st; exact ⟨o, ho⟩
  frame := fun _ _ _ st hk => ⟨st.1, st.2.1.at (fun o e => hk it (by simp) o e), st.2.2.at (fun o e => hk t (by simp) o e)⟩
  item := fun j s Q E hj st _ => absurd st.1 (Nat.ne_of_lt hj)
  done := fun s Q E st hE => wpAny_nextOf_tuple_end hh st.2.1 st.2.2 hx hE
theorem turn_enumT {P : Program} {w : World} {K : PySem.W.Frag} {elts : List Expr} {kk : Nat} {tpos : Pos} (a e it : Addr) :
    Turn P w K (.Tuple elts kk tpos) (IteT K a) [e, it] e (fun i h => (∃ old, IsEnum h e it ((i : Nat) : Int) old) ∧ h.IsTupleIter it a i ∧ e ≠ it) where
  mem := List.mem_cons_self ..
  obj := fun i h ⟨⟨old, he⟩, ⟨o, ho, hc, hd⟩, _⟩ b hb => by
    rcases List.mem_cons.mp hb with z | z
    · subst z; exact ⟨_, he, fun v q => by cases q⟩
    · rw [List.mem_singleton.mp z]; exact ⟨o, ho, fun v q => by rw [hd] at q; cases q⟩
  keep := fun i h h' ⟨⟨old, he⟩, hi, hne⟩ k => ⟨⟨old, k e (by simp) _ he⟩, hi.at (fun o q => k it (by simp) o q), hne⟩
  item := fun {X} hP hw hK hc i pins s σ H E I hf ⟨⟨old, he⟩, hit, hne⟩ ⟨xs, x, hq, hx⟩ => by
    subst hP hw hK
    obtain ⟨its, rv, p, hz⟩ := I.tuple hq
    obtain ⟨u, hu, ru⟩ := rv.get hx
    have pt : s.heap.IsTuple a its.toArray := p
    obtain ⟨nea, nai⟩ := enum_apart he pt hit
    have hel : e < s.heap.objs.size := Heap.lt_size he
    have hil : it < s.heap.objs.size := by obtain ⟨_, q, _⟩ := hit; exact Heap.lt_size q
    have hlt : i < its.toArray.size := by
      rcases Nat.lt_or_ge i its.length with q | q
      · simpa using q
      · rw [List.getElem?_eq_none q] at hu; cases hu
    refine wpAny_pyNext_enum_itemC (Draws.tuple (prog := X.prog) (w := X.w) (A := X.A.in1) (I.ok.hd hc) it a nai its.toArray) he ⟨hit, pt⟩ hlt hne (by simp [hne, nea]) fun y h' tk hy ho hst' hT hsz hk => ?_
    obtain rfl : y = u := by
      have e1 : its.toArray[i]? = some y := hy
      rw [List.getElem?_toArray, hu] at e1
      exact (Option.some.inj e1).symm
    refine ⟨_, rfl, wpAny_letOwnedTupleGo_enum (s := { s with heap := h', toks := tk + 1 }) ho fun h'' he' sb => ?_⟩
    have hT2 : h''.get? s.heap.objs.size = some { cls := .type "tuple", data := .seq #[.int i tk, y] } := (sb.2 _ (Ne.symm (Nat.ne_of_lt hel))).trans hT
    have new : ObjOk X.prog X.w (upd H s.heap.objs.size (.tup [.int (i : Nat), x])) h'' s.heap.objs.size (.tup [.int (i : Nat), x]) := by
      refine ⟨?_, [.int i tk, y], .cons ⟨_, rfl⟩ (.cons ru .nil), ⟨_, hT2, rfl, _, rfl⟩⟩
      show 2 ≤ sizeLine
      decide
    have I1 := I.turnedNew (t' := tk + 1) (ch := [e, it]) (fun b ob hb q => (sb.2 b fun z => hb (by rw [z]; simp)).trans (hk b ob (fun z => hb (by rw [z]; simp)) (fun z => hb (by rw [z]; simp)) q)) hf (Nat.le_refl _) new
    refine ⟨.ref s.heap.objs.size, _, I1, rfl, ⟨_, x, rfl, I.hok.fresh (Nat.le_refl _), rfl, fun ys hy => by rw [I.tuple_inj hy hq]; exact hx⟩, ⟨⟨y, ?_⟩, hst'.1.at (fun o q => (sb.2 it (Ne.symm hne)).trans q), hne⟩, fun b hb => ?_⟩
    · have e1 : ((i + 1 : Nat) : Int) = (i : Int) + 1 := Int.natCast_succ i
      rw [e1]
      exact he'
    · have hb' : b < s.heap.objs.size := by
        rcases List.mem_cons.mp hb with z | z
        · rw [z]; exact hel
        · rw [List.mem_singleton.mp z]; exact hil
      rw [upd_ne (Nat.ne_of_lt hb')]
      exact (hf b hb).1
  done := fun {X} hP hw hK hc i pins s σ H E I hf ⟨⟨old, he⟩, hit, hne⟩ ⟨xs, hq, hx⟩ => by
    subst hP hw hK
    obtain ⟨its, rv, p, hz⟩ := I.tuple hq
    obtain ⟨f0, f1, f2, f3, f4, f5⟩ := hf it (by simp)
    have hl := rv.length
    exact wpAny_pyNext_enum_endD (stop_draws (prog := X.prog) (w := X.w) (A := X.A.in1) (items := its.toArray) (i := i) (I.ok.hd hc) (by rw [List.getElem?_toArray]; exact List.getElem?_eq_none (by omega))) he ⟨rfl, hit, (p : s.heap.IsTuple a its.toArray)⟩ fun h' eb => ⟨rfl, I.turned (t' := s.toks) (fun b o hb q => eb b o hb q) f0 f1 f3 f4 f5⟩
  self := fun A i s Q E st h => wpAny_pyIter_enum st.1.choose_spec h
theorem enum_new1 {v : Value} {o : Obj} {H : Heap → Prop} (B : Begins v o H) :
    Meets (Builtin.«enumerate.__new__» ⟨[.type "enumerate", v], []⟩) (fun _ R s => H s.heap ∧
      R (.ok (.ret (.ref (s.heap.push o).objs.size))) { s with heap := (s.heap.push o).push { cls := .type "enumerate", data := .fields #[.none, .bool false, .ref s.heap.objs.size, rawInt 0, .none, .none] } }) := by
  have cls := sub_enumerate
  refine .of_wp fun prog w A R s k => ?_
  have begun : ∀ A' E' Q', _ → _ → wpAny (model prog w) A' (pyIter v) Q' E' s := fun A' E' Q' => B.iter prog w A' E' s Q'
  wp_walk using begun, k.1
  refine wpAny_stack_any fun _ => wpAny_pure ?_
  split <;> (try (rename_i c _ _ _ _ _; cases c == Value.type "enumerate")) <;> (wp_walk using begun, k.1; exact ⟨_, rfl, k.2⟩)
theorem call_enumerate_any {prog : Program} {w : World} {A : Around} {E : Value → Shared → Prop} {s : Shared} {v : Value} {o : Obj} {H : Heap → Prop} {Q : Value → Shared → Prop} (B : Begins v o H) (h1 : H s.heap)
    (h : ∀ h', IsEnum h' (s.heap.objs.size + 1) s.heap.objs.size 0 .none → h'.get? s.heap.objs.size = some o → h'.objs.size = s.heap.objs.size + 2 →
      (∀ b o, s.heap.get? b = some o → h'.get? b = some o) → Q (.ref (s.heap.objs.size + 1)) { s with heap := h' }) : wpAny (model prog w) A (call (.type "enumerate") [v]) Q E s := by
  have hz : (s.heap.push o).objs.size = s.heap.objs.size + 1 := by rw [Heap.size_push]
  refine callType_new F.called_enumerate (by decide) (F.typeCall_enumerate_1 _) (F.newCall_enumerate_1 _) (fun obj => F.args_object_init_2 obj _) F.entry_enumerate_new (enum_new1 B) ⟨h1, ?_⟩
  show _ ∧ _
  rw [hz]
  have he : IsEnum ((s.heap.push o).push { cls := .type "enumerate", data := .fields #[.none, .bool false, .ref s.heap.objs.size, rawInt 0, .none, .none] }) (s.heap.objs.size + 1) s.heap.objs.size 0 .none := by
    have q := Heap.get?_push_size (s.heap.push o) (o := { cls := .type "enumerate", data := .fields #[.none, .bool false, .ref s.heap.objs.size, rawInt 0, .none, .none] }) rfl
    rw [hz] at q
    exact q
  exact ⟨⟨_, he, rfl⟩, h _ he (Heap.get?_push_of_some _ (Heap.get?_push_size _ B.free)) (by rw [Heap.size_push, hz]) fun b o x => Heap.get?_push_of_some _ (Heap.get?_push_of_some _ x)⟩
theorem wlk_enumT {K : PySem.W.Frag} {H : Hp} {a : Addr} {l : List Dat} (h : RX bb K H (.ref a) (.tup l)) : Wlk K bb true H (l.mapIdx fun i d => .tup [.int i, d]) (IteT K a) where
  go := fun H1 i e hi => by
    obtain ⟨_, vs, e1, h1, h2, _⟩ := (h.ex e).tupAt
    cases e1
    rw [List.length_mapIdx] at hi
    obtain ⟨v, hv, _⟩ := h2.get (List.getElem?_eq_getElem hi)
    exact ⟨vs, v, h1, hv⟩
  yld := fun H1 i x H' d e hd y => by
    obtain ⟨_, vs, e1, h1, h2, _⟩ := (h.ex e).tupAt
    cases e1
    obtain ⟨T, w, rfl, hT, rfl, y⟩ := y
    rw [List.getElem?_mapIdx] at hd
    obtain ⟨d0, hd0, rfl⟩ := Option.map_eq_some_iff.mp hd
    obtain ⟨v, hv, hr⟩ := h2.get hd0
    rw [y vs h1] at hv
    cases hv
    exact yrep_pair hT (rep_int _) hr
  stop := fun H1 e => by
    obtain ⟨_, vs, e1, h1, h2, _⟩ := (h.ex e).tupAt
    cases e1
    rw [List.length_mapIdx]
    exact ⟨vs, h1, Nat.le_of_eq h2.length⟩
theorem wlk_zipL {K : PySem.W.Frag} {H : Hp} {a b : Addr} {l r : List Dat} (h : RX bb K H (.ref a) (.lst l)) (h' : RX bb K H (.ref b) (.lst r)) : Wlk K bb true H (List.zipWith (fun p q => .tup [p, q]) l r) (Itz K a b) where
  go := fun H1 i e hi => by
    obtain ⟨_, vs, e1, h1, h2, _⟩ := (h.ex e).lstAt
    cases e1
    obtain ⟨_, ws, e2, k1, k2, _⟩ := (h'.ex e).lstAt
    cases e2
    rw [List.length_zipWith] at hi
    obtain ⟨v, hv, _⟩ := h2.get (List.getElem?_eq_getElem (show i < l.length by omega))
    obtain ⟨w, hw, _⟩ := k2.get (List.getElem?_eq_getElem (show i < r.length by omega))
    exact ⟨vs, ws, v, w, h1, k1, hv, hw⟩
  yld := fun H1 i x H' d e hd y => by
    obtain ⟨_, vs, e1, h1, h2, _⟩ := (h.ex e).lstAt
    cases e1
    obtain ⟨_, ws, e2, k1, k2, _⟩ := (h'.ex e).lstAt
    cases e2
    obtain ⟨T, x, y', rfl, hT, rfl, y1, y2⟩ := y
    rw [List.getElem?_zipWith] at hd
    cases q1 : l[i]? with
    | none => simp [q1] at hd
    | some d1 =>
      cases q2 : r[i]? with
      | none => simp [q1, q2] at hd
      | some d2 =>
        simp only [q1, q2, Option.some.injEq] at hd
        subst hd
        obtain ⟨v, hv, hr⟩ := h2.get q1
        obtain ⟨w, hw, hs⟩ := k2.get q2
        rw [y1 vs h1] at hv
        rw [y2 ws k1] at hw
        cases hv
        cases hw
        exact yrep_pair hT hr hs
  stop := fun H1 e => by
    obtain ⟨_, vs, e1, h1, h2, _⟩ := (h.ex e).lstAt
    cases e1
    obtain ⟨_, ws, e2, k1, k2, _⟩ := (h'.ex e).lstAt
    cases e2
    rw [List.length_zipWith]
    refine ⟨vs, ws, h1, k1, ?_⟩
    have e3 := h2.length
    have e4 := k2.length
    omega
theorem wlk_zipT {K : PySem.W.Frag} {H : Hp} {a b : Addr} {l r : List Dat} (h : RX bb K H (.ref a) (.tup l)) (h' : RX bb K H (.ref b) (.tup r)) : Wlk K bb true H (List.zipWith (fun p q => .tup [p, q]) l r) (RZ.ItzT K a b) where
  go := fun H1 i e hi => by
    obtain ⟨_, vs, e1, h1, h2, _⟩ := (h.ex e).tupAt
    cases e1
    obtain ⟨_, ws, e2, k1, k2, _⟩ := (h'.ex e).tupAt
    cases e2
    rw [List.length_zipWith] at hi
    obtain ⟨v, hv, _⟩ := h2.get (List.getElem?_eq_getElem (show i < l.length by omega))
    obtain ⟨w, hw, _⟩ := k2.get (List.getElem?_eq_getElem (show i < r.length by omega))
    exact ⟨vs, ws, v, w, h1, k1, hv, hw⟩
  yld := fun H1 i x H' d e hd y => by
    obtain ⟨_, vs, e1, h1, h2, _⟩ := (h.ex e).tupAt
    cases e1
    obtain ⟨_, ws, e2, k1, k2, _⟩ := (h'.ex e).tupAt
    cases e2
    obtain ⟨T, x, y', rfl, hT, rfl, y1, y2⟩ := y
    rw [List.getElem?_zipWith] at hd
    cases q1 : l[i]? with
    | none => simp [q1] at hd
    | some d1 =>
      cases q2 : r[i]? with
      | none => simp [q1, q2] at hd
      | some d2 =>
        simp only [q1, q2, Option.some.injEq] at hd
        subst hd
        obtain ⟨v, hv, hr⟩ := h2.get q1
        obtain ⟨w, hw, hs⟩ := k2.get q2
        rw [y1 vs h1] at hv
        rw [y2 ws k1] at hw
        cases hv
        cases hw
        exact yrep_pair hT hr hs
  stop := fun H1 e => by
    obtain ⟨_, vs, e1, h1, h2, _⟩ := (h.ex e).tupAt
    cases e1
    obtain ⟨_, ws, e2, k1, k2, _⟩ := (h'.ex e).tupAt
    cases e2
    rw [List.length_zipWith]
    refine ⟨vs, ws, h1, k1, ?_⟩
    have e3 := h2.length
    have e4 := k2.length
    omega

/-! ### expressions that are walked -/
theorem qi_seq (ha : QE X a n (RXm bb X.K) fa) : QI X tg a n bb false fa := fun E pins s σ H δ m Φ ht I er pl hf => by
  refine thn (ha E pins s σ H δ m _ ht I er pl hf) fun u s1 ⟨t1, x, H1, d, I1, r1, st1, b1, ⟨l, hl⟩, q1⟩ => ?_
  have b1 : RX bb X.K H1 x d := b1
  cases d with
  | tup l0 =>
    obtain ⟨a, vs, rfl, h1, h2, h3⟩ := b1.tupAt
    cases r1
    obtain ⟨its, rv, p, hz⟩ := I1.tuple h1
    refine wpAny_pyIter_tuple (show s1.heap.IsTuple a its.toArray from p) ?_
    exact pxi_of t1 st1 h3 rfl q1 (pi_one (tk := s1.toks) I1 _ (turn_tuple a _) ⟨_, Heap.get?_push_size _ rfl, rfl, rfl⟩ ⟨rfl, wlk_tup b1⟩)
  | lst l0 =>
    obtain ⟨a, vs, rfl, h1, h2, h3⟩ := b1.lstAt
    cases r1
    obtain ⟨its, rv, p, hz⟩ := I1.list h1
    refine wpAny_pyIter_list p.isList ?_
    exact pxi_of t1 st1 h3 rfl q1 (pi_one (tk := s1.toks) I1 _ (turn_list a _) ⟨_, Heap.get?_push_size _ rfl, rfl, rfl⟩ ⟨rfl, wlk_lst b1⟩)
  | str l0 =>
    obtain ⟨rfl, h3⟩ := b1.b.strAt
    obtain ⟨t, rfl⟩ := r1
    have hl : (l0.map fun c => Dat.str [c]).length ≤ sizeLine := by rw [List.length_map]; exact h3
    cases ha : (⟨l0.toArray⟩ : Str).cps.all (· < 128)
    · exact wpAny_pyIter_wide ha (pxi_of (s' := { s1 with heap := _ }) t1 st1 hl rfl q1 (pi_one (tk := s1.toks) I1 _ (turn_str _ _ t "str_iterator" (.inr rfl)) ⟨_, Heap.get?_push_size _ rfl, rfl, rfl⟩ ⟨rfl, wlk_str⟩))
    · exact wpAny_pyIter_ascii ha (pxi_of (s' := { s1 with heap := _ }) t1 st1 hl rfl q1 (pi_one (tk := s1.toks) I1 _ (turn_str _ _ t "str_ascii_iterator" (.inl rfl)) ⟨_, Heap.get?_push_size _ rfl, rfl, rfl⟩ ⟨rfl, wlk_str⟩))
  | _ => cases hl
theorem qa_one {R : Mod0} {RL : Hp → List V → List Dat → Prop} (hc : ∀ H H' v d, R H H' v d → RL H' [v] [d]) (ha : QE X a n R fa) (hs : starEach [a] X.env = [(false, eval a X.env)]) : QA X [a] n RL (fun δ Q => fa δ fun d => Q [d]) := fun pos E pins s σ H δ m Φ ht I er pl hf => by
  rw [hs]
  show wpAny _ _ (spliced ((false, eval a X.env) :: [])) _ _ s
  exact Calls.spliced_cons (thn (ha E pins s σ H δ m _ ht I er pl hf) fun u s1 ⟨t1, x, H1, dx, I1, r1, st1, b1, q1⟩ => Calls.spliced_nil ⟨t1, [x], H1, [dx], I1, .cons r1 .nil, st1, hc _ _ _ _ b1, q1⟩)
abbrev RL1 (K : PySem.W.Frag) : Hp → List V → List Dat → Prop := fun H vs ds => ∃ v d, vs = [v] ∧ ds = [d] ∧ Rep K H v d
def rng1 (l : List Dat) (Q : Dat → Prop) : Prop :=
  match l with
  | [d] => rangeW d Q
  | _ => False
theorem qi_range (hg : Gl X "range") (hm : X.mg "range" = none) (ha : QE X a n (RV X.K) fa) (hs : starEach [a] X.env = [(false, eval a X.env)]) : QI X tg (.Call (.Name "range" p) [a] [] pos) n bb false (fun δ Q => fa δ fun x => rangeW x Q) := fun E pins s σ H δ m Φ ht I er pl hf => by
  refine Call_ (ld_blt I hg hm boot_range (PyProof.Rows.callWith_type1 (thn (qa_one (RL := RL1 X.K) (fun _ _ v d h => ⟨v, d, rfl, rfl, h⟩) ha hs pos E pins s σ H δ m (fun ds => rng1 ds fun d => (∃ l, iterD d = some l) ∧ Φ d) ht I er pl hf) fun us s1 ⟨t1, vs, H1, ds, I1, r1, st1, b1, q1⟩ => ?_) hs rfl))
  obtain ⟨v, d, rfl, rfl, h⟩ := b1
  replace q1 : rangeW d (fun d => (∃ l, iterD d = some l) ∧ Φ d) := q1
  unfold rangeW at q1
  split at q1
  · rename_i k
    rw [Rep] at h
    subst h
    obtain ⟨⟨h1, h2⟩, _, q⟩ := q1
    cases r1 with
    | cons r rr =>
      cases rr
      obtain ⟨t, rfl⟩ := r
      unfold big at h2
      refine px_of t1 (call_range_1 (range_it I1 (R := fun J H' => H' = H1 ∧ Wlk X.K bb false H1 ((List.range k.toNat).map fun i : Nat => .int i) J) (by omega) (by omega) (by omega) (by omega) ⟨rfl, ?_⟩)) fun w s2 t2 h2' => px_of t2 h2' fun w s3 t3 h3 => pxi_of t3 st1 ?_ rfl q h3
      · have w := wlk_rng (bb := bb) (K := X.K) (H := H1) (lo := 0) (k := k.toNat)
        have ee : (fun i : Nat => Dat.int (0 + i)) = fun i : Nat => Dat.int i := by funext i; rw [Int.zero_add]
        rw [ee] at w
        rw [Int.sub_zero]
        exact w
      · rw [List.length_map, List.length_range]; unfold sizeLine; omega
  · exact q1.elim
abbrev RL2 (K : PySem.W.Frag) (R : PySem.W.Frag → Hp → V → Dat → Prop) : Hp → List V → List Dat → Prop := fun H vs ds => ∃ v w d e, vs = [v, w] ∧ ds = [d, e] ∧ R K H v d ∧ R K H w e
/-- two arguments -/
theorem qa_two {R : PySem.W.Frag → Hp → V → Dat → Prop} (hR : ∀ H H' v d, Ext H H' → R X.K H v d → R X.K H' v d) (ha : QE X a n (fun _ H' v d => R X.K H' v d) fa) (hb : QE X b n' (fun _ H' v d => R X.K H' v d) fb) (hs : starEach [a, b] X.env = (false, eval a X.env) :: starEach [b] X.env) (hs2 : starEach [b] X.env = [(false, eval b X.env)]) :
    QA X [a, b] (n + n') (RL2 X.K R) (fun δ Q => fa δ fun d => fb δ fun e => Q [d, e]) := fun pos E pins s σ H δ m Φ ht I er pl hf => by
  rw [hs, hs2]
  show wpAny _ _ (spliced ((false, eval a X.env) :: (false, eval b X.env) :: [])) _ _ s
  refine Calls.spliced_cons (thn (ha E pins s σ H δ (n' + m) _ ht I er (pl.mono (by omega)) hf) fun u s1 ⟨t1, x, H1, dx, I1, r1, st1, b1, q1⟩ => ?_)
  refine Calls.spliced_cons (thn (hb E pins s1 σ H1 δ m _ t1 I1 (er.ext st1.ext) (st1.pot _ (pl.mono (by omega))) q1) fun u2 s2 ⟨t2, y, H2, dy, I2, r2, st2, b2, q2⟩ => ?_)
  exact Calls.spliced_nil ⟨t2, [x, y], H2, [dx, dy], I2, .cons r1 (.cons r2 .nil), st1.trans st2, ⟨x, y, dx, dy, rfl, rfl, hR _ _ _ _ st2.ext b1, b2⟩, q2⟩
def rng2 (l : List Dat) (Q : Dat → Prop) : Prop :=
  match l with
  | [d, e] => range2W d e Q
  | _ => False
theorem plain2 {e : Expr} {env : PySem.Env} {pos : Pos} (h : starEach [e] env = [(false, eval e env)]) : (backTo pos (starEach [e] env)).any (·.1) = false := by rw [h]; rfl
theorem qi_range2 (hg : Gl X "range") (hm : X.mg "range" = none) (ha : QE X a n (RV X.K) fa) (hb : QE X b n' (RV X.K) fb) (hs : starEach [a, b] X.env = (false, eval a X.env) :: starEach [b] X.env) (hs2 : starEach [b] X.env = [(false, eval b X.env)]) :
    QI X tg (.Call (.Name "range" p) [a, b] [] pos) (n + n') bb false (fun δ Q => fa δ fun x => fb δ fun y => range2W x y Q) := fun E pins s σ H δ m Φ ht I er pl hf => by
  refine Call_ (ld_blt I hg hm boot_range (PyProof.Rows.callWith_type1 (thn (qa_two (R := Rep) (fun _ _ v d e h => Rep.ext e d v h) ha hb hs hs2 pos E pins s σ H δ m (fun ds => rng2 ds fun d => (∃ l, iterD d = some l) ∧ Φ d) ht I er pl hf) fun us s1 ⟨t1, vs, H1, ds, I1, r1, st1, b1, q1⟩ => ?_) hs (plain2 hs2)))
  obtain ⟨v, w, d, e, rfl, rfl, h, h'⟩ := b1
  replace q1 : range2W d e (fun d => (∃ l, iterD d = some l) ∧ Φ d) := q1
  unfold range2W at q1
  split at q1
  · rename_i u k
    rw [Rep] at h h'
    subst h h'
    obtain ⟨⟨h1, h2, h3, h4, h5⟩, _, q⟩ := q1
    obtain ⟨_, _, rfl, r1, r2⟩ := r1.two
    obtain ⟨t, rfl⟩ := r1
    obtain ⟨t', rfl⟩ := r2
    unfold big at h5
    refine px_of t1 (call_range_2 (range_it I1 (R := fun J H' => H' = H1 ∧ Wlk X.K bb false H1 ((List.range (k - u).toNat).map fun i : Nat => .int (u + i)) J) (by omega) (by omega) (by omega) (by omega) ⟨rfl, wlk_rng⟩)) fun w s2 t2 h2' => px_of t2 h2' fun w s3 t3 h3 => pxi_of t3 st1 ?_ rfl q h3
    rw [List.length_map, List.length_range]; unfold sizeLine; omega
  · exact q1.elim
def rngD (l : List Dat) (Q : Dat → Prop) : Prop :=
  match l with
  | [d, .int (-1), .int (-1)] => rangeDW d Q
  | _ => False
theorem wlk_rngD {K : PySem.W.Frag} {H : Hp} {lo : Int} {k : Nat} : Wlk K bb false H ((List.range k).map fun i : Nat => .int (lo - i)) (Itc lo (-1) k) where
  go := fun H1 i e hi => by
    rw [List.length_map, List.length_range] at hi
    exact hi
  yld := fun H1 i x H' d e hd y => by
    obtain ⟨rfl, rfl⟩ := y
    rw [List.getElem?_map] at hd
    by_cases hi : i < k
    · rw [List.getElem?_range hi] at hd
      cases hd
      refine ⟨Step.refl _, ?_⟩
      show Rep _ _ _ _
      rw [show lo + ((i : Nat) : Int) * -1 = lo - i by omega]
      exact rep_int _
    · rw [List.getElem?_eq_none (by rw [List.length_range]; omega)] at hd
      cases hd
  stop := fun H1 e => by
    rw [List.length_map, List.length_range]
    exact Nat.le_refl k
theorem qi_rangeD {a b c : Expr} {fs : Env → (List Dat → Prop) → Prop} (hg : Gl X "range") (hm : X.mg "range" = none) (hA : QA X [a, b, c] n (RLv X.K) fs) (hs : starEach [a, b, c] X.env = (false, eval a X.env) :: starEach [b, c] X.env) (hpl : (backTo pos (starEach [b, c] X.env)).any (·.1) = false) :
    QI X tg (.Call (.Name "range" p) [a, b, c] [] pos) n bb false (fun δ Q => fs δ fun ds => rngD ds Q) := fun E pins s σ H δ m Φ ht I er pl hf => by
  refine Call_ (ld_blt I hg hm boot_range (PyProof.Rows.callWith_type1 (thn (hA pos E pins s σ H δ m (fun ds => rngD ds fun d => (∃ l, iterD d = some l) ∧ Φ d) ht I er pl hf) fun us s1 ⟨t1, vs, H1, ds, I1, r1, st1, b1, q1⟩ => ?_) hs hpl))
  replace q1 : rngD ds (fun d => (∃ l, iterD d = some l) ∧ Φ d) := q1
  have b1 : Reps X.K H1 vs ds := b1
  unfold rngD at q1
  split at q1
  · rename_i d
    unfold rangeDW at q1
    split at q1
    · rename_i k
      obtain ⟨⟨h1, h2⟩, _, q⟩ := q1
      match vs, b1 with
      | [v1, v2, v3], b1 =>
        rw [Reps, Reps, Reps, Rep, Rep, Rep] at b1
        obtain ⟨e1, e2, e3, _⟩ := b1
        subst e1 e2 e3
        cases r1 with
        | cons r rr =>
          cases rr with
          | cons r' rr =>
            cases rr with
            | cons r'' rr =>
              cases rr
              obtain ⟨t, rfl⟩ := r
              obtain ⟨t', rfl⟩ := r'
              obtain ⟨t'', rfl⟩ := r''
              unfold big at h2
              have hc := RgC.neg (i := k) (j := -1) (by omega) (by omega) (by omega) (by omega)
              have en : (k - -1).toNat = (k + 1).toNat := by congr 1
              rw [en] at hc
              obtain ⟨c0, c1, c2, c3⟩ := hc
              refine px_of t1 (call_range_3 c0 (Q := fun w s2 => wpAny (model X.prog X.w) X.A (pyIter w) (PIE X pins σ tg fun J H' => H' = H1 ∧ Wlk X.K bb false H1 ((List.range (k + 1).toNat).map fun i : Nat => .int (k - i)) J) E s2) ?_ (.inl (PyProof.noPylong_small c1))) fun w s2 t2 h2' => px_of t2 h2' fun w s3 t3 h3 => pxi_of t3 st1 (by rw [List.length_map, List.length_range]; unfold sizeLine; omega) rfl q h3
              refine wpAny_pyIter_range (IsRange.new ..) c2 ?_
              have I2 : L2.Inv X pins σ H1 { s1 with heap := s1.heap.push { cls := .type "range", data := .fields #[.int k t, .int (-1) t', .int (-1) t''] } } := I1.kept (t' := s1.toks) fun b o e => Heap.get?_push_of_some _ e
              refine pi_one (tk := s1.toks) I2 _ (turn_rangeC _ k (-1) (k + 1).toNat) ?_ ⟨rfl, wlk_rngD⟩
              have e1 : k + ((0 : Nat) : Int) * (-1) = k := by simp
              have e2 : (((k + 1).toNat : Nat) : Int) - ((0 : Nat) : Int) = Builtin.Range.rangeSize k (-1) (-1) := by rw [c3]; simp
              show IsRangeIter _ _ (k + ((0 : Nat) : Int) * (-1)) ((((k + 1).toNat : Nat) : Int) - ((0 : Nat) : Int)) (-1)
              rw [e1, e2]
              exact Heap.get?_push_size _ rfl
      | [], b1 => simp [Reps] at b1
      | [_], b1 => simp [Reps] at b1
      | [_, _], b1 => simp [Reps] at b1
      | _ :: _ :: _ :: _ :: _, b1 => simp [Reps] at b1
    · exact q1.elim
  · exact q1.elim
def enm1 (l : List Dat) (Q : Dat → Prop) : Prop :=
  match l with
  | [d] => ∃ l, enumOk d l ∧ Q (.lst (l.mapIdx fun i d => .tup [.int i, d]))
  | _ => False
variable {elts : List Expr} {kk : Nat} {tpos : Pos}
theorem qi_enum (hg : Gl X "enumerate") (hm : X.mg "enumerate" = none) (ha : QE X a n (RXm bb X.K) fa) (hs : starEach [a] X.env = [(false, eval a X.env)]) :
    QI X (.Tuple elts kk tpos) (.Call (.Name "enumerate" p) [a] [] pos) n bb true (fun δ Q => fa δ fun x => ∃ l, enumOk x l ∧ Q (.lst (l.mapIdx fun i d => .tup [.int i, d]))) := fun E pins s σ H δ m Φ ht I er pl hf => by
  refine Call_ (ld_blt I hg hm boot_enumerate (PyProof.Rows.callWith_type1 (thn (qa_one (RL := fun H vs ds => ∃ v d, vs = [v] ∧ ds = [d] ∧ RX bb X.K H v d) (fun _ _ v d h => ⟨v, d, rfl, rfl, h⟩) ha hs pos E pins s σ H δ m (fun ds => enm1 ds fun d => (∃ l, iterD d = some l) ∧ Φ d) ht I er pl hf) fun us s1 ⟨t1, vs, H1, ds, I1, r1, st1, b1, q1⟩ => ?_) hs rfl))
  obtain ⟨v, d, rfl, rfl, h⟩ := b1
  obtain ⟨l, rfl | rfl, _, q⟩ := q1
  · obtain ⟨a, vs, rfl, h1, h2, h3⟩ := h.lstAt
    obtain ⟨_, rfl, r⟩ := r1.one
    cases r
    obtain ⟨its, rv, p', hz⟩ := I1.list h1
    have hl : (l.mapIdx fun i d => Dat.tup [.int i, d]).length ≤ sizeLine := by rw [List.length_mapIdx]; exact h3
    refine px_of t1 (Q := fun w s2 => wpAny (model X.prog X.w) X.A (pyIter w) (PIE X pins σ (.Tuple elts kk tpos) fun J H' => H' = H1 ∧ Wlk X.K bb true H1 (l.mapIdx fun i d => .tup [.int i, d]) J) E s2) (call_enumerate_list p'.isList fun h' he hit hsz hk => wpAny_pyIter_enum he ?_) fun w s2 t2 h2' => px_of t2 h2' fun w s3 t3 h3 => pxi_of t3 st1 hl rfl q h3
    have I2 : L2.Inv X pins σ H1 { s1 with heap := h' } := I1.kept (t' := s1.toks) hk
    refine ⟨s1.heap.objs.size + 1, [s1.heap.objs.size + 1, s1.heap.objs.size], _, _, H1, rfl, I2, turn_enum a (s1.heap.objs.size + 1) s1.heap.objs.size, ⟨⟨.none, he⟩, hit, Nat.succ_ne_self _⟩, fun b hb => ?_, rfl, wlk_enum h⟩
    have hle : s1.heap.objs.size ≤ b := by
      have e' : b = s1.heap.objs.size + 1 ∨ b = s1.heap.objs.size := by simpa using hb
      rcases e' with z | z <;> (rw [z]; first | exact Nat.le_refl _ | exact Nat.le_add_right _ _)
    exact I1.fpOk hle (I1.hok.fresh hle)
  · obtain ⟨a, vs, rfl, h1, h2, h3⟩ := h.tupAt
    obtain ⟨_, rfl, r⟩ := r1.one
    cases r
    obtain ⟨its, rv, p', hz⟩ := I1.tuple h1
    have pt : s1.heap.IsTuple a its.toArray := p'
    have hl : (l.mapIdx fun i d => Dat.tup [.int i, d]).length ≤ sizeLine := by rw [List.length_mapIdx]; exact h3
    refine px_of t1 (Q := fun w s2 => wpAny (model X.prog X.w) X.A (pyIter w) (PIE X pins σ (.Tuple elts kk tpos) fun J H' => H' = H1 ∧ Wlk X.K bb true H1 (l.mapIdx fun i d => .tup [.int i, d]) J) E s2) (call_enumerate_any (begins_tuple a its.toArray) pt fun h' he hit hsz hk => wpAny_pyIter_enum he ?_) fun w s2 t2 h2' => px_of t2 h2' fun w s3 t3 h3 => pxi_of t3 st1 hl rfl q h3
    have I2 : L2.Inv X pins σ H1 { s1 with heap := h' } := I1.kept (t' := s1.toks) hk
    refine ⟨s1.heap.objs.size + 1, [s1.heap.objs.size + 1, s1.heap.objs.size], _, _, H1, rfl, I2, turn_enumT a (s1.heap.objs.size + 1) s1.heap.objs.size, ⟨⟨.none, he⟩, ⟨_, hit, rfl, rfl⟩, Nat.succ_ne_self _⟩, fun b hb => ?_, rfl, wlk_enumT h⟩
    have hle : s1.heap.objs.size ≤ b := by
      have e' : b = s1.heap.objs.size + 1 ∨ b = s1.heap.objs.size := by simpa using hb
      rcases e' with z | z <;> (rw [z]; first | exact Nat.le_refl _ | exact Nat.le_add_right _ _)
    exact I1.fpOk hle (I1.hok.fresh hle)
def zip2 (l : List Dat) (Q : Dat → Prop) : Prop :=
  match l with
  | [x, y] => ∃ l r, zipOk x y l r ∧ Q (.lst (List.zipWith (fun p q => .tup [p, q]) l r))
  | _ => False
theorem qi_zip (hg : Gl X "zip") (hm : X.mg "zip" = none) (ha : QE X a n (RXm bb X.K) fa) (hb : QE X b n' (RXm bb X.K) fb) (hs : starEach [a, b] X.env = (false, eval a X.env) :: starEach [b] X.env) (hs2 : starEach [b] X.env = [(false, eval b X.env)]) :
    QI X (.Tuple elts kk tpos) (.Call (.Name "zip" p) [a, b] [] pos) (n + n') bb true (fun δ Q => fa δ fun x => fb δ fun y => ∃ l r, zipOk x y l r ∧ Q (.lst (List.zipWith (fun p q => .tup [p, q]) l r))) := fun E pins s σ H δ m Φ ht I er pl hf => by
  refine Call_ (ld_blt I hg hm PyProof.Rows.boot_zip (PyProof.Rows.callWith_type1 (thn (qa_two (R := RX bb) (fun _ _ v d e h => RX.ex (EXr.of e) h) ha hb hs hs2 pos E pins s σ H δ m (fun ds => zip2 ds fun d => (∃ l, iterD d = some l) ∧ Φ d) ht I er pl hf) fun us s1 ⟨t1, vs, H1, ds, I1, r1, st1, b1, q1⟩ => ?_) hs (plain2 hs2)))
  obtain ⟨v, w, d, e, rfl, rfl, h, h'⟩ := b1
  obtain ⟨l, r, zo, _, q⟩ := q1
  obtain ⟨u1, u2, rfl, ra, rb⟩ := r1.two
  have fresh5 : ∀ c ∈ [s1.heap.objs.size + 4, s1.heap.objs.size + 2, s1.heap.objs.size + 3, s1.heap.objs.size, s1.heap.objs.size + 1], FpOk X pins H1 c := by
    intro c hc
    have young : s1.heap.objs.size ≤ c := by
      simp only [List.mem_cons, List.not_mem_nil, or_false] at hc
      rcases hc with z | z | z | z | z <;> rw [z] <;> first | exact Nat.le_refl _ | exact Nat.le_add_right _ _
    exact I1.fpOk young (I1.hok.fresh young)
  have fin : l.length ≤ sizeLine → wpAny (model X.prog X.w) X.A (call (.type "zip") [u1, u2]) (fun w s2 => wpAny (model X.prog X.w) X.A (pyIter w) (PIE X pins σ (.Tuple elts kk tpos) fun J H' => H' = H1 ∧ Wlk X.K bb true H1 (List.zipWith (fun p q => .tup [p, q]) l r) J) E s2) E s1 →
      wpAny (model X.prog X.w) X.A (call (.type "zip") [u1, u2]) (fun w s2 => wpAny (model X.prog X.w) X.A (pyIter w) (PXI X pins σ (.Tuple elts kk tpos) (n + n') bb true H Φ) E s2) E s1 := fun hl0 hw =>
    px_of t1 hw fun w s2 t2 h2' => px_of t2 h2' fun w s3 t3 h3 => pxi_of t3 st1 (by rw [List.length_zipWith]; omega) rfl q h3
  rcases zo with ⟨rfl, rfl⟩ | ⟨rfl, rfl⟩
  · obtain ⟨a, vs, rfl, h1, h2, h3⟩ := h.lstAt
    obtain ⟨b, ws, rfl, k1, k2, k3⟩ := h'.lstAt
    obtain rfl : u1 = .ref a := ra
    obtain rfl : u2 = .ref b := rb
    obtain ⟨its, rv, p1, hz⟩ := I1.list h1
    obtain ⟨its2, rv2, p2, hz2⟩ := I1.list k1
    refine fin h3 (call_zip_2 p1.isList p2.isList fun hh hz hTI hTO e1 e2 hsz hk => wpAny_pyIter_zip hz ?_)
    have I2 : L2.Inv X pins σ H1 { s1 with heap := hh } := I1.kept (t' := s1.toks) hk
    exact ⟨s1.heap.objs.size + 4, [s1.heap.objs.size + 4, s1.heap.objs.size + 2, s1.heap.objs.size + 3, s1.heap.objs.size, s1.heap.objs.size + 1], _, _, H1, rfl, I2, turn_zip (PySem.W.ktu_apart s1.heap.objs.size a b p1.lt p2.lt), ⟨hz, hTI, ⟨_, _, hTO⟩, e1, e2⟩, fresh5, rfl, wlk_zipL h h'⟩
  · obtain ⟨a, vs, rfl, h1, h2, h3⟩ := h.tupAt
    obtain ⟨b, ws, rfl, k1, k2, k3⟩ := h'.tupAt
    obtain rfl : u1 = .ref a := ra
    obtain rfl : u2 = .ref b := rb
    obtain ⟨its, rv, p1, hz⟩ := I1.tuple h1
    obtain ⟨its2, rv2, p2, hz2⟩ := I1.tuple k1
    obtain ⟨o1, ho1, _⟩ := id p1
    obtain ⟨o2, ho2, _⟩ := id p2
    refine fin h3 (RZ.call_zipT (show s1.heap.IsTuple a its.toArray from p1) (show s1.heap.IsTuple b its2.toArray from p2) fun hh hz hTI hTO e1 e2 hsz hk => wpAny_pyIter_zip hz ?_)
    have I2 : L2.Inv X pins σ H1 { s1 with heap := hh } := I1.kept (t' := s1.toks) hk
    exact ⟨s1.heap.objs.size + 4, [s1.heap.objs.size + 4, s1.heap.objs.size + 2, s1.heap.objs.size + 3, s1.heap.objs.size, s1.heap.objs.size + 1], _, _, H1, rfl, I2, RZ.turn_zipT (PySem.W.ktu_apart s1.heap.objs.size a b (Heap.lt_size ho1) (Heap.lt_size ho2)), ⟨hz, hTI, ⟨_, _, hTO⟩, e1, e2⟩, fresh5, rfl, wlk_zipT h h'⟩
end
end SF

/-! D4f: list comprehensions. -/
namespace SF
open PySem PySem.Spec PyProof.Rows L2

/-! ### a target takes a value -/
/-- a written target for p -/
def TgOk (X : Cx) (tg : Expr) (p : P) : Prop := ∀ E, PG (X.wish E) tg (tgP X.K p)
theorem tg_run {X : Cx} {tg : Expr} {p : P} {z : Bool} (hz : z = true → isT p = true) (ht : TgOk X tg p) {E : Value → Shared → Prop} {pins : List (Addr × Obj)} {s : Shared} {σ : L2.St} {H : Hp} {δ : Env} {v : V} {u : Value} {d : Dat} {Φ : Env → Prop}
    (t0 : 0 < s.toks) (I : L2.Inv X pins σ H s) (er : EnvRep X.K σ H δ) (rv : L2.RelV v u) (r : YRep z X.K H v d) (hb : bindP p d δ Φ) :
    wpAny (model X.prog X.w) X.A (assign tg X.env u) (fun _ s' => 0 < s'.toks ∧ ∃ σ' δ', L2.Inv X pins σ' H s' ∧ EnvRep X.K σ' H δ' ∧ Φ δ' ∧ Kp (varsP p) σ δ σ' δ') E s := by
  refine px_of t0 ((ht E).run pins s σ H v u (fun σ' H' => H' = H ∧ ∃ δ', EnvRep X.K σ' H δ' ∧ Φ δ' ∧ Kp (varsP p) σ δ σ' δ') (I.wish E) rv (bind_tgY hz er r hb fun σ' δ' h1 h2 h3 => ⟨rfl, δ', h1, h2, h3⟩)) fun _ s' t ⟨σ', H', I', e, δ', h1, h2, h3⟩ => ?_
  subst e
  exact ⟨t, σ', δ', I'.unwish, h1, h2, h3⟩

/-- a clause's tests -/
def QTs (X : Cx) (ifs : List Expr) (n : Nat) (f : Env → (Bool → Prop) → Prop) : Prop :=
  ∀ (E : Value → Shared → Prop) (pins : List (Addr × Obj)) (s : Shared) (σ : L2.St) (H : Hp) (δ : Env) (m : Nat) (Φ : Bool → Prop), 0 < s.toks → L2.Inv X pins σ H s → EnvRep X.K σ H δ → PotLe (n + m) H → f δ Φ →
    wpAny (model X.prog X.w) X.A (forIn ifs true fun c r => if r = true then do let ok ← isTrue c X.env (eval c X.env); pure (ForInStep.yield ok) else pure (ForInStep.yield r)) (PXb X pins σ n H Φ) E s
theorem qts_nil {X : Cx} : QTs X [] 0 (fun _ Q => Q true) := fun E pins s σ H δ m Φ ht I er pl hf => wpAny_tests_nil ⟨ht, H, I, Step.refl H, hf⟩
theorem qts_one {X : Cx} {c : Expr} {n : Nat} {f : Env → (Bool → Prop) → Prop} (h : QT X c n f) : QTs X [c] n f := fun E pins s σ H δ m Φ ht I er pl hf => wpAny_tests_one (h E pins s σ H δ m Φ ht I er pl hf)

/-- a list at D, younger than H, is written -/
theorem Step.wrote {k : Nat} {H H' : Hp} {D : Addr} {ys : List V} (st : Step k H H') (hD : H D = none) : Step k H (L2.upd H' D (.lst ys)) := by
  refine ⟨fun a o h => ?_, fun m h => ?_⟩
  · have na : a ≠ D := fun e => by subst e; rw [hD] at h; cases h
    rcases st.ext a o h with q | ⟨q1, z, q⟩
    · exact .inl (by rw [upd_ne na]; exact q)
    · exact .inr ⟨q1, z, by rw [upd_ne na]; exact q⟩
  · have p := st.pot m h
    refine ⟨p.1, fun a z q => ?_⟩
    by_cases e : a = D
    · subst e; rw [upd_same] at q; exact absurd (Option.some.inj q) (fun w => nomatch w)
    · rw [upd_ne e] at q; exact p.2 a z q
theorem Ext.none {H H' : Hp} (e : Ext H H') {a : Addr} (h : H' a = none) : H a = none := by
  cases q : H a with
  | none => rfl
  | some o => rcases e a o q with z | ⟨_, z, y⟩ <;> simp_all
theorem Reps.snoc {K : PySem.W.Frag} {H : Hp} {vs : List V} {ds : List Dat} {v : V} {d : Dat} (h : Reps K H vs ds) (r : Rep K H v d) : Reps K H (vs ++ [v]) (ds ++ [d]) :=
  h.append (by rw [Reps, Reps]; exact ⟨r, trivial⟩)

section
variable {X : Cx}
theorem tkF {α : Type} {t : Sem α} {E : Value → Shared → Prop} {s : Shared} {Q : α → Shared → Prop} {A : Around} (ht : 0 < s.toks) (h : wpAny (model X.prog X.w) A t Q E s) : wpAny (model X.prog X.w) A t (fun a s' => 0 < s'.toks ∧ Q a s') E s := px_of ht h fun a s' t q => ⟨t, q⟩
/-- the turns' reading -/
def turnW (p : P) (δ0 : Env) (ft : Env → (Bool → Prop) → Prop) (fe : Env → (Dat → Prop) → Prop) (d : Dat) (K : Option Dat → Prop) : Prop :=
  bindP p d δ0 fun δ' => ft δ' fun k => if k = true then fe δ' fun y => K (some y) else K none
/-- a comprehension under way: s and H, its new list laid; s', its block begun; ce, the block's frame; fp, the cells of what it walks -/
structure Cmp (X : Cx) (pins : List (Addr × Obj)) (σ : L2.St) (ov : List Nat) (scope : Scope) (fp : List Addr) (H : Hp) (s s' : Shared) (ce : PySem.Env) : Prop where
  out : L2.Inv X pins σ H s
  inn : L2.Inv (X.blk s H scope ce fp) [] (wipe σ ov) H s'
  own : ∀ b ∈ fp, FpOk X pins H b
  here : ce.locals = s.heap.objs.size
  made : ∃ C cl, ce = compEnvC scope cl C X.env
/-- what is walked is the block's -/
theorem blk_fp {s s' : Shared} {σ : L2.St} {H H' : Hp} {scope : Scope} {ce : PySem.Env} {fp : List Addr} (I : L2.Inv (X.blk s H scope ce fp) [] σ H' s') (hn : ∀ b ∈ fp, H' b = none) : ∀ b ∈ fp, FpOk (X.blk s H scope ce fp) [] H' b := by
  intro b hb
  have ⟨a1, a2⟩ := I.ok.exf b hb
  refine ⟨hn b hb, a1, I.ok.exfs b hb, Or.inl hb, a2, ?_⟩
  simp
/-- behind the block the def goes on -/
theorem Cmp.back {pins : List (Addr × Obj)} {σ σ' : L2.St} {ov : List Nat} {scope : Scope} {fp : List Addr} {H H' : Hp} {s s' s'' : Shared} {ce : PySem.Env} (c : Cmp X pins σ ov scope fp H s s' ce) (I : L2.Inv (X.blk s H scope ce fp) [] σ' H' s'') :
    L2.Inv X pins σ H' s'' ∧ FpOk X pins H' ce.locals ∧ ∃ m, s''.heap.Ns ce.locals m := by
  refine ⟨?_, ?_, I.loc.imp fun m h => h.1⟩
  · refine c.out.call' (ch := fp) I.os I.base I.hok I.bare ?_
    intro b hb
    obtain ⟨_, k1, _, k2, k3, k4⟩ := c.own b hb
    exact ⟨k2, k1, k3, k4⟩
  · refine c.out.fpOk ?_ I.free
    rw [c.here]
    exact Nat.le_refl _
/-- a turn's pins let go: the walk stands where it stood -/
theorem unpin {B : Cx} {pl : List (Addr × Obj)} {σ σ' : L2.St} {H' : Hp} {s' : Shared} {P : Program} {w : World} {K : PySem.W.Frag} {tg : Expr} {J : It} {fp : List Addr} {it : Addr} {tn : Nat → Heap → Prop} {j : Nat} {h7 : Heap} (T : Turn P w K tg J fp it tn) (st : tn j h7) (I : L2.Inv B (pl ++ pinsAt fp h7) σ H' s')
    (hl : σ'.length = σ.length) (hw : ∀ (i : Nat) v, σ'[i]? = some (some v) → σ[i]? = some (some v)) : L2.Inv B pl σ' H' s' ∧ tn j s'.heap ∧ ∀ b ∈ fp, H' b = none := by
  have p : ∀ b ∈ fp, ∃ o, h7.get? b = some o ∧ s'.heap.get? b = some o ∧ H' b = none := by
    intro b hb
    obtain ⟨o, e, _⟩ := T.obj j h7 st b hb
    have q := I.pin (b, o) (by simp [mem_pinsAt hb e])
    exact ⟨o, e, q.1, q.2.1⟩
  refine ⟨I.unpinned.weak hl hw, T.keep j h7 s'.heap st ?_, fun b hb => (p b hb).choose_spec.2.2⟩
  intro b hb o e
  obtain ⟨o', e', f, _⟩ := p b hb
  rw [e] at e'
  cases e'
  exact f
/-- a comprehension, up to its loop -/
theorem comp_go {pins : List (Addr × Obj)} {s : Shared} {σ : L2.St} {H : Hp} {elt tg iter : Expr} {ifs : List Expr} {gs : List Comprehension} {scope : Scope} {own : List (Str × Nat)} {pos pos' : Pos} {use : Option (Value → Sem Unit)} {Qf : Value → Shared → Prop} {E : Value → Shared → Prop}
    {Go : It → Hp → Prop} (hN : X.N.Nodup) (I : L2.Inv X pins σ H s) (ok : BlkOk X.N X.env.scope scope own) (hs : ∀ x, foldedSetIterable iter X.env x = pure x)
    (first : wpAny (model X.prog X.w) X.A (eval iter X.env) (fun v s1 => wpAny (model X.prog X.w) X.A (pyIter v) (fun itv s2 => ∃ it fp tn J H2, itv = .ref it ∧ 0 < s2.toks ∧ L2.Inv X pins σ H2 s2 ∧ Turn X.prog X.w X.K tg J fp it tn ∧ tn 0 s2.heap ∧ (∀ b ∈ fp, FpOk X pins H2 b) ∧ Go J H2) E s1) E s)
    (loop : ∀ it fp tn J H2 D s3 s4 ce, Go J H2 → Turn X.prog X.w X.K tg J fp it tn → H2 D = none → Cmp X pins σ (own.map (·.2)) scope fp (L2.upd H2 D (.lst [])) s3 s4 ce → tn 0 s4.heap → 0 < s4.toks →
      codeAny (model X.prog X.w) X.A (.compLoop (.ListComp elt (⟨tg, iter, ifs, 0⟩ :: gs) scope pos) 0 (.ref it) (.ref D) ce) (compPost (model X.prog X.w) X.A E use Qf (.ref D) ce.locals) s4) :
    wpAny (model X.prog X.w) X.A (comprehension (.ListComp elt (⟨tg, iter, ifs, 0⟩ :: gs) scope pos) scope X.env pos' (newList []) false (eval iter X.env) use) Qf E s := by
  have clo : closureFor scope X.env = pure (cloFrom X.env.cells scope.names []) := by
    refine closure_ok ?_
    intro y hy e
    exact I.ok.has _ (ok.free y hy e)
  refine wpAny_comprehension_free rfl hs clo ok.kind ?_ (thn first ?_)
  · intro y hy e
    rw [← e]
    exact ok.uniq y hy
  intro v s1 h1
  refine thn h1 ?_
  rintro itv s2 ⟨it, fp, tn, J, H2, rfl, ht, I2, T, st, f2, go⟩
  have Dn := I2.hok.fresh (Nat.le_refl s2.heap.objs.size)
  have I3 := I2.lnew (t' := s2.toks) (ys := []) (its := []) .nil (Nat.zero_le _)
  have f3 : ∀ b ∈ fp, FpOk X pins (L2.upd H2 s2.heap.objs.size (.lst [])) b ∧ b < (s2.heap.push (seqObj "list" ([] : List Value).toArray 0)).objs.size := by
    intro b hb
    obtain ⟨o, e, _⟩ := T.obj 0 _ st b hb
    have lt := Heap.lt_size e
    obtain ⟨k0, k⟩ := f2 b hb
    refine ⟨⟨?_, k⟩, ?_⟩
    · rw [upd_ne (Nat.ne_of_lt lt)]
      exact k0
    · rw [Heap.size_push]
      exact Nat.lt_succ_of_lt lt
  refine wpAny_newObj_type ?_ (Nat.zero_le _)
  refine newEnv_comp ?_
  have st4 : tn 0 (pushCells ((s2.heap.push (seqObj "list" ([] : List Value).toArray 0)).push { cls := .type "dict", data := .dict #[] }) scope.names) := by
    refine T.keep 0 _ _ st ?_
    intro b _ o e
    exact pushCells_keeps _ _ _ _ (Heap.get?_push_of_some _ (Heap.get?_push_of_some _ e))
  have L := loop it fp tn J H2 s2.heap.objs.size _ _ _ go T Dn ⟨I3, block_start I3 ok hN f3, fun b hb => (f3 b hb).1, rfl, _, _, rfl⟩ st4 ht
  exact codeAny_compStart_list L (T.self X.A 0 _ _ _ st4 L)
/-- a comprehension of one clause, whatever brought its iterator -/
theorem lc_from {pins : List (Addr × Obj)} {s : Shared} {σ : L2.St} {H : Hp} {δ : Env} {m : Nat} {Φ : List Dat → Prop} {elt tg iter : Expr} {ifs : List Expr} {scope : Scope} {own : List (Str × Nat)} {pos pos' : Pos} {p : P} {z : Bool} {n n1 n2 : Nat}
    {fe : Env → (Dat → Prop) → Prop} {ft : Env → (Bool → Prop) → Prop} {use : Option (Value → Sem Unit)} {Qf : Value → Shared → Prop} {E : Value → Shared → Prop}
    (hc : X.calm = true) (hN : X.N.Nodup) (I : L2.Inv X pins σ H s) (er : EnvRep X.K σ H δ) (pl : PotLe (n + sizeLine * (n1 + n2) + m) H) (ok : BlkOk X.N X.env.scope scope own) (hz : z = true → isT p = true) (hv : ∀ i ∈ varsP p, i ∈ own.map (·.2))
    (hg : ∀ (s : Shared) (H : Hp) (C : Addr) (cl : List (Str × Addr)) (fp : List Addr), TgOk (X.blk s H scope (compEnvC scope cl C X.env) fp) tg p) (ht : ∀ (s : Shared) (H : Hp) (C : Addr) (cl : List (Str × Addr)) (fp : List Addr), QTs (X.blk s H scope (compEnvC scope cl C X.env) fp) ifs n1 ft)
    (he : ∀ (s : Shared) (H : Hp) (C : Addr) (cl : List (Str × Addr)) (fp : List Addr), QE (X.blk s H scope (compEnvC scope cl C X.env) fp) elt n2 (RV X.K) fe) (hs : ∀ x, foldedSetIterable iter X.env x = pure x)
    (first : wpAny (model X.prog X.w) X.A (eval iter X.env) (fun v s1 => wpAny (model X.prog X.w) X.A (pyIter v) (PXI X pins σ tg n true z H fun x => ∃ ds, iterD x = some ds ∧ mapW (turnW p (wipeD δ (own.map (·.2))) ft fe) ds Φ) E s1) E s)
    (hRR : ∀ D C s' m' H' ys, 0 < s'.toks → L2.Inv X pins σ H' s' → Step (n + sizeLine * (n1 + n2)) H H' → H D = none → Own X.K H' D (.lst ys) → Φ ys → s'.heap.Ns C m' → FpOk X pins H' C → compPost (model X.prog X.w) X.A E use Qf (.ref D) C (.ok .next) s') :
    wpAny (model X.prog X.w) X.A (comprehension (.ListComp elt [⟨tg, iter, ifs, 0⟩] scope pos) scope X.env pos' (newList []) false (eval iter X.env) use) Qf E s := by
  refine comp_go (Go := fun J H2 => Step n H H2 ∧ ∃ ds, Wlk X.K true z H2 ds J ∧ ds.length ≤ sizeLine ∧ mapW (turnW p (wipeD δ (own.map (·.2))) ft fe) ds Φ) hN I ok hs (thn first fun v s1 h1 => thn h1 fun itv s2 h2 => ?_) ?_
  · obtain ⟨t2, it, fp, tn, J, H2, d, ds, e, I2, T, st, f, stp, wk, hl, hd, ds', hd', q⟩ := h2
    rw [hd] at hd'
    cases hd'
    exact ⟨it, fp, tn, J, H2, e, t2, I2, T, st, f, stp, ds, wk, hl, q⟩
  rintro it fp tn J H2 D s3 s4 ce ⟨stp, ds, wk, hlen, q⟩ T hDn c st4 t4
  obtain ⟨C, cl, rfl⟩ := c.made
  have pg := hg s3 (L2.upd H2 D (.lst [])) C cl fp
  have pt := ht s3 (L2.upd H2 D (.lst [])) C cl fp
  have pe := he s3 (L2.upd H2 D (.lst [])) C cl fp
  have nfp : ∀ b ∈ fp, (L2.upd H2 D (.lst [])) b = none := fun b hb => (c.own b hb).1
  generalize compEnvC scope cl C X.env = ce at c pg pt pe ⊢
  have stH3 : Step 0 H2 (L2.upd H2 D (.lst [])) := (Step.refl H2).wrote hDn
  have eD : (L2.upd H2 D (.lst [])) D = some (.lst []) := upd_same
  generalize L2.upd H2 D (.lst []) = H3 at c pg pt pe nfp stH3 eD
  have I4 := c.inn
  have er0 : EnvRep X.K (wipe σ (own.map (·.2))) H2 (wipeD δ (own.map (·.2))) := (er.ext stp.ext).wipe _
  have plB : PotLe (sizeLine * (n1 + n2)) H2 := stp.pot _ (pl.mono (by omega))
  generalize own.map (·.2) = ov at *
  refine compLoop_any (fun k s' => ∃ i H' acc ys, 0 < s'.toks ∧ (L2.Inv (X.blk s3 H3 scope ce fp) [] (wipe σ ov) H' s' ∧ tn i s'.heap ∧ ∀ b ∈ fp, H' b = none) ∧ k = ds.length - i ∧ i ≤ ds.length ∧ Step (i * (n1 + n2)) H2 H' ∧ H' D = some (.lst acc) ∧ Reps X.K H' acc ys ∧ ys.length ≤ i ∧
    mapW (turnW p (wipeD δ ov) ft fe) (ds.drop i) fun r => Φ (ys ++ r)) ?_ ds.length ⟨0, H3, [], [], t4, ⟨I4, st4, nfp⟩, rfl, Nat.zero_le _, by rw [Nat.zero_mul]; exact stH3, eD, by rw [Reps]; trivial, Nat.zero_le _, q⟩
  rintro k s5 ⟨i, H5, acc, ys, t5, ⟨I5, st5, n5⟩, rfl, hik, sp5, hD5, ra5, hy5, q5⟩
  by_cases hlt : i < ds.length
  · have e0 : ds.drop i = ds[i] :: ds.drop (i + 1) := List.drop_eq_getElem_cons hlt
    rw [e0] at q5
    refine thnF (tkF (X := X) t5 (T.item (X.blk s3 H3 scope ce fp) rfl rfl rfl hc i [] s5 _ H5 (fun _ _ => False) I5 (blk_fp I5 n5) st5 (wk.go H5 i (EXr.of sp5.ext) hlt))) fun r s6 ⟨t6, u, hr, h6⟩ => ?_
    subst hr
    refine thnF (tkF (X := X) t6 h6) fun _ s7 ⟨t7, x, H7, I7, r7, y7, st7, n7⟩ => ?_
    obtain ⟨sp7, yr⟩ := wk.yld H5 i x H7 _ (EXr.of sp5.ext) (List.getElem?_eq_getElem hlt) y7
    have I7' := I7.pinned (blk_fp I7 n7) (T.obj _ _ st7)
    have sp7' : Step (i * (n1 + n2)) H2 H7 := (sp5.trans sp7).mono (by omega)
    have q5 : turnW p (wipeD δ ov) ft fe ds[i] _ := q5
    unfold turnW at q5
    refine thnF (tg_run hz pg t7 I7' (er0.ext sp7'.ext) r7 yr q5) fun _ s8 ⟨t8, σ8, δ8, I8, er8, q8, k8⟩ => ?_
    have hle : (i + 1) * (n1 + n2) ≤ sizeLine * (n1 + n2) := Nat.mul_le_mul_right _ (by omega)
    rw [Nat.succ_mul] at hle
    refine thnF (pt _ _ s8 σ8 H7 δ8 (n2 + 0) _ t8 I8 er8 (sp7'.pot _ (plB.mono (by omega))) q8) fun b s9 ⟨t9, H9, I9, sp9, q9⟩ => ?_
    have wst : wipe σ8 ov = wipe σ ov := by rw [k8.2 ov hv, wipe_wipe]
    have wl : (wipe σ ov).length = σ8.length := by rw [← wst, wipe_length]
    have ww : ∀ (j : Nat) v, (wipe σ ov)[j]? = some (some v) → σ8[j]? = some (some v) := fun j v e => (wipe_some (by rw [wst]; exact e)).1
    cases b with
    | false =>
      have e9 := sp7.ext.trans sp9.ext
      exact ⟨_, Nat.sub_succ_lt_self _ _ hlt, i + 1, H9, acc, ys, t9, unpin T st7 I9 wl ww, rfl, hlt, (sp7'.trans sp9).mono (by rw [Nat.succ_mul]; omega), e9.keep hD5 (fun _ q => nomatch q), Reps.ext e9 _ _ ra5, by omega, q9⟩
    | true =>
      refine thnF (pe _ _ s9 σ8 H9 δ8 0 _ t9 I9 (er8.ext sp9.ext) ((sp7'.trans sp9).pot _ (plB.mono (by omega))) q9) fun zv s10 ⟨t10, yv, H10, dy, I10, r10, sp10, b10, q10⟩ => ?_
      have e10 := (sp7.ext.trans sp9.ext).trans sp10.ext
      have hD10 : H10 D = some (.lst acc) := e10.keep hD5 fun _ q => nomatch q
      have hacc : acc.length < sizeLine := by rw [ra5.length]; omega
      have b10 : Rep X.K H10 yv dy := b10
      refine px_of (X := X) t10 (app_ok (X := X.blk s3 H3 scope ce fp) (Q := fun _ s11 => L2.Inv (X.blk s3 H3 scope ce fp) ([] ++ pinsAt fp s7.heap) σ8 (L2.upd H10 D (.lst (acc ++ [yv]))) s11) I10 hD10 hacc r10 fun s11 I11 => I11) fun _ s11 t11 I11 => ?_
      have q10 : mapW (turnW p (wipeD δ ov) ft fe) (ds.drop (i + 1)) (fun r => Φ (ys ++ (dy :: r))) := q10
      exact ⟨_, Nat.sub_succ_lt_self _ _ hlt, i + 1, _, _, ys ++ [dy], t11, unpin T st7 I11 wl ww, rfl, hlt, (((sp7'.trans sp9).trans sp10).mono (by rw [Nat.succ_mul]; omega)).wrote hDn, upd_same, Reps.wr (.inl ⟨_, rfl⟩) _ hD10 _ _ ((Reps.ext e10 _ _ ra5).snoc b10), by simp; omega, by simpa using q10⟩
  · have ei : i = ds.length := by omega
    subst ei
    refine thnF (tkF (X := X) t5 (T.done (X.blk s3 H3 scope ce fp) rfl rfl rfl hc ds.length [] s5 _ H5 (fun _ _ => False) I5 (blk_fp I5 n5) st5 (wk.stop H5 (EXr.of sp5.ext)))) fun r s6 ⟨t6, hr, I6⟩ => ?_
    subst hr
    obtain ⟨I7, fC, m', hn⟩ := c.back I6
    rw [List.drop_length] at q5
    have q5 : Φ (ys ++ []) := q5
    rw [List.append_nil] at q5
    have hmul : ds.length * (n1 + n2) ≤ sizeLine * (n1 + n2) := Nat.mul_le_mul_right _ hlen
    exact hRR D ce.locals s6 m' H5 ys t6 I7 ((stp.trans sp5).mono (by omega)) (stp.ext.none hDn) ⟨acc, hD5, by omega, ra5⟩ q5 hn fC
theorem lc_run {pins : List (Addr × Obj)} {s : Shared} {σ : L2.St} {H : Hp} {δ : Env} {m : Nat} {Φ : List Dat → Prop} {elt tg iter : Expr} {ifs : List Expr} {scope : Scope} {own : List (Str × Nat)} {pos pos' : Pos} {p : P} {z : Bool} {n n1 n2 : Nat}
    {fi fe : Env → (Dat → Prop) → Prop} {ft : Env → (Bool → Prop) → Prop} {use : Option (Value → Sem Unit)} {Qf : Value → Shared → Prop} {E : Value → Shared → Prop}
    (hc : X.calm = true) (hN : X.N.Nodup) (t0 : 0 < s.toks) (I : L2.Inv X pins σ H s) (er : EnvRep X.K σ H δ) (pl : PotLe (n + sizeLine * (n1 + n2) + m) H) (hi : QI X tg iter n true z fi) (ok : BlkOk X.N X.env.scope scope own) (hz : z = true → isT p = true) (hv : ∀ i ∈ varsP p, i ∈ own.map (·.2))
    (hg : ∀ (s : Shared) (H : Hp) (C : Addr) (cl : List (Str × Addr)) (fp : List Addr), TgOk (X.blk s H scope (compEnvC scope cl C X.env) fp) tg p) (ht : ∀ (s : Shared) (H : Hp) (C : Addr) (cl : List (Str × Addr)) (fp : List Addr), QTs (X.blk s H scope (compEnvC scope cl C X.env) fp) ifs n1 ft)
    (he : ∀ (s : Shared) (H : Hp) (C : Addr) (cl : List (Str × Addr)) (fp : List Addr), QE (X.blk s H scope (compEnvC scope cl C X.env) fp) elt n2 (RV X.K) fe) (hs : ∀ x, foldedSetIterable iter X.env x = pure x)
    (h : fi δ fun x => ∃ ds, iterD x = some ds ∧ mapW (turnW p (wipeD δ (own.map (·.2))) ft fe) ds Φ) (mfi : ∀ δ, Mono (fi δ))
    (hRR : ∀ D C s' m' H' ys, 0 < s'.toks → L2.Inv X pins σ H' s' → Step (n + sizeLine * (n1 + n2)) H H' → H D = none → Own X.K H' D (.lst ys) → Φ ys → s'.heap.Ns C m' → FpOk X pins H' C → compPost (model X.prog X.w) X.A E use Qf (.ref D) C (.ok .next) s') :
    wpAny (model X.prog X.w) X.A (comprehension (.ListComp elt [⟨tg, iter, ifs, 0⟩] scope pos) scope X.env pos' (newList []) false (eval iter X.env) use) Qf E s :=
  lc_from hc hN I er pl ok hz hv hg ht he hs (hi E pins s σ H δ (sizeLine * (n1 + n2) + m) _ t0 I er (pl.mono (by omega)) (mfi δ _ _ (fun _ ⟨ds, q1, q2⟩ => ⟨⟨ds, q1⟩, ds, q1, q2⟩) h)) hRR
end
end SF

/-! D4g: list(zip(a, b)). -/
namespace SF
open PySem PySem.Spec PyProof.Rows L2
/-- an iterator at it over the items xs; cells: what it stands on -/
structure Nx (prog : Program) (w : World) (it : Addr) (cells : List Addr) (xs : Array Value) (St : Nat → Heap → Prop) : Prop where
  item : ∀ {A : Around} {E : Value → Shared → Prop} {s : Shared} {i : Nat} {x : Value} {Q : Value → Shared → Prop}, St i s.heap → xs[i]? = some x → (∀ h', St (i + 1) h' → Heap.ExtBut it s.heap h' → h'.objs.size = s.heap.objs.size → Q x { s with heap := h' }) → wpAny (model prog w) A (Builtin.SmallTypes.nextOf (.ref it)) Q E s
  stop : ∀ {A : Around} {E : Value → Shared → Prop} {s : Shared} {i : Nat} {Q : Value → Shared → Prop}, A.handled = none → St i s.heap → xs[i]? = none → (∀ h' e, Heap.ExtBut it s.heap h' → (∃ o, h'.get? e = some o ∧ o.cls = .type "StopIteration") → E (.ref e) { s with heap := h' }) → wpAny (model prog w) A (Builtin.SmallTypes.nextOf (.ref it)) Q E s
  keep : ∀ {i : Nat} {h h' : Heap}, St i h → (∀ b ∈ cells, ∀ o, h.get? b = some o → h'.get? b = some o) → St i h'
theorem Nx.but {prog : Program} {w : World} {it : Addr} {cells : List Addr} {xs : Array Value} {St : Nat → Heap → Prop} (n : Nx prog w it cells xs St) {i : Nat} {h h' : Heap} {b : Addr} (s : St i h) (hb : b ∉ cells) (k : Heap.ExtBut b h h') : St i h' :=
  n.keep s fun c hc o e => k c o (fun z => hb (z ▸ hc)) e
theorem nx_tup {prog : Program} {w : World} {it l : Addr} {xs : Array Value} (ne : l ≠ it) : Nx prog w it [it, l] xs (fun i h => h.IsTupleIter it l i ∧ h.IsTuple l xs) where
  item := fun st hx hQ => RZ.nextOf_tuple_item st.1 st.2 hx fun h' a b => hQ h' ⟨a, st.2.extBut b.extBut ne⟩ b.extBut b.1
  stop := fun hh st hx hE => RZ.nextOf_tuple_end hh st.1 st.2 hx hE
  keep := fun st k => ⟨st.1.at fun o e => k it (by simp) o e, st.2.at fun o e => k l (by simp) o e⟩
theorem nx_lst {prog : Program} {w : World} {it l : Addr} {xs : Array Value} (ne : l ≠ it) : Nx prog w it [it, l] xs (fun i h => h.IsListIter it l i ∧ h.IsList l xs) where
  item := fun st hx hQ => wpAny_nextOf_list_item st.1 st.2 hx fun h' a b => hQ h' ⟨a, st.2.extBut b.extBut ne⟩ b.extBut b.1
  stop := fun hh st hx hE => wpAny_nextOf_list_end hh st.1 st.2 hx hE
  keep := fun st k => ⟨st.1.at fun o e => k it (by simp) o e, st.2.at fun o e => k l (by simp) o e⟩
section
variable {prog : Program} {w : World} {A : Around} {E : Value → Shared → Prop} {s : Shared} {z TI TO T i1 i2 : Addr} {c1 c2 : List Addr} {xs ys : Array Value} {S1 S2 : Nat → Heap → Prop} {f : Bool} {oT : Obj} {k : Nat}
/-- a zip's next pair, made anew while the last one is out -/
theorem zip_more {x y : Value} {Q : PySem.Fin → Shared → Prop} (n1 : Nx prog w i1 c1 xs S1) (n2 : Nx prog w i2 c2 ys S2) (d : z ∉ c1 ∧ z ∉ c2 ∧ i1 ∉ c2 ∧ i2 ∉ c1 ∧ z ≠ i1 ∧ z ≠ i2)
    (hz : IsZipHeld s.heap z TI TO T f) (hT : s.heap.get? T = some oT) (hTI : IsPair s.heap TI (.ref i1) (.ref i2)) (a1 : S1 k s.heap) (a2 : S2 k s.heap) (hx : xs[k]? = some x) (hy : ys[k]? = some y)
    (hQ : ∀ h', IsZipHeld h' z TI TO T true → S1 (k + 1) h' → S2 (k + 1) h' → h'.objs.size = s.heap.objs.size → (∀ c o, c ∉ [z, i1, i2] → s.heap.get? c = some o → h'.get? c = some o) →
      Q (.done (.ret (.ref h'.objs.size))) { s with heap := h'.push { cls := .type "tuple", data := .seq #[x, y] } }) :
    wpAny (model prog w) A (Builtin.«zip.__next__» ⟨[.ref z], []⟩) Q E s := by
  obtain ⟨d1, d2, d3, d4, d5, d6⟩ := d
  unfold Builtin.«zip.__next__»
  wp_walk using wpAny_field hz rfl (x := .bool false) rfl, wpAny_field hz rfl (x := .ref TI) rfl, wpAny_seqItems hTI rfl, wpAny_tupleHeld_zip hz hT
  intro h1 z1 k1
  rw [if_neg Bool.false_ne_true]
  simp only [← Array.forIn_toList, List.forIn_cons, List.forIn_nil]
  wp_walk using n1.item (n1.but a1 d1 k1.extBut) hx
  intro h2 b2 k2 e2
  wp_walk using n2.item (n2.but (n2.but a2 d2 k1.extBut) d3 k2) hy
  intro h3 b3 k3 e3
  have last := hQ h3 (k3 _ _ d6 (k2 _ _ d5 z1)) (n1.but b2 d4 k3) b3 (e3.trans (e2.trans k1.1)) fun c o hc e => by
    simp only [List.mem_cons, List.not_mem_nil, or_false, not_or] at hc
    exact k3 c o hc.2.2 (k2 c o hc.2.1 (k1.extBut c o hc.1 e))
  wp_walk
  exact last
/-- .. and its end -/
theorem zip_over {Q : PySem.Fin → Shared → Prop} (hh : A.handled = none) (n1 : Nx prog w i1 c1 xs S1) (n2 : Nx prog w i2 c2 ys S2) (d : z ∉ c1 ∧ z ∉ c2 ∧ i1 ∉ c2 ∧ i2 ∉ c1 ∧ z ≠ i1 ∧ z ≠ i2)
    (hz : IsZipHeld s.heap z TI TO T f) (hT : s.heap.get? T = some oT) (hTI : IsPair s.heap TI (.ref i1) (.ref i2)) (a1 : S1 k s.heap) (a2 : S2 k s.heap) (he : xs[k]? = none ∨ ys[k]? = none)
    (hE : ∀ h' e, (∀ c o, c ∉ [z, i1, i2] → s.heap.get? c = some o → h'.get? c = some o) → (∃ o, h'.get? e = some o ∧ o.cls = .type "StopIteration") → E (.ref e) { s with heap := h' }) :
    wpAny (model prog w) A (Builtin.«zip.__next__» ⟨[.ref z], []⟩) Q E s := by
  obtain ⟨d1, d2, d3, d4, d5, d6⟩ := d
  unfold Builtin.«zip.__next__»
  wp_walk using wpAny_field hz rfl (x := .bool false) rfl, wpAny_field hz rfl (x := .ref TI) rfl, wpAny_seqItems hTI rfl, wpAny_tupleHeld_zip hz hT
  intro h1 z1 k1
  rw [if_neg Bool.false_ne_true]
  simp only [← Array.forIn_toList, List.forIn_cons, List.forIn_nil]
  cases hx : xs[k]? with
  | none =>
    wp_walk using n1.stop hh (n1.but a1 d1 k1.extBut) hx
    intro h2 e k2 ho
    refine hE h2 e (fun c o hc q => ?_) ho
    simp only [List.mem_cons, List.not_mem_nil, or_false, not_or] at hc
    exact k2 c o hc.2.1 (k1.extBut c o hc.1 q)
  | some x =>
    have hy : ys[k]? = none := by
      rcases he with q | q
      · rw [hx] at q; cases q
      · exact q
    wp_walk using n1.item (n1.but a1 d1 k1.extBut) hx
    intro h2 b2 k2 e2
    wp_walk using n2.stop hh (n2.but (n2.but a2 d2 k1.extBut) d3 k2) hy
    intro h3 e k3 ho
    refine hE h3 e (fun c o hc q => ?_) ho
    simp only [List.mem_cons, List.not_mem_nil, or_false, not_or] at hc
    exact k3 c o hc.2.2 (k2 c o hc.2.1 (k1.extBut c o hc.1 q))
end
end SF

/-! D4h: list(zip(a, b)) by values. -/
namespace SF
open PySem PySem.Spec PyProof.Rows L2
/-- an iterator that hands out new pairs, while a list at S is written -/
structure ZLaw (prog : Program) (w : World) (z S : Addr) (fp : List Addr) (xs ys : Array Value) (St : Nat → Heap → Prop) : Prop where
  item : ∀ (A : Around) (E : Value → Shared → Prop) (s : Shared) (i : Nat) (x y : Value) (Q : Option Value → Shared → Prop), St i s.heap → S < s.heap.objs.size → xs[i]? = some x → ys[i]? = some y →
    (∀ h', St (i + 1) h' → IsPair h' s.heap.objs.size x y → (∀ c o, c ∉ fp → s.heap.get? c = some o → h'.get? c = some o) → Q (some (.ref s.heap.objs.size)) { s with heap := h' }) → wpAny (model prog w) A (pyNext (.ref z)) Q E s
  done : ∀ (A : Around) (E : Value → Shared → Prop) (s : Shared) (i : Nat) (Q : Option Value → Shared → Prop), A.handled = none → St i s.heap → (xs[i]? = none ∨ ys[i]? = none) →
    (∀ h', (∀ c o, c ∉ fp → s.heap.get? c = some o → h'.get? c = some o) → Q none { s with heap := h' }) → wpAny (model prog w) A (pyNext (.ref z)) Q E s
  keep : ∀ (i : Nat) (h h' : Heap), St i h → (∀ b o, b ≠ S → h.get? b = some o → h'.get? b = some o) → St i h'
  off : S ∉ fp
  inn : z ∈ fp
  low : ∀ (i : Nat) (h : Heap), St i h → ∀ b ∈ fp, b < h.objs.size
  typ : ∀ (i : Nat) (h : Heap), St i h → ∃ o, h.get? z = some o ∧ o.cls = .type "zip"
  self : ∀ (A : Around) (s : Shared) (Q : Value → Shared → Prop) (E : Value → Shared → Prop), St 0 s.heap → Q (.ref z) s → wpAny (model prog w) A (pyIter (.ref z)) Q E s
def ZNum (xs ys : Array Value) : Nat := min xs.size ys.size
/-- i pairs are in the list at S; what stood in h₁ stands but for S and the walk's own cells -/
structure Lz (xs ys : Array Value) (S lo : Addr) (fp : List Addr) (St : Nat → Heap → Prop) (h₁ : Heap) (i : Nat) (h : Heap) (as : List Addr) : Prop where
  st : St i h
  lst : ∃ c, h.get? S = some { cls := .type "list", data := .seq (as.map Value.ref).toArray c }
  len : as.length = i
  old : ∀ b o, b ≠ S → b ∉ fp → h₁.get? b = some o → h.get? b = some o
  new : ∀ (j : Nat) (a : Addr), as[j]? = some a → lo < a ∧ ∃ x y, xs[j]? = some x ∧ ys[j]? = some y ∧ IsPair h a x y
  ris : as.Pairwise (· < ·)
  big : lo < h.objs.size
theorem Lz.there {xs ys : Array Value} {S lo : Addr} {fp : List Addr} {St : Nat → Heap → Prop} {h₁ h : Heap} {i : Nat} {as : List Addr} (g : Lz xs ys S lo fp St h₁ i h as) : ∀ a ∈ as, a < h.objs.size := by
  intro a ha
  obtain ⟨j, hj⟩ := List.getElem?_of_mem ha
  obtain ⟨_, _, _, _, _, p⟩ := g.new j a hj
  exact Heap.lt_size p
section
variable {prog : Program} {w : World} {A : Around} {s : Shared} {R : Result → Shared → Prop} {z S lo : Addr} {fp : List Addr} {xs ys : Array Value} {St : Nat → Heap → Prop}
/-- one pair more -/
theorem Lz.more {h₁ h h' : Heap} {i : Nat} {as : List Addr} {x y : Value} (L : ZLaw prog w z S fp xs ys St) (hlo : ∀ b ∈ fp, b ≤ lo) (hS : S ≤ lo) (g : Lz xs ys S lo fp St h₁ i h as) (hx : xs[i]? = some x) (hy : ys[i]? = some y) (st : St (i + 1) h') (p : IsPair h' h.objs.size x y)
    (k : ∀ c o, c ∉ fp → h.get? c = some o → h'.get? c = some o) : Lz xs ys S lo fp St h₁ (i + 1) (h'.update S (Obj.mapSeq (·.push (Value.ref h.objs.size)))) (as ++ [h.objs.size]) := by
  obtain ⟨c, hc⟩ := g.lst
  have sl : S < h.objs.size := Heap.lt_size hc
  have up : ∀ b o, b ≠ S → h'.get? b = some o → (h'.update S (Obj.mapSeq (·.push (Value.ref h.objs.size)))).get? b = some o := by
    intro b o hb e
    rw [Heap.get?_update_other _ _ (Ne.symm hb)]
    exact e
  have pz := up _ _ (Nat.ne_of_gt sl) p
  constructor
  · exact L.keep _ _ _ st up
  · have q := Heap.get?_update_self (Obj.mapSeq (·.push (Value.ref h.objs.size))) (k S _ L.off hc) rfl
    have e : (as ++ [h.objs.size]).map Value.ref = as.map Value.ref ++ [Value.ref h.objs.size] := List.map_append
    rw [e]
    exact ⟨_, by simpa [Obj.mapSeq] using q⟩
  · rw [List.length_append, g.len]
    rfl
  · intro b o b1 b2 e
    exact up b o b1 (k b o b2 (g.old b o b1 b2 e))
  · intro j a hj
    by_cases lt : j < as.length
    · rw [List.getElem?_append_left lt] at hj
      obtain ⟨l1, x', y', q1, q2, q3⟩ := g.new j a hj
      refine ⟨l1, x', y', q1, q2, up a _ (Nat.ne_of_gt (Nat.lt_of_le_of_lt hS l1)) (k a _ ?_ q3)⟩
      intro hm
      exact absurd (hlo a hm) (Nat.not_le_of_lt l1)
    · rw [List.getElem?_append_right (Nat.le_of_not_lt lt)] at hj
      have j0 : j - as.length = 0 := by
        cases q : j - as.length with
        | zero => rfl
        | succ n => rw [q] at hj; cases hj
      have je : j = i := by have := g.len; omega
      rw [j0] at hj
      cases hj
      subst je
      exact ⟨g.big, x, y, hx, hy, pz⟩
  · rw [List.pairwise_append]
    refine ⟨g.ris, List.pairwise_singleton _ _, ?_⟩
    intro a ha b hb
    rw [List.mem_singleton.mp hb]
    exact g.there a ha
  · exact Nat.lt_trans g.big (Heap.lt_size pz)
theorem zl_loop (L : ZLaw prog w z S fp xs ys St) (hh : A.handled = none) (hn : xs.size ≤ sizeLine) (res : Value) (hlo : ∀ b ∈ fp, b ≤ lo) (hS : S ≤ lo) {h₁ : Heap}
    (hR : ∀ (h h' : Heap) as, Lz xs ys S lo fp St h₁ (ZNum xs ys) h as → (∀ c o, c ∉ fp → h.get? c = some o → h'.get? c = some o) → R (.ok (.ret res)) { s with heap := h' }) :
    ∀ (m i : Nat) (h : Heap) (as : List Addr), i + m = ZNum xs ys → Lz xs ys S lo fp St h₁ i h as → codeAny (model prog w) A (.builtin "list.extend.loop" ⟨[.ref S, .ref z, res], []⟩) R { s with heap := h } := by
  have zn : ZNum xs ys ≤ xs.size := Nat.min_le_left _ _
  intro m
  induction m with
  | zero =>
    intro i h as e g
    obtain rfl : i = ZNum xs ys := e
    have fin : xs[ZNum xs ys]? = none ∨ ys[ZNum xs ys]? = none := by
      rcases Nat.le_total xs.size ys.size with q | q
      · exact .inl (Array.getElem?_eq_none (by unfold ZNum; omega))
      · exact .inr (Array.getElem?_eq_none (by unfold ZNum; omega))
    refine codeAny_builtin PySem.F.entry_extend_loop ?_
    rw [Around.under_plainId PySem.F.plain_extend_loop _]
    unfold Builtin.«list.extend.loop»
    refine wpAny_bind (L.done A.in1 _ { s with heap := h } _ _ hh g.st fin fun h' k => ?_)
    exact wpAny_pure (hR h h' as g k)
  | succ m ih =>
    intro i h as e g
    have ix : i < xs.size := by omega
    have iy : i < ys.size := by unfold ZNum at e; omega
    obtain ⟨c, hc⟩ := g.lst
    refine codeAny_builtin PySem.F.entry_extend_loop ?_
    rw [Around.under_plainId PySem.F.plain_extend_loop _]
    unfold Builtin.«list.extend.loop»
    refine wpAny_bind (L.item A.in1 _ { s with heap := h } _ _ _ _ g.st (Heap.lt_size hc) (Array.getElem?_eq_getElem ix) (Array.getElem?_eq_getElem iy) fun h' st p k => ?_)
    have go := ih (i + 1) _ _ (by omega) (g.more L hlo hS (Array.getElem?_eq_getElem ix) (Array.getElem?_eq_getElem iy) st p k)
    have room : (as.map Value.ref).toArray.size + 1 ≤ sizeLine := by
      rw [List.size_toArray, List.length_map, g.len]
      omega
    exact wpAny_bind (wpAny_updateSeq (k S _ L.off hc) rfl (wpAny_pure ⟨plainId_quiet PySem.F.plain_extend_loop _, go⟩) (Nat.le_of_succ_le room) (by
      show ((as.map Value.ref).toArray.push _).size ≤ sizeLine + 1
      rw [Array.size_push]
      exact Nat.le_succ_of_le room))
end
theorem zip_len0 : typeLookup (.type "zip") "__len__" = pure none := by rw [typeLookup_type, builtinLookup_eq_fast]; kernel_rfl
theorem zip_hint0 : typeLookup (.type "zip") "__length_hint__" = pure none := by rw [typeLookup_type, builtinLookup_eq_fast]; kernel_rfl
section
variable {prog : Program} {w : World} {A : Around} {E : Value → Shared → Prop} {s : Shared} {z : Addr} {fp : List Addr} {xs ys : Array Value} {St : Nat → Heap → Prop}
theorem zl_call {Q : Value → Shared → Prop} (L : ZLaw prog w z s.heap.objs.size fp xs ys St) (hh : A.handled = none) (hst : St 0 s.heap) (hn : xs.size ≤ sizeLine)
    (hQ : ∀ (h h' : Heap) as, Lz xs ys s.heap.objs.size s.heap.objs.size fp St s.heap (ZNum xs ys) h as → (∀ c o, c ∉ fp → h.get? c = some o → h'.get? c = some o) → Q (.ref s.heap.objs.size) { s with heap := h' }) :
    wpAny (model prog w) A (call (.type "list") [.ref z]) Q E s := by
  refine callType_codes (Q₁ := fun obj s₁ => obj = .ref s.heap.objs.size ∧ s₁ = { s with heap := s.heap.push { cls := .type "list", data := .seq #[] } }) PySem.F.called_list (PySem.F.typeCall_list_1 _) PySem.F.entry_list_init (code_list_new _ ⟨rfl, rfl⟩) ?_
  rintro _ _ ⟨rfl, rfl⟩
  have l0 : (s.heap.push { cls := .type "list", data := .seq #[] }).get? s.heap.objs.size = some { cls := .type "list", data := .seq #[] } := Heap.get?_push_size _ rfl
  have k0 : ∀ b o, b ≠ s.heap.objs.size → s.heap.get? b = some o → (s.heap.push { cls := .type "list", data := .seq #[] }).get? b = some o := fun b o _ e => Heap.get?_push_of_some _ e
  generalize s.heap.push { cls := .type "list", data := .seq #[] } = h0 at l0 k0 ⊢
  have l1 := Heap.get?_update_self (Obj.mapSeq fun _ => (#[] : Array Value)) l0 rfl
  have k1 : ∀ b o, b ≠ s.heap.objs.size → s.heap.get? b = some o → (h0.update s.heap.objs.size (Obj.mapSeq fun _ => (#[] : Array Value))).get? b = some o := fun b o nb e => (Heap.get?_update_other _ _ (Ne.symm nb)).trans (k0 b o nb e)
  refine ⟨⟨_, l0, rfl⟩, PySem.F.args_list_init_2 _ _, ?_⟩
  unfold Builtin.«list.__init__»
  refine wpAny_bind ?_
  unfold Builtin.List.listItems
  refine wpAny_bind (wpAny_seqItems l0 rfl (wpAny_pure ?_))
  refine wpAny_bind (m := Builtin.List.listUpdate (.ref s.heap.objs.size) fun _ => #[]) ?_
  refine wpAny_updateSeq l0 rfl ?_
  generalize h0.update s.heap.objs.size (Obj.mapSeq fun _ => (#[] : Array Value)) = h1 at l1 k1 ⊢
  refine wpAny_bind (wpAny_letGo ?_)
  have st1 := L.keep 0 _ _ hst k1
  obtain ⟨oz, ez, cz⟩ := L.typ 0 _ st1
  have zt : ({ s with heap := h1 } : Shared).TypeIs (.ref z) "zip" := ⟨oz, ez, cz⟩
  have nz : Builtin.List.listSameRef (.ref s.heap.objs.size) (.ref z) = false := by
    have q : s.heap.objs.size ≠ z := fun e => L.off (e ▸ L.inn)
    simp [Builtin.List.listSameRef, q]
  have n1 : (Value.type "zip" == Value.type "list") = false := by decide
  have n2 : (Value.type "zip" == Value.type "tuple") = false := by decide
  have a1 := zip_len0
  have a2 := zip_hint0
  show wpAny _ _ (Builtin.List.listExtendWith _ _ _) _ _ _
  unfold Builtin.List.listExtendWith
  wp_walk using wpAny_typeOf zt, L.self _ { s with heap := h1 } _ _ st1
  have l2 := Heap.get?_update_self (Obj.mapSeq (·.push Value.none)) l1 rfl
  have l3 := Heap.get?_update_self (Obj.mapSeq (·.pop)) l2 rfl
  have k3 : ∀ b o, b ≠ s.heap.objs.size → s.heap.get? b = some o → ((h1.update s.heap.objs.size (Obj.mapSeq (·.push Value.none))).update s.heap.objs.size (Obj.mapSeq (·.pop))).get? b = some o := by
    intro b o nb e
    rw [Heap.get?_update_other _ _ (Ne.symm nb), Heap.get?_update_other _ _ (Ne.symm nb)]
    exact k1 b o nb e
  have start : Lz xs ys s.heap.objs.size s.heap.objs.size fp St s.heap 0 ((h1.update s.heap.objs.size (Obj.mapSeq (·.push Value.none))).update s.heap.objs.size (Obj.mapSeq (·.pop))) [] :=
    ⟨L.keep 0 _ _ hst k3, ⟨_, l3⟩, rfl, fun b o nb _ e => k3 b o nb e, fun j a hj => (nomatch hj), List.Pairwise.nil, Heap.lt_size l3⟩
  exact ⟨plainId_quiet PySem.F.plain_extend_loop _, zl_loop (A := A.in1) L hh hn .none (fun b hb => Nat.le_of_lt (L.low 0 _ hst b hb)) (Nat.le_refl _) (fun h h' as g k => ⟨rfl, hQ h h' as g k⟩) (ZNum xs ys) 0 _ [] (Nat.zero_add _) start⟩
end

/-- a zip of two tuples at turn i -/
def ZStT (z TI TO i1 i2 l1 l2 S : Addr) (xs ys : Array Value) (i : Nat) (h : Heap) : Prop :=
  (h.IsTupleIter i1 l1 i ∧ h.IsTuple l1 xs) ∧ (h.IsTupleIter i2 l2 i ∧ h.IsTuple l2 ys) ∧ IsPair h TI (.ref i1) (.ref i2) ∧ (∃ x y, IsPair h TO x y) ∧
    (IsZip h z TI TO .none ∨ ∃ (T : Addr) (f : Bool) (oT : Obj), 0 < i ∧ IsZipHeld h z TI TO T f ∧ h.get? T = some oT ∧ T ∉ [S, z, i1, i2])
theorem ZStT.at {z TI TO i1 i2 l1 l2 S : Addr} {xs ys : Array Value} {i : Nat} {h h' : Heap} (st : ZStT z TI TO i1 i2 l1 l2 S xs ys i h) (nS : S ∉ [z, TI, TO, i1, i2, l1, l2]) (k : ∀ b o, b ≠ S → h.get? b = some o → h'.get? b = some o) : ZStT z TI TO i1 i2 l1 l2 S xs ys i h' := by
  simp only [List.mem_cons, List.not_mem_nil, or_false, not_or] at nS
  obtain ⟨n1, n2, n3, n4, n5, n6, n7⟩ := nS
  obtain ⟨⟨a1, a2⟩, ⟨b1, b2⟩, p, ⟨x, y, q⟩, r⟩ := st
  refine ⟨⟨a1.at fun o e => k _ o (Ne.symm n4) e, a2.at fun o e => k _ o (Ne.symm n6) e⟩, ⟨b1.at fun o e => k _ o (Ne.symm n5) e, b2.at fun o e => k _ o (Ne.symm n7) e⟩, k _ _ (Ne.symm n2) p, ⟨x, y, k _ _ (Ne.symm n3) q⟩, ?_⟩
  rcases r with r | ⟨T, f, oT, i0, r1, r2, r3⟩
  · exact .inl (k _ _ (Ne.symm n1) r)
  · exact .inr ⟨T, f, oT, i0, k _ _ (Ne.symm n1) r1, k _ _ (fun e => r3 (by simp [e])) r2, r3⟩
theorem ZStT.low {z TI TO i1 i2 l1 l2 S : Addr} {xs ys : Array Value} {i : Nat} {h : Heap} (st : ZStT z TI TO i1 i2 l1 l2 S xs ys i h) : (∃ o, h.get? z = some o ∧ o.cls = .type "zip") ∧ ∀ b ∈ [z, TI, TO, i1, i2], b < h.objs.size := by
  obtain ⟨⟨⟨_, a1, _⟩, _⟩, ⟨⟨_, b1, _⟩, _⟩, p, ⟨_, _, q⟩, r⟩ := st
  have zz : ∃ o, h.get? z = some o ∧ o.cls = .type "zip" := by
    rcases r with r | ⟨_, _, _, _, r, _⟩
    · exact ⟨_, r, rfl⟩
    · exact ⟨_, r, rfl⟩
  refine ⟨zz, fun b hb => ?_⟩
  obtain ⟨oz, ez, _⟩ := zz
  simp only [List.mem_cons, List.not_mem_nil, or_false] at hb
  rcases hb with e | e | e | e | e
  · rw [e]; exact Heap.lt_size ez
  · rw [e]; exact Heap.lt_size p
  · rw [e]; exact Heap.lt_size q
  · rw [e]; exact Heap.lt_size a1
  · rw [e]; exact Heap.lt_size b1
theorem zlawT {prog : Program} {w : World} {z TI TO i1 i2 l1 l2 S : Addr} {xs ys : Array Value} (D : ZipApart z TI TO i1 i2 l1 l2) (nS : S ∉ [z, TI, TO, i1, i2, l1, l2]) : ZLaw prog w z S [z, TI, TO, i1, i2] xs ys (ZStT z TI TO i1 i2 l1 l2 S xs ys) where
  item := by
    intro A E s i x y Q st hSl hx hy hQ
    have low := st.low.2
    obtain ⟨⟨a1, a2⟩, ⟨b1, b2⟩, p, ⟨u, v, q⟩, r⟩ := st
    rcases r with r | ⟨T, f, oT, i0, r1, r2, r3⟩
    · refine RZ.pyNext_zipT_item D r p q a1 b1 a2 b2 hx hy fun h' z' q' a' b' n sz k => ?_
      refine hQ h' ⟨⟨a', a2.at fun o e => k _ o D.l1z D.l1TO D.l1i1 D.l1i2 e⟩, ⟨b', b2.at fun o e => k _ o D.l2z D.l2TO D.l2i1 D.l2i2 e⟩, k _ _ D.TIz D.TITO D.TIi1 D.TIi2 p, ⟨_, _, q'⟩, .inr ⟨s.heap.objs.size, false, _, Nat.succ_pos i, z', n, ?_⟩⟩ n ?_
      · have l1 := low z (by simp)
        have l2 := low i1 (by simp)
        have l3 := low i2 (by simp)
        simp only [List.mem_cons, List.not_mem_nil, or_false, not_or]
        exact ⟨Nat.ne_of_gt hSl, Nat.ne_of_gt l1, Nat.ne_of_gt l2, Nat.ne_of_gt l3⟩
      · intro c o hc e
        simp only [List.mem_cons, List.not_mem_nil, or_false, not_or] at hc
        exact k c o hc.1 hc.2.2.1 hc.2.2.2.1 hc.2.2.2.2 e
    · have zt : s.TypeIs (.ref z) "zip" := ⟨_, r1, rfl⟩
      unfold pyNext
      refine wpAny_bind (wpAny_attempt (wpAny_callSpecial?_slot (name := Str.ofString "__next__") zt PySem.F.slot_zip_next (wpAny_call_entry PySem.F.slot_zip_next zt PySem.F.entry_zip_next ?_ (PySem.F.args_zip_next_1 _))))
      refine zip_more (nx_tup D.l1i1) (nx_tup D.l2i2) ?_ r1 r2 p ⟨a1, a2⟩ ⟨b1, b2⟩ hx hy ?_
      · simp [D.i1z.symm, D.i2z.symm, D.l1z.symm, D.l2z.symm, D.i12, D.i12.symm, D.l2i1.symm, D.l1i2.symm]
      · intro h' z' a' b' sz k
        have up : ∀ c o, c ∉ [z, i1, i2] → s.heap.get? c = some o → (h'.push { cls := .type "tuple", data := .seq #[x, y] }).get? c = some o := fun c o hc e => Heap.get?_push_of_some _ (k c o hc e)
        have kk : ∀ {c : Addr} {o : Obj}, h'.get? c = some o → (h'.push { cls := .type "tuple", data := .seq #[x, y] }).get? c = some o := fun e => Heap.get?_push_of_some _ e
        have n : IsPair (h'.push { cls := .type "tuple", data := .seq #[x, y] }) h'.objs.size x y := Heap.get?_push_size _ rfl
        rw [sz] at n ⊢
        refine ⟨_, rfl, wpAny_pure (hQ _ ⟨⟨a'.1.at fun o e => kk e, a'.2.at fun o e => kk e⟩, ⟨b'.1.at fun o e => kk e, b'.2.at fun o e => kk e⟩, up _ _ ?_ p, ⟨_, _, up _ _ ?_ q⟩, .inr ⟨T, true, oT, Nat.succ_pos i, kk z', up _ _ ?_ r2, r3⟩⟩ n ?_)⟩
        · simp [D.TIz, D.TIi1, D.TIi2]
        · simp [D.TOz, D.TOi1, D.TOi2]
        · intro hm
          exact r3 (List.mem_cons_of_mem _ hm)
        · intro c o hc e
          refine up c o (fun hm => hc ?_) e
          simp only [List.mem_cons, List.not_mem_nil, or_false] at hm ⊢
          rcases hm with e | e | e <;> simp [e]
  done := by
    intro A E s i Q hh st he hQ
    obtain ⟨⟨a1, a2⟩, ⟨b1, b2⟩, p, ⟨u, v, q⟩, r⟩ := st
    rcases r with r | ⟨T, f, oT, i0, r1, r2, r3⟩
    · refine RZ.pyNext_zipT_end hh D r p q a1 b1 a2 b2 he fun h' k => hQ h' fun c o hc e => ?_
      simp only [List.mem_cons, List.not_mem_nil, or_false, not_or] at hc
      exact k c o hc.1 hc.2.2.1 hc.2.2.2.1 hc.2.2.2.2 e
    · have zt : s.TypeIs (.ref z) "zip" := ⟨_, r1, rfl⟩
      unfold pyNext
      refine wpAny_bind (wpAny_attempt (wpAny_callSpecial?_slot (name := Str.ofString "__next__") zt PySem.F.slot_zip_next (wpAny_call_entry PySem.F.slot_zip_next zt PySem.F.entry_zip_next ?_ (PySem.F.args_zip_next_1 _))))
      refine zip_over hh (nx_tup D.l1i1) (nx_tup D.l2i2) ?_ r1 r2 p ⟨a1, a2⟩ ⟨b1, b2⟩ he ?_
      · simp [D.i1z.symm, D.i2z.symm, D.l1z.symm, D.l2z.symm, D.i12, D.i12.symm, D.l2i1.symm, D.l1i2.symm]
      · rintro h' e k ⟨oe, he1, he2⟩
        refine wpAny_bind (wpAny_isInstance (T := "StopIteration") (b := true) ⟨oe, he1, he2⟩ isSubtype_stop ?_)
        refine wpAny_pure (hQ h' fun c o hc e => k c o (fun hm => hc ?_) e)
        simp only [List.mem_cons, List.not_mem_nil, or_false] at hm ⊢
        rcases hm with e | e | e <;> simp [e]
  keep := fun i h h' st k => st.at nS k
  off := fun hm => nS (by
    simp only [List.mem_cons, List.not_mem_nil, or_false] at hm ⊢
    rcases hm with e | e | e | e | e <;> simp [e])
  inn := by simp
  low := fun i h st => st.low.2
  typ := fun i h st => st.low.1
  self := by
    intro A s Q E st hq
    obtain ⟨_, _, _, _, r⟩ := st
    rcases r with r | ⟨_, _, _, i0, _⟩
    · exact wpAny_pyIter_zip r hq
    · exact absurd i0 (Nat.lt_irrefl 0)

/-- a zip of two lists at turn i -/
def ZStL (z TI TO i1 i2 l1 l2 S : Addr) (xs ys : Array Value) (i : Nat) (h : Heap) : Prop :=
  (h.IsListIter i1 l1 i ∧ h.IsList l1 xs) ∧ (h.IsListIter i2 l2 i ∧ h.IsList l2 ys) ∧ IsPair h TI (.ref i1) (.ref i2) ∧ (∃ x y, IsPair h TO x y) ∧
    (IsZip h z TI TO .none ∨ ∃ (T : Addr) (f : Bool) (oT : Obj), 0 < i ∧ IsZipHeld h z TI TO T f ∧ h.get? T = some oT ∧ T ∉ [S, z, i1, i2])
theorem ZStL.at {z TI TO i1 i2 l1 l2 S : Addr} {xs ys : Array Value} {i : Nat} {h h' : Heap} (st : ZStL z TI TO i1 i2 l1 l2 S xs ys i h) (nS : S ∉ [z, TI, TO, i1, i2, l1, l2]) (k : ∀ b o, b ≠ S → h.get? b = some o → h'.get? b = some o) : ZStL z TI TO i1 i2 l1 l2 S xs ys i h' := by
  simp only [List.mem_cons, List.not_mem_nil, or_false, not_or] at nS
  obtain ⟨n1, n2, n3, n4, n5, n6, n7⟩ := nS
  obtain ⟨⟨a1, a2⟩, ⟨b1, b2⟩, p, ⟨x, y, q⟩, r⟩ := st
  refine ⟨⟨a1.at fun o e => k _ o (Ne.symm n4) e, a2.at fun o e => k _ o (Ne.symm n6) e⟩, ⟨b1.at fun o e => k _ o (Ne.symm n5) e, b2.at fun o e => k _ o (Ne.symm n7) e⟩, k _ _ (Ne.symm n2) p, ⟨x, y, k _ _ (Ne.symm n3) q⟩, ?_⟩
  rcases r with r | ⟨T, f, oT, i0, r1, r2, r3⟩
  · exact .inl (k _ _ (Ne.symm n1) r)
  · exact .inr ⟨T, f, oT, i0, k _ _ (Ne.symm n1) r1, k _ _ (fun e => r3 (by simp [e])) r2, r3⟩
theorem ZStL.low {z TI TO i1 i2 l1 l2 S : Addr} {xs ys : Array Value} {i : Nat} {h : Heap} (st : ZStL z TI TO i1 i2 l1 l2 S xs ys i h) : (∃ o, h.get? z = some o ∧ o.cls = .type "zip") ∧ ∀ b ∈ [z, TI, TO, i1, i2], b < h.objs.size := by
  obtain ⟨⟨⟨_, a1, _⟩, _⟩, ⟨⟨_, b1, _⟩, _⟩, p, ⟨_, _, q⟩, r⟩ := st
  have zz : ∃ o, h.get? z = some o ∧ o.cls = .type "zip" := by
    rcases r with r | ⟨_, _, _, _, r, _⟩
    · exact ⟨_, r, rfl⟩
    · exact ⟨_, r, rfl⟩
  refine ⟨zz, fun b hb => ?_⟩
  obtain ⟨oz, ez, _⟩ := zz
  simp only [List.mem_cons, List.not_mem_nil, or_false] at hb
  rcases hb with e | e | e | e | e
  · rw [e]; exact Heap.lt_size ez
  · rw [e]; exact Heap.lt_size p
  · rw [e]; exact Heap.lt_size q
  · rw [e]; exact Heap.lt_size a1
  · rw [e]; exact Heap.lt_size b1
theorem zlawL {prog : Program} {w : World} {z TI TO i1 i2 l1 l2 S : Addr} {xs ys : Array Value} (D : ZipApart z TI TO i1 i2 l1 l2) (nS : S ∉ [z, TI, TO, i1, i2, l1, l2]) : ZLaw prog w z S [z, TI, TO, i1, i2] xs ys (ZStL z TI TO i1 i2 l1 l2 S xs ys) where
  item := by
    intro A E s i x y Q st hSl hx hy hQ
    have low := st.low.2
    obtain ⟨⟨a1, a2⟩, ⟨b1, b2⟩, p, ⟨u, v, q⟩, r⟩ := st
    rcases r with r | ⟨T, f, oT, i0, r1, r2, r3⟩
    · refine wpAny_pyNext_zip_item D r p q a1 b1 a2 b2 hx hy fun h' z' q' a' b' n sz k => ?_
      refine hQ h' ⟨⟨a', a2.at fun o e => k _ o D.l1z D.l1TO D.l1i1 D.l1i2 e⟩, ⟨b', b2.at fun o e => k _ o D.l2z D.l2TO D.l2i1 D.l2i2 e⟩, k _ _ D.TIz D.TITO D.TIi1 D.TIi2 p, ⟨_, _, q'⟩, .inr ⟨s.heap.objs.size, false, _, Nat.succ_pos i, z', n, ?_⟩⟩ n ?_
      · have l1 := low z (by simp)
        have l2 := low i1 (by simp)
        have l3 := low i2 (by simp)
        simp only [List.mem_cons, List.not_mem_nil, or_false, not_or]
        exact ⟨Nat.ne_of_gt hSl, Nat.ne_of_gt l1, Nat.ne_of_gt l2, Nat.ne_of_gt l3⟩
      · intro c o hc e
        simp only [List.mem_cons, List.not_mem_nil, or_false, not_or] at hc
        exact k c o hc.1 hc.2.2.1 hc.2.2.2.1 hc.2.2.2.2 e
    · have zt : s.TypeIs (.ref z) "zip" := ⟨_, r1, rfl⟩
      unfold pyNext
      refine wpAny_bind (wpAny_attempt (wpAny_callSpecial?_slot (name := Str.ofString "__next__") zt PySem.F.slot_zip_next (wpAny_call_entry PySem.F.slot_zip_next zt PySem.F.entry_zip_next ?_ (PySem.F.args_zip_next_1 _))))
      refine zip_more (nx_lst D.l1i1) (nx_lst D.l2i2) ?_ r1 r2 p ⟨a1, a2⟩ ⟨b1, b2⟩ hx hy ?_
      · simp [D.i1z.symm, D.i2z.symm, D.l1z.symm, D.l2z.symm, D.i12, D.i12.symm, D.l2i1.symm, D.l1i2.symm]
      · intro h' z' a' b' sz k
        have up : ∀ c o, c ∉ [z, i1, i2] → s.heap.get? c = some o → (h'.push { cls := .type "tuple", data := .seq #[x, y] }).get? c = some o := fun c o hc e => Heap.get?_push_of_some _ (k c o hc e)
        have kk : ∀ {c : Addr} {o : Obj}, h'.get? c = some o → (h'.push { cls := .type "tuple", data := .seq #[x, y] }).get? c = some o := fun e => Heap.get?_push_of_some _ e
        have n : IsPair (h'.push { cls := .type "tuple", data := .seq #[x, y] }) h'.objs.size x y := Heap.get?_push_size _ rfl
        rw [sz] at n ⊢
        refine ⟨_, rfl, wpAny_pure (hQ _ ⟨⟨a'.1.at fun o e => kk e, a'.2.at fun o e => kk e⟩, ⟨b'.1.at fun o e => kk e, b'.2.at fun o e => kk e⟩, up _ _ ?_ p, ⟨_, _, up _ _ ?_ q⟩, .inr ⟨T, true, oT, Nat.succ_pos i, kk z', up _ _ ?_ r2, r3⟩⟩ n ?_)⟩
        · simp [D.TIz, D.TIi1, D.TIi2]
        · simp [D.TOz, D.TOi1, D.TOi2]
        · intro hm
          exact r3 (List.mem_cons_of_mem _ hm)
        · intro c o hc e
          refine up c o (fun hm => hc ?_) e
          simp only [List.mem_cons, List.not_mem_nil, or_false] at hm ⊢
          rcases hm with e | e | e <;> simp [e]
  done := by
    intro A E s i Q hh st he hQ
    obtain ⟨⟨a1, a2⟩, ⟨b1, b2⟩, p, ⟨u, v, q⟩, r⟩ := st
    rcases r with r | ⟨T, f, oT, i0, r1, r2, r3⟩
    · refine wpAny_pyNext_zip_end hh D r p q a1 b1 a2 b2 he fun h' k => hQ h' fun c o hc e => ?_
      simp only [List.mem_cons, List.not_mem_nil, or_false, not_or] at hc
      exact k c o hc.1 hc.2.2.1 hc.2.2.2.1 hc.2.2.2.2 e
    · have zt : s.TypeIs (.ref z) "zip" := ⟨_, r1, rfl⟩
      unfold pyNext
      refine wpAny_bind (wpAny_attempt (wpAny_callSpecial?_slot (name := Str.ofString "__next__") zt PySem.F.slot_zip_next (wpAny_call_entry PySem.F.slot_zip_next zt PySem.F.entry_zip_next ?_ (PySem.F.args_zip_next_1 _))))
      refine zip_over hh (nx_lst D.l1i1) (nx_lst D.l2i2) ?_ r1 r2 p ⟨a1, a2⟩ ⟨b1, b2⟩ he ?_
      · simp [D.i1z.symm, D.i2z.symm, D.l1z.symm, D.l2z.symm, D.i12, D.i12.symm, D.l2i1.symm, D.l1i2.symm]
      · rintro h' e k ⟨oe, he1, he2⟩
        refine wpAny_bind (wpAny_isInstance (T := "StopIteration") (b := true) ⟨oe, he1, he2⟩ isSubtype_stop ?_)
        refine wpAny_pure (hQ h' fun c o hc e => k c o (fun hm => hc ?_) e)
        simp only [List.mem_cons, List.not_mem_nil, or_false] at hm ⊢
        rcases hm with e | e | e <;> simp [e]
  keep := fun i h h' st k => st.at nS k
  off := fun hm => nS (by
    simp only [List.mem_cons, List.not_mem_nil, or_false] at hm ⊢
    rcases hm with e | e | e | e | e <;> simp [e])
  inn := by simp
  low := fun i h st => st.low.2
  typ := fun i h st => st.low.1
  self := by
    intro A s Q E st hq
    obtain ⟨_, _, _, _, r⟩ := st
    rcases r with r | ⟨_, _, _, i0, _⟩
    · exact wpAny_pyIter_zip r hq
    · exact absurd i0 (Nat.lt_irrefl 0)

/-! ### many objects laid at once -/
def layF (H : Hp) (L : List (Addr × HO)) : Hp := fun b => match L.lookup b with | some o => some o | none => H b
theorem layF_in {H : Hp} {L : List (Addr × HO)} {b : Addr} {o : HO} (h : L.lookup b = some o) : layF H L b = some o := by unfold layF; rw [h]
theorem layF_out {H : Hp} {L : List (Addr × HO)} {b : Addr} (h : L.lookup b = none) : layF H L b = H b := by unfold layF; rw [h]
theorem lookup_zip {as : List Addr} {os : List HO} : ∀ {j : Nat} {a : Addr} {o : HO}, as.Nodup → as[j]? = some a → os[j]? = some o → (as.zip os).lookup a = some o := by
  induction as generalizing os with
  | nil => intro j a o _ h; simp at h
  | cons b as ih =>
    intro j a o hn h1 h2
    cases os with
    | nil => simp at h2
    | cons p os =>
      rw [List.zip_cons_cons, List.lookup_cons]
      cases j with
      | zero =>
        simp at h1 h2
        subst h1 h2
        simp
      | succ j =>
        simp at h1 h2
        have hb : b ∉ as := (List.nodup_cons.mp hn).1
        have hab : (a == b) = false := by
          rw [beq_eq_false_iff_ne]
          intro e
          subst e
          exact hb (List.mem_of_getElem? h1)
        rw [hab]
        exact ih (List.nodup_cons.mp hn).2 h1 h2
theorem lookup_zip_some {as : List Addr} {os : List HO} {a : Addr} {o : HO} (h : (as.zip os).lookup a = some o) : ∃ j : Nat, as[j]? = some a ∧ os[j]? = some o := by
  induction as generalizing os with
  | nil => simp at h
  | cons b as ih =>
    cases os with
    | nil => simp at h
    | cons p os =>
      rw [List.zip_cons_cons, List.lookup_cons] at h
      by_cases e : a = b
      · subst e
        simp at h
        subst h
        exact ⟨0, rfl, rfl⟩
      · have hab : (a == b) = false := by rw [beq_eq_false_iff_ne]; exact e
        rw [hab] at h
        obtain ⟨j, h1, h2⟩ := ih h
        exact ⟨j + 1, h1, h2⟩
theorem inv_lay {X : Cx} {pins : List (Addr × Obj)} {σ : L2.St} {H : Hp} {s : Shared} {h' : Heap} {tk : Nat} {L : List (Addr × HO)} (I : L2.Inv X pins σ H s) (hk : ∀ b o, s.heap.get? b = some o → h'.get? b = some o) (hL : ∀ a o, L.lookup a = some o → s.heap.objs.size ≤ a ∧ ObjOk X.prog X.w (layF H L) h' a o) :
    L2.Inv X pins σ (layF H L) { s with heap := h', toks := tk } := by
  have kp : ∀ b u, H b = some u → layF H L b = some u := by
    intro b u e
    cases q : L.lookup b with
    | none => rw [layF_out q, e]
    | some o =>
      have z := I.hok.fresh (hL b o q).1
      rw [z] at e
      cases e
  have far : ∀ b o, s.heap.get? b = some o → L.lookup b = none := by
    intro b o e
    cases q : L.lookup b with
    | none => rfl
    | some u => exact absurd (hL b u q).1 (Nat.not_le_of_lt (Heap.lt_size e))
  have un : Un (frs X.stack) [] H (layF H L) s.heap h' :=
    { keep := fun b o e _ _ _ => hk b o e
      slot := fun b o e _ _ _ => ⟨_, hk b o e⟩
      free := fun b o e n _ => (layF_out (far b o e)).trans n
      there := fun b o e _ => ⟨o, hk b o e⟩
      tups := fun b _ e => kp b _ e
      frzs := fun b _ _ e => kp b _ e
      tbls := fun b ps e => ⟨#[], by rw [kp b _ e, Array.append_empty]⟩ }
  have hok : HOk X.prog X.w (layF H L) h' := by
    intro b u e
    cases q : L.lookup b with
    | some o =>
      rw [layF_in q] at e
      exact Option.some.inj e ▸ (hL b o q).2
    | none =>
      rw [layF_out q] at e
      exact (I.hok b u e).stay (fun c v _ z => hk c v z) (fun c z => kp c _ z) (fun c _ z => kp c _ z)
  exact I.call' (s' := { s with heap := h', toks := tk }) rfl un hok I.bare (fun b z => nomatch z)
theorem step_lay {X : Cx} {pins : List (Addr × Obj)} {σ : L2.St} {H : Hp} {s : Shared} {L : List (Addr × HO)} (I : L2.Inv X pins σ H s) (hL : ∀ a o, L.lookup a = some o → s.heap.objs.size ≤ a ∧ ∀ z, o ≠ potO a z) : Step 0 H (layF H L) := by
  refine .of_new (fun b u e => ?_) fun a z h => ?_
  · cases q : L.lookup b with
    | some o => rw [I.hok.fresh (hL b o q).1] at e; cases e
    | none => rw [layF_out q]; exact e
  · cases q : L.lookup a with
    | some o => rw [layF_in q] at h; exact absurd (Option.some.inj h) ((hL a o q).2 z)
    | none => rw [layF_out q] at h; exact h
theorem reps_of {K : PySem.W.Frag} {H : Hp} : ∀ {vs : List V} {ds : List Dat}, vs.length = ds.length → (∀ (j : Nat) (v : V) (d : Dat), vs[j]? = some v → ds[j]? = some d → Rep K H v d) → Reps K H vs ds
  | [], [], _, _ => by rw [Reps]; trivial
  | [], _ :: _, h, _ => by simp at h
  | _ :: _, [], h, _ => by simp at h
  | v :: vs, d :: ds, h, k => by
    rw [Reps]
    exact ⟨k 0 v d rfl rfl, reps_of (by simpa using h) fun j v' d' h1 h2 => k (j + 1) v' d' (by simpa using h1) (by simpa using h2)⟩

section
variable {X : Cx}
def pairO (its its2 : List Value) (vs ws : List V) (j : Nat) : HO := .frz { cls := .type "tuple", data := .seq #[its.getD j .none, its2.getD j .none] } (.tup [vs.getD j .non, ws.getD j .non])
/-- the pairs are tracked, and their list -/
theorem pairs_laid {pins : List (Addr × Obj)} {σ : L2.St} {H : Hp} {s : Shared} {h' : Heap} {c : Nat} {as : List Addr} {its its2 : List Value} {vs ws : List V} {l r : List Dat} {S : Addr} (I : L2.Inv X pins σ H s)
    (hk : ∀ b o, s.heap.get? b = some o → h'.get? b = some o) (hlo : s.heap.objs.size ≤ S) (hS : h'.get? S = some { cls := .type "list", data := .seq (as.map Value.ref).toArray c }) (hl : as.length = ZNum its.toArray its2.toArray) (ris : as.Pairwise (· < ·))
    (new : ∀ (j : Nat) (a : Addr), as[j]? = some a → S < a ∧ ∃ x y, its.toArray[j]? = some x ∧ its2.toArray[j]? = some y ∧ IsPair h' a x y) (rv : L2.Vals vs its) (rw' : L2.Vals ws its2) (hr : Reps X.K H vs l) (hr2 : Reps X.K H ws r) (hz : l.length ≤ sizeLine) :
    ∃ H', L2.Inv X pins σ H' { s with heap := h' } ∧ Step 0 H H' ∧ H S = none ∧ Own X.K H' S (.lst (List.zipWith (fun p q => .tup [p, q]) l r)) := by
  have e1 := rv.length
  have e2 := rw'.length
  have e3 := hr.length
  have e4 := hr2.length
  have nd : as.Nodup := ris.imp Nat.ne_of_lt
  have hzn : as.length = min l.length r.length := by rw [hl]; unfold ZNum; simp; omega
  have far : S ∉ as := by
    intro hm
    obtain ⟨j, hj⟩ := List.getElem?_of_mem hm
    exact Nat.lt_irrefl _ (new j S hj).1
  generalize hos : (List.range as.length).map (pairO its its2 vs ws) = os
  have hosj : ∀ j, j < as.length → os[j]? = some (pairO its its2 vs ws j) := fun j hj => by rw [← hos]; simp [hj]
  -- the j-th pair
  have item : ∀ (j : Nat) (a : Addr), as[j]? = some a → ∃ x y v w, pairO its its2 vs ws j = .frz { cls := .type "tuple", data := .seq #[x, y] } (.tup [v, w]) ∧ IsPair h' a x y ∧ vs[j]? = some v ∧ ws[j]? = some w ∧ L2.RelV v x ∧ L2.RelV w y := by
    intro j a hj
    obtain ⟨_, x, y, q1, q2, q3⟩ := new j a hj
    rw [List.getElem?_toArray] at q1 q2
    have lt : j < as.length := (List.getElem?_eq_some_iff.mp hj).1
    obtain ⟨x', p1, p2⟩ := rv.get (List.getElem?_eq_getElem (show j < vs.length by omega))
    obtain ⟨y', p3, p4⟩ := rw'.get (List.getElem?_eq_getElem (show j < ws.length by omega))
    rw [q1] at p1
    rw [q2] at p3
    cases p1
    cases p3
    refine ⟨x, y, _, _, ?_, q3, List.getElem?_eq_getElem (show j < vs.length by omega), List.getElem?_eq_getElem (show j < ws.length by omega), p2, p4⟩
    unfold pairO
    simp only [List.getD_eq_getElem?_getD, q1, q2, List.getElem?_eq_getElem (show j < vs.length by omega), List.getElem?_eq_getElem (show j < ws.length by omega), Option.getD_some]
  generalize hL : (S, HO.lst (as.map V.ref)) :: as.zip os = L
  have look : ∀ a o, L.lookup a = some o → (a = S ∧ o = .lst (as.map V.ref)) ∨ ∃ j : Nat, as[j]? = some a ∧ o = pairO its its2 vs ws j := by
    intro a o h
    rw [← hL, List.lookup_cons] at h
    split at h
    · rename_i e
      exact .inl ⟨eq_of_beq e, (Option.some.inj h).symm⟩
    · obtain ⟨j, h1, h2⟩ := lookup_zip_some h
      rw [hosj j (List.getElem?_eq_some_iff.mp h1).1] at h2
      exact .inr ⟨j, h1, (Option.some.inj h2).symm⟩
  have atS : L.lookup S = some (HO.lst (as.map V.ref)) := by rw [← hL, List.lookup_cons, beq_self_eq_true]
  have atA : ∀ (j : Nat) (a : Addr), as[j]? = some a → L.lookup a = some (pairO its its2 vs ws j) := by
    intro j a h
    rw [← hL, List.lookup_cons, show (a == S) = false from beq_eq_false_iff_ne.mpr fun e => far (e ▸ List.mem_of_getElem? h)]
    exact lookup_zip nd h (hosj j (List.getElem?_eq_some_iff.mp h).1)
  have young : ∀ a o, L.lookup a = some o → s.heap.objs.size ≤ a := by
    intro a o h
    rcases look a o h with ⟨rfl, _⟩ | ⟨j, h1, _⟩
    · exact hlo
    · exact Nat.le_of_lt (Nat.lt_of_le_of_lt hlo (new j a h1).1)
  have two : ([V.non, V.non] : List V).length ≤ sizeLine := by decide
  have J := inv_lay (tk := s.toks) (L := L) I hk fun a o h => ⟨young a o h, by
    rcases look a o h with ⟨rfl, rfl⟩ | ⟨j, h1, rfl⟩
    · exact ⟨by rw [List.length_map]; omega, as.map Value.ref, c, LiI.vals_refs as, hS⟩
    · obtain ⟨x, y, v, w, q1, q2, _, _, q5, q6⟩ := item j a h1
      rw [q1]
      exact ⟨q2, two, [x, y], .cons q5 (.cons q6 .nil), _, q2, rfl, _, rfl⟩⟩
  have stp : Step 0 H (layF H L) := step_lay I fun a o h => ⟨young a o h, fun z e => by
    rcases look a o h with ⟨_, rfl⟩ | ⟨j, h1, rfl⟩
    · cases e
    · obtain ⟨x, y, v, w, q1, _⟩ := item j a h1
      rw [q1] at e
      cases e⟩
  refine ⟨_, J, stp, I.hok.fresh hlo, as.map V.ref, layF_in atS, by rw [List.length_zipWith]; omega, reps_of (by rw [List.length_map, List.length_zipWith]; exact hzn) ?_⟩
  intro j v d h1 h2
  rw [List.getElem?_map] at h1
  obtain ⟨a, ha, rfl⟩ := Option.map_eq_some_iff.mp h1
  obtain ⟨x, y, v, w, q1, _, q3, q4, _, _⟩ := item j a ha
  have lt : j < as.length := (List.getElem?_eq_some_iff.mp ha).1
  have jl : j < l.length := by omega
  have jr : j < r.length := by omega
  rw [List.getElem?_zipWith, List.getElem?_eq_getElem jl, List.getElem?_eq_getElem jr] at h2
  obtain rfl := Option.some.inj h2
  obtain ⟨v', hv', rv'⟩ := hr.get (List.getElem?_eq_getElem jl)
  obtain ⟨w', hw', rw''⟩ := hr2.get (List.getElem?_eq_getElem jr)
  rw [q3] at hv'
  rw [q4] at hw'
  cases hv'
  cases hw'
  rw [Rep]
  refine ⟨a, [v, w], rfl, .inl ⟨{ cls := .type "tuple", data := .seq #[x, y] }, ?_, rfl⟩, two, ?_⟩
  · rw [layF_in (atA j a ha), q1]
  · rw [Reps, Reps, Reps]
    exact ⟨Rep.ext stp.ext _ _ rv', Rep.ext stp.ext _ _ rw'', trivial⟩

variable {a b : Expr} {n n' : Nat} {fa fb : Env → (Dat → Prop) → Prop} {p p2 pos pos2 : Pos}
def lzip2 (l : List Dat) (Q : Dat → Prop) : Prop :=
  match l with
  | [x, y] => lzipW x y Q
  | _ => False
/-- list(zip(a, b)) -/
theorem qe_lzip (hc : X.calm = true) (hgl : Gl X "list") (hml : X.mg "list" = none) (hg : Gl X "zip") (hm : X.mg "zip" = none) (ha : QE X a n (RB X.K) fa) (hb : QE X b n' (RB X.K) fb) (hs : starEach [a, b] X.env = (false, eval a X.env) :: starEach [b] X.env) (hs2 : starEach [b] X.env = [(false, eval b X.env)])
    (hs0 : starEach [.Call (.Name "zip" p2) [a, b] [] pos2] X.env = (false, eval (.Call (.Name "zip" p2) [a, b] [] pos2) X.env) :: starEach [] X.env) :
    QE X (.Call (.Name "list" p) [.Call (.Name "zip" p2) [a, b] [] pos2] [] pos) (n + n') (ROw X.K) (fun δ Q => fa δ fun x => fb δ fun y => lzipW x y Q) := fun E pins s σ H δ m Φ ht I er pl hf => by
  refine wpAny_Call_Name_kw (ld_blt I hgl hml (by rfl) ?_)
  refine PyProof.Rows.callWith_type1 ?_ hs0 rfl
  rw [hs0]
  show wpAny _ _ (spliced ((false, eval (.Call (.Name "zip" p2) [a, b] [] pos2) X.env) :: backTo pos (starEach [] X.env))) _ _ s
  refine Calls.spliced_cons ?_
  refine Call_ (ld_blt I hg hm PyProof.Rows.boot_zip (PyProof.Rows.callWith_type1 (thn (qa_two (R := BRep) (fun _ _ v d e h => h.ext e) ha hb hs hs2 pos2 E pins s σ H δ m (fun ds => lzip2 ds Φ) ht I er pl hf) fun us s1 ⟨t1, vs, H1, ds, I1, r1, st1, b1, q1⟩ => ?_) hs (plain2 hs2)))
  obtain ⟨v, w, d, e, rfl, rfl, h, h'⟩ := b1
  obtain ⟨l, r, zo, q⟩ := q1
  obtain ⟨u1, u2, rfl, ra, rb⟩ := r1.two
  have hd := I1.ok.hd hc
  have small : sizeLine < sizeLine + 1 := Nat.lt_succ_self _
  -- the list's end, whatever was zipped
  have fin : ∀ {hh : Heap} {z : Addr} {fp : List Addr} {St : Nat → Heap → Prop} {its its2 : List Value} {xs ys : List V}, (∀ b o, s1.heap.get? b = some o → hh.get? b = some o) → (∀ b ∈ fp, s1.heap.objs.size ≤ b) → ZLaw X.prog X.w z hh.objs.size fp its.toArray its2.toArray St → St 0 hh →
      L2.Vals xs its → L2.Vals ys its2 → Reps X.K H1 xs l → Reps X.K H1 ys r → l.length ≤ sizeLine → wpAny (model X.prog X.w) X.A (call (.type "list") [.ref z]) (PX X pins σ (n + n') H (ROw X.K) Φ) E { s1 with heap := hh } := by
    intro hh z fp St its its2 xs ys k young L st rv rw' hr hr2 hz
    have fresh : ∀ b o, s1.heap.get? b = some o → b ≠ hh.objs.size ∧ b ∉ fp := by
      intro b o e
      exact ⟨Nat.ne_of_lt (Heap.lt_size (k b o e)), fun hm => absurd (young b hm) (Nat.not_le_of_lt (Heap.lt_size e))⟩
    have older : s1.heap.objs.size ≤ hh.objs.size := by
      rcases Nat.eq_zero_or_pos s1.heap.objs.size with z0 | z0
      · rw [z0]; exact Nat.zero_le _
      · obtain ⟨o, e, _⟩ := L.typ 0 _ st
        exact Nat.le_of_lt (Nat.lt_of_le_of_lt (young z L.inn) (Heap.lt_size e))
    refine px_of (Q := fun u s' => 0 < s'.toks → PX X pins σ (n + n') H (ROw X.K) Φ u s') t1 (zl_call (s := { s1 with heap := hh }) L hd st (by rw [List.size_toArray, ← rv.length, hr.length]; exact hz) ?_) fun u s' t q => q t
    intro h2 h3 as g k3 ht
    obtain ⟨c, gl⟩ := g.lst
    have low := L.low 0 _ st
    obtain ⟨H', J, stp, hn, ow⟩ := pairs_laid (h' := h3) (S := hh.objs.size) I1 (fun b o e => k3 b o (fresh b o e).2 (g.old b o (fresh b o e).1 (fresh b o e).2 (k b o e))) older (k3 _ _ L.off gl) g.len g.ris (fun j a hj => by
      obtain ⟨q0, x, y, q1, q2, q3⟩ := g.new j a hj
      exact ⟨q0, x, y, q1, q2, k3 a _ (fun hm => absurd (low a hm) (Nat.not_lt_of_le (Nat.le_of_lt q0))) q3⟩) rv rw' hr hr2 hz
    exact ⟨ht, .ref hh.objs.size, H', _, J, rfl, (st1.trans stp).mono (by omega), .inl ⟨_, rfl, st1.ext.none hn, ow⟩, q⟩
  have cells : ∀ b ∈ [s1.heap.objs.size + 4, s1.heap.objs.size + 2, s1.heap.objs.size + 3, s1.heap.objs.size, s1.heap.objs.size + 1], s1.heap.objs.size ≤ b := by
    intro b hb
    simp only [List.mem_cons, List.not_mem_nil, or_false] at hb
    rcases hb with e | e | e | e | e <;> rw [e] <;> first | exact Nat.le_refl _ | exact Nat.le_add_right _ _
  have apart : ∀ {x y : Addr}, x < s1.heap.objs.size → y < s1.heap.objs.size → s1.heap.objs.size + 5 ∉ [s1.heap.objs.size + 4, s1.heap.objs.size + 2, s1.heap.objs.size + 3, s1.heap.objs.size, s1.heap.objs.size + 1, x, y] := by
    intro x y hx hy
    have a : ∀ k, k < 5 → s1.heap.objs.size + 5 ≠ s1.heap.objs.size + k := fun k hk => Nat.ne_of_gt (Nat.add_lt_add_left hk _)
    have b : ∀ x, x < s1.heap.objs.size → s1.heap.objs.size + 5 ≠ x := fun x hx => Nat.ne_of_gt (Nat.lt_of_lt_of_le hx (Nat.le_add_right _ _))
    simp only [List.mem_cons, List.not_mem_nil, or_false, not_or]
    exact ⟨a 4 (by decide), a 2 (by decide), a 3 (by decide), a 0 (by decide), a 1 (by decide), b x hx, b y hy⟩
  rcases zo with ⟨rfl, rfl⟩ | ⟨rfl, rfl⟩
  · obtain ⟨a', xs, rfl, h1, h2, h3⟩ := RX.lstAt (bb := true) (show RX true X.K H1 v (.lst l) from h)
    obtain ⟨b', ys, rfl, k1, k2, k3⟩ := RX.lstAt (bb := true) (show RX true X.K H1 w (.lst r) from h')
    cases ra
    cases rb
    obtain ⟨its, rv, p1, _⟩ := I1.list h1
    obtain ⟨its2, rv2, p2', _⟩ := I1.list k1
    refine call_zip_2 p1.isList p2'.isList fun hh hz hTI hTO e1 e2 hsz hk => Calls.spliced_nil ?_
    refine fin hk cells (zlawL (PySem.W.ktu_apart s1.heap.objs.size a' b' p1.lt p2'.lt) (by rw [hsz]; exact apart p1.lt p2'.lt)) ⟨⟨e1, p1.isList.at fun o e => hk _ o e⟩, ⟨e2, p2'.isList.at fun o e => hk _ o e⟩, hTI, ⟨_, _, hTO⟩, .inl hz⟩ rv rv2 h2 k2 h3
  · obtain ⟨a', xs, rfl, h1, h2, h3⟩ := RX.tupAt (bb := true) (show RX true X.K H1 v (.tup l) from h)
    obtain ⟨b', ys, rfl, k1, k2, k3⟩ := RX.tupAt (bb := true) (show RX true X.K H1 w (.tup r) from h')
    cases ra
    cases rb
    obtain ⟨its, rv, p1, _⟩ := I1.tuple h1
    obtain ⟨its2, rv2, p2', _⟩ := I1.tuple k1
    have la : a' < s1.heap.objs.size := p1.lt
    have lb : b' < s1.heap.objs.size := p2'.lt
    have i1 : s1.heap.IsTuple a' its.toArray := p1
    have i2 : s1.heap.IsTuple b' its2.toArray := p2'
    refine RZ.call_zipT i1 i2 fun hh hz hTI hTO e1 e2 hsz hk => Calls.spliced_nil ?_
    refine fin hk cells (zlawT (PySem.W.ktu_apart s1.heap.objs.size a' b' la lb) (by rw [hsz]; exact apart la lb)) ⟨⟨e1, i1.at fun o e => hk _ o e⟩, ⟨e2, i2.at fun o e => hk _ o e⟩, hTI, ⟨_, _, hTO⟩, .inl hz⟩ rv rv2 h2 k2 h3
end
end SF

/-! D4i: sets of texts: sorted(set(x)), sorted({.. for ..}). -/
namespace SF
open PySem PySem.Spec PyProof.Rows L2

/-- a's set holds the texts l, each once -/
structure TxSet (P : Program) (w : World) (h : Heap) (a : Addr) (l : List Str) (D : Froz.SD) : Prop where
  here : h.get? a = some (Froz.sObj "set" D)
  ok : Froz.TxOk P w D l
  ris : Ris D.2.2.place.toList
  led : w.params.followText "set-order" = true ∨ D.2.2.led = true
def plainOff (t : SetTable) : SetTable := if t.plain = true then { t with plain := false } else t
theorem plainOff_place (t : SetTable) : (plainOff t).place = t.place ∧ (plainOff t).led = t.led := by
  unfold plainOff
  split <;> exact ⟨rfl, rfl⟩
theorem addTx_walks {D : Froz.SD} {h : Int} {v : Value} (r : Ris D.2.2.place.toList) : Ris (Froz.addTx h v D).2.2.place.toList ∧ (Froz.addTx h v D).2.2.led = D.2.2.led := by
  have n1 := layNew_ris D.2.2 D.1 h v r
  have n2 := layNew_led D.2.2 D.1 h v
  obtain ⟨p1, p2⟩ := plainOff_place (layNew D.2.2 D.1 h v).2.1
  show Ris (Froz.tailTx _ _ (plainOff _) _).2.2.place.toList ∧ (Froz.tailTx _ _ (plainOff _) _).2.2.led = _
  unfold Froz.tailTx
  split
  · exact ⟨relayAll_ris _ _ _, (relayAll_led _ _ _).trans (p2.trans n2)⟩
  · exact ⟨by show Ris (plainOff _).place.toList; rw [p1]; exact n1, p2.trans n2⟩
section
variable {P : Program} {w : World} {A : Around} {E : Value → Shared → Prop} {s : Shared} {a : Addr} {l : List Str} {D : Froz.SD} {k : Str} {u : Tok}
/-- the text is there: nothing is done -/
theorem hit_x (T : TxSet P w s.heap a l D) (hk : k ∈ l) (hb : l.length < scanBound) {Q : Bool → Shared → Prop} (h : Q false s) : wpAny (model P w) A (setAddHashed a (.str k u) (hashStr w k)) Q E s := by
  obtain ⟨es, ep, t⟩ := D
  obtain ⟨el, mem, sz, fit⟩ := T.ok
  have own : (strKind P w).is k (.str k u) = true := Froz.is_str k u
  obtain ⟨e, he, ke⟩ := (mem k).mp hk
  obtain ⟨j, hj⟩ : ∃ j, es.toList.findIdx? (fun e => (strKind P w).is k e.2) = some j := by
    cases q : es.toList.findIdx? (fun e => (strKind P w).is k e.2) with
    | some j => exact ⟨j, rfl⟩
    | none => exact absurd ke (by simpa using List.findIdx?_eq_none_iff.mp q e he)
  have sc := byScan_of (x := .str k u) rfl (show es.size < scanBound from Nat.lt_of_le_of_lt (Nat.le_of_eq sz) hb) el
  have st : ∀ {A' : Around} {E' : Value → Shared → Prop} {Q' : _ → Shared → Prop}, Q' (es, ep, t) s → wpAny (model P w) A' (setState a) Q' E' s := fun q => wpAny_setState_of T.here rfl fit q
  have met : ∀ {A' : Around} {E' : Value → Shared → Prop} {Q' : _ → Shared → Prop}, Q' (ScanMet.found (0 + j)) s → wpAny (model P w) A' (setScan a (.str k u) (hashStr w k) true es) Q' E' s := fun q => wpAny_setScan_of (knd := strKind P w) own T.here rfl fit el (by rw [hj]; exact q)
  unfold setAddHashed setAddHashedIn setAddByScan
  wp_walk using st, met, sc
  exact h
/-- a text more -/
def insT (k : Str) (l : List Str) : List Str := if k ∈ l then l else k :: l
theorem insT_le (k : Str) (l : List Str) : (insT k l).length ≤ l.length + 1 := by
  unfold insT
  split <;> simp
theorem TxSet.add (T : TxSet P w s.heap a l D) (hb : l.length + 1 < scanBound) {Q : Bool → Shared → Prop} (h : ∀ b h' D', TxSet P w h' a (insT k l) D' → Heap.SameBut a s.heap h' → Q b { s with heap := h' }) : wpAny (model P w) A (setAddHashed a (.str k u) (hashStr w k)) Q E s := by
  by_cases hk : k ∈ l
  · have e : insT k l = l := if_pos hk
    exact hit_x T hk (Nat.lt_of_succ_lt hb) (h false s.heap D (e.symm ▸ T) (Heap.SameBut.refl ..))
  · have e : insT k l = k :: l := if_neg hk
    have r := addTx_walks (h := hashStr w k) (v := .str k u) T.ris
    refine Froz.add_x T.here T.ok hk hb (h true _ (Froz.addTx (hashStr w k) (.str k u) D) ?_ (Heap.SameBut.update ..))
    rw [e]
    exact ⟨Froz.get_upd _ T.here rfl, Froz.add_ok u T.ok, r.1, by rw [r.2]; exact T.led⟩
theorem TxSet.typeIs (T : TxSet P w s.heap a l D) : s.TypeIs (.ref a) "set" := ⟨_, T.here, rfl⟩
theorem TxSet.add1 (T : TxSet P w s.heap a l D) (hb : l.length + 1 < scanBound) {Q : Bool → Shared → Prop} (h : ∀ b h' D', TxSet P w h' a (insT k l) D' → Heap.SameBut a s.heap h' → Q b { s with heap := h', toks := s.toks + 1 }) : wpAny (model P w) A (setAdd a (.str k u)) Q E s := by
  unfold setAdd
  exact wpAny_holding (wpAny_bind ((strKind P w).pyHash (Froz.is_str k u) (TxSet.add (s := { s with toks := s.toks + 1 }) T hb h)))
/-- set.add -/
theorem TxSet.call_add (T : TxSet P w s.heap a l D) (hb : l.length + 1 < scanBound) {Q : Value → Shared → Prop} (h : ∀ h' D', TxSet P w h' a (insT k l) D' → Heap.SameBut a s.heap h' → Q .none { s with heap := h', toks := s.toks + 1 }) : wpAny (model P w) A (call (.builtin "set.add") [.ref a, .str k u]) Q E s := by
  refine wpAny_call_entry F.slot_set_add T.typeIs F.entry_set_add ?_ (F.args_set_add_2 _ _)
  have put : ∀ {A' : Around} {E' : Value → Shared → Prop} {Q' : Bool → Shared → Prop}, (∀ b h' D', TxSet P w h' a (insT k l) D' → Heap.SameBut a s.heap h' → Q' b { s with heap := h', toks := s.toks + 1 }) → wpAny (model P w) A' (setAdd a (.str k u)) Q' E' s := fun q => T.add1 hb q
  unfold Builtin.«set.add» Builtin.Frozenset.oneOther
  wp_walk using put
  intro b h' D' T' sb
  wp_walk
  exact ⟨_, rfl, h h' D' T' sb⟩
/-- the new set -/
theorem TxSet.new (h0 : Heap) : TxSet P w (h0.push { cls := .type "set", dict := none, data := .set #[] 0 (.fresh 0 0 (!w.params.followText "set-order")) }) h0.objs.size [] (#[], 0, .fresh 0 0 (!w.params.followText "set-order")) :=
  ⟨Heap.get?_push_size _ rfl, .nil rfl, List.Pairwise.nil, by
    show _ ∨ (!w.params.followText "set-order") = true
    cases w.params.followText "set-order" <;> simp⟩
/-- the texts taken up -/
def insAll (xs : List Str) (l : List Str) : List Str := xs.foldl (fun l k => insT k l) l
theorem insAll_le : ∀ (xs l : List Str), (insAll xs l).length ≤ l.length + xs.length
  | [], l => Nat.le_refl _
  | x :: xs, l => by
    have h := insAll_le xs (insT x l)
    have g := insT_le x l
    show (insAll xs (insT x l)).length ≤ l.length + (xs.length + 1)
    omega
/-- the making of a set out of a walk over texts -/
theorem tx_loop {I S : Addr} {fp wr : List Addr} {Pv : Nat → Value → Prop} {St : Nat → Heap → Prop} {xs : List Str} {R : Result → Shared → Prop} (W : Walks P w A.in1 I fp wr xs.length Pv St) (hS : S ∉ fp) (txt : ∀ i v, Pv i v → ∃ k u, v = .str k u ∧ xs[i]? = some k) :
    ∀ (r : List Str) (i : Nat) (s : Shared) (l : List Str) (D : Froz.SD), xs.drop i = r → i ≤ xs.length → St i s.heap → TxSet P w s.heap S l D → l.length + r.length < scanBound →
      (∀ s' D', TxSet P w s'.heap S (insAll r l) D' → (∀ b o, b ≠ S → b ∉ wr → s.heap.get? b = some o → s'.heap.get? b = some o) → s'.gens = s.gens → s'.os = s.os → R (.ok (.ret .none)) s') →
      codeAny (model P w) A (.builtin "set.update.loop" ⟨[.ref S, .ref I], []⟩) R s := by
  intro r
  have nw : S ∉ wr := fun h => hS (W.sub S h)
  induction r with
  | nil =>
    intro i s l D hd hi st T _ h
    have ei : i = xs.length := by have := congrArg List.length hd; simp at this; omega
    subst ei
    refine codeAny_builtin PyProof.Rows.F.entry_set_update_loop ?_
    rw [Around.under_plainId PyProof.Rows.F.plain_set_update_loop _]
    unfold Builtin.«set.update.loop»
    have stop := fun Q E => W.done s Q E st
    wp_walk using stop
    intro h' tk keep
    wp_walk
    exact h _ D ⟨keep S _ nw T.here, T.ok, T.ris, T.led⟩ (fun b o _ => keep b o) rfl rfl
  | cons x r ih =>
    intro i s l D hd hi st T hb h
    have lt : i < xs.length := by have := congrArg List.length hd; simp at this; omega
    have hx : xs[i]? = some x := by
      have := congrArg (fun z : List Str => z[0]?) hd
      simpa using this
    have hr : xs.drop (i + 1) = r := by
      have := congrArg (fun z : List Str => z.drop 1) hd
      simpa using this
    refine codeAny_builtin PyProof.Rows.F.entry_set_update_loop ?_
    rw [Around.under_plainId PyProof.Rows.F.plain_set_update_loop _]
    unfold Builtin.«set.update.loop»
    have next := fun Q E => W.item i s Q E lt st
    wp_walk using next
    intro v h' tk pv st' keep
    obtain ⟨k, u, rfl, hk⟩ := txt i v pv
    cases hx.symm.trans hk
    have T' : TxSet P w h' S l D := ⟨keep S _ nw T.here, T.ok, T.ris, T.led⟩
    have put := fun A' E' Q' => TxSet.add1 (A := A') (E := E') (s := { s with heap := h', toks := tk }) (u := u) (k := x) T' (by simp at hb; omega) (Q := Q')
    wp_walk using put
    intro b h2 D2 T2 sb
    wp_walk
    refine ⟨plainId_quiet PyProof.Rows.F.plain_set_update_loop _, ih (i + 1) _ _ D2 hr lt (W.frame _ _ _ st' fun b hb o e => ?_) T2 ?_ fun s' D' T3 k3 => h s' D' T3 fun b o n1 n2 e => k3 b o n1 n2 ?_⟩
    · exact (sb.2 b fun e => hS (e ▸ hb)).trans e
    · have := insT_le x l
      simp at hb
      omega
    · exact (sb.2 b n1).trans (keep b o n2 e)
end
end SF

/-! D4j: set(list of texts). -/
namespace SF
open PySem PySem.Spec PyProof.Rows L2
section
variable {P : Program} {w : World} {A : Around} {E : Value → Shared → Prop} {s : Shared} {a : Addr} {l : List Str} {D : Froz.SD} {k : Str} {u : Tok}
/-- set(list of texts) -/
theorem setOf_list {p : Addr} {items : Array Value} {xs : List Str} (hh : A.handled = none) (hl : s.heap.IsList p items) (hx : L2.Vals (xs.map V.str) items.toList) (hb : xs.length < scanBound) {Q : Value → Shared → Prop}
    (h : ∀ s' D, TxSet P w s'.heap s.heap.objs.size (insAll xs []) D → (∀ b o, s.heap.get? b = some o → s'.heap.get? b = some o) → s'.gens = s.gens → s'.os = s.os → Q (.ref s.heap.objs.size) s') : wpAny (model P w) A (call (.type "set") [.ref p]) Q E s := by
  have ck := F.typeCall_set_1 (.ref p)
  have mk := F.called_set.made
  have sb := F.called_set.sub
  have h1 := F.called_set.notType
  have h2 := F.called_set.canCreate
  obtain ⟨c, tl, mro⟩ := F.called_set.mro
  refine wpAny_call (codeAny_of_tree (wpAny_pure ⟨Code.quiet_builtin _ (by decide +kernel), codeAny_builtin F.entry_type_call ?_⟩))
  rw [Around.under_plain (weight_type_call_type "set" [.ref p] []) rfl]
  unfold Builtin.«type.__call__»
  wp_walk using ck, mk, sb, h1, h2, mro
  refine codeAny_mono (L2.code_set_led1 (.ref p) (E := E) (Q₁ := fun o s1 => o = .ref s.heap.objs.size ∧ s1 = { s with heap := s.heap.push { cls := .type "set", dict := none, data := .set #[] 0 (.fresh 0 0 (!w.params.followText "set-order")) } }) ⟨rfl, rfl⟩) fun r s1 q => ?_
  rcases r with e | f
  · exact q
  · cases f <;> first | exact q.elim | skip
    obtain ⟨e1, e2⟩ := q
    subst e1
    have T : TxSet P w s1.heap s.heap.objs.size [] (#[], 0, .fresh 0 0 (!w.params.followText "set-order")) := by rw [e2]; exact .new s.heap
    have hl1 : s1.heap.IsList p items := by rw [e2]; exact hl.push _
    have lp : p < s.heap.objs.size := by obtain ⟨_, q, _⟩ := hl; exact Heap.lt_size q
    have old : ∀ b o, s.heap.get? b = some o → s1.heap.get? b = some o := by rw [e2]; exact fun b o => Heap.get?_push_of_some _
    have g1 : s1.gens = s.gens := by rw [e2]
    have o1 : s1.os = s.os := by rw [e2]
    have z1 : s1.heap.objs.size = s.heap.objs.size + 1 := by rw [e2]; exact Heap.size_push ..
    clear e2
    have isSet := T.typeIs
    have look := F.called_set.init.lookup
    have bind := F.called_set.init.bind (.ref s.heap.objs.size)
    wp_walk using isSet, sb, look, bind
    refine codeAny_call_builtin F.called_set.init.plain F.entry_set_init (check_set_init_1 isSet ?_)
    have isList := hl1.typeIs
    have n1 := F.sub_list_set
    have n2 := F.sub_list_frozenset
    unfold Builtin.«set.__init__» noKeywords Builtin.Frozenset.updateFrom
    have it := fun A' E' Q' => wpAny_pyIter_list (prog := P) (w := w) (A := A') (E := E') (Q := Q') hl1
    have st := fun A' E' Q' => wpAny_setState_of (prog := P) (w := w) (A := A') (E := E') (Q := Q') T.here rfl T.ok.fit
    wp_walk using it, st, isSet, isList, n1, n2
    have zs : items.size = xs.length := by
      have := hx.length
      simpa using this.symm
    have T2 : TxSet P w (s1.heap.push { cls := .type "list_iterator", data := .fields #[.ref p, .int 0 0] }) s.heap.objs.size [] (#[], 0, .fresh 0 0 (!w.params.followText "set-order")) := ⟨Heap.get?_push_of_some _ T.here, T.ok, T.ris, T.led⟩
    have apart : s.heap.objs.size ∉ [s1.heap.objs.size, p] := by
      simp only [List.mem_cons, List.not_mem_nil, or_false, not_or]
      exact ⟨by rw [z1]; exact Nat.ne_of_lt (Nat.lt_succ_self _), Nat.ne_of_gt lp⟩
    have walk := Walks.list (prog := P) (w := w) (A := A.in1.in1.in1) hh s1.heap.objs.size p (by rw [z1]; exact Nat.ne_of_lt (Nat.lt_succ_of_lt lp)) items
    rw [zs] at walk
    refine tx_loop walk apart (fun i v hv => ?_) xs 0 { s1 with heap := s1.heap.push { cls := .type "list_iterator", data := .fields #[.ref p, .int 0 0] } } [] _ rfl (Nat.zero_le _) ⟨⟨_, Heap.get?_push_size _ rfl, rfl, rfl⟩, hl1.push _⟩ T2 (by simpa using hb) fun s' D' T3 k3 g3 o3 => ?_
    · have hi : i < xs.length := by rw [← zs]; exact (Array.getElem?_eq_some_iff.mp hv).1
      obtain ⟨u, e, r⟩ := hx.get (i := i) (x := .str xs[i]) (by simp [hi])
      rw [Array.getElem?_toList, hv] at e
      cases e
      obtain ⟨tk, rfl⟩ := r
      exact ⟨_, tk, rfl, by simp [hi]⟩
    · wp_walk
      refine h s' D' T3 (fun b o e => ?_) (g3.trans g1) (o3.trans o1)
      have lb := Heap.lt_size e
      exact k3 b o (Nat.ne_of_lt lb) (by simp only [List.mem_cons, List.not_mem_nil, or_false]; rw [z1]; exact Nat.ne_of_lt (Nat.lt_succ_of_lt lb)) (Heap.get?_push_of_some _ (old b o e))
end
end SF

/-! D4k: sorted(a set of texts). -/
namespace SF
open PySem PySem.Spec PyProof.Rows L2
/-! ### the order of texts -/
def leT (a b : List Nat) : Bool := !ltS b a
theorem ltS_anti : ∀ a b : List Nat, ltS a b = false → ltS b a = false → a = b
  | [], [], _, _ => rfl
  | [], _ :: _, h, _ => by simp [ltS] at h
  | _ :: _, [], _, h => by simp [ltS] at h
  | a :: as, b :: bs, h, h' => by
    simp only [ltS] at h h'
    by_cases e : a = b
    · subst e
      simp only [Nat.lt_irrefl, if_false, if_true] at h h'
      rw [ltS_anti as bs h h']
    · have e' : ¬ b = a := fun q => e q.symm
      simp only [e, e', if_false] at h h'
      split at h
      · cases h
      · split at h'
        · cases h'
        · omega
theorem ltS_asym : ∀ a b : List Nat, ltS a b = true → ltS b a = false
  | [], [], h => by simp [ltS] at h
  | [], _ :: _, _ => rfl
  | _ :: _, [], h => by simp [ltS] at h
  | a :: as, b :: bs, h => by
    simp only [ltS] at h ⊢
    by_cases e : a = b
    · subst e
      simp only [Nat.lt_irrefl, if_false, if_true] at h ⊢
      exact ltS_asym as bs h
    · have e' : ¬ b = a := fun q => e q.symm
      simp only [e, e', if_false] at h ⊢
      split at h
      · rw [if_neg (by omega)]
      · cases h
theorem ltS_neg : ∀ a b c : List Nat, ltS b a = false → ltS c b = false → ltS c a = false
  | [], b, [], _, _ => rfl
  | _ :: _, b, [], h, h' => by
    cases b with
    | nil => simp [ltS] at h
    | cons b bs => simp [ltS] at h'
  | [], b, _ :: _, _, _ => rfl
  | a :: as, [], _ :: _, h, _ => by simp [ltS] at h
  | a :: as, b :: bs, c :: cs, h, h' => by
    simp only [ltS] at h h' ⊢
    by_cases e1 : b = a
    · subst e1
      by_cases e2 : c = b
      · subst e2
        simp only [Nat.lt_irrefl, if_false, if_true] at h h' ⊢
        exact ltS_neg as bs cs h h'
      · simp only [e2, if_false] at h' ⊢
        exact h'
    · simp only [e1, if_false] at h
      by_cases e2 : c = b
      · subst e2
        simp only [e1, if_false] at ⊢
        exact h
      · simp only [e2, if_false] at h'
        have n1 : ¬ b < a := fun q => by rw [if_pos q] at h; cases h
        have n2 : ¬ c < b := fun q => by rw [if_pos q] at h'; cases h'
        rw [if_neg (by omega), if_neg (by omega)]
theorem leT_total (a b : List Nat) : (leT a b || leT b a) = true := by
  unfold leT
  cases h : ltS b a with
  | false => rfl
  | true => rw [ltS_asym b a h]; rfl
theorem leT_trans (a b c : List Nat) (h : leT a b = true) (h' : leT b c = true) : leT a c = true := by
  unfold leT at *
  rw [Bool.not_eq_true'] at *
  exact ltS_neg a b c h h'
theorem sort_perm {l m : List (List Nat)} (p : l.Perm m) : l.mergeSort leT = m.mergeSort leT := by
  refine List.Perm.eq_of_pairwise (le := fun a b => leT a b = true) (fun a b _ _ h h' => ?_) (List.pairwise_mergeSort leT_trans leT_total l) (List.pairwise_mergeSort leT_trans leT_total m) (((List.mergeSort_perm l leT).trans p).trans (List.mergeSort_perm m leT).symm)
  unfold leT at h h'
  rw [Bool.not_eq_true'] at h h'
  exact ltS_anti a b h' h
theorem sortD_str (l : List (List Nat)) : sortD (l.map .str) = (l.mergeSort leT).map .str := by
  unfold sortD
  refine (List.map_mergeSort fun a _ b _ => ?_).symm
  show leT a b = !ltD (.str b) (.str a)
  rw [ltD]
  rfl
/-- a list without twins whose members all stand in one as long -/
theorem perm_of_all {α : Type} [DecidableEq α] : ∀ {l m : List α}, l.Nodup → (∀ x ∈ l, x ∈ m) → m.length = l.length → m.Perm l
  | [], m, _, _, h => by rw [List.length_eq_zero_iff.mp h]
  | x :: l, m, nd, sub, h => by
    have hx := sub x (by simp)
    have nd' := List.nodup_cons.mp nd
    have p := List.perm_cons_erase hx
    refine p.trans (.cons x (perm_of_all nd'.2 (fun y hy => ?_) ?_))
    · exact (List.mem_erase_of_ne fun (e : y = x) => nd'.1 (e ▸ hy)).mpr (sub y (by simp [hy]))
    · have := p.length_eq
      simp only [List.length_cons] at this h
      omega
/-! ### the members in order -/
def strOf : Value → Str
  | .str k _ => k
  | _ => ⟨#[]⟩
theorem txs_each : ∀ {vs : List Value}, (∀ v ∈ vs, ∃ k u, v = .str k u) → PySem.W.EachIs (fun v d => ∃ k u, v = Value.str k u ∧ d = Dat.str k.cps.toList) vs (vs.map fun v => Dat.str (strOf v).cps.toList)
  | [], _ => .nil
  | v :: vs, h => by
    obtain ⟨k, u, rfl⟩ := h v (by simp)
    exact .cons ⟨k, u, rfl, rfl⟩ (txs_each fun v hv => h v (by simp [hv]))
theorem vals_txs : ∀ {out : List Value} {l : List (List Nat)}, PySem.W.EachIs (fun v d => ∃ k u, v = Value.str k u ∧ d = Dat.str k.cps.toList) out (l.map .str) → L2.Vals (l.map fun s => V.str ⟨s.toArray⟩) out
  | _, [], h => by cases h; exact .nil
  | _, s :: l, h => by
    cases h with
    | cons a b =>
      obtain ⟨k, u, rfl, e⟩ := a
      cases e
      exact .cons ⟨u, by simp⟩ (vals_txs b)
section
variable {P : Program} {w : World} {A : Around} {E : Value → Shared → Prop} {s : Shared} {a : Addr} {l : List Str} {D : Froz.SD} {k : Str} {u : Tok}
theorem TxSet.order (T : TxSet P w s.heap a l D) (nd : l.Nodup) {vs : List Value} (pm : vs.Perm (D.1.toList.map (·.2))) : (∀ v ∈ vs, ∃ k u, v = .str k u) ∧ (vs.map strOf).Perm l := by
  obtain ⟨el, mem, sz, _⟩ := T.ok
  have tx : ∀ e ∈ D.1.toList, ∃ k u, e.2 = .str k u := fun e he => by
    obtain ⟨⟨k, hk, _⟩, _⟩ := el e he
    cases q : e.2 <;> rw [q] at hk <;> first | exact ⟨_, _, rfl⟩ | exact absurd hk Bool.false_ne_true
  refine ⟨fun v hv => ?_, (pm.map strOf).trans (perm_of_all nd (fun k hk => ?_) ?_)⟩
  · obtain ⟨e, he, rfl⟩ := List.mem_map.mp (pm.mem_iff.mp hv)
    exact tx e he
  · obtain ⟨e, he, q⟩ := (mem k).mp hk
    obtain ⟨k', u, e2⟩ := tx e he
    refine List.mem_map.mpr ⟨e.2, List.mem_map.mpr ⟨e, he, rfl⟩, ?_⟩
    rw [e2] at q ⊢
    exact (strKind P w).inj (.str k' u) k' k (Froz.is_str k' u) q
  · rw [List.length_map, List.length_map, Array.length_toList]
    exact sz
/-- sorted(a set of texts) -/
theorem set_sorted {tx : List (List Nat)} (T : TxSet P w s.heap a (tx.map fun s => ⟨s.toArray⟩) D) (hh : A.handled = none) (hu : A.units + 200 < cLine) (nd : tx.Nodup) (hb : tx.length < scanBound) {Q : Value → Shared → Prop}
    (h : ∀ s' p out n, (∀ b o, s.heap.get? b = some o → s'.heap.get? b = some o) → s'.gens = s.gens → s'.os = s.os → s.heap.objs.size ≤ p → s'.heap.get? p = some (seqObj "list" (List.toArray out) n) →
      L2.Vals ((tx.mergeSort leT).map fun s => V.str ⟨s.toArray⟩) out → Q (.ref p) s') : wpAny (model P w) A (call (.builtin "sorted") [.ref a]) Q E s := by
  have ndS : (tx.map fun s => (⟨s.toArray⟩ : Str)).Nodup := by
    refine List.pairwise_map.mpr (nd.imp fun {x y} q e => q ?_)
    have := congrArg (fun z : Str => z.cps.toList) e
    simpa using this
  have sz : D.1.size < scanBound := by rw [T.ok.sz, List.length_map]; exact hb
  refine Calls.call_function_entry kind_sorted plain_sorted entry_sorted (args_sorted1 _) ?_
  have col := fun Q' => collect_set (P := P) (A := A.in1) (E := E) (Q := Q') hh ⟨_, T.here, rfl, rfl⟩ T.ok.fit sz T.ris T.led
  unfold Builtin.«sorted»
  dsimp only [List.headD]
  wp_walk using col
  intro s1 vs k1 z1 g1 o1 pm
  obtain ⟨tv, pv⟩ := T.order ndS pm
  have lv : vs.length = tx.length := by rw [← List.length_map (f := strOf), pv.length_eq, List.length_map]
  have lz : vs.length ≤ sizeLine := by rw [lv, sizeLine_eq]; unfold scanBound at hb; omega
  refine wpAny_bind (wpAny_newList ?_ (by first | exact lz | (rw [List.size_toArray]; exact lz)))
  have made : (s1.heap.push { cls := .type "list", data := .seq vs.toArray }).get? s1.heap.objs.size = some (seqObj "list" vs.toArray 0) := Heap.get?_push_size _ rfl
  have alike : alikeAll (vs.map fun v => Dat.str (strOf v).cps.toList) := by
    intro x hx y hy
    obtain ⟨_, _, rfl⟩ := List.mem_map.mp hx
    obtain ⟨_, _, rfl⟩ := List.mem_map.mp hy
    rw [alikeD]
  have okay : ∀ z ∈ vs.map fun v => Dat.str (strOf v).cps.toList, okd 60 z ∧ noEmpty z = true := by
    intro z hz
    obtain ⟨_, _, rfl⟩ := List.mem_map.mp hz
    exact ⟨by simp [okd], rfl⟩
  have eR := txs_each tv
  have er : PySem.W.EachIs (fun v b => ∃ as, Reads (s1.heap.push { cls := .type "list", data := .seq vs.toArray }) v (toPy b) as ∧ s1.heap.objs.size ∉ as) vs (vs.map fun v => Dat.str (strOf v).cps.toList) := eR.mono fun v d ⟨k, u, e1, e2⟩ => by
    subst e1 e2
    refine ⟨[], ?_, by simp⟩
    have e : toPy (.str k.cps.toList) = .str k := by simp [toPy]
    rw [e]
    exact .str k u
  refine wpAny_bind (wpAny_holding (PySem.W.list_sort_data made eR er (allAlike_of alike) (sortable_of alike fun z hz => (okay z hz).2) (by rw [List.length_map]; exact lz) (fun b hb => ?_) fun out ho eo => ?_))
  · have := (okd_plain 60 _ (okay b hb).1).2
    show A.units + 1 + 1 + _ < cLine
    omega
  rw [sortD_eq alike fun z hz => (okay z hz).1] at eo
  have et : (vs.map fun v => Dat.str (strOf v).cps.toList) = ((vs.map strOf).map fun k => k.cps.toList).map Dat.str := by simp
  have ex : (tx.map fun s => (⟨s.toArray⟩ : Str)).map (fun k => k.cps.toList) = tx := by simp [Function.comp_def]
  have pm2 := pv.map fun k : Str => k.cps.toList
  rw [ex] at pm2
  rw [et, sortD_str, sort_perm pm2] at eo
  obtain ⟨c, hc⟩ := PyProof.Rows.sortedHeap_at (vs := vs) (out := out.toArray) made
  refine wpAny_pure ⟨_, rfl, h _ s1.heap.objs.size out c (fun b o e => ?_) g1 o1 z1 hc (vals_txs eo)⟩
  have q := k1 b o e
  have lt := Heap.lt_size q
  exact (PyProof.Rows.sortedHeap_old (Nat.ne_of_lt lt) (by rw [Heap.size_push]; exact Nat.lt_succ_of_lt lt)).trans (Heap.get?_push_of_some _ q)
end
end SF

/-! D4l: sets of texts among the values: set(x), sorted(a set). -/
namespace SF
open PySem PySem.Spec PyProof.Rows L2
def txS (s : List Nat) : Str := ⟨s.toArray⟩
theorem txS_inj {a b : List Nat} (h : txS a = txS b) : a = b := by
  have := congrArg (fun z : Str => z.cps.toList) h
  simpa [txS] using this
theorem insAll_txS : ∀ (l acc : List (List Nat)), insAll (l.map txS) (acc.map txS) = (l.foldl (fun l k => if k ∈ l then l else k :: l) acc).map txS
  | [], acc => rfl
  | x :: l, acc => by
    show insAll (l.map txS) (insT (txS x) (acc.map txS)) = _
    have e : insT (txS x) (acc.map txS) = (if x ∈ acc then acc else x :: acc).map txS := by
      unfold insT
      have m : txS x ∈ acc.map txS ↔ x ∈ acc := ⟨fun h => by obtain ⟨y, hy, e⟩ := List.mem_map.mp h; rw [← txS_inj e]; exact hy, fun h => List.mem_map.mpr ⟨x, h, rfl⟩⟩
      by_cases h : x ∈ acc
      · rw [if_pos h, if_pos (m.mpr h)]
      · rw [if_neg h, if_neg fun q => h (m.mp q)]
        rfl
    rw [e]
    exact insAll_txS l _
theorem setN_gen : ∀ (l acc : List (List Nat)), acc.Nodup → (l.foldl (fun l k => if k ∈ l then l else k :: l) acc).Nodup ∧ (l.foldl (fun l k => if k ∈ l then l else k :: l) acc).length ≤ acc.length + l.length ∧
    ∀ k, k ∈ l.foldl (fun l k => if k ∈ l then l else k :: l) acc ↔ k ∈ acc ∨ k ∈ l
  | [], acc, h => ⟨h, Nat.le_refl _, fun k => by simp⟩
  | x :: l, acc, h => by
    by_cases e : x ∈ acc
    · have q := setN_gen l acc h
      rw [List.foldl_cons, if_pos e]
      refine ⟨q.1, by have := q.2.1; simp only [List.length_cons]; omega, fun k => (q.2.2 k).trans ?_⟩
      rw [List.mem_cons]
      constructor
      · rintro (a | a)
        · exact .inl a
        · exact .inr (.inr a)
      · rintro (a | a | a)
        · exact .inl a
        · exact .inl (a ▸ e)
        · exact .inr a
    · have q := setN_gen l (x :: acc) (List.nodup_cons.mpr ⟨e, h⟩)
      rw [List.foldl_cons, if_neg e]
      refine ⟨q.1, by have := q.2.1; simp only [List.length_cons] at this ⊢; omega, fun k => (q.2.2 k).trans ?_⟩
      rw [List.mem_cons, List.mem_cons]
      constructor
      · rintro ((a | a) | a)
        · exact .inr (.inl a)
        · exact .inl a
        · exact .inr (.inr a)
      · rintro (a | a | a)
        · exact .inl (.inr a)
        · exact .inl (.inl a)
        · exact .inr a
theorem setN_nodup (l : List (List Nat)) : (setN l).Nodup := (setN_gen l [] List.nodup_nil).1
theorem setN_le (l : List (List Nat)) : (setN l).length ≤ l.length := by have := (setN_gen l [] List.nodup_nil).2.1; unfold setN; simpa using this
theorem mem_setN {l : List (List Nat)} {k : List Nat} : k ∈ setN l ↔ k ∈ l := ((setN_gen l [] List.nodup_nil).2.2 k).trans (by simp)
theorem mem_sortN {l : List (List Nat)} {k : List Nat} : k ∈ sortN l ↔ k ∈ l := ((List.mergeSort_perm (setN l) _).mem_iff).trans mem_setN
theorem sortN_le (l : List (List Nat)) : (sortN l).length ≤ l.length := by
  unfold sortN
  rw [List.length_mergeSort]
  exact setN_le l
/-- a set of texts, as a tracked thing -/
def setO (P : Program) (w : World) (a : Addr) (l : List (List Nat)) : HO := .ext fun h => ∃ D, TxSet P w h a (l.map txS) D
theorem setO_ok {P : Program} {w : World} {H : Hp} {h : Heap} {a : Addr} {l : List (List Nat)} {D : Froz.SD} (T : TxSet P w h a (l.map txS) D) : ObjOk P w H h a (setO P w a l) :=
  ⟨⟨D, T⟩, ⟨_, T.here⟩, fun h1 h2 ⟨D', T'⟩ k => ⟨D', k _ T'.here, T'.ok, T'.ris, T'.led⟩⟩
theorem setO_no {P : Program} {w : World} {h : Heap} {a : Addr} {l : List (List Nat)} {D : Froz.SD} (T : TxSet P w h a (l.map txS) D) (z : Nat) : setO P w a l ≠ potO a z := fun e => by
  have e2 := congrFun (HO.ext.inj e) h
  have : ∃ D, TxSet P w h a (l.map txS) D := ⟨D, T⟩
  rw [e2] at this
  obtain ⟨_, _, _, _, _, _, _, q, _⟩ := this
  rw [T.here] at q
  have : Value.type "set" = Value.type "list" := congrArg Obj.cls (Option.some.inj q)
  exact absurd this (by decide)
theorem Step.put {k : Nat} {H H' : Hp} {D : Addr} {o : HO} (st : Step k H H') (hD : H D = none) (no : ∀ z, o ≠ potO D z) : Step k H (L2.upd H' D o) := by
  refine ⟨fun a u h => ?_, fun m h => ?_⟩
  · have na : a ≠ D := fun e => by subst e; rw [hD] at h; cases h
    rcases st.ext a u h with q | ⟨q1, z, q⟩
    · exact .inl (by rw [upd_ne na]; exact q)
    · exact .inr ⟨q1, z, by rw [upd_ne na]; exact q⟩
  · have p := st.pot m h
    refine ⟨p.1, fun a z q => ?_⟩
    by_cases e : a = D
    · subst e; rw [upd_same] at q; exact absurd (Option.some.inj q) (no z)
    · rw [upd_ne e] at q; exact p.2 a z q
section
variable {X : Cx}
theorem setO_at {pins : List (Addr × Obj)} {σ : L2.St} {H : Hp} {s : Shared} {a : Addr} {l : List (List Nat)} (I : L2.Inv X pins σ H s) (h : H a = some (setO X.prog X.w a l)) : ∃ D, TxSet X.prog X.w s.heap a (l.map txS) D := (I.hok a _ h).1
theorem inv_like {pins : List (Addr × Obj)} {σ : L2.St} {H : Hp} {s s' : Shared} {t : Nat} (I : L2.Inv X pins σ H { s with heap := s'.heap, toks := t }) (g : s'.gens = s.gens) (o : s'.os = s.os) : L2.Inv X pins σ H s' :=
  ⟨I.ok, o.trans I.os, by rw [g]; exact I.bare, I.base, I.loc, I.cell, I.free, I.freeC, I.pin, I.hok, I.len⟩
def rSetT (X : Cx) : List V → Hp → VK → Prop := fun xs H Q => ∃ v l, xs = [v] ∧ BRep X.K H v (.lst (l.map .str)) ∧ l.length ≤ 1000 ∧ ∀ D, H D = none → (∀ z, setO X.prog X.w D (setN l) ≠ potO D z) → Q (.ref D) (L2.upd H D (setO X.prog X.w D (setN l)))
theorem reps_strs {K : PySem.W.Frag} {H : Hp} : ∀ {vs : List V} {l : List (List Nat)}, Reps K H vs (l.map .str) → vs = (l.map txS).map V.str ∧ ∀ t ∈ l, t.length ≤ sizeLine
  | [], [], _ => ⟨rfl, fun t h => by simp at h⟩
  | [], _ :: _, h => by simp [Reps] at h
  | _ :: _, [], h => by simp [Reps] at h
  | v :: vs, t :: l, h => by
    rw [List.map_cons, Reps, Rep] at h
    obtain ⟨⟨e, z⟩, h⟩ := h
    obtain ⟨e2, z2⟩ := reps_strs h
    subst e e2
    exact ⟨rfl, fun x hx => by
      rcases List.mem_cons.mp hx with rfl | q
      · exact z
      · exact z2 x q⟩
theorem strs_reps {K : PySem.W.Frag} {H : Hp} : ∀ {l : List (List Nat)}, (∀ t ∈ l, t.length ≤ sizeLine) → Reps K H (l.map fun s => V.str ⟨s.toArray⟩) (l.map .str)
  | [], _ => by rw [List.map_nil, List.map_nil, Reps]; trivial
  | t :: l, h => by
    rw [List.map_cons, List.map_cons, Reps, Rep]
    exact ⟨⟨rfl, h t (by simp)⟩, strs_reps fun x hx => h x (by simp [hx])⟩
theorem cr_setT (hc : X.calm = true) : CallR X (.type "set") (rSetT X) := by
  rintro pins s σ H xs us Q I r ⟨v, l, rfl, hv, hl, q⟩
  obtain ⟨a, vs, rfl, h1, h2, h3⟩ := hv.lstAt
  obtain ⟨its, rv, il, _⟩ := I.list (.inl h1)
  rw [Vals.ref1 r]
  obtain ⟨e, z⟩ := reps_strs h2
  subst e
  refine setOf_list (xs := l.map txS) (I.ok.hd hc) il.isList (by rw [List.toList_toArray]; exact rv) (by rw [List.length_map]; unfold scanBound; omega) fun s' D T k g o => ?_
  have eT : insAll (l.map txS) [] = (setN l).map txS := insAll_txS l []
  rw [eT] at T
  have J := I.laid (h' := s'.heap) (t' := s'.toks) (o := setO X.prog X.w s.heap.objs.size (setN l)) k (Nat.le_refl _) (setO_ok T)
  exact ⟨.ref s.heap.objs.size, _, inv_like J g o, rfl, q _ (I.hok.fresh (Nat.le_refl _)) (setO_no T)⟩
def rSortS (X : Cx) : List V → Hp → VK → Prop := fun xs H Q => ∃ D l, xs = [.ref D] ∧ H D = some (setO X.prog X.w D (setN l)) ∧ l.length ≤ 1000 ∧ ∀ p, H p = none → Q (.ref p) (L2.upd H p (.lst ((sortN l).map fun s => V.str ⟨s.toArray⟩)))
theorem cr_sortS (hc : X.calm = true) (hu : X.A.units + 200 < cLine) : CallR X (.builtin "sorted") (rSortS X) := by
  rintro pins s σ H xs us Q I r ⟨D, l, rfl, hD, hl, q⟩
  rw [Vals.ref1 r]
  obtain ⟨B, T⟩ := setO_at I hD
  have le := setN_le l
  refine set_sorted T (I.ok.hd hc) hu (setN_nodup l) (by unfold scanBound; omega) fun s' p out n k g o hp hg rv => ?_
  have J := I.laid (h' := s'.heap) (t' := s'.toks) (o := .lst ((sortN l).map fun s => V.str ⟨s.toArray⟩)) k hp ⟨by rw [List.length_map]; have := sortN_le l; rw [sizeLine_eq]; omega, out, n, rv, hg⟩
  exact ⟨.ref p, _, inv_like J g o, rfl, q p (I.hok.fresh hp)⟩
/-- a set of texts, new -/
def RS (X : Cx) : Mod0 := fun H H' v d => ∃ D l, v = .ref D ∧ d = .lst (l.map .str) ∧ H D = none ∧ H' D = some (setO X.prog X.w D (setN l)) ∧ l.length ≤ 1000 ∧ ∀ t ∈ l, t.length ≤ sizeLine
variable {e : Expr} {n : Nat} {fa : Env → (Dat → Prop) → Prop} {p pos : Pos}
def setW1 (x : Dat) (Q : Dat → Prop) : Prop := ∃ l : List (List Nat), x = .lst (l.map .str) ∧ l.length ≤ 1000 ∧ Q x
def sortW1 (x : Dat) (Q : Dat → Prop) : Prop := ∃ l : List (List Nat), x = .lst (l.map .str) ∧ Q (.lst ((sortN l).map .str))
def oneW (f : Dat → (Dat → Prop) → Prop) (ds : List Dat) (Q : Dat → Prop) : Prop :=
  match ds with
  | [d] => f d Q
  | _ => False
/-- set(x) -/
theorem qe_setT (hc : X.calm = true) (hg : Gl X "set") (hm : X.mg "set" = none) (ha : QE X e n (RB X.K) fa) (hs : starEach [e] X.env = [(false, eval e X.env)]) : QE X (.Call (.Name "set" p) [e] [] pos) n (RS X) (fun δ Q => fa δ fun x => setW1 x Q) := by
  refine qe_call (r := rSetT X) (W := oneW setW1) (RL := RLb X.K) (fun E => cr_setT (X := X.wish E) hc) (.inr ⟨_, rfl⟩) hg hm (by rfl) (fun pins σ E' H H1 vs ds Φ st rl q => ?_) (qa_one (R := RB X.K) (fun _ _ v d h => ?_) ha hs) (by decide) (by decide) (by rw [hs]; rfl) rfl
  · match ds, rl, q with
    | [d], rl, ⟨l, e1, hl, q⟩ =>
      subst e1
      obtain ⟨v, rfl, hv⟩ := rl.one
      have hz : ∀ t ∈ l, t.length ≤ sizeLine := by
        obtain ⟨a, vs, _, _, h2, _⟩ := hv.lstAt
        exact (reps_strs h2).2
      refine ⟨fun w H' => ∃ D, w = .ref D ∧ H1 D = none ∧ H' = L2.upd H1 D (setO X.prog X.w D (setN l)) ∧ ∀ z, setO X.prog X.w D (setN l) ≠ potO D z, ⟨v, l, rfl, hv, hl, fun D hD no => ⟨D, rfl, hD, rfl, no⟩⟩, fun w s' t ⟨v', H', I', rv, D, e2, hD, e3, no⟩ => ?_⟩
      subst e2 e3
      have hn := st.ext.none hD
      exact ⟨t, .ref D, _, _, I'.unwish, rv, st.put hn no, ⟨D, l, rfl, rfl, hn, upd_same, hl, hz⟩, q⟩
  · show BReps _ _ _ _
    rw [BReps, BReps]
    exact ⟨h, trivial⟩
/-- sorted(a new set) -/
theorem qe_sortS (hu : X.A.units + 300 < cLine) (hc : X.calm = true) (hg : Gl X "sorted") (hm : X.mg "sorted" = none) (ha : QE X e n (RS X) fa) (hs : starEach [e] X.env = [(false, eval e X.env)]) : QE X (.Call (.Name "sorted" p) [e] [] pos) n (ROw X.K) (fun δ Q => fa δ fun x => sortW1 x Q) := by
  refine qe_call (r := rSortS X) (W := oneW sortW1) (RL := fun H vs ds => ∃ v D l, vs = [v] ∧ v = .ref D ∧ ds = [.lst (l.map .str)] ∧ H D = some (setO X.prog X.w D (setN l)) ∧ l.length ≤ 1000 ∧ ∀ t ∈ l, t.length ≤ sizeLine) (fun E => cr_sortS (X := X.wish E) hc (by show X.A.units + 200 < cLine; omega)) (.inl ⟨_, rfl⟩) hg hm (by rfl) (fun pins σ E' H H1 vs ds Φ st rl q => ?_)
    (qa_one (R := RS X) (fun _ _ v d ⟨D, l, e1, e2, _, h, hl, hz⟩ => ⟨v, D, l, rfl, e1, by rw [e2], h, hl, hz⟩) ha hs) (by decide) (by decide) (by rw [hs]; rfl) rfl
  obtain ⟨v, D, l, rfl, rfl, rfl, h, hl, hz⟩ := rl
  obtain ⟨l', e, q⟩ := q
  have el : l' = l := by
    have := congrArg (fun d : Dat => match d with | .lst z => z | _ => []) e
    have : l.map Dat.str = l'.map Dat.str := this
    exact (List.map_inj_right (fun x y e => by injection e)).mp this.symm
  subst el
  refine ⟨fun w H' => ∃ p, w = .ref p ∧ H1 p = none ∧ H' = L2.upd H1 p (.lst ((sortN l').map fun s => V.str ⟨s.toArray⟩)), ⟨D, l', rfl, h, hl, fun p hp => ⟨p, rfl, hp, rfl⟩⟩, fun w s' t ⟨v', H', I', rv, p, e2, hp, e3⟩ => ?_⟩
  subst e2 e3
  have hn := st.ext.none hp
  exact ⟨t, .ref p, _, .lst ((sortN l').map .str), I'.unwish, rv, st.wrote hn, .inl ⟨p, rfl, hn, _, upd_same, by rw [List.length_map]; have := sortN_le l'; rw [sizeLine_eq]; omega, strs_reps fun t ht => hz t (mem_sortN.mp ht)⟩, q⟩
end
end SF

/-! D4m: a set comprehension of texts. -/
namespace SF
open PySem PySem.Spec PyProof.Rows L2
section
variable {X : Cx}
/-- a set comprehension, up to its loop -/
theorem scomp_go {pins : List (Addr × Obj)} {s : Shared} {σ : L2.St} {H : Hp} {elt tg iter : Expr} {ifs : List Expr} {scope : Scope} {own : List (Str × Nat)} {pos pos' : Pos} {use : Option (Value → Sem Unit)} {Qf : Value → Shared → Prop} {E : Value → Shared → Prop}
    {Go : It → Hp → Prop} (hN : X.N.Nodup) (I : L2.Inv X pins σ H s) (ok : BlkOk X.N X.env.scope scope own) (hs : ∀ x, foldedSetIterable iter X.env x = pure x)
    (first : wpAny (model X.prog X.w) X.A (eval iter X.env) (fun v s1 => wpAny (model X.prog X.w) X.A (pyIter v) (fun itv s2 => ∃ it fp tn J H2, itv = .ref it ∧ 0 < s2.toks ∧ L2.Inv X pins σ H2 s2 ∧ Turn X.prog X.w X.K tg J fp it tn ∧ tn 0 s2.heap ∧ (∀ b ∈ fp, FpOk X pins H2 b) ∧ Go J H2) E s1) E s)
    (loop : ∀ it fp tn J H2 D s3 s4 ce, Go J H2 → Turn X.prog X.w X.K tg J fp it tn → H2 D = none → (∀ z, setO X.prog X.w D [] ≠ potO D z) → Cmp X pins σ (own.map (·.2)) scope fp (L2.upd H2 D (setO X.prog X.w D [])) s3 s4 ce → tn 0 s4.heap → 0 < s4.toks →
      codeAny (model X.prog X.w) X.A (.compLoop (.SetComp elt [⟨tg, iter, ifs, 0⟩] scope pos) 0 (.ref it) (.ref D) ce) (compPost (model X.prog X.w) X.A E use Qf (.ref D) ce.locals) s4) :
    wpAny (model X.prog X.w) X.A (comprehension (.SetComp elt [⟨tg, iter, ifs, 0⟩] scope pos) scope X.env pos' (newSet (.type "set")) false (eval iter X.env) use) Qf E s := by
  have clo : closureFor scope X.env = pure (cloFrom X.env.cells scope.names []) := by
    refine closure_ok ?_
    intro y hy e
    exact I.ok.has _ (ok.free y hy e)
  refine wpAny_comprehension_free rfl hs clo ok.kind ?_ (thn first ?_)
  · intro y hy e
    rw [← e]
    exact ok.uniq y hy
  intro v s1 h1
  refine thn h1 ?_
  rintro itv s2 ⟨it, fp, tn, J, H2, rfl, ht, I2, T, st, f2, go⟩
  have Dn := I2.hok.fresh (Nat.le_refl s2.heap.objs.size)
  refine wpAny_newSet_raw ?_
  rintro led rfl
  have new := TxSet.new (P := X.prog) (w := X.w) s2.heap
  have I3 := I2.laid (t' := s2.toks) (o := setO X.prog X.w s2.heap.objs.size []) (fun b u => Heap.get?_push_of_some _) (Nat.le_refl _) (setO_ok (l := []) new)
  have f3 : ∀ b ∈ fp, FpOk X pins (L2.upd H2 s2.heap.objs.size (setO X.prog X.w s2.heap.objs.size [])) b ∧ b < (s2.heap.push { cls := .type "set", dict := none, data := .set #[] 0 (.fresh 0 0 (!X.w.params.followText "set-order")) }).objs.size := by
    intro b hb
    obtain ⟨o, e, _⟩ := T.obj 0 _ st b hb
    have lt := Heap.lt_size e
    obtain ⟨k0, k⟩ := f2 b hb
    refine ⟨⟨?_, k⟩, ?_⟩
    · rw [upd_ne (Nat.ne_of_lt lt)]
      exact k0
    · rw [Heap.size_push]
      exact Nat.lt_succ_of_lt lt
  refine newEnv_comp ?_
  have st4 : tn 0 (pushCells ((s2.heap.push { cls := .type "set", dict := none, data := .set #[] 0 (.fresh 0 0 (!X.w.params.followText "set-order")) }).push { cls := .type "dict", data := .dict #[] }) scope.names) := by
    refine T.keep 0 _ _ st ?_
    intro b _ o e
    exact pushCells_keeps _ _ _ _ (Heap.get?_push_of_some _ (Heap.get?_push_of_some _ e))
  have L := loop it fp tn J H2 s2.heap.objs.size _ _ _ go T Dn (setO_no (l := []) new) ⟨I3, block_start I3 ok hN f3, fun b hb => (f3 b hb).1, rfl, _, _, rfl⟩ st4 ht
  exact PySem.codeAny_compStart_set L (T.self X.A 0 _ _ _ st4 L)
/-- set.add of a text -/
theorem addT_ok {pins : List (Addr × Obj)} {σ : L2.St} {H : Hp} {s : Shared} {E : Value → Shared → Prop} {D : Addr} {l : List (List Nat)} {t : List Nat} {u : Value} {Q : Value → Shared → Prop} (I : L2.Inv X pins σ H s) (hD : H D = some (setO X.prog X.w D (setN l))) (hl : l.length ≤ 1000) (r : L2.RelV (.str (txS t)) u)
    (h : ∀ s', (∀ z, setO X.prog X.w D (setN (l ++ [t])) ≠ potO D z) → L2.Inv X pins σ (L2.upd H D (setO X.prog X.w D (setN (l ++ [t])))) s' → Q .none s') : wpAny (model X.prog X.w) X.A (call (.builtin "set.add") [.ref D, u]) Q E s := by
  obtain ⟨B, T⟩ := setO_at I hD
  obtain ⟨tk, rfl⟩ := r
  have le := setN_le l
  refine T.call_add (by rw [List.length_map]; unfold scanBound; omega) fun h' D' T' sb => ?_
  have e : insT (txS t) ((setN l).map txS) = (setN (l ++ [t])).map txS := by
    have := insAll_txS [t] (setN l)
    unfold setN at this ⊢
    rw [List.foldl_append]
    exact this
  rw [e] at T'
  exact h _ (setO_no T') (I.write (e := D) (t' := s.toks + 1) (by rw [hD]; trivial) (.inl rfl) (fun b u nb hu => (sb.2 b nb).trans hu) ⟨_, T'.here⟩ (setO_ok T'))
/-- the texts alone -/
def txE (fe : Env → (Dat → Prop) → Prop) (δ : Env) (Q : Dat → Prop) : Prop := fe δ fun y => ∃ t, y = .str t ∧ Q y
theorem sc_run {pins : List (Addr × Obj)} {s : Shared} {σ : L2.St} {H : Hp} {δ : Env} {m : Nat} {Φ : Dat → Prop} {elt tg iter : Expr} {ifs : List Expr} {scope : Scope} {own : List (Str × Nat)} {pos pos' : Pos} {p : P} {z : Bool} {n n1 n2 : Nat}
    {fi fe : Env → (Dat → Prop) → Prop} {ft : Env → (Bool → Prop) → Prop} {use : Option (Value → Sem Unit)} {Qf : Value → Shared → Prop} {E : Value → Shared → Prop}
    (hc : X.calm = true) (hN : X.N.Nodup) (t0 : 0 < s.toks) (I : L2.Inv X pins σ H s) (er : EnvRep X.K σ H δ) (pl : PotLe (n + sizeLine * (n1 + n2) + m) H) (hi : QI X tg iter n true z fi) (ok : BlkOk X.N X.env.scope scope own) (hz : z = true → isT p = true) (hv : ∀ i ∈ varsP p, i ∈ own.map (·.2))
    (hg : ∀ (s : Shared) (H : Hp) (C : Addr) (cl : List (Str × Addr)) (fp : List Addr), TgOk (X.blk s H scope (compEnvC scope cl C X.env) fp) tg p) (ht : ∀ (s : Shared) (H : Hp) (C : Addr) (cl : List (Str × Addr)) (fp : List Addr), QTs (X.blk s H scope (compEnvC scope cl C X.env) fp) ifs n1 ft)
    (he : ∀ (s : Shared) (H : Hp) (C : Addr) (cl : List (Str × Addr)) (fp : List Addr), QE (X.blk s H scope (compEnvC scope cl C X.env) fp) elt n2 (RV X.K) fe) (hs : ∀ x, foldedSetIterable iter X.env x = pure x)
    (h : fi δ fun x => ∃ ds, iterD x = some ds ∧ ds.length ≤ 1000 ∧ mapW (turnW p (wipeD δ (own.map (·.2))) ft (txE fe)) ds fun ys => Φ (.lst ys)) (mfi : ∀ δ, Mono (fi δ)) (mfe : ∀ δ, Mono (fe δ))
    (hRR : ∀ D C s' m' H' l, 0 < s'.toks → L2.Inv X pins σ H' s' → Step (n + sizeLine * (n1 + n2)) H H' → H D = none → H' D = some (setO X.prog X.w D (setN l)) → l.length ≤ 1000 → (∀ t ∈ l, t.length ≤ sizeLine) → Φ (.lst (l.map .str)) → s'.heap.Ns C m' → FpOk X pins H' C → compPost (model X.prog X.w) X.A E use Qf (.ref D) C (.ok .next) s') :
    wpAny (model X.prog X.w) X.A (comprehension (.SetComp elt [⟨tg, iter, ifs, 0⟩] scope pos) scope X.env pos' (newSet (.type "set")) false (eval iter X.env) use) Qf E s := by
  refine scomp_go (Go := fun J H2 => Step n H H2 ∧ ∃ ds, Wlk X.K true z H2 ds J ∧ ds.length ≤ 1000 ∧ mapW (turnW p (wipeD δ (own.map (·.2))) ft (txE fe)) ds fun ys => Φ (.lst ys)) hN I ok hs (thn (hi E pins s σ H δ (sizeLine * (n1 + n2) + m) (fun x => ∃ ds, iterD x = some ds ∧ ds.length ≤ 1000 ∧ mapW (turnW p (wipeD δ (own.map (·.2))) ft (txE fe)) ds fun ys => Φ (.lst ys)) t0 I er (pl.mono (by omega)) (mfi δ _ _ (fun _ ⟨ds, q1, q2⟩ => ⟨⟨ds, q1⟩, ds, q1, q2⟩) h)) fun v s1 h1 => thn h1 fun itv s2 h2 => ?_) ?_
  · obtain ⟨t2, it, fp, tn, J, H2, d, ds, e, I2, T, st, f, stp, wk, hl, hd, ds', hd', q⟩ := h2
    rw [hd] at hd'
    cases hd'
    exact ⟨it, fp, tn, J, H2, e, t2, I2, T, st, f, stp, ds, wk, q⟩
  rintro it fp tn J H2 D s3 s4 ce ⟨stp, ds, wk, hlen, q⟩ T hDn no c st4 t4
  have big1 : 1000 ≤ sizeLine := by rw [sizeLine_eq]; omega
  obtain ⟨C, cl, rfl⟩ := c.made
  have pg := hg s3 (L2.upd H2 D (setO X.prog X.w D [])) C cl fp
  have pt := ht s3 (L2.upd H2 D (setO X.prog X.w D [])) C cl fp
  have pe := he s3 (L2.upd H2 D (setO X.prog X.w D [])) C cl fp
  have nfp : ∀ b ∈ fp, (L2.upd H2 D (setO X.prog X.w D [])) b = none := fun b hb => (c.own b hb).1
  generalize compEnvC scope cl C X.env = ce at c pg pt pe ⊢
  have stH3 : Step 0 H2 (L2.upd H2 D (setO X.prog X.w D [])) := (Step.refl H2).put hDn no
  have eD : (L2.upd H2 D (setO X.prog X.w D [])) D = some (setO X.prog X.w D (setN [])) := upd_same
  generalize L2.upd H2 D (setO X.prog X.w D []) = H3 at c pg pt pe nfp stH3 eD
  have I4 := c.inn
  have er0 : EnvRep X.K (wipe σ (own.map (·.2))) H2 (wipeD δ (own.map (·.2))) := (er.ext stp.ext).wipe _
  have plB : PotLe (sizeLine * (n1 + n2)) H2 := stp.pot _ (pl.mono (by omega))
  generalize own.map (·.2) = ov at *
  refine compLoop_set_any (fun k s' => ∃ (i : Nat) (H' : Hp) (l : List (List Nat)), 0 < s'.toks ∧ (L2.Inv (X.blk s3 H3 scope ce fp) [] (wipe σ ov) H' s' ∧ tn i s'.heap ∧ ∀ b ∈ fp, H' b = none) ∧ k = ds.length - i ∧ i ≤ ds.length ∧ Step (i * (n1 + n2)) H2 H' ∧ H' D = some (setO X.prog X.w D (setN l)) ∧ l.length ≤ i ∧ (∀ t ∈ l, t.length ≤ sizeLine) ∧
    mapW (turnW p (wipeD δ ov) ft (txE fe)) (ds.drop i) fun r => Φ (.lst (l.map Dat.str ++ r))) ?_ ds.length ⟨0, H3, [], t4, ⟨I4, st4, nfp⟩, rfl, Nat.zero_le _, by rw [Nat.zero_mul]; exact stH3, eD, Nat.zero_le _, (fun t ht => by simp at ht), q⟩
  rintro k s5 ⟨i, H5, l, t5, ⟨I5, st5, n5⟩, rfl, hik, sp5, hD5, hy5, hz5, q5⟩
  by_cases hlt : i < ds.length
  · have e0 : ds.drop i = ds[i] :: ds.drop (i + 1) := List.drop_eq_getElem_cons hlt
    rw [e0] at q5
    have no5 : ∀ z, setO X.prog X.w D (setN l) ≠ potO D z := by
      obtain ⟨_, T'⟩ := setO_at I5 hD5
      exact setO_no T'
    refine thnF (tkF (X := X) t5 (T.item (X.blk s3 H3 scope ce fp) rfl rfl rfl hc i [] s5 _ H5 (fun _ _ => False) I5 (blk_fp I5 n5) st5 (wk.go H5 i (EXr.of sp5.ext) hlt))) fun r s6 ⟨t6, u, hr, h6⟩ => ?_
    subst hr
    refine thnF (tkF (X := X) t6 h6) fun _ s7 ⟨t7, x, H7, I7, r7, y7, st7, n7⟩ => ?_
    obtain ⟨sp7, yr⟩ := wk.yld H5 i x H7 _ (EXr.of sp5.ext) (List.getElem?_eq_getElem hlt) y7
    have I7' := I7.pinned (blk_fp I7 n7) (T.obj _ _ st7)
    have sp7' : Step (i * (n1 + n2)) H2 H7 := (sp5.trans sp7).mono (by omega)
    have q5 : turnW p (wipeD δ ov) ft (txE fe) ds[i] _ := q5
    unfold turnW at q5
    refine thnF (tg_run hz pg t7 I7' (er0.ext sp7'.ext) r7 yr q5) fun _ s8 ⟨t8, σ8, δ8, I8, er8, q8, k8⟩ => ?_
    have hle : (i + 1) * (n1 + n2) ≤ sizeLine * (n1 + n2) := Nat.mul_le_mul_right _ (by omega)
    rw [Nat.succ_mul] at hle
    refine thnF (pt _ _ s8 σ8 H7 δ8 (n2 + 0) _ t8 I8 er8 (sp7'.pot _ (plB.mono (by omega))) q8) fun b s9 ⟨t9, H9, I9, sp9, q9⟩ => ?_
    have wst : wipe σ8 ov = wipe σ ov := by rw [k8.2 ov hv, wipe_wipe]
    have wl : (wipe σ ov).length = σ8.length := by rw [← wst, wipe_length]
    have ww : ∀ (j : Nat) v, (wipe σ ov)[j]? = some (some v) → σ8[j]? = some (some v) := fun j v e => (wipe_some (by rw [wst]; exact e)).1
    cases b with
    | false =>
      have e9 := sp7.ext.trans sp9.ext
      exact ⟨_, Nat.sub_succ_lt_self _ _ hlt, i + 1, H9, l, t9, unpin T st7 I9 wl ww, rfl, hlt, (sp7'.trans sp9).mono (by rw [Nat.succ_mul]; omega), e9.keep hD5 no5, by omega, hz5, q9⟩
    | true =>
      refine thnF (pe _ _ s9 σ8 H9 δ8 0 _ t9 I9 (er8.ext sp9.ext) ((sp7'.trans sp9).pot _ (plB.mono (by omega))) q9) fun zv s10 ⟨t10, yv, H10, dy, I10, r10, sp10, b10, q10⟩ => ?_
      have e10 := (sp7.ext.trans sp9.ext).trans sp10.ext
      have hD10 : H10 D = some (setO X.prog X.w D (setN l)) := e10.keep hD5 no5
      obtain ⟨t, rfl, q10⟩ := q10
      have b10 : Rep X.K H10 yv (.str t) := b10
      rw [Rep] at b10
      obtain ⟨rfl, zt⟩ := b10
      refine px_of (X := X) t10 (addT_ok (X := X.blk s3 H3 scope ce fp) (Q := fun _ s11 => (∀ z, setO X.prog X.w D (setN (l ++ [t])) ≠ potO D z) ∧ L2.Inv (X.blk s3 H3 scope ce fp) ([] ++ pinsAt fp s7.heap) σ8 (L2.upd H10 D (setO X.prog X.w D (setN (l ++ [t])))) s11) I10 hD10 (by omega) r10 fun s11 no2 I11 => ⟨no2, I11⟩) fun _ s11 t11 ⟨no2, I11⟩ => ?_
      have q10 : mapW (turnW p (wipeD δ ov) ft (txE fe)) (ds.drop (i + 1)) (fun r => Φ (.lst (l.map Dat.str ++ (.str t :: r)))) := q10
      refine ⟨_, Nat.sub_succ_lt_self _ _ hlt, i + 1, _, l ++ [t], t11, unpin T st7 I11 wl ww, rfl, hlt, (((sp7'.trans sp9).trans sp10).mono (by rw [Nat.succ_mul]; omega)).put hDn no2, upd_same, by simp; omega, fun x hx => ?_, by simpa using q10⟩
      rcases List.mem_append.mp hx with hx | hx
      · exact hz5 x hx
      · rw [List.mem_singleton.mp hx]
        exact zt
  · have ei : i = ds.length := by omega
    subst ei
    refine thnF (tkF (X := X) t5 (T.done (X.blk s3 H3 scope ce fp) rfl rfl rfl hc ds.length [] s5 _ H5 (fun _ _ => False) I5 (blk_fp I5 n5) st5 (wk.stop H5 (EXr.of sp5.ext)))) fun r s6 ⟨t6, hr, I6⟩ => ?_
    subst hr
    obtain ⟨I7, fC, m', hn⟩ := c.back I6
    rw [List.drop_length] at q5
    have q5 : Φ (.lst (l.map Dat.str ++ [])) := q5
    rw [List.append_nil] at q5
    have hmul : ds.length * (n1 + n2) ≤ sizeLine * (n1 + n2) := Nat.mul_le_mul_right _ (by omega)
    exact hRR D ce.locals s6 m' H5 l t6 I7 ((stp.trans sp5).mono (by omega)) (stp.ext.none hDn) hD5 (by omega) hz5 q5 hn fC
/-- {e for p in it if t}, its members texts -/
theorem qe_scomp {elt tg iter : Expr} {ifs : List Expr} {scope : Scope} {own : List (Str × Nat)} {pos : Pos} {p : P} {z : Bool} {n n1 n2 : Nat} {fi fe : Env → (Dat → Prop) → Prop} {ft : Env → (Bool → Prop) → Prop}
    (hc : X.calm = true) (hN : X.N.Nodup) (hi : QI X tg iter n true z fi) (ok : BlkOk X.N X.env.scope scope own) (hz : z = true → isT p = true) (hv : ∀ i ∈ varsP p, i ∈ own.map (·.2))
    (hg : ∀ (s : Shared) (H : Hp) (C : Addr) (cl : List (Str × Addr)) (fp : List Addr), TgOk (X.blk s H scope (compEnvC scope cl C X.env) fp) tg p) (ht : ∀ (s : Shared) (H : Hp) (C : Addr) (cl : List (Str × Addr)) (fp : List Addr), QTs (X.blk s H scope (compEnvC scope cl C X.env) fp) ifs n1 ft)
    (he : ∀ (s : Shared) (H : Hp) (C : Addr) (cl : List (Str × Addr)) (fp : List Addr), QE (X.blk s H scope (compEnvC scope cl C X.env) fp) elt n2 (RV X.K) fe) (hs : ∀ x, foldedSetIterable iter X.env x = pure x) (mfi : ∀ δ, Mono (fi δ)) (mfe : ∀ δ, Mono (fe δ)) :
    QE X (.SetComp elt [⟨tg, iter, ifs, 0⟩] scope pos) (n + sizeLine * (n1 + n2)) (RS X) (fun δ Q => fi δ fun x => ∃ ds, iterD x = some ds ∧ ds.length ≤ 1000 ∧ mapW (turnW p (wipeD δ (own.map (·.2))) ft (txE fe)) ds fun ys => Q (.lst ys)) := fun E pins s σ H δ m Φ t0 I er pl hf => by
  rw [arm_eval_SetComp]
  refine sc_run hc hN t0 I er pl hi ok hz hv hg ht he hs hf mfi mfe fun D C s' m' H' l t' I' st hD hD' hl hz q hn f => ⟨m', hn, fun h'' sb => ?_⟩
  obtain ⟨f0, f1, f2, f3, f4, f5⟩ := f
  exact ⟨t', .ref D, H', .lst (l.map .str), I'.turned (t' := s'.toks) (fun b o hb e => (sb.2 b hb).trans e) f0 f1 f3 f4 f5, rfl, st, ⟨D, l, rfl, rfl, hD, hD', hl, hz⟩, q⟩
end
end SF

/-! D5a: the state of a def's run; comprehensions as values; freezing a name's list. -/
namespace SF
open PySem PySem.Spec PyProof.Rows L2

theorem SlotRep.ownAt {K : PySem.W.Frag} {H : Hp} {x : Option (Option V)} {d : Dat} (h : SlotRep K H x (.own d)) : ∃ a, x = some (some (.ref a)) ∧ Own K H a d := by
  match x, h with
  | some (some v), ⟨a, e, o⟩ => subst e; exact ⟨a, rfl, o⟩
theorem SlotRep.valAt {K : PySem.W.Frag} {H : Hp} {x : Option (Option V)} {d : Dat} (h : SlotRep K H x (.val d)) : ∃ v, x = some (some v) ∧ Rep K H v d := by
  match x, h with
  | some (some v), h => exact ⟨v, rfl, h⟩
structure EnvS (K : PySem.W.Frag) (σ : L2.St) (H0 H : Hp) (δ : Env) : Prop where
  rep : EnvRep K σ H δ
  dis : ∀ (i j : Nat) (d d' : Dat), i ≠ j → δ[i]? = some (Slot.own d) → δ[j]? = some (Slot.own d') → σ[i]? ≠ σ[j]?
  fresh : ∀ (i : Nat) (d : Dat) (a : Addr), δ[i]? = some (Slot.own d) → σ[i]? = some (some (.ref a)) → H0 a = none
theorem EnvS.ext {K : PySem.W.Frag} {σ : L2.St} {H0 H H' : Hp} {δ : Env} (e : Ext H H') (h : EnvS K σ H0 H δ) : EnvS K σ H0 H' δ := ⟨h.rep.ext e, h.dis, h.fresh⟩
theorem EnvS.kp {K : PySem.W.Frag} {σ σ' : L2.St} {H0 H : Hp} {δ δ' : Env} {vs : List Nat} (h : EnvS K σ H0 H δ) (er : EnvRep K σ' H δ') (k : Kp vs σ δ σ' δ') : EnvS K σ' H0 H δ' := by
  refine ⟨er, fun i j d d' hij hi hj => ?_, fun i d a hi ha => ?_⟩
  · obtain ⟨h1, e1⟩ := k.1 i d hi
    obtain ⟨h2, e2⟩ := k.1 j d' hj
    rw [e1, e2]
    exact h.dis i j d d' hij h1 h2
  · obtain ⟨h1, e1⟩ := k.1 i d hi
    rw [e1] at ha
    exact h.fresh i d a h1 ha
/-- a name's own list -/
theorem EnvS.ownAt {K : PySem.W.Frag} {σ : L2.St} {H0 H : Hp} {δ : Env} {i : Nat} {l : List Dat} (h : EnvS K σ H0 H δ) (hi : δ[i]? = some (Slot.own (.lst l))) : ∃ a vs, σ[i]? = some (some (.ref a)) ∧ H a = some (.lst vs) ∧ l.length ≤ sizeLine ∧ Reps K H vs l ∧ H0 a = none := by
  obtain ⟨a, q, vs, h1, h2, h3⟩ := (h.rep.2 i _ hi).ownAt
  exact ⟨a, vs, q, h1, h2, h3, h.fresh i _ a hi q⟩
/-- a new own list at i -/
theorem EnvS.own {K : PySem.W.Frag} {σ : L2.St} {H0 H : Hp} {δ : Env} (h : EnvS K σ H0 H δ) (i : Nat) {a : Addr} {d : Dat} (o : Own K H a d) (h0 : H0 a = none) (ap : ∀ (j : Nat) (d' : Dat), δ[j]? = some (Slot.own d') → σ[j]? ≠ some (some (.ref a))) : EnvS K (σ.set i (some (.ref a))) H0 H (δ.set i (.own d)) := by
  have hl := h.rep.1
  refine ⟨h.rep.set i (s := .own d) ⟨a, rfl, o⟩, fun j k d1 d2 hjk hj hk => ?_, fun j d1 b hj hb => ?_⟩
  · rw [List.getElem?_set] at hj hk ⊢
    rw [List.getElem?_set]
    by_cases e1 : i = j
    · have e2 : ¬ i = k := fun e => hjk (e1.symm.trans e)
      subst e1
      by_cases lt : i < δ.length
      · simp only [e2, if_false] at hk
        simp only [if_true, e2, if_false, show i < σ.length by omega]
        exact fun e => ap k d2 hk e.symm
      · simp [lt] at hj
    · by_cases e2 : i = k
      · subst e2
        by_cases lt : i < δ.length
        · simp only [e1, if_false] at hj
          simp only [if_true, e1, if_false, show i < σ.length by omega]
          exact ap j d1 hj
        · simp [lt] at hk
      · simp only [e1, e2, if_false] at hj hk ⊢
        exact h.dis j k d1 d2 hjk hj hk
  · rw [List.getElem?_set] at hj hb
    by_cases e1 : i = j
    · subst e1
      by_cases lt : i < δ.length
      · simp only [if_true, show i < σ.length by omega, Option.some.injEq, V.ref.injEq] at hb
        subst hb
        exact h0
      · simp [lt] at hj
    · simp only [e1, if_false] at hj hb
      exact h.fresh j d1 b hj hb
/-- a list that did not stand at H is no name's own -/
theorem EnvS.apart {K : PySem.W.Frag} {σ : L2.St} {H0 H : Hp} {δ : Env} (h : EnvS K σ H0 H δ) {a : Addr} (ha : H a = none) (j : Nat) (d : Dat) (hj : δ[j]? = some (Slot.own d)) : σ[j]? ≠ some (some (.ref a)) := fun e => by
  have sr := h.rep.2 j _ hj
  rw [e] at sr
  obtain ⟨b, e1, o⟩ := sr
  cases e1
  cases d with
  | lst l => obtain ⟨vs, h1, _⟩ := o; rw [ha] at h1; cases h1
  | dic l => obtain ⟨vs, h1, _⟩ := o; rw [ha] at h1; cases h1
  | _ => exact o.elim
/-- the own thing at i is written, or frozen -/
theorem EnvS.put {K : PySem.W.Frag} {σ : L2.St} {H0 H : Hp} {δ : Env} {i : Nat} {a : Addr} {u o : HO} {d : Dat} {sl : Slot} (h : EnvS K σ H0 H δ) (hi : δ[i]? = some (Slot.own d)) (ha : σ[i]? = some (some (.ref a))) (hu : Chg u) (hx : H a = some u) (new : SlotRep K (upd H a o) (some (some (.ref a))) sl) :
    EnvS K σ H0 (upd H a o) (δ.set i sl) := by
  have lt : i < δ.length := by
    by_cases q : i < δ.length
    · exact q
    · rw [List.getElem?_eq_none (by omega)] at hi; cases hi
  have back : ∀ (j : Nat) (d' : Dat), (δ.set i sl)[j]? = some (Slot.own d') → ∃ d'', δ[j]? = some (Slot.own d'') := fun j d' hj => by
    rw [List.getElem?_set] at hj
    by_cases e : i = j
    · subst e; exact ⟨d, hi⟩
    · simp only [e, if_false] at hj; exact ⟨d', hj⟩
  refine ⟨⟨by rw [List.length_set]; exact h.rep.1, fun j s hj => ?_⟩, fun j k d1 d2 hjk hj hk => ?_, fun j d1 b hj hb => ?_⟩
  · rw [List.getElem?_set] at hj
    by_cases e : i = j
    · subst e
      simp only [if_true, lt] at hj
      cases hj
      rw [ha]
      exact new
    · simp only [e, if_false] at hj
      have sr := h.rep.2 j _ hj
      cases s with
      | no => trivial
      | val d' =>
        obtain ⟨v, q, sr⟩ := sr.valAt
        rw [q]
        exact Rep.wr hu _ hx _ _ sr
      | own d' =>
        have ne := h.dis i j d d' e hi hj
        obtain ⟨b, q, w⟩ := sr.ownAt
        rw [q]
        have nb : b ≠ a := fun e => by subst e; exact ne (ha.trans q.symm)
        refine ⟨b, rfl, ?_⟩
        cases d' with
        | lst l =>
          obtain ⟨vs, h1, h2, h3⟩ := w
          exact ⟨vs, by rw [upd_ne nb]; exact h1, h2, Reps.wr hu _ hx _ _ h3⟩
        | dic l =>
          obtain ⟨vs, h1, h2, h3⟩ := w
          exact ⟨vs, by rw [upd_ne nb]; exact h1, h2, RepKv.wr hu _ hx _ _ h3⟩
        | _ => exact w.elim
  · obtain ⟨e1, q1⟩ := back j d1 hj
    obtain ⟨e2, q2⟩ := back k d2 hk
    exact h.dis j k e1 e2 hjk q1 q2
  · obtain ⟨e1, q1⟩ := back j d1 hj
    exact h.fresh j e1 b q1 hb
/-- the own list at i is written -/
theorem EnvS.wr {K : PySem.W.Frag} {σ : L2.St} {H0 H : Hp} {δ : Env} {i : Nat} {a : Addr} {xs ys : List V} {d : Dat} {r : List Dat} (h : EnvS K σ H0 H δ) (hi : δ[i]? = some (Slot.own d)) (ha : σ[i]? = some (some (.ref a))) (hx : H a = some (.lst xs)) (hz : r.length ≤ sizeLine) (hr : Reps K H ys r) :
    EnvS K σ H0 (upd H a (.lst ys)) (δ.set i (.own (.lst r))) := h.put hi ha (.inl ⟨_, rfl⟩) hx ⟨a, rfl, ys, upd_same, hz, Reps.wr (.inl ⟨_, rfl⟩) _ hx _ _ hr⟩
/-- .. frozen -/
theorem EnvS.frz {K : PySem.W.Frag} {σ : L2.St} {H0 H : Hp} {δ : Env} {i : Nat} {a : Addr} {xs : List V} {r : List Dat} {o : Obj} (h : EnvS K σ H0 H δ) (hi : δ[i]? = some (Slot.own (.lst r))) (ha : σ[i]? = some (some (.ref a))) (hx : H a = some (.lst xs)) (hz : r.length ≤ sizeLine) (hr : Reps K H xs r) :
    EnvS K σ H0 (upd H a (.frz o (.lst xs))) (δ.set i (.val (.lst r))) := h.put hi ha (.inl ⟨_, rfl⟩) hx (by
  show Rep _ _ _ _
  rw [Rep]
  exact ⟨a, xs, rfl, ⟨o, upd_same⟩, hz, Reps.wr (.inl ⟨_, rfl⟩) _ hx _ _ hr⟩)
/-- the own dict at i -/
theorem EnvS.dicAt {K : PySem.W.Frag} {σ : L2.St} {H0 H : Hp} {δ : Env} {i : Nat} {l : List (Dat × Dat)} (h : EnvS K σ H0 H δ) (hi : δ[i]? = some (Slot.own (.dic l))) : ∃ a vs, σ[i]? = some (some (.ref a)) ∧ H a = some (.dK vs) ∧ l.length ≤ sizeLine ∧ RepKv K H vs l ∧ H0 a = none := by
  obtain ⟨a, q, vs, h1, h2, h3⟩ := (h.rep.2 i _ hi).ownAt
  exact ⟨a, vs, q, h1, h2, h3, h.fresh i _ a hi q⟩
theorem EnvS.wrD {K : PySem.W.Frag} {σ : L2.St} {H0 H : Hp} {δ : Env} {i : Nat} {a : Addr} {xs ys : List (Key × V)} {d : Dat} {r : List (Dat × Dat)} (h : EnvS K σ H0 H δ) (hi : δ[i]? = some (Slot.own d)) (ha : σ[i]? = some (some (.ref a))) (hx : H a = some (.dK xs)) (hz : r.length ≤ sizeLine) (hr : RepKv K H ys r) :
    EnvS K σ H0 (upd H a (.dK ys)) (δ.set i (.own (.dic r))) := h.put hi ha (.inr ⟨_, rfl⟩) hx ⟨a, rfl, ys, upd_same, hz, RepKv.wr (.inr ⟨_, rfl⟩) _ hx _ _ hr⟩
theorem EnvS.frzD {K : PySem.W.Frag} {σ : L2.St} {H0 H : Hp} {δ : Env} {i : Nat} {a : Addr} {xs : List (Key × V)} {r : List (Dat × Dat)} {o : Obj} (h : EnvS K σ H0 H δ) (hi : δ[i]? = some (Slot.own (.dic r))) (ha : σ[i]? = some (some (.ref a))) (hx : H a = some (.dK xs)) (hz : r.length ≤ sizeLine) (hr : RepKv K H xs r) :
    EnvS K σ H0 (upd H a (.frz o (.dK xs))) (δ.set i (.val (.dic r))) := h.put hi ha (.inr ⟨_, rfl⟩) hx (by
  show Rep _ _ _ _
  rw [Rep]
  exact ⟨a, xs, rfl, ⟨o, upd_same⟩, hz, RepKv.wr (.inr ⟨_, rfl⟩) _ hx _ _ hr⟩)

/-! ### a statement's step -/
structure StepS (n : Nat) (H0 H H' : Hp) : Prop where
  ext : Ext H0 H'
  exs : ExtS H H'
  pot : ∀ m, PotLe (n + m) H → PotLe m H'
theorem StepS.refl {H0 H : Hp} (e : Ext H0 H) : StepS 0 H0 H H := ⟨e, .refl H, fun m h => by rwa [Nat.zero_add] at h⟩
theorem StepS.trans {n n' : Nat} {H0 H H1 H2 : Hp} (a : StepS n H0 H H1) (b : StepS n' H0 H1 H2) : StepS (n + n') H0 H H2 :=
  ⟨b.ext, a.exs.trans b.exs, fun m h => b.pot m (a.pot (n' + m) (by rw [← Nat.add_assoc]; exact h))⟩
theorem StepS.mono {n n' : Nat} {H0 H H' : Hp} (a : StepS n H0 H H') (le : n ≤ n') : StepS n' H0 H H' := ⟨a.ext, a.exs, fun m h => a.pot m (h.mono (by omega))⟩
theorem StepS.of {n : Nat} {H0 H H' : Hp} (e : Ext H0 H) (a : Step n H H') : StepS n H0 H H' := ⟨e.trans a.ext, .of a.ext, a.pot⟩
theorem StepS.put {H0 H : Hp} {a : Addr} {u o : HO} (hu : Chg u) (e : Ext H0 H) (h : H a = some u) (h0 : H0 a = none) (no : ∀ z, o ≠ potO a z) : StepS 0 H0 H (L2.upd H a o) := by
  refine ⟨fun b ob hb => ?_, fun b ob hb => ?_, fun m p => ?_⟩
  · have nb : b ≠ a := fun z => by subst z; rw [h0] at hb; cases hb
    rw [upd_ne nb]
    exact e b ob hb
  · by_cases nb : b = a
    · subst nb
      rw [h] at hb
      cases hb
      exact .inl hu
    · rw [upd_ne nb]
      exact .inr (.inl hb)
  · rw [Nat.zero_add] at p
    refine ⟨p.1, fun b z hb => ?_⟩
    by_cases nb : b = a
    · subst nb; rw [upd_same] at hb; exact absurd (Option.some.inj hb) (no z)
    · rw [upd_ne nb] at hb; exact p.2 b z hb
theorem StepS.wr {H0 H : Hp} {a : Addr} {xs : List V} {o : HO} (e : Ext H0 H) (h : H a = some (.lst xs)) (h0 : H0 a = none) (no : ∀ z, o ≠ potO a z) : StepS 0 H0 H (L2.upd H a o) := .put (.inl ⟨_, rfl⟩) e h h0 no

section
variable {X : Cx}
/-- [..] as a value -/
theorem qe_comp {elt tg iter : Expr} {ifs : List Expr} {scope : Scope} {own : List (Str × Nat)} {pos : Pos} {p : P} {z : Bool} {n n1 n2 : Nat} {fi fe : Env → (Dat → Prop) → Prop} {ft : Env → (Bool → Prop) → Prop}
    (hc : X.calm = true) (hN : X.N.Nodup) (hi : QI X tg iter n true z fi) (ok : BlkOk X.N X.env.scope scope own) (hz : z = true → isT p = true) (hv : ∀ i ∈ varsP p, i ∈ own.map (·.2))
    (hg : ∀ (s : Shared) (H : Hp) (C : Addr) (cl : List (Str × Addr)) (fp : List Addr), TgOk (X.blk s H scope (compEnvC scope cl C X.env) fp) tg p) (ht : ∀ (s : Shared) (H : Hp) (C : Addr) (cl : List (Str × Addr)) (fp : List Addr), QTs (X.blk s H scope (compEnvC scope cl C X.env) fp) ifs n1 ft)
    (he : ∀ (s : Shared) (H : Hp) (C : Addr) (cl : List (Str × Addr)) (fp : List Addr), QE (X.blk s H scope (compEnvC scope cl C X.env) fp) elt n2 (RV X.K) fe) (hs : ∀ x, foldedSetIterable iter X.env x = pure x) (mfi : ∀ δ, Mono (fi δ)) :
    QE X (.ListComp elt [⟨tg, iter, ifs, 0⟩] scope pos) (n + sizeLine * (n1 + n2)) (ROw X.K) (fun δ Q => fi δ fun x => ∃ ds, iterD x = some ds ∧ mapW (turnW p (wipeD δ (own.map (·.2))) ft fe) ds fun ys => Q (.lst ys)) := fun E pins s σ H δ m Φ t0 I er pl hf => by
  rw [eval_ListComp]
  refine lc_run hc hN t0 I er pl hi ok hz hv hg ht he hs hf mfi fun D C s' m' H' ys t' I' st hD ow q hn f => ⟨m', hn, fun h'' sb => ?_⟩
  obtain ⟨f0, f1, f2, f3, f4, f5⟩ := f
  exact ⟨t', .ref D, H', .lst ys, I'.turned (t' := s'.toks) (fun b o hb e => (sb.2 b hb).trans e) f0 f1 f3 f4 f5, rfl, st, .inl ⟨D, rfl, hD, ow⟩, q⟩
end
end SF

/-! D5b: statements. -/
namespace SF
open PySem PySem.Spec PyProof.Rows L2

/-- what stands behind a statement -/
def SO (X : Cx) (pins : List (Addr × Obj)) (n : Nat) (H0 H : Hp) (D : Post) (fl : Flow) (s' : Shared) : Prop :=
  0 < s'.toks ∧ match fl with
  | .next => ∃ σ' H' δ', L2.Inv X pins σ' H' s' ∧ EnvS X.K σ' H0 H' δ' ∧ StepS n H0 H H' ∧ D.nx δ'
  | .cont => ∃ σ' H' δ', L2.Inv X pins σ' H' s' ∧ EnvS X.K σ' H0 H' δ' ∧ StepS n H0 H H' ∧ D.ct δ'
  | .brk => ∃ σ' H' δ', L2.Inv X pins σ' H' s' ∧ EnvS X.K σ' H0 H' δ' ∧ StepS n H0 H H' ∧ D.bk δ'
  | .ret u => ∃ v σ' H' d δ', L2.Inv X pins σ' H' s' ∧ L2.RelV v u ∧ Rep X.K H' v d ∧ EnvS X.K σ' H0 H' δ' ∧ StepS n H0 H H' ∧ D.rt δ' d
def Q1 (X : Cx) (st : Stmt) (n : Nat) (F : Env → Post → Prop) : Prop :=
  ∀ (E : Value → Shared → Prop), PassesOwn (model X.prog X.w) X.A X.env E → ∀ (pins : List (Addr × Obj)) (s : Shared) (σ : L2.St) (H0 H : Hp) (δ : Env) (m : Nat) (D : Post), 0 < s.toks → L2.Inv X pins σ H s → EnvS X.K σ H0 H δ → Ext H0 H → PotLe (n + m) H → F δ D →
    wpAny (model X.prog X.w) X.A (PySem.exec st X.env) (SO X pins n H0 H D) E s
def QS (X : Cx) (sts : List Stmt) (n : Nat) (F : Env → Post → Prop) : Prop :=
  ∀ (E : Value → Shared → Prop), PassesOwn (model X.prog X.w) X.A X.env E → ∀ (pins : List (Addr × Obj)) (s : Shared) (σ : L2.St) (H0 H : Hp) (δ : Env) (m : Nat) (D : Post), 0 < s.toks → L2.Inv X pins σ H s → EnvS X.K σ H0 H δ → Ext H0 H → PotLe (n + m) H → F δ D →
    wpAny (model X.prog X.w) X.A (PySem.execs sts X.env) (SO X pins n H0 H D) E s
section
variable {X : Cx} {st : Stmt} {sts : List Stmt} {n n' n'' : Nat} {e : Expr} {pos : Pos} {fe fi : Env → (Dat → Prop) → Prop} {gc : Env → (Bool → Prop) → Prop}
theorem SO.le {pins : List (Addr × Obj)} {H0 H H1 : Hp} {D : Post} {fl : Flow} {s' : Shared} {k : Nat} (a : StepS n' H0 H H1) (hk : n' + n ≤ k) (h : SO X pins n H0 H1 D fl s') : SO X pins k H0 H D fl s' := by
  obtain ⟨t, h⟩ := h
  refine ⟨t, ?_⟩
  cases fl with
  | next => obtain ⟨σ', H', δ', h1, h2, h3, h4⟩ := h; exact ⟨σ', H', δ', h1, h2, (a.trans h3).mono hk, h4⟩
  | cont => obtain ⟨σ', H', δ', h1, h2, h3, h4⟩ := h; exact ⟨σ', H', δ', h1, h2, (a.trans h3).mono hk, h4⟩
  | brk => obtain ⟨σ', H', δ', h1, h2, h3, h4⟩ := h; exact ⟨σ', H', δ', h1, h2, (a.trans h3).mono hk, h4⟩
  | ret u => obtain ⟨v, σ', H', d, δ', h1, h2, h3, h6, h4, h5⟩ := h; exact ⟨v, σ', H', d, δ', h1, h2, h3, h6, (a.trans h4).mono hk, h5⟩
theorem qs_nil : QS X [] 0 (fun δ D => D.nx δ) := fun E hE pins s σ H0 H δ m D t I es ex pl hf => wpAny_execs_nil ⟨t, σ, H, δ, I, es, StepS.refl ex, hf⟩
theorem qs_cons {F1 F2 : Env → Post → Prop} (h1 : Q1 X st n F1) (h2 : QS X sts n' F2) : QS X (st :: sts) (n + n') (fun δ D => F1 δ { D with nx := fun δ' => F2 δ' D }) := fun E hE pins s σ H0 H δ m D t I es ex pl hf => by
  refine wpAny_execs_cons (thn (h1 E hE pins s σ H0 H δ (n' + m) _ t I es ex (pl.mono (by omega)) hf) fun f s1 q => ?_)
  obtain ⟨t1, q⟩ := q
  cases f with
  | next =>
    obtain ⟨σ1, H1, δ1, I1, es1, st1, q1⟩ := q
    exact thn (h2 E hE pins s1 σ1 H0 H1 δ1 m D t1 I1 es1 st1.ext (st1.pot _ (pl.mono (by omega))) q1) fun f s2 q2 => q2.le st1 (Nat.le_refl _)
  | cont => obtain ⟨σ', H', δ', h1, h2, h3, h4⟩ := q; exact ⟨t1, σ', H', δ', h1, h2, h3.mono (by omega), h4⟩
  | brk => obtain ⟨σ', H', δ', h1, h2, h3, h4⟩ := q; exact ⟨t1, σ', H', δ', h1, h2, h3.mono (by omega), h4⟩
  | ret u => obtain ⟨v, σ', H', d, δ', h1, h2, h3, h6, h4, h5⟩ := q; exact ⟨t1, v, σ', H', d, δ', h1, h2, h3, h6, h4.mono (by omega), h5⟩
/-- a name's list frozen: no text -/
theorem qs_frz {i : Nat} {F : Env → Post → Prop} (h : QS X sts n F) : QS X sts n (fun δ D => getO δ i fun d => F (δ.set i (.val d)) D) := fun E hE pins s σ H0 H δ m D t I es ex pl hf => by
  have hf : getO δ i fun d => F (δ.set i (.val d)) D := hf
  unfold getO at hf
  split at hf
  · rename_i d hi
    obtain ⟨a, ha, ow⟩ := (es.rep.2 i _ hi).ownAt
    have h0 := es.fresh i _ a hi ha
    have fin : ∀ {u : HO}, H a = some u → Chg u → (∀ o : Obj, Rep X.K (L2.upd H a (.frz o u)) (.ref a) d) → wpAny (model X.prog X.w) X.A (PySem.execs sts X.env) (fun f s' => SO X pins n H0 H D f s') E s := fun {u} hx hu hr => by
      obtain ⟨o, I'⟩ := Inv_keep hu I hx
      have st := StepS.put (o := .frz o u) hu ex hx h0 (fun _ q => nomatch q)
      exact thn (h E hE pins s σ H0 _ _ m D t I' (es.put (sl := .val d) hi ha hu hx (hr o)) st.ext (st.pot _ (pl.mono (by omega))) hf) fun f s2 q2 => q2.le st (by omega)
    cases d with
    | lst l =>
      obtain ⟨vs, h1, h2, h3⟩ := ow
      refine fin h1 (.inl ⟨_, rfl⟩) fun o => ?_
      rw [Rep]
      exact ⟨a, vs, rfl, ⟨o, upd_same⟩, h2, Reps.wr (.inl ⟨_, rfl⟩) _ h1 _ _ h3⟩
    | dic l =>
      obtain ⟨vs, h1, h2, h3⟩ := ow
      refine fin h1 (.inr ⟨_, rfl⟩) fun o => ?_
      rw [Rep]
      exact ⟨a, vs, rfl, ⟨o, upd_same⟩, h2, RepKv.wr (.inr ⟨_, rfl⟩) _ h1 _ _ h3⟩
    | _ => exact ow.elim
  · exact hf.elim
theorem q1_exp (he : QE X e n (RV X.K) fe) (hs : swapsWith e none pos.line X.env = pure false) : Q1 X (.Expr e pos) n (fun δ D => fe δ fun _ => D.nx δ) := fun E hE pins s σ H0 H δ m D t I es ex pl hf =>
  wpAny_Expr_any (thn (he E pins s σ H δ m _ t I es.rep pl hf) fun v s1 ⟨t1, x, H1, d, I1, r1, st1, b1, q1⟩ => ⟨t1, σ, H1, δ, I1, es.ext st1.ext, .of ex st1, q1⟩) I.quiet hs
theorem q1_ret (he : QE X e n (RV X.K) fe) : Q1 X (.Return (some e) pos) n (fun δ D => fe δ (D.rt δ)) := fun E hE pins s σ H0 H δ m D t I es ex pl hf =>
  wpAny_Return_some (thn (he E pins s σ H δ m _ t I es.rep pl hf) fun v s1 ⟨t1, x, H1, d, I1, r1, st1, b1, q1⟩ => ⟨t1, x, σ, H1, d, δ, I1, r1, b1, es.ext st1.ext, .of ex st1, q1⟩)
theorem q1_retN : Q1 X (.Return none pos) 0 (fun δ D => D.rt δ .non) := fun E hE pins s σ H0 H δ m D t I es ex pl hf =>
  wpAny_Return_none ⟨t, .non, σ, H, .non, δ, I, rfl, by rw [Rep], es, StepS.refl ex, hf⟩
theorem q1_pass : Q1 X (.Pass pos) 0 (fun δ D => D.nx δ) := fun E hE pins s σ H0 H δ m D t I es ex pl hf =>
  wpAny_Pass ⟨t, σ, H, δ, I, es, StepS.refl ex, hf⟩
theorem q1_ite {a b : List Stmt} {Fa Fb : Env → Post → Prop} (hc : QT X e n gc) (ha : QS X a n' Fa) (hb : QS X b n'' Fb) : Q1 X (.If e a b pos) (n + (n' + n'')) (fun δ D => gc δ fun k => if k = true then Fa δ D else Fb δ D) := fun E hE pins s σ H0 H δ m D t I es ex pl hf => by
  refine wpAny_If (thn (hc E pins s σ H δ (n' + n'' + m) _ t I es.rep (pl.mono (by omega)) hf) fun k s1 ⟨t1, H1, I1, st1, q1⟩ => ?_)
  have ss := StepS.of ex st1
  cases k with
  | true =>
    rw [if_pos rfl] at q1
    exact thn (ha E hE pins s1 σ H0 H1 δ m D t1 I1 (es.ext st1.ext) ss.ext (st1.pot _ (pl.mono (by omega))) q1) fun f s2 q2 => q2.le ss (by omega)
  | false =>
    rw [if_neg Bool.false_ne_true] at q1
    exact thn (hb E hE pins s1 σ H0 H1 δ m D t1 I1 (es.ext st1.ext) ss.ext (st1.pot _ (pl.mono (by omega))) q1) fun f s2 q2 => q2.le ss (by omega)

/-! ### a name takes a value -/
variable {i : Nat} {x : Str} {px : Pos}
theorem q1_set (hN : X.N.Nodup) (hi : X.N[i]? = some x) (hx : Loc X.env.scope x) (hfn : X.fn x = true ∨ X.env.scope.names.lookup x = some .local) (he : QE X e n (RV X.K) fe) (hs : swapsWith e (some (.Name x px)) pos.line X.env = pure false) :
    Q1 X (.Assign [.Name x px] e pos) n (fun δ D => fe δ fun d => D.nx (δ.set i (.val d))) := fun E hE pins s σ H0 H δ m D t I es ex pl hf => by
  refine wpAny_Assign_Name (thn (he E pins s σ H δ m _ t I es.rep pl hf) fun v s1 ⟨t1, y, H1, d, I1, r1, st1, b1, q1⟩ => ?_) hs
  refine px_of (X := X) t1 (store_ok (Q := fun _ s2 => L2.Inv X pins (σ.set i (some y)) H1 s2) I1 hN hi hx r1 (fun s2 I2 => I2) hfn) fun _ s2 t2 I2 => ?_
  have b1 : Rep X.K H1 y d := b1
  exact ⟨t2, _, H1, _, I2, (es.ext st1.ext).kp ((es.rep.ext st1.ext).set i (s := .val d) b1) (Kp.set σ δ i (some y) d), .of ex st1, q1⟩
theorem RO.fresh {K : PySem.W.Frag} {H H' : Hp} {v : V} {d : Dat} (h : RO K H H' v d) (hb : isBox d = true) : ∃ a, v = .ref a ∧ H a = none ∧ Own K H' a d := by
  rcases h with h | ⟨h, _⟩
  · exact h
  · cases d <;> simp_all [isBox, isNB]
theorem q1_own (hN : X.N.Nodup) (hi : X.N[i]? = some x) (hx : Loc X.env.scope x) (hfn : X.fn x = true ∨ X.env.scope.names.lookup x = some .local) (he : QE X e n (ROw X.K) fe) (hs : swapsWith e (some (.Name x px)) pos.line X.env = pure false) :
    Q1 X (.Assign [.Name x px] e pos) n (fun δ D => fe δ fun d => isBox d = true ∧ D.nx (δ.set i (.own d))) := fun E hE pins s σ H0 H δ m D t I es ex pl hf => by
  refine wpAny_Assign_Name (thn (he E pins s σ H δ m _ t I es.rep pl hf) fun v s1 ⟨t1, y, H1, d, I1, r1, st1, b1, hb, q1⟩ => ?_) hs
  refine px_of (X := X) t1 (store_ok (Q := fun _ s2 => L2.Inv X pins (σ.set i (some y)) H1 s2) I1 hN hi hx r1 (fun s2 I2 => I2) hfn) fun _ s2 t2 I2 => ?_
  have b1 : RO X.K H H1 y d := b1
  obtain ⟨a, rfl, hn, ow⟩ := b1.fresh hb
  exact ⟨t2, _, H1, _, I2, (es.ext st1.ext).own i ow (ex.none hn) (es.apart hn), .of ex st1, q1⟩
/-- a target takes a value -/
theorem q1_unp {tg : Expr} {p : P} (ht : TgOk X tg p) (he : QE X e n (RV X.K) fe) (hs : swapsWithSole [tg] e pos.line X.env = pure false) (hw : swappedStores [tg] e X.env = pure none) (h1 : (assignEach [tg] X.env).map (·.2) = [assign tg X.env]) :
    Q1 X (.Assign [tg] e pos) n (fun δ D => fe δ fun d => bindP p d δ D.nx) := fun E hE pins s σ H0 H δ m D t I es ex pl hf => by
  refine wpAny_Assign_stores (thn (he E pins s σ H δ m _ t I es.rep pl hf) fun v s1 ⟨t1, y, H1, d, I1, r1, st1, b1, q1⟩ => ?_) hs hw
  rw [h1]
  exact thn (tg_run (z := false) (fun e => nomatch e) ht t1 I1 (es.rep.ext st1.ext) r1 b1 q1) fun _ s2 ⟨t2, σ2, δ2, I2, er2, q2, k2⟩ => ⟨t2, σ2, H1, δ2, I2, (es.ext st1.ext).kp er2 k2, .of ex st1, q2⟩

/-- names take a list's items -/
theorem q1_unpL {ts : List Expr} {kt : Nat} {tp : Pos} {ps : List P} (hc : X.calm = true) (ht : ∀ E, PGs (X.wish E) ts (tgPs X.K ps)) (hl : (assignEach ts X.env).length = ps.length) (hst : (assignEach ts X.env).findIdx? (·.1) = none) (he : QE X e n (RV X.K) fe) (hs : swapsWithSole [.Tuple ts kt tp] e pos.line X.env = pure false) (hw : swappedStores [.Tuple ts kt tp] e X.env = pure none) (h1 : (assignEach [.Tuple ts kt tp] X.env).map (·.2) = [assign (.Tuple ts kt tp) X.env]) :
    Q1 X (.Assign [.Tuple ts kt tp] e pos) n (fun δ D => fe δ fun d => ∃ l, d = .lst l ∧ bindPs ps l δ D.nx) := fun E hE pins s σ H0 H δ m D t I es ex pl hf => by
  refine wpAny_Assign_stores (thn (he E pins s σ H δ m _ t I es.rep pl hf) fun v s1 ⟨t1, y, H1, d, I1, r1, st1, b1, l, ed, q1⟩ => ?_) hs hw
  subst ed
  rw [h1]
  have b1 : Rep X.K H1 y (.lst l) := b1
  rw [Rep] at b1
  obtain ⟨a, vs, rfl, hf2, hz, hr⟩ := b1
  have er1 := es.rep.ext st1.ext
  refine px_of (X := X) t1 ((pg_unl (X := X.wish E) (n := ps.length) hc (ht E) hl hst).run pins s1 σ H1 (.ref a) v (fun σ' H' => H' = H1 ∧ ∃ δ', EnvRep X.K σ' H1 δ' ∧ D.nx δ' ∧ Kp (varsPs ps) σ δ σ' δ') (I1.wish E) r1 ⟨a, vs, rfl, hf2.sq, by rw [hr.length]; exact bindPs_len ps l δ _ q1, bind_tgs ps l vs σ δ _ _ er1 hr q1 fun σ' δ' h1 h2 h3 => ⟨rfl, δ', h1, h2, h3⟩⟩) fun _ s2 t2 ⟨σ2, H2, I2, e2, δ2, er2, q2, k2⟩ => ?_
  subst e2
  exact ⟨t2, σ2, _, δ2, I2.unwish, (es.ext st1.ext).kp er2 k2, .of ex st1, q2⟩

/-! ### comprehensions at a name, on one line -/
section
variable {elt tg iter : Expr} {ifs : List Expr} {scope : Scope} {own : List (Str × Nat)} {cpos : Pos} {p : P} {z : Bool} {n1 n2 : Nat} {ft : Env → (Bool → Prop) → Prop}
theorem lc_set {pins : List (Addr × Obj)} {s : Shared} {σ : L2.St} {H0 H : Hp} {δ : Env} {m : Nat} {D : Post} {Φ : List Dat → Prop} {E : Value → Shared → Prop} (hc : X.calm = true) (hN : X.N.Nodup) (hy : X.N[i]? = some x) (hyl : X.env.scope.names.lookup x = some .local)
    (hsw : swapsWith (.ListComp elt [⟨tg, iter, ifs, 0⟩] scope cpos) (some (.Name x px)) pos.line X.env = pure true) (hi : QI X tg iter n true z fi) (ok : BlkOk X.N X.env.scope scope own) (hz : z = true → isT p = true) (hv : ∀ i ∈ varsP p, i ∈ own.map (·.2))
    (hg : ∀ (s : Shared) (H : Hp) (C : Addr) (cl : List (Str × Addr)) (fp : List Addr), TgOk (X.blk s H scope (compEnvC scope cl C X.env) fp) tg p) (ht : ∀ (s : Shared) (H : Hp) (C : Addr) (cl : List (Str × Addr)) (fp : List Addr), QTs (X.blk s H scope (compEnvC scope cl C X.env) fp) ifs n1 ft)
    (he : ∀ (s : Shared) (H : Hp) (C : Addr) (cl : List (Str × Addr)) (fp : List Addr), QE (X.blk s H scope (compEnvC scope cl C X.env) fp) elt n2 (RV X.K) fe) (hs : ∀ x, foldedSetIterable iter X.env x = pure x) (mfi : ∀ δ, Mono (fi δ))
    (t : 0 < s.toks) (I : L2.Inv X pins σ H s) (es : EnvS X.K σ H0 H δ) (ex : Ext H0 H) (pl : PotLe (n + sizeLine * (n1 + n2) + m) H) (hf : fi δ fun x => ∃ ds, iterD x = some ds ∧ mapW (turnW p (wipeD δ (own.map (·.2))) ft fe) ds Φ)
    (k : ∀ ys σ' H' s', 0 < s'.toks → L2.Inv X pins σ' H' s' → EnvS X.K σ' H0 H' (δ.set i (.own (.lst ys))) → StepS (n + sizeLine * (n1 + n2)) H0 H H' → Φ ys → SO X pins (n + sizeLine * (n1 + n2)) H0 H D .next s') :
    wpAny (model X.prog X.w) X.A (PySem.exec (.Assign [.Name x px] (.ListComp elt [⟨tg, iter, ifs, 0⟩] scope cpos) pos) X.env) (SO X pins (n + sizeLine * (n1 + n2)) H0 H D) E s := by
  rw [exec_Assign_Name_used _ _ _ _ hsw]
  refine wpAny_bind (wpAny_standAt (wpAny_bind ?_))
  show wpAny _ X.A (do let _ ← comprehension (.ListComp elt [⟨tg, iter, ifs, 0⟩] scope cpos) scope X.env (firstIterPos [⟨tg, iter, ifs, 0⟩] cpos) (newList []) false (eval iter X.env) (some (assign (.Name x px) X.env))) _ _ s
  refine wpAny_bind (thn (lc_run (Qf := fun _ s' => SO X pins (n + sizeLine * (n1 + n2)) H0 H D .next s') hc hN t I es.rep pl hi ok hz hv hg ht he hs hf mfi fun L C s' m' H' ys t' I' st hL ow q hn f => ?_) fun _ s' hq => wpAny_pure (wpAny_pure hq))
  show wpAny _ _ (assign (.Name x px) X.env (.ref L)) _ _ _
  refine wpAny_assign_Name ?_
  refine px_of (X := X) t' (store_ok2 (Q := fun _ s2 => L2.Inv X pins (σ.set i (some (.ref L))) H' s2 ∧ ∃ a, Heap.SameBut a s'.heap s2.heap ∧ (a = X.env.locals ∨ X.env.cells.lookup x = some a)) (v := V.ref L) I' hN hy (.inl hyl) rfl (fun s2 I2 ha => ⟨I2, ha⟩) (.inr hyl)) fun _ s2 t2 ⟨I2, a, sb, ha⟩ => ?_
  obtain ⟨f0, f1, f2, f3, f4, f5⟩ := f
  have haC : C ≠ a := by
    rcases ha with z | z
    · rw [z]; exact f1
    · exact fun e => f4 x a z e.symm
  refine ⟨m', hn.sameBut sb haC, fun h3 sb3 => ?_⟩
  exact k ys _ H' _ t2 (I2.turned (t' := s2.toks) (fun b o hb e => (sb3.2 b hb).trans e) f0 f1 f3 f4 f5) ((es.ext st.ext).own i ow (ex.none hL) (es.apart hL)) (.of ex st) q
theorem q1_ownLc (hc : X.calm = true) (hN : X.N.Nodup) (hy : X.N[i]? = some x) (hyl : X.env.scope.names.lookup x = some .local)
    (hsw : swapsWith (.ListComp elt [⟨tg, iter, ifs, 0⟩] scope cpos) (some (.Name x px)) pos.line X.env = pure true) (hi : QI X tg iter n true z fi) (ok : BlkOk X.N X.env.scope scope own) (hz : z = true → isT p = true) (hv : ∀ i ∈ varsP p, i ∈ own.map (·.2))
    (hg : ∀ (s : Shared) (H : Hp) (C : Addr) (cl : List (Str × Addr)) (fp : List Addr), TgOk (X.blk s H scope (compEnvC scope cl C X.env) fp) tg p) (ht : ∀ (s : Shared) (H : Hp) (C : Addr) (cl : List (Str × Addr)) (fp : List Addr), QTs (X.blk s H scope (compEnvC scope cl C X.env) fp) ifs n1 ft)
    (he : ∀ (s : Shared) (H : Hp) (C : Addr) (cl : List (Str × Addr)) (fp : List Addr), QE (X.blk s H scope (compEnvC scope cl C X.env) fp) elt n2 (RV X.K) fe) (hs : ∀ x, foldedSetIterable iter X.env x = pure x) (mfi : ∀ δ, Mono (fi δ)) :
    Q1 X (.Assign [.Name x px] (.ListComp elt [⟨tg, iter, ifs, 0⟩] scope cpos) pos) (n + sizeLine * (n1 + n2)) (fun δ D => fi δ fun x => ∃ ds, iterD x = some ds ∧ mapW (turnW p (wipeD δ (own.map (·.2))) ft fe) ds fun ys => isBox (.lst ys) = true ∧ D.nx (δ.set i (.own (.lst ys)))) := fun E hE pins s σ H0 H δ m D t I es ex pl hf =>
  lc_set hc hN hy hyl hsw hi ok hz hv hg ht he hs mfi t I es ex pl hf fun ys σ' H' s' t' I' es' st q => ⟨t', σ', H', _, I', es', st, q.2⟩
theorem q1_setLc (hc : X.calm = true) (hN : X.N.Nodup) (hy : X.N[i]? = some x) (hyl : X.env.scope.names.lookup x = some .local)
    (hsw : swapsWith (.ListComp elt [⟨tg, iter, ifs, 0⟩] scope cpos) (some (.Name x px)) pos.line X.env = pure true) (hi : QI X tg iter n true z fi) (ok : BlkOk X.N X.env.scope scope own) (hz : z = true → isT p = true) (hv : ∀ i ∈ varsP p, i ∈ own.map (·.2))
    (hg : ∀ (s : Shared) (H : Hp) (C : Addr) (cl : List (Str × Addr)) (fp : List Addr), TgOk (X.blk s H scope (compEnvC scope cl C X.env) fp) tg p) (ht : ∀ (s : Shared) (H : Hp) (C : Addr) (cl : List (Str × Addr)) (fp : List Addr), QTs (X.blk s H scope (compEnvC scope cl C X.env) fp) ifs n1 ft)
    (he : ∀ (s : Shared) (H : Hp) (C : Addr) (cl : List (Str × Addr)) (fp : List Addr), QE (X.blk s H scope (compEnvC scope cl C X.env) fp) elt n2 (RV X.K) fe) (hs : ∀ x, foldedSetIterable iter X.env x = pure x) (mfi : ∀ δ, Mono (fi δ)) :
    Q1 X (.Assign [.Name x px] (.ListComp elt [⟨tg, iter, ifs, 0⟩] scope cpos) pos) (n + sizeLine * (n1 + n2)) (fun δ D => fi δ fun x => ∃ ds, iterD x = some ds ∧ mapW (turnW p (wipeD δ (own.map (·.2))) ft fe) ds fun ys => D.nx (δ.set i (.val (.lst ys)))) := fun E hE pins s σ H0 H δ m D t I es ex pl hf =>
  lc_set hc hN hy hyl hsw hi ok hz hv hg ht he hs mfi t I es ex pl hf fun ys σ' H' s' t' I' es' st q => by
    have lt : i < δ.length := by
      rw [← es.rep.1, I.len]
      exact (List.getElem?_eq_some_iff.mp hy).1
    have hi' : (δ.set i (.own (.lst ys)))[i]? = some (Slot.own (.lst ys)) := by rw [List.getElem?_set]; simp [lt]
    obtain ⟨a, xs, ha, hx, hz, hr, h0⟩ := es'.ownAt hi'
    obtain ⟨o, I2⟩ := Inv_freeze I' hx
    have st2 := StepS.wr (o := .frz o (.lst xs)) st.ext hx h0 (fun _ q => nomatch q)
    have es2 := es'.frz (o := o) hi' ha hx hz hr
    rw [List.set_set] at es2
    exact ⟨t', σ', _, _, I2, es2, (st.trans st2).mono (by omega), q⟩
end
end
end SF

/-! D5c: loops; own lists written; two or three names at once. -/
namespace SF
open PySem PySem.Spec PyProof.Rows L2
section
variable {X : Cx} {st : Stmt} {body : List Stmt} {n n' n'' : Nat} {e iter tg c : Expr} {pos : Pos} {fe fi : Env → (Dat → Prop) → Prop} {gc : Env → (Bool → Prop) → Prop} {F : Env → Post → Prop} {p : P} {z : Bool}
theorem q1_for (hc : X.calm = true) (hi : QI X tg iter n false z fi) (hz : z = true → isT p = true) (hg : TgOk X tg p) (hb : QS X body n' F) (hs : ∀ x, foldedSetIterable iter X.env x = pure x) (mfi : ∀ δ, Mono (fi δ)) :
    Q1 X (.For tg iter body [] pos) (n + sizeLine * n') (fun δ D => fi δ fun x => ∃ ds, iterD x = some ds ∧ forW p F ds δ D) := fun E hp pins s σ H0 H δ m D t I es ex pl hf => by
  refine wpAny_For (thn (hi E pins s σ H δ (sizeLine * n' + m) (fun x => ∃ ds, iterD x = some ds ∧ forW p F ds δ D) t I es.rep (pl.mono (by omega)) (mfi δ _ _ (fun x ⟨ds, q1, q2⟩ => ⟨⟨ds, q1⟩, ds, q1, q2⟩) hf)) fun xv s1 hx => thn hx fun itv s2 h2 => ?_) hs
  obtain ⟨t2, it, fp, tn, J, H2, dx, ds, e, I2, T, st2, f2, stp, wk, hlen, hds, ds', hds', q⟩ := h2
  rw [hds] at hds'
  cases hds'
  subst e
  have sp0 := StepS.of ex stp
  have stat : ∀ {H' : Hp}, (∀ b ∈ fp, H' b = none) → ∀ b ∈ fp, FpOk X pins H' b := fun hn b hb => ⟨hn b hb, (f2 b hb).2⟩
  have plB : PotLe (sizeLine * n') H2 := stp.pot _ (pl.mono (by omega))
  refine codeAny_forLoop_any (fun k s' => ∃ i σ' H' δ', 0 < s'.toks ∧ L2.Inv X pins σ' H' s' ∧ tn i s'.heap ∧ (∀ b ∈ fp, H' b = none) ∧ k = ds.length - i ∧ i ≤ ds.length ∧ EnvS X.K σ' H0 H' δ' ∧ StepS (i * n') H0 H2 H' ∧ forW p F (ds.drop i) δ' D) ?_ ds.length
    ⟨0, σ, H2, δ, t2, I2, st2, fun b hb => (f2 b hb).1, rfl, Nat.zero_le _, es.ext stp.ext, by rw [Nat.zero_mul]; exact StepS.refl sp0.ext, q⟩
  rintro k s3 ⟨i, σ3, H3, δ3, t3, I3, st3, fr3, rfl, hik, es3, sp3, q3⟩
  have ex3 : EXr false H2 H3 := sp3.exs
  by_cases hlt : i < ds.length
  · have hx : ds[i]? = some ds[i] := List.getElem?_eq_getElem hlt
    have e0 : ds.drop i = ds[i] :: ds.drop (i + 1) := List.drop_eq_getElem_cons hlt
    rw [e0, forW] at q3
    refine wpAny_passesOwn hp (thn (tkF (X := X) t3 (T.item X rfl rfl rfl hc i pins s3 σ3 H3 E I3 (stat fr3) st3 (wk.go H3 i ex3 hlt))) fun r s4 ⟨t4, u, hr, h4⟩ => ?_)
    subst hr
    refine wpAny_passesOwn hp (thn (tkF (X := X) t4 h4) fun _ s5 ⟨t5, x, H5, I5, r5, y5, st5, fr5⟩ => ?_)
    obtain ⟨sp5, yr⟩ := wk.yld H3 i x H5 _ ex3 hx y5
    have I5' := I5.pinned (stat fr5) (T.obj _ _ st5)
    refine wpAny_passesOwn hp (thn (tg_run hz hg t5 I5' (es3.rep.ext sp5.ext) r5 yr q3) fun _ s6 ⟨t6, σ6, δ6, I6, er6, q6, k6⟩ => ?_)
    have hle : (i + 1) * n' ≤ sizeLine * n' := Nat.mul_le_mul_right _ (by omega)
    rw [Nat.succ_mul] at hle
    have sp5' := StepS.of sp3.ext sp5
    have sp53 := sp3.trans sp5'
    refine wpAny_passesOwn hp (thn (hb E hp _ s6 σ6 H0 H5 δ6 0 _ t6 I6 ((es3.ext sp5.ext).kp er6 k6) sp5'.ext (sp53.pot _ (plB.mono (by omega))) q6) fun f s7 q7 => ?_)
    obtain ⟨t7, q7⟩ := q7
    have again : ∀ {σ7 : L2.St} {H7 : Hp} {δ7 : Env}, L2.Inv X (pins ++ pinsAt fp s5.heap) σ7 H7 s7 → EnvS X.K σ7 H0 H7 δ7 → StepS n' H0 H5 H7 → forW p F (ds.drop (i + 1)) δ7 D →
        ∃ m, m < ds.length - i ∧ ∃ i σ' H' δ', 0 < s7.toks ∧ L2.Inv X pins σ' H' s7 ∧ tn i s7.heap ∧ (∀ b ∈ fp, H' b = none) ∧ m = ds.length - i ∧ i ≤ ds.length ∧ EnvS X.K σ' H0 H' δ' ∧ StepS (i * n') H0 H2 H' ∧ forW p F (ds.drop i) δ' D := fun {σ7 H7 δ7} I7 es7 sp7 q7 => by
      refine ⟨ds.length - (i + 1), by omega, i + 1, σ7, H7, δ7, t7, I7.unpinned, T.keep _ _ _ st5 fun b hb o e => (I7.pin (b, o) (List.mem_append_right _ (List.mem_append_right _ (mem_pinsAt hb e)))).1, fun b hb => ?_, rfl, hlt, es7, (sp53.trans sp7).mono (by rw [Nat.succ_mul]; omega), q7⟩
      obtain ⟨o, e, d⟩ := T.obj _ _ st5 b hb
      exact (I7.pin (b, o) (List.mem_append_right _ (List.mem_append_right _ (mem_pinsAt hb e)))).2.1
    have outp : ∀ {H7 : Hp}, StepS n' H0 H5 H7 → StepS (n + sizeLine * n') H0 H H7 := fun {H7} sp7 => ((sp0.trans sp53).trans sp7).mono (by omega)
    cases f with
    | next => obtain ⟨σ7, H7, δ7, I7, es7, sp7, n7⟩ := q7; exact again I7 es7 sp7 n7
    | cont => obtain ⟨σ7, H7, δ7, I7, es7, sp7, n7⟩ := q7; exact again I7 es7 sp7 n7
    | brk => obtain ⟨σ7, H7, δ7, I7, es7, sp7, n7⟩ := q7; exact ⟨t7, σ7, H7, δ7, I7.unpinned, es7, outp sp7, n7⟩
    | ret v => obtain ⟨x7, σ7, H7, d7, δ7, I7, r7, b7, es7, sp7, q7⟩ := q7; exact ⟨t7, x7, σ7, H7, d7, δ7, I7.unpinned, r7, b7, es7, outp sp7, q7⟩
  · have ei : i = ds.length := by omega
    subst ei
    rw [List.drop_length, forW] at q3
    refine wpAny_passesOwn hp (thn (tkF (X := X) t3 (T.done X rfl rfl rfl hc ds.length pins s3 σ3 H3 E I3 (stat fr3) st3 (wk.stop H3 ex3))) fun r s4 ⟨t4, hr, I4⟩ => ?_)
    subst hr
    have hmul : ds.length * n' ≤ sizeLine * n' := Nat.mul_le_mul_right _ hlen
    exact wpAny_execs_nil ⟨t4, σ3, H3, δ3, I4, es3, (sp0.trans sp3).mono (by omega), q3⟩
theorem q1_whl (hc : QT X c n gc) (hb : QS X body n' F) : Q1 X (.While c body [] pos) (big * (n + n')) (fun δ D => ∃ k, k ≤ big ∧ whlW gc F k δ D) := fun E hp pins s σ H0 H δ m D t I es ex pl hf => by
  obtain ⟨k, hk, hf⟩ := hf
  have plB : PotLe (big * (n + n')) H := pl.mono (by omega)
  refine wpAny_While (codeAny_whileLoop (fun j s' => ∃ σ' H' δ', 0 < s'.toks ∧ L2.Inv X pins σ' H' s' ∧ j ≤ k ∧ EnvS X.K σ' H0 H' δ' ∧ StepS ((k - j) * (n + n')) H0 H H' ∧ whlW gc F j δ' D) ?_ k ⟨σ, H, δ, t, I, Nat.le_refl _, es, by rw [Nat.sub_self, Nat.zero_mul]; exact StepS.refl ex, hf⟩)
  rintro j s1 ⟨σ1, H1, δ1, t1, I1, hj, es1, sp1, w1⟩
  cases j with
  | zero => rw [whlW] at w1; exact w1.elim
  | succ j =>
    rw [whlW] at w1
    have hle : (k - (j + 1) + 1) * (n + n') ≤ big * (n + n') := Nat.mul_le_mul_right _ (by omega)
    rw [Nat.succ_mul] at hle
    have hj1 : k - (j + 1) + 1 = k - j := by omega
    refine wpAny_passesOwn hp (thn (hc E pins s1 σ1 H1 δ1 n' _ t1 I1 es1.rep (sp1.pot _ (plB.mono (by omega))) w1) fun b s2 ⟨t2, H2, I2, st2, q2⟩ => ?_)
    have sp2 := sp1.trans (StepS.of sp1.ext st2)
    cases b with
    | true =>
      rw [if_pos rfl] at q2 ⊢
      refine wpAny_passesOwn hp (thn (hb E hp pins s2 σ1 H0 H2 δ1 0 _ t2 I2 (es1.ext st2.ext) sp2.ext (sp2.pot _ (plB.mono (by omega))) q2) fun f s3 q3 => ?_)
      obtain ⟨t3, q3⟩ := q3
      have again : ∀ {σ7 : L2.St} {H7 : Hp} {δ7 : Env}, L2.Inv X pins σ7 H7 s3 → EnvS X.K σ7 H0 H7 δ7 → StepS n' H0 H2 H7 → whlW gc F j δ7 D →
          ∃ m, m < j + 1 ∧ ∃ σ' H' δ', 0 < s3.toks ∧ L2.Inv X pins σ' H' s3 ∧ m ≤ k ∧ EnvS X.K σ' H0 H' δ' ∧ StepS ((k - m) * (n + n')) H0 H H' ∧ whlW gc F m δ' D := fun {σ7 H7 δ7} I7 es7 sp7 q7 =>
        ⟨j, by omega, σ7, H7, δ7, t3, I7, by omega, es7, (sp2.trans sp7).mono (by rw [← hj1, Nat.succ_mul]; omega), q7⟩
      have outp : ∀ {H7 : Hp}, StepS n' H0 H2 H7 → StepS (big * (n + n')) H0 H H7 := fun {H7} sp7 => (sp2.trans sp7).mono (by omega)
      cases f with
      | next => obtain ⟨σ7, H7, δ7, I7, es7, sp7, n7⟩ := q3; exact again I7 es7 sp7 n7
      | cont => obtain ⟨σ7, H7, δ7, I7, es7, sp7, n7⟩ := q3; exact again I7 es7 sp7 n7
      | brk => obtain ⟨σ7, H7, δ7, I7, es7, sp7, n7⟩ := q3; exact ⟨t3, σ7, H7, δ7, I7, es7, outp sp7, n7⟩
      | ret v => obtain ⟨x7, σ7, H7, d7, δ7, I7, r7, b7, es7, sp7, q7⟩ := q3; exact ⟨t3, x7, σ7, H7, d7, δ7, I7, r7, b7, es7, outp sp7, q7⟩
    | false =>
      rw [if_neg Bool.false_ne_true] at q2 ⊢
      exact wpAny_execs_nil ⟨t2, σ1, H2, δ1, I2, es1.ext st2.ext, sp2.mono (by omega), q2⟩

/-! ### own lists -/
variable {i : Nat} {x : Str} {px apos cpos : Pos}
/-- a name read -/
theorem name_ref {pins : List (Addr × Obj)} {s : Shared} {σ : L2.St} {H : Hp} {a : Addr} {E : Value → Shared → Prop} {Q : Value → Shared → Prop} (hN : X.N[i]? = some x) (hv : Vis X.env.scope x) (hd : (x == ("__debug__" : Str)) = false) (hcd : (x == ("__classdict__" : Str)) = false) (I : L2.Inv X pins σ H s) (ha : σ[i]? = some (some (.ref a))) (k : Q (.ref a) s) :
    wpAny (model X.prog X.w) X.A (eval (.Name x px) X.env) Q E s :=
  raw_name hN hv I ha (fun u r => by obtain rfl : u = .ref a := r; exact k) hd hcd
theorem q1_app (hN : X.N[i]? = some x) (hv : Vis X.env.scope x) (hd : (x == ("__debug__" : Str)) = false) (hcd : (x == ("__classdict__" : Str)) = false) (he : QE X e n (RV X.K) fe) (hbase : attributeBase (.Name x px) "append" X.env (eval (.Name x px) X.env) = eval (.Name x px) X.env)
    (hfew : ((backTo cpos (starEach [e] X.env)).all (fun x => !x.1) && (backToKw cpos (keywordEach [] X.env)).all (fun x => x.1.isSome)
      && decide ([e].length + ([] : List Keyword).length + (if ([] : List Keyword).isEmpty then 0 else 1) < 30)) = true) (hline : (apos.endLine == cpos.line) = true) (hs : starEach [e] X.env = [(false, eval e X.env)]) :
    Q1 X (.Expr (.Call (.Attribute (.Name x px) "append" apos) [e] [] cpos) pos) n (fun δ D => getO δ i fun x => ∃ l, x = .lst l ∧ fe δ fun d => l.length < big ∧ D.nx (δ.set i (.own (.lst (l ++ [d]))))) := fun E hp pins s σ H0 H δ m D t I es ex pl hf => by
  have hf : getO δ i _ := hf
  unfold getO at hf
  split at hf
  · rename_i d hi
    obtain ⟨l, rfl, hf⟩ := hf
    obtain ⟨a, xs, ha, hx, hz, hr, h0⟩ := es.ownAt hi
    refine wpAny_Expr_any ?_ I.quiet rfl
    refine wpAny_Call_method_late hbase hfew hline rfl (name_ref hN hv hd hcd I ha ?_)
    obtain ⟨z, its, k, r, q⟩ := I.hok a _ hx
    refine ⟨"list", "list.append", PySem.F.plainAttrs_list, PySem.F.slot_list_append, PySem.F.type_list_append, ⟨_, q, rfl⟩, fun b e => (Value.ref.inj e) ▸ ⟨_, q, rfl⟩, ?_⟩
    rw [hs]
    refine Calls.callWith_builtin rfl (Calls.evalArgs_plain (Calls.spliced_cons (thn (he E pins s σ H δ m _ t I es.rep pl hf) fun v s1 ⟨t1, y, H1, d, I1, r1, st1, b1, hl, q1⟩ => Calls.spliced_nil ?_)))
    have hx1 : H1 a = some (.lst xs) := st1.ext.keep hx fun _ q => nomatch q
    have hr1 := Reps.ext st1.ext _ _ hr
    have b1 : Rep X.K H1 y d := b1
    have ss := StepS.of ex st1
    refine px_of (X := X) t1 (app_ok (X := X) (Q := fun _ s2 => L2.Inv X pins σ (upd H1 a (.lst (xs ++ [y]))) s2) I1 hx1 (by rw [hr1.length]; exact hl) r1 fun s2 I2 => I2) fun _ s2 t2 I2 => ?_
    exact ⟨t2, σ, _, _, I2, (es.ext st1.ext).wr hi ha hx1 (by rw [List.length_append]; exact hl) (hr1.snoc b1), (ss.trans (StepS.wr (o := .lst _) ss.ext hx1 h0 fun _ q => nomatch q)).mono (by omega), q1⟩
  · exact hf.elim
theorem Reps.erase {K : PySem.W.Frag} {H : Hp} : ∀ {vs : List V} {ds : List Dat} (k : Nat), Reps K H vs ds → Reps K H (vs.eraseIdx k) (ds.eraseIdx k)
  | [], [], _, h => by simpa using h
  | [], _ :: _, _, h => by simp [Reps] at h
  | _ :: _, [], _, h => by simp [Reps] at h
  | v :: vs, d :: ds, 0, h => by rw [Reps] at h; simpa using h.2
  | v :: vs, d :: ds, k + 1, h => by
    rw [Reps] at h
    rw [List.eraseIdx_cons_succ, List.eraseIdx_cons_succ, Reps]
    exact ⟨h.1, Reps.erase k h.2⟩
theorem q1_pop (hN : X.N[i]? = some x) (hv : Vis X.env.scope x) (hd : (x == ("__debug__" : Str)) = false) (hcd : (x == ("__classdict__" : Str)) = false) (he : QE X e n (RV X.K) fe) (hbase : attributeBase (.Name x px) "pop" X.env (eval (.Name x px) X.env) = eval (.Name x px) X.env)
    (hfew : ((backTo cpos (starEach [e] X.env)).all (fun x => !x.1) && (backToKw cpos (keywordEach [] X.env)).all (fun x => x.1.isSome)
      && decide ([e].length + ([] : List Keyword).length + (if ([] : List Keyword).isEmpty then 0 else 1) < 30)) = true) (hline : (apos.endLine == cpos.line) = true) (hs : starEach [e] X.env = [(false, eval e X.env)]) :
    Q1 X (.Expr (.Call (.Attribute (.Name x px) "pop" apos) [e] [] cpos) pos) n (fun δ D => getO δ i fun x => ∃ l, x = .lst l ∧ fe δ fun k => ∃ j n, k = .int j ∧ ixN l.length j = some n ∧ D.nx (δ.set i (.own (.lst (l.eraseIdx n))))) := fun E hp pins s σ H0 H δ m D t I es ex pl hf => by
  have hf : getO δ i _ := hf
  unfold getO at hf
  split at hf
  · rename_i d hi
    obtain ⟨l, rfl, hf⟩ := hf
    obtain ⟨a, xs, ha, hx, hz, hr, h0⟩ := es.ownAt hi
    refine wpAny_Expr_any ?_ I.quiet rfl
    refine wpAny_Call_method_late hbase hfew hline rfl (name_ref hN hv hd hcd I ha ?_)
    obtain ⟨z, its, k, r, q⟩ := I.hok a _ hx
    refine ⟨"list", "list.pop", PySem.F.plainAttrs_list, PySem.F.slot_list_pop, PySem.F.type_list_pop, ⟨_, q, rfl⟩, fun b e => (Value.ref.inj e) ▸ ⟨_, q, rfl⟩, ?_⟩
    rw [hs]
    refine Calls.callWith_builtin rfl (Calls.evalArgs_plain (Calls.spliced_cons (thn (he E pins s σ H δ m _ t I es.rep pl hf) fun v s1 ⟨t1, y, H1, d, I1, r1, st1, b1, j, k, ed, hk, q1⟩ => Calls.spliced_nil ?_)))
    subst ed
    have hx1 : H1 a = some (.lst xs) := st1.ext.keep hx fun _ q => nomatch q
    have hr1 := Reps.ext st1.ext _ _ hr
    have b1 : Rep X.K H1 y (.int j) := b1
    rw [Rep] at b1
    subst b1
    have hlx : xs.length = l.length := hr1.length
    obtain ⟨k1, k2, k3, k4⟩ := ixN_seq hk
    have hy : ∃ y, xs[k]? = some y := ⟨_, List.getElem?_eq_getElem (by omega)⟩
    obtain ⟨y, hy⟩ := hy
    have hzl : l.length ≤ 16777216 := hz
    have ss := StepS.of ex st1
    refine px_of (X := X) t1 (mt_popAt (X := X.wish E) pins s1 σ H1 (.ref a) [.int j] (.ref a) [v] (fun _ H' => H' = upd H1 a (.lst (xs.eraseIdx k))) (I1.wish E) rfl (.cons r1 .nil) ⟨a, xs, j, k, y, rfl, rfl, hx1, by omega, by omega, by rw [hlx]; exact k1, hy, rfl⟩) fun w s2 t2 ⟨v2, H2, I2, r2, e2⟩ => ?_
    subst e2
    exact ⟨t2, σ, _, _, I2.unwish, (es.ext st1.ext).wr hi ha hx1 (Nat.le_trans (by rw [List.length_eraseIdx]; split <;> omega) hz) (hr1.erase k), (ss.trans (StepS.wr (o := .lst _) ss.ext hx1 h0 fun _ q => nomatch q)).mono (by omega), q1⟩
  · exact hf.elim
theorem q1_ins {e2 : Expr} {n2 : Nat} {fe2 : Env → (Dat → Prop) → Prop} (hN : X.N[i]? = some x) (hv : Vis X.env.scope x) (hd : (x == ("__debug__" : Str)) = false) (hcd : (x == ("__classdict__" : Str)) = false) (he : QE X e n (RV X.K) fe) (he2 : QE X e2 n2 (RV X.K) fe2) (hbase : attributeBase (.Name x px) "insert" X.env (eval (.Name x px) X.env) = eval (.Name x px) X.env)
    (hfew : ((backTo cpos (starEach [e, e2] X.env)).all (fun x => !x.1) && (backToKw cpos (keywordEach [] X.env)).all (fun x => x.1.isSome)
      && decide ([e, e2].length + ([] : List Keyword).length + (if ([] : List Keyword).isEmpty then 0 else 1) < 30)) = true) (hline : (apos.endLine == cpos.line) = true) (hs : starEach [e, e2] X.env = (false, eval e X.env) :: starEach [e2] X.env) (hs2 : starEach [e2] X.env = [(false, eval e2 X.env)]) :
    Q1 X (.Expr (.Call (.Attribute (.Name x px) "insert" apos) [e, e2] [] cpos) pos) (n + n2) (fun δ D => getO δ i fun x => ∃ l, x = .lst l ∧ fe δ fun k => fe2 δ fun d => ∃ j : Int, k = .int j ∧ 0 ≤ j ∧ j < 2 ^ 63 ∧ l.length < big ∧ D.nx (δ.set i (.own (.lst (l.take j.toNat ++ [d] ++ l.drop j.toNat))))) := fun E hp pins s σ H0 H δ m D t I es ex pl hf => by
  have hf : getO δ i _ := hf
  unfold getO at hf
  split at hf
  · rename_i d hi
    obtain ⟨l, rfl, hf⟩ := hf
    obtain ⟨a, xs, ha, hx, hz, hr, h0⟩ := es.ownAt hi
    refine wpAny_Expr_any ?_ I.quiet rfl
    refine wpAny_Call_method_late hbase hfew hline rfl (name_ref hN hv hd hcd I ha ?_)
    obtain ⟨z, its, k, r, q⟩ := I.hok a _ hx
    refine ⟨"list", "list.insert", PySem.F.plainAttrs_list, PySem.F.slot_list_insert, PySem.F.type_list_insert, ⟨_, q, rfl⟩, fun b e => (Value.ref.inj e) ▸ ⟨_, q, rfl⟩, ?_⟩
    rw [hs, hs2]
    refine Calls.callWith_builtin rfl (Calls.evalArgs_plain (Calls.spliced_cons (thn (he E pins s σ H δ (n2 + m) _ t I es.rep (pl.mono (by omega)) hf) fun v s1 ⟨t1, y, H1, d1, I1, r1, st1, b1, q1⟩ => Calls.spliced_cons (thn (he2 E pins s1 σ H1 δ m _ t1 I1 (es.rep.ext st1.ext) (st1.pot _ (pl.mono (by omega))) q1) fun v2 s2 ⟨t2, y2, H2, d2, I2, r2, st2, b2, j, ed, j0, j1, jl, q2⟩ => Calls.spliced_nil ?_))))
    subst ed
    have st := st1.trans st2
    have hx2 : H2 a = some (.lst xs) := st.ext.keep hx fun _ q => nomatch q
    have hr2 := Reps.ext st.ext _ _ hr
    have b1 : Rep X.K H1 y (.int j) := b1
    have b2 : Rep X.K H2 y2 d2 := b2
    rw [Rep] at b1
    subst b1
    have hlx : xs.length = l.length := hr2.length
    have ss := StepS.of ex st
    have jl' : xs.length < sizeLine := by rw [hlx]; exact jl
    have hn : Reps X.K H2 (xs.take j.toNat ++ [y2] ++ xs.drop j.toNat) (l.take j.toNat ++ [d2] ++ l.drop j.toNat) := by
      refine ((hr2.take _).append ?_).append (hr2.drop _)
      rw [Reps, Reps]
      exact ⟨b2, trivial⟩
    have hln : (l.take j.toNat ++ [d2] ++ l.drop j.toNat).length = l.length + 1 := by
      rw [List.length_append, List.length_append, List.length_take, List.length_drop, List.length_singleton]
      omega
    refine px_of (X := X) t2 (mt_insert (X := X.wish E) pins s2 σ H2 (.ref a) [.int j, y2] (.ref a) [v, v2] (fun _ H' => H' = upd H2 a (.lst (xs.take j.toNat ++ [y2] ++ xs.drop j.toNat))) (I2.wish E) rfl (.cons r1 (.cons r2 .nil)) ⟨a, xs, j, y2, rfl, rfl, hx2, jl', j0, j1, rfl⟩) fun w s3 t3 ⟨v3, H3, I3, r3, e3⟩ => ?_
    subst e3
    exact ⟨t3, σ, _, _, I3.unwish, (es.ext st.ext).wr hi ha hx2 (by rw [hln]; exact jl) hn, (ss.trans (StepS.wr (o := .lst _) ss.ext hx2 h0 fun _ q => nomatch q)).mono (by omega), q2⟩
  · exact hf.elim
/-- a list looked at, put behind an own list -/
theorem ext_ok {pins : List (Addr × Obj)} {s : Shared} {σ : L2.St} {H : Hp} {E : Value → Shared → Prop} {a b : Addr} {xs zs : List V} {Q : Value → Shared → Prop} (I : L2.Inv X pins σ H s) (hH : H a = some (.lst xs)) (hb : Rd H b (.lst zs)) (hz : xs.length + zs.length ≤ sizeLine) (k : ∀ s', L2.Inv X pins σ (upd H a (.lst (xs ++ zs))) s' → Q .none s') :
    wpAny (model X.prog X.w) X.A (call (.builtin "list.extend") [.ref a, .ref b]) Q E s := by
  obtain ⟨_, us, n, r, _, e⟩ := I.lstM hH
  obtain ⟨_, us2, n2, r2, e2⟩ := hb.ok I.hok
  rw [r.length, r2.length] at hz
  have fits : Builtin.List.listTooLong (us.toArray.size + us2.toArray.size) = false := notLongL (by simpa using hz)
  have len : (xs ++ zs).length ≤ sizeLine := by simpa [r.length, r2.length] using hz
  refine call_meets PySem.F.slot_list_extend ⟨_, e, rfl⟩ PySem.F.entry_list_extend (PySem.F.args_list_extend_2 _ _) (AutoSeq1.list_extend_list_list_0 a us.toArray n b us2.toArray n2 (by rw [fits, Bool.and_false]; decide) ?_ ?_) ⟨e, e2, k _ (I.lset (its' := us ++ us2) hH e (by simp) (r.append r2) len)⟩
  · simp; omega
  · simp; omega
theorem Reps.app {K : PySem.W.Frag} {H : Hp} {vs ws : List V} {ds es : List Dat} (h : Reps K H vs ds) (h' : Reps K H ws es) : Reps K H (vs ++ ws) (ds ++ es) := h.append h'
theorem q1_ext (hN : X.N[i]? = some x) (hv : Vis X.env.scope x) (hd : (x == ("__debug__" : Str)) = false) (hcd : (x == ("__classdict__" : Str)) = false) (he : QE X e n (RB X.K) fe) (hbase : attributeBase (.Name x px) "extend" X.env (eval (.Name x px) X.env) = eval (.Name x px) X.env)
    (hfew : ((backTo cpos (starEach [e] X.env)).all (fun x => !x.1) && (backToKw cpos (keywordEach [] X.env)).all (fun x => x.1.isSome)
      && decide ([e].length + ([] : List Keyword).length + (if ([] : List Keyword).isEmpty then 0 else 1) < 30)) = true) (hline : (apos.endLine == cpos.line) = true) (hs : starEach [e] X.env = [(false, eval e X.env)]) :
    Q1 X (.Expr (.Call (.Attribute (.Name x px) "extend" apos) [e] [] cpos) pos) n (fun δ D => getO δ i fun x => ∃ l, x = .lst l ∧ fe δ fun d => ∃ r, d = .lst r ∧ l.length + r.length ≤ big ∧ D.nx (δ.set i (.own (.lst (l ++ r))))) := fun E hp pins s σ H0 H δ m D t I es ex pl hf => by
  have hf : getO δ i _ := hf
  unfold getO at hf
  split at hf
  · rename_i d hi
    obtain ⟨l, rfl, hf⟩ := hf
    obtain ⟨a, xs, ha, hx, hz, hr, h0⟩ := es.ownAt hi
    refine wpAny_Expr_any ?_ I.quiet rfl
    refine wpAny_Call_method_late hbase hfew hline rfl (name_ref hN hv hd hcd I ha ?_)
    obtain ⟨z, its, k, r, q⟩ := I.hok a _ hx
    refine ⟨"list", "list.extend", PySem.F.plainAttrs_list, PySem.F.slot_list_extend, PySem.F.type_list_extend, ⟨_, q, rfl⟩, fun b e => (Value.ref.inj e) ▸ ⟨_, q, rfl⟩, ?_⟩
    rw [hs]
    refine Calls.callWith_builtin rfl (Calls.evalArgs_plain (Calls.spliced_cons (thn (he E pins s σ H δ m _ t I es.rep pl hf) fun v s1 ⟨t1, y, H1, d, I1, r1, st1, b1, rr, ed, hl, q1⟩ => Calls.spliced_nil ?_)))
    subst ed
    have hx1 : H1 a = some (.lst xs) := st1.ext.keep hx fun _ q => nomatch q
    have hr1 := Reps.ext st1.ext _ _ hr
    have b1 : BRep X.K H1 y (.lst rr) := b1
    obtain ⟨b, zs, rfl, hb, hrb, hzb⟩ := b1.lstAt
    have ss := StepS.of ex st1
    cases r1
    have hle : xs.length + zs.length ≤ sizeLine := by rw [hr1.length, hrb.length]; exact hl
    refine px_of (X := X) t1 (ext_ok (X := X) (Q := fun _ s2 => L2.Inv X pins σ (upd H1 a (.lst (xs ++ zs))) s2) I1 hx1 hb hle fun s2 I2 => I2) fun _ s2 t2 I2 => ?_
    exact ⟨t2, σ, _, _, I2, (es.ext st1.ext).wr hi ha hx1 (by rw [List.length_append]; exact hl) (hr1.app hrb), (ss.trans (StepS.wr (o := .lst _) ss.ext hx1 h0 fun _ q => nomatch q)).mono (by omega), q1⟩
  · exact hf.elim
theorem setAt_ix {l r : List Dat} {j : Int} {d : Dat} (h : setAt l j d = some r) : ∃ k, ixN l.length j = some k ∧ r = l.set k d := by
  unfold setAt at h
  unfold ixN
  split at h
  · rename_i h0
    split at h
    · rename_i h1
      exact ⟨_, by rw [if_pos h0, if_pos (by omega)], (Option.some.inj h).symm⟩
    · cases h
  · rename_i h0
    split at h
    · rename_i h1
      exact ⟨_, by rw [if_neg h0, if_pos (by omega)], (Option.some.inj h).symm⟩
    · cases h
theorem Reps.set {K : PySem.W.Frag} {H : Hp} {v : V} {d : Dat} (r : Rep K H v d) : ∀ {vs : List V} {ds : List Dat} (k : Nat), Reps K H vs ds → Reps K H (vs.set k v) (ds.set k d)
  | [], [], _, h => h
  | [], _ :: _, _, h => by simp [Reps] at h
  | _ :: _, [], _, h => by simp [Reps] at h
  | w :: vs, c :: ds, 0, h => by
    rw [Reps] at h
    rw [List.set_cons_zero, List.set_cons_zero, Reps]
    exact ⟨r, h.2⟩
  | w :: vs, c :: ds, k + 1, h => by
    rw [Reps] at h
    rw [List.set_cons_succ, List.set_cons_succ, Reps]
    exact ⟨h.1, Reps.set r k h.2⟩
variable {ix : Expr} {fx : Env → (Dat → Prop) → Prop} {spos : Pos}
theorem q1_sto (hN : X.N[i]? = some x) (hv : Vis X.env.scope x) (hd : (x == ("__debug__" : Str)) = false) (hcd : (x == ("__classdict__" : Str)) = false) (he : QE X e n (RV X.K) fe) (hx : QE X ix n' (RV X.K) fx) (hsw : swapsWithSole [.Subscript (.Name x px) ix spos] e pos.line X.env = pure false) (hw : swappedStores [.Subscript (.Name x px) ix spos] e X.env = pure none)
    (h1 : (assignEach [.Subscript (.Name x px) ix spos] X.env).map (·.2) = [assign (.Subscript (.Name x px) ix spos) X.env])
    (ha : ∀ v, assign (.Subscript (.Name x px) ix spos) X.env v = (do
      let ov ← holding [v] (eval (.Name x px) X.env)
      let iv ← holding [v, ov] (eval ix X.env)
      standAt spos
      holding [v, ov, iv] (setItem ov iv v)
      release [v, ov, iv] [])) :
    Q1 X (.Assign [.Subscript (.Name x px) ix spos] e pos) (n + n') (fun δ D => fe δ fun d => getO δ i fun x => ∃ l, x = .lst l ∧ fx δ fun k => ∃ j r, k = .int j ∧ setAt l j d = some r ∧ D.nx (δ.set i (.own (.lst r)))) := fun E hp pins s σ H0 H δ m D t I es ex pl hf => by
  refine wpAny_Assign_stores (thn (he E pins s σ H δ (n' + m) _ t I es.rep (pl.mono (by omega)) hf) fun v s1 ⟨t1, y, H1, d, I1, r1, st1, b1, q1⟩ => ?_) hsw hw
  rw [h1]
  show wpAny _ _ (assign (.Subscript (.Name x px) ix spos) X.env v) _ _ _
  have q1 : getO δ i _ := q1
  unfold getO at q1
  split at q1
  · rename_i dd hi
    obtain ⟨l, rfl, q1⟩ := q1
    have es1 := es.ext st1.ext
    obtain ⟨a, xs, hσ, hxs, hz, hr, h0⟩ := es1.ownAt hi
    rw [ha]
    refine wpAny_bind (wpAny_holding (name_ref hN hv hd hcd I1 hσ ?_))
    refine wpAny_bind (wpAny_holding (thn (hx E pins s1 σ H1 δ m _ t1 I1 es1.rep (st1.pot _ (pl.mono (by omega))) q1) fun iv s2 ⟨t2, y2, H2, d2, I2, r2, st2, b2, j, r, e2, hset, q2⟩ => ?_))
    subst e2
    have b2 : Rep X.K H2 y2 (.int j) := b2
    rw [Rep] at b2
    subst b2
    obtain ⟨k, hk, rfl⟩ := setAt_ix hset
    have hxs2 : H2 a = some (.lst xs) := st2.ext.keep hxs fun _ q => nomatch q
    have hr2 := Reps.ext st2.ext _ _ hr
    have b1' : Rep X.K H2 y d := Rep.ext st2.ext _ _ b1
    have ss := (StepS.of ex st1).trans (StepS.of (ex.trans st1.ext) st2)
    refine wpAny_bind (wpAny_standAt (wpAny_bind (wpAny_holding (px_of (X := X) t2 (set_list (X := X.wish E) pins s2 σ H2 (.ref a) (.int j) y (.ref a) iv v (fun H' => H' = upd H2 a (.lst (xs.set k y))) (I2.wish E) rfl r2 r1 ⟨a, xs, j, k, rfl, rfl, hxs2, by rw [hr2.length]; exact hk, rfl⟩) fun _ s3 t3 ⟨H3, I3, e3⟩ => ?_))))
    subst e3
    exact wpAny_release ⟨t3, σ, _, _, I3.unwish, (es1.ext st2.ext).wr hi hσ hxs2 (by rw [List.length_set]; exact hz) (hr2.set b1' k), (ss.trans (StepS.wr (o := .lst _) ss.ext hxs2 h0 fun _ q => nomatch q)).mono (by omega), q2⟩
  · exact q1.elim
end
end SF

/-! D5d: two or three names at once. -/
namespace SF
open PySem PySem.Spec PyProof.Rows L2
/-- values, one made after another -/
def RLc (K : PySem.W.Frag) : List Bool → Hp → Hp → List V → List Dat → Prop
  | [], H, H', [], [] => Ext H H'
  | o :: os, H, H', v :: vs, d :: ds => ∃ H1, Ext H H1 ∧ (if o = true then RO K H H1 v d else Rep K H1 v d) ∧ RLc K os H1 H' vs ds
  | _, _, _, _, _ => False
theorem RLc.ext {K : PySem.W.Frag} : ∀ {os : List Bool} {H H' : Hp} {vs : List V} {ds : List Dat}, RLc K os H H' vs ds → Ext H H'
  | [], _, _, [], [], h => h
  | o :: os, _, _, v :: vs, d :: ds, ⟨H1, e, _, h⟩ => e.trans h.ext
theorem RLc.len {K : PySem.W.Frag} : ∀ {os : List Bool} {H H' : Hp} {vs : List V} {ds : List Dat}, RLc K os H H' vs ds → vs.length = os.length ∧ ds.length = os.length
  | [], _, _, [], [], h => ⟨rfl, rfl⟩
  | o :: os, _, _, v :: vs, d :: ds, ⟨H1, e, _, h⟩ => ⟨congrArg (· + 1) h.len.1, congrArg (· + 1) h.len.2⟩
theorem RLc.at {K : PySem.W.Frag} : ∀ {os : List Bool} {H H' : Hp} {vs : List V} {ds : List Dat} {k : Nat} {v : V} {d : Dat}, RLc K os H H' vs ds → os[k]? = some false → vs[k]? = some v → ds[k]? = some d → Rep K H' v d
  | [], _, _, [], [], k, v, d, h, h1, _, _ => by simp at h1
  | o :: os, H, H', w :: vs, c :: ds, 0, v, d, ⟨H1, e, q, h⟩, h1, h2, h3 => by
    simp only [List.getElem?_cons_zero, Option.some.injEq] at h1 h2 h3
    subst h1 h2 h3
    exact Rep.ext h.ext _ _ q
  | o :: os, H, H', w :: vs, c :: ds, k + 1, v, d, ⟨H1, e, q, h⟩, h1, h2, h3 => by
    simp only [List.getElem?_cons_succ] at h1 h2 h3
    exact RLc.at h h1 h2 h3
theorem RLc.own {K : PySem.W.Frag} : ∀ {os : List Bool} {H H' : Hp} {vs : List V} {ds : List Dat} {k : Nat} {v : V} {d : Dat}, RLc K os H H' vs ds → os[k]? = some true → vs[k]? = some v → ds[k]? = some d → isBox d = true → ∃ a, v = .ref a ∧ H a = none ∧ Own K H' a d
  | [], _, _, [], [], k, v, d, h, h1, _, _, _ => by simp at h1
  | o :: os, H, H', w :: vs, c :: ds, 0, v, d, ⟨H1, e, q, h⟩, h1, h2, h3, hb => by
    simp only [List.getElem?_cons_zero, Option.some.injEq] at h1 h2 h3
    subst h1 h2 h3
    have q : RO K H H1 _ _ := q
    obtain ⟨a, e1, e2, e3⟩ := q.fresh hb
    exact ⟨a, e1, e2, e3.ext h.ext⟩
  | o :: os, H, H', w :: vs, c :: ds, k + 1, v, d, ⟨H1, e, q, h⟩, h1, h2, h3, hb => by
    simp only [List.getElem?_cons_succ] at h1 h2 h3
    obtain ⟨a, e1, e2, e3⟩ := RLc.own h h1 h2 h3 hb
    exact ⟨a, e1, e.none e2, e3⟩
theorem RLc.dis {K : PySem.W.Frag} : ∀ {os : List Bool} {H H' : Hp} {vs : List V} {ds : List Dat} {k k' : Nat} {v : V} {d d' : Dat}, RLc K os H H' vs ds → k < k' → os[k]? = some true → os[k']? = some true → vs[k]? = some v → ds[k]? = some d → ds[k']? = some d' → isBox d = true → isBox d' = true → vs[k']? ≠ some v
  | [], _, _, [], [], k, k', v, d, d', h, _, h1, _, _, _, _, _, _ => by simp at h1
  | o :: os, H, H', w :: vs, c :: ds, 0, k' + 1, v, d, d', ⟨H1, e, q, h⟩, _, h1, h1', h2, h3, h3', hb, hb' => by
    simp only [List.getElem?_cons_zero, Option.some.injEq] at h1 h2 h3
    subst h1 h2 h3
    simp only [List.getElem?_cons_succ] at h1' h3' ⊢
    have q : RO K H H1 _ _ := q
    obtain ⟨a, rfl, e2, e3⟩ := q.fresh hb
    intro e4
    obtain ⟨b, e5, e6, _⟩ := RLc.own h h1' e4 h3' hb'
    cases e5
    cases c with
    | lst l => obtain ⟨vs, z, _⟩ := e3; rw [e6] at z; cases z
    | dic l => obtain ⟨vs, z, _⟩ := e3; rw [e6] at z; cases z
    | _ => exact e3.elim
  | o :: os, H, H', w :: vs, c :: ds, k + 1, k' + 1, v, d, d', ⟨H1, e, q, h⟩, lt, h1, h1', h2, h3, h3', hb, hb' => by
    simp only [List.getElem?_cons_succ] at h1 h1' h2 h3 h3' ⊢
    exact RLc.dis h (by omega) h1 h1' h2 h3 h3' hb hb'

/-- values that may be stored under names -/
structure Ready (K : PySem.W.Frag) (H0 H : Hp) (σ : L2.St) (δ : Env) (os : List Bool) (vs : List V) (ds : List Dat) : Prop where
  len : vs.length = os.length ∧ ds.length = os.length
  at_ : ∀ (k : Nat) (v : V) (d : Dat), os[k]? = some false → vs[k]? = some v → ds[k]? = some d → Rep K H v d
  own : ∀ (k : Nat) (v : V) (d : Dat), os[k]? = some true → vs[k]? = some v → ds[k]? = some d → ∃ a, v = .ref a ∧ Own K H a d ∧ H0 a = none ∧ ∀ (j : Nat) (d' : Dat), δ[j]? = some (Slot.own d') → σ[j]? ≠ some (some (.ref a))
  dis : ∀ (k k' : Nat) (v : V), k ≠ k' → os[k]? = some true → os[k']? = some true → vs[k]? = some v → vs[k']? ≠ some v
theorem Ready.reverse {K : PySem.W.Frag} {H0 H : Hp} {σ : L2.St} {δ : Env} {os : List Bool} {vs : List V} {ds : List Dat} (h : Ready K H0 H σ δ os vs ds) : Ready K H0 H σ δ os.reverse vs.reverse ds.reverse := by
  have lt : ∀ {α : Type} {l : List α} {k : Nat} {x : α}, l.reverse[k]? = some x → k < l.length := fun {α l k x} e => by
    by_cases q : k < l.length
    · exact q
    · rw [List.getElem?_eq_none (by rw [List.length_reverse]; omega)] at e; cases e
  refine ⟨by rw [List.length_reverse, List.length_reverse, List.length_reverse]; exact h.len, fun k v d h1 h2 h3 => ?_, fun k v d h1 h2 h3 => ?_, fun k k' v hk h1 h1' h2 e => ?_⟩
  · have l1 := lt h1; have l2 := lt h2; have l3 := lt h3
    rw [List.getElem?_reverse l1] at h1
    rw [List.getElem?_reverse l2, h.len.1] at h2
    rw [List.getElem?_reverse l3, h.len.2] at h3
    exact h.at_ _ v d h1 h2 h3
  · have l1 := lt h1; have l2 := lt h2; have l3 := lt h3
    rw [List.getElem?_reverse l1] at h1
    rw [List.getElem?_reverse l2, h.len.1] at h2
    rw [List.getElem?_reverse l3, h.len.2] at h3
    exact h.own _ v d h1 h2 h3
  · have l1 := lt h1; have l2 := lt h2; have l1' := lt h1'; have l3 := lt e
    rw [List.getElem?_reverse l1] at h1
    rw [List.getElem?_reverse l1'] at h1'
    rw [List.getElem?_reverse l2, h.len.1] at h2
    rw [List.getElem?_reverse l3, h.len.1] at e
    exact h.dis _ _ v (by omega) h1 h1' h2 e
theorem RLc.ready {K : PySem.W.Frag} {H0 H H' : Hp} {σ : L2.St} {δ : Env} {os : List Bool} {vs : List V} {ds : List Dat} (h : RLc K os H H' vs ds) (ex : Ext H0 H) (es : EnvS K σ H0 H δ) (hb : ((os.zip ds).all fun p => !p.1 || isBox p.2) = true) : Ready K H0 H' σ δ os vs ds := by
  have box : ∀ (k : Nat) (d : Dat), os[k]? = some true → ds[k]? = some d → isBox d = true := fun k d h1 h2 => by
    have hm : (true, d) ∈ os.zip ds := by
      have e : (os.zip ds)[k]? = some (true, d) := by rw [List.getElem?_zip_eq_some]; exact ⟨h1, h2⟩
      exact List.mem_of_getElem? e
    have := List.all_eq_true.mp hb _ hm
    simpa using this
  refine ⟨h.len, fun k v d h1 h2 h3 => h.at h1 h2 h3, fun k v d h1 h2 h3 => ?_, fun k k' v hk h1 h1' h2 e => ?_⟩
  · obtain ⟨a, rfl, hn, ow⟩ := h.own h1 h2 h3 (box k d h1 h3)
    exact ⟨a, rfl, ow, ex.none hn, es.apart hn⟩
  · have lk : ∀ {k : Nat}, os[k]? = some true → ∃ d, ds[k]? = some d := fun {k} q => by
      have l : k < os.length := by
        by_cases z : k < os.length
        · exact z
        · rw [List.getElem?_eq_none (by omega)] at q; cases q
      exact ⟨_, List.getElem?_eq_getElem (by rw [h.len.2]; exact l)⟩
    obtain ⟨d, hd⟩ := lk h1
    obtain ⟨d', hd'⟩ := lk h1'
    rcases Nat.lt_or_gt_of_ne hk with lt | lt
    · exact h.dis lt h1 h1' h2 hd hd' (box _ _ h1 hd) (box _ _ h1' hd') e
    · exact h.dis lt h1' h1 e hd' hd (box _ _ h1' hd') (box _ _ h1 hd) h2
def setAll (σ : L2.St) : List Nat → List V → L2.St
  | i :: is, v :: vs => setAll (σ.set i (some v)) is vs
  | _, _ => σ
theorem Ready.env {K : PySem.W.Frag} {H0 H : Hp} : ∀ {os : List Bool} {is : List Nat} {vs : List V} {ds : List Dat} {σ : L2.St} {δ : Env}, is.length = os.length → Ready K H0 H σ δ os vs ds → EnvS K σ H0 H δ → EnvS K (setAll σ is vs) H0 H (setPar os is ds δ)
  | [], [], [], [], σ, δ, hl, h, es => es
  | [], [], _ :: _, _, σ, δ, hl, h, es => by have := h.len.1; simp at this
  | [], [], [], _ :: _, σ, δ, hl, h, es => by have := h.len.2; simp at this
  | _ :: _, _ :: _, [], _, σ, δ, hl, h, es => by have := h.len.1; simp at this
  | _ :: _, _ :: _, _ :: _, [], σ, δ, hl, h, es => by have := h.len.2; simp at this
  | o :: os, i :: is, v :: vs, d :: ds, σ, δ, hl, h, es => by
    rw [setAll, setPar]
    have hl' : is.length = os.length := by simpa using hl
    have tl : vs.length = os.length ∧ ds.length = os.length := by have := h.len; simpa using this
    cases o with
    | false =>
      have r : Rep K H v d := h.at_ 0 v d rfl rfl rfl
      refine Ready.env hl' ⟨tl, fun k w c h1 h2 h3 => h.at_ (k + 1) w c h1 h2 h3, fun k w c h1 h2 h3 => ?_, fun k k' w hk h1 h1' h2 => h.dis (k + 1) (k' + 1) w (by omega) h1 h1' h2⟩ (es.kp (es.rep.set i (s := .val d) r) (Kp.set σ δ i (some v) d))
      obtain ⟨a, e1, e2, e3, e4⟩ := h.own (k + 1) w c h1 h2 h3
      refine ⟨a, e1, e2, e3, fun j d' hj => ?_⟩
      obtain ⟨h5, h6⟩ := (Kp.set σ δ i (some v) d).1 j d' hj
      rw [h6]
      exact e4 j d' h5
    | true =>
      obtain ⟨a, rfl, e2, e3, e4⟩ := h.own 0 v d rfl rfl rfl
      refine Ready.env hl' ⟨tl, fun k w c h1 h2 h3 => h.at_ (k + 1) w c h1 h2 h3, fun k w c h1 h2 h3 => ?_, fun k k' w hk h1 h1' h2 => h.dis (k + 1) (k' + 1) w (by omega) h1 h1' h2⟩ (es.own i e2 e3 e4)
      obtain ⟨b, rfl, f2, f3, f4⟩ := h.own (k + 1) w c h1 h2 h3
      refine ⟨b, rfl, f2, f3, fun j d' hj => ?_⟩
      rw [List.getElem?_set] at hj ⊢
      by_cases q : i = j
      · subst q
        by_cases l : i < σ.length
        · simp only [if_true, l]
          intro e5
          have e6 : V.ref a = V.ref b := by simpa using e5
          exact h.dis 0 (k + 1) (.ref a) (by omega) rfl h1 rfl (by rw [e6]; exact h2)
        · have l' : ¬ i < δ.length := by rw [← es.rep.1]; exact l
          simp [l'] at hj
      · simp only [q, if_false] at hj ⊢
        exact f4 j d' hj

section
variable {X : Cx}
/-- several values, one after another -/
def QPar (X : Cx) (es : List Expr) (os : List Bool) (n : Nat) (f : Env → (List Dat → Prop) → Prop) : Prop :=
  ∀ (pos : Pos) (E : Value → Shared → Prop) (pins : List (Addr × Obj)) (s : Shared) (σ : L2.St) (H : Hp) (δ : Env) (m : Nat) (Φ : List Dat → Prop), 0 < s.toks → L2.Inv X pins σ H s → EnvRep X.K σ H δ → PotLe (n + m) H → f δ Φ →
    wpAny (model X.prog X.w) X.A (spliced (backTo pos (starEach es X.env))) (fun us s' => 0 < s'.toks ∧ ∃ vs H' ds, L2.Inv X pins σ H' s' ∧ L2.Vals vs us ∧ Step n H H' ∧ RLc X.K os H H' vs ds ∧ Φ ds) E s
variable {e : Expr} {es : List Expr} {os : List Bool} {n n' : Nat} {fa : Env → (Dat → Prop) → Prop} {fs : Env → (List Dat → Prop) → Prop}
theorem qpar_nil : QPar X [] [] 0 (fun _ Q => Q []) := fun pos E pins s σ H δ m Φ ht I er pl hf => Calls.spliced_nil ⟨ht, [], H, [], I, .nil, Step.refl H, Ext.refl H, hf⟩
theorem qpar_cons (o : Bool) (ha : QE X e n (if o = true then ROw X.K else RV X.K) fa) (hr : QPar X es os n' fs) (hs : starEach (e :: es) X.env = (false, eval e X.env) :: starEach es X.env) : QPar X (e :: es) (o :: os) (n + n') (fun δ Q => fa δ fun d => fs δ fun ds => Q (d :: ds)) := fun pos E pins s σ H δ m Φ ht I er pl hf => by
  rw [hs]
  show wpAny _ _ (spliced ((false, eval e X.env) :: backTo pos (starEach es X.env))) _ _ s
  refine Calls.spliced_cons (thn (ha E pins s σ H δ (n' + m) _ ht I er (pl.mono (by omega)) hf) fun u s1 ⟨t1, x, H1, dx, I1, r1, st1, b1, q1⟩ => ?_)
  refine thn (hr pos E pins s1 σ H1 δ m _ t1 I1 (er.ext st1.ext) (st1.pot _ (pl.mono (by omega))) q1) fun us s2 ⟨t2, vs, H2, ds, I2, r2, st2, b2, q2⟩ => ⟨t2, x :: vs, H2, dx :: ds, I2, .cons r1 r2, st1.trans st2, ⟨H1, st1.ext, ?_, b2⟩, q2⟩
  cases o with
  | true => exact b1
  | false => exact b1
/-- names stored one after another -/
theorem stores_run {pins : List (Addr × Obj)} {H : Hp} {E : Value → Shared → Prop} {Q : Unit → Shared → Prop} (hN : X.N.Nodup) (xs : List Str) : ∀ (is : List Nat) (vs : List V) (us : List Value) (s : Shared) (σ : L2.St), is.length = xs.length → vs.length = xs.length → (∀ (k : Nat) (i : Nat) (x : Str), is[k]? = some i → xs[k]? = some x → X.N[i]? = some x ∧ X.env.scope.names.lookup x = some .local) → L2.Vals vs us → L2.Inv X pins σ H s → 0 < s.toks →
    (∀ s', 0 < s'.toks → L2.Inv X pins (setAll σ is vs) H s' → Q () s') → wpAny (model X.prog X.w) X.A (assignInOrder (xs.map fun x => bindName X.env x) us) Q E s := by
  induction xs with
  | nil =>
    intro is vs us s σ h1 h2 hx rs I t k
    have e1 : is = [] := List.eq_nil_of_length_eq_zero h1
    have e2 : vs = [] := List.eq_nil_of_length_eq_zero h2
    subst e1 e2
    cases rs
    exact assignInOrder_nil (k s t I)
  | cons x xs ih =>
    intro is vs us s σ h1 h2 hx rs I t k
    match is, vs, h1, h2 with
    | i :: is, v :: vs, h1, h2 =>
      cases rs with
      | cons r rs =>
        obtain ⟨hi, hl⟩ := hx 0 i x rfl rfl
        rw [List.map_cons]
        refine assignInOrder_cons (wpAny_bindName (px_of (X := X) t (store_ok (Q := fun _ s2 => L2.Inv X pins (σ.set i (some v)) H s2) I hN hi (.inl hl) r (fun s2 I2 => I2) (.inr hl)) fun _ s2 t2 I2 => ?_))
        exact ih is vs _ s2 _ (by simpa using h1) (by simpa using h2) (fun k i x a b => hx (k + 1) i x a b) rs I2 t2 k
theorem q1_par {is : List Nat} {xs : List Str} {ts : List Expr} {kt k2 : Nat} {pt pt2 pos : Pos} (hc : X.calm = true) (hN : X.N.Nodup) (hil : is.length = xs.length) (hol : os.length = xs.length) (hx : ∀ (k : Nat) (i : Nat) (x : Str), is[k]? = some i → xs[k]? = some x → X.N[i]? = some x ∧ X.env.scope.names.lookup x = some .local) (hl : es.length ≤ 3) (hlx : xs.length = es.length)
    (ha : QPar X es os n fs) (hw : swappedStores [.Tuple ts kt pt] (.Tuple es k2 pt2) X.env = pure (some xs)) (hs : swapsWithSole [.Tuple ts kt pt] (.Tuple es k2 pt2) pos.line X.env = pure false) :
    Q1 X (.Assign [.Tuple ts kt pt] (.Tuple es k2 pt2) pos) n (fun δ D => fs δ fun ds => ((os.zip ds).all fun p => !p.1 || isBox p.2) = true ∧ D.nx (setPar os.reverse is.reverse ds.reverse δ)) := fun E hp pins s σ H0 H δ m D t I ess ex pl hf => by
  rw [exec_Assign_arm]
  refine wpAny_bind (wpAny_standAt ?_)
  rw [hs]
  refine wpAny_bind (wpAny_pure ?_)
  rw [if_neg (by decide)]
  refine wpAny_bind (wpAny_Tuple_spliced (thn (ha _ E pins s σ H δ m _ t I ess.rep pl hf) fun us s1 ⟨t1, vs, H1, ds, I1, r1, st1, b1, hb, q1⟩ => ?_))
  have hvl : vs.length = xs.length := by rw [b1.len.1, hol]
  have hul : us.length = xs.length := by rw [← r1.length, hvl]
  have h3 : us.length ≤ sizeLine := by rw [hul, hlx]; exact Nat.le_trans hl (by decide)
  refine ⟨h3, ?_⟩
  have I2 : L2.Inv X pins σ H1 { s1 with heap := s1.heap.push { cls := .type "tuple", data := .seq us.toArray } } := I1.kept (t' := s1.toks) fun b o e => Heap.get?_push_of_some _ e
  rw [hw]
  refine wpAny_bind (wpAny_pure ?_)
  show wpAny (model X.prog X.w) X.A (do rule "assign.swapped-stores"; let items ← unpackItems (.ref s1.heap.objs.size) xs.length none; assignInOrder (xs.reverse.map fun n => bindName X.env n) items.reverse; pure Flow.next) _ _ _
  refine wpAny_bind (wpAny_rule (wpAny_bind ?_))
  rw [← hul]
  have ez : us.length = us.toArray.size := by simp
  rw [ez]
  refine unpackItems_tuple (items := us.toArray) (I.ok.hd hc) (IsTup.new s1.heap _) fun h' hx' => ?_
  have I3 := I2.kept (h' := h') (t' := s1.toks) fun b o e => hx' b o (Nat.ne_of_lt (Heap.lt_size e)) e
  have ready := (b1.ready ex ess hb).reverse
  have es1 := (ess.ext st1.ext)
  refine wpAny_bind ?_
  have eu : us.toArray.toList.reverse = us.reverse := by simp
  rw [eu]
  refine stores_run (H := H1) hN xs.reverse is.reverse vs.reverse us.reverse _ σ (by simpa using hil) (by simpa using hvl) (fun k i x h1 h2 => ?_) r1.reverse I3 t1 fun s4 t4 I4 => wpAny_pure ⟨t4, _, H1, _, I4, ready.env (by rw [List.length_reverse, List.length_reverse, hil, hol]) es1, .of ex st1, q1⟩
  have l1 : k < is.length := by
    by_cases q : k < is.length
    · exact q
    · rw [List.getElem?_eq_none (by rw [List.length_reverse]; omega)] at h1; cases h1
  rw [List.getElem?_reverse l1] at h1
  rw [List.getElem?_reverse (by omega), ← hil] at h2
  exact hx _ i x h1 h2
end
end SF

/-! D5e: list comprehensions with two clauses. -/
namespace SF
open PySem PySem.Spec PyProof.Rows L2
/-- a comprehension runs: its list is new -/
def LCR (X : Cx) (elt iter : Expr) (gs : List Comprehension) (scope : Scope) (n : Nat) (F : Env → (List Dat → Prop) → Prop) : Prop :=
  ∀ ⦃pins : List (Addr × Obj)⦄ ⦃s : Shared⦄ ⦃σ : L2.St⦄ ⦃H : Hp⦄ ⦃δ : Env⦄ ⦃m : Nat⦄ ⦃Φ : List Dat → Prop⦄ ⦃pos pos' : Pos⦄ ⦃use : Option (Value → Sem Unit)⦄ ⦃Qf : Value → Shared → Prop⦄ ⦃E : Value → Shared → Prop⦄,
    0 < s.toks → L2.Inv X pins σ H s → EnvRep X.K σ H δ → PotLe (n + m) H → F δ Φ →
    (∀ D C s' m' H' ys, 0 < s'.toks → L2.Inv X pins σ H' s' → Step n H H' → H D = none → Own X.K H' D (.lst ys) → Φ ys → s'.heap.Ns C m' → FpOk X pins H' C → compPost (model X.prog X.w) X.A E use Qf (.ref D) C (.ok .next) s') →
    wpAny (model X.prog X.w) X.A (comprehension (.ListComp elt gs scope pos) scope X.env pos' (newList []) false (eval iter X.env) use) Qf E s
theorem LCR.cg {X : Cx} {elt iter : Expr} {gs : List Comprehension} {scope : Scope} {n n' : Nat} {F F' : Env → (List Dat → Prop) → Prop} (h : LCR X elt iter gs scope n F) (hn : n ≤ n') (e : ∀ δ Q, F' δ Q → F δ Q) : LCR X elt iter gs scope n' F' :=
  fun pins s σ H δ m Φ pos pos' use Qf E t I er pl hf k => h (m := m) t I er (pl.mono (by omega)) (e _ _ hf) fun D C s' m' H' ys t' I' st hD ow q hn' f => k D C s' m' H' ys t' I' (st.mono hn) hD ow q hn' f
section
variable {X : Cx} {elt iter : Expr} {g0 : Comprehension} {gs : List Comprehension} {scope : Scope} {pos cpos : Pos} {n : Nat} {F : Env → (List Dat → Prop) → Prop} {i : Nat} {x : Str} {px : Pos}
theorem qe_lcr (R : LCR X elt iter gs scope n F) (hgi : ∀ use, comprehension (.ListComp elt gs scope pos) scope X.env (firstIterPos gs pos) (newList []) false (eval iter X.env) use = comprehension (.ListComp elt gs scope pos) scope X.env (firstIterPos gs pos) (newList []) false (eval iter X.env) use)
    (hev : eval (.ListComp elt gs scope pos) X.env = comprehension (.ListComp elt gs scope pos) scope X.env (firstIterPos gs pos) (newList []) false (eval iter X.env) none) :
    QE X (.ListComp elt gs scope pos) n (ROw X.K) (fun δ Q => F δ fun ys => Q (.lst ys)) := fun E pins s σ H δ m Φ t0 I er pl hf => by
  rw [hev]
  refine R t0 I er pl hf fun D C s' m' H' ys t' I' st hD ow q hn f => ⟨m', hn, fun h'' sb => ?_⟩
  obtain ⟨f0, f1, f2, f3, f4, f5⟩ := f
  exact ⟨t', .ref D, H', .lst ys, I'.turned (t' := s'.toks) (fun b o hb e => (sb.2 b hb).trans e) f0 f1 f3 f4 f5, rfl, st, .inl ⟨D, rfl, hD, ow⟩, q⟩
theorem lcr_set {pins : List (Addr × Obj)} {s : Shared} {σ : L2.St} {H0 H : Hp} {δ : Env} {m : Nat} {D : Post} {Φ : List Dat → Prop} {E : Value → Shared → Prop} (hN : X.N.Nodup) (hy : X.N[i]? = some x) (hyl : X.env.scope.names.lookup x = some .local)
    (hex : PySem.exec (.Assign [.Name x px] (.ListComp elt gs scope cpos) pos) X.env = (do
      standAt pos
      (do let _ ← comprehension (.ListComp elt gs scope cpos) scope X.env (firstIterPos gs cpos) (newList []) false (eval iter X.env) (some (assign (.Name x px) X.env)))
      pure Flow.next))
    (R : LCR X elt iter gs scope n F)
    (t : 0 < s.toks) (I : L2.Inv X pins σ H s) (es : EnvS X.K σ H0 H δ) (ex : Ext H0 H) (pl : PotLe (n + m) H) (hf : F δ Φ)
    (k : ∀ ys σ' H' s', 0 < s'.toks → L2.Inv X pins σ' H' s' → EnvS X.K σ' H0 H' (δ.set i (.own (.lst ys))) → StepS n H0 H H' → Φ ys → SO X pins n H0 H D .next s') :
    wpAny (model X.prog X.w) X.A (PySem.exec (.Assign [.Name x px] (.ListComp elt gs scope cpos) pos) X.env) (SO X pins n H0 H D) E s := by
  rw [hex]
  refine wpAny_bind (wpAny_standAt (wpAny_bind (wpAny_bind ?_)))
  refine thn (R (Qf := fun _ s' => SO X pins n H0 H D .next s') t I es.rep pl hf fun L C s' m' H' ys t' I' st hL ow q hn f => ?_) fun _ s' hq => wpAny_pure (wpAny_pure hq)
  show wpAny _ _ (assign (.Name x px) X.env (.ref L)) _ _ _
  refine wpAny_assign_Name ?_
  refine px_of (X := X) t' (store_ok2 (Q := fun _ s2 => L2.Inv X pins (σ.set i (some (.ref L))) H' s2 ∧ ∃ a, Heap.SameBut a s'.heap s2.heap ∧ (a = X.env.locals ∨ X.env.cells.lookup x = some a)) (v := V.ref L) I' hN hy (.inl hyl) rfl (fun s2 I2 ha => ⟨I2, ha⟩) (.inr hyl)) fun _ s2 t2 ⟨I2, a, sb, ha⟩ => ?_
  obtain ⟨f0, f1, f2, f3, f4, f5⟩ := f
  have haC : C ≠ a := by
    rcases ha with z | z
    · rw [z]; exact f1
    · exact fun e => f4 x a z e.symm
  refine ⟨m', hn.sameBut sb haC, fun h3 sb3 => ?_⟩
  exact k ys _ H' _ t2 (I2.turned (t' := s2.toks) (fun b o hb e => (sb3.2 b hb).trans e) f0 f1 f3 f4 f5) ((es.ext st.ext).own i ow (ex.none hL) (es.apart hL)) (.of ex st) q
theorem exec_lc {tg : Expr} {ifs : List Expr} (hsw : swapsWith (.ListComp elt (⟨tg, iter, ifs, 0⟩ :: gs) scope cpos) (some (.Name x px)) pos.line X.env = pure true) :
    PySem.exec (.Assign [.Name x px] (.ListComp elt (⟨tg, iter, ifs, 0⟩ :: gs) scope cpos) pos) X.env = (do
      standAt pos
      (do let _ ← comprehension (.ListComp elt (⟨tg, iter, ifs, 0⟩ :: gs) scope cpos) scope X.env (firstIterPos (⟨tg, iter, ifs, 0⟩ :: gs) cpos) (newList []) false (eval iter X.env) (some (assign (.Name x px) X.env)))
      pure Flow.next) := by
  rw [exec_Assign_Name_used _ _ _ _ hsw]
  rfl
theorem q1_ownR (hN : X.N.Nodup) (hy : X.N[i]? = some x) (hyl : X.env.scope.names.lookup x = some .local)
    (hex : PySem.exec (.Assign [.Name x px] (.ListComp elt gs scope cpos) pos) X.env = (do
      standAt pos
      (do let _ ← comprehension (.ListComp elt gs scope cpos) scope X.env (firstIterPos gs cpos) (newList []) false (eval iter X.env) (some (assign (.Name x px) X.env)))
      pure Flow.next))
    (R : LCR X elt iter gs scope n F) :
    Q1 X (.Assign [.Name x px] (.ListComp elt gs scope cpos) pos) n (fun δ D => F δ fun ys => isBox (.lst ys) = true ∧ D.nx (δ.set i (.own (.lst ys)))) := fun E hE pins s σ H0 H δ m D t I es ex pl hf =>
  lcr_set hN hy hyl hex R t I es ex pl hf fun ys σ' H' s' t' I' es' st q => ⟨t', σ', H', _, I', es', st, q.2⟩
theorem q1_setR (hN : X.N.Nodup) (hy : X.N[i]? = some x) (hyl : X.env.scope.names.lookup x = some .local)
    (hex : PySem.exec (.Assign [.Name x px] (.ListComp elt gs scope cpos) pos) X.env = (do
      standAt pos
      (do let _ ← comprehension (.ListComp elt gs scope cpos) scope X.env (firstIterPos gs cpos) (newList []) false (eval iter X.env) (some (assign (.Name x px) X.env)))
      pure Flow.next))
    (R : LCR X elt iter gs scope n F) :
    Q1 X (.Assign [.Name x px] (.ListComp elt gs scope cpos) pos) n (fun δ D => F δ fun ys => D.nx (δ.set i (.val (.lst ys)))) := fun E hE pins s σ H0 H δ m D t I es ex pl hf =>
  lcr_set hN hy hyl hex R t I es ex pl hf fun ys σ' H' s' t' I' es' st q => by
    have lt : i < δ.length := by
      rw [← es.rep.1, I.len]
      exact (List.getElem?_eq_some_iff.mp hy).1
    have hi' : (δ.set i (.own (.lst ys)))[i]? = some (Slot.own (.lst ys)) := by rw [List.getElem?_set]; simp [lt]
    obtain ⟨a, xs, ha, hx, hz, hr, h0⟩ := es'.ownAt hi'
    obtain ⟨o, I2⟩ := Inv_freeze I' hx
    have st2 := StepS.wr (o := .frz o (.lst xs)) st.ext hx h0 (fun _ q => nomatch q)
    have es2 := es'.frz (o := o) hi' ha hx hz hr
    rw [List.set_set] at es2
    exact ⟨t', σ', _, _, I2, es2, (st.trans st2).mono (by omega), q⟩
end
/-- a list that no name owns is written: the names stand -/
theorem EnvRep.wr {K : PySem.W.Frag} {σ : L2.St} {H : Hp} {δ : Env} {D : Addr} {xs : List V} (er : EnvRep K σ H δ) (hD : H D = some (.lst xs)) (ap : ∀ (j : Nat) (d : Dat), δ[j]? = some (Slot.own d) → σ[j]? ≠ some (some (.ref D))) (o : HO) : EnvRep K σ (L2.upd H D o) δ := by
  refine ⟨er.1, fun j s h => ?_⟩
  have sr := er.2 j s h
  cases s with
  | no => trivial
  | val d =>
    obtain ⟨v, q, sr⟩ := sr.valAt
    rw [q]
    exact Rep.wr (.inl ⟨_, rfl⟩) _ hD _ _ sr
  | own d =>
    have ne := ap j d h
    obtain ⟨b, q, ow⟩ := sr.ownAt
    rw [q]
    refine ⟨b, rfl, ?_⟩
    cases d with
    | lst l =>
      obtain ⟨vs, h1, h2, h3⟩ := ow
      refine ⟨vs, ?_, h2, Reps.wr (.inl ⟨_, rfl⟩) _ hD _ _ h3⟩
      rw [upd_ne (fun e => by subst e; exact ne q)]
      exact h1
    | dic l =>
      obtain ⟨vs, h1, h2, h3⟩ := ow
      refine ⟨vs, ?_, h2, RepKv.wr (.inl ⟨_, rfl⟩) _ hD _ _ h3⟩
      rw [upd_ne (fun e => by subst e; exact ne q)]
      exact h1
    | _ => exact ow.elim
theorem ExtS.wr {H0 H : Hp} {D : Addr} {xs ys : List V} (e : ExtS H0 H) (hD : H D = some (.lst xs)) : ExtS H0 (L2.upd H D (.lst ys)) := fun a o h => by
  by_cases ha : a = D
  · subst ha
    rcases e a o h with q | q | ⟨⟨z, q⟩, z', q'⟩
    · exact .inl q
    · rw [hD] at q; cases q; exact .inl (.inl ⟨xs, rfl⟩)
    · rw [hD] at q'; exact absurd (Option.some.inj q') (fun w => nomatch w)
  · rw [upd_ne ha]
    exact e a o h
/-- what stands after a wipe stood before it, and stands after a smaller one -/
theorem under_wipe {σ τ : L2.St} {ov vs : List Nat} (e : wipe τ ov = σ) (sub : ∀ i ∈ vs, i ∈ ov) : σ.length = τ.length ∧ (∀ (j : Nat) v, σ[j]? = some (some v) → τ[j]? = some (some v)) ∧ ∀ (j : Nat) v, σ[j]? = some (some v) → (wipe τ vs)[j]? = some (some v) := by
  subst e
  exact ⟨wipe_length _ _, fun j v q => (wipe_some q).1, fun j v q => (wipe_out fun z => (wipe_some q).2 (sub j z)).trans (wipe_some q).1⟩
def turn2W (p : P) (δ0 : Env) (ft : Env → (Bool → Prop) → Prop) (B : Nat) (fi1 : Env → (Dat → Prop) → Prop) (p1 : P) (ft1 : Env → (Bool → Prop) → Prop) (fe : Env → (Dat → Prop) → Prop) (d : Dat) (K : List Dat → Prop) : Prop :=
  bindP p d δ0 fun δ' => ft δ' fun k => if k = true then fi1 δ' fun x => ∃ ds, iterD x = some ds ∧ ds.length ≤ B ∧ mapW (turnW p1 (wipeD δ' (varsP p1)) ft1 fe) ds K else K []
section
variable {X : Cx}
theorem lc2_run {elt tg iter tg1 iter1 : Expr} {ifs ifs1 : List Expr} {scope : Scope} {own : List (Str × Nat)} {p p1 : P} {z z1 : Bool} {n n1 n2 n3 n4 : Nat} {fi fi1 fe : Env → (Dat → Prop) → Prop} {ft ft1 : Env → (Bool → Prop) → Prop}
    (hc : X.calm = true) (hN : X.N.Nodup) (hi : QI X tg iter n true z fi) (ok : BlkOk X.N X.env.scope scope own) (hz : z = true → isT p = true) (hz1 : z1 = true → isT p1 = true) (hv : ∀ i ∈ varsP p, i ∈ own.map (·.2)) (hv1 : ∀ i ∈ varsP p1, i ∈ own.map (·.2))
    (hg : ∀ (s : Shared) (H : Hp) (C : Addr) (cl : List (Str × Addr)) (fp : List Addr), TgOk (X.blk s H scope (compEnvC scope cl C X.env) fp) tg p) (ht : ∀ (s : Shared) (H : Hp) (C : Addr) (cl : List (Str × Addr)) (fp : List Addr), QTs (X.blk s H scope (compEnvC scope cl C X.env) fp) ifs n1 ft)
    (hi1 : ∀ (s : Shared) (H : Hp) (C : Addr) (cl : List (Str × Addr)) (fp : List Addr), QI (X.blk s H scope (compEnvC scope cl C X.env) fp) tg1 iter1 n3 false z1 fi1)
    (hg1 : ∀ (s : Shared) (H : Hp) (C : Addr) (cl : List (Str × Addr)) (fp : List Addr), TgOk (X.blk s H scope (compEnvC scope cl C X.env) fp) tg1 p1) (ht1 : ∀ (s : Shared) (H : Hp) (C : Addr) (cl : List (Str × Addr)) (fp : List Addr), QTs (X.blk s H scope (compEnvC scope cl C X.env) fp) ifs1 n4 ft1)
    (he : ∀ (s : Shared) (H : Hp) (C : Addr) (cl : List (Str × Addr)) (fp : List Addr), QE (X.blk s H scope (compEnvC scope cl C X.env) fp) elt n2 (RV X.K) fe) (hs : ∀ x, foldedSetIterable iter X.env x = pure x) (hs1 : ∀ env x, foldedSetIterable iter1 env x = pure x) (mfi : ∀ δ, Mono (fi δ)) (mfi1 : ∀ δ, Mono (fi1 δ)) :
    LCR X elt iter [⟨tg, iter, ifs, 0⟩, ⟨tg1, iter1, ifs1, 0⟩] scope (n + sizeLine * (n1 + (n3 + sizeLine * (n4 + n2)))) (fun δ Q => fi δ fun x => ∃ ds B, iterD x = some ds ∧ ds.length * B ≤ big ∧ flatW (turn2W p (wipeD δ (own.map (·.2))) ft B fi1 p1 ft1 fe) ds Q) := by
  intro pins s σ H δ m Φ pos pos' use Qf E t0 I er pl h hRR
  refine comp_go (Go := fun J H2 => Step n H H2 ∧ ∃ ds B, Wlk X.K true z H2 ds J ∧ ds.length ≤ sizeLine ∧ ds.length * B ≤ big ∧ flatW (turn2W p (wipeD δ (own.map (·.2))) ft B fi1 p1 ft1 fe) ds Φ) hN I ok hs (thn (hi E pins s σ H δ (sizeLine * (n1 + (n3 + sizeLine * (n4 + n2))) + m) (fun x => ∃ ds B, iterD x = some ds ∧ ds.length * B ≤ big ∧ flatW (turn2W p (wipeD δ (own.map (·.2))) ft B fi1 p1 ft1 fe) ds Φ) t0 I er (pl.mono (by omega)) (mfi δ _ _ (fun x ⟨ds, B, q1, q2, q3⟩ => ⟨⟨ds, q1⟩, ds, B, q1, q2, q3⟩) h)) fun v s1 h1 => thn h1 fun itv s2 h2 => ?_) ?_
  · obtain ⟨t2, it, fp, tn, J, H2, d, ds, e, I2, T, st, f, stp, wk, hl, hd, ds', B, hd', hB, q⟩ := h2
    rw [hd] at hd'
    cases hd'
    exact ⟨it, fp, tn, J, H2, e, t2, I2, T, st, f, stp, ds, B, wk, hl, hB, q⟩
  rintro it fp tn J H2 D s3 s4 ce ⟨stp, ds, B, wk, hlen, hB, q⟩ T hDn c st4 t4
  obtain ⟨C, cl, rfl⟩ := c.made
  have pg := hg s3 (L2.upd H2 D (.lst [])) C cl fp
  have pt := ht s3 (L2.upd H2 D (.lst [])) C cl fp
  have pe := he s3 (L2.upd H2 D (.lst [])) C cl fp
  have pi1 := hi1 s3 (L2.upd H2 D (.lst [])) C cl fp
  have pg1 := hg1 s3 (L2.upd H2 D (.lst [])) C cl fp
  have pt1 := ht1 s3 (L2.upd H2 D (.lst [])) C cl fp
  have nfp : ∀ b ∈ fp, (L2.upd H2 D (.lst [])) b = none := fun b hb => (c.own b hb).1
  generalize compEnvC scope cl C X.env = ce at c pg pt pe pi1 pg1 pt1 ⊢
  have stH3 : Step 0 H2 (L2.upd H2 D (.lst [])) := (Step.refl H2).wrote hDn
  have eD : (L2.upd H2 D (.lst [])) D = some (.lst []) := upd_same
  generalize L2.upd H2 D (.lst []) = H3 at c pg pt pe pi1 pg1 pt1 nfp stH3 eD
  have I4 := c.inn
  have er0 : EnvRep X.K (wipe σ (own.map (·.2))) H2 (wipeD δ (own.map (·.2))) := (er.ext stp.ext).wipe _
  have ap0 : ∀ (j : Nat) (d : Dat), (wipeD δ (own.map (·.2)))[j]? = some (Slot.own d) → (wipe σ (own.map (·.2)))[j]? ≠ some (some (.ref D)) := fun j d hj he' => by
    obtain ⟨b, q1, ow⟩ := (er0.2 j _ hj).ownAt
    rw [he'] at q1
    cases q1
    cases d with
    | lst l => obtain ⟨vs, h1, _⟩ := ow; rw [hDn] at h1; cases h1
    | dic l => obtain ⟨vs, h1, _⟩ := ow; rw [hDn] at h1; cases h1
    | _ => exact ow.elim
  have plB : PotLe (sizeLine * (n1 + (n3 + sizeLine * (n4 + n2)))) H2 := stp.pot _ (pl.mono (by omega))
  generalize own.map (·.2) = ov at *
  generalize hc1 : n1 + (n3 + sizeLine * (n4 + n2)) = c1 at *
  refine compLoop2_out (hs1 ce) (fun k s' => ∃ i H' acc ys, 0 < s'.toks ∧ L2.Inv (X.blk s3 H3 scope ce fp) [] (wipe σ ov) H' s' ∧ tn i s'.heap ∧ (∀ b ∈ fp, H' b = none) ∧ k = ds.length - i ∧ i ≤ ds.length ∧ Step (i * c1) H2 H' ∧ H' D = some (.lst acc) ∧ Reps X.K H' acc ys ∧ ys.length ≤ i * B ∧
    flatW (turn2W p (wipeD δ ov) ft B fi1 p1 ft1 fe) (ds.drop i) fun r => Φ (ys ++ r)) ?_ ds.length ⟨0, H3, [], [], t4, I4, st4, nfp, rfl, Nat.zero_le _, by rw [Nat.zero_mul]; exact stH3, eD, by rw [Reps]; trivial, Nat.zero_le _, q⟩
  rintro k s5 ⟨i, H5, acc, ys, t5, I5, st5, n5, rfl, hik, sp5, hD5, ra5, hy5, q5⟩
  by_cases hlt : i < ds.length
  · have hx : ds[i]? = some ds[i] := List.getElem?_eq_getElem hlt
    have e0 : ds.drop i = ds[i] :: ds.drop (i + 1) := List.drop_eq_getElem_cons hlt
    rw [e0] at q5
    have ti := T.item (X.blk s3 H3 scope ce fp) rfl rfl rfl hc i [] s5 _ H5 (fun _ _ => False) I5 (blk_fp I5 n5) st5 (wk.go H5 i (EXr.of sp5.ext) hlt)
    refine thnF (tkF (X := X) t5 ti) fun r s6 ⟨t6, u, hr, h6⟩ => ?_
    subst hr
    refine thnF (tkF (X := X) t6 h6) fun _ s7 ⟨t7, x, H7, I7, r7, y7, st7, n7⟩ => ?_
    obtain ⟨sp7, yr⟩ := wk.yld H5 i x H7 _ (EXr.of sp5.ext) hx y7
    have I7' := I7.pinned (blk_fp I7 n7) (T.obj _ _ st7)
    have sp7' : Step (i * c1) H2 H7 := (sp5.trans sp7).mono (by omega)
    have q5 : turn2W p (wipeD δ ov) ft B fi1 p1 ft1 fe ds[i] _ := q5
    unfold turn2W at q5
    refine thnF (tg_run hz pg t7 I7' (er0.ext sp7'.ext) r7 yr q5) fun _ s8 ⟨t8, σ8, δ8, I8, er8, q8, k8⟩ => ?_
    have hle : (i + 1) * c1 ≤ sizeLine * c1 := Nat.mul_le_mul_right _ (by omega)
    rw [Nat.succ_mul] at hle
    refine thnF (pt _ _ s8 σ8 H7 δ8 (n3 + sizeLine * (n4 + n2)) _ t8 I8 er8 (sp7'.pot _ (plB.mono (by omega))) q8) fun b s9 ⟨t9, H9, I9, sp9, q9⟩ => ?_
    have wst : wipe σ8 ov = wipe σ ov := by
      rw [k8.2 ov hv, wipe_wipe]
    have hmb : (i + 1) * B ≤ big := Nat.le_trans (Nat.mul_le_mul_right _ hlt) hB
    rw [Nat.succ_mul] at hmb
    -- the turn's end
    have fin : ∀ {σ9 : L2.St} {s' : Shared} {H' : Hp} {acc' : List V} {ys' : List Dat}, 0 < s'.toks → L2.Inv (X.blk s3 H3 scope ce fp) ([] ++ pinsAt fp s7.heap) σ9 H' s' → (wipe σ ov).length = σ9.length → (∀ (j : Nat) v, (wipe σ ov)[j]? = some (some v) → σ9[j]? = some (some v)) →
        Step ((i + 1) * c1) H2 H' → H' D = some (.lst acc') → Reps X.K H' acc' ys' → ys'.length ≤ (i + 1) * B → flatW (turn2W p (wipeD δ ov) ft B fi1 p1 ft1 fe) (ds.drop (i + 1)) (fun r => Φ (ys' ++ r)) →
        ∃ m, m < ds.length - i ∧ ∃ i H' acc ys, 0 < s'.toks ∧ L2.Inv (X.blk s3 H3 scope ce fp) [] (wipe σ ov) H' s' ∧ tn i s'.heap ∧ (∀ b ∈ fp, H' b = none) ∧ m = ds.length - i ∧ i ≤ ds.length ∧ Step (i * c1) H2 H' ∧ H' D = some (.lst acc) ∧ Reps X.K H' acc ys ∧ ys.length ≤ i * B ∧
          flatW (turn2W p (wipeD δ ov) ft B fi1 p1 ft1 fe) (ds.drop i) fun r => Φ (ys ++ r) := fun {σ9 s' H' acc' ys'} t' I' hl hk sp' hD' ra' hy' q' => by
      have ⟨u1, u2, u3⟩ := unpin T st7 I' hl hk
      exact ⟨_, Nat.sub_succ_lt_self _ _ hlt, i + 1, H', acc', ys', t', u1, u2, u3, rfl, hlt, sp', hD', ra', hy', q'⟩
    obtain ⟨hl8, hk8, hk9⟩ := under_wipe wst hv1
    cases b with
    | false =>
      simp only [Bool.false_eq_true, if_false] at q9 ⊢
      have e9 := sp7.ext.trans sp9.ext
      exact fin t9 I9 hl8 hk8 ((sp7'.trans sp9).mono (by rw [Nat.succ_mul]; omega)) (e9.keep hD5 fun _ q => nomatch q) (Reps.ext e9 _ _ ra5) (by rw [Nat.succ_mul]; omega) q9
    | true =>
      simp only [if_true] at q9 ⊢
      have sp9' : Step (i * c1 + n1) H2 H9 := sp7'.trans sp9
      refine thnF (pi1 _ _ s9 σ8 H9 δ8 (sizeLine * (n4 + n2)) (fun x => ∃ ds1, iterD x = some ds1 ∧ ds1.length ≤ B ∧ mapW (turnW p1 (wipeD δ8 (varsP p1)) ft1 fe) ds1 fun zs => flatW (turn2W p (wipeD δ ov) ft B fi1 p1 ft1 fe) (ds.drop (i + 1)) fun ys_1 => Φ (ys ++ (zs ++ ys_1))) t9 I9 (er8.ext sp9.ext) (sp9'.pot _ (plB.mono (by omega))) (mfi1 δ8 _ _ (fun x ⟨ds1, q1, q2⟩ => ⟨⟨ds1, q1⟩, ds1, q1, q2⟩) q9)) fun xv s10 hx => thnF hx fun itv s11 h11 => ?_
      obtain ⟨t11, it1, fp1, tn1, J1, H11, dx1, ds1, e1, I11, T1, st11, f11, sp11, wk1, hlen1, hds1, ds1', hds1', hB1, q11⟩ := h11
      rw [hds1] at hds1'
      cases hds1'
      subst e1
      have e11 := (sp7.ext.trans sp9.ext).trans sp11.ext
      have sp11' : Step (i * c1 + n1 + n3) H2 H11 := sp9'.trans sp11
      have hD11 : H11 D = some (.lst acc) := e11.keep hD5 fun _ q => nomatch q
      have ra11 := Reps.ext e11 _ _ ra5
      have er11 : EnvRep X.K (wipe σ8 (varsP p1)) H11 (wipeD δ8 (varsP p1)) := ((er8.ext sp9.ext).ext sp11.ext).wipe _
      have ap11 : ∀ (j : Nat) (d : Dat), (wipeD δ8 (varsP p1))[j]? = some (Slot.own d) → (wipe σ8 (varsP p1))[j]? ≠ some (some (.ref D)) := fun j d hj he' => by
        have h8 : δ8[j]? = some (Slot.own d) := by
          rw [wipeD_get] at hj
          split at hj
          · cases hj
          · exact hj
        obtain ⟨h80, h81⟩ := k8.1 j d h8
        refine ap0 j d h80 ?_
        rw [← h81]
        exact (wipe_some he').1
      generalize hvs : varsP p1 = vs1 at *
      have stat1 : ∀ {H' : Hp}, (∀ b ∈ fp1, H' b = none) → ∀ b ∈ fp1, FpOk (X.blk s3 H3 scope ce fp) ([] ++ pinsAt fp s7.heap) H' b := fun hn b hb => ⟨hn b hb, (f11 b hb).2⟩
      have c1le : i * c1 + n1 + n3 + sizeLine * (n4 + n2) ≤ sizeLine * c1 := by omega
      have loop1 : codeAny (model X.prog X.w) X.A (.compLoop (.ListComp elt [⟨tg, iter, ifs, 0⟩, ⟨tg1, iter1, ifs1, 0⟩] scope pos) 1 (.ref it1) (.ref D) ce)
          (fun r s' => match r with
            | .ok _ => ∃ m, m < ds.length - i ∧ ∃ i H' acc ys, 0 < s'.toks ∧ L2.Inv (X.blk s3 H3 scope ce fp) [] (wipe σ ov) H' s' ∧ tn i s'.heap ∧ (∀ b ∈ fp, H' b = none) ∧ m = ds.length - i ∧ i ≤ ds.length ∧ Step (i * c1) H2 H' ∧ H' D = some (.lst acc) ∧ Reps X.K H' acc ys ∧ ys.length ≤ i * B ∧
          flatW (turn2W p (wipeD δ ov) ft B fi1 p1 ft1 fe) (ds.drop i) fun r => Φ (ys ++ r)
            | .error _ => False) s11 := by
        refine compLoop2_in (fun k s' => ∃ j H' acc1 ys1, 0 < s'.toks ∧ L2.Inv (X.blk s3 H3 scope ce fp) ([] ++ pinsAt fp s7.heap) (wipe σ8 vs1) H' s' ∧ tn1 j s'.heap ∧ (∀ b ∈ fp1, H' b = none) ∧ k = ds1.length - j ∧ j ≤ ds1.length ∧ Step (i * c1 + n1 + n3 + j * (n4 + n2)) H2 H' ∧ ExtS H11 H' ∧ EnvRep X.K (wipe σ8 vs1) H' (wipeD δ8 vs1) ∧ H' D = some (.lst acc1) ∧ Reps X.K H' acc1 ys1 ∧ ys1.length ≤ i * B + j ∧
          mapW (turnW p1 (wipeD δ8 vs1) ft1 fe) (ds1.drop j) fun zs => flatW (turn2W p (wipeD δ ov) ft B fi1 p1 ft1 fe) (ds.drop (i + 1)) fun r => Φ (ys1 ++ (zs ++ r))) ?_ ds1.length
          ⟨0, H11, acc, ys, t11, I11.weak (wipe_length _ _) (fun j v e => (wipe_some e).1), st11, fun b hb => (f11 b hb).1, rfl, Nat.zero_le _, by rw [Nat.zero_mul]; exact sp11', ExtS.refl _, er11, hD11, ra11, by omega, q11⟩
        rintro k s12 ⟨j, H12, acc1, ys1, t12, I12, st12, n12, rfl, hjk, sp12, ex12, er12, hD12, ra12, hy12, q12⟩
        by_cases hlt1 : j < ds1.length
        · have hx1 : ds1[j]? = some ds1[j] := List.getElem?_eq_getElem hlt1
          have e01 : ds1.drop j = ds1[j] :: ds1.drop (j + 1) := List.drop_eq_getElem_cons hlt1
          rw [e01] at q12
          refine thnF (tkF (X := X) t12 (T1.item (X.blk s3 H3 scope ce fp) rfl rfl rfl hc j _ s12 (wipe σ8 vs1) H12 (fun _ _ => False) I12 (stat1 n12) st12 (wk1.go H12 j ex12 hlt1))) fun r s13 ⟨t13, u1, hr, h13⟩ => ?_
          subst hr
          refine thnF (tkF (X := X) t13 h13) fun _ s14 ⟨t14, x1, H14, I14, r14, y14, st14, n14⟩ => ?_
          obtain ⟨sp14, yr1⟩ := wk1.yld H12 j x1 H14 _ ex12 hx1 y14
          have I14' := I14.pinned (stat1 n14) (T1.obj _ _ st14)
          have sp14' : Step (i * c1 + n1 + n3 + j * (n4 + n2)) H2 H14 := (sp12.trans sp14).mono (by omega)
          have q12 : turnW p1 (wipeD δ8 vs1) ft1 fe ds1[j] _ := q12
          unfold turnW at q12
          refine thnF (tg_run hz1 pg1 t14 I14' (er12.ext sp14.ext) r14 yr1 q12) fun _ s15 ⟨t15, σ15, δ15, I15, er15, q15, k15⟩ => ?_
          have hle1 : (j + 1) * (n4 + n2) ≤ sizeLine * (n4 + n2) := Nat.mul_le_mul_right _ (by omega)
          rw [Nat.succ_mul] at hle1
          refine thnF (pt1 _ _ s15 σ15 H14 δ15 (n2 + 0) _ t15 I15 er15 (sp14'.pot _ (plB.mono (by omega))) q15) fun b1 s16 ⟨t16, H16, I16, sp16, q16⟩ => ?_
          have hw15 : wipe σ15 vs1 = wipe σ8 vs1 := by rw [k15.2 vs1 (by rw [hvs]; exact fun _ h => h), wipe_wipe]
          have sp16' : Step (i * c1 + n1 + n3 + j * (n4 + n2) + n4) H2 H16 := sp14'.trans sp16
          have e16 := sp14.ext.trans sp16.ext
          have fin1 : ∀ {s' : Shared} {H' : Hp} {acc' : List V} {ys' : List Dat}, 0 < s'.toks → L2.Inv (X.blk s3 H3 scope ce fp) (([] ++ pinsAt fp s7.heap) ++ pinsAt fp1 s14.heap) σ15 H' s' → Step (i * c1 + n1 + n3 + (j + 1) * (n4 + n2)) H2 H' → ExtS H11 H' → EnvRep X.K (wipe σ8 vs1) H' (wipeD δ8 vs1) → H' D = some (.lst acc') → Reps X.K H' acc' ys' → ys'.length ≤ i * B + (j + 1) →
              (mapW (turnW p1 (wipeD δ8 vs1) ft1 fe) (ds1.drop (j + 1)) fun zs => flatW (turn2W p (wipeD δ ov) ft B fi1 p1 ft1 fe) (ds.drop (i + 1)) fun r => Φ (ys' ++ (zs ++ r))) →
              ∃ m, m < ds1.length - j ∧ ∃ j H' acc1 ys1, 0 < s'.toks ∧ L2.Inv (X.blk s3 H3 scope ce fp) ([] ++ pinsAt fp s7.heap) (wipe σ8 vs1) H' s' ∧ tn1 j s'.heap ∧ (∀ b ∈ fp1, H' b = none) ∧ m = ds1.length - j ∧ j ≤ ds1.length ∧ Step (i * c1 + n1 + n3 + j * (n4 + n2)) H2 H' ∧ ExtS H11 H' ∧ EnvRep X.K (wipe σ8 vs1) H' (wipeD δ8 vs1) ∧ H' D = some (.lst acc1) ∧ Reps X.K H' acc1 ys1 ∧ ys1.length ≤ i * B + j ∧
                mapW (turnW p1 (wipeD δ8 vs1) ft1 fe) (ds1.drop j) fun zs => flatW (turn2W p (wipeD δ ov) ft B fi1 p1 ft1 fe) (ds.drop (i + 1)) fun r => Φ (ys1 ++ (zs ++ r)) := fun {s' H' acc' ys'} t' I' sp' ex' er' hD' ra' hy' q' => by
            have ⟨u1, u2, u3⟩ := unpin (σ' := wipe σ8 vs1) T1 st14 I' (by rw [← hw15, wipe_length]) fun j v e => (wipe_some (by rw [hw15]; exact e)).1
            exact ⟨_, Nat.sub_succ_lt_self _ _ hlt1, j + 1, H', acc', ys', t', u1, u2, u3, rfl, hlt1, sp', ex', er', hD', ra', hy', q'⟩
          cases b1 with
          | false =>
            simp only [Bool.false_eq_true, if_false] at q16 ⊢
            exact fin1 t16 I16 (sp16'.mono (by rw [Nat.succ_mul]; omega)) (ex12.trans (.of e16)) (er12.ext e16) (e16.keep hD12 fun _ q => nomatch q) (Reps.ext e16 _ _ ra12) (by omega) q16
          | true =>
            simp only [if_true] at q16 ⊢
            refine thnF (pe _ _ s16 σ15 H16 δ15 0 _ t16 I16 (er15.ext sp16.ext) (sp16'.pot _ (plB.mono (by omega))) q16) fun zv s17 ⟨t17, yv, H17, dy, I17, r17, sp17, b17, q17⟩ => ?_
            have e17 := e16.trans sp17.ext
            have hD17 : H17 D = some (.lst acc1) := e17.keep hD12 fun _ q => nomatch q
            have ra17 := Reps.ext e17 _ _ ra12
            have hz17 : acc1.length < sizeLine := by
              have hbs : big = sizeLine := by decide
              rw [ra12.length]; omega
            have b17 : Rep X.K H17 yv dy := b17
            refine px_of (X := X) t17 (app_ok (X := X.blk s3 H3 scope ce fp) (Q := fun _ s18 => L2.Inv (X.blk s3 H3 scope ce fp) (([] ++ pinsAt fp s7.heap) ++ pinsAt fp1 s14.heap) σ15 (upd H17 D (.lst (acc1 ++ [yv]))) s18) I17 hD17 hz17 r17 fun s18 I18 => I18) fun _ s18 t18 I18 => ?_
            refine fin1 (ys' := ys1 ++ [dy]) t18 I18 (((sp16'.trans sp17).mono (by rw [Nat.succ_mul]; omega)).wrote hDn) ((ex12.trans (.of e17)).wr hD17) ((er12.ext e17).wr hD17 ap11 _) upd_same (Reps.wr (.inl ⟨_, rfl⟩) _ hD17 _ _ (ra17.snoc b17)) (by simp; omega) ?_
            have q17 : mapW (turnW p1 (wipeD δ8 vs1) ft1 fe) (ds1.drop (j + 1)) (fun zs => flatW (turn2W p (wipeD δ ov) ft B fi1 p1 ft1 fe) (ds.drop (i + 1)) fun r => Φ (ys1 ++ ((dy :: zs) ++ r))) := q17
            simpa using q17
        · have ei : j = ds1.length := by omega
          subst ei
          refine thnF (tkF (X := X) t12 (T1.done (X.blk s3 H3 scope ce fp) rfl rfl rfl hc ds1.length _ s12 (wipe σ8 vs1) H12 (fun _ _ => False) I12 (stat1 n12) st12 (wk1.stop H12 ex12))) fun r s13 ⟨t13, hr, I13⟩ => ?_
          subst hr
          rw [List.drop_length] at q12
          have q12 : flatW (turn2W p (wipeD δ ov) ft B fi1 p1 ft1 fe) (ds.drop (i + 1)) (fun r => Φ (ys1 ++ ([] ++ r))) := q12
          have hm1 : ds1.length * (n4 + n2) ≤ sizeLine * (n4 + n2) := Nat.mul_le_mul_right _ hlen1
          exact fin t13 I13 (hl8.trans (wipe_length σ8 vs1).symm) hk9 (sp12.mono (by rw [Nat.succ_mul]; omega)) hD12 ra12 (by rw [Nat.succ_mul]; omega) q12
      exact compStart1_ok loop1 (T1.self X.A 0 _ _ _ st11 loop1)
  · have ei : i = ds.length := by omega
    subst ei
    have td := T.done (X.blk s3 H3 scope ce fp) rfl rfl rfl hc ds.length [] s5 _ H5 (fun _ _ => False) I5 (blk_fp I5 n5) st5 (wk.stop H5 (EXr.of sp5.ext))
    refine thnF (tkF (X := X) t5 td) fun r s6 ⟨t6, hr, I6⟩ => ?_
    subst hr
    obtain ⟨I7, fC, m', hn⟩ := c.back I6
    rw [List.drop_length] at q5
    have q5 : Φ (ys ++ []) := q5
    rw [List.append_nil] at q5
    have hmul : ds.length * c1 ≤ sizeLine * c1 := Nat.mul_le_mul_right _ hlen
    have hbs : big = sizeLine := by decide
    exact hRR D ce.locals s6 m' H5 ys t6 I7 ((stp.trans sp5).mono (by omega)) (stp.ext.none hDn) ⟨acc, hD5, by omega, ra5⟩ q5 hn fC
end
end SF

/-! D5f: own dicts whose keys are texts. -/
namespace SF
open PySem PySem.Spec PyProof.Rows L2
section
variable {X : Cx} {e ix : Expr} {n n' : Nat} {fe fx : Env → (Dat → Prop) → Prop} {pos px spos : Pos} {i : Nat} {x : Str}
/-- {} -/
theorem qe_dnew : QE X (.Dict [] [] pos) 0 (ROw X.K) (fun _ Q => Q (.dic [])) := fun E pins s σ H δ m Φ ht I er pl hf => by
  refine px_of (X := X) ht ((pe_dnewK (X := X.wish E)).run pins s σ H (fun v H' => ∃ p, v = .ref p ∧ H p = none ∧ H' = L2.upd H p (.dK [])) (I.wish E) fun p hp => ⟨p, rfl, hp, rfl⟩) fun u s' t ⟨v, H', I', r, p, e1, hp, e2⟩ => ?_
  subst e1 e2
  exact ⟨t, .ref p, _, .dic [], I'.unwish, r, (Step.refl H).put hp (fun _ q => nomatch q), .inl ⟨p, rfl, hp, [], upd_same, Nat.zero_le _, by rw [RepKv]; trivial⟩, hf⟩
/-- d[k] = e -/
theorem q1_stoD (hu : X.A.units + 2 < cLine) (hN : X.N[i]? = some x) (hv : Vis X.env.scope x) (hd : (x == ("__debug__" : Str)) = false) (hcd : (x == ("__classdict__" : Str)) = false) (he : QE X e n (RV X.K) fe) (hx : QE X ix n' (RV X.K) fx) (hsw : swapsWithSole [.Subscript (.Name x px) ix spos] e pos.line X.env = pure false) (hw : swappedStores [.Subscript (.Name x px) ix spos] e X.env = pure none)
    (h1 : (assignEach [.Subscript (.Name x px) ix spos] X.env).map (·.2) = [assign (.Subscript (.Name x px) ix spos) X.env])
    (ha : ∀ v, assign (.Subscript (.Name x px) ix spos) X.env v = (do
      let ov ← holding [v] (eval (.Name x px) X.env)
      let iv ← holding [v, ov] (eval ix X.env)
      standAt spos
      holding [v, ov, iv] (setItem ov iv v)
      release [v, ov, iv] [])) :
    Q1 X (.Assign [.Subscript (.Name x px) ix spos] e pos) (n + n') (fun δ D => fe δ fun d => getO δ i fun x => ∃ l, x = .dic l ∧ fx δ fun k => ∃ t, k = .str t ∧ l.length < big ∧ D.nx (δ.set i (.own (.dic (putD l t d))))) := fun E hp pins s σ H0 H δ m D t I es ex pl hf => by
  refine wpAny_Assign_stores (thn (he E pins s σ H δ (n' + m) _ t I es.rep (pl.mono (by omega)) hf) fun v s1 ⟨t1, y, H1, d, I1, r1, st1, b1, q1⟩ => ?_) hsw hw
  rw [h1]
  show wpAny _ _ (assign (.Subscript (.Name x px) ix spos) X.env v) _ _ _
  have q1 : getO δ i _ := q1
  unfold getO at q1
  split at q1
  · rename_i dd hi
    obtain ⟨l, rfl, q1⟩ := q1
    have es1 := es.ext st1.ext
    obtain ⟨a, kvs, hσ, hk, hz, hr, h0⟩ := es1.dicAt hi
    rw [ha]
    refine wpAny_bind (wpAny_holding (name_ref hN hv hd hcd I1 hσ ?_))
    refine wpAny_bind (wpAny_holding (thn (hx E pins s1 σ H1 δ m _ t1 I1 es1.rep (st1.pot _ (pl.mono (by omega))) q1) fun iv s2 ⟨t2, y2, H2, d2, I2, r2, st2, b2, tx, e2, hl, q2⟩ => ?_))
    subst e2
    have b2 : Rep X.K H2 y2 (.str tx) := b2
    rw [Rep] at b2
    obtain ⟨rfl, _⟩ := b2
    have hk2 : H2 a = some (.dK kvs) := st2.ext.keep hk fun _ q => nomatch q
    have hr2 := RepKv.ext st2.ext _ _ hr
    have b1' : Rep X.K H2 y d := Rep.ext st2.ext _ _ b1
    have ss := (StepS.of ex st1).trans (StepS.of (ex.trans st1.ext) st2)
    have len := hr2.length
    have hb : big = 16777216 := rfl
    have nk := hr2.put (s := tx) b1'
    have nk2 := RepKv.length nk
    have bd := length_putK kvs (.inr (⟨tx.toArray⟩ : Str)) y
    refine wpAny_bind (wpAny_standAt (wpAny_bind (wpAny_holding (px_of (X := X) t2 (d_setItem (Q := fun _ s3 => L2.Inv X pins σ (L2.upd H2 a (.dK (putK kvs (.inr ⟨tx.toArray⟩) y))) s3) (by omega) I2 (DPut.k (k := .inr ⟨tx.toArray⟩) hk2 (by rw [sizeLine_eq]; omega)) r2 r1 fun s3 I3 => I3) fun _ s3 t3 I3 => ?_))))
    exact wpAny_release ⟨t3, σ, _, _, I3, (es1.ext st2.ext).wrD hi hσ hk2 (by rw [← nk2, sizeLine_eq]; omega) nk, (ss.trans (StepS.put (o := .dK _) (.inr ⟨_, rfl⟩) ss.ext hk2 h0 fun _ q => nomatch q)).mono (by omega), q2⟩
  · exact q1.elim
/-- d[l.pop(k)] = e -/
theorem q1_stp {j : Nat} {y : Str} {py apos cpos : Pos} (hu : X.A.units + 2 < cLine) (hN : X.N[i]? = some x) (hv : Vis X.env.scope x) (hd : (x == ("__debug__" : Str)) = false) (hcd : (x == ("__classdict__" : Str)) = false) (hN' : X.N[j]? = some y) (hv' : Vis X.env.scope y) (hd' : (y == ("__debug__" : Str)) = false) (hcd' : (y == ("__classdict__" : Str)) = false)
    (he : QE X e n (RV X.K) fe) (hx : QE X ix n' (RV X.K) fx) (hbase : attributeBase (.Name y py) "pop" X.env (eval (.Name y py) X.env) = eval (.Name y py) X.env)
    (hfew : ((backTo cpos (starEach [ix] X.env)).all (fun x => !x.1) && (backToKw cpos (keywordEach [] X.env)).all (fun x => x.1.isSome)
      && decide ([ix].length + ([] : List Keyword).length + (if ([] : List Keyword).isEmpty then 0 else 1) < 30)) = true) (hline : (apos.endLine == cpos.line) = true) (hs : starEach [ix] X.env = [(false, eval ix X.env)])
    (hsw : swapsWithSole [.Subscript (.Name x px) (.Call (.Attribute (.Name y py) "pop" apos) [ix] [] cpos) spos] e pos.line X.env = pure false) (hw : swappedStores [.Subscript (.Name x px) (.Call (.Attribute (.Name y py) "pop" apos) [ix] [] cpos) spos] e X.env = pure none)
    (h1 : (assignEach [.Subscript (.Name x px) (.Call (.Attribute (.Name y py) "pop" apos) [ix] [] cpos) spos] X.env).map (·.2) = [assign (.Subscript (.Name x px) (.Call (.Attribute (.Name y py) "pop" apos) [ix] [] cpos) spos) X.env])
    (ha : ∀ v, assign (.Subscript (.Name x px) (.Call (.Attribute (.Name y py) "pop" apos) [ix] [] cpos) spos) X.env v = (do
      let ov ← holding [v] (eval (.Name x px) X.env)
      let iv ← holding [v, ov] (eval (.Call (.Attribute (.Name y py) "pop" apos) [ix] [] cpos) X.env)
      standAt spos
      holding [v, ov, iv] (setItem ov iv v)
      release [v, ov, iv] [])) :
    Q1 X (.Assign [.Subscript (.Name x px) (.Call (.Attribute (.Name y py) "pop" apos) [ix] [] cpos) spos] e pos) (n + n') (fun δ D => fe δ fun d => getO δ i fun x => ∃ l, x = .dic l ∧ getO δ j fun z => ∃ m, z = .lst m ∧ fx δ fun k => ∃ q a t, k = .int q ∧ ixN m.length q = some a ∧ m[a]? = some (.str t) ∧ l.length < big ∧
      D.nx ((δ.set j (.own (.lst (m.eraseIdx a)))).set i (.own (.dic (putD l t d))))) := fun E hp pins s σ H0 H δ m D t I es ex pl hf => by
  refine wpAny_Assign_stores (thn (he E pins s σ H δ (n' + m) _ t I es.rep (pl.mono (by omega)) hf) fun v s1 ⟨t1, yv, H1, d, I1, r1, st1, b1, q1⟩ => ?_) hsw hw
  rw [h1]
  show wpAny _ _ (assign (.Subscript (.Name x px) (.Call (.Attribute (.Name y py) "pop" apos) [ix] [] cpos) spos) X.env v) _ _ _
  have q1 : getO δ i _ := q1
  unfold getO at q1
  split at q1
  · rename_i dd hi
    obtain ⟨l, rfl, q1⟩ := q1
    split at q1
    · rename_i dd hj
      obtain ⟨ml, rfl, q1⟩ := q1
      have es1 := es.ext st1.ext
      obtain ⟨a, kvs, hσ, hk, hz, hr, h0⟩ := es1.dicAt hi
      obtain ⟨b, xs, hσ', hxs, hz', hr', h0'⟩ := es1.ownAt hj
      have nij : j ≠ i := fun e => by subst e; rw [hi] at hj; cases hj
      rw [ha]
      refine wpAny_bind (wpAny_holding (name_ref hN hv hd hcd I1 hσ ?_))
      refine wpAny_bind (wpAny_holding (wpAny_Call_method_late hbase hfew hline rfl (name_ref hN' hv' hd' hcd' I1 hσ' ?_)))
      obtain ⟨_, its, k, _, q⟩ := I1.hok b _ hxs
      refine ⟨"list", "list.pop", PySem.F.plainAttrs_list, PySem.F.slot_list_pop, PySem.F.type_list_pop, ⟨_, q, rfl⟩, fun b e => (Value.ref.inj e) ▸ ⟨_, q, rfl⟩, ?_⟩
      rw [hs]
      refine Calls.callWith_builtin rfl (Calls.evalArgs_plain (Calls.spliced_cons (thn (hx E pins s1 σ H1 δ m _ t1 I1 es1.rep (st1.pot _ (pl.mono (by omega))) q1) fun iv s2 ⟨t2, y2, H2, d2, I2, r2, st2, b2, qi, na, tx, e2, hix, hget, hl, q2⟩ => Calls.spliced_nil ?_)))
      subst e2
      have b2 : Rep X.K H2 y2 (.int qi) := b2
      rw [Rep] at b2
      subst b2
      have hk2 : H2 a = some (.dK kvs) := st2.ext.keep hk fun _ q => nomatch q
      have hx2 : H2 b = some (.lst xs) := st2.ext.keep hxs fun _ q => nomatch q
      have hr2 := RepKv.ext st2.ext _ _ hr
      have hr2' := Reps.ext st2.ext _ _ hr'
      have b1' : Rep X.K H2 yv d := Rep.ext st2.ext _ _ b1
      have ss := (StepS.of ex st1).trans (StepS.of (ex.trans st1.ext) st2)
      have hlx : xs.length = ml.length := hr2'.length
      obtain ⟨k1, k2, k3, k4⟩ := ixN_seq hix
      obtain ⟨kv, hkv, rkv⟩ := hr2'.get hget
      rw [Rep] at rkv
      obtain ⟨rfl, _⟩ := rkv
      have hzl : ml.length ≤ 16777216 := hz'
      have nab : a ≠ b := fun e => by subst e; rw [hk2] at hx2; cases hx2
      refine px_of (X := X) t2 (mt_popAt (X := X.wish E) pins s2 σ H2 (.ref b) [.int qi] (.ref b) [iv] (fun w H' => w = V.str ⟨tx.toArray⟩ ∧ H' = upd H2 b (.lst (xs.eraseIdx na))) (I2.wish E) rfl (.cons r2 .nil) ⟨b, xs, qi, na, _, rfl, rfl, hx2, by omega, by omega, by rw [hlx]; exact k1, hkv, rfl, rfl⟩) fun w s3 t3 ⟨v3, H3, I3, r3, e3, e4⟩ => ?_
      subst e3 e4
      have es3 := (es1.ext st2.ext).wr hj hσ' hx2 (Nat.le_trans (by rw [List.length_eraseIdx]; split <;> omega) hz') (hr2'.erase na)
      have ss3 := ss.trans (StepS.wr (o := .lst (xs.eraseIdx na)) ss.ext hx2 h0' fun _ q => nomatch q)
      have hk3 : (upd H2 b (.lst (xs.eraseIdx na))) a = some (.dK kvs) := by rw [upd_ne nab]; exact hk2
      have hr3 := RepKv.wr (.inl ⟨_, rfl⟩) (.lst (xs.eraseIdx na)) hx2 _ _ hr2
      have b3 : Rep X.K (upd H2 b (.lst (xs.eraseIdx na))) yv d := Rep.wr (.inl ⟨_, rfl⟩) _ hx2 _ _ b1'
      have hi3 : (δ.set j (.own (.lst (ml.eraseIdx na))))[i]? = some (Slot.own (.dic l)) := by rw [List.getElem?_set_ne nij]; exact hi
      have len := hr3.length
      have hb : big = 16777216 := rfl
      have nk := hr3.put (s := tx) b3
      have nk2 := RepKv.length nk
      have bd := length_putK kvs (.inr (⟨tx.toArray⟩ : Str)) yv
      refine wpAny_bind (wpAny_standAt (wpAny_bind (wpAny_holding (px_of (X := X) t3 (d_setItem (Q := fun _ s4 => L2.Inv X pins σ (L2.upd (upd H2 b (.lst (xs.eraseIdx na))) a (.dK (putK kvs (.inr ⟨tx.toArray⟩) yv))) s4) (by omega) I3.unwish (DPut.k (k := .inr ⟨tx.toArray⟩) hk3 (by rw [sizeLine_eq]; omega)) r3 r1 fun s4 I4 => I4) fun _ s4 t4 I4 => ?_))))
      exact wpAny_release ⟨t4, σ, _, _, I4, es3.wrD hi3 hσ hk3 (by rw [← nk2, sizeLine_eq]; omega) nk, (ss3.trans (StepS.put (o := .dK _) (.inr ⟨_, rfl⟩) ss3.ext hk3 h0 fun _ q => nomatch q)).mono (by omega), q2⟩
    · exact q1.elim
  · exact q1.elim
end
end SF

/-! D5g: several names at once, some of them cells, some with things of their own. -/
namespace SF
open PySem PySem.Spec PyProof.Rows L2
theorem tgs_vars {K : PySem.W.Frag} {H : Hp} {Q : L2.St → Hp → Prop} : ∀ (is : List Nat) (vs : List V) (σ : L2.St), vs.length = is.length → Q (setAll σ is vs) H → tgPs K (is.map P.v) vs σ H Q
  | [], [], σ, _, q => ⟨rfl, q⟩
  | [], _ :: _, σ, h, _ => by simp at h
  | _ :: _, [], σ, h, _ => by simp at h
  | i :: is, v :: vs, σ, h, q => by
    rw [List.map_cons, tgPs, tgP]
    exact ⟨v, vs, rfl, tgs_vars is vs _ (by simpa using h) q⟩
section
variable {X : Cx} {es : List Expr} {os : List Bool} {n : Nat} {fs : Env → (List Dat → Prop) → Prop}
theorem q1_parC {is : List Nat} {ts : List Expr} {kt k2 : Nat} {pt pt2 pos : Pos} (hil : is.length = os.length) (hl : os.length ≤ 1000) (ht : TgOk X (.Tuple ts kt pt) (.t (is.map P.v))) (ha : QPar X es os n fs) (hw : swappedStores [.Tuple ts kt pt] (.Tuple es k2 pt2) X.env = pure none) (hs : swapsWithSole [.Tuple ts kt pt] (.Tuple es k2 pt2) pos.line X.env = pure false)
    (h1 : (assignEach [.Tuple ts kt pt] X.env).map (·.2) = [assign (.Tuple ts kt pt) X.env]) :
    Q1 X (.Assign [.Tuple ts kt pt] (.Tuple es k2 pt2) pos) n (fun δ D => fs δ fun ds => ((os.zip ds).all fun p => !p.1 || isBox p.2) = true ∧ D.nx (setPar os is ds δ)) := fun E hp pins s σ H0 H δ m D t I ess ex pl hf => by
  refine wpAny_Assign_stores (wpAny_Tuple_spliced (thn (ha _ E pins s σ H δ m _ t I ess.rep pl hf) fun us s1 ⟨t1, vs, H1, ds, I1, r1, st1, b1, hb, q1⟩ => ?_)) hs hw
  have hvl : vs.length = os.length := b1.len.1
  have hz : us.length ≤ sizeLine := by rw [← r1.length, hvl, sizeLine_eq]; omega
  refine ⟨hz, ?_⟩
  rw [h1]
  have hn : H1 s1.heap.objs.size = none := I1.hok.fresh (Nat.le_refl _)
  have I2 := Inv_tnew (t' := s1.toks) I1 r1 (by rw [r1.length]; exact hz)
  have st2 : Step 0 H1 (upd H1 s1.heap.objs.size (.frz { cls := .type "tuple", data := .seq us.toArray } (.tup vs))) := (Step.refl H1).put hn fun _ q => nomatch q
  refine px_of (X := X) (s := { s1 with heap := s1.heap.push { cls := .type "tuple", data := .seq us.toArray } }) t1 ((ht E).run pins _ σ _ (.ref s1.heap.objs.size) _ (fun σ' H' => H' = upd H1 s1.heap.objs.size (.frz { cls := .type "tuple", data := .seq us.toArray } (.tup vs)) ∧ σ' = setAll σ is vs) (I2.wish E) rfl ⟨_, vs, rfl, .inl (.inr ⟨_, upd_same⟩), by rw [List.length_map, hvl, hil], tgs_vars is vs σ (by rw [hvl, hil]) ⟨rfl, rfl⟩⟩) fun _ s3 t3 ⟨σ3, H3, I3, e3, e4⟩ => ?_
  subst e3 e4
  exact ⟨t3, _, _, _, I3.unwish, ((b1.ready ex ess hb).env hil (ess.ext st1.ext)).ext st2.ext, (StepS.of ex st1).trans (StepS.of (ex.trans st1.ext) st2), q1⟩
end
end SF

/-! D6a: defs: their promise, calls, bodies. -/
namespace SF
open PySem PySem.Spec PyProof.Rows L2

structure RoomG (k : Nat) (A : Around) : Prop where
  hd : A.handled = none
  dp : A.depth + 3 * k + 5 < recursionLimit
  un : A.units + 16 * k + 400 < cLine
  gu : A.guards = some []
theorem RoomG.mono {j k : Nat} {A : Around} (r : RoomG k A) (h : j ≤ k) : RoomG j A := ⟨r.hd, by have := r.dp; omega, by have := r.un; omega, r.gu⟩
theorem RoomG.deeper {k : Nat} {A : Around} (r : RoomG (k + 1) A) (env : PySem.Env) : RoomG k (A.deeper env) :=
  ⟨r.hd, by have := r.dp; show A.depth + 1 + 3 * k + 5 < _; omega, by have := r.un; show A.units + 3 + 16 * k + 400 < _; omega, r.gu⟩
theorem RoomG.hu {k : Nat} {A : Around} (r : RoomG k A) : A.units + 300 < cLine := by have := r.un; omega
theorem RoomG.depth {k : Nat} {A : Around} (r : RoomG k A) : A.depth < recursionLimit := by have := r.dp; omega

/-- a def's promise -/
structure FnG (P : Program) (w : World) (K : PySem.W.Frag) (mg : Str → Option Value) (base : Heap) (k : Nat) (f : Addr) (fd : FuncData) (ps : List Str) (n : Nat) (W : List Dat → (Dat → Prop) → Prop) : Prop where
  run : ∀ (A : Around) (outer : List PySem.Env) (s : Shared) (H : Hp) (args : Args) (us : List Value) (vs : List V) (ds : List Dat) (m : Nat) (Φ : Dat → Prop), RoomG k A → 0 < s.toks → Env0 P w K mg base A outer s H → BindsTo s fd args (ps.zip us) → L2.Vals vs us → vs.length = ps.length → Reps K H vs ds → PotLe (n + m) H → W ds Φ →
    codeAny (model P w) A (.call (.ref f) args) (fun r s' => ∃ u, r = .ok (.ret u) ∧ 0 < s'.toks ∧ CE outer P w H s (fun v H' => ∃ d, Step n H H' ∧ Rep K H' v d ∧ Φ d) u s') s
/-- how a call binds: np values by position, keywords named ks -/
def BindG (K : PySem.W.Frag) (fd : FuncData) (ps : List Str) (np : Nat) (ks : List Str) (sh : List Src) : Prop :=
  ∀ (s : Shared) (us ws : List Value), K.In s.heap → us.length = np → ws.length = ks.length → ∃ bs : List Value, BindsTo s fd ⟨us, ks.zip ws⟩ (ps.zip bs) ∧ bs.length = ps.length ∧
    ∀ (H : Hp) (vs zs : List V) (ds es : List Dat), L2.Vals vs us → L2.Vals zs ws → Reps K H vs ds → Reps K H zs es → ∃ ys, L2.Vals ys bs ∧ Reps K H ys (pickD sh ds es)

section
variable {X : Cx} {k : Nat} {f : Addr} {fd : FuncData} {ps ks : List Str} {n n' n'' : Nat} {W : List Dat → (Dat → Prop) → Prop} {x : Str} {p pos : Pos} {e : Expr} {es : List Expr} {kws : List Keyword} {fs fk : Env → (List Dat → Prop) → Prop} {sh : List Src}
/-- the keywords' values -/
def QK (X : Cx) (kws : List Keyword) (n : Nat) (f : Env → (List Dat → Prop) → Prop) : Prop :=
  ∀ (pos : Pos) (E : Value → Shared → Prop) (pins : List (Addr × Obj)) (s : Shared) (σ : L2.St) (H : Hp) (δ : Env) (m : Nat) (Φ : List Dat → Prop), 0 < s.toks → L2.Inv X pins σ H s → EnvRep X.K σ H δ → PotLe (n + m) H → f δ Φ →
    wpAny (model X.prog X.w) X.A (evalAll ((backToKw pos (keywordEach kws X.env)).map (·.2))) (PXs X pins σ n H (RLv X.K) Φ) E s
theorem qk_nil : QK X [] 0 (fun _ Q => Q []) := fun pos E pins s σ H δ m Φ ht I er pl hf => wpAny_evalAll_nil ⟨ht, [], H, [], I, .nil, Step.refl H, nilV H, hf⟩
theorem qk_cons {nm : Option Str} {kpos : Pos} {fa : Env → (Dat → Prop) → Prop} (ha : QE X e n (RV X.K) fa) (hr : QK X kws n' fk) : QK X (⟨nm, e, kpos⟩ :: kws) (n + n') (fun δ Q => fa δ fun d => fk δ fun ds => Q (d :: ds)) := fun pos E pins s σ H δ m Φ ht I er pl hf => by
  show wpAny _ _ (evalAll ((do let v ← eval e X.env; standAt pos; pure v) :: (backToKw pos (keywordEach kws X.env)).map (·.2))) _ _ s
  refine wpAny_evalAll_cons (wpAny_bind (thn (ha E pins s σ H δ (n' + m) _ ht I er (pl.mono (by omega)) hf) fun u s1 ⟨t1, x, H1, d, I1, r1, st1, b1, q1⟩ => wpAny_bind (wpAny_standAt (wpAny_pure ?_))))
  exact thn (hr pos E pins s1 σ H1 δ m _ t1 I1 (er.ext st1.ext) (st1.pot _ (pl.mono (by omega))) q1) fun us s2 ⟨t2, vs, H2, ds, I2, r2, st2, b2, q2⟩ => ⟨t2, x :: vs, H2, d :: ds, I2, .cons r1 r2, st1.trans st2, consV _ _ _ _ _ _ _ st2.ext b1 b2, q2⟩

theorem run_g {pins : List (Addr × Obj)} {σ : L2.St} {H0 H : Hp} {s : Shared} {us ws : List Value} {vs zs : List V} {ds es : List Dat} {Φ : Dat → Prop} {E : Value → Shared → Prop} {m : Nat} (F : FnG X.prog X.w X.K X.mg X.base k f fd ps n W) (hr : RoomG k X.A) (hb : BindG X.K fd ps us.length ks sh) (hks : ws.length = ks.length)
    (t : 0 < s.toks) (I : L2.Inv X pins σ H s) (r : L2.Vals vs us) (rz : L2.Vals zs ws) (b : Reps X.K H vs ds) (bz : Reps X.K H zs es) (st : Step n' H0 H) (pl : PotLe (n + m) H) (h : W (pickD sh ds es) Φ) :
    wpAny (model X.prog X.w) X.A (call (.ref f) us (ks.zip ws)) (PX X pins σ (n' + n) H0 (RV X.K) Φ) E s := by
  obtain ⟨bs, hB, hl, hv⟩ := hb s us ws I.kIn rfl hks
  obtain ⟨ys, ry, by_⟩ := hv H vs zs ds es r rz b bz
  refine wpAny_call (codeAny_mono (F.run X.A X.stack s H ⟨us, ks.zip ws⟩ bs ys _ m Φ hr t I.env0 hB ry (by rw [ry.length]; exact hl) by_ pl h) fun r s' ⟨u, e1, t', ce⟩ => ?_)
  subst e1
  obtain ⟨v, H', I', rv, d, st', rd, hq⟩ := I.after ce
  exact ⟨t', v, H', d, I', rv, st.trans st', rd, hq⟩
/-- f() -/
theorem qe_def0 (F : FnG X.prog X.w X.K X.mg X.base k f fd ps n W) (hr : RoomG k X.A) (hg : Gl X x) (hm : X.mg x = some (.ref f)) (hk : PySem.W.keepIn X.K (.ref f) = true) (hb : BindG X.K fd ps 0 [] sh) (hdb : (x == ("__debug__" : Str)) = false) :
    QE X (.Call (.Name x p) [] [] pos) n (RV X.K) (fun δ Q => W (pickD sh [] []) Q) := fun E pins s σ H δ m Φ ht I er pl hf => by
  refine wpAny_Call_Name_kw (ld_glob I hg hm ?_ hdb)
  exact PySem.W.callWith_K0 I.kIn hk (thn (run_g (us := []) (ws := []) (vs := []) (zs := []) (ds := []) (es := []) (m := m) F hr hb rfl ht I .nil .nil (nilV H) (nilV H) (Step.refl H) pl hf) fun u s' q => q.step (Step.refl H) (by omega) fun _ _ _ z => z)
/-- f(e, ..) -/
theorem qe_def1 (F : FnG X.prog X.w X.K X.mg X.base k f fd ps n W) (hr : RoomG k X.A) (hg : Gl X x) (hm : X.mg x = some (.ref f)) (hk : PySem.W.keepIn X.K (.ref f) = true) (hb : BindG X.K fd ps (e :: es).length [] sh) (hdb : (x == ("__debug__" : Str)) = false)
    (ha : QA X (e :: es) n' (RLv X.K) fs) (hle : ∀ δ Φ, fs δ Φ → fs δ fun ds => ds.length = (e :: es).length ∧ Φ ds) (he : starEach (e :: es) X.env = (false, eval e X.env) :: starEach es X.env) (hpl : (backTo pos (starEach es X.env)).any (·.1) = false) :
    QE X (.Call (.Name x p) (e :: es) [] pos) (n' + n) (RV X.K) (fun δ Q => fs δ fun ds => W (pickD sh ds []) Q) := fun E pins s σ H δ m Φ ht I er pl hf => by
  refine wpAny_Call_Name_kw (ld_glob I hg hm ?_ hdb)
  refine PySem.W.callWith_K (h₀ := X.base) I.ok.mod.kin hk (thn (ha pos E pins s σ H δ (n + m) _ ht I er (pl.mono (by omega)) (hle δ _ hf)) fun us s1 ⟨t1, vs, H1, ds, I1, r1, st1, b1, hl, q1⟩ => ⟨I1.kIn, ?_⟩) he hpl
  have hul : us.length = (e :: es).length := by rw [← r1.length, b1.length, hl]
  exact run_g (us := us) (ws := []) (zs := []) (es := []) (ks := []) (m := m) F hr (by rw [hul]; exact hb) rfl t1 I1 r1 .nil b1 (nilV H1) st1 (st1.pot _ (pl.mono (by omega))) q1
/-- f(k = v, ..) -/
theorem qe_defK0 (F : FnG X.prog X.w X.K X.mg X.base k f fd ps n W) (hr : RoomG k X.A) (hg : Gl X x) (hm : X.mg x = some (.ref f)) (hk : PySem.W.keepIn X.K (.ref f) = true) (hb : BindG X.K fd ps 0 ks sh) (hdb : (x == ("__debug__" : Str)) = false)
    (hkw : QK X kws n'' fk) (hall : (backToKw pos (keywordEach kws X.env)).all (·.1.isSome) = true) (hks : (backToKw pos (keywordEach kws X.env)).filterMap (·.1) = ks) (hlk : ∀ δ Φ, fk δ Φ → fk δ fun ds => ds.length = ks.length ∧ Φ ds)
    (hpl : ((backTo pos (starEach [] X.env)).any (·.1) || (backToKw pos (keywordEach kws X.env)).any (·.1.isNone)) = false) :
    QE X (.Call (.Name x p) [] kws pos) (n'' + n) (RV X.K) (fun δ Q => fk δ fun es => W (pickD sh [] es) Q) := fun E pins s σ H δ m Φ ht I er pl hf => by
  refine wpAny_Call_Name_kw (ld_glob I hg hm ?_ hdb)
  refine PySem.W.callWith_KW0 (h₀ := X.base) I.ok.mod.kin hk hall (thn (hkw pos E pins s σ H δ (n + m) _ ht I er (pl.mono (by omega)) (hlk δ _ hf)) fun ws s1 ⟨t1, zs, H1, es', I1, r1, st1, b1, hl, q1⟩ => ⟨I1.kIn, ?_⟩) hpl
  rw [hks]
  exact run_g (us := []) (ws := ws) (vs := []) (ds := []) (m := m) F hr hb (by rw [← r1.length, b1.length, hl]) t1 I1 .nil r1 (nilV H1) b1 st1 (st1.pot _ (pl.mono (by omega))) q1
/-- f(e, .., k = v, ..) -/
theorem qe_defK (F : FnG X.prog X.w X.K X.mg X.base k f fd ps n W) (hr : RoomG k X.A) (hg : Gl X x) (hm : X.mg x = some (.ref f)) (hk : PySem.W.keepIn X.K (.ref f) = true) (hb : BindG X.K fd ps (e :: es).length ks sh) (hdb : (x == ("__debug__" : Str)) = false)
    (ha : QA X (e :: es) n' (RLv X.K) fs) (hle : ∀ δ Φ, fs δ Φ → fs δ fun ds => ds.length = (e :: es).length ∧ Φ ds) (he : starEach (e :: es) X.env = (false, eval e X.env) :: starEach es X.env)
    (hkw : QK X kws n'' fk) (hall : (backToKw pos (keywordEach kws X.env)).all (·.1.isSome) = true) (hks : (backToKw pos (keywordEach kws X.env)).filterMap (·.1) = ks) (hlk : ∀ δ Φ, fk δ Φ → fk δ fun ds => ds.length = ks.length ∧ Φ ds)
    (hpl : ((backTo pos (starEach (e :: es) X.env)).any (·.1) || (backToKw pos (keywordEach kws X.env)).any (·.1.isNone)) = false) (mfs : ∀ δ, Mono (fs δ)) :
    QE X (.Call (.Name x p) (e :: es) kws pos) (n' + n'' + n) (RV X.K) (fun δ Q => fs δ fun ds => fk δ fun es => W (pickD sh ds es) Q) := fun E pins s σ H δ m Φ ht I er pl hf => by
  refine wpAny_Call_Name_kw (ld_glob I hg hm ?_ hdb)
  refine PySem.W.callWith_KW (h₀ := X.base) I.ok.mod.kin hk hall (thn (ha pos E pins s σ H δ (n'' + n + m) _ ht I er (pl.mono (by omega)) (hle δ _ hf)) fun us s1 ⟨t1, vs, H1, ds, I1, r1, st1, b1, hl, q1⟩ => ?_) hpl he
  refine thn (hkw pos E pins s1 σ H1 δ (n + m) _ t1 I1 (er.ext st1.ext) (st1.pot _ (pl.mono (by omega))) (hlk δ _ q1)) fun ws s2 ⟨t2, zs, H2, es', I2, r2, st2, b2, hl2, q2⟩ => ⟨I2.kIn, ?_⟩
  rw [hks]
  have hul : us.length = (e :: es).length := by rw [← r1.length, b1.length, hl]
  have st := st1.trans st2
  exact run_g (us := us) (ws := ws) (m := m) F hr (by rw [hul]; exact hb) (by rw [← r2.length, b2.length, hl2]) t2 I2 r1 r2 (Reps.ext st2.ext _ _ b1) b2 st (st.pot _ (pl.mono (by omega))) q2
end

/-! ### a def's body keeps its promise -/
theorem start_env {K : PySem.W.Frag} {H : Hp} {N : List Str} {vs : List V} {ds : List Dat} (h : Reps K H vs ds) (hl : vs.length ≤ N.length) : EnvRep K (L2.start N vs) H (startD N.length ds) := by
  have e := h.length
  refine ⟨by unfold L2.start startD; simp [e], fun i s q => ?_⟩
  unfold startD at q
  unfold L2.start
  by_cases lt : i < ds.length
  · rw [List.getElem?_append_left (by simpa using lt), List.getElem?_map] at q
    rw [List.getElem?_append_left (by simpa [e] using lt), List.getElem?_map]
    cases qd : ds[i]? with
    | none => rw [qd] at q; cases q
    | some d =>
      rw [qd] at q
      cases q
      obtain ⟨v, hv, hr⟩ := h.get qd
      rw [hv]
      exact hr
  · rw [List.getElem?_append_right (by simpa using lt), List.getElem?_replicate] at q
    split at q
    · cases q; trivial
    · cases q
theorem start_own {n : Nat} {ds : List Dat} {i : Nat} {d : Dat} : (startD n ds)[i]? ≠ some (Slot.own d) := fun q => by
  unfold startD at q
  by_cases lt : i < ds.length
  · rw [List.getElem?_append_left (by simpa using lt), List.getElem?_map] at q
    cases qd : ds[i]? <;> rw [qd] at q <;> cases q
  · rw [List.getElem?_append_right (by simpa using lt), List.getElem?_replicate] at q
    split at q <;> cases q
/-- a call comes into the def's body: the parameters stand in its slots -/
theorem enter_fn {P : Program} {w : World} {K : PySem.W.Frag} {mg : Str → Option Value} {base : Heap} {x qual : Str} {params : Arguments} {body : List Stmt} {scope : Scope} {dvs : List V} {kws : List (Str × V)} {f : Addr} {fd : FuncData} {N ps : List Str} {k : Nat} {A : Around} {outer : List PySem.Env} {s : Shared} {H : Hp} {args : Args} {us : List Value} {vs : List V} {R : Result → Shared → Prop}
    (F : FunD K x qual params body scope dvs kws f fd) (S : FnScope N ps scope) (hr : RoomG (k + 1) A) (e0 : Env0 P w K mg base A outer s H) (hb : BindsTo s fd args (ps.zip us)) (r : L2.Vals vs us) (hl : vs.length = ps.length)
    (go : ∀ (cdv : Value) (s1 : Shared), RoomG k (A.deeper (envOfC qual scope s.heap.objs.size f cdv)) → s.toks ≤ s1.toks → L2.Inv (cxOf CX0 P w K mg base N qual scope f cdv A outer s H fun _ _ _ => False) [] (L2.start N vs) H s1 →
      wpAny (model P w) (cxOf CX0 P w K mg base N qual scope f cdv A outer s H fun _ _ _ => False).A (PySem.execs body (cxOf CX0 P w K mg base N qual scope f cdv A outer s H fun _ _ _ => False).env) (fun fl s' => R (.ok (.ret (match fl with | .ret v => v | _ => .none))) s') (fun _ _ => False) s1) :
    codeAny (model P w) A (.call (.ref f) args) R s := by
  obtain ⟨oc, od, dV, kV, doc, pm, an, cdv, ct, osl, rfl, lk, hcd, -, -⟩ := F.ex
  have kin : K.In s.heap := e0.mod.kin.keeps fun b o e => (e0.bs b o e).1
  refine codeAny_call_function (RoomG.depth hr) (kin _ _ lk) rfl S.co S.gen rfl (PySem.W.codeRec_of kin hcd) (hb _ _ _ _ ?_)
  have named : ∀ y ∈ ps.zip us, scope.names.lookup y.1 = some .local ∨ (scope.names.lookup y.1 = some .cell ∧ ((cellsFrom (s.heap.objs.size + 1) scope.names []).lookup y.1).isSome = true) := by
    intro y hy
    exact (S.par y.1 (List.of_mem_zip hy).1).imp_right fun q => ⟨q, PySem.W.cellsFrom_some _ _ _ (Or.inl q)⟩
  refine wpAny_mono (wpAny_toks (wpAny_newFunctionEnv_cells (Q := fun env s1 => env = envOfC qual scope s.heap.objs.size f cdv ∧ InCallC s env.locals (bindL env.kindOf (ps.zip us) fun _ => none) env.cells (bindC env.kindOf (ps.zip us) fun _ => none) s1) (E := fun _ _ => False) S.kind named fun env he s1 x => ⟨he, x⟩)) ?_ fun _ _ z => z.2.elim
  rintro env s1 ⟨tk, rfl, x⟩
  have nl : s1.heap.NoLimit := by
    refine e0.mod.nolimit.keeps ?_
    intro b o e
    exact x.toInCall.keep b o (e0.bs b o e).1
  refine ⟨nl, codeAny_func (wpAny_mono (go cdv s1 (hr.deeper _) tk (inv_start S hr.hd e0 hl r x)) (fun _ _ z => z) fun _ _ z => z.elim)⟩
/-- .. and out of it -/
theorem leave_fn {P : Program} {w : World} {K : PySem.W.Frag} {mg : Str → Option Value} {base : Heap} {N : List Str} {qual : Str} {scope : Scope} {f : Addr} {cdv : Value} {A : Around} {outer : List PySem.Env} {s s' : Shared} {H : Hp} {n : Nat} {Φ : Dat → Prop} {fl : Flow}
    (h : SO (cxOf CX0 P w K mg base N qual scope f cdv A outer s H fun _ _ _ => False) [] n H H { nx := fun _ => Φ .non, rt := fun _ => Φ } fl s') :
    0 < s'.toks ∧ CE outer P w H s (fun v H' => ∃ d, Step n H H' ∧ Rep K H' v d ∧ Φ d) (match (generalizing := false) fl with | .ret v => v | _ => .none) s' := by
  obtain ⟨t, h⟩ := h
  refine ⟨t, ?_⟩
  cases fl with
  | brk => obtain ⟨_, _, _, _, _, _, z⟩ := h; exact z.elim
  | cont => obtain ⟨_, _, _, _, _, _, z⟩ := h; exact z.elim
  | next =>
    obtain ⟨_, H', _, J, _, st, q⟩ := h
    exact ⟨.non, H', J.os, J.bare, J.base, J.hok, rfl, .non, ⟨st.ext, st.pot⟩, by rw [Rep], q⟩
  | ret u =>
    obtain ⟨v, _, H', d, _, J, rv, rd, _, st, q⟩ := h
    exact ⟨v, H', J.os, J.bare, J.base, J.hok, rv, d, ⟨st.ext, st.pot⟩, rd, q⟩
theorem fits {N ps : List Str} {scope : Scope} (S : FnScope N ps scope) {vs : List V} (h : vs.length = ps.length) : vs.length ≤ N.length := by
  have e : (N.take ps.length).length = ps.length := congrArg List.length S.pre
  have l := List.length_take_le' ps.length N
  omega
theorem start_s {K : PySem.W.Frag} {H : Hp} {N : List Str} {vs : List V} {ds : List Dat} (h : Reps K H vs ds) (hl : vs.length ≤ N.length) : EnvS K (L2.start N vs) H H (startD N.length ds) :=
  ⟨start_env h hl, fun _ _ _ _ _ hi => absurd hi start_own, fun _ _ _ hi => absurd hi start_own⟩
theorem fng_of {P : Program} {w : World} {K : PySem.W.Frag} {mg : Str → Option Value} {base : Heap} {x qual : Str} {params : Arguments} {body : List Stmt} {scope : Scope} {dvs : List V} {kws : List (Str × V)} {f : Addr} {fd : FuncData} {N ps : List Str} {k n : Nat} {W : List Dat → (Dat → Prop) → Prop}
    (F : FunD K x qual params body scope dvs kws f fd) (S : FnScope N ps scope)
    (hbody : ∀ (cdv : Value) (A : Around) (outer : List PySem.Env) (s : Shared) (H : Hp), RoomG k (A.deeper (envOfC qual scope s.heap.objs.size f cdv)) →
      ∃ Fb, QS (cxOf CX0 P w K mg base N qual scope f cdv A outer s H fun _ _ _ => False) body n Fb ∧ ∀ ds Φ, W ds Φ → Fb (startD N.length ds) { nx := fun _ => Φ .non, rt := fun _ => Φ }) :
    FnG P w K mg base (k + 1) f fd ps n W := by
  refine ⟨fun A outer s H args us vs ds m Φ hr t0 e0 hb r hl hrep pl hW => enter_fn F S hr e0 hb r hl fun cdv s1 hr1 tk I => ?_⟩
  obtain ⟨Fb, hQ, hFb⟩ := hbody cdv A outer s H hr1
  refine wpAny_mono (hQ _ PassesOwn.never [] s1 (L2.start N vs) H H _ m _ (Nat.lt_of_lt_of_le t0 tk) I (start_s hrep (fits S hl)) (Ext.refl H) pl (hFb ds Φ hW)) (fun fl s' hs => ?_) fun _ _ z => z
  exact ⟨_, rfl, leave_fn hs⟩
end SF

/-! D6b: the text matches the small language. -/
namespace SF
open PySem
/-- what the module holds: defs by name, constants by name, builtins that stay, how defs may be called -/
structure Tb where
  fns : List Str
  gl : List Str
  fre : List Str
  shp : List (List (Nat × List Str × List Src))
/-- a block: the slots' names, its scope, the names whose cells are its own -/
structure Ck where
  N : List Str
  sc : Scope
  fn : Str → Bool
def visB (sc : Scope) (x : Str) : Bool := sc.names.lookup x == some .local || sc.names.lookup x == some .cell || sc.names.lookup x == some .free
def locB (sc : Scope) (x : Str) : Bool := sc.names.lookup x == some .local || sc.names.lookup x == some .cell
def glB (sc : Scope) (x : Str) : Bool := sc.names.lookup x == some .globalImplicit
def okName (x : Str) : Bool := !(x == ("__debug__" : Str)) && !(x == ("__classdict__" : Str)) && !(x == ("__name__" : Str))
def varB (c : Ck) (i : Nat) (x : Str) : Bool := c.N[i]? == some x && visB c.sc x && okName x
def setB (c : Ck) (i : Nat) (x : Str) : Bool := c.N[i]? == some x && locB c.sc x && (c.fn x || c.sc.names.lookup x == some .local)
def bltB (tb : Tb) (c : Ck) (x y : Str) : Bool := x == y && glB c.sc x && tb.fre.contains x
mutual
def chkP (c : Ck) : P → Expr → Bool
  | .v i, .Name x _ => setB c i x
  | .t ps, .Tuple es _ _ => chkPs c ps es
  | _, _ => false
def chkPs (c : Ck) : List P → List Expr → Bool
  | [], [] => true
  | p :: ps, e :: es => chkP c p e && chkPs c ps es
  | _, _ => false
end
def isTup : Expr → Bool
  | .Tuple .. => true
  | _ => false
/-- attributeBase is the value itself -/
def baseOk : Expr → Bool
  | .Call (.Name _ _) [] [] _ => false
  | _ => true
def cmpN : C2 → CmpOp
  | .eq => .Eq | .ne => .NotEq | .lt => .Lt | .le => .LtE | .gt => .Gt | .ge => .GtE | .inn => .In | .nin => .NotIn
/-- the names of a comprehension's block -/
def blkB (c : Ck) (scope : Scope) (own : List Nat) : Bool :=
  scope.kind == .function && (scope.names.all fun y => scope.names.lookup y.1 == some y.2) && (own.all fun i => (c.N[i]?).isSome) &&
  (scope.names.all fun y => !(y.2 == .free) || (c.sc.names.lookup y.1 == some .cell || c.sc.names.lookup y.1 == some .free)) &&
  (scope.names.all fun y => !(y.2 == .local || y.2 == .cell) || ((own.any fun i => c.N[i]? == some y.1) || !c.N.contains y.1))
def Ck.blk (c : Ck) (scope : Scope) : Ck := { N := c.N, sc := L2.relS scope c.sc, fn := fun x => scope.names.lookup x == some .cell }
def notSet : Expr → Bool
  | .Set .. => false
  | _ => true
def kwN (kws : List Keyword) : List (Option Str) := kws.map fun | ⟨n, _, _⟩ => n
/-- the list that a walk goes over is not a name's own -/
def noObs : E → Bool
  | .obs _ => false
  | .zip a b => (match a with | .obs _ => false | _ => true) && (match b with | .obs _ => false | _ => true)
  | .enum a => (match a with | .obs _ => false | _ => true)
  | _ => true
mutual
/-- tg: the target, where the expression is walked -/
def chkE (tb : Tb) : E → Option Expr → Ck → Expr → Bool
  | .var i, _, c, ex => match ex with | .Name x _ => varB c i x | _ => false
  | .obs i, _, c, ex => match ex with | .Name x _ => varB c i x | _ => false
  | .glob i, _, c, ex => match ex with | .Name x _ => tb.gl[i]? == some x && glB c.sc x && okName x | _ => false
  | .non, _, _, ex => match ex with | .Constant .none _ _ => true | _ => false
  | .bl b, _, _, ex => match ex with | .Constant (.bool k) _ _ => b == k | _ => false
  | .int i, _, _, ex => match ex with | .Constant (.int k) _ _ => i == k | _ => false
  | .str s, _, _, ex => match ex with | .Constant (.str k) _ _ => k.cps.toList == s && decide (s.length ≤ 10000) | _ => false
  | .op2 o a b, _, c, ex => match ex with | .BinOp l op r _ => op == opOf o && chkE tb a none c l && chkE tb b none c r | _ => false
  | .neg a, _, c, ex => match ex with | .UnaryOp .USub l _ => chkE tb a none c l | _ => false
  | .cmp o a b, _, c, ex => match ex with | .Compare l [op] [r] _ => op == cmpOf o && chkE tb a none c l && chkE tb b none c r | _ => false
  | .chain o o' a b d, _, c, ex => match ex with | .Compare l [op, op'] [r, q] _ => op == cmpOf o && op' == cmpOf o' && chkE tb a none c l && chkE tb b none c r && chkE tb d none c q | _ => false
  | .isN a, _, c, ex => match ex with | .Compare l [.Is] [.Constant .none _ _] _ => chkE tb a none c l | _ => false
  | .notN a, _, c, ex => match ex with | .Compare l [.IsNot] [.Constant .none _ _] _ => chkE tb a none c l | _ => false
  | .and a b, _, c, ex => match ex with
    | .BoolOp .And (l :: r :: rest) p => chkE tb a none c l && (match rest with | [] => chkE tb b none c r | _ :: _ => chkE tb b none c (.BoolOp .And (r :: rest) p))
    | _ => false
  | .or a b, _, c, ex => match ex with
    | .BoolOp .Or (l :: r :: rest) p => chkE tb a none c l && (match rest with | [] => chkE tb b none c r | _ :: _ => chkE tb b none c (.BoolOp .Or (r :: rest) p))
    | _ => false
  | .not a, _, c, ex => match ex with | .UnaryOp .Not l _ => chkE tb a none c l | _ => false
  | .ite t a b, _, c, ex => match ex with | .IfExp x y z _ => chkE tb t none c x && chkE tb a none c y && chkE tb b none c z | _ => false
  | .tup l, _, c, ex => match ex with | .Tuple es _ _ => chkL tb l c es && decide (es.length ≤ 10000) | _ => false
  | .lst l, _, c, ex => match ex with | .List es _ => chkL tb l c es && decide (es.length ≤ 10000) | _ => false
  | .idx a i, _, c, ex => match ex with | .Subscript v ix _ => chkE tb a none c v && chkE tb i none c ix | _ => false
  | .slc a lo hi, _, c, ex => match ex with
    | .Subscript v (.Slice l h none _) _ => chkE tb a none c v && (match l with | none => (match lo with | .non => true | _ => false) | some l => chkE tb lo none c l) && (match h with | none => (match hi with | .non => true | _ => false) | some h => chkE tb hi none c h)
    | _ => false
  | .bi b l, _, c, ex => match ex with | .Call (.Name x _) (e :: es) [] _ => bltB tb c x (b1N b) && (b1V b).isSome && chkL tb l c (e :: es) | _ => false
  | .isi a t, _, c, ex => match ex with | .Call (.Name x _) [e, .Name y _] [] _ => bltB tb c x "isinstance" && bltB tb c y (PySem.Str.ofString (tyOf t)) && chkE tb a none c e | _ => false
  | .me m o l, _, c, ex => match ex with
    | .Call (.Attribute v nm ap) (e :: es) [] cp => baseOk v && nm == m1N m && ap.endLine == cp.line && decide (es.length < 20) && chkE tb o none c v && chkL tb l c (e :: es) &&
      (match m with
      | .index => true
      | .join => true
      | .lstrip => true
      | .replace => (match e, es with | .Constant (.str _) _ _, [.Constant (.str _) _ _] => (match l with | [.str _, .str _] => true | _ => false) | _, _ => false)
      | _ => false)
    | _ => false
  | .call f l kl sh, _, c, ex => match ex with
    | .Call (.Name x _) es kws _ => tb.fns[f]? == some x && glB c.sc x && okName x && chkL tb l c es && chkK tb kl c kws && (match tb.shp[f]? with
      | some ss => ss.any fun q => q.1 == es.length && (kwN kws == q.2.1.map some) && q.2.2 == sh
      | none => false)
    | _ => false
  | .comp own p it t e, _, c, ex => match ex with
    | .ListComp elt [⟨tg, iter, ifs, a⟩] scope _ => a == 0 && notSet iter && chkE tb it (some tg) c iter && blkB c scope own && ((varsP p).all fun i => own.contains i) && chkP (c.blk scope) p tg &&
      (match ifs with
      | [] => (match t with | .bl true => true | _ => false)
      | [x] => chkE tb t none (c.blk scope) x
      | _ => false) && chkE tb e none (c.blk scope) elt
    | _ => false
  | .zip a b, tg, c, ex => match tg, ex with | some (.Tuple _ _ _), .Call (.Name x _) [l, r] [] _ => bltB tb c x "zip" && chkE tb a none c l && chkE tb b none c r | _, _ => false
  | .enum a, tg, c, ex => match tg, ex with | some (.Tuple _ _ _), .Call (.Name x _) [l] [] _ => bltB tb c x "enumerate" && chkE tb a none c l | _, _ => false
  | .range a, tg, c, ex => match tg, ex with | some _, .Call (.Name x _) [l] [] _ => bltB tb c x "range" && chkE tb a none c l | _, _ => false
  | .range2 a b, tg, c, ex => match tg, ex with | some _, .Call (.Name x _) [l, r] [] _ => bltB tb c x "range" && chkE tb a none c l && chkE tb b none c r | _, _ => false
  | .slcS a kk, _, c, ex => match ex with | .Subscript v (.Slice none none (some q) _) _ => chkE tb a none c v && chkE tb kk none c q | _ => false
  | .lzip a b, _, c, ex => match ex with | .Call (.Name x _) [.Call (.Name y _) [l, r] [] _] [] _ => bltB tb c x "list" && (bltB tb c y "zip" && (chkE tb a none c l && chkE tb b none c r)) | _ => false
  | .dnew, _, _, ex => match ex with | .Dict [] [] _ => true | _ => false
  | .sset a, _, c, ex => match ex with | .Call (.Name x _) [.Call (.Name y _) [l] [] _] [] _ => bltB tb c x "sorted" && (bltB tb c y "set" && chkE tb a none c l) | _ => false
  | .scomp own p it t e, _, c, ex => match ex with
    | .Call (.Name x _) [.SetComp elt [⟨tg, iter, ifs, a⟩] scope _] [] _ => bltB tb c x "sorted" && (a == 0 && notSet iter && chkE tb it (some tg) c iter && blkB c scope own && ((varsP p).all fun i => own.contains i) && chkP (c.blk scope) p tg &&
      (match ifs with
      | [] => (match t with | .bl true => true | _ => false)
      | [x] => chkE tb t none (c.blk scope) x
      | _ => false) && chkE tb e none (c.blk scope) elt)
    | _ => false
  | .rangeD a, tg, c, ex => match tg, ex with | some _, .Call (.Name x _) [l, r, q] [] _ => bltB tb c x "range" && chkE tb a none c l && (match r with | .UnaryOp .USub (.Constant (.int 1) _ _) _ => true | _ => false) && (match q with | .UnaryOp .USub (.Constant (.int 1) _ _) _ => true | _ => false) | _, _ => false
  | .isB ng a b, _, c, ex => match ex with
    | .Compare l [op] [.Constant (.bool k) _ _] _ => (match op with | .Is => !ng | .IsNot => ng | _ => false) && b == k && chkE tb a none c l
    | _ => false
  | .comp2 own p it t p1 it1 t1 e, _, c, ex => match ex with
    | .ListComp elt [⟨tg, iter, ifs, a⟩, ⟨tg1, iter1, ifs1, a1⟩] scope _ => a == 0 && (a1 == 0 && (notSet iter && (notSet iter1 && (noObs it1 && (chkE tb it (some tg) c iter && (chkE tb it1 (some tg1) (c.blk scope) iter1 && (blkB c scope own && (((varsP p).all fun i => own.contains i) && (((varsP p1).all fun i => own.contains i) && (chkP (c.blk scope) p tg && (chkP (c.blk scope) p1 tg1 &&
      ((match ifs with
      | [] => (match t with | .bl true => true | _ => false)
      | [x] => chkE tb t none (c.blk scope) x
      | _ => false) && ((match ifs1 with
      | [] => (match t1 with | .bl true => true | _ => false)
      | [x] => chkE tb t1 none (c.blk scope) x
      | _ => false) && chkE tb e none (c.blk scope) elt)))))))))))))
    | _ => false
def chkL (tb : Tb) : List E → Ck → List Expr → Bool
  | [], _, es => es.isEmpty
  | a :: l, c, es => match es with | e :: es => chkE tb a none c e && chkL tb l c es | [] => false
def chkK (tb : Tb) : List E → Ck → List Keyword → Bool
  | [], _, ks => ks.isEmpty
  | a :: l, c, ks => match ks with | ⟨n, e, _⟩ :: ks => n.isSome && chkE tb a none c e && chkK tb l c ks | [] => false
end
def isZ : E → Bool
  | .zip _ _ => true
  | .enum _ => true
  | _ => false
mutual
/-- draws, by calls -/
def wE : E → Nat
  | .op2 _ a b => wE a + wE b
  | .neg a => wE a
  | .cmp _ a b => wE a + wE b
  | .chain _ _ a b c => wE a + wE b + wE c
  | .isN a => wE a
  | .notN a => wE a
  | .and a b => wE a + wE b
  | .or a b => wE a + wE b
  | .not a => wE a
  | .ite c a b => wE c + (wE a + wE b)
  | .tup l => wL l
  | .lst l => wL l
  | .idx a i => wE a + wE i
  | .slc a l h => wE a + wE l + wE h
  | .bi _ l => wL l
  | .isi a _ => wE a
  | .me _ o l => wE o + wL l
  | .call _ l kl _ => wL l + wL kl + 1
  | .comp _ _ it c e => wE it + sizeLine * (wE c + wE e)
  | .zip a b => wE a + wE b
  | .enum a => wE a
  | .range a => wE a
  | .range2 a b => wE a + wE b
  | .dnew => 0
  | .sset a => wE a
  | .scomp _ _ it c e => wE it + sizeLine * (wE c + wE e)
  | .rangeD a => wE a
  | .isB _ a _ => wE a
  | .slcS a kk => wE a + wE kk
  | .lzip a b => wE a + wE b
  | .comp2 _ _ it c _ it1 c1 e => wE it + sizeLine * (wE c + (wE it1 + sizeLine * (wE c1 + wE e)))
  | _ => 0
def wL : List E → Nat
  | [] => 0
  | a :: l => wE a + wL l
end
/-! ### statements -/
/-- name = [..] on one line -/
def swapB (c : Ck) (x : Str) (line : Nat) (px : Pos) (v : Expr) : Bool :=
  match v with
  | .ListComp _ _ scope vp => c.sc.names.lookup x == some .local && px.line == vp.line && !(scope.names.any fun (n, k) => n == x && (k == .local || k == .cell))
  | _ => false
def noSetComp : Expr → Bool
  | .SetComp .. => false
  | .DictComp .. => false
  | _ => true
def noLC : Expr → Bool
  | .ListComp .. => false
  | _ => true
/-- a name among the targets is no plain local: no swap -/
def offLoc (c : Ck) (ts : List Expr) : Bool := ts.any fun | .Name x _ => c.sc.names.lookup x != some .local | _ => true
/-- a value that n names are stored from without a swap -/
def unpV (n : Nat) : Expr → Bool
  | .ListComp .. => false
  | .Tuple es _ _ => decide (3 < n) || !(es.length == n)
  | _ => true
def namesOf : List Expr → Option (List Str)
  | [] => some []
  | .Name x _ :: r => (namesOf r).map (x :: ·)
  | _ => none
mutual
def chkS (tb : Tb) : S → Ck → Stmt → Bool
  | .set i e, c, st => match st with | .Assign [.Name x _] v _ => setB c i x && noSetComp v && chkE tb e none c v | _ => false
  | .own i e, c, st => match st with | .Assign [.Name x _] v _ => setB c i x && noSetComp v && isFresh e && chkE tb e none c v | _ => false
  | .unp p e, c, st => match st with
    | .Assign [.Tuple ts _ _] v _ => (match p with | .t _ => true | _ => false) && chkP c p (.Tuple ts 0 ⟨0, 0, 0, 0⟩) && noSetComp v && (unpV ts.length v || (noLC v && offLoc c ts)) && chkE tb e none c v
    | _ => false
  | .par os is l, c, st => match st with
    | .Assign [.Tuple ts _ _] (.Tuple es _ _) _ => (match namesOf ts with
      | some xs => (xs.length == 2 || xs.length == 3) && os.length == xs.length && is.length == xs.length && es.length == xs.length && (xs.eraseDups.length == xs.length) && ((is.zip xs).all fun q => c.N[q.1]? == some q.2 && c.sc.names.lookup q.2 == some .local) &&
        ((os.zip l).all fun q => !q.1 || isFresh q.2) && chkL tb l c es && (ts.all fun t => t.pos.line == (ts.head?.map (·.pos.line)).getD 0) && !(es.all (foldedForSure 8)) && !(es.all (constantsAlone 8))
      | none => false)
    | _ => false
  | .frz _, _, _ => false
  | .app i e, c, st => match st with | .Expr (.Call (.Attribute (.Name x _) nm ap) [v] [] cp) _ => varB c i x && nm == ("append" : Str) && ap.endLine == cp.line && chkE tb e none c v | _ => false
  | .ext i e, c, st => match st with | .Expr (.Call (.Attribute (.Name x _) nm ap) [v] [] cp) _ => varB c i x && nm == ("extend" : Str) && ap.endLine == cp.line && chkE tb e none c v | _ => false
  | .pop i e, c, st => match st with | .Expr (.Call (.Attribute (.Name x _) nm ap) [v] [] cp) _ => varB c i x && nm == ("pop" : Str) && ap.endLine == cp.line && chkE tb e none c v | _ => false
  | .ins i ix e, c, st => match st with | .Expr (.Call (.Attribute (.Name x _) nm ap) [v, w] [] cp) _ => varB c i x && nm == ("insert" : Str) && ap.endLine == cp.line && chkE tb ix none c v && chkE tb e none c w | _ => false
  | .unpL ps e, c, st => match st with
    | .Assign [.Tuple ts _ _] v _ => chkPs c ps ts && noSetComp v && (match v with | .Tuple .. => false | _ => true) && chkE tb e none c v
    | _ => false
  | .parC os is l, c, st => match st with
    | .Assign [.Tuple ts _ _] (.Tuple es _ _) _ => offLoc c ts && (chkP c (.t (is.map P.v)) (.Tuple ts 0 ⟨0, 0, 0, 0⟩) && (is.length == os.length && (decide (os.length ≤ 1000) && (((os.zip l).all fun q => !q.1 || isFresh q.2) && (chkL tb l c es && os.length == es.length)))))
    | _ => false
  | .stp i j ix e, c, st => match st with | .Assign [.Subscript (.Name x _) (.Call (.Attribute (.Name y _) nm ap) [k] [] cp) _] v _ => varB c i x && (varB c j y && (nm == ("pop" : Str) && (ap.endLine == cp.line && (noSetComp v && (noLC v && (chkE tb ix none c k && chkE tb e none c v)))))) | _ => false
  | .stoD i ix e, c, st => match st with | .Assign [.Subscript (.Name x _) k _] v _ => varB c i x && noSetComp v && noLC v && chkE tb ix none c k && chkE tb e none c v | _ => false
  | .sto i ix e, c, st => match st with | .Assign [.Subscript (.Name x _) k _] v _ => varB c i x && noSetComp v && noLC v && chkE tb ix none c k && chkE tb e none c v | _ => false
  | .exp e, c, st => match st with | .Expr v _ => noSetComp v && noLC v && chkE tb e none c v | _ => false
  | .ret e, c, st => match st with | .Return (some v) _ => chkE tb e none c v | _ => false
  | .retN, _, st => match st with | .Return none _ => true | _ => false
  | .pass, _, st => match st with | .Pass _ => true | _ => false
  | .ite t a b, c, st => match st with | .If x y z _ => chkE tb t none c x && chkSs tb a c y && chkSs tb b c z | _ => false
  | .for p it b, c, st => match st with | .For tg iter body [] _ => notSet iter && noObs it && chkP c p tg && chkE tb it (some tg) c iter && chkSs tb b c body | _ => false
  | .whl t b, c, st => match st with | .While x body [] _ => chkE tb t none c x && chkSs tb b c body | _ => false
def chkSs (tb : Tb) : List S → Ck → List Stmt → Bool
  | [], _, sts => sts.isEmpty
  | s :: r, c, sts => match s with
    | .frz _ => chkSs tb r c sts
    | s => match sts with
      | st :: sts => chkS tb s c st && chkSs tb r c sts
      | [] => false
end
mutual
def wS : S → Nat
  | .set _ e => wE e
  | .own _ e => wE e
  | .unp _ e => wE e
  | .par _ _ l => wL l
  | .frz _ => 0
  | .app _ e => wE e
  | .ext _ e => wE e
  | .pop _ e => wE e
  | .ins _ ix e => wE ix + wE e
  | .unpL _ e => wE e
  | .parC _ _ l => wL l
  | .stp _ _ ix e => wE e + wE ix
  | .stoD _ ix e => wE e + wE ix
  | .sto _ ix e => wE e + wE ix
  | .exp e => wE e
  | .ret e => wE e
  | .retN => 0
  | .pass => 0
  | .ite c a b => wE c + (wSs a + wSs b)
  | .for _ it b => wE it + sizeLine * wSs b
  | .whl c b => big * (wE c + wSs b)
def wSs : List S → Nat
  | [] => 0
  | s :: r => wS s + wSs r
end
end SF

/-! D6c: facts on matched texts. -/
namespace SF
open PySem PySem.Spec PyProof.Rows L2
section
variable {tb : Tb} {c : Ck}
theorem chk_star (e : E) (tg : Option Expr) (c : Ck) (a : Expr) (p : Pos) : chkE tb e tg c (.Starred a p) = false := by
  cases e <;> first
    | (simp only [chkE]; done)
    | (cases tg with
      | none => simp only [chkE]
      | some t => cases t <;> simp only [chkE])
theorem chk_setx (e : E) (tg : Option Expr) (c : Ck) (l : List Expr) (k : Nat) (p : Pos) : chkE tb e tg c (.Set l k p) = false := by
  cases e <;> first
    | (simp only [chkE]; done)
    | (cases tg with
      | none => simp only [chkE]
      | some t => cases t <;> simp only [chkE])
theorem chk_slice (e : E) (tg : Option Expr) (c : Ck) (l u s : Option Expr) (p : Pos) : chkE tb e tg c (.Slice l u s p) = false := by
  cases e <;> first
    | (simp only [chkE]; done)
    | (cases tg with
      | none => simp only [chkE]
      | some t => cases t <;> simp only [chkE])
theorem star_ok {e : E} {tg : Option Expr} {ex : Expr} (h : chkE tb e tg c ex = true) (es : List Expr) (env : PySem.Env) : starEach (ex :: es) env = (false, eval ex env) :: starEach es env := by
  cases ex <;> first
    | rfl
    | (rw [chk_star] at h; cases h)
theorem plain_ok : ∀ {l : List E} {es : List Expr}, chkL tb l c es = true → ∀ (pos : Pos) (env : PySem.Env), (backTo pos (starEach es env)).any (·.1) = false
  | [], [], _, pos, env => rfl
  | [], _ :: _, h, _, _ => by simp [chkL] at h
  | _ :: _, [], h, _, _ => by simp [chkL] at h
  | a :: l, e :: es, h, pos, env => by
    simp only [chkL, Bool.and_eq_true] at h
    rw [star_ok h.1]
    show (false || (backTo pos (starEach es env)).any (·.1)) = false
    rw [plain_ok h.2]
    rfl
theorem all_ok : ∀ {l : List E} {es : List Expr}, chkL tb l c es = true → ∀ (pos : Pos) (env : PySem.Env), (backTo pos (starEach es env)).all (fun x => !x.1) = true
  | [], [], _, pos, env => rfl
  | [], _ :: _, h, _, _ => by simp [chkL] at h
  | _ :: _, [], h, _, _ => by simp [chkL] at h
  | a :: l, e :: es, h, pos, env => by
    simp only [chkL, Bool.and_eq_true] at h
    rw [star_ok h.1]
    show (!false && (backTo pos (starEach es env)).all (fun x => !x.1)) = true
    rw [all_ok h.2]
    rfl
theorem chkL_len : ∀ {l : List E} {es : List Expr}, chkL tb l c es = true → l.length = es.length
  | [], [], _ => rfl
  | [], _ :: _, h => by simp [chkL] at h
  | _ :: _, [], h => by simp [chkL] at h
  | a :: l, e :: es, h => by
    simp only [chkL, Bool.and_eq_true] at h
    exact congrArg (· + 1) (chkL_len h.2)
theorem base_ok {o : Expr} (h : baseOk o = true) (attr : Str) (env : PySem.Env) (whole : Sem Value) : attributeBase o attr env whole = whole := by
  unfold attributeBase
  cases o with
  | Call f args kws pos =>
    cases f with
    | Name id p =>
      cases args with
      | nil => cases kws with
        | nil => simp [baseOk] at h
        | cons a b => rfl
      | cons a b => rfl
    | _ => rfl
  | _ => rfl
theorem folded_ok {iter : Expr} (h : notSet iter = true) (env : PySem.Env) (x : Value) : foldedSetIterable iter env x = pure x := by
  cases iter <;> first | rfl | (simp [notSet] at h)
theorem behind_ok {e : E} {tg : Option Expr} {ex : Expr} (h : chkE tb e tg c ex = true) (op : CmpOp) : behindInMarks op ex = false := by
  cases ex <;> first | rfl | (rw [chk_setx] at h; cases h)
theorem last_ok {e : E} {tg : Option Expr} {ex b : Expr} {op op' : CmpOp} (h : chkE tb e tg c ex = true) : lastMarks [op, op'] [b, ex] = false := behind_ok h op'
theorem plainIx_ok {e : E} {tg : Option Expr} {ex : Expr} (h : chkE tb e tg c ex = true) : PlainIx ex := fun o i => by
  cases ex <;> first | rfl | (rw [chk_slice] at h; cases h)
theorem vis_of {sc : Scope} {x : Str} (h : visB sc x = true) : Vis sc x := by
  unfold visB at h
  simp only [Bool.or_eq_true, beq_iff_eq] at h
  rcases h with (h | h) | h
  · exact .inl h
  · exact .inr (.inl h)
  · exact .inr (.inr h)
theorem loc_of {sc : Scope} {x : Str} (h : locB sc x = true) : Loc sc x := by
  unfold locB at h
  simp only [Bool.or_eq_true, beq_iff_eq] at h
  exact h
theorem name_of {x : Str} (h : okName x = true) : (x == ("__debug__" : Str)) = false ∧ (x == ("__classdict__" : Str)) = false ∧ x ≠ ("__name__" : Str) := by
  unfold okName at h
  simp only [Bool.and_eq_true, Bool.not_eq_true', beq_eq_false_iff_ne, ne_eq] at h
  exact ⟨by simpa using h.1.1, by simpa using h.1.2, h.2⟩
end

/-! ### a context in which matched texts run -/
def ctx (X : Cx) : Ck := ⟨X.N, X.env.scope, X.fn⟩
structure Gd (tb : Tb) (C : Nat → List Dat → (Dat → Prop) → Prop) (G : Nat → Option Dat) (cc k : Nat) (X : Cx) : Prop where
  calm : X.calm = true
  nd : X.N.Nodup
  rm : RoomG k X.A
  kind : X.env.scope.kind = .function
  fre : ∀ x ∈ tb.fre, X.mg x = none
  glo : ∀ (i : Nat) (x : Str) (d : Dat), tb.gl[i]? = some x → G i = some d → ∃ u v, X.mg x = some u ∧ L2.RelV v u ∧ ∀ H, Rep X.K H v d
  fns : ∀ (f : Nat) (x : Str), tb.fns[f]? = some x → ∃ a fd ps, X.mg x = some (.ref a) ∧ PySem.W.keepIn X.K (.ref a) = true ∧ FnG X.prog X.w X.K X.mg X.base k a fd ps cc (C f) ∧ ∀ ss, tb.shp[f]? = some ss → ∀ q ∈ ss, BindG X.K fd ps q.1 q.2.1 q.2.2
section
variable {tb : Tb} {C : Nat → List Dat → (Dat → Prop) → Prop} {G : Nat → Option Dat} {cc k : Nat} {X : Cx}
theorem Gd.blk (g : Gd tb C G cc k X) {scope : Scope} (hk : scope.kind = .function) (s : Shared) (H : Hp) (Ca : Addr) (cl : List (Str × Addr)) (fp : List Addr) : Gd tb C G cc k (X.blk s H scope (compEnvC scope cl Ca X.env) fp) :=
  ⟨g.calm, g.nd, g.rm, hk, g.fre, g.glo, g.fns⟩
theorem ctx_blk (X : Cx) (s : Shared) (H : Hp) (scope : Scope) (Ca : Addr) (cl : List (Str × Addr)) (fp : List Addr) : ctx (X.blk s H scope (compEnvC scope cl Ca X.env) fp) = (ctx X).blk scope := rfl
theorem var_of {i : Nat} {x : Str} (h : varB (ctx X) i x = true) : X.N[i]? = some x ∧ Vis X.env.scope x ∧ (x == ("__debug__" : Str)) = false ∧ (x == ("__classdict__" : Str)) = false := by
  unfold varB at h
  simp only [Bool.and_eq_true, beq_iff_eq] at h
  obtain ⟨⟨h1, h2⟩, h3⟩ := h
  obtain ⟨h4, h5, _⟩ := name_of h3
  exact ⟨h1, vis_of h2, h4, h5⟩
theorem set_of {i : Nat} {x : Str} (h : setB (ctx X) i x = true) : X.N[i]? = some x ∧ Loc X.env.scope x ∧ (X.fn x = true ∨ X.env.scope.names.lookup x = some .local) := by
  unfold setB at h
  simp only [Bool.and_eq_true, Bool.or_eq_true, beq_iff_eq] at h
  exact ⟨h.1.1, loc_of h.1.2, h.2⟩
theorem blt_of (g : Gd tb C G cc k X) {x y : Str} (h : bltB tb (ctx X) x y = true) : x = y ∧ Gl X x ∧ X.mg x = none := by
  unfold bltB at h
  simp only [Bool.and_eq_true, beq_iff_eq, List.contains_iff_mem] at h
  obtain ⟨⟨h1, h2⟩, h3⟩ := h
  unfold glB at h2
  exact ⟨h1, eq_of_beq h2, g.fre x h3⟩
theorem gl_of {x : Str} (h : glB (ctx X).sc x = true) : Gl X x := by
  unfold glB at h
  exact eq_of_beq h
mutual
theorem tg_ok (hc : X.calm = true) (hN : X.N.Nodup) (E : Value → Shared → Prop) : ∀ (p : P) (tg : Expr), chkP (ctx X) p tg = true → PG (X.wish E) tg (tgP X.K p)
  | .v i, tg, h => by
    cases tg with
    | Name x pos =>
      rw [chkP] at h
      obtain ⟨h1, h2, h3⟩ := set_of h
      rw [tgP]
      exact pg_name (X := X.wish E) hN h1 h2 h3
    | _ => simp [chkP] at h
  | .t ps, tg, h => by
    cases tg with
    | Tuple es kk pos =>
      rw [chkP] at h
      rw [tgP]
      obtain ⟨h1, h2, h3⟩ := tgs_ok hc hN E ps es h
      exact pg_tup (X := X.wish E) hc h1 h2 h3
    | _ => simp [chkP] at h
theorem tgs_ok (hc : X.calm = true) (hN : X.N.Nodup) (E : Value → Shared → Prop) : ∀ (ps : List P) (es : List Expr), chkPs (ctx X) ps es = true → PGs (X.wish E) es (tgPs X.K ps) ∧ (assignEach es X.env).length = ps.length ∧ (assignEach es X.env).findIdx? (·.1) = none
  | [], [], _ => ⟨by rw [tgPs]; exact pgs_nil, rfl, rfl⟩
  | [], _ :: _, h => by simp [chkPs] at h
  | _ :: _, [], h => by simp [chkPs] at h
  | p :: ps, e :: es, h => by
    simp only [chkPs, Bool.and_eq_true] at h
    obtain ⟨h1, h2, h3⟩ := tgs_ok hc hN E ps es h.2
    have h0 := tg_ok hc hN E p e h.1
    have ea : assignEach (e :: es) X.env = (false, assign e X.env) :: assignEach es X.env := by
      cases e <;> first | rfl | (exfalso; have := h.1; cases p <;> simp [chkP] at this)
    rw [tgPs]
    refine ⟨pgs_cons h0 h1 (by show (assignEach (e :: es) X.env).map (·.2) = _; rw [ea] <;> rfl), by rw [ea]; exact congrArg (· + 1) h2, ?_⟩
    rw [ea, List.findIdx?_cons]
    simp [h3]
end
theorem tgOk_of (g : Gd tb C G cc k X) {p : P} {tg : Expr} (h : chkP (ctx X) p tg = true) : TgOk X tg p := fun E => tg_ok g.calm g.nd E p tg h
theorem blkOk_of {c : Ck} {scope : Scope} {own : List Nat} (h : blkB c scope own = true) : BlkOk c.N c.sc scope (own.map fun i => (c.N.getD i "", i)) := by
  unfold blkB at h
  simp only [Bool.and_eq_true, List.all_eq_true, beq_iff_eq, Bool.or_eq_true, Bool.not_eq_true', beq_eq_false_iff_ne, ne_eq, List.any_eq_true] at h
  obtain ⟨⟨⟨⟨h1, h2⟩, h3⟩, h4⟩, h5⟩ := h
  refine ⟨h1, h2, fun p hp => ?_, fun y hy e => ?_, fun y hy e => ?_⟩
  · obtain ⟨i, hi, rfl⟩ := List.mem_map.mp hp
    have := h3 i hi
    show c.N[i]? = some (c.N.getD i "")
    cases q : c.N[i]? with
    | none => rw [q] at this; cases this
    | some z => simp [List.getD, q]
  · rcases h4 y hy with q | q
    · exact absurd e q
    · exact q
  · rcases h5 y hy with q | q
    · rcases e with e | e <;> (rw [e] at q; cases q)
    · rcases q with ⟨i, hi, q⟩ | q
      · refine .inl (List.mem_map.mpr ⟨(c.N.getD i "", i), List.mem_map.mpr ⟨i, hi, rfl⟩, ?_⟩)
        simp [List.getD, q]
      · exact .inr (by simpa using q)
end
end SF

/-! D6d: matched expressions compute what their reading says. -/
namespace SF
open PySem PySem.Spec PyProof.Rows L2
section
variable {X : Cx}
theorem QE.cg {ex : Expr} {n n' : Nat} {R : Mod0} {f g : Env → (Dat → Prop) → Prop} (h : QE X ex n R f) (hn : n ≤ n') (e : ∀ δ Q, g δ Q → f δ Q) : QE X ex n' R g := fun E pins s σ H δ m Φ ht I er pl hf => h.le hn E pins s σ H δ m Φ ht I er pl (e _ _ hf)
theorem QT.cg {ex : Expr} {n n' : Nat} {f g : Env → (Bool → Prop) → Prop} (h : QT X ex n f) (hn : n ≤ n') (e : ∀ δ Q, g δ Q → f δ Q) : QT X ex n' g := fun E pins s σ H δ m Φ ht I er pl hf =>
  thn (h E pins s σ H δ m Φ ht I er (pl.mono (by omega)) (e _ _ hf)) fun k s1 q => q.step (Step.refl H) (by omega)
theorem QA.cg {es : List Expr} {n n' : Nat} {RL : Hp → List V → List Dat → Prop} {f g : Env → (List Dat → Prop) → Prop} (h : QA X es n RL f) (hn : n ≤ n') (e : ∀ δ Q, g δ Q → f δ Q) : QA X es n' RL g := fun pos E pins s σ H δ m Φ ht I er pl hf =>
  thn (h pos E pins s σ H δ m Φ ht I er (pl.mono (by omega)) (e _ _ hf)) fun us s1 ⟨t, vs, H', ds, h1, h2, h3, h4, h5⟩ => ⟨t, vs, H', ds, h1, h2, h3.mono hn, h4, h5⟩
theorem QI.cg {tg ex : Expr} {n n' : Nat} {b z : Bool} {f g : Env → (Dat → Prop) → Prop} (h : QI X tg ex n b z f) (hn : n ≤ n') (e : ∀ δ Q, g δ Q → f δ Q) : QI X tg ex n' b z g := fun E pins s σ H δ m Φ ht I er pl hf =>
  thn (h E pins s σ H δ m Φ ht I er (pl.mono (by omega)) (e _ _ hf)) fun v s1 q => thn q fun w s2 ⟨t, it, fp, tn, J, H', d, ds, h1, h2, h3, h4, h5, h6, h7⟩ => ⟨t, it, fp, tn, J, H', d, ds, h1, h2, h3, h4, h5, h6.mono hn, h7⟩
theorem qe_false {ex : Expr} {n : Nat} {R : Mod0} {f : Env → (Dat → Prop) → Prop} (h : ∀ δ Q, ¬ f δ Q) : QE X ex n R f := fun E pins s σ H δ m Φ ht I er pl hf => absurd hf (h _ _)
/-- a test that is an if-expression -/
theorem qt_ite {c a b : Expr} {n n' n'' : Nat} {pos : Pos} {gc ga gb : Env → (Bool → Prop) → Prop} (hc : QT X c n gc) (ha : QT X a n' ga) (hb : QT X b n'' gb) : QW X (.IfExp c a b pos) (n + (n' + n'')) (fun δ Q => gc δ fun k => if k = true then ga δ Q else gb δ Q) := fun whole E pins s σ H δ m Φ ht I er pl hf => by
  refine isTrue_IfExp (thn (hc E pins s σ H δ (n' + n'' + m) _ ht I er (pl.mono (by omega)) hf) fun k s1 ⟨t, H', I', st, q⟩ => ?_)
  cases k with
  | true =>
    rw [if_pos rfl] at q ⊢
    exact thn (ha E pins s1 σ H' δ m Φ t I' (er.ext st.ext) (st.pot _ (pl.mono (by omega))) q) fun u s2 z => z.step st (by omega)
  | false =>
    rw [if_neg Bool.false_ne_true] at q ⊢
    exact thn (hb E pins s1 σ H' δ m Φ t I' (er.ext st.ext) (st.pot _ (pl.mono (by omega))) q) fun u s2 z => z.step st (by omega)
theorem qt_chain {a b c : Expr} {n n' n'' : Nat} {pos : Pos} {fa fb fc : Env → (Dat → Prop) → Prop} (hu : X.A.units + 200 < cLine) (o o' : C2) (ha : QE X a n (RB X.K) fa) (hb : QE X b n' (RB X.K) fb) (hc : QE X c n'' (RB X.K) fc) (hm : lastMarks [cmpOf o, cmpOf o'] [b, c] = false) :
    QT X (.Compare a [cmpOf o, cmpOf o'] [b, c] pos) (n + n' + n'') (fun δ Q => fa δ fun x => fb δ fun y => cmpW o x y fun k => if k = true then fc δ fun z => cmpW o' y z Q else Q false) := fun E pins s σ H δ m Φ ht I er pl hf => by
  refine isTrue_chain (thn (ha E pins s σ H δ (n' + n'' + m) _ ht I er (pl.mono (by omega)) hf) fun v s1 ⟨t1, x, H1, dx, I1, r1, st1, b1, q1⟩ => test_link (thn (hb E pins s1 σ H1 δ (n'' + m) _ t1 I1 (er.ext st1.ext) (st1.pot _ (pl.mono (by omega))) q1) fun u s2 ⟨t2, y, H2, dy, I2, r2, st2, b2, q2⟩ => ?_)) hm
  refine px_of t2 (or_c2 (X := X.wish E) hu o pins s2 σ H2 x y v u (fun w H' => H' = H2 ∧ ∃ k, w = .bl k ∧ (if k = true then fc δ fun z => cmpW o' dy z Φ else Φ false)) (I2.wish E) r1 r2 ⟨dx, dy, b1.ext st2.ext, b2, cmpW_mono o dx dy _ _ (fun k h => ⟨rfl, k, rfl, h⟩) q2⟩) fun w s3 t3 ⟨z, H3, I3, r3, e1, k, e2, q3⟩ => ?_
  subst e1 e2
  cases r3
  refine wpAny_truthy_bool ?_
  have st := st1.trans st2
  cases k with
  | false => exact ite_ff ⟨t3, _, I3.unwish, st.mono (by omega), q3⟩
  | true =>
    refine ite_tt (test_last (thn (hc E pins s3 σ H3 δ m _ t3 I3.unwish (er.ext st.ext) (st.pot _ (pl.mono (by omega))) q3) fun w' s4 ⟨t4, z', H4, dz, I4, r4, st4, b4, q4⟩ => ?_))
    refine px_of t4 (or_c2 (X := X.wish E) hu o' pins s4 σ H4 y z' u w' (fun w H' => H' = H4 ∧ ∃ k, w = .bl k ∧ Φ k) (I4.wish E) r2 r4 ⟨dy, dz, b2.ext st4.ext, b4, cmpW_mono o' dy dz _ _ (fun k h => ⟨rfl, k, rfl, h⟩) q4⟩) fun w s' t ⟨z, H', I', r', e1, k, e2, h⟩ => ?_
    subst e1 e2
    cases r'
    exact wpAny_truthy_bool ⟨t, _, I'.unwish, (st.trans st4).mono (by omega), h⟩
end

section
variable {tb : Tb} {C : Nat → List Dat → (Dat → Prop) → Prop} {G : Nat → Option Dat} {cc k : Nat}
/-- how many values a list of expressions gives -/
theorem evs_len : ∀ (l : List E) (m : M) (δ : Env) (Φ : List Dat → Prop), (∀ f ds, Mono (C f ds)) → evs C G l m δ Φ → evs C G l m δ fun ds => ds.length = l.length ∧ Φ ds
  | [], m, δ, Φ, _, h => by rw [evs] at h ⊢; exact ⟨rfl, h⟩
  | e :: l, m, δ, Φ, hC, h => by
    rw [evs] at h ⊢
    exact ev_mono hC e m δ _ _ (fun d hd => evs_mono hC l m δ _ _ (fun ds q => ⟨congrArg (· + 1) q.1, q.2⟩) (evs_len l m δ _ hC hd)) h
/-- what is not a name looked at reads the same way in all modes -/
theorem ev_bv {e : E} (h : ∀ i, e ≠ .obs i) (δ : Env) (Q : Dat → Prop) : ev C G e .b δ Q → ev C G e .v δ Q := by
  cases e <;> first
    | (intro q; simp only [ev] at q ⊢; exact q)
    | (intro q; simp only [ev] at q; done)
    | exact absurd rfl (h _)
/-- forms that stand only where something is walked -/
def isW : E → Bool
  | .zip _ _ => true
  | .enum _ => true
  | .range _ => true
  | .range2 _ _ => true
  | .rangeD _ => true
  | _ => false
theorem isW_z {e : E} (h : isW e = false) : isZ e = false := by
  cases e <;> first | rfl | (simp [isW] at h)
theorem ev_ib {e : E} (h : isW e = false) (δ : Env) (Q : Dat → Prop) : ev C G e .i δ Q → ev C G e .b δ Q := by
  cases e <;> first
    | (intro q; simp only [ev] at q ⊢; exact q)
    | (simp [isW] at h)
theorem chk_tg {e : E} (h : isW e = false) (t : Option Expr) (c : Ck) (ex : Expr) : chkE tb e t c ex = chkE tb e none c ex := by
  rw [chkE.eq_def, chkE.eq_def tb e none]
  cases e <;> first
    | rfl
    | (simp [isW] at h)
theorem b1_boot {b : B1} {u : Value} (h : b1V b = some u) : bootBuiltins (b1N b) = some u := by
  cases b <;> simp only [b1V, Option.some.injEq, reduceCtorEq] at h <;> subst h <;> decide +kernel
theorem ty_boot (t : Ty) : bootBuiltins (PySem.Str.ofString (tyOf t)) = some (.type (tyOf t)) := by
  cases t <;> decide +kernel
/-- what is proved of an expression -/
structure Snd (tb : Tb) (C : Nat → List Dat → (Dat → Prop) → Prop) (G : Nat → Option Dat) (cc k : Nat) (e : E) : Prop where
  v : ∀ (X : Cx) (ex : Expr), Gd tb C G cc k X → chkE tb e none (ctx X) ex = true → QE X ex (cc * wE e) (RV X.K) (ev C G e .v)
  o : ∀ (X : Cx) (ex : Expr), Gd tb C G cc k X → chkE tb e none (ctx X) ex = true → isFresh e = true → QE X ex (cc * wE e) (ROw X.K) (ev C G e .v)
  t : ∀ (X : Cx) (ex : Expr), Gd tb C G cc k X → chkE tb e none (ctx X) ex = true → QT X ex (cc * wE e) fun δ Q => ev C G e .v δ fun x => boolW x Q
  i : ∀ (X : Cx) (tg ex : Expr) (bb : Bool), Gd tb C G cc k X → chkE tb e (some tg) (ctx X) ex = true → (bb = false → noObs e = true) → QI X tg ex (cc * wE e) bb (isZ e) (ev C G e .i)
theorem snd_b {e : E} (hv : ∀ (X : Cx) (ex : Expr), Gd tb C G cc k X → chkE tb e none (ctx X) ex = true → QE X ex (cc * wE e) (RV X.K) (ev C G e .v)) (X : Cx) (ex : Expr) (g : Gd tb C G cc k X) (hx : chkE tb e none (ctx X) ex = true) : QE X ex (cc * wE e) (RB X.K) (ev C G e .b) := by
  by_cases ho : ∃ i, e = .obs i
  · obtain ⟨i, rfl⟩ := ho
    cases ex with
    | Name x pos =>
      rw [chkE] at hx
      obtain ⟨h1, h2, h3, h4⟩ := var_of hx
      exact (qe_obs h1 h2 h3 h4).cg (Nat.zero_le _) fun δ Q q => by simp only [ev] at q; exact q
    | _ => simp only [chkE] at hx; cases hx
  · exact (hv X ex g hx).b.cg (Nat.le_refl _) fun δ Q => ev_bv (fun i q => ho ⟨i, q⟩) δ Q
theorem Snd.b {e : E} (h : Snd tb C G cc k e) (X : Cx) (ex : Expr) (g : Gd tb C G cc k X) (hx : chkE tb e none (ctx X) ex = true) : QE X ex (cc * wE e) (RB X.K) (ev C G e .b) := snd_b h.v X ex g hx
theorem snd_i {e : E} (hw : isW e = false) (hv : ∀ (X : Cx) (ex : Expr), Gd tb C G cc k X → chkE tb e none (ctx X) ex = true → QE X ex (cc * wE e) (RV X.K) (ev C G e .v)) (X : Cx) (tg ex : Expr) (bb : Bool) (g : Gd tb C G cc k X) (hx : chkE tb e (some tg) (ctx X) ex = true) (ho : bb = false → noObs e = true) :
    QI X tg ex (cc * wE e) bb (isZ e) (ev C G e .i) := by
  rw [chk_tg hw] at hx
  rw [isW_z hw]
  cases bb with
  | true => exact (qi_seq (bb := true) (snd_b hv X ex g hx)).cg (Nat.le_refl _) fun δ Q => ev_ib hw δ Q
  | false =>
    have ho := ho rfl
    exact (qi_seq (bb := false) (hv X ex g hx)).cg (Nat.le_refl _) fun δ Q q => ev_bv (fun i z => by subst z; simp [noObs] at ho) δ Q (ev_ib hw δ Q q)
/-- no test's own form -/
def plainT : Expr → Bool
  | .UnaryOp .Not _ _ => false
  | .BoolOp .. => false
  | .IfExp .. => false
  | .Compare .. => false
  | _ => true
theorem isTrue_of {ex : Expr} (h : plainT ex = true) (env : PySem.Env) (whole : Sem Value) : isTrue ex env whole = (do let v ← whole; standAt ex.pos; holding [v] (truthy v)) := by
  cases ex with
  | UnaryOp op a p => cases op <;> first | rfl | (simp [plainT] at h)
  | BoolOp => simp [plainT] at h
  | IfExp => simp [plainT] at h
  | Compare => simp [plainT] at h
  | _ => rfl
theorem Snd.mkV {e : E} (hw : isW e = false) (hf : isFresh e = false) (hp : ∀ (c : Ck) (ex : Expr), chkE tb e none c ex = true → plainT ex = true) (hv : ∀ (X : Cx) (ex : Expr), Gd tb C G cc k X → chkE tb e none (ctx X) ex = true → QE X ex (cc * wE e) (RV X.K) (ev C G e .v)) : Snd tb C G cc k e :=
  ⟨hv, fun _ _ _ _ f => (by rw [hf] at f; exact nomatch f), fun X ex g h => qt_val (hv X ex g h) fun whole => isTrue_of (hp _ _ h) _ whole, snd_i hw hv⟩
theorem Snd.mkO {e : E} (hw : isW e = false) (hp : ∀ (c : Ck) (ex : Expr), chkE tb e none c ex = true → plainT ex = true) (ho : ∀ (X : Cx) (ex : Expr), Gd tb C G cc k X → chkE tb e none (ctx X) ex = true → QE X ex (cc * wE e) (ROw X.K) (ev C G e .v)) : Snd tb C G cc k e :=
  ⟨fun X ex g h => (ho X ex g h).frz, fun X ex g h _ => ho X ex g h, fun X ex g h => qt_val (ho X ex g h).frz fun whole => isTrue_of (hp _ _ h) _ whole, snd_i hw fun X ex g h => (ho X ex g h).frz⟩
/-! ### lists -/
theorem qa_v : ∀ {l : List E}, (∀ e ∈ l, Snd tb C G cc k e) → ∀ (X : Cx) (es : List Expr), Gd tb C G cc k X → chkL tb l (ctx X) es = true → QA X es (cc * wL l) (RLv X.K) (evs C G l .v)
  | [], _, X, [], g, _ => (qa_nil nilV).cg (Nat.zero_le _) fun δ Q q => by rw [evs] at q; exact q
  | [], _, X, _ :: _, g, h => by simp [chkL] at h
  | _ :: _, _, X, [], g, h => by simp [chkL] at h
  | a :: l, hs, X, e :: es, g, h => by
    simp only [chkL, Bool.and_eq_true] at h
    exact (qa_cons consV ((hs a (by simp)).v X e g h.1) (qa_v (fun e he => hs e (by simp [he])) X es g h.2) (star_ok h.1 _ _)).cg (by rw [wL, Nat.mul_add]; exact Nat.le_refl _) fun δ Q q => by rw [evs] at q; exact q
theorem qa_b : ∀ {l : List E}, (∀ e ∈ l, Snd tb C G cc k e) → ∀ (X : Cx) (es : List Expr), Gd tb C G cc k X → chkL tb l (ctx X) es = true → QA X es (cc * wL l) (RLb X.K) (evs C G l .b)
  | [], _, X, [], g, _ => (qa_nil nilB).cg (Nat.zero_le _) fun δ Q q => by rw [evs] at q; exact q
  | [], _, X, _ :: _, g, h => by simp [chkL] at h
  | _ :: _, _, X, [], g, h => by simp [chkL] at h
  | a :: l, hs, X, e :: es, g, h => by
    simp only [chkL, Bool.and_eq_true] at h
    exact (qa_cons consB ((hs a (by simp)).b X e g h.1) (qa_b (fun e he => hs e (by simp [he])) X es g h.2) (star_ok h.1 _ _)).cg (by rw [wL, Nat.mul_add]; exact Nat.le_refl _) fun δ Q q => by rw [evs] at q; exact q
theorem qk_v : ∀ {l : List E}, (∀ e ∈ l, Snd tb C G cc k e) → ∀ (X : Cx) (ks : List Keyword), Gd tb C G cc k X → chkK tb l (ctx X) ks = true → QK X ks (cc * wL l) (evs C G l .v)
  | [], _, X, [], g, _ => fun pos E pins s σ H δ m Φ ht I er pl hf => qk_nil pos E pins s σ H δ m Φ ht I er (pl.mono (by omega)) (by rw [evs] at hf; exact hf)
  | [], _, X, _ :: _, g, h => by simp [chkK] at h
  | _ :: _, _, X, [], g, h => by simp [chkK] at h
  | a :: l, hs, X, ⟨nm, e, kp⟩ :: ks, g, h => fun pos E pins s σ H δ m Φ ht I er pl hf => by
    simp only [chkK, Bool.and_eq_true] at h
    have hw : cc * wE a + cc * wL l = cc * wL (a :: l) := by rw [wL, Nat.mul_add]
    rw [← hw] at pl ⊢
    exact qk_cons ((hs a (by simp)).v X e g h.1.2) (qk_v (fun e he => hs e (by simp [he])) X ks g h.2) pos E pins s σ H δ m Φ ht I er pl (by rw [evs] at hf; exact hf)
theorem chkK_names : ∀ {l : List E} {c : Ck} {ks : List Keyword}, chkK tb l c ks = true → ∀ (env : PySem.Env) (pos : Pos), (backToKw pos (keywordEach ks env)).all (·.1.isSome) = true ∧ (backToKw pos (keywordEach ks env)).any (·.1.isNone) = false ∧ (backToKw pos (keywordEach ks env)).map (·.1) = kwN ks ∧ l.length = ks.length
  | [], c, [], _, env, pos => ⟨rfl, rfl, rfl, rfl⟩
  | [], c, _ :: _, h, _, _ => by simp [chkK] at h
  | _ :: _, c, [], h, _, _ => by simp [chkK] at h
  | a :: l, c, ⟨nm, e, kp⟩ :: ks, h, env, pos => by
    simp only [chkK, Bool.and_eq_true] at h
    obtain ⟨h1, h2, h3, h4⟩ := chkK_names h.2 env pos
    have hn : nm.isSome = true := h.1.1
    have hn' : nm.isNone = false := by cases nm <;> simp_all
    refine ⟨?_, ?_, ?_, congrArg (· + 1) h4⟩
    · show (nm.isSome && (backToKw pos (keywordEach ks env)).all (·.1.isSome)) = true
      rw [hn, h1]; rfl
    · show (nm.isNone || (backToKw pos (keywordEach ks env)).any (·.1.isNone)) = false
      rw [hn', h2]; rfl
    · show nm :: (backToKw pos (keywordEach ks env)).map (·.1) = nm :: kwN ks
      rw [h3]
theorem filterMap_names {l : List (Option Str × Sem Value)} {ks : List Str} (h : l.map (·.1) = ks.map some) : l.filterMap (·.1) = ks := by
  have e : l.filterMap (·.1) = (l.map (·.1)).filterMap id := by rw [List.filterMap_map]; rfl
  rw [e, h, List.filterMap_map]
  show ks.filterMap (fun x => some x) = ks
  exact List.filterMap_some
/-- a def called -/
theorem snd_call {f : Nat} {l kl : List E} {sh : List Src} (hC : ∀ f ds, Mono (C f ds)) (hl : ∀ e ∈ l, Snd tb C G cc k e) (hk : ∀ e ∈ kl, Snd tb C G cc k e) : Snd tb C G cc k (.call f l kl sh) := by
  refine Snd.mkV rfl rfl (fun c ex h => ?_) fun X ex g h => ?_
  · rw [chkE.eq_def] at h; dsimp only at h
    split at h
    · rfl
    · cases h
  · rw [chkE.eq_def] at h; dsimp only at h
    split at h
    · rename_i x p es kws pos
      simp only [Bool.and_eq_true, beq_iff_eq] at h
      obtain ⟨⟨⟨⟨⟨h1, h2⟩, h3⟩, h4⟩, h5⟩, h6⟩ := h
      obtain ⟨a, fd, ps, hm, hkeep, F, hbs⟩ := g.fns f x h1
      have hg := gl_of h2
      have hdb := (name_of h3).1
      obtain ⟨k1, k2, k3, k4⟩ := chkK_names h5 X.env pos
      have hlen := chkL_len h4
      split at h6
      · rename_i ss hss
        simp only [List.any_eq_true, Bool.and_eq_true, beq_iff_eq] at h6
        obtain ⟨q, hq, ⟨e1, e2⟩, e3⟩ := h6
        have hb := hbs ss hss q hq
        rw [e1, e3] at hb
        have hfm : (backToKw pos (keywordEach kws X.env)).filterMap (·.1) = q.2.1 := filterMap_names (k3.trans e2)
        have hkn : q.2.1.length = kl.length := by
          have := congrArg List.length e2
          unfold kwN at this
          simpa [k4] using this.symm
        have hA := qa_v hl X es g h4
        have hK := qk_v hk X kws g h5
        have hle : ∀ δ Φ, evs C G l .v δ Φ → evs C G l .v δ fun ds => ds.length = es.length ∧ Φ ds := fun δ Φ z => by have := evs_len l .v δ Φ hC z; rw [hlen] at this; exact this
        have hlk : ∀ δ Φ, evs C G kl .v δ Φ → evs C G kl .v δ fun ds => ds.length = q.2.1.length ∧ Φ ds := fun δ Φ z => by have := evs_len kl .v δ Φ hC z; rw [← hkn] at this; exact this
        have hw : cc * wL l + cc * wL kl + cc = cc * wE (.call f l kl sh) := by rw [wE, Nat.mul_add, Nat.mul_add, Nat.mul_one]
        cases es with
        | nil =>
          have el : l = [] := by cases l with | nil => rfl | cons _ _ => simp at hlen
          subst el
          cases kws with
          | nil =>
            have ek : kl = [] := by cases kl with | nil => rfl | cons _ _ => simp at k4
            subst ek
            have eq2 : q.2.1 = [] := by cases z : q.2.1 with | nil => rfl | cons _ _ => rw [z] at hkn; simp at hkn
            rw [eq2] at hb
            exact (qe_def0 F g.rm hg hm hkeep hb hdb).cg (by rw [← hw]; omega) fun δ Q z => by rw [ev, evs, evs] at z; exact z
          | cons kw kws =>
            exact (qe_defK0 F g.rm hg hm hkeep hb hdb hK k1 hfm hlk (by rw [k2]; rfl)).cg (by rw [← hw]; omega) fun δ Q z => by rw [ev, evs] at z; exact z
        | cons e es =>
          have hst : starEach (e :: es) X.env = (false, eval e X.env) :: starEach es X.env := by
            cases l with
            | nil => simp at hlen
            | cons a l => simp only [chkL, Bool.and_eq_true] at h4; exact star_ok h4.1 _ _
          have hpl0 := plain_ok h4 pos X.env
          have hpl : (backTo pos (starEach es X.env)).any (·.1) = false := by
            rw [hst] at hpl0
            have z : (false || (backTo pos (starEach es X.env)).any (·.1)) = false := hpl0
            simpa using z
          cases kws with
          | nil =>
            have ek : kl = [] := by cases kl with | nil => rfl | cons _ _ => simp at k4
            subst ek
            have eq2 : q.2.1 = [] := by cases z : q.2.1 with | nil => rfl | cons _ _ => rw [z] at hkn; simp at hkn
            rw [eq2] at hb
            exact (qe_def1 F g.rm hg hm hkeep hb hdb hA hle hst hpl).cg (by rw [← hw]; omega) fun δ Q z => by rw [ev] at z; exact evs_mono hC l .v δ _ _ (fun ds y => by rw [evs] at y; exact y) z
          | cons kw kws =>
            exact (qe_defK F g.rm hg hm hkeep hb hdb hA hle hst hK k1 hfm hlk (by rw [hpl0, k2]; rfl) fun δ => evs_mono hC l .v δ).cg (by rw [← hw]; exact Nat.le_refl _) fun δ Q z => by rw [ev] at z; exact z
      · cases h6
    · cases h
end
end SF

/-! D6e: every matched expression. -/
namespace SF
open PySem PySem.Spec PyProof.Rows L2
section
variable {tb : Tb} {C : Nat → List Dat → (Dat → Prop) → Prop} {G : Nat → Option Dat} {cc k : Nat}
theorem snd_var {i : Nat} : Snd tb C G cc k (.var i) := by
  refine Snd.mkV rfl rfl (fun c ex h => ?_) fun X ex g h => ?_
  · rw [chkE.eq_def] at h; dsimp only at h
    split at h
    · rfl
    · cases h
  · rw [chkE.eq_def] at h; dsimp only at h
    split at h
    · obtain ⟨h1, h2, h3, h4⟩ := var_of h
      exact (qe_var h1 h2 h3 h4).cg (Nat.zero_le _) fun δ Q q => by rw [ev] at q; exact q
    · cases h
theorem snd_obs {i : Nat} : Snd tb C G cc k (.obs i) := by
  refine Snd.mkV rfl rfl (fun c ex h => ?_) fun X ex g h => qe_false fun δ Q q => by simp only [ev] at q
  rw [chkE.eq_def] at h; dsimp only at h
  split at h
  · rfl
  · cases h
theorem snd_glob {i : Nat} : Snd tb C G cc k (.glob i) := by
  refine Snd.mkV rfl rfl (fun c ex h => ?_) fun X ex g h => ?_
  · rw [chkE.eq_def] at h; dsimp only at h
    split at h
    · rfl
    · cases h
  · rw [chkE.eq_def] at h; dsimp only at h
    split at h
    · simp only [Bool.and_eq_true, beq_iff_eq] at h
      obtain ⟨⟨h1, h2⟩, h3⟩ := h
      cases hG : G i with
      | none => exact qe_false fun δ Q q => by simp only [ev, hG] at q
      | some d =>
        obtain ⟨u, v, e1, e2, e3⟩ := g.glo i _ d h1 hG
        exact (qe_glob (gl_of h2) e1 e2 e3 (name_of h3).1).cg (Nat.zero_le _) fun δ Q q => by simp only [ev, hG] at q; exact q
    · cases h
theorem snd_non : Snd tb C G cc k .non := by
  refine Snd.mkV rfl rfl (fun c ex h => ?_) fun X ex g h => ?_
  · rw [chkE.eq_def] at h; dsimp only at h
    split at h
    · rfl
    · cases h
  · rw [chkE.eq_def] at h; dsimp only at h
    split at h
    · exact qe_non.cg (Nat.zero_le _) fun δ Q q => by rw [ev] at q; exact q
    · cases h
theorem snd_bl {b : Bool} : Snd tb C G cc k (.bl b) := by
  refine Snd.mkV rfl rfl (fun c ex h => ?_) fun X ex g h => ?_
  · rw [chkE.eq_def] at h; dsimp only at h
    split at h
    · rfl
    · cases h
  · rw [chkE.eq_def] at h; dsimp only at h
    split at h
    · have e := eq_of_beq h
      subst e
      exact qe_bl.cg (Nat.zero_le _) fun δ Q q => by rw [ev] at q; exact q
    · cases h
theorem snd_int {b : Int} : Snd tb C G cc k (.int b) := by
  refine Snd.mkV rfl rfl (fun c ex h => ?_) fun X ex g h => ?_
  · rw [chkE.eq_def] at h; dsimp only at h
    split at h
    · rfl
    · cases h
  · rw [chkE.eq_def] at h; dsimp only at h
    split at h
    · have e := eq_of_beq h
      subst e
      exact qe_int.cg (Nat.zero_le _) fun δ Q q => by rw [ev] at q; exact q
    · cases h
theorem snd_str {b : List Nat} : Snd tb C G cc k (.str b) := by
  refine Snd.mkV rfl rfl (fun c ex h => ?_) fun X ex g h => ?_
  · rw [chkE.eq_def] at h; dsimp only at h
    split at h
    · rfl
    · cases h
  · rw [chkE.eq_def] at h; dsimp only at h
    split at h
    · simp only [Bool.and_eq_true, beq_iff_eq, decide_eq_true_eq] at h
      exact (qe_str h.1 (Nat.le_trans h.2 (by decide))).cg (Nat.zero_le _) fun δ Q q => by rw [ev] at q; exact q
    · cases h
theorem snd_op2 {o : O2} {a b : E} (ha : Snd tb C G cc k a) (hb : Snd tb C G cc k b) : Snd tb C G cc k (.op2 o a b) := by
  refine Snd.mkO rfl (fun c ex h => ?_) fun X ex g h => ?_
  · rw [chkE.eq_def] at h; dsimp only at h
    split at h
    · rfl
    · cases h
  · rw [chkE.eq_def] at h; dsimp only at h
    split at h
    · simp only [Bool.and_eq_true, beq_iff_eq] at h
      obtain ⟨⟨rfl, h1⟩, h2⟩ := h
      exact (qe_op2 o (ha.b X _ g h1) (hb.b X _ g h2)).cg (by rw [wE, Nat.mul_add]; exact Nat.le_refl _) fun δ Q q => by rw [ev] at q; exact q
    · cases h
theorem snd_neg {a : E} (ha : Snd tb C G cc k a) : Snd tb C G cc k (.neg a) := by
  refine Snd.mkV rfl rfl (fun c ex h => ?_) fun X ex g h => ?_
  · rw [chkE.eq_def] at h; dsimp only at h
    split at h
    · rfl
    · cases h
  · rw [chkE.eq_def] at h; dsimp only at h
    split at h
    · exact (qe_neg (ha.v X _ g h)).cg (by rw [wE]; exact Nat.le_refl _) fun δ Q q => by rw [ev] at q; exact q
    · cases h
theorem snd_cmp {o : C2} {a b : E} (ha : Snd tb C G cc k a) (hb : Snd tb C G cc k b) : Snd tb C G cc k (.cmp o a b) := by
  have hv : ∀ (X : Cx) (ex : Expr), Gd tb C G cc k X → chkE tb (.cmp o a b) none (ctx X) ex = true → QE X ex (cc * wE (.cmp o a b)) (RV X.K) (ev C G (.cmp o a b) .v) := fun X ex g h => by
    rw [chkE.eq_def] at h; dsimp only at h
    split at h
    · simp only [Bool.and_eq_true, beq_iff_eq] at h
      obtain ⟨⟨rfl, h1⟩, h2⟩ := h
      exact (qe_cmp (by have := g.rm.hu; omega) o (ha.b X _ g h1) (hb.b X _ g h2) (behind_ok h2 _)).cg (by rw [wE, Nat.mul_add]; exact Nat.le_refl _) fun δ Q q => by rw [ev] at q; exact q
    · cases h
  refine ⟨hv, fun _ _ _ _ f => by simp [isFresh] at f, fun X ex g h => ?_, snd_i rfl hv⟩
  rw [chkE.eq_def] at h; dsimp only at h
  split at h
  · simp only [Bool.and_eq_true, beq_iff_eq] at h
    obtain ⟨⟨rfl, h1⟩, h2⟩ := h
    exact (qw_cmp (by have := g.rm.hu; omega) o (ha.b X _ g h1) (hb.b X _ g h2) (behind_ok h2 _)).t.cg (by rw [wE, Nat.mul_add]; exact Nat.le_refl _) fun δ Q q => by rw [ev] at q; exact q
  · cases h
theorem snd_chain {o o' : C2} {a b d : E} (hC : ∀ f ds, Mono (C f ds)) (ha : Snd tb C G cc k a) (hb : Snd tb C G cc k b) (hd : Snd tb C G cc k d) : Snd tb C G cc k (.chain o o' a b d) := by
  have hv : ∀ (X : Cx) (ex : Expr), Gd tb C G cc k X → chkE tb (.chain o o' a b d) none (ctx X) ex = true → QE X ex (cc * wE (.chain o o' a b d)) (RV X.K) (ev C G (.chain o o' a b d) .v) := fun X ex g h => by
    rw [chkE.eq_def] at h; dsimp only at h
    split at h
    · simp only [Bool.and_eq_true, beq_iff_eq] at h
      obtain ⟨⟨⟨⟨rfl, rfl⟩, h1⟩, h2⟩, h3⟩ := h
      exact (qe_chain (by have := g.rm.hu; omega) o o' (ha.b X _ g h1) (hb.b X _ g h2) (hd.b X _ g h3) (last_ok h3)).cg (by rw [wE, Nat.mul_add, Nat.mul_add]; exact Nat.le_refl _) fun δ Q q => by rw [ev] at q; exact q
    · cases h
  refine ⟨hv, fun _ _ _ _ f => by simp [isFresh] at f, fun X ex g h => ?_, snd_i rfl hv⟩
  rw [chkE.eq_def] at h; dsimp only at h
  split at h
  · simp only [Bool.and_eq_true, beq_iff_eq] at h
    obtain ⟨⟨⟨⟨rfl, rfl⟩, h1⟩, h2⟩, h3⟩ := h
    refine (qt_chain (by have := g.rm.hu; omega) o o' (ha.b X _ g h1) (hb.b X _ g h2) (hd.b X _ g h3) (last_ok h3)).cg (by rw [wE, Nat.mul_add, Nat.mul_add]; exact Nat.le_refl _) fun δ Q q => ?_
    rw [ev] at q
    refine ev_mono hC a .b δ _ _ (fun x => ev_mono hC b .b δ _ _ fun y => cmpW_mono o x y _ _ fun kk hk => ?_) q
    split at hk
    · rename_i e; rw [if_pos e]; exact hk
    · rename_i e; rw [if_neg e]; exact hk
  · cases h
theorem snd_isN {a : E} (ha : Snd tb C G cc k a) : Snd tb C G cc k (.isN a) := by
  have hv : ∀ (X : Cx) (ex : Expr), Gd tb C G cc k X → chkE tb (.isN a) none (ctx X) ex = true → QE X ex (cc * wE (.isN a)) (RV X.K) (ev C G (.isN a) .v) := fun X ex g h => by
    rw [chkE.eq_def] at h; dsimp only at h
    split at h
    · exact (qe_isN (ha.v X _ g h)).cg (by rw [wE]; exact Nat.le_refl _) fun δ Q q => by rw [ev] at q; exact q
    · cases h
  refine ⟨hv, fun _ _ _ _ f => by simp [isFresh] at f, fun X ex g h => ?_, snd_i rfl hv⟩
  rw [chkE.eq_def] at h; dsimp only at h
  split at h
  · exact (qt_isN (ha.v X _ g h)).cg (by rw [wE]; exact Nat.le_refl _) fun δ Q q => by rw [ev] at q; exact q
  · cases h
theorem snd_isB {ng : Bool} {a : E} {b : Bool} (ha : Snd tb C G cc k a) : Snd tb C G cc k (.isB ng a b) := by
  have hv : ∀ (X : Cx) (ex : Expr), Gd tb C G cc k X → chkE tb (.isB ng a b) none (ctx X) ex = true → QE X ex (cc * wE (.isB ng a b)) (RV X.K) (ev C G (.isB ng a b) .v) ∧ QT X ex (cc * wE (.isB ng a b)) (fun δ Q => ev C G (.isB ng a b) .v δ fun x => boolW x Q) := fun X ex g h => by
    rw [chkE.eq_def] at h; dsimp only at h
    split at h
    · rename_i l op kk j p' pos
      simp only [Bool.and_eq_true, beq_iff_eq] at h
      obtain ⟨⟨h1, h2⟩, h3⟩ := h
      subst h2
      split at h1
      · have e : ng = false := by simpa using h1
        subst e
        exact ⟨(qe_isB0 (ha.v X _ g h3)).cg (by rw [wE]; exact Nat.le_refl _) fun δ Q q => by rw [ev] at q; simp only [Bool.bne_false] at q; exact q,
          (qt_isB0 (ha.v X _ g h3)).cg (by rw [wE]; exact Nat.le_refl _) fun δ Q q => by rw [ev] at q; simp only [Bool.bne_false, boolW] at q ⊢; exact q⟩
      · subst h1
        exact ⟨(qe_isB1 (ha.v X _ g h3)).cg (by rw [wE]; exact Nat.le_refl _) fun δ Q q => by rw [ev] at q; simp only [Bool.bne_true] at q; exact q,
          (qt_isB1 (ha.v X _ g h3)).cg (by rw [wE]; exact Nat.le_refl _) fun δ Q q => by rw [ev] at q; simp only [Bool.bne_true, boolW] at q ⊢; exact q⟩
      · cases h1
    · cases h
  exact ⟨fun X ex g h => (hv X ex g h).1, fun _ _ _ _ f => by simp [isFresh] at f, fun X ex g h => (hv X ex g h).2, snd_i rfl fun X ex g h => (hv X ex g h).1⟩
theorem snd_notN {a : E} (ha : Snd tb C G cc k a) : Snd tb C G cc k (.notN a) := by
  have hv : ∀ (X : Cx) (ex : Expr), Gd tb C G cc k X → chkE tb (.notN a) none (ctx X) ex = true → QE X ex (cc * wE (.notN a)) (RV X.K) (ev C G (.notN a) .v) := fun X ex g h => by
    rw [chkE.eq_def] at h; dsimp only at h
    split at h
    · exact (qe_notN (ha.v X _ g h)).cg (by rw [wE]; exact Nat.le_refl _) fun δ Q q => by rw [ev] at q; exact q
    · cases h
  refine ⟨hv, fun _ _ _ _ f => by simp [isFresh] at f, fun X ex g h => ?_, snd_i rfl hv⟩
  rw [chkE.eq_def] at h; dsimp only at h
  split at h
  · exact (qt_notN (ha.v X _ g h)).cg (by rw [wE]; exact Nat.le_refl _) fun δ Q q => by rw [ev] at q; exact q
  · cases h
/-- the rest of an and -/
theorem QT.wAnd {X : Cx} {vs : List Expr} {op : BoolOp} {p : Pos} {n : Nat} {f : Env → (Bool → Prop) → Prop} (h : QT X (.BoolOp op vs p) n f) : QW X (.BoolOp op vs p) n f := fun _ => h
theorem QE.noPos {X : Cx} {vs : List Expr} {op : BoolOp} {p p' : Pos} {n : Nat} {R : Mod0} {f : Env → (Dat → Prop) → Prop} (h : QE X (.BoolOp op vs p) n R f) : QE X (.BoolOp op vs p) n R f := h
theorem snd_and {a b : E} (hC : ∀ f ds, Mono (C f ds)) (ha : Snd tb C G cc k a) (hb : Snd tb C G cc k b) : Snd tb C G cc k (.and a b) := by
  have hv : ∀ (X : Cx) (ex : Expr), Gd tb C G cc k X → chkE tb (.and a b) none (ctx X) ex = true → QE X ex (cc * wE (.and a b)) (RV X.K) (ev C G (.and a b) .v) := fun X ex g h => by
    rw [chkE.eq_def] at h; dsimp only at h
    split at h
    · rename_i l r rest p
      simp only [Bool.and_eq_true] at h
      obtain ⟨h1, h2⟩ := h
      have hb2 : QE X (.BoolOp .And (r :: rest) p) (cc * wE b) (RV X.K) (ev C G b .v) := by
        cases rest with
        | nil => exact qe_one (hb.v X _ g h2)
        | cons r2 rest => exact hb.v X _ g h2
      exact (qe_and (ha.v X _ g h1) hb2).cg (by rw [wE, Nat.mul_add]; exact Nat.le_refl _) fun δ Q q => by rw [ev] at q; exact q
    · cases h
  refine ⟨hv, fun _ _ _ _ f => by simp [isFresh] at f, fun X ex g h => ?_, snd_i rfl hv⟩
  rw [chkE.eq_def] at h; dsimp only at h
  split at h
  · rename_i l r rest p
    simp only [Bool.and_eq_true] at h
    obtain ⟨h1, h2⟩ := h
    have hb2 : QW X (.BoolOp .And (r :: rest) p) (cc * wE b) (fun δ Q => ev C G b .v δ fun x => boolW x Q) := by
      cases rest with
      | nil => exact qw_and1 (hb.t X _ g h2)
      | cons r2 rest => exact (hb.t X _ g h2).wAnd
    refine (qw_and (ha.t X _ g h1) hb2).t.cg (by rw [wE, Nat.mul_add]; exact Nat.le_refl _) fun δ Q q => ?_
    rw [ev] at q
    refine ev_mono hC a .v δ _ _ (fun x => boolW_mono x _ _ fun kk hk => ?_) q
    split at hk
    · rename_i e; rw [if_pos e]; exact hk
    · rename_i e; rw [if_neg e]; exact hk
  · cases h
theorem snd_or {a b : E} (hC : ∀ f ds, Mono (C f ds)) (ha : Snd tb C G cc k a) (hb : Snd tb C G cc k b) : Snd tb C G cc k (.or a b) := by
  have hv : ∀ (X : Cx) (ex : Expr), Gd tb C G cc k X → chkE tb (.or a b) none (ctx X) ex = true → QE X ex (cc * wE (.or a b)) (RV X.K) (ev C G (.or a b) .v) := fun X ex g h => by
    rw [chkE.eq_def] at h; dsimp only at h
    split at h
    · rename_i l r rest p
      simp only [Bool.and_eq_true] at h
      obtain ⟨h1, h2⟩ := h
      have hb2 : QE X (.BoolOp .Or (r :: rest) p) (cc * wE b) (RV X.K) (ev C G b .v) := by
        cases rest with
        | nil => exact qe_one (hb.v X _ g h2)
        | cons r2 rest => exact hb.v X _ g h2
      exact (qe_or (ha.v X _ g h1) hb2).cg (by rw [wE, Nat.mul_add]; exact Nat.le_refl _) fun δ Q q => by rw [ev] at q; exact q
    · cases h
  refine ⟨hv, fun _ _ _ _ f => by simp [isFresh] at f, fun X ex g h => ?_, snd_i rfl hv⟩
  rw [chkE.eq_def] at h; dsimp only at h
  split at h
  · rename_i l r rest p
    simp only [Bool.and_eq_true] at h
    obtain ⟨h1, h2⟩ := h
    have hb2 : QW X (.BoolOp .Or (r :: rest) p) (cc * wE b) (fun δ Q => ev C G b .v δ fun x => boolW x Q) := by
      cases rest with
      | nil => exact qw_or1 (hb.t X _ g h2)
      | cons r2 rest => exact (hb.t X _ g h2).wAnd
    refine (qw_or (ha.t X _ g h1) hb2).t.cg (by rw [wE, Nat.mul_add]; exact Nat.le_refl _) fun δ Q q => ?_
    rw [ev] at q
    refine ev_mono hC a .v δ _ _ (fun x => boolW_mono x _ _ fun kk hk => ?_) q
    split at hk
    · rename_i e; rw [if_pos e]; exact hk
    · rename_i e; rw [if_neg e]; exact hk
  · cases h
theorem snd_not {a : E} (hC : ∀ f ds, Mono (C f ds)) (ha : Snd tb C G cc k a) : Snd tb C G cc k (.not a) := by
  have hv : ∀ (X : Cx) (ex : Expr), Gd tb C G cc k X → chkE tb (.not a) none (ctx X) ex = true → QE X ex (cc * wE (.not a)) (RV X.K) (ev C G (.not a) .v) := fun X ex g h => by
    rw [chkE.eq_def] at h; dsimp only at h
    split at h
    · exact (qe_not (ha.v X _ g h)).cg (by rw [wE]; exact Nat.le_refl _) fun δ Q q => by rw [ev] at q; exact q
    · cases h
  refine ⟨hv, fun _ _ _ _ f => by simp [isFresh] at f, fun X ex g h => ?_, snd_i rfl hv⟩
  rw [chkE.eq_def] at h; dsimp only at h
  split at h
  · exact (qt_not (ha.t X _ g h)).t.cg (by rw [wE]; exact Nat.le_refl _) fun δ Q q => by rw [ev] at q; exact q
  · cases h
theorem snd_ite {t a b : E} (hC : ∀ f ds, Mono (C f ds)) (ht : Snd tb C G cc k t) (ha : Snd tb C G cc k a) (hb : Snd tb C G cc k b) : Snd tb C G cc k (.ite t a b) := by
  have hv : ∀ (X : Cx) (ex : Expr), Gd tb C G cc k X → chkE tb (.ite t a b) none (ctx X) ex = true → QE X ex (cc * wE (.ite t a b)) (RV X.K) (ev C G (.ite t a b) .v) := fun X ex g h => by
    rw [chkE.eq_def] at h; dsimp only at h
    split at h
    · simp only [Bool.and_eq_true] at h
      obtain ⟨⟨h1, h2⟩, h3⟩ := h
      exact (qe_ite (fun _ _ _ _ _ _ z => z) (ht.t X _ g h1) (ha.v X _ g h2) (hb.v X _ g h3)).cg (by rw [wE, Nat.mul_add, Nat.mul_add]; exact Nat.le_refl _) fun δ Q q => by rw [ev] at q; exact q
    · cases h
  refine ⟨hv, fun _ _ _ _ f => by simp [isFresh] at f, fun X ex g h => ?_, snd_i rfl hv⟩
  rw [chkE.eq_def] at h; dsimp only at h
  split at h
  · simp only [Bool.and_eq_true] at h
    obtain ⟨⟨h1, h2⟩, h3⟩ := h
    refine (qt_ite (ht.t X _ g h1) (ha.t X _ g h2) (hb.t X _ g h3)).t.cg (by rw [wE, Nat.mul_add, Nat.mul_add]; exact Nat.le_refl _) fun δ Q q => ?_
    rw [ev] at q
    refine ev_mono hC t .v δ _ _ (fun x => boolW_mono x _ _ fun kk hk => ?_) q
    split at hk
    · rename_i e; rw [if_pos e]; exact hk
    · rename_i e; rw [if_neg e]; exact hk
  · cases h
theorem snd_tup {l : List E} (hC : ∀ f ds, Mono (C f ds)) (hl : ∀ e ∈ l, Snd tb C G cc k e) : Snd tb C G cc k (.tup l) := by
  refine Snd.mkV rfl rfl (fun c ex h => ?_) fun X ex g h => ?_
  · rw [chkE.eq_def] at h; dsimp only at h
    split at h
    · rfl
    · cases h
  · rw [chkE.eq_def] at h; dsimp only at h
    split at h
    · simp only [Bool.and_eq_true, decide_eq_true_eq] at h
      have hlen := chkL_len h.1
      exact (qe_tup (fun δ Q q => evs_mono hC l .v δ _ _ (fun ds z => ⟨by rw [z.1, hlen]; exact Nat.le_trans h.2 (by decide), z.2⟩) (evs_len l .v δ Q hC q)) (qa_v hl X _ g h.1)).cg (by rw [wE]; exact Nat.le_refl _) fun δ Q q => by rw [ev] at q; exact q
    · cases h
theorem snd_lst {l : List E} (hC : ∀ f ds, Mono (C f ds)) (hl : ∀ e ∈ l, Snd tb C G cc k e) : Snd tb C G cc k (.lst l) := by
  refine Snd.mkO rfl (fun c ex h => ?_) fun X ex g h => ?_
  · rw [chkE.eq_def] at h; dsimp only at h
    split at h
    · rfl
    · cases h
  · rw [chkE.eq_def] at h; dsimp only at h
    split at h
    · simp only [Bool.and_eq_true, decide_eq_true_eq] at h
      have hlen := chkL_len h.1
      exact (qe_lst (fun δ Q q => evs_mono hC l .v δ _ _ (fun ds z => ⟨by rw [z.1, hlen]; exact Nat.le_trans h.2 (by decide), z.2⟩) (evs_len l .v δ Q hC q)) (qa_v hl X _ g h.1)).cg (by rw [wE]; exact Nat.le_refl _) fun δ Q q => by rw [ev] at q; exact q
    · cases h
theorem snd_idx {a i : E} (ha : Snd tb C G cc k a) (hi : Snd tb C G cc k i) : Snd tb C G cc k (.idx a i) := by
  refine Snd.mkV rfl rfl (fun c ex h => ?_) fun X ex g h => ?_
  · rw [chkE.eq_def] at h; dsimp only at h
    split at h
    · rfl
    · cases h
  · rw [chkE.eq_def] at h; dsimp only at h
    split at h
    · simp only [Bool.and_eq_true] at h
      exact (qe_idx (by have := g.rm.hu; omega) (plainIx_ok h.2) (ha.b X _ g h.1) (hi.v X _ g h.2).b).cg (by rw [wE, Nat.mul_add]; exact Nat.le_refl _) fun δ Q q => by rw [ev] at q; exact q
    · cases h
theorem qp_non {X : Cx} (n : Nat) : QP X none n (ev C G .non .v) := fun E pins s σ H δ m Φ ht I er pl hf => by
  have hf' : Φ .non := by rw [ev] at hf; exact hf
  exact thn (qp_none E pins s σ H δ (n + m) Φ ht I er (pl.mono (by omega)) hf') fun u s' ⟨t, H', d, h1, h2, h3, h4⟩ => ⟨t, H', d, h1, h2.mono (Nat.zero_le _), h3, h4⟩
theorem snd_slc {a lo hi : E} (ha : Snd tb C G cc k a) (hl : Snd tb C G cc k lo) (hh : Snd tb C G cc k hi) : Snd tb C G cc k (.slc a lo hi) := by
  refine Snd.mkO rfl (fun c ex h => ?_) fun X ex g h => ?_
  · rw [chkE.eq_def] at h; dsimp only at h
    split at h
    · rfl
    · cases h
  · rw [chkE.eq_def] at h; dsimp only at h
    split at h
    · rename_i v l u p1 p2
      simp only [Bool.and_eq_true] at h
      obtain ⟨⟨h1, h2⟩, h3⟩ := h
      have q1 : QP X l (cc * wE lo) (ev C G lo .v) := by
        cases l with
        | none =>
          cases lo <;> first
            | exact qp_non _
            | cases h2
        | some l => exact qp_some (hl.v X _ g h2)
      have q2 : QP X u (cc * wE hi) (ev C G hi .v) := by
        cases u with
        | none =>
          cases hi <;> first
            | exact qp_non _
            | cases h3
        | some l => exact qp_some (hh.v X _ g h3)
      exact (qe_slc (ha.b X _ g h1) q1 q2).cg (by rw [wE, Nat.mul_add, Nat.mul_add]; exact Nat.le_refl _) fun δ Q q => by rw [ev] at q; exact q
    · cases h
theorem snd_lzip {a b : E} (ha : Snd tb C G cc k a) (hb : Snd tb C G cc k b) : Snd tb C G cc k (.lzip a b) := by
  refine Snd.mkO rfl (fun c ex h => ?_) fun X ex g h => ?_
  · rw [chkE.eq_def] at h; dsimp only at h
    split at h
    · rfl
    · cases h
  · rw [chkE.eq_def] at h; dsimp only at h
    split at h
    · rename_i x p y l r p2 pos2 pos
      simp only [Bool.and_eq_true] at h
      obtain ⟨h1, h2, h3, h4⟩ := h
      obtain ⟨e1, hg, hm⟩ := blt_of g h1
      obtain ⟨e2, hg2, hm2⟩ := blt_of g h2
      subst e1
      subst e2
      exact (qe_lzip g.calm hg hm hg2 hm2 (ha.b X _ g h3) (hb.b X _ g h4) (star_ok h3 _ _) (star_ok h4 [] X.env) rfl).cg (by rw [wE, Nat.mul_add]; exact Nat.le_refl _) fun δ Q q => by rw [ev] at q; exact q
    · cases h
theorem snd_slcS {a kk : E} (ha : Snd tb C G cc k a) (hk : Snd tb C G cc k kk) : Snd tb C G cc k (.slcS a kk) := by
  refine Snd.mkO rfl (fun c ex h => ?_) fun X ex g h => ?_
  · rw [chkE.eq_def] at h; dsimp only at h
    split at h
    · rfl
    · cases h
  · rw [chkE.eq_def] at h; dsimp only at h
    split at h
    · rename_i v q p1 p2
      rw [Bool.and_eq_true] at h
      exact (qe_slcS (ha.b X _ g h.1) (hk.v X _ g h.2)).cg (by rw [wE, Nat.mul_add]; exact Nat.le_refl _) fun δ Q q => by rw [ev] at q; exact q
    · cases h
end
end SF

/-! D6f: calls of builtins, comprehensions; all expressions. -/
namespace SF
open PySem PySem.Spec PyProof.Rows L2
section
variable {tb : Tb} {C : Nat → List Dat → (Dat → Prop) → Prop} {G : Nat → Option Dat} {cc k : Nat}
/-- the first argument's tree -/
theorem head_star {c : Ck} {l : List E} {e : Expr} {es : List Expr} (h : chkL tb l c (e :: es) = true) (env : PySem.Env) : starEach (e :: es) env = (false, eval e env) :: starEach es env := by
  cases l with
  | nil => simp [chkL] at h
  | cons a l => simp only [chkL, Bool.and_eq_true] at h; exact star_ok h.1 _ _
theorem tail_plain {c : Ck} {l : List E} {e : Expr} {es : List Expr} (h : chkL tb l c (e :: es) = true) (pos : Pos) (env : PySem.Env) : (backTo pos (starEach es env)).any (·.1) = false := by
  cases l with
  | nil => simp [chkL] at h
  | cons a l => simp only [chkL, Bool.and_eq_true] at h; exact plain_ok h.2 _ _
theorem snd_bi {b : B1} {l : List E} (hC : ∀ f ds, Mono (C f ds)) (hl : ∀ e ∈ l, Snd tb C G cc k e) : Snd tb C G cc k (.bi b l) := by
  refine Snd.mkO rfl (fun c ex h => ?_) fun X ex g h => ?_
  · rw [chkE.eq_def] at h; dsimp only at h
    split at h
    · rfl
    · cases h
  · rw [chkE.eq_def] at h; dsimp only at h
    split at h
    · simp only [Bool.and_eq_true] at h
      obtain ⟨⟨h1, h2⟩, h3⟩ := h
      obtain ⟨u, hu⟩ := Option.isSome_iff_exists.mp h2
      obtain ⟨e1, hg, hm⟩ := blt_of g h1
      exact (qe_bi g.rm.hu g.rm.gu g.calm b u hu e1 hg hm (by rw [e1]; exact b1_boot hu) (qa_b hl X _ g h3) (head_star h3 _) (tail_plain h3 _ _)).cg (by rw [wE]; exact Nat.le_refl _) fun δ Q q => by rw [ev] at q; exact q
    · cases h
theorem snd_isi {a : E} {t : Ty} (ha : Snd tb C G cc k a) : Snd tb C G cc k (.isi a t) := by
  refine Snd.mkV rfl rfl (fun c ex h => ?_) fun X ex g h => ?_
  · rw [chkE.eq_def] at h; dsimp only at h
    split at h
    · rfl
    · cases h
  · rw [chkE.eq_def] at h; dsimp only at h
    split at h
    · rename_i x p e y p' pos
      simp only [Bool.and_eq_true] at h
      obtain ⟨⟨h1, h2⟩, h3⟩ := h
      obtain ⟨e1, hg, hm⟩ := blt_of g h1
      obtain ⟨e2, hg2, hm2⟩ := blt_of g h2
      have hy : QE X (.Name y p') 0 (RT (tyOf t)) (fun _ Q => Q .non) := by
        refine qe_ty hg2 hm2 (by rw [e2]; exact ty_boot t) ?_ ?_
        · rw [e2]; cases t <;> decide
        · rw [e2]; cases t <;> decide
      exact (qe_isi t e1 hg hm (ha.v X _ g h3) hy (star_ok h3 _ _) rfl rfl).cg (by rw [wE]; exact Nat.le_refl _) fun δ Q q => by rw [ev] at q; exact q
    · cases h
theorem snd_me {m : M1} {o : E} {l : List E} (hC : ∀ f ds, Mono (C f ds)) (ho : Snd tb C G cc k o) (hl : ∀ e ∈ l, Snd tb C G cc k e) : Snd tb C G cc k (.me m o l) := by
  have hp : ∀ (c : Ck) (ex : Expr), chkE tb (.me m o l) none c ex = true → plainT ex = true := fun c ex h => by
    rw [chkE.eq_def] at h; dsimp only at h
    split at h
    · rfl
    · cases h
  have hv : ∀ (X : Cx) (ex : Expr), Gd tb C G cc k X → chkE tb (.me m o l) none (ctx X) ex = true → QE X ex (cc * wE (.me m o l)) (ROw X.K) (ev C G (.me m o l) .v) := fun X ex g h => by
    rw [chkE.eq_def] at h; dsimp only at h
    split at h
    · rename_i v nm ap e es cp
      simp only [Bool.and_eq_true, beq_iff_eq, decide_eq_true_eq] at h
      obtain ⟨⟨⟨⟨⟨⟨h1, h2⟩, h3⟩, h4⟩, h5⟩, h6⟩, h7⟩ := h
      have hbase := base_ok h1 nm X.env (eval v X.env)
      have hline : (ap.endLine == cp.line) = true := beq_iff_eq.mpr h3
      have hst := head_star h6 X.env
      have hfew : ((backTo cp (starEach (e :: es) X.env)).all (fun x => !x.1) && (backToKw cp (keywordEach [] X.env)).all (fun x => x.1.isSome) && decide ((e :: es).length + ([] : List Keyword).length + (if ([] : List Keyword).isEmpty then 0 else 1) < 30)) = true := by
        rw [all_ok h6]
        have : (e :: es).length + ([] : List Keyword).length + (if ([] : List Keyword).isEmpty then 0 else 1) < 30 := by
          simp only [List.length_cons, List.length_nil, List.isEmpty_nil, if_true]; omega
        rw [decide_eq_true this]
        rfl
      have gen : (∀ E d, meOk m d = true → MetR (X.wish E) m d) → QE X (.Call (.Attribute v nm ap) (e :: es) [] cp) (cc * wE (.me m o l)) (ROw X.K) (ev C G (.me m o l) .v) := fun hm =>
        (qe_me h2 hm (ho.b X _ g h5) (qa_b hl X _ g h6) hbase hfew hline hst (tail_plain h6 _ _)).cg (by rw [wE, Nat.mul_add]; exact Nat.le_refl _) fun δ Q q => by rw [ev] at q; exact q
      cases m with
      | index => exact gen fun E d ok => met_index (X := X.wish E) g.rm.hu ok
      | join => exact gen fun E d ok => met_join ok
      | lstrip => exact gen fun E d ok => met_lstrip ok
      | replace =>
        have key : ∃ y j c0 z k' c1 ya zl, e = .Constant (.str y) j c0 ∧ es = [.Constant (.str z) k' c1] ∧ l = [.str ya, .str zl] := by
          dsimp only at h7
          split at h7 <;> first
            | exact ⟨_, _, _, _, _, _, _, _, rfl, rfl, rfl⟩
            | (split at h7 <;> first
                | exact ⟨_, _, _, _, _, _, _, _, rfl, rfl, rfl⟩
                | cases h7)
            | cases h7
        obtain ⟨y, j, c0, z, k', c1, ya, zl, rfl, rfl, rfl⟩ := key
        simp only [chkL, Bool.and_eq_true] at h6
        have hy := h6.1
        have hz := h6.2.1
        rw [chkE.eq_def] at hy hz
        dsimp only at hy hz
        simp only [Bool.and_eq_true, beq_iff_eq] at hy hz
        subst h2
        refine (qe_replace (X := X) hy.1 hz.1 (ho.b X _ g h5) rfl hbase hline).cg (by rw [wE, Nat.mul_add]; omega) fun δ Q q => ?_
        rw [ev] at q
        refine ev_mono hC o .b δ _ _ (fun x hx => ⟨hx.1, ?_⟩) q
        have := hx.2
        simp only [evs, ev] at this
        exact this
      | get => cases h7
      | upper => cases h7
      | count => cases h7
      | split => cases h7
      | partition => cases h7
      | startswith => cases h7
    · cases h
  exact ⟨fun X ex g h => (hv X ex g h).frz, fun _ _ _ _ f => by simp [isFresh] at f, fun X ex g h => qt_val (hv X ex g h).frz fun whole => isTrue_of (hp _ _ h) _ whole, snd_i rfl fun X ex g h => (hv X ex g h).frz⟩
theorem mul3 {a b c d : Nat} : a * b + sizeLine * (a * c + a * d) = a * (b + sizeLine * (c + d)) := by
  rw [Nat.mul_add a b, ← Nat.mul_add a c d, ← Nat.mul_assoc, Nat.mul_comm sizeLine a, Nat.mul_assoc]
/-- the parts of a comprehension -/
theorem comp_parts {own : List Nat} {p : P} {it t e : E} {X : Cx} {elt tg iter : Expr} {ifs : List Expr} {scope : Scope}
    (h : (notSet iter && chkE tb it (some tg) (ctx X) iter && blkB (ctx X) scope own && ((varsP p).all fun i => own.contains i) && chkP ((ctx X).blk scope) p tg &&
      (match ifs with
      | [] => (match t with | .bl true => true | _ => false)
      | [x] => chkE tb t none ((ctx X).blk scope) x
      | _ => false) && chkE tb e none ((ctx X).blk scope) elt) = true) (hC : ∀ f ds, Mono (C f ds)) (hi : Snd tb C G cc k it) (ht : Snd tb C G cc k t) (he : Snd tb C G cc k e) (g : Gd tb C G cc k X) :
    (∀ x, foldedSetIterable iter X.env x = pure x) ∧ QI X tg iter (cc * wE it) true (isZ it) (ev C G it .i) ∧ BlkOk X.N X.env.scope scope (own.map fun i => (X.N.getD i "", i)) ∧ (isZ it = true → isT p = true) ∧ (∀ i ∈ varsP p, i ∈ (own.map fun i => (X.N.getD i "", i)).map (·.2)) ∧
      (∀ (s : Shared) (H : Hp) (Ca : Addr) (cl : List (Str × Addr)) (fp : List Addr), TgOk (X.blk s H scope (compEnvC scope cl Ca X.env) fp) tg p) ∧
      (∀ (s : Shared) (H : Hp) (Ca : Addr) (cl : List (Str × Addr)) (fp : List Addr), QTs (X.blk s H scope (compEnvC scope cl Ca X.env) fp) ifs (cc * wE t) fun δ Q => ev C G t .v δ fun x => boolW x Q) ∧
      (∀ (s : Shared) (H : Hp) (Ca : Addr) (cl : List (Str × Addr)) (fp : List Addr), QE (X.blk s H scope (compEnvC scope cl Ca X.env) fp) elt (cc * wE e) (RV X.K) (ev C G e .v)) := by
  simp only [Bool.and_eq_true] at h
  obtain ⟨⟨⟨⟨⟨⟨h1, h2⟩, h3⟩, h4⟩, h5⟩, h6⟩, h7⟩ := h
  have ok := blkOk_of h3
  have hk : scope.kind = .function := ok.kind
  refine ⟨folded_ok h1 X.env, hi.i X tg iter true g h2 (fun e => nomatch e), ok, fun hz => ?_, fun i hi => ?_, fun s H Ca cl fp => ?_, fun s H Ca cl fp => ?_, fun s H Ca cl fp => ?_⟩
  · have htg : ∃ a b c, tg = .Tuple a b c := by
      cases tg <;> first
        | exact ⟨_, _, _, rfl⟩
        | (exfalso
           cases it <;> first
             | (simp [isZ] at hz; done)
             | (rw [chkE.eq_def] at h2; simp at h2; done))
    obtain ⟨a, b, c, rfl⟩ := htg
    cases p with
    | v i => simp [chkP] at h5
    | t ps => rfl
  · have := List.all_eq_true.mp h4 i hi
    rw [List.map_map]
    have : i ∈ own := by simpa using this
    exact List.mem_map.mpr ⟨i, this, rfl⟩
  · exact tgOk_of (X := X.blk s H scope (compEnvC scope cl Ca X.env) fp) (g.blk hk s H Ca cl fp) h5
  · have g' := g.blk hk s H Ca cl fp
    split at h6
    · split at h6
      · exact fun E pins s σ H δ m Φ ht I er pl hf => thn (qts_nil E pins s σ H δ (cc * wE (.bl true) + m) Φ ht I er (pl.mono (by omega)) (by simp only [ev] at hf; exact hf)) fun b s1 q => q.step (Step.refl H) (by omega)
      · cases h6
    · exact qts_one (ht.t _ _ g' h6)
    · cases h6
  · exact he.v _ _ (g.blk hk s H Ca cl fp) h7
theorem map_snd (own : List Nat) (N : List Str) : (own.map fun i => (N.getD i "", i)).map (·.2) = own := by
  rw [List.map_map]
  exact List.map_id' own
theorem snd_comp {own : List Nat} {p : P} {it t e : E} (hC : ∀ f ds, Mono (C f ds)) (hi : Snd tb C G cc k it) (ht : Snd tb C G cc k t) (he : Snd tb C G cc k e) : Snd tb C G cc k (.comp own p it t e) := by
  refine Snd.mkO rfl (fun c ex h => ?_) fun X ex g h => ?_
  · rw [chkE.eq_def] at h; dsimp only at h
    split at h
    · rfl
    · cases h
  · rw [chkE.eq_def] at h; dsimp only at h
    split at h
    · rename_i elt tg iter ifs a scope pos
      have ea : a = 0 := by
        simp only [Bool.and_eq_true, beq_iff_eq] at h
        exact h.1.1.1.1.1.1.1
      subst ea
      obtain ⟨q1, q2, q3, q4, q5, q6, q7, q8⟩ := comp_parts (tb := tb) (X := X) (it := it) (t := t) (e := e) (ifs := ifs) (scope := scope) (elt := elt) (tg := tg) (iter := iter) (p := p) (own := own) (by
        simp only [Bool.and_eq_true] at h ⊢
        obtain ⟨⟨⟨⟨⟨⟨⟨_, h1⟩, h2⟩, h3⟩, h4⟩, h5⟩, h6⟩, h7⟩ := h
        exact ⟨⟨⟨⟨⟨⟨h1, h2⟩, h3⟩, h4⟩, h5⟩, h6⟩, h7⟩) hC hi ht he g
      refine (qe_comp g.calm g.nd q2 q3 q4 q5 q6 q7 q8 q1 fun δ => ev_mono hC it .i δ).cg (by rw [wE, ← mul3]; exact Nat.le_refl _) fun δ Q q => ?_
      rw [ev] at q
      rw [map_snd]
      exact q
    · cases h
theorem snd_dnew : Snd tb C G cc k .dnew := by
  refine Snd.mkO rfl (fun c ex h => ?_) fun X ex g h => ?_
  · rw [chkE.eq_def] at h; dsimp only at h
    split at h
    · rfl
    · cases h
  · rw [chkE.eq_def] at h; dsimp only at h
    split at h
    · exact (qe_dnew (X := X)).cg (Nat.zero_le _) fun δ Q q => by rw [ev] at q; exact q
    · cases h
theorem snd_sset {a : E} (hC : ∀ f ds, Mono (C f ds)) (ha : Snd tb C G cc k a) : Snd tb C G cc k (.sset a) := by
  refine Snd.mkO rfl (fun c ex h => ?_) fun X ex g h => ?_
  · rw [chkE.eq_def] at h; dsimp only at h
    split at h
    · rfl
    · cases h
  · rw [chkE.eq_def] at h; dsimp only at h
    split at h
    · rename_i x p y p2 l pos2 pos
      simp only [Bool.and_eq_true] at h
      obtain ⟨h1, h2, h3⟩ := h
      obtain ⟨e1, hg, hm⟩ := blt_of g h1
      obtain ⟨e2, hg2, hm2⟩ := blt_of g h2
      subst e1
      subst e2
      refine (qe_sortS g.rm.hu g.calm hg hm (qe_setT g.calm hg2 hm2 (ha.b X _ g h3) (star_ok h3 [] X.env)) rfl).cg (by rw [wE]; exact Nat.le_refl _) fun δ Q q => ?_
      rw [ev] at q
      exact ev_mono hC a .b δ _ _ (fun x ⟨l, e, hl, q⟩ => ⟨l, e, hl, l, e, q⟩) q
    · cases h
theorem snd_scomp {own : List Nat} {p : P} {it t e : E} (hC : ∀ f ds, Mono (C f ds)) (hi : Snd tb C G cc k it) (ht : Snd tb C G cc k t) (he : Snd tb C G cc k e) : Snd tb C G cc k (.scomp own p it t e) := by
  refine Snd.mkO rfl (fun c ex h => ?_) fun X ex g h => ?_
  · rw [chkE.eq_def] at h; dsimp only at h
    split at h
    · rfl
    · cases h
  · rw [chkE.eq_def] at h; dsimp only at h
    split at h
    · rename_i y py elt tg iter ifs a scope pos pos2
      rw [Bool.and_eq_true] at h
      obtain ⟨hb, h⟩ := h
      obtain ⟨e1, hg, hm⟩ := blt_of g hb
      subst e1
      have ea : a = 0 := by
        simp only [Bool.and_eq_true, beq_iff_eq] at h
        exact h.1.1.1.1.1.1.1
      subst ea
      obtain ⟨q1, q2, q3, q4, q5, q6, q7, q8⟩ := comp_parts (tb := tb) (X := X) (it := it) (t := t) (e := e) (ifs := ifs) (scope := scope) (elt := elt) (tg := tg) (iter := iter) (p := p) (own := own) (by
        simp only [Bool.and_eq_true] at h ⊢
        obtain ⟨⟨⟨⟨⟨⟨⟨_, h1⟩, h2⟩, h3⟩, h4⟩, h5⟩, h6⟩, h7⟩ := h
        exact ⟨⟨⟨⟨⟨⟨h1, h2⟩, h3⟩, h4⟩, h5⟩, h6⟩, h7⟩) hC hi ht he g
      refine (qe_sortS g.rm.hu g.calm hg hm (qe_scomp g.calm g.nd q2 q3 q4 q5 q6 q7 q8 q1 (fun δ => ev_mono hC it .i δ) fun δ => ev_mono hC e .v δ) rfl).cg (by rw [wE, ← mul3]; exact Nat.le_refl _) fun δ Q q => ?_
      rw [ev] at q
      rw [map_snd]
      refine ev_mono hC it .i δ _ _ (fun x ⟨ds, q1, q2, q3⟩ => ⟨ds, q1, q2, ?_⟩) q
      exact mapW_mono (fun d P Q h hp => by
        refine bindP_mono p d _ _ _ (fun δ' => ev_mono hC t .v δ' _ _ fun b => boolW_mono b _ _ fun k hk => ?_) hp
        split at hk
        · rename_i hkk
          rw [if_pos hkk]
          exact ev_mono hC e .v δ' _ _ (fun y ⟨t, q1, q2⟩ => ⟨t, q1, h _ q2⟩) hk
        · rename_i hkk
          rw [if_neg hkk]
          exact h _ hk) ds _ _ (fun ys ⟨l, q1, q2⟩ => ⟨l, by rw [q1], q2⟩) q3
    · cases h
theorem map_own (N : List Str) (own : List Nat) : (own.map fun i => (N.getD i "", i)).map (·.2) = own := by rw [List.map_map]; exact List.map_id' own
theorem comp2_lcr {own : List Nat} {p p1 : P} {it t it1 t1 e : E} {X : Cx} {elt tg iter tg1 iter1 : Expr} {ifs ifs1 : List Expr} {scope : Scope}
    (h : (notSet iter && (notSet iter1 && (noObs it1 && (chkE tb it (some tg) (ctx X) iter && (chkE tb it1 (some tg1) ((ctx X).blk scope) iter1 && (blkB (ctx X) scope own && (((varsP p).all fun i => own.contains i) && (((varsP p1).all fun i => own.contains i) && (chkP ((ctx X).blk scope) p tg && (chkP ((ctx X).blk scope) p1 tg1 &&
      ((match ifs with
      | [] => (match t with | .bl true => true | _ => false)
      | [x] => chkE tb t none ((ctx X).blk scope) x
      | _ => false) && ((match ifs1 with
      | [] => (match t1 with | .bl true => true | _ => false)
      | [x] => chkE tb t1 none ((ctx X).blk scope) x
      | _ => false) && chkE tb e none ((ctx X).blk scope) elt)))))))))))) = true) (hC : ∀ f ds, Mono (C f ds)) (hi : Snd tb C G cc k it) (ht : Snd tb C G cc k t) (hi1 : Snd tb C G cc k it1) (ht1 : Snd tb C G cc k t1) (he : Snd tb C G cc k e) (g : Gd tb C G cc k X) :
    LCR X elt iter [⟨tg, iter, ifs, 0⟩, ⟨tg1, iter1, ifs1, 0⟩] scope (cc * wE (.comp2 own p it t p1 it1 t1 e)) (fun δ Q => ev C G it .i δ fun x => ∃ ds B, iterD x = some ds ∧ ds.length * B ≤ big ∧
      flatW (turn2W p (wipeD δ own) (fun δ Q => ev C G t .v δ fun x => boolW x Q) B (ev C G it1 .i) p1 (fun δ Q => ev C G t1 .v δ fun x => boolW x Q) (ev C G e .v)) ds Q) := by
  simp only [Bool.and_eq_true] at h
  obtain ⟨h1, h1', ho, h2, h2', h3, h4, h4', h5, h5', h6, h6', h7⟩ := h
  have ok := blkOk_of h3
  have hk : scope.kind = .function := ok.kind
  have tup : ∀ {it : E} {c : Ck} {tg iter : Expr} {p : P}, chkE tb it (some tg) c iter = true → chkP ((ctx X).blk scope) p tg = true → isZ it = true → isT p = true := fun {it c tg iter p} h2 h5 hz => by
    have htg : ∃ a b c, tg = .Tuple a b c := by
      cases tg <;> first
        | exact ⟨_, _, _, rfl⟩
        | (exfalso
           cases it <;> first
             | (simp [isZ] at hz; done)
             | (rw [chkE.eq_def] at h2; simp at h2; done))
    obtain ⟨a, b, c, rfl⟩ := htg
    cases p with
    | v i => simp [chkP] at h5
    | t ps => rfl
  have inOwn : ∀ {p : P}, ((varsP p).all fun i => own.contains i) = true → ∀ i ∈ varsP p, i ∈ (own.map fun i => (X.N.getD i "", i)).map (·.2) := fun {p} h4 i hi => by
    have := List.all_eq_true.mp h4 i hi
    rw [map_own]
    simpa using this
  have tests : ∀ {ifs : List Expr} {t : E}, (match ifs with
      | [] => (match t with | .bl true => true | _ => false)
      | [x] => chkE tb t none ((ctx X).blk scope) x
      | _ => false) = true → Snd tb C G cc k t → ∀ (s : Shared) (H : Hp) (Ca : Addr) (cl : List (Str × Addr)) (fp : List Addr), QTs (X.blk s H scope (compEnvC scope cl Ca X.env) fp) ifs (cc * wE t) fun δ Q => ev C G t .v δ fun x => boolW x Q := fun {ifs t} h6 ht s H Ca cl fp => by
    have g' := g.blk hk s H Ca cl fp
    split at h6
    · split at h6
      · exact fun E pins s σ H δ m Φ t0 I er pl hf => thn (qts_nil E pins s σ H δ m Φ t0 I er (pl.mono (by omega)) (by simpa [ev, boolW] using hf)) fun b s' ⟨t', H', I', st, q⟩ => ⟨t', H', I', st.mono (Nat.zero_le _), q⟩
      · cases h6
    · exact qts_one (ht.t _ _ g' h6)
    · cases h6
  refine LCR.cg (lc2_run (X := X) (elt := elt) (ifs := ifs) (ifs1 := ifs1) g.calm g.nd (hi.i X tg iter true g h2 (fun e => nomatch e)) ok (tup h2 h5) (tup (c := (ctx X).blk scope) h2' h5') (inOwn h4) (inOwn h4')
    (fun s H Ca cl fp => tgOk_of (g.blk hk s H Ca cl fp) h5) (tests h6 ht) (fun s H Ca cl fp => hi1.i _ tg1 iter1 false (g.blk hk s H Ca cl fp) h2' (fun _ => ho)) (fun s H Ca cl fp => tgOk_of (g.blk hk s H Ca cl fp) h5') (tests h6' ht1)
    (fun s H Ca cl fp => he.v _ elt (g.blk hk s H Ca cl fp) h7) (folded_ok h1 X.env) (fun env x => folded_ok h1' env x) (fun δ => ev_mono hC it .i δ) (fun δ => ev_mono hC it1 .i δ)) ?_ fun δ Q q => ?_
  · rw [wE.eq_def (.comp2 _ _ _ _ _ _ _ _)]
    dsimp only
    have a1 : ∀ x y : Nat, cc * (x + y) = cc * x + cc * y := fun x y => Nat.mul_add _ _ _
    have a2 : ∀ x : Nat, cc * (sizeLine * x) = sizeLine * (cc * x) := fun x => by rw [← Nat.mul_assoc, Nat.mul_comm cc, Nat.mul_assoc]
    rw [a1, a2, a1, a1, a2, a1]
    exact Nat.le_refl _
  · rw [map_own]
    exact q
theorem snd_comp2 {own : List Nat} {p p1 : P} {it t it1 t1 e : E} (hC : ∀ f ds, Mono (C f ds)) (hi : Snd tb C G cc k it) (ht : Snd tb C G cc k t) (hi1 : Snd tb C G cc k it1) (ht1 : Snd tb C G cc k t1) (he : Snd tb C G cc k e) : Snd tb C G cc k (.comp2 own p it t p1 it1 t1 e) := by
  refine Snd.mkO rfl (fun c ex h => ?_) fun X ex g h => ?_
  · rw [chkE.eq_def] at h; dsimp only at h
    split at h
    · rfl
    · cases h
  · rw [chkE.eq_def] at h; dsimp only at h
    split at h
    · rename_i elt tg iter ifs a tg1 iter1 ifs1 a1 scope pos
      rw [Bool.and_eq_true, Bool.and_eq_true] at h
      obtain ⟨h0, h0', h⟩ := h
      have ea := eq_of_beq h0
      have ea' := eq_of_beq h0'
      subst ea ea'
      exact (qe_lcr (pos := pos) (comp2_lcr h hC hi ht hi1 ht1 he g) (fun _ => rfl) rfl).cg (Nat.le_refl _) fun δ Q q => by rw [ev] at q; exact q
    · cases h
theorem snd_zip {a b : E} (ha : Snd tb C G cc k a) (hb : Snd tb C G cc k b) : Snd tb C G cc k (.zip a b) := by
  have no : ∀ (c : Ck) (ex : Expr), chkE tb (.zip a b) none c ex ≠ true := fun c ex h => by rw [chkE.eq_def] at h; dsimp only at h; cases h
  refine ⟨fun X ex g h => absurd h (no _ _), fun X ex g h => absurd h (no _ _), fun X ex g h => absurd h (no _ _), fun X tg ex bb g h ho => ?_⟩
  rw [chkE.eq_def] at h; dsimp only at h
  split at h
  · rename_i elts kk tpos x p l r pos heq
    cases heq
    simp only [Bool.and_eq_true] at h
    obtain ⟨⟨h1, h2⟩, h3⟩ := h
    obtain ⟨e1, hg, hm⟩ := blt_of g h1
    subst e1
    have s2 : starEach [r] X.env = [(false, eval r X.env)] := star_ok h3 [] X.env
    cases bb with
    | true => exact (qi_zip (bb := true) hg hm (ha.b X _ g h2) (hb.b X _ g h3) (star_ok h2 _ _) s2).cg (by rw [wE, Nat.mul_add]; exact Nat.le_refl _) fun δ Q q => by simp only [ev] at q; exact q
    | false =>
      have ho := ho rfl
      have oa : ∀ i, a ≠ .obs i := fun i z => by subst z; simp [noObs] at ho
      have ob : ∀ i, b ≠ .obs i := fun i z => by subst z; simp [noObs] at ho
      have ba : QE X l (cc * wE a) (RV X.K) (ev C G a .b) := (ha.v X _ g h2).cg (Nat.le_refl _) fun δ Q => ev_bv oa δ Q
      have bb' : QE X r (cc * wE b) (RV X.K) (ev C G b .b) := (hb.v X _ g h3).cg (Nat.le_refl _) fun δ Q => ev_bv ob δ Q
      exact (qi_zip (bb := false) hg hm ba bb' (star_ok h2 _ _) s2).cg (by rw [wE, Nat.mul_add]; exact Nat.le_refl _) fun δ Q q => by simp only [ev] at q; exact q
  · cases h
theorem snd_enum {a : E} (ha : Snd tb C G cc k a) : Snd tb C G cc k (.enum a) := by
  have no : ∀ (c : Ck) (ex : Expr), chkE tb (.enum a) none c ex ≠ true := fun c ex h => by rw [chkE.eq_def] at h; dsimp only at h; cases h
  refine ⟨fun X ex g h => absurd h (no _ _), fun X ex g h => absurd h (no _ _), fun X ex g h => absurd h (no _ _), fun X tg ex bb g h ho => ?_⟩
  rw [chkE.eq_def] at h; dsimp only at h
  split at h
  · rename_i elts kk tpos x p l pos heq
    cases heq
    simp only [Bool.and_eq_true] at h
    obtain ⟨h1, h2⟩ := h
    obtain ⟨e1, hg, hm⟩ := blt_of g h1
    subst e1
    have s1 : starEach [l] X.env = [(false, eval l X.env)] := star_ok h2 [] X.env
    cases bb with
    | true => exact (qi_enum (bb := true) hg hm (ha.b X _ g h2) s1).cg (by rw [wE]; exact Nat.le_refl _) fun δ Q q => by simp only [ev] at q; exact q
    | false =>
      have ho := ho rfl
      have oa : ∀ i, a ≠ .obs i := fun i z => by subst z; simp [noObs] at ho
      have ba : QE X l (cc * wE a) (RV X.K) (ev C G a .b) := (ha.v X _ g h2).cg (Nat.le_refl _) fun δ Q => ev_bv oa δ Q
      exact (qi_enum (bb := false) hg hm ba s1).cg (by rw [wE]; exact Nat.le_refl _) fun δ Q q => by simp only [ev] at q; exact q
  · cases h
theorem snd_range {a : E} (ha : Snd tb C G cc k a) : Snd tb C G cc k (.range a) := by
  have no : ∀ (c : Ck) (ex : Expr), chkE tb (.range a) none c ex ≠ true := fun c ex h => by rw [chkE.eq_def] at h; dsimp only at h; cases h
  refine ⟨fun X ex g h => absurd h (no _ _), fun X ex g h => absurd h (no _ _), fun X ex g h => absurd h (no _ _), fun X tg ex bb g h ho => ?_⟩
  rw [chkE.eq_def] at h; dsimp only at h
  split at h
  · simp only [Bool.and_eq_true] at h
    obtain ⟨h1, h2⟩ := h
    obtain ⟨e1, hg, hm⟩ := blt_of g h1
    subst e1
    exact (qi_range hg hm (ha.v X _ g h2) (star_ok h2 [] X.env)).cg (by rw [wE]; exact Nat.le_refl _) fun δ Q q => by simp only [ev] at q; exact q
  · cases h
theorem snd_range2 {a b : E} (ha : Snd tb C G cc k a) (hb : Snd tb C G cc k b) : Snd tb C G cc k (.range2 a b) := by
  have no : ∀ (c : Ck) (ex : Expr), chkE tb (.range2 a b) none c ex ≠ true := fun c ex h => by rw [chkE.eq_def] at h; dsimp only at h; cases h
  refine ⟨fun X ex g h => absurd h (no _ _), fun X ex g h => absurd h (no _ _), fun X ex g h => absurd h (no _ _), fun X tg ex bb g h ho => ?_⟩
  rw [chkE.eq_def] at h; dsimp only at h
  split at h
  · simp only [Bool.and_eq_true] at h
    obtain ⟨⟨h1, h2⟩, h3⟩ := h
    obtain ⟨e1, hg, hm⟩ := blt_of g h1
    subst e1
    exact (qi_range2 hg hm (ha.v X _ g h2) (hb.v X _ g h3) (star_ok h2 _ _) (star_ok h3 [] X.env)).cg (by rw [wE, Nat.mul_add]; exact Nat.le_refl _) fun δ Q q => by simp only [ev] at q; exact q
  · cases h
theorem snd_rangeD {a : E} (ha : Snd tb C G cc k a) : Snd tb C G cc k (.rangeD a) := by
  have no : ∀ (c : Ck) (ex : Expr), chkE tb (.rangeD a) none c ex ≠ true := fun c ex h => by rw [chkE.eq_def] at h; dsimp only at h; cases h
  refine ⟨fun X ex g h => absurd h (no _ _), fun X ex g h => absurd h (no _ _), fun X ex g h => absurd h (no _ _), fun X tg ex bb g h ho => ?_⟩
  rw [chkE.eq_def] at h; dsimp only at h
  split at h
  · rename_i x p l r q pos _
    simp only [Bool.and_eq_true] at h
    obtain ⟨⟨⟨h1, h2⟩, h3⟩, h4⟩ := h
    obtain ⟨e1, hg, hm⟩ := blt_of g h1
    subst e1
    have hm1 : ∀ r : Expr, (match r with | .UnaryOp .USub (.Constant (.int 1) _ _) _ => true | _ => false) = true → chkE tb (.neg (.int 1)) none (ctx X) r = true := fun r h3 => by
      split at h3
      · rw [chkE.eq_def]; dsimp only
        rw [chkE.eq_def]; rfl
      · cases h3
    have k3 := hm1 r h3
    have k4 := hm1 q h4
    have hS : ∀ e ∈ [a, .neg (.int 1), .neg (.int 1)], Snd tb C G cc k e := fun e he => by
      simp only [List.mem_cons, List.not_mem_nil, or_false] at he
      rcases he with rfl | rfl | rfl
      · exact ha
      · exact snd_neg snd_int
      · exact snd_neg snd_int
    have hA := qa_v (l := [a, .neg (.int 1), .neg (.int 1)]) hS X [l, r, q] g (by simp only [chkL, Bool.and_eq_true]; exact ⟨h2, k3, k4, rfl⟩)
    refine (qi_rangeD hg hm hA (star_ok h2 _ _) (by rw [star_ok k3 [q] X.env, star_ok k4 [] X.env]; rfl)).cg (by simp only [wE, wL, Nat.add_zero]; exact Nat.le_refl _) fun δ Q q => ?_
    simp only [ev, evs, negW] at q ⊢
    exact q
  · cases h
theorem snd_no {e : E} (no : ∀ (t : Option Expr) (c : Ck) (ex : Expr), chkE tb e t c ex = false) : Snd tb C G cc k e :=
  ⟨fun X ex g h => (by rw [no] at h; exact nomatch h), fun X ex g h => (by rw [no] at h; exact nomatch h), fun X ex g h => (by rw [no] at h; exact nomatch h), fun X tg ex bb g h => (by rw [no] at h; exact nomatch h)⟩
mutual
/-- THE RULE for expressions -/
theorem sndE (hC : ∀ f ds, Mono (C f ds)) : ∀ e : E, Snd tb C G cc k e
  | .var _ => snd_var
  | .obs _ => snd_obs
  | .glob _ => snd_glob
  | .non => snd_non
  | .bl _ => snd_bl
  | .int _ => snd_int
  | .str _ => snd_str
  | .op2 _ a b => snd_op2 (sndE hC a) (sndE hC b)
  | .neg a => snd_neg (sndE hC a)
  | .cmp _ a b => snd_cmp (sndE hC a) (sndE hC b)
  | .chain _ _ a b d => snd_chain hC (sndE hC a) (sndE hC b) (sndE hC d)
  | .isN a => snd_isN (sndE hC a)
  | .notN a => snd_notN (sndE hC a)
  | .and a b => snd_and hC (sndE hC a) (sndE hC b)
  | .or a b => snd_or hC (sndE hC a) (sndE hC b)
  | .not a => snd_not hC (sndE hC a)
  | .ite t a b => snd_ite hC (sndE hC t) (sndE hC a) (sndE hC b)
  | .tup l => snd_tup hC (sndAll hC l)
  | .lst l => snd_lst hC (sndAll hC l)
  | .idx a i => snd_idx (sndE hC a) (sndE hC i)
  | .slc a l h => snd_slc (sndE hC a) (sndE hC l) (sndE hC h)
  | .bi _ l => snd_bi hC (sndAll hC l)
  | .isi a _ => snd_isi (sndE hC a)
  | .me _ o l => snd_me hC (sndE hC o) (sndAll hC l)
  | .call _ l kl _ => snd_call hC (sndAll hC l) (sndAll hC kl)
  | .comp _ _ it t e => snd_comp hC (sndE hC it) (sndE hC t) (sndE hC e)
  | .zip a b => snd_zip (sndE hC a) (sndE hC b)
  | .enum a => snd_enum (sndE hC a)
  | .range a => snd_range (sndE hC a)
  | .range2 a b => snd_range2 (sndE hC a) (sndE hC b)
  | .dnew => snd_dnew
  | .sset a => snd_sset hC (sndE hC a)
  | .scomp _ _ it t e => snd_scomp hC (sndE hC it) (sndE hC t) (sndE hC e)
  | .rangeD a => snd_rangeD (sndE hC a)
  | .isB _ a _ => snd_isB (sndE hC a)
  | .slcS a kk => snd_slcS (sndE hC a) (sndE hC kk)
  | .lzip a b => snd_lzip (sndE hC a) (sndE hC b)
  | .comp2 _ _ it t _ it1 t1 e => snd_comp2 hC (sndE hC it) (sndE hC t) (sndE hC it1) (sndE hC t1) (sndE hC e)
theorem sndAll (hC : ∀ f ds, Mono (C f ds)) : ∀ (l : List E), ∀ e ∈ l, Snd tb C G cc k e
  | [], e, h => by cases h
  | a :: l, e, h => by
    rcases List.mem_cons.mp h with q | q
    · rw [q]; exact sndE hC a
    · exact sndAll hC l e q
end
end
end SF

/-! D6g: every matched statement. -/
namespace SF
open PySem PySem.Spec PyProof.Rows L2
section
variable {X : Cx}
theorem Q1.cg {st : Stmt} {n n' : Nat} {F F' : Env → Post → Prop} (h : Q1 X st n F) (hn : n ≤ n') (e : ∀ δ D, F' δ D → F δ D) : Q1 X st n' F' := fun E hE pins s σ H0 H δ m D t I es ex pl hf =>
  thn (h E hE pins s σ H0 H δ m D t I es ex (pl.mono (by omega)) (e _ _ hf)) fun f s1 q => q.le (StepS.refl ex) (by omega)
theorem QS.cg {sts : List Stmt} {n n' : Nat} {F F' : Env → Post → Prop} (h : QS X sts n F) (hn : n ≤ n') (e : ∀ δ D, F' δ D → F δ D) : QS X sts n' F' := fun E hE pins s σ H0 H δ m D t I es ex pl hf =>
  thn (h E hE pins s σ H0 H δ m D t I es ex (pl.mono (by omega)) (e _ _ hf)) fun f s1 q => q.le (StepS.refl ex) (by omega)
end
section
variable {tb : Tb} {C : Nat → List Dat → (Dat → Prop) → Prop} {G : Nat → Option Dat} {cc k : Nat}
theorem sw_none (v : Expr) (h1 : noSetComp v = true) (h2 : noLC v = true) (t : Option Expr) (l : Nat) (env : PySem.Env) : swapsWith v t l env = pure false := by
  cases v <;> first | rfl | (simp [noSetComp] at h1; done) | (simp [noLC] at h2; done)
theorem sw_sole (tg v : Expr) (h1 : noSetComp v = true) (h2 : noLC v = true) (l : Nat) (env : PySem.Env) : swapsWithSole [tg] v l env = pure false := sw_none v h1 h2 (some tg) l env
/-- name = [..]: on one line, or not -/
theorem sw_list {X : Cx} (g : Gd tb C G cc k X) (elt : Expr) (gs : List Comprehension) (scope : Scope) (vp : Pos) (x : Str) (px : Pos) (l : Nat) :
    swapsWith (.ListComp elt gs scope vp) (some (.Name x px)) l X.env = pure (swapB (ctx X) x l px (.ListComp elt gs scope vp)) := by
  have hb : X.env.blockKind = .function := by unfold Env.blockKind; rw [g.kind]; rfl
  unfold swapsWith swapB
  simp only [hb]
  rfl
theorem comp_inv {e : E} {c : Ck} {elt : Expr} {gs : List Comprehension} {scope : Scope} {vp : Pos} (h : chkE tb e none c (.ListComp elt gs scope vp) = true) :
    (∃ own p it t e' tg iter ifs, e = .comp own p it t e' ∧ gs = [⟨tg, iter, ifs, 0⟩] ∧ (notSet iter && chkE tb it (some tg) c iter && blkB c scope own && ((varsP p).all fun i => own.contains i) && chkP (c.blk scope) p tg &&
      (match ifs with
      | [] => (match t with | .bl true => true | _ => false)
      | [x] => chkE tb t none (c.blk scope) x
      | _ => false) && chkE tb e' none (c.blk scope) elt) = true) ∨
    (∃ own p it t p1 it1 t1 e' tg iter ifs tg1 iter1 ifs1, e = .comp2 own p it t p1 it1 t1 e' ∧ gs = [⟨tg, iter, ifs, 0⟩, ⟨tg1, iter1, ifs1, 0⟩] ∧ (notSet iter && (notSet iter1 && (noObs it1 && (chkE tb it (some tg) c iter && (chkE tb it1 (some tg1) (c.blk scope) iter1 && (blkB c scope own && (((varsP p).all fun i => own.contains i) && (((varsP p1).all fun i => own.contains i) && (chkP (c.blk scope) p tg && (chkP (c.blk scope) p1 tg1 &&
      ((match ifs with
      | [] => (match t with | .bl true => true | _ => false)
      | [x] => chkE tb t none (c.blk scope) x
      | _ => false) && ((match ifs1 with
      | [] => (match t1 with | .bl true => true | _ => false)
      | [x] => chkE tb t1 none (c.blk scope) x
      | _ => false) && chkE tb e' none (c.blk scope) elt)))))))))))) = true) := by
  rw [chkE.eq_def] at h
  cases e <;> dsimp only at h <;> first
    | (cases h; done)
    | (split at h
       · rename_i elt' tg iter ifs a scope' pos heq
         cases heq
         simp only [Bool.and_eq_true] at h ⊢
         obtain ⟨⟨⟨⟨⟨⟨⟨h0, h1⟩, h2⟩, h3⟩, h4⟩, h5⟩, h6⟩, h7⟩ := h
         have e0 := eq_of_beq h0
         subst e0
         exact .inl ⟨_, _, _, _, _, _, _, _, rfl, rfl, ⟨⟨⟨⟨⟨h1, h2⟩, h3⟩, h4⟩, h5⟩, h6⟩, h7⟩
       · cases h)
    | (split at h
       · rename_i elt' tg iter ifs a tg1 iter1 ifs1 a1 scope' pos heq
         cases heq
         rw [Bool.and_eq_true, Bool.and_eq_true] at h
         obtain ⟨h0, h0', h⟩ := h
         have e0 := eq_of_beq h0
         have e0' := eq_of_beq h0'
         subst e0 e0'
         exact .inr ⟨_, _, _, _, _, _, _, _, _, _, _, _, _, _, rfl, rfl, h⟩
       · cases h)
theorem s_set {i : Nat} {e : E} (hC : ∀ f ds, Mono (C f ds)) {X : Cx} {st : Stmt} (g : Gd tb C G cc k X) (h : chkS tb (.set i e) (ctx X) st = true) : Q1 X st (cc * wS (.set i e)) (exec C G (.set i e)) := by
  rw [chkS.eq_def] at h; dsimp only at h
  split at h
  · rename_i x px v pos
    simp only [Bool.and_eq_true] at h
    obtain ⟨⟨h1, h2⟩, h3⟩ := h
    obtain ⟨e1, e2, e3⟩ := set_of h1
    have plain : swapsWith v (some (.Name x px)) pos.line X.env = pure false → Q1 X (.Assign [.Name x px] v pos) (cc * wS (.set i e)) (exec C G (.set i e)) := fun hs =>
      (q1_set g.nd e1 e2 e3 ((sndE hC e).v X v g h3) hs).cg (by rw [wS]; exact Nat.le_refl _) fun δ D q => by rw [exec] at q; exact q
    by_cases hl : noLC v = true
    · exact plain (sw_none v h2 hl _ _ _)
    · cases v with
      | ListComp elt gs scope vp =>
        have hs := sw_list g elt gs scope vp x px pos.line
        cases hb : swapB (ctx X) x pos.line px (.ListComp elt gs scope vp) with
        | false => rw [hb] at hs; exact plain hs
        | true =>
          rw [hb] at hs
          have hyl : X.env.scope.names.lookup x = some .local := by
            unfold swapB at hb
            simp only [Bool.and_eq_true] at hb
            exact eq_of_beq hb.1.1
          rcases comp_inv h3 with ⟨own, p, it, t, e', tg, iter, ifs, rfl, rfl, hh⟩ | ⟨own, p, it, t, p1, it1, t1, e', tg, iter, ifs, tg1, iter1, ifs1, rfl, rfl, hh⟩
          · obtain ⟨q1, q2, q3, q4, q5, q6, q7, q8⟩ := comp_parts hh hC (sndE hC it) (sndE hC t) (sndE hC e') g
            refine (q1_setLc g.calm g.nd e1 hyl hs q2 q3 q4 q5 q6 q7 q8 q1 fun δ => ev_mono hC it .i δ).cg (by rw [wS, wE, ← mul3]; exact Nat.le_refl _) fun δ D q => ?_
            rw [exec, ev] at q
            rw [map_snd]
            exact q
          · refine (q1_setR g.nd e1 hyl (exec_lc hs) (comp2_lcr hh hC (sndE hC it) (sndE hC t) (sndE hC it1) (sndE hC t1) (sndE hC e') g)).cg (by rw [wS]; exact Nat.le_refl _) fun δ D q => ?_
            rw [exec, ev] at q
            exact q
      | _ => simp [noLC] at hl
  · cases h
theorem s_own {i : Nat} {e : E} (hC : ∀ f ds, Mono (C f ds)) {X : Cx} {st : Stmt} (g : Gd tb C G cc k X) (h : chkS tb (.own i e) (ctx X) st = true) : Q1 X st (cc * wS (.own i e)) (exec C G (.own i e)) := by
  rw [chkS.eq_def] at h; dsimp only at h
  split at h
  · rename_i x px v pos
    simp only [Bool.and_eq_true] at h
    obtain ⟨⟨⟨h1, h2⟩, hf⟩, h3⟩ := h
    obtain ⟨e1, e2, e3⟩ := set_of h1
    have plain : swapsWith v (some (.Name x px)) pos.line X.env = pure false → Q1 X (.Assign [.Name x px] v pos) (cc * wS (.own i e)) (exec C G (.own i e)) := fun hs =>
      (q1_own g.nd e1 e2 e3 ((sndE hC e).o X v g h3 hf) hs).cg (by rw [wS]; exact Nat.le_refl _) fun δ D q => by rw [exec] at q; exact q
    by_cases hl : noLC v = true
    · exact plain (sw_none v h2 hl _ _ _)
    · cases v with
      | ListComp elt gs scope vp =>
        have hs := sw_list g elt gs scope vp x px pos.line
        cases hb : swapB (ctx X) x pos.line px (.ListComp elt gs scope vp) with
        | false => rw [hb] at hs; exact plain hs
        | true =>
          rw [hb] at hs
          have hyl : X.env.scope.names.lookup x = some .local := by
            unfold swapB at hb
            simp only [Bool.and_eq_true] at hb
            exact eq_of_beq hb.1.1
          rcases comp_inv h3 with ⟨own, p, it, t, e', tg, iter, ifs, rfl, rfl, hh⟩ | ⟨own, p, it, t, p1, it1, t1, e', tg, iter, ifs, tg1, iter1, ifs1, rfl, rfl, hh⟩
          · obtain ⟨q1, q2, q3, q4, q5, q6, q7, q8⟩ := comp_parts hh hC (sndE hC it) (sndE hC t) (sndE hC e') g
            refine (q1_ownLc g.calm g.nd e1 hyl hs q2 q3 q4 q5 q6 q7 q8 q1 fun δ => ev_mono hC it .i δ).cg (by rw [wS, wE, ← mul3]; exact Nat.le_refl _) fun δ D q => ?_
            rw [exec, ev] at q
            rw [map_snd]
            exact q
          · refine (q1_ownR g.nd e1 hyl (exec_lc hs) (comp2_lcr hh hC (sndE hC it) (sndE hC t) (sndE hC it1) (sndE hC t1) (sndE hC e') g)).cg (by rw [wS]; exact Nat.le_refl _) fun δ D q => ?_
            rw [exec, ev] at q
            exact q
      | _ => simp [noLC] at hl
  · cases h
/-- two or three names and as many values: else no swap -/
theorem ss_none {ts : List Expr} {kt : Nat} {pt : Pos} {v : Expr} {env : PySem.Env} (h : unpV ts.length v = true) : swappedStores [.Tuple ts kt pt] v env = pure none := by
  cases v with
  | Tuple es k2 p2 =>
    simp only [unpV, Bool.or_eq_true, decide_eq_true_eq, Bool.not_eq_true', beq_eq_false_iff_ne, ne_eq] at h
    unfold swappedStores
    have hc : (!(ts.length == 2 || ts.length == 3) || es.length != ts.length || env.blockKind != .function) = true := by
      rcases h with h | h
      · have h1 : (ts.length == 2) = false := by simp; omega
        have h2 : (ts.length == 3) = false := by simp; omega
        rw [h1, h2]; rfl
      · have h1 : (es.length != ts.length) = true := by simp [h]
        rw [h1]; simp
    simp only [hc, if_true]
  | ListComp => simp [unpV] at h
  | _ => rfl
theorem filterMap_short {α β : Type} (f : α → Option β) : ∀ l : List α, (∃ x ∈ l, f x = none) → (l.filterMap f).length < l.length
  | [], h => by obtain ⟨x, hx, _⟩ := h; cases hx
  | a :: l, ⟨x, hx, e⟩ => by
    rw [List.filterMap_cons]
    cases q : f a with
    | none => exact Nat.lt_succ_of_le (List.length_filterMap_le f l)
    | some y =>
      rcases List.mem_cons.mp hx with rfl | hx
      · rw [q] at e; cases e
      · exact Nat.succ_lt_succ (filterMap_short f l ⟨x, hx, e⟩)
theorem ss_off {ts : List Expr} {kt : Nat} {pt : Pos} {v : Expr} {env : PySem.Env} (hl : noLC v = true) (h : (ts.any fun | .Name x _ => env.scope.names.lookup x != some .local | _ => true) = true) : swappedStores [.Tuple ts kt pt] v env = pure none := by
  cases v with
  | Tuple es k2 p2 =>
    obtain ⟨t, ht, e⟩ := List.any_eq_true.mp h
    unfold swappedStores
    dsimp only
    split
    · rfl
    · split
      · rfl
      · rw [if_pos]
        rw [Bool.or_eq_true]
        left
        refine bne_iff_ne.mpr (Nat.ne_of_lt (filterMap_short _ ts ⟨t, ht, ?_⟩))
        cases t with
        | Name x px =>
          have e2 : (env.kindOf x == some .local) = false := by
            unfold PySem.Env.kindOf
            simpa using e
          simp only [e2, Bool.false_and, Bool.false_eq_true, if_false]
        | _ => rfl
  | ListComp => simp [noLC] at hl
  | _ => rfl
theorem s_unp {p : P} {e : E} (hC : ∀ f ds, Mono (C f ds)) {X : Cx} {st : Stmt} (g : Gd tb C G cc k X) (h : chkS tb (.unp p e) (ctx X) st = true) : Q1 X st (cc * wS (.unp p e)) (exec C G (.unp p e)) := by
  rw [chkS.eq_def] at h; dsimp only at h
  split at h
  · rename_i ts kt pt v pos
    simp only [Bool.and_eq_true] at h
    obtain ⟨⟨⟨⟨h0, h1⟩, h2⟩, h3⟩, h4⟩ := h
    have hnl : noLC v = true := by
      rcases Bool.or_eq_true_iff.mp h3 with h3 | h3
      · cases v <;> first | rfl | (simp [unpV] at h3)
      · exact (Bool.and_eq_true_iff.mp h3).1
    have hss : swappedStores [.Tuple ts kt pt] v X.env = pure none := by
      rcases Bool.or_eq_true_iff.mp h3 with h3 | h3
      · exact ss_none h3
      · exact ss_off hnl (Bool.and_eq_true_iff.mp h3).2
    have ht : TgOk X (.Tuple ts kt pt) p := by
      refine tgOk_of g ?_
      cases p with
      | v i => simp at h0
      | t ps => rw [chkP] at h1 ⊢; exact h1
    exact (q1_unp ht ((sndE hC e).v X v g h4) (sw_sole _ v h2 hnl _ _) hss rfl).cg (by rw [wS]; exact Nat.le_refl _) fun δ D q => by rw [exec] at q; exact q
  · cases h
theorem s_exp {e : E} (hC : ∀ f ds, Mono (C f ds)) {X : Cx} {st : Stmt} (g : Gd tb C G cc k X) (h : chkS tb (.exp e) (ctx X) st = true) : Q1 X st (cc * wS (.exp e)) (exec C G (.exp e)) := by
  rw [chkS.eq_def] at h; dsimp only at h
  split at h
  · simp only [Bool.and_eq_true] at h
    exact (q1_exp ((sndE hC e).v X _ g h.2) (sw_none _ h.1.1 h.1.2 _ _ _)).cg (by rw [wS]; exact Nat.le_refl _) fun δ D q => by rw [exec] at q; exact q
  · cases h
theorem s_ret {e : E} (hC : ∀ f ds, Mono (C f ds)) {X : Cx} {st : Stmt} (g : Gd tb C G cc k X) (h : chkS tb (.ret e) (ctx X) st = true) : Q1 X st (cc * wS (.ret e)) (exec C G (.ret e)) := by
  rw [chkS.eq_def] at h; dsimp only at h
  split at h
  · exact (q1_ret ((sndE hC e).v X _ g h)).cg (by rw [wS]; exact Nat.le_refl _) fun δ D q => by rw [exec] at q; exact q
  · cases h
theorem s_retN {X : Cx} {st : Stmt} (h : chkS tb .retN (ctx X) st = true) : Q1 X st (cc * wS .retN) (exec C G .retN) := by
  rw [chkS.eq_def] at h; dsimp only at h
  split at h
  · exact q1_retN.cg (Nat.zero_le _) fun δ D q => by rw [exec] at q; exact q
  · cases h
theorem s_pass {X : Cx} {st : Stmt} (h : chkS tb .pass (ctx X) st = true) : Q1 X st (cc * wS .pass) (exec C G .pass) := by
  rw [chkS.eq_def] at h; dsimp only at h
  split at h
  · exact q1_pass.cg (Nat.zero_le _) fun δ D q => by rw [exec] at q; exact q
  · cases h
theorem few1 {e : E} {X : Cx} {v : Expr} (h : chkE tb e none (ctx X) v = true) (cp : Pos) : ((backTo cp (starEach [v] X.env)).all (fun x => !x.1) && (backToKw cp (keywordEach [] X.env)).all (fun x => x.1.isSome) && decide ([v].length + ([] : List Keyword).length + (if ([] : List Keyword).isEmpty then 0 else 1) < 30)) = true := by
  rw [star_ok h [] X.env]
  rfl
theorem s_app {i : Nat} {e : E} (hC : ∀ f ds, Mono (C f ds)) {X : Cx} {st : Stmt} (g : Gd tb C G cc k X) (h : chkS tb (.app i e) (ctx X) st = true) : Q1 X st (cc * wS (.app i e)) (exec C G (.app i e)) := by
  rw [chkS.eq_def] at h; dsimp only at h
  split at h
  · rename_i x px nm ap v cp pos
    simp only [Bool.and_eq_true] at h
    obtain ⟨⟨⟨h1, h2⟩, h3⟩, h4⟩ := h
    obtain ⟨e1, e2, e3, e4⟩ := var_of h1
    have en := eq_of_beq h2
    subst en
    exact (q1_app e1 e2 e3 e4 ((sndE hC e).v X _ g h4) rfl (few1 h4 cp) h3 (star_ok h4 [] X.env)).cg (by rw [wS]; exact Nat.le_refl _) fun δ D q => by rw [exec] at q; exact q
  · cases h
theorem s_ext {i : Nat} {e : E} (hC : ∀ f ds, Mono (C f ds)) {X : Cx} {st : Stmt} (g : Gd tb C G cc k X) (h : chkS tb (.ext i e) (ctx X) st = true) : Q1 X st (cc * wS (.ext i e)) (exec C G (.ext i e)) := by
  rw [chkS.eq_def] at h; dsimp only at h
  split at h
  · rename_i x px nm ap v cp pos
    simp only [Bool.and_eq_true] at h
    obtain ⟨⟨⟨h1, h2⟩, h3⟩, h4⟩ := h
    obtain ⟨e1, e2, e3, e4⟩ := var_of h1
    have en := eq_of_beq h2
    subst en
    exact (q1_ext e1 e2 e3 e4 ((sndE hC e).b X _ g h4) rfl (few1 h4 cp) h3 (star_ok h4 [] X.env)).cg (by rw [wS]; exact Nat.le_refl _) fun δ D q => by rw [exec] at q; exact q
  · cases h
theorem s_pop {i : Nat} {e : E} (hC : ∀ f ds, Mono (C f ds)) {X : Cx} {st : Stmt} (g : Gd tb C G cc k X) (h : chkS tb (.pop i e) (ctx X) st = true) : Q1 X st (cc * wS (.pop i e)) (exec C G (.pop i e)) := by
  rw [chkS.eq_def] at h; dsimp only at h
  split at h
  · rename_i x px nm ap v cp pos
    simp only [Bool.and_eq_true] at h
    obtain ⟨⟨⟨h1, h2⟩, h3⟩, h4⟩ := h
    obtain ⟨e1, e2, e3, e4⟩ := var_of h1
    have en := eq_of_beq h2
    subst en
    exact (q1_pop e1 e2 e3 e4 ((sndE hC e).v X _ g h4) rfl (few1 h4 cp) h3 (star_ok h4 [] X.env)).cg (by rw [wS]; exact Nat.le_refl _) fun δ D q => by rw [exec] at q; exact q
  · cases h
theorem few2 {a e : E} {X : Cx} {u v : Expr} (h0 : chkE tb a none (ctx X) u = true) (h : chkE tb e none (ctx X) v = true) (cp : Pos) : ((backTo cp (starEach [u, v] X.env)).all (fun x => !x.1) && (backToKw cp (keywordEach [] X.env)).all (fun x => x.1.isSome) && decide ([u, v].length + ([] : List Keyword).length + (if ([] : List Keyword).isEmpty then 0 else 1) < 30)) = true := by
  rw [star_ok h0 [v] X.env, star_ok h [] X.env]
  rfl
theorem s_ins {i : Nat} {ix e : E} (hC : ∀ f ds, Mono (C f ds)) {X : Cx} {st : Stmt} (g : Gd tb C G cc k X) (h : chkS tb (.ins i ix e) (ctx X) st = true) : Q1 X st (cc * wS (.ins i ix e)) (exec C G (.ins i ix e)) := by
  rw [chkS.eq_def] at h; dsimp only at h
  split at h
  · rename_i x px nm ap v w cp pos
    simp only [Bool.and_eq_true] at h
    obtain ⟨⟨⟨⟨h1, h2⟩, h3⟩, h4⟩, h5⟩ := h
    obtain ⟨e1, e2, e3, e4⟩ := var_of h1
    have en := eq_of_beq h2
    subst en
    exact (q1_ins e1 e2 e3 e4 ((sndE hC ix).v X _ g h4) ((sndE hC e).v X _ g h5) rfl (few2 h4 h5 cp) h3 (star_ok h4 [_] X.env) (star_ok h5 [] X.env)).cg (by rw [wS, Nat.mul_add]; exact Nat.le_refl _) fun δ D q => by rw [exec] at q; exact q
  · cases h
theorem s_unpL {ps : List P} {e : E} (hC : ∀ f ds, Mono (C f ds)) {X : Cx} {st : Stmt} (g : Gd tb C G cc k X) (h : chkS tb (.unpL ps e) (ctx X) st = true) : Q1 X st (cc * wS (.unpL ps e)) (exec C G (.unpL ps e)) := by
  rw [chkS.eq_def] at h; dsimp only at h
  split at h
  · rename_i ts kt pt v pos
    simp only [Bool.and_eq_true] at h
    obtain ⟨⟨⟨h1, h2⟩, h3⟩, h4⟩ := h
    have hw : swappedStores [.Tuple ts kt pt] v X.env = pure none := by cases v <;> first | rfl | cases h3
    have hs : swapsWithSole [.Tuple ts kt pt] v pos.line X.env = pure false := by cases v <;> first | rfl | (simp [noSetComp] at h2; done)
    obtain ⟨_, hl, hst⟩ := tgs_ok g.calm g.nd (fun _ _ => False) ps ts h1
    exact (q1_unpL g.calm (fun E => (tgs_ok g.calm g.nd E ps ts h1).1) hl hst ((sndE hC e).v X v g h4) hs hw rfl).cg (by rw [wS]; exact Nat.le_refl _) fun δ D q => by rw [exec] at q; exact q
  · cases h
theorem s_sto {i : Nat} {ix e : E} (hC : ∀ f ds, Mono (C f ds)) {X : Cx} {st : Stmt} (g : Gd tb C G cc k X) (h : chkS tb (.sto i ix e) (ctx X) st = true) : Q1 X st (cc * wS (.sto i ix e)) (exec C G (.sto i ix e)) := by
  rw [chkS.eq_def] at h; dsimp only at h
  split at h
  · rename_i x px kx sp v pos
    simp only [Bool.and_eq_true] at h
    obtain ⟨⟨⟨⟨h1, h2⟩, h3⟩, h4⟩, h5⟩ := h
    obtain ⟨e1, e2, e3, e4⟩ := var_of h1
    have ha : ∀ v, assign (.Subscript (.Name x px) kx sp) X.env v = (do
      let ov ← holding [v] (eval (.Name x px) X.env)
      let iv ← holding [v, ov] (eval kx X.env)
      standAt sp
      holding [v, ov, iv] (setItem ov iv v)
      release [v, ov, iv] []) := fun v => by
      cases kx <;> first | rfl | (rw [chk_slice] at h4; cases h4)
    exact (q1_sto e1 e2 e3 e4 ((sndE hC e).v X _ g h5) ((sndE hC ix).v X _ g h4) (sw_sole _ v h2 h3 _ _) rfl rfl ha).cg (by rw [wS, Nat.mul_add]; exact Nat.le_refl _) fun δ D q => by rw [exec] at q; exact q
  · cases h
theorem s_stoD {i : Nat} {ix e : E} (hC : ∀ f ds, Mono (C f ds)) {X : Cx} {st : Stmt} (g : Gd tb C G cc k X) (h : chkS tb (.stoD i ix e) (ctx X) st = true) : Q1 X st (cc * wS (.stoD i ix e)) (exec C G (.stoD i ix e)) := by
  rw [chkS.eq_def] at h; dsimp only at h
  split at h
  · rename_i x px kx sp v pos
    simp only [Bool.and_eq_true] at h
    obtain ⟨⟨⟨⟨h1, h2⟩, h3⟩, h4⟩, h5⟩ := h
    obtain ⟨e1, e2, e3, e4⟩ := var_of h1
    have ha : ∀ v, assign (.Subscript (.Name x px) kx sp) X.env v = (do
      let ov ← holding [v] (eval (.Name x px) X.env)
      let iv ← holding [v, ov] (eval kx X.env)
      standAt sp
      holding [v, ov, iv] (setItem ov iv v)
      release [v, ov, iv] []) := fun v => by
      cases kx <;> first | rfl | (rw [chk_slice] at h4; cases h4)
    exact (q1_stoD (by have := g.rm.hu; omega) e1 e2 e3 e4 ((sndE hC e).v X _ g h5) ((sndE hC ix).v X _ g h4) (sw_sole _ v h2 h3 _ _) rfl rfl ha).cg (by rw [wS, Nat.mul_add]; exact Nat.le_refl _) fun δ D q => by rw [exec] at q; exact q
  · cases h
theorem s_stp {i j : Nat} {ix e : E} (hC : ∀ f ds, Mono (C f ds)) {X : Cx} {st : Stmt} (g : Gd tb C G cc k X) (h : chkS tb (.stp i j ix e) (ctx X) st = true) : Q1 X st (cc * wS (.stp i j ix e)) (exec C G (.stp i j ix e)) := by
  rw [chkS.eq_def] at h; dsimp only at h
  split at h
  · rename_i x px y py nm ap kx cp sp v pos
    simp only [Bool.and_eq_true] at h
    obtain ⟨h1, h2, h3, h4, h5, h6, h7, h8⟩ := h
    obtain ⟨e1, e2, e3, e4⟩ := var_of h1
    obtain ⟨f1, f2, f3, f4⟩ := var_of h2
    have en := eq_of_beq h3
    subst en
    exact (q1_stp (by have := g.rm.hu; omega) e1 e2 e3 e4 f1 f2 f3 f4 ((sndE hC e).v X _ g h8) ((sndE hC ix).v X _ g h7) rfl (few1 h7 cp) h4 (star_ok h7 [] X.env) (sw_sole _ v h5 h6 _ _) rfl rfl fun v => rfl).cg (by rw [wS, Nat.mul_add]; exact Nat.le_refl _) fun δ D q => by rw [exec] at q; exact q
  · cases h
end
end SF

/-! D6h: every matched block. -/
namespace SF
open PySem PySem.Spec PyProof.Rows L2
section
variable {tb : Tb} {C : Nat → List Dat → (Dat → Prop) → Prop} {G : Nat → Option Dat} {cc k : Nat}
theorem QPar.cg {X : Cx} {es : List Expr} {os : List Bool} {n n' : Nat} {f g : Env → (List Dat → Prop) → Prop} (h : QPar X es os n f) (hn : n ≤ n') (e : ∀ δ Q, g δ Q → f δ Q) : QPar X es os n' g := fun pos E pins s σ H δ m Φ ht I er pl hf =>
  thn (h pos E pins s σ H δ m Φ ht I er (pl.mono (by omega)) (e _ _ hf)) fun us s1 ⟨t, vs, H', ds, h1, h2, h3, h4, h5⟩ => ⟨t, vs, H', ds, h1, h2, h3.mono hn, h4, h5⟩
theorem qpar_of (hC : ∀ f ds, Mono (C f ds)) {X : Cx} (g : Gd tb C G cc k X) : ∀ (l : List E) (os : List Bool) (es : List Expr), os.length = es.length → chkL tb l (ctx X) es = true → ((os.zip l).all fun q => !q.1 || isFresh q.2) = true → QPar X es os (cc * wL l) (evs C G l .v)
  | [], [], [], _, _, _ => qpar_nil.cg (Nat.zero_le _) fun δ Q q => by rw [evs] at q; exact q
  | [], _, _ :: _, _, h, _ => by simp [chkL] at h
  | [], _ :: _, [], h, _, _ => by simp at h
  | _ :: _, _, [], _, h, _ => by simp [chkL] at h
  | _ :: _, [], _ :: _, h, _, _ => by simp at h
  | a :: l, o :: os, e :: es, hl, h, hf => by
    simp only [chkL, Bool.and_eq_true] at h
    rw [List.zip_cons_cons, List.all_cons, Bool.and_eq_true] at hf
    have rest := qpar_of hC g l os es (by simpa using hl) h.2 hf.2
    have ha : QE X e (cc * wE a) (if o = true then ROw X.K else RV X.K) (ev C G a .v) := by
      cases o with
      | true => exact (sndE hC a).o X e g h.1 (by simpa using hf.1)
      | false => exact (sndE hC a).v X e g h.1
    exact (qpar_cons o ha rest (star_ok h.1 _ _)).cg (by rw [wL, Nat.mul_add]; exact Nat.le_refl _) fun δ Q q => by rw [evs] at q; exact q
theorem namesOf_fm {env : PySem.Env} {ln : Nat} : ∀ {ts : List Expr} {xs : List Str}, namesOf ts = some xs → (∀ x ∈ xs, env.kindOf x = some .local) → (ts.all fun t => t.pos.line == ln) = true →
    (ts.filterMap fun | .Name id pos => if env.kindOf id == some .local && pos.line == ln then some id else none | _ => none) = xs ∧ ts.length = xs.length
  | [], xs, h, _, _ => by rw [namesOf] at h; cases h; exact ⟨rfl, rfl⟩
  | t :: ts, xs, h, hx, hl => by
    cases t with
    | Name x p =>
      rw [namesOf] at h
      obtain ⟨ys, h1, rfl⟩ := Option.map_eq_some_iff.mp h
      rw [List.all_cons, Bool.and_eq_true] at hl
      obtain ⟨e1, e2⟩ := namesOf_fm (env := env) (ln := ln) h1 (fun y hy => hx y (by simp [hy])) hl.2
      have hk := hx x (by simp)
      have hp : (p.line == ln) = true := hl.1
      refine ⟨?_, by simp [e2]⟩
      rw [List.filterMap_cons]
      simp only [hk, hp, beq_self_eq_true, Bool.and_self, if_true]
      rw [e1]
    | _ => simp [namesOf] at h
theorem noStar : ∀ {l : List E} {c : Ck} {es : List Expr}, chkL tb l c es = true → (es.any fun | .Starred .. => true | _ => false) = false
  | [], c, [], _ => rfl
  | [], c, _ :: _, h => by simp [chkL] at h
  | _ :: _, c, [], h => by simp [chkL] at h
  | a :: l, c, e :: es, h => by
    simp only [chkL, Bool.and_eq_true] at h
    rw [List.any_cons, noStar h.2]
    cases e <;> first | rfl | (have z := h.1; rw [chk_star] at z; cases z)
theorem s_parC {os : List Bool} {is : List Nat} {l : List E} (hC : ∀ f ds, Mono (C f ds)) {X : Cx} {st : Stmt} (g : Gd tb C G cc k X) (h : chkS tb (.parC os is l) (ctx X) st = true) : Q1 X st (cc * wS (.parC os is l)) (exec C G (.parC os is l)) := by
  rw [chkS.eq_def] at h; dsimp only at h
  split at h
  · rename_i ts kt pt es k2 pt2 pos
    simp only [Bool.and_eq_true, beq_iff_eq, decide_eq_true_eq] at h
    obtain ⟨h1, h2, h3, h4, h5, h6, h7⟩ := h
    have ht : TgOk X (.Tuple ts kt pt) (.t (is.map P.v)) := tgOk_of g (by rw [chkP] at h2 ⊢; exact h2)
    exact (q1_parC h3 h4 ht (qpar_of hC g l os es h7 h6 h5) (ss_off rfl h1) (sw_sole _ _ rfl rfl _ _) rfl).cg (by rw [wS]; exact Nat.le_refl _) fun δ D q => by rw [exec] at q; exact q
  · cases h
theorem s_par {os : List Bool} {is : List Nat} {l : List E} (hC : ∀ f ds, Mono (C f ds)) {X : Cx} {st : Stmt} (g : Gd tb C G cc k X) (h : chkS tb (.par os is l) (ctx X) st = true) : Q1 X st (cc * wS (.par os is l)) (exec C G (.par os is l)) := by
  rw [chkS.eq_def] at h; dsimp only at h
  split at h
  · rename_i ts kt pt es k2 pt2 pos
    split at h
    · rename_i xs hxs
      simp only [Bool.and_eq_true, Bool.or_eq_true, beq_iff_eq, Bool.not_eq_true'] at h
      obtain ⟨⟨⟨⟨⟨⟨⟨⟨⟨⟨h0, h1⟩, h2⟩, h3⟩, h4⟩, h5⟩, h6⟩, h7⟩, h8⟩, h9⟩, h10⟩ := h
      have hz : ∀ (j i : Nat) (x : Str), is[j]? = some i → xs[j]? = some x → X.N[i]? = some x ∧ X.env.scope.names.lookup x = some .local := fun j i x a b => by
        have hm : (i, x) ∈ is.zip xs := List.mem_of_getElem? (by rw [List.getElem?_zip_eq_some]; exact ⟨a, b⟩ : (is.zip xs)[j]? = some (i, x))
        have := List.all_eq_true.mp h5 _ hm
        simp only [Bool.and_eq_true] at this
        exact ⟨eq_of_beq this.1, eq_of_beq this.2⟩
      have hloc : ∀ x ∈ xs, X.env.kindOf x = some .local := fun x hx => by
        obtain ⟨j, hj⟩ := List.mem_iff_getElem?.mp hx
        have lt : j < is.length := by
          rw [h2]
          by_cases q : j < xs.length
          · exact q
          · rw [List.getElem?_eq_none (by omega)] at hj; cases hj
        exact (hz j _ x (List.getElem?_eq_getElem lt) hj).2
      obtain ⟨e1, e2⟩ := namesOf_fm (env := X.env) hxs hloc h8
      have hb : X.env.blockKind = .function := by unfold Env.blockKind; rw [g.kind]; rfl
      have hw : swappedStores [.Tuple ts kt pt] (.Tuple es k2 pt2) X.env = pure (some xs) := by
        unfold swappedStores
        have c1 : (!(ts.length == 2 || ts.length == 3) || es.length != ts.length || X.env.blockKind != .function) = false := by
          rw [e2, h3, hb]
          rcases h0 with z | z <;> rw [z] <;> rfl
        have c2 : (xs.length != ts.length || xs.eraseDups.length != xs.length) = false := by rw [e2, h4]; simp
        simp only [c1, Bool.false_eq_true, if_false]
        refine (if_neg fun z => absurd (z.symm.trans (noStar h7)) (by decide)).trans ?_
        generalize hF : List.filterMap _ ts = F
        have eF : F = xs := hF.symm.trans e1
        rw [eF]
        simp only [c2, h9, h10, Bool.false_eq_true, if_false]
      refine (q1_par g.calm g.nd h2 h1 hz ?_ h3.symm (qpar_of hC g l os es (by rw [h1, h3]) h7 h6) hw rfl).cg (by rw [wS]; exact Nat.le_refl _) fun δ D q => by rw [exec] at q; exact q
      rw [h3]
      rcases h0 with z | z <;> rw [z] <;> decide
    · cases h
  · cases h
theorem mul2 {a b d : Nat} (n : Nat) : a * b + n * (a * d) = a * (b + n * d) := by
  rw [Nat.mul_add, ← Nat.mul_assoc, Nat.mul_comm n a, Nat.mul_assoc]
mutual
theorem s_all (hC : ∀ f ds, Mono (C f ds)) {X : Cx} (g : Gd tb C G cc k X) : ∀ (s : S) (st : Stmt), chkS tb s (ctx X) st = true → Q1 X st (cc * wS s) (exec C G s)
  | .set i e, st, h => s_set hC g h
  | .own i e, st, h => s_own hC g h
  | .unp p e, st, h => s_unp hC g h
  | .par os is l, st, h => s_par hC g h
  | .frz i, st, h => by rw [chkS.eq_def] at h; cases h
  | .app i e, st, h => s_app hC g h
  | .ext i e, st, h => s_ext hC g h
  | .ins i ix e, st, h => s_ins hC g h
  | .pop i e, st, h => s_pop hC g h
  | .unpL ps e, st, h => s_unpL hC g h
  | .parC os is l, st, h => s_parC hC g h
  | .stp i j ix e, st, h => s_stp hC g h
  | .stoD i ix e, st, h => s_stoD hC g h
  | .sto i ix e, st, h => s_sto hC g h
  | .exp e, st, h => s_exp hC g h
  | .ret e, st, h => s_ret hC g h
  | .retN, st, h => s_retN h
  | .pass, st, h => s_pass h
  | .ite c a b, st, h => by
    rw [chkS.eq_def] at h; dsimp only at h
    split at h
    · simp only [Bool.and_eq_true] at h
      obtain ⟨⟨h1, h2⟩, h3⟩ := h
      exact (q1_ite ((sndE hC c).t X _ g h1) (ss_all hC g a _ h2) (ss_all hC g b _ h3)).cg (by rw [wS, Nat.mul_add, Nat.mul_add]; exact Nat.le_refl _) fun δ D q => by
        rw [exec] at q
        exact ev_mono hC c .v δ _ _ (fun x => boolW_mono x _ _ fun kk hk => by
          split at hk
          · rename_i e; rw [if_pos e]; exact hk
          · rename_i e; rw [if_neg e]; exact hk) q
    · cases h
  | .for p it b, st, h => by
    rw [chkS.eq_def] at h; dsimp only at h
    split at h
    · rename_i tg iter body pos
      simp only [Bool.and_eq_true] at h
      obtain ⟨⟨⟨⟨h1, h2⟩, h3⟩, h4⟩, h5⟩ := h
      have hz : isZ it = true → isT p = true := fun hz => by
        have htg : ∃ a b c, tg = .Tuple a b c := by
          cases tg <;> first
            | exact ⟨_, _, _, rfl⟩
            | (exfalso
               cases it <;> first
                 | (simp [isZ] at hz; done)
                 | (rw [chkE.eq_def] at h4; simp at h4; done))
        obtain ⟨a, b, c, rfl⟩ := htg
        cases p with
        | v i => simp [chkP] at h3
        | t ps => rfl
      exact (q1_for g.calm ((sndE hC it).i X tg iter false g h4 fun _ => h2) hz (tgOk_of g h3) (ss_all hC g b _ h5) (folded_ok h1 X.env) fun δ => ev_mono hC it .i δ).cg (by rw [wS, ← mul2]; exact Nat.le_refl _) fun δ D q => by rw [exec] at q; exact q
    · cases h
  | .whl c b, st, h => by
    rw [chkS.eq_def] at h; dsimp only at h
    split at h
    · simp only [Bool.and_eq_true] at h
      exact (q1_whl ((sndE hC c).t X _ g h.1) (ss_all hC g b _ h.2)).cg (by rw [wS, ← Nat.mul_add, ← Nat.mul_assoc, Nat.mul_comm big cc, Nat.mul_assoc]; exact Nat.le_refl _) fun δ D q => by rw [exec] at q; exact q
    · cases h
theorem ss_all (hC : ∀ f ds, Mono (C f ds)) {X : Cx} (g : Gd tb C G cc k X) : ∀ (l : List S) (sts : List Stmt), chkSs tb l (ctx X) sts = true → QS X sts (cc * wSs l) (execs C G l)
  | [], sts, h => by
    cases sts with
    | nil => exact qs_nil.cg (Nat.zero_le _) fun δ D q => by rw [execs] at q; exact q
    | cons _ _ => simp [chkSs] at h
  | s :: r, sts, h => by
    by_cases hf : ∃ i, s = .frz i
    · obtain ⟨i, rfl⟩ := hf
      have h' : chkSs tb r (ctx X) sts = true := by rw [chkSs.eq_def] at h; exact h
      exact (qs_frz (i := i) (ss_all hC g r sts h')).cg (by rw [wSs]; exact Nat.mul_le_mul_left _ (Nat.le_add_left _ _)) fun δ D q => by rw [execs, exec] at q; exact q
    · have h' : ∃ st sts', sts = st :: sts' ∧ chkS tb s (ctx X) st = true ∧ chkSs tb r (ctx X) sts' = true := by
        rw [chkSs.eq_def] at h
        cases sts with
        | nil => cases s <;> first | (simp at h; done) | exact absurd ⟨_, rfl⟩ hf
        | cons st sts' => cases s <;> first | (exact absurd ⟨_, rfl⟩ hf) | (simp only [Bool.and_eq_true] at h; exact ⟨_, _, rfl, h.1, h.2⟩)
      obtain ⟨st, sts', rfl, h1, h2⟩ := h'
      exact (qs_cons (s_all hC g s st h1) (ss_all hC g r sts' h2)).cg (by rw [wSs, Nat.mul_add]; exact Nat.le_refl _) fun δ D q => by rw [execs] at q; exact q
end
end
end SF

/-! D6i: all defs of a table keep their promises. -/
namespace SF
open PySem PySem.Spec PyProof.Rows L2
/-- more draws than any block's text makes, calls apart -/
def bigB : Nat := 2 ^ 400
/-- a def of the text: its arguments, body, scope; its slots' names, its parameters; its reading -/
structure DI where
  name : Str
  body : List Stmt
  scope : Scope
  N : List Str
  ps : List Str
  d : FDef
def scopeB (N ps : List Str) (sc : Scope) : Bool :=
  sc.kind == .function && !sc.isCoroutine && !sc.isGenerator && decide N.Nodup && decide (N.take ps.length = ps) && (ps.all fun x => sc.names.lookup x == some .local || sc.names.lookup x == some .cell) && sc.names.all fun y => !(y.2 == .free)
theorem scopeB_ok {N ps : List Str} {sc : Scope} (h : scopeB N ps sc = true) : FnScope N ps sc := by
  unfold scopeB at h
  simp only [Bool.and_eq_true, beq_iff_eq, Bool.not_eq_true', decide_eq_true_eq, List.all_eq_true, Bool.or_eq_true, beq_eq_false_iff_ne, ne_eq] at h
  obtain ⟨⟨⟨⟨⟨⟨h1, h2⟩, h3⟩, h4⟩, h5⟩, h6⟩, h7⟩ := h
  exact ⟨h1, h2, h3, h4, h5, h6, h7⟩
def DI.ok (tb : Tb) (i : DI) : Bool := scopeB i.N i.ps i.scope && chkSs tb i.d.body ⟨i.N, i.scope, fun _ => true⟩ i.body && i.d.np == i.ps.length && i.d.nn == i.N.length && Nat.ble (wSs i.d.body) bigB
section
variable {P : Program} {w : World} {K : PySem.W.Frag} {mg : Str → Option Value} {base : Heap} {tb : Tb} {T : List FDef} {G : Nat → Option Dat} {prim : Nat → Option (List Dat → (Dat → Prop) → Prop)}
theorem FnG.mono {k k' : Nat} {f : Addr} {fd : FuncData} {ps : List Str} {n n' : Nat} {W : List Dat → (Dat → Prop) → Prop} (F : FnG P w K mg base k f fd ps n W) (hk : k ≤ k') (hn : n ≤ n') : FnG P w K mg base k' f fd ps n' W :=
  ⟨fun A outer s H args us vs ds m Φ hr t e0 hb r hl hrep pl hW => codeAny_mono (F.run A outer s H args us vs ds m Φ (hr.mono hk) t e0 hb r hl hrep (pl.mono (by omega)) hW) fun r s' ⟨u, e, t', v, H', h1, h2, h3, h4, h5, d, st, h6, h7⟩ => ⟨u, e, t', v, H', h1, h2, h3, h4, h5, d, st.mono hn, h6, h7⟩⟩
/-- what is told of the f-th def -/
structure Told (P : Program) (w : World) (K : PySem.W.Frag) (mg : Str → Option Value) (base : Heap) (tb : Tb) (T : List FDef) (prim : Nat → Option (List Dat → (Dat → Prop) → Prop)) (f : Nat) (x : Str) : Prop where
  ex : ∃ (a : Addr) (fd : FuncData) (ps : List Str), mg x = some (.ref a) ∧ PySem.W.keepIn K (.ref a) = true ∧ (∀ ss, tb.shp[f]? = some ss → ∀ q ∈ ss, BindG K fd ps q.1 q.2.1 q.2.2) ∧
    ((∃ p, prim f = some p ∧ FnG P w K mg base 1 a fd ps 1 p) ∨
      (prim f = none ∧ ∃ (i : DI) (params : Arguments) (qual : Str) (dvs : List V) (kws : List (Str × V)), FunD K i.name qual params i.body i.scope dvs kws a fd ∧ ps = i.ps ∧ T[f]? = some i.d ∧ i.ok tb = true))
theorem pow_pos' (k : Nat) : 1 ≤ bigB ^ k := Nat.one_le_pow _ _ (by unfold bigB; exact Nat.pow_pos (by decide))
/-- THE RULE for a table of defs -/
theorem all_fns (hp : ∀ f p, prim f = some p → ∀ ds, Mono (p ds)) (told : ∀ (f : Nat) (x : Str), tb.fns[f]? = some x → Told P w K mg base tb T prim f x) (fre : ∀ x ∈ tb.fre, mg x = none)
    (glo : ∀ (i : Nat) (x : Str) (d : Dat), tb.gl[i]? = some x → G i = some d → ∃ u v, mg x = some u ∧ L2.RelV v u ∧ ∀ H, Rep K H v d) :
    ∀ (k : Nat) (f : Nat) (x : Str), tb.fns[f]? = some x → ∃ a fd ps, mg x = some (.ref a) ∧ PySem.W.keepIn K (.ref a) = true ∧ FnG P w K mg base k a fd ps (bigB ^ k) (callW T G prim k f) ∧ ∀ ss, tb.shp[f]? = some ss → ∀ q ∈ ss, BindG K fd ps q.1 q.2.1 q.2.2 := by
  intro k
  induction k with
  | zero =>
    intro f x hx
    obtain ⟨a, fd, ps, h1, h2, h3, _⟩ := (told f x hx).ex
    exact ⟨a, fd, ps, h1, h2, ⟨fun A outer s H args us vs ds m Φ hr t e0 hb r hl hrep pl hW => by rw [callW] at hW; exact hW.elim⟩, h3⟩
  | succ k ih =>
    intro f x hx
    obtain ⟨a, fd, ps, h1, h2, h3, h4⟩ := (told f x hx).ex
    refine ⟨a, fd, ps, h1, h2, ?_, h3⟩
    rcases h4 with ⟨p, hpr, F⟩ | ⟨hpr, i, params, qual, dvs, kws, F, rfl, hT, ok⟩
    · refine ⟨fun A outer s H args us vs ds m Φ hr t e0 hb r hl hrep pl hW => ?_⟩
      rw [callW, hpr] at hW
      exact (F.mono (show 1 ≤ k + 1 by omega) (pow_pos' (k + 1))).run A outer s H args us vs ds m Φ hr t e0 hb r hl hrep pl hW
    · unfold DI.ok at ok
      simp only [Bool.and_eq_true, beq_iff_eq] at ok
      obtain ⟨⟨⟨⟨o1, o2⟩, o3⟩, o4⟩, o5⟩ := ok
      have S := scopeB_ok o1
      have hw : wSs i.d.body ≤ bigB := Nat.le_of_ble_eq_true o5
      have hC : ∀ f ds, Mono (callW T G prim k f ds) := fun f ds => callW_mono hp k f ds
      refine fng_of F S fun cdv A outer s H hr => ⟨execs (callW T G prim k) G i.d.body, ?_, fun ds Φ hW => ?_⟩
      · have g : Gd tb (callW T G prim k) G (bigB ^ k) k (cxOf CX0 P w K mg base i.N qual i.scope a cdv A outer s H fun _ _ _ => False) :=
          ⟨rfl, S.nd, hr, S.kind, fre, glo, ih⟩
        exact (ss_all hC g i.d.body i.body o2).cg (by rw [Nat.pow_succ]; exact Nat.mul_le_mul_left _ hw) fun δ D q => q
      · rw [callW, hpr, hT] at hW
        rw [← o4]
        exact hW.2
end
end SF

/-! D6j: a law's end. -/
namespace SF
open PySem PySem.Spec PySem.W PySem.Calls PyProof.Rows L2
/-- the promise of the law's own def: the state may have given out no token yet -/
structure FnG0 (P : Program) (w : World) (K : PySem.W.Frag) (mg : Str → Option Value) (base : Heap) (k : Nat) (f : Addr) (fd : FuncData) (ps : List Str) (n : Nat) (W : List Dat → (Dat → Prop) → Prop) : Prop where
  run : ∀ (A : Around) (outer : List PySem.Env) (s : Shared) (H : Hp) (args : Args) (us : List Value) (vs : List V) (ds : List Dat) (m : Nat) (Φ : Dat → Prop), RoomG k A → Env0 P w K mg base A outer s H → BindsTo s fd args (ps.zip us) → L2.Vals vs us → vs.length = ps.length → Reps K H vs ds → PotLe (n + m) H → W ds Φ →
    codeAny (model P w) A (.call (.ref f) args) (fun r s' => ∃ u, r = .ok (.ret u) ∧ CE outer P w H s (fun v H' => ∃ d, Step n H H' ∧ Rep K H' v d ∧ Φ d) u s') s
/-- what a law's call starts from: the script alone is tracked, and only where it is no written text -/
def lawH (K : PySem.W.Frag) (a : Addr) (o : Obj) (xs : List V) : Hp := fun b => if b = a ∧ (K.lookup a).isNone = true then some (.frz o (.lst xs)) else none
theorem lawH_some {K : PySem.W.Frag} {a b : Addr} {o : Obj} {xs : List V} {u : HO} (h : lawH K a o xs b = some u) : b = a ∧ K.lookup a = none ∧ u = .frz o (.lst xs) := by
  unfold lawH at h
  split at h
  · rename_i c
    exact ⟨c.1, Option.isNone_iff_eq_none.mp c.2, (Option.some.inj h).symm⟩
  · cases h
theorem lawH_quiet {K : PySem.W.Frag} {h : Heap} {a b : Addr} {o ob : Obj} {xs : List V} (e : h.get? b = some ob) (n : b = a → K.lookup a = none → False) : (hidT h (lawH K a o xs)).get? b = some ob := by
  refine hidT_get e ?_
  cases q : lawH K a o xs b with
  | none => rfl
  | some u => exact (n (lawH_some q).1 (lawH_some q).2.1).elim
/-- the law's call, from its promise -/
theorem law_end {P : Program} {w : World} {K : PySem.W.Frag} {mg mb : Str → Option Value} {k n : Nat} {fa a : Addr} {fd : FuncData} {x : Str} {W : List Dat → (Dat → Prop) → Prop} {s₁ : Shared} {vs : List Value} {ns : List Int}
    (hk : K.In s₁.heap) (hm : s₁.heap.Ns mainGlobals mg ∧ (s₁.heap.Ns builtinsNs mb ∧ ∀ x : Str, x ≠ "__name__" → mb x = bootBuiltins x) ∧ s₁.heap.NoLimit) (hg : s₁.gens = #[])
    (ha : s₁.heap.get? a = some { cls := .type "list", data := .seq vs.toArray }) (hi : IntsAre vs ns) (hl : ns.length ≤ 1000) (hr : RoomG k callerA) (hn : n ≤ zMax)
    (F : ∀ base : Heap, K.In base → base.Ns mainGlobals mg → FnG0 P w K mg base k fa fd [x] n W) (hbind : ∀ (s : Shared) (u : Value), BindsTo s fd ⟨[u], []⟩ [(x, u)])
    (hW : W [.scr ns] fun d => d = .bl true) :
    codeAny (model P w) callerA (.call (.ref fa) ⟨[.ref a], []⟩) (fun r s' => r = .ok (.ret (.bool true)) ∧ OldK s₁.heap s'.heap ∧ s'.os = s₁.os ∧ AllBare s'.gens) s₁ := by
  obtain ⟨hns, ⟨hb, hbb⟩, hlim⟩ := hm
  have big : ns.length ≤ sizeLine := Nat.le_trans hl (by decide)
  have rv : L2.Vals (ns.map V.int) vs := vals_ints hi
  generalize hH : lawH K a { cls := .type "list", data := .seq vs.toArray } (ns.map V.int) = H
  have look : ∀ b u, H b = some u → b = a ∧ K.lookup a = none ∧ u = .frz { cls := .type "list", data := .seq vs.toArray } (.lst (ns.map V.int)) := by
    subst hH
    exact fun b u => lawH_some
  have space : ∀ {b : Addr} {m : Str → Option Value}, s₁.heap.Ns b m → (hidT s₁.heap H).Ns b m := by
    rintro b m ⟨ob, es, ep, e, d, r⟩
    subst hH
    refine ⟨ob, es, ep, lawH_quiet e ?_, d, r⟩
    rintro rfl _
    rw [ha] at e
    cases e
    cases d
  have e0 : Env0 P w K mg (hidT s₁.heap H) callerA [] s₁ H := by
    refine { frames := rfl, mod := ⟨?_, space hns, ⟨mb, space hb, hbb⟩, hlim.imp fun _ z => ⟨space z.1, z.2⟩⟩, bs := fun b o e => of_hidT e, bsz := Nat.le_of_eq (hidT_size _ _), funs := trivial, frf := ?_, hok := ?_, bare := .of_eq hg }
    · intro b ob e
      subst hH
      refine lawH_quiet (hk b ob e) ?_
      rintro rfl z
      rw [z] at e
      cases e
    · intro b z
      cases z
    · intro b u z
      obtain ⟨rfl, _, rfl⟩ := look b u z
      exact ⟨ha, by rw [List.length_map]; exact big, vs, _, rv, ha⟩
  have script : ScrL K H a (ns.map V.int) := by
    cases q : K.lookup a with
    | none =>
      left
      refine ⟨{ cls := .type "list", data := .seq vs.toArray }, ?_⟩
      subst hH
      unfold lawH
      rw [q]
      simp
    | some o =>
      have e := hk a o q
      rw [ha] at e
      cases e
      exact .inr ⟨_, vs.toArray, _, q, rfl, rfl, rfl, by rw [List.size_toArray, hi.length]; exact big, by simpa using rv⟩
  refine codeAny_mono ((F _ e0.mod.kin e0.mod.glob).run callerA [] s₁ H ⟨[.ref a], []⟩ [.ref a] [.ref a] [.scr ns] 0 (fun d => d = .bl true) hr e0 (hbind s₁ (.ref a)) (.cons rfl .nil) rfl ?_ ⟨hn, ?_⟩ hW) ?_
  · rw [Reps, Reps, Rep]
    exact ⟨⟨a, rfl, script, hl⟩, trivial⟩
  · intro b z e
    cases (look b _ e).2.2
  rintro r s' ⟨u, rfl, v, H', os, bare, un, hok', rv', d, _, rd, rfl⟩
  rw [Rep] at rd
  subst rd
  cases rv'
  refine ⟨rfl, OldK.of_keep ?_, os, bare⟩
  intro b ob e
  cases q : H b with
  | none => exact un.keep b ob e q (by intro z; cases z) (by intro z; cases z)
  | some y =>
    obtain ⟨rfl, _, rfl⟩ := look b y q
    rw [ha] at e
    cases e
    exact (hok' b _ (un.frzs b _ _ q)).1
/-- what a head leaves of a law: F gives the written part, the law's object, its promise over every base -/
theorem walk_d {l : PySem.W.OpenLaw} {n k c : Nat} {q : Program} {loose : List Str} {XP : (Str → Option Value) → Heap → Prop} {YP : World → Heap → Prop} {d : DefRec} {x : Str}
    (hn : l.most = some n) (hn2 : n ≤ 1000) (hdf : d.params.defaults = []) (hr : RoomG k callerA) (hc : c ≤ zMax)
    (F : ∀ (w : World) (mg : Str → Option Value) (fa : Addr) (h : Heap), YP w h → h.Ns mainGlobals mg → mg d.name = some (.ref fa) →
      ∃ (K : PySem.W.Frag) (fd : FuncData) (W : List Dat → (Dat → Prop) → Prop), K.In h ∧ (∀ (s : Shared) (u : Value), BindsTo s fd ⟨[u], []⟩ [(x, u)]) ∧ (∀ ns : List Int, ns.length ≤ n → W [.scr ns] fun d => d = .bl true) ∧
        ∀ base : Heap, K.In base → base.Ns mainGlobals mg → FnG0 l.prog w K mg base k fa fd [x] c W) :
    WalkO q loose XP YP l.row.toRowW d [] (fun f vs => PySem.call f vs) := by
  refine Att.attach_call hn hdf ?_
  intro w s₀ s₁ mg mb fa o pm cd doc a vs ns G Y _ _ _ hmg hobj hints hlen hg
  obtain ⟨K, fd, W, kin, hb, hW, hF⟩ := F w mg fa _ Y G.T.g hmg
  exact law_end kin ⟨G.T.g, ⟨G.T.b, G.T.builtins⟩, G.T.nolimit⟩ hg hobj hints (Nat.le_trans hlen hn2) hr hc hF hb (hW ns hlen)
end SF

/-! D6k: the law's own def: the first int constant gives out a token. -/
namespace SF
open PySem PySem.Spec PyProof.Rows L2
def QE0 (X : Cx) (ex : Expr) (n : Nat) (R : Mod0) (f : Env → (Dat → Prop) → Prop) : Prop :=
  ∀ (E : Value → Shared → Prop) (pins : List (Addr × Obj)) (s : Shared) (σ : L2.St) (H : Hp) (δ : Env) (m : Nat) (Φ : Dat → Prop), L2.Inv X pins σ H s → EnvRep X.K σ H δ → PotLe (n + m) H → f δ Φ →
    wpAny (model X.prog X.w) X.A (eval ex X.env) (PX X pins σ n H R Φ) E s
def QA0 (X : Cx) (es : List Expr) (n : Nat) (RL : Hp → List V → List Dat → Prop) (f : Env → (List Dat → Prop) → Prop) : Prop :=
  ∀ (pos : Pos) (E : Value → Shared → Prop) (pins : List (Addr × Obj)) (s : Shared) (σ : L2.St) (H : Hp) (δ : Env) (m : Nat) (Φ : List Dat → Prop), L2.Inv X pins σ H s → EnvRep X.K σ H δ → PotLe (n + m) H → f δ Φ →
    wpAny (model X.prog X.w) X.A (spliced (backTo pos (starEach es X.env))) (PXs X pins σ n H RL Φ) E s
def QI0 (X : Cx) (tg ex : Expr) (n : Nat) (b z : Bool) (f : Env → (Dat → Prop) → Prop) : Prop :=
  ∀ (E : Value → Shared → Prop) (pins : List (Addr × Obj)) (s : Shared) (σ : L2.St) (H : Hp) (δ : Env) (m : Nat) (Φ : Dat → Prop), L2.Inv X pins σ H s → EnvRep X.K σ H δ → PotLe (n + m) H → f δ (fun d => (∃ l, iterD d = some l) ∧ Φ d) →
    wpAny (model X.prog X.w) X.A (eval ex X.env) (fun v s1 => wpAny (model X.prog X.w) X.A (pyIter v) (PXI X pins σ tg n b z H Φ) E s1) E s
section
variable {X : Cx} {e : Expr} {es : List Expr} {n n' : Nat} {fa : Env → (Dat → Prop) → Prop} {fs : Env → (List Dat → Prop) → Prop} {RL : Hp → List V → List Dat → Prop} {pos p : Pos}
theorem q0_int {i : Int} {j : Nat} : QE0 X (.Constant (.int i) j pos) 0 (RV X.K) (fun _ Q => Q (.int i)) := fun E pins s σ H δ m Φ I er pl hf =>
  wpAny_Constant_int ⟨by show 0 < s.toks + 1; omega, .int i, H, .int i, I.tok _, ⟨_, rfl⟩, Step.refl H, rep_int i, hf⟩
theorem qa0_cons {R : Mod0} (hc : ∀ H H' H'' v d vs ds, Ext H' H'' → R H H' v d → RL H'' vs ds → RL H'' (v :: vs) (d :: ds)) (ha : QE0 X e n R fa) (hr : QA X es n' RL fs) (hs : starEach (e :: es) X.env = (false, eval e X.env) :: starEach es X.env) :
    QA0 X (e :: es) (n + n') RL (fun δ Q => fa δ fun d => fs δ fun ds => Q (d :: ds)) := fun pos E pins s σ H δ m Φ I er pl hf => by
  rw [hs]
  show wpAny _ _ (spliced ((false, eval e X.env) :: backTo pos (starEach es X.env))) _ _ s
  refine Calls.spliced_cons (thn (ha E pins s σ H δ (n' + m) _ I er (pl.mono (by omega)) hf) fun u s1 ⟨t1, x, H1, d, I1, r1, st1, b1, q1⟩ => ?_)
  exact thn (hr pos E pins s1 σ H1 δ m _ t1 I1 (er.ext st1.ext) (st1.pot _ (pl.mono (by omega))) q1) fun us s2 ⟨t2, vs, H2, ds, I2, r2, st2, b2, q2⟩ => ⟨t2, x :: vs, H2, d :: ds, I2, .cons r1 r2, st1.trans st2, hc _ _ _ _ _ _ _ st2.ext b1 b2, q2⟩
/-- a name, then values of which one gives out a token -/
theorem qa0_name {i : Nat} {x : Str} (hN : X.N[i]? = some x) (hv : Vis X.env.scope x) (hd : (x == ("__debug__" : Str)) = false) (hcd : (x == ("__classdict__" : Str)) = false) (hr : QA0 X es n' (RLv X.K) fs) : QA0 X (.Name x p :: es) n' (RLv X.K) (fun δ Q => getV δ i fun d => fs δ fun ds => Q (d :: ds)) := fun pos E pins s σ H δ m Φ I er pl hf => by
  have hf : getV δ i _ := hf
  unfold getV at hf
  split at hf
  · rename_i d hi
    obtain ⟨v, hσ, rv⟩ := (er.2 i _ hi).valAt
    show wpAny _ _ (spliced ((false, eval (.Name x p) X.env) :: backTo pos (starEach es X.env))) _ _ s
    refine Calls.spliced_cons (raw_name hN hv I hσ (fun u r => ?_) hd hcd)
    exact thn (hr pos E pins s σ H δ m _ I er pl hf) fun us s2 ⟨t2, vs, H2, ds, I2, r2, st2, b2, q2⟩ => ⟨t2, v :: vs, H2, d :: ds, I2, .cons r r2, st2, consV H H H2 v d vs ds st2.ext rv b2, q2⟩
  · exact hf.elim
/-- a builtin called -/
theorem q0_call {u : Value} {r : List V → Hp → VK → Prop} {W : List Dat → (Dat → Prop) → Prop} {R : Mod0} {x : Str} (hc : ∀ E, CallR (X.wish E) u r) (hT : (∃ id, u = .builtin id) ∨ ∃ T, u = .type T) (hg : Gl X x) (hm : X.mg x = none) (hv : bootBuiltins x = some u)
    (hr : ∀ (pins : List (Addr × Obj)) (σ : L2.St) (E' : Value → Shared → Prop) (H H1 : Hp) (vs : List V) (ds : List Dat) (Φ : Dat → Prop), Step n H H1 → RL H1 vs ds → W ds Φ → ∃ Q : VK, r vs H1 Q ∧ ∀ w s', 0 < s'.toks → EP (X.wish E') pins σ Q w s' → PX X pins σ n H R Φ w s')
    (ha : QA0 X (e :: es) n RL fs) (hn : x ≠ "__name__") (hdb : (x == ("__debug__" : Str)) = false)
    (he : starEach (e :: es) X.env = (false, eval e X.env) :: starEach es X.env) (hpl : (backTo pos (starEach es X.env)).any (·.1) = false) : QE0 X (.Call (.Name x p) (e :: es) [] pos) n R (fun δ Q => fs δ fun ds => W ds Q) := fun E pins s σ H δ m Φ I er pl hf => by
  refine wpAny_Call_Name_kw (ld_blt I hg hm hv ?_ hn hdb)
  have fin : wpAny (model X.prog X.w) X.A (spliced (backTo pos (starEach (e :: es) X.env))) (fun vs s₁ => wpAny (model X.prog X.w) X.A (call u vs) (PX X pins σ n H R Φ) E s₁) E s :=
    thn (ha pos E pins s σ H δ m _ I er pl hf) fun us s1 ⟨t1, vs, H1, ds, I1, r1, st1, b1, q1⟩ => by
      obtain ⟨Q, hq, hk⟩ := hr pins σ E H H1 vs ds Φ st1 b1 q1
      exact px_of t1 (hc E pins s1 σ H1 vs us Q (I1.wish E) r1 hq) fun w s' t h => hk w s' t h
  rcases hT with ⟨id, rfl⟩ | ⟨T, rfl⟩
  · exact PyProof.Rows.callWith_builtin1 fin he hpl
  · exact PyProof.Rows.callWith_type1 fin he hpl
theorem q0_bi (hu : X.A.units + 300 < cLine) (hgu : X.A.guards = some []) (hc : X.calm = true) (b : B1) (u : Value) {x : Str} (hb : b1V b = some u) (hx : x = b1N b) (hg : Gl X x) (hm : X.mg x = none) (hv : bootBuiltins x = some u)
    (ha : QA0 X (e :: es) n (RLb X.K) fs) (he : starEach (e :: es) X.env = (false, eval e X.env) :: starEach es X.env) (hpl : (backTo pos (starEach es X.env)).any (·.1) = false) : QE0 X (.Call (.Name x p) (e :: es) [] pos) n (ROw X.K) (fun δ Q => fs δ fun ds => biW b ds Q) := by
  refine q0_call (r := rB1 X.K b) (fun E => b1_callR hu hgu hc b u hb E) ?_ hg hm hv (fun pins σ E' H H1 vs ds Φ st rl q => ⟨_, ⟨ds, rl, biW_mono b ds _ _ (fun d h => res_ex h) q⟩, fun w s' t h => ep_px t st (Nat.le_refl _) h⟩) ha ?_ ?_ he hpl
  · cases b <;> simp only [b1V, Option.some.injEq, reduceCtorEq] at hb <;> subst hb <;> first | exact .inl ⟨_, rfl⟩ | exact .inr ⟨_, rfl⟩
  · subst hx; cases b <;> decide
  · subst hx; cases b <;> decide
/-- a walk over range(e) -/
theorem qi0_range {a tg : Expr} {bb : Bool} (hg : Gl X "range") (hm : X.mg "range" = none) (ha : QE0 X a n (RV X.K) fa) (hs : starEach [a] X.env = [(false, eval a X.env)]) : QI0 X tg (.Call (.Name "range" p) [a] [] pos) n bb false (fun δ Q => fa δ fun x => rangeW x Q) := fun E pins s σ H δ m Φ I er pl hf => by
  have hA : QA0 X [a] n (RL1 X.K) (fun δ Q => fa δ fun d => Q [d]) := fun pos E pins s σ H δ m Φ I er pl hf => by
    rw [hs]
    show wpAny _ _ (spliced ((false, eval a X.env) :: [])) _ _ s
    exact Calls.spliced_cons (thn (ha E pins s σ H δ m _ I er pl hf) fun u s1 ⟨t1, x, H1, dx, I1, r1, st1, b1, q1⟩ => Calls.spliced_nil ⟨t1, [x], H1, [dx], I1, .cons r1 .nil, st1, ⟨x, dx, rfl, rfl, b1⟩, q1⟩)
  refine Call_ (ld_blt I hg hm boot_range (PyProof.Rows.callWith_type1 (thn (hA pos E pins s σ H δ m (fun ds => rng1 ds fun d => (∃ l, iterD d = some l) ∧ Φ d) I er pl hf) fun us s1 ⟨t1, vs, H1, ds, I1, r1, st1, b1, q1⟩ => ?_) hs rfl))
  obtain ⟨v, d, rfl, rfl, h⟩ := b1
  replace q1 : rangeW d (fun d => (∃ l, iterD d = some l) ∧ Φ d) := q1
  unfold rangeW at q1
  split at q1
  · rename_i k
    rw [Rep] at h
    subst h
    obtain ⟨⟨h1, h2⟩, _, q⟩ := q1
    cases r1 with
    | cons r rr =>
      cases rr
      obtain ⟨t, rfl⟩ := r
      unfold big at h2
      refine px_of t1 (call_range_1 (range_it I1 (R := fun J H' => H' = H1 ∧ Wlk X.K bb false H1 ((List.range k.toNat).map fun i : Nat => .int i) J) (by omega) (by omega) (by omega) (by omega) ⟨rfl, ?_⟩)) fun w s2 t2 h2' => px_of t2 h2' fun w s3 t3 h3 => pxi_of t3 st1 ?_ rfl q h3
      · have w := wlk_rng (bb := bb) (K := X.K) (H := H1) (lo := 0) (k := k.toNat)
        have ee : (fun i : Nat => Dat.int (0 + i)) = fun i : Nat => Dat.int i := by funext i; rw [Int.zero_add]
        rw [ee] at w
        rw [Int.sub_zero]
        exact w
      · rw [List.length_map, List.length_range]; unfold sizeLine; omega
  · exact q1.elim
end
def Q10 (X : Cx) (st : Stmt) (n : Nat) (F : Env → Post → Prop) : Prop :=
  ∀ (E : Value → Shared → Prop), PassesOwn (model X.prog X.w) X.A X.env E → ∀ (pins : List (Addr × Obj)) (s : Shared) (σ : L2.St) (H0 H : Hp) (δ : Env) (m : Nat) (D : Post), L2.Inv X pins σ H s → EnvS X.K σ H0 H δ → Ext H0 H → PotLe (n + m) H → F δ D →
    wpAny (model X.prog X.w) X.A (PySem.exec st X.env) (SO X pins n H0 H D) E s
section
variable {X : Cx} {st : Stmt} {body : List Stmt} {n n' n'' : Nat} {e iter tg c : Expr} {pos : Pos} {fe fi : Env → (Dat → Prop) → Prop} {gc : Env → (Bool → Prop) → Prop} {F : Env → Post → Prop} {p : P} {z : Bool}
theorem q10_for (hc : X.calm = true) (hi : QI0 X tg iter n false z fi) (hz : z = true → isT p = true) (hg : TgOk X tg p) (hb : QS X body n' F) (hs : ∀ x, foldedSetIterable iter X.env x = pure x) (mfi : ∀ δ, Mono (fi δ)) :
    Q10 X (.For tg iter body [] pos) (n + sizeLine * n') (fun δ D => fi δ fun x => ∃ ds, iterD x = some ds ∧ forW p F ds δ D) := fun E hp pins s σ H0 H δ m D I es ex pl hf => by
  refine wpAny_For (thn (hi E pins s σ H δ (sizeLine * n' + m) (fun x => ∃ ds, iterD x = some ds ∧ forW p F ds δ D) I es.rep (pl.mono (by omega)) (mfi δ _ _ (fun x ⟨ds, q1, q2⟩ => ⟨⟨ds, q1⟩, ds, q1, q2⟩) hf)) fun xv s1 hx => thn hx fun itv s2 h2 => ?_) hs
  obtain ⟨t2, it, fp, tn, J, H2, dx, ds, e, I2, T, st2, f2, stp, wk, hlen, hds, ds', hds', q⟩ := h2
  rw [hds] at hds'
  cases hds'
  subst e
  have sp0 := StepS.of ex stp
  have stat : ∀ {H' : Hp}, (∀ b ∈ fp, H' b = none) → ∀ b ∈ fp, FpOk X pins H' b := fun hn b hb => ⟨hn b hb, (f2 b hb).2⟩
  have plB : PotLe (sizeLine * n') H2 := stp.pot _ (pl.mono (by omega))
  refine codeAny_forLoop_any (fun k s' => ∃ i σ' H' δ', 0 < s'.toks ∧ L2.Inv X pins σ' H' s' ∧ tn i s'.heap ∧ (∀ b ∈ fp, H' b = none) ∧ k = ds.length - i ∧ i ≤ ds.length ∧ EnvS X.K σ' H0 H' δ' ∧ StepS (i * n') H0 H2 H' ∧ forW p F (ds.drop i) δ' D) ?_ ds.length
    ⟨0, σ, H2, δ, t2, I2, st2, fun b hb => (f2 b hb).1, rfl, Nat.zero_le _, es.ext stp.ext, by rw [Nat.zero_mul]; exact StepS.refl sp0.ext, q⟩
  rintro k s3 ⟨i, σ3, H3, δ3, t3, I3, st3, fr3, rfl, hik, es3, sp3, q3⟩
  have ex3 : EXr false H2 H3 := sp3.exs
  by_cases hlt : i < ds.length
  · have hx : ds[i]? = some ds[i] := List.getElem?_eq_getElem hlt
    have e0 : ds.drop i = ds[i] :: ds.drop (i + 1) := List.drop_eq_getElem_cons hlt
    rw [e0, forW] at q3
    refine wpAny_passesOwn hp (thn (tkF (X := X) t3 (T.item X rfl rfl rfl hc i pins s3 σ3 H3 E I3 (stat fr3) st3 (wk.go H3 i ex3 hlt))) fun r s4 ⟨t4, u, hr, h4⟩ => ?_)
    subst hr
    refine wpAny_passesOwn hp (thn (tkF (X := X) t4 h4) fun _ s5 ⟨t5, x, H5, I5, r5, y5, st5, fr5⟩ => ?_)
    obtain ⟨sp5, yr⟩ := wk.yld H3 i x H5 _ ex3 hx y5
    have I5' := I5.pinned (stat fr5) (T.obj _ _ st5)
    refine wpAny_passesOwn hp (thn (tg_run hz hg t5 I5' (es3.rep.ext sp5.ext) r5 yr q3) fun _ s6 ⟨t6, σ6, δ6, I6, er6, q6, k6⟩ => ?_)
    have hle : (i + 1) * n' ≤ sizeLine * n' := Nat.mul_le_mul_right _ (by omega)
    rw [Nat.succ_mul] at hle
    have sp5' := StepS.of sp3.ext sp5
    have sp53 := sp3.trans sp5'
    refine wpAny_passesOwn hp (thn (hb E hp _ s6 σ6 H0 H5 δ6 0 _ t6 I6 ((es3.ext sp5.ext).kp er6 k6) sp5'.ext (sp53.pot _ (plB.mono (by omega))) q6) fun f s7 q7 => ?_)
    obtain ⟨t7, q7⟩ := q7
    have again : ∀ {σ7 : L2.St} {H7 : Hp} {δ7 : Env}, L2.Inv X (pins ++ pinsAt fp s5.heap) σ7 H7 s7 → EnvS X.K σ7 H0 H7 δ7 → StepS n' H0 H5 H7 → forW p F (ds.drop (i + 1)) δ7 D →
        ∃ m, m < ds.length - i ∧ ∃ i σ' H' δ', 0 < s7.toks ∧ L2.Inv X pins σ' H' s7 ∧ tn i s7.heap ∧ (∀ b ∈ fp, H' b = none) ∧ m = ds.length - i ∧ i ≤ ds.length ∧ EnvS X.K σ' H0 H' δ' ∧ StepS (i * n') H0 H2 H' ∧ forW p F (ds.drop i) δ' D := fun {σ7 H7 δ7} I7 es7 sp7 q7 => by
      refine ⟨ds.length - (i + 1), by omega, i + 1, σ7, H7, δ7, t7, I7.unpinned, T.keep _ _ _ st5 fun b hb o e => (I7.pin (b, o) (List.mem_append_right _ (List.mem_append_right _ (mem_pinsAt hb e)))).1, fun b hb => ?_, rfl, hlt, es7, (sp53.trans sp7).mono (by rw [Nat.succ_mul]; omega), q7⟩
      obtain ⟨o, e, d⟩ := T.obj _ _ st5 b hb
      exact (I7.pin (b, o) (List.mem_append_right _ (List.mem_append_right _ (mem_pinsAt hb e)))).2.1
    have outp : ∀ {H7 : Hp}, StepS n' H0 H5 H7 → StepS (n + sizeLine * n') H0 H H7 := fun {H7} sp7 => ((sp0.trans sp53).trans sp7).mono (by omega)
    cases f with
    | next => obtain ⟨σ7, H7, δ7, I7, es7, sp7, n7⟩ := q7; exact again I7 es7 sp7 n7
    | cont => obtain ⟨σ7, H7, δ7, I7, es7, sp7, n7⟩ := q7; exact again I7 es7 sp7 n7
    | brk => obtain ⟨σ7, H7, δ7, I7, es7, sp7, n7⟩ := q7; exact ⟨t7, σ7, H7, δ7, I7.unpinned, es7, outp sp7, n7⟩
    | ret v => obtain ⟨x7, σ7, H7, d7, δ7, I7, r7, b7, es7, sp7, q7⟩ := q7; exact ⟨t7, x7, σ7, H7, d7, δ7, I7.unpinned, r7, b7, es7, outp sp7, q7⟩
  · have ei : i = ds.length := by omega
    subst ei
    rw [List.drop_length, forW] at q3
    refine wpAny_passesOwn hp (thn (tkF (X := X) t3 (T.done X rfl rfl rfl hc ds.length pins s3 σ3 H3 E I3 (stat fr3) st3 (wk.stop H3 ex3))) fun r s4 ⟨t4, hr, I4⟩ => ?_)
    subst hr
    have hmul : ds.length * n' ≤ sizeLine * n' := Nat.mul_le_mul_right _ hlen
    exact wpAny_execs_nil ⟨t4, σ3, H3, δ3, I4, es3, (sp0.trans sp3).mono (by omega), q3⟩
end
section
variable {X : Cx}
theorem lc_run0 {pins : List (Addr × Obj)} {s : Shared} {σ : L2.St} {H : Hp} {δ : Env} {m : Nat} {Φ : List Dat → Prop} {elt tg iter : Expr} {ifs : List Expr} {scope : Scope} {own : List (Str × Nat)} {pos pos' : Pos} {p : P} {z : Bool} {n n1 n2 : Nat}
    {fi fe : Env → (Dat → Prop) → Prop} {ft : Env → (Bool → Prop) → Prop} {use : Option (Value → Sem Unit)} {Qf : Value → Shared → Prop} {E : Value → Shared → Prop}
    (hc : X.calm = true) (hN : X.N.Nodup) (I : L2.Inv X pins σ H s) (er : EnvRep X.K σ H δ) (pl : PotLe (n + sizeLine * (n1 + n2) + m) H) (hi : QI0 X tg iter n true z fi) (ok : BlkOk X.N X.env.scope scope own) (hz : z = true → isT p = true) (hv : ∀ i ∈ varsP p, i ∈ own.map (·.2))
    (hg : ∀ (s : Shared) (H : Hp) (C : Addr) (cl : List (Str × Addr)) (fp : List Addr), TgOk (X.blk s H scope (compEnvC scope cl C X.env) fp) tg p) (ht : ∀ (s : Shared) (H : Hp) (C : Addr) (cl : List (Str × Addr)) (fp : List Addr), QTs (X.blk s H scope (compEnvC scope cl C X.env) fp) ifs n1 ft)
    (he : ∀ (s : Shared) (H : Hp) (C : Addr) (cl : List (Str × Addr)) (fp : List Addr), QE (X.blk s H scope (compEnvC scope cl C X.env) fp) elt n2 (RV X.K) fe) (hs : ∀ x, foldedSetIterable iter X.env x = pure x)
    (h : fi δ fun x => ∃ ds, iterD x = some ds ∧ mapW (turnW p (wipeD δ (own.map (·.2))) ft fe) ds Φ) (mfi : ∀ δ, Mono (fi δ))
    (hRR : ∀ D C s' m' H' ys, 0 < s'.toks → L2.Inv X pins σ H' s' → Step (n + sizeLine * (n1 + n2)) H H' → H D = none → Own X.K H' D (.lst ys) → Φ ys → s'.heap.Ns C m' → FpOk X pins H' C → compPost (model X.prog X.w) X.A E use Qf (.ref D) C (.ok .next) s') :
    wpAny (model X.prog X.w) X.A (comprehension (.ListComp elt [⟨tg, iter, ifs, 0⟩] scope pos) scope X.env pos' (newList []) false (eval iter X.env) use) Qf E s :=
  lc_from hc hN I er pl ok hz hv hg ht he hs (hi E pins s σ H δ (sizeLine * (n1 + n2) + m) _ I er (pl.mono (by omega)) (mfi δ _ _ (fun _ ⟨ds, q1, q2⟩ => ⟨⟨ds, q1⟩, ds, q1, q2⟩) h)) hRR
theorem q0_comp {elt tg iter : Expr} {ifs : List Expr} {scope : Scope} {own : List (Str × Nat)} {pos : Pos} {p : P} {z : Bool} {n n1 n2 : Nat} {fi fe : Env → (Dat → Prop) → Prop} {ft : Env → (Bool → Prop) → Prop}
    (hc : X.calm = true) (hN : X.N.Nodup) (hi : QI0 X tg iter n true z fi) (ok : BlkOk X.N X.env.scope scope own) (hz : z = true → isT p = true) (hv : ∀ i ∈ varsP p, i ∈ own.map (·.2))
    (hg : ∀ (s : Shared) (H : Hp) (C : Addr) (cl : List (Str × Addr)) (fp : List Addr), TgOk (X.blk s H scope (compEnvC scope cl C X.env) fp) tg p) (ht : ∀ (s : Shared) (H : Hp) (C : Addr) (cl : List (Str × Addr)) (fp : List Addr), QTs (X.blk s H scope (compEnvC scope cl C X.env) fp) ifs n1 ft)
    (he : ∀ (s : Shared) (H : Hp) (C : Addr) (cl : List (Str × Addr)) (fp : List Addr), QE (X.blk s H scope (compEnvC scope cl C X.env) fp) elt n2 (RV X.K) fe) (hs : ∀ x, foldedSetIterable iter X.env x = pure x) (mfi : ∀ δ, Mono (fi δ)) :
    QE0 X (.ListComp elt [⟨tg, iter, ifs, 0⟩] scope pos) (n + sizeLine * (n1 + n2)) (ROw X.K) (fun δ Q => fi δ fun x => ∃ ds, iterD x = some ds ∧ mapW (turnW p (wipeD δ (own.map (·.2))) ft fe) ds fun ys => Q (.lst ys)) := fun E pins s σ H δ m Φ I er pl hf => by
  rw [eval_ListComp]
  refine lc_run0 hc hN I er pl hi ok hz hv hg ht he hs hf mfi fun D C s' m' H' ys t' I' st hD ow q hn f => ⟨m', hn, fun h'' sb => ?_⟩
  obtain ⟨f0, f1, f2, f3, f4, f5⟩ := f
  exact ⟨t', .ref D, H', .lst ys, I'.turned (t' := s'.toks) (fun b o hb e => (sb.2 b hb).trans e) f0 f1 f3 f4 f5, rfl, st, .inl ⟨D, rfl, hD, ow⟩, q⟩
end
def QS0 (X : Cx) (sts : List Stmt) (n : Nat) (F : Env → Post → Prop) : Prop :=
  ∀ (E : Value → Shared → Prop), PassesOwn (model X.prog X.w) X.A X.env E → ∀ (pins : List (Addr × Obj)) (s : Shared) (σ : L2.St) (H0 H : Hp) (δ : Env) (m : Nat) (D : Post), L2.Inv X pins σ H s → EnvS X.K σ H0 H δ → Ext H0 H → PotLe (n + m) H → F δ D →
    wpAny (model X.prog X.w) X.A (PySem.execs sts X.env) (SO X pins n H0 H D) E s
section
variable {X : Cx} {st : Stmt} {sts : List Stmt} {n n' n'' : Nat} {e : Expr} {pos : Pos} {fe fi : Env → (Dat → Prop) → Prop} {i : Nat} {x : Str} {px : Pos}
theorem QE0.frz {f : Env → (Dat → Prop) → Prop} (h : QE0 X e n (ROw X.K) f) : QE0 X e n (RV X.K) f := fun E pins s σ H δ m Φ I er pl hf =>
  thn (h E pins s σ H δ m Φ I er pl hf) fun u s' q => q.frz
theorem qa0_one {R : Mod0} {RL : Hp → List V → List Dat → Prop} (hc : ∀ H H' v d, R H H' v d → RL H' [v] [d]) (ha : QE0 X e n R fe) (hs : starEach [e] X.env = [(false, eval e X.env)]) : QA0 X [e] n RL (fun δ Q => fe δ fun d => Q [d]) := fun pos E pins s σ H δ m Φ I er pl hf => by
  rw [hs]
  show wpAny _ _ (spliced ((false, eval e X.env) :: [])) _ _ s
  exact Calls.spliced_cons (thn (ha E pins s σ H δ m _ I er pl hf) fun u s1 ⟨t1, x, H1, dx, I1, r1, st1, b1, q1⟩ => Calls.spliced_nil ⟨t1, [x], H1, [dx], I1, .cons r1 .nil, st1, hc _ _ _ _ b1, q1⟩)
theorem q10_ret (he : QE0 X e n (RV X.K) fe) : Q10 X (.Return (some e) pos) n (fun δ D => fe δ (D.rt δ)) := fun E hE pins s σ H0 H δ m D I es ex pl hf =>
  wpAny_Return_some (thn (he E pins s σ H δ m _ I es.rep pl hf) fun v s1 ⟨t1, x, H1, d, I1, r1, st1, b1, q1⟩ => ⟨t1, x, σ, H1, d, δ, I1, r1, b1, es.ext st1.ext, .of ex st1, q1⟩)
theorem q10_set (hN : X.N.Nodup) (hi : X.N[i]? = some x) (hx : Loc X.env.scope x) (hfn : X.fn x = true ∨ X.env.scope.names.lookup x = some .local) (he : QE0 X e n (RV X.K) fe) (hs : swapsWith e (some (.Name x px)) pos.line X.env = pure false) :
    Q10 X (.Assign [.Name x px] e pos) n (fun δ D => fe δ fun d => D.nx (δ.set i (.val d))) := fun E hE pins s σ H0 H δ m D I es ex pl hf => by
  refine wpAny_Assign_Name (thn (he E pins s σ H δ m _ I es.rep pl hf) fun v s1 ⟨t1, y, H1, d, I1, r1, st1, b1, q1⟩ => ?_) hs
  refine px_of (X := X) t1 (store_ok (Q := fun _ s2 => L2.Inv X pins (σ.set i (some y)) H1 s2) I1 hN hi hx r1 (fun s2 I2 => I2) hfn) fun _ s2 t2 I2 => ?_
  have b1 : Rep X.K H1 y d := b1
  exact ⟨t2, _, H1, _, I2, (es.ext st1.ext).kp ((es.rep.ext st1.ext).set i (s := .val d) b1) (Kp.set σ δ i (some y) d), .of ex st1, q1⟩
theorem qs0_cons {F1 F2 : Env → Post → Prop} (h1 : Q10 X st n F1) (h2 : QS X sts n' F2) : QS0 X (st :: sts) (n + n') (fun δ D => F1 δ { D with nx := fun δ' => F2 δ' D }) := fun E hE pins s σ H0 H δ m D I es ex pl hf => by
  refine wpAny_execs_cons (thn (h1 E hE pins s σ H0 H δ (n' + m) _ I es ex (pl.mono (by omega)) hf) fun f s1 q => ?_)
  obtain ⟨t1, q⟩ := q
  cases f with
  | next =>
    obtain ⟨σ1, H1, δ1, I1, es1, st1, q1⟩ := q
    exact thn (h2 E hE pins s1 σ1 H0 H1 δ1 m D t1 I1 es1 st1.ext (st1.pot _ (pl.mono (by omega))) q1) fun f s2 q2 => q2.le st1 (Nat.le_refl _)
  | cont => obtain ⟨σ', H', δ', h1, h2, h3, h4⟩ := q; exact ⟨t1, σ', H', δ', h1, h2, h3.mono (by omega), h4⟩
  | brk => obtain ⟨σ', H', δ', h1, h2, h3, h4⟩ := q; exact ⟨t1, σ', H', δ', h1, h2, h3.mono (by omega), h4⟩
  | ret u => obtain ⟨v, σ', H', d, δ', h1, h2, h3, h6, h4, h5⟩ := q; exact ⟨t1, v, σ', H', d, δ', h1, h2, h3, h6, h4.mono (by omega), h5⟩
end
section
variable {X : Cx} {k : Nat} {f : Addr} {fd : FuncData} {ps ks : List Str} {n n' n'' : Nat} {W : List Dat → (Dat → Prop) → Prop} {x : Str} {p pos : Pos} {e : Expr} {es : List Expr} {kws : List Keyword} {fs fk : Env → (List Dat → Prop) → Prop} {sh : List Src}
theorem q0_def1 (F : FnG X.prog X.w X.K X.mg X.base k f fd ps n W) (hr : RoomG k X.A) (hg : Gl X x) (hm : X.mg x = some (.ref f)) (hk : PySem.W.keepIn X.K (.ref f) = true) (hb : BindG X.K fd ps (e :: es).length [] sh) (hdb : (x == ("__debug__" : Str)) = false)
    (ha : QA0 X (e :: es) n' (RLv X.K) fs) (hle : ∀ δ Φ, fs δ Φ → fs δ fun ds => ds.length = (e :: es).length ∧ Φ ds) (he : starEach (e :: es) X.env = (false, eval e X.env) :: starEach es X.env) (hpl : (backTo pos (starEach es X.env)).any (·.1) = false) :
    QE0 X (.Call (.Name x p) (e :: es) [] pos) (n' + n) (RV X.K) (fun δ Q => fs δ fun ds => W (pickD sh ds []) Q) := fun E pins s σ H δ m Φ I er pl hf => by
  refine wpAny_Call_Name_kw (ld_glob I hg hm ?_ hdb)
  refine PySem.W.callWith_K (h₀ := X.base) I.ok.mod.kin hk (thn (ha pos E pins s σ H δ (n + m) _ I er (pl.mono (by omega)) (hle δ _ hf)) fun us s1 ⟨t1, vs, H1, ds, I1, r1, st1, b1, hl, q1⟩ => ⟨I1.kIn, ?_⟩) he hpl
  have hul : us.length = (e :: es).length := by rw [← r1.length, b1.length, hl]
  exact run_g (us := us) (ws := []) (zs := []) (es := []) (ks := []) (m := m) F hr (by rw [hul]; exact hb) rfl t1 I1 r1 .nil b1 (nilV H1) st1 (st1.pot _ (pl.mono (by omega))) q1
end
theorem fng0_of {P : Program} {w : World} {K : PySem.W.Frag} {mg : Str → Option Value} {base : Heap} {x qual : Str} {params : Arguments} {body : List Stmt} {scope : Scope} {dvs : List V} {kws : List (Str × V)} {f : Addr} {fd : FuncData} {N ps : List Str} {k n : Nat} {W : List Dat → (Dat → Prop) → Prop}
    (F : FunD K x qual params body scope dvs kws f fd) (S : FnScope N ps scope)
    (hbody : ∀ (cdv : Value) (A : Around) (outer : List PySem.Env) (s : Shared) (H : Hp), RoomG k (A.deeper (envOfC qual scope s.heap.objs.size f cdv)) →
      ∃ Fb, QS0 (cxOf CX0 P w K mg base N qual scope f cdv A outer s H fun _ _ _ => False) body n Fb ∧ ∀ ds Φ, W ds Φ → Fb (startD N.length ds) { nx := fun _ => Φ .non, rt := fun _ => Φ }) :
    FnG0 P w K mg base (k + 1) f fd ps n W := by
  refine ⟨fun A outer s H args us vs ds m Φ hr e0 hb r hl hrep pl hW => enter_fn F S hr e0 hb r hl fun cdv s1 hr1 _ I => ?_⟩
  obtain ⟨Fb, hQ, hFb⟩ := hbody cdv A outer s H hr1
  refine wpAny_mono (hQ _ PassesOwn.never [] s1 (L2.start N vs) H H _ m _ I (start_s hrep (fits S hl)) (Ext.refl H) pl (hFb ds Φ hW)) (fun fl s' hs => ?_) fun _ _ z => z
  exact ⟨_, rfl, (leave_fn hs).2⟩
end SF

/-! D6l: the law's own def by its form. -/
namespace SF
open PySem PySem.Spec PyProof.Rows L2
section
variable {X : Cx}
theorem QE0.cg {ex : Expr} {n n' : Nat} {R : Mod0} {f g : Env → (Dat → Prop) → Prop} (h : QE0 X ex n R f) (hn : n ≤ n') (e : ∀ δ Q, g δ Q → f δ Q) : QE0 X ex n' R g := fun E pins s σ H δ m Φ I er pl hf =>
  thn (h E pins s σ H δ m Φ I er (pl.mono (by omega)) (e _ _ hf)) fun u s' q => q.step (Step.refl H) (by omega) fun _ _ _ z => z
theorem QI0.cg {tg ex : Expr} {n n' : Nat} {b z : Bool} {f g : Env → (Dat → Prop) → Prop} (h : QI0 X tg ex n b z f) (hn : n ≤ n') (e : ∀ δ Q, g δ Q → f δ Q) : QI0 X tg ex n' b z g := fun E pins s σ H δ m Φ I er pl hf =>
  thn (h E pins s σ H δ m Φ I er (pl.mono (by omega)) (e _ _ hf)) fun v s1 q => thn q fun w s2 ⟨t, it, fp, tn, J, H', d, ds, h1, h2, h3, h4, h5, h6, h7⟩ => ⟨t, it, fp, tn, J, H', d, ds, h1, h2, h3, h4, h5, h6.mono hn, h7⟩
theorem Q10.cg {st : Stmt} {n n' : Nat} {F F' : Env → Post → Prop} (h : Q10 X st n F) (hn : n ≤ n') (e : ∀ δ D, F' δ D → F δ D) : Q10 X st n' F' := fun E hE pins s σ H0 H δ m D I es ex pl hf =>
  thn (h E hE pins s σ H0 H δ m D I es ex (pl.mono (by omega)) (e _ _ hf)) fun f s1 q => q.le (StepS.refl ex) (by omega)
end
section
variable {tb : Tb} {C : Nat → List Dat → (Dat → Prop) → Prop} {G : Nat → Option Dat} {cc k : Nat}
/-- max(i, m) first of all -/
theorem s0_max {i : Int} {m : E} (hC : ∀ f ds, Mono (C f ds)) {X : Cx} {ex : Expr} (g : Gd tb C G cc k X) (h : chkE tb (.bi .max [.int i, m]) none (ctx X) ex = true) : QE0 X ex (cc * wE (.bi .max [.int i, m])) (RV X.K) (ev C G (.bi .max [.int i, m]) .v) := by
  rw [chkE.eq_def] at h; dsimp only at h
  split at h
  · rename_i x p e es pos
    simp only [Bool.and_eq_true] at h
    obtain ⟨⟨h1, _⟩, h3⟩ := h
    obtain ⟨e1, hg, hm⟩ := blt_of g h1
    have hst := head_star h3 X.env
    have hpl := tail_plain h3 pos X.env
    simp only [chkL, Bool.and_eq_true] at h3
    obtain ⟨ha, hb⟩ := h3
    have hI : QE0 X e 0 (RB X.K) (fun _ Q => Q (.int i)) := by
      rw [chkE.eq_def] at ha; dsimp only at ha
      split at ha
      · have e := eq_of_beq ha
        subst e
        exact fun E pins s σ H δ m Φ I er pl hf => thn (q0_int E pins s σ H δ m Φ I er pl hf) fun u s' ⟨h0, v, H', d, h1, h2, h3, h4, h5⟩ => ⟨h0, v, H', d, h1, h2, h3, .inl h4, h5⟩
      · cases ha
    have hR := qa_b (l := [m]) (fun e he => sndAll hC [m] e he) X es g (by simp only [chkL]; exact hb)
    exact ((q0_bi g.rm.hu g.rm.gu g.calm .max _ rfl e1 hg hm (by rw [e1]; exact b1_boot rfl) (qa0_cons consB hI hR hst) hst hpl).frz).cg (by simp only [wE, wL, Nat.zero_add, Nat.add_zero]; exact Nat.le_refl _) fun δ Q q => by simp only [ev, evs] at q ⊢; exact q
  · cases h
theorem s0_range {i : Int} {m : E} (hC : ∀ f ds, Mono (C f ds)) {X : Cx} {tg ex : Expr} (bb : Bool) (g : Gd tb C G cc k X) (h : chkE tb (.range (.bi .max [.int i, m])) (some tg) (ctx X) ex = true) : QI0 X tg ex (cc * wE (.range (.bi .max [.int i, m]))) bb false (ev C G (.range (.bi .max [.int i, m])) .i) := by
  rw [chkE.eq_def] at h; dsimp only at h
  split at h
  · simp only [Bool.and_eq_true] at h
    obtain ⟨h1, h2⟩ := h
    obtain ⟨e1, hg, hm⟩ := blt_of g h1
    subst e1
    exact (qi0_range hg hm (s0_max hC g h2) (star_ok h2 [] X.env)).cg (by rw [wE.eq_def (.range _)]; exact Nat.le_refl _) fun δ Q q => by rw [ev] at q; exact q
  · cases h
/-- form B: for k in range(max(i, m)): .. -/
theorem s0_for {i : Int} {m : E} {p : P} {b : List S} (hC : ∀ f ds, Mono (C f ds)) {X : Cx} {st : Stmt} (g : Gd tb C G cc k X) (h : chkS tb (.for p (.range (.bi .max [.int i, m])) b) (ctx X) st = true) : Q10 X st (cc * wS (.for p (.range (.bi .max [.int i, m])) b)) (exec C G (.for p (.range (.bi .max [.int i, m])) b)) := by
  rw [chkS.eq_def] at h; dsimp only at h
  split at h
  · rename_i tg iter body pos
    simp only [Bool.and_eq_true] at h
    obtain ⟨⟨⟨⟨h1, h2⟩, h3⟩, h4⟩, h5⟩ := h
    exact (q10_for g.calm (s0_range hC false g h4) (fun z => nomatch z) (tgOk_of g h3) (ss_all hC g b _ h5) (folded_ok h1 X.env) fun δ => ev_mono hC _ .i δ).cg (by rw [wS, ← mul2]; exact Nat.le_refl _) fun δ D q => by rw [exec] at q; exact q
  · cases h
/-- form C: name = f(name, constant) -/
theorem s0_set {i f j : Nat} {z : Int} {sh : List Src} (hC : ∀ f ds, Mono (C f ds)) {X : Cx} {st : Stmt} (g : Gd tb C G cc k X) (h : chkS tb (.set i (.call f [.var j, .int z] [] sh)) (ctx X) st = true) : Q10 X st (cc * wS (.set i (.call f [.var j, .int z] [] sh))) (exec C G (.set i (.call f [.var j, .int z] [] sh))) := by
  rw [chkS.eq_def] at h; dsimp only at h
  split at h
  · rename_i x px v pos
    simp only [Bool.and_eq_true] at h
    obtain ⟨⟨h1, h2⟩, h3⟩ := h
    obtain ⟨e1, e2, e3⟩ := set_of h1
    rw [chkE.eq_def] at h3; dsimp only at h3
    split at h3
    · rename_i y py es kws cpos
      simp only [Bool.and_eq_true, beq_iff_eq] at h3
      obtain ⟨⟨⟨⟨⟨c1, c2⟩, c3⟩, c4⟩, c5⟩, c6⟩ := h3
      obtain ⟨a, fd, ps, hm, hkeep, F, hbs⟩ := g.fns f y c1
      have ek : kws = [] := by cases kws with | nil => rfl | cons _ _ => simp [chkK] at c5
      subst ek
      have ee : ∃ u w, es = [u, w] ∧ chkE tb (.var j) none (ctx X) u = true ∧ chkE tb (.int z) none (ctx X) w = true := by
        match es, c4 with
        | [u, w], c4 => simp only [chkL, Bool.and_eq_true] at c4; exact ⟨u, w, rfl, c4.1, c4.2.1⟩
        | [], c4 => simp [chkL] at c4
        | [_], c4 => simp [chkL] at c4
        | _ :: _ :: _ :: _, c4 => simp [chkL] at c4
      obtain ⟨u, w, rfl, cu, cw⟩ := ee
      split at c6
      · rename_i ss hss
        simp only [List.any_eq_true, Bool.and_eq_true, beq_iff_eq] at c6
        obtain ⟨q, hq, ⟨q1, q2⟩, q3⟩ := c6
        have hb := hbs ss hss q hq
        rw [q1, q3] at hb
        have eq2 : q.2.1 = [] := by cases zz : q.2.1 with | nil => rfl | cons _ _ => rw [zz] at q2; simp [kwN] at q2
        rw [eq2] at hb
        have hst := star_ok cu [w] X.env
        have hst2 := star_ok cw [] X.env
        have hpl : (backTo cpos (starEach [w] X.env)).any (·.1) = false := by rw [hst2]; rfl
        have hA : QA0 X [u, w] 0 (RLv X.K) (evs C G [.var j, .int z] .v) := by
          cases u with
          | Name xx pp =>
            rw [chkE.eq_def] at cu; dsimp only at cu
            obtain ⟨n1, n2, n3, n4⟩ := var_of cu
            rw [chkE.eq_def] at cw; dsimp only at cw
            split at cw
            · have e := eq_of_beq cw
              subst e
              have hw := qa0_one (RL := RLv X.K) (fun H H' v d h => by show Reps _ _ _ _; rw [Reps, Reps]; exact ⟨h, trivial⟩) (q0_int (X := X)) hst2
              exact fun pos E pins s σ H δ m Φ I er pl hf => qa0_name n1 n2 n3 n4 hw pos E pins s σ H δ m Φ I er pl (by simp only [evs, ev] at hf; exact hf)
            · cases cw
          | _ => rw [chkE.eq_def] at cu; simp at cu
        have hd := q0_def1 (p := py) F g.rm (gl_of c2) hm hkeep hb (name_of c3).1 hA (fun δ Φ zz => by have := evs_len (C := C) (G := G) [.var j, .int z] .v δ Φ hC zz; exact this) hst hpl
        exact (q10_set (px := px) (pos := pos) g.nd e1 e2 e3 hd rfl).cg (by simp only [wS, wE, wL, Nat.zero_add, Nat.mul_one]; exact Nat.le_refl _) fun δ D zz => by
          rw [exec, ev] at zz
          exact evs_mono hC _ .v δ _ _ (fun ds y => by rw [evs] at y; exact y) zz
      · cases c6
    · cases h3
  · cases h
/-- form A: return all([.. for k in range(max(i, m))]) -/
theorem s0_ret {i : Int} {m t e : E} {own : List Nat} {p : P} (hC : ∀ f ds, Mono (C f ds)) {X : Cx} {st : Stmt} (g : Gd tb C G cc k X) (h : chkS tb (.ret (.bi .all [.comp own p (.range (.bi .max [.int i, m])) t e])) (ctx X) st = true) :
    Q10 X st (cc * wS (.ret (.bi .all [.comp own p (.range (.bi .max [.int i, m])) t e]))) (exec C G (.ret (.bi .all [.comp own p (.range (.bi .max [.int i, m])) t e]))) := by
  rw [chkS.eq_def] at h; dsimp only at h
  split at h
  · rename_i v pos
    rw [chkE.eq_def] at h; dsimp only at h
    split at h
    · rename_i x pp ex es cpos
      simp only [Bool.and_eq_true] at h
      obtain ⟨⟨h1, _⟩, h3⟩ := h
      obtain ⟨e1, hg, hm⟩ := blt_of g h1
      have hst := head_star h3 X.env
      have hpl := tail_plain h3 cpos X.env
      have hes : es = [] := by cases es with | nil => rfl | cons _ _ => simp [chkL] at h3
      subst hes
      simp only [chkL, Bool.and_eq_true] at h3
      have hcx : ∃ elt gs scope vp, ex = .ListComp elt gs scope vp := by
        have h4 := h3.1
        rw [chkE.eq_def] at h4; dsimp only at h4
        split at h4
        · exact ⟨_, _, _, _, rfl⟩
        · cases h4
      obtain ⟨elt, gs, scope, vp, rfl⟩ := hcx
      obtain ⟨own', p', it', t', e', tg, iter, ifs, ee, rfl, hh⟩ : ∃ own p' it t e' tg iter ifs, _ := (comp_inv h3.1).resolve_right (fun ⟨_, _, _, _, _, _, _, _, _, _, _, _, _, _, ee, _⟩ => nomatch ee)
      cases ee
      obtain ⟨q1, _, q3, _, q5, q6, q7, q8⟩ := comp_parts hh hC (sndE hC _) (sndE hC t) (sndE hC e) g
      have hi : chkE tb (.range (.bi .max [.int i, m])) (some tg) (ctx X) iter = true := by
        simp only [Bool.and_eq_true] at hh
        exact hh.1.1.1.1.1.2
      have hcomp := q0_comp (pos := vp) (z := false) g.calm g.nd (s0_range hC true g hi) q3 (fun z => nomatch z) q5 q6 q7 q8 q1 fun δ => ev_mono hC _ .i δ
      have hA := qa0_one (RL := RLb X.K) (fun H H' v d hr => ⟨.inl hr, trivial⟩) hcomp.frz hst
      refine (q10_ret ((q0_bi g.rm.hu g.rm.gu g.calm .all _ rfl e1 hg hm (by rw [e1]; exact b1_boot rfl) hA hst hpl).frz)).cg (by rw [wS]; simp only [wE, wL, Nat.add_zero]; rw [← mul3]; exact Nat.le_refl _) fun δ D q => ?_
      rw [exec] at q
      rw [map_snd]
      simp only [ev, evs] at q ⊢
      exact q
    · cases h
  · cases h
end
end SF

/-! D6n: the law's own def keeps its promise. -/
namespace SF
open PySem PySem.Spec PyProof.Rows L2
def firstB : List S → Bool
  | .ret (.bi .all [.comp _ _ (.range (.bi .max [.int _, _])) _ _]) :: _ => true
  | .for _ (.range (.bi .max [.int _, _])) _ :: _ => true
  | .set _ (.call _ [.var _, .int _] [] _) :: _ => true
  | _ => false
section
variable {tb : Tb} {C : Nat → List Dat → (Dat → Prop) → Prop} {G : Nat → Option Dat} {cc k : Nat}
theorem ss_first (hC : ∀ f ds, Mono (C f ds)) {X : Cx} (g : Gd tb C G cc k X) {l : List S} {sts : List Stmt} (hf : firstB l = true) (h : chkSs tb l (ctx X) sts = true) : QS0 X sts (cc * wSs l) (execs C G l) := by
  cases l with
  | nil => simp [firstB] at hf
  | cons s r =>
    have nf : ∀ i, s ≠ .frz i := fun i e => by subst e; simp [firstB] at hf
    have h' : ∃ st sts', sts = st :: sts' ∧ chkS tb s (ctx X) st = true ∧ chkSs tb r (ctx X) sts' = true := by
      rw [chkSs.eq_def] at h
      cases sts with
      | nil => cases s <;> first | (simp at h; done) | exact absurd rfl (nf _)
      | cons st sts' => cases s <;> first | (exact absurd rfl (nf _)) | (simp only [Bool.and_eq_true] at h; exact ⟨_, _, rfl, h.1, h.2⟩)
    obtain ⟨st, sts', rfl, h1, h2⟩ := h'
    have q : Q10 X st (cc * wS s) (exec C G s) := by
      unfold firstB at hf
      split at hf
      · rename_i heq; cases heq; exact s0_ret hC g h1
      · rename_i heq; cases heq; exact s0_for hC g h1
      · rename_i heq; cases heq; exact s0_set hC g h1
      · cases hf
    have c := qs0_cons q (ss_all hC g r sts' h2)
    intro E hE pins s' σ H0 H δ m D I es ex pl hfx
    have hw : cc * wSs (s :: r) = cc * wS s + cc * wSs r := by rw [wSs, Nat.mul_add]
    rw [hw] at pl ⊢
    exact c E hE pins s' σ H0 H δ m D I es ex pl (by rw [execs] at hfx; exact hfx)
end
section
variable {P : Program} {w : World} {K : PySem.W.Frag} {mg : Str → Option Value} {base : Heap} {tb : Tb} {T : List FDef} {G : Nat → Option Dat} {prim : Nat → Option (List Dat → (Dat → Prop) → Prop)}
theorem law_fn (hp : ∀ f p, prim f = some p → ∀ ds, Mono (p ds)) (told : ∀ (f : Nat) (x : Str), tb.fns[f]? = some x → Told P w K mg base tb T prim f x) (fre : ∀ x ∈ tb.fre, mg x = none)
    (glo : ∀ (i : Nat) (x : Str) (d : Dat), tb.gl[i]? = some x → G i = some d → ∃ u v, mg x = some u ∧ L2.RelV v u ∧ ∀ H, Rep K H v d)
    {a : Addr} {fd : FuncData} {i : DI} {params : Arguments} {qual : Str} {dvs : List V} {kws : List (Str × V)} (F : FunD K i.name qual params i.body i.scope dvs kws a fd) (ok : i.ok tb = true) (hf : firstB i.d.body = true) (k : Nat) :
    FnG0 P w K mg base (k + 1) a fd i.ps (bigB ^ (k + 1)) (fun ds Q => execs (callW T G prim k) G i.d.body (startD i.d.nn ds) { nx := fun _ => Q .non, rt := fun _ => Q }) := by
  unfold DI.ok at ok
  simp only [Bool.and_eq_true, beq_iff_eq] at ok
  obtain ⟨⟨⟨⟨o1, o2⟩, o3⟩, o4⟩, o5⟩ := ok
  have S := scopeB_ok o1
  have hw : wSs i.d.body ≤ bigB := Nat.le_of_ble_eq_true o5
  have hC : ∀ f ds, Mono (callW T G prim k f ds) := fun f ds => callW_mono hp k f ds
  refine fng0_of F S fun cdv A outer s H hr => ⟨execs (callW T G prim k) G i.d.body, ?_, fun ds Φ hW => by rw [← o4]; exact hW⟩
  have g : Gd tb (callW T G prim k) G (bigB ^ k) k (cxOf CX0 P w K mg base i.N qual i.scope a cdv A outer s H fun _ _ _ => False) :=
    ⟨rfl, S.nd, hr, S.kind, fre, glo, all_fns hp told fre glo k⟩
  have q := ss_first hC g hf o2
  intro E hE pins s' σ H0 H' δ m D I es ex pl hfx
  refine thn (q E hE pins s' σ H0 H' δ m D I es ex (pl.mono (by have := Nat.mul_le_mul_left (bigB ^ k) hw; rw [Nat.pow_succ]; omega)) hfx) fun f s1 z => z.le (StepS.refl ex) (by have := Nat.mul_le_mul_left (bigB ^ k) hw; rw [Nat.pow_succ]; omega)
end
end SF

/-! D7: the pot: what a law draws from. -/
namespace SF
open PySem PySem.Spec PyProof.Rows L2

/-- a def whose body is walked by hand -/
theorem fng_raw {P : Program} {w : World} {K : PySem.W.Frag} {mg : Str → Option Value} {base : Heap} {x qual : Str} {params : Arguments} {body : List Stmt} {scope : Scope} {dvs : List V} {kws : List (Str × V)} {f : Addr} {fd : FuncData} {N ps : List Str} {k n : Nat} {W : List Dat → (Dat → Prop) → Prop}
    (F : FunD K x qual params body scope dvs kws f fd) (S : FnScope N ps scope)
    (hbody : ∀ (cdv : Value) (A : Around) (outer : List PySem.Env) (s : Shared) (H : Hp) (s1 : Shared) (vs : List V) (ds : List Dat) (m : Nat) (Φ : Dat → Prop), RoomG k (A.deeper (envOfC qual scope s.heap.objs.size f cdv)) → 0 < s1.toks →
      L2.Inv (cxOf CX0 P w K mg base N qual scope f cdv A outer s H fun _ _ _ => False) [] (L2.start N vs) H s1 → vs.length = ps.length → vs.length ≤ N.length → Reps K H vs ds → PotLe (n + m) H → W ds Φ →
      wpAny (model P w) (cxOf CX0 P w K mg base N qual scope f cdv A outer s H fun _ _ _ => False).A (PySem.execs body (cxOf CX0 P w K mg base N qual scope f cdv A outer s H fun _ _ _ => False).env)
        (fun fl s' => 0 < s'.toks ∧ ∃ u, fl = .ret u ∧ ∃ v σ' H' d, L2.Inv (cxOf CX0 P w K mg base N qual scope f cdv A outer s H fun _ _ _ => False) [] σ' H' s' ∧ L2.RelV v u ∧ Rep K H' v d ∧ Step n H H' ∧ Φ d) (fun _ _ => False) s1) :
    FnG P w K mg base (k + 1) f fd ps n W := by
  refine ⟨fun A outer s H args us vs ds m Φ hr t0 e0 hb r hl hrep pl hW => enter_fn F S hr e0 hb r hl fun cdv s1 hr1 tk I => ?_⟩
  refine wpAny_mono (hbody cdv A outer s H s1 vs ds m Φ hr1 (Nat.lt_of_lt_of_le t0 tk) I hl (fits S hl) hrep pl hW) ?_ fun _ _ z => z
  rintro fl s' ⟨t', u, rfl, v, σ', H', d, J, rv, rd, st, q⟩
  exact ⟨u, rfl, t', v, H', J.os, J.bare, J.base, J.hok, rv, d, st, rd, q⟩

/-! ### another view of a tracked object -/
theorem Inv_swap {X : Cx} {pins : List (Addr × Obj)} {σ : L2.St} {H : Hp} {s : Shared} {a : Addr} {o0 o1 : HO} (I : Inv X pins σ H s) (h : H a = some o0) (nt : ∀ xs, o0 ≠ .tup xs) (nf : ∀ o u, o0 ≠ .frz o u) (nb : ∀ ps, o0 ≠ .tbl ps) (no : ∀ x, o0 ≠ .own x)
    (ok : ObjOk X.prog X.w (L2.upd H a o1) s.heap a o1) : Inv X pins σ (L2.upd H a o1) s := by
  have ne : ∀ {b : Addr} {u : HO}, H b = some u → (o0 ≠ u) → b ≠ a := fun {b u} q n z => by subst z; rw [h] at q; exact n (Option.some.inj q)
  have un : Un X.fs [] H (L2.upd H a o1) s.heap s.heap := by
    refine ⟨fun b o q _ _ _ => q, fun b o q _ _ _ => ⟨o.slots, q⟩, fun b o q nn _ => ?_, fun b o q _ => ⟨o, q⟩, fun b ys q => ?_, fun b o u q => ?_, fun b ps q => ⟨#[], ?_⟩⟩
    · rw [upd_ne (fun z => by subst z; rw [h] at nn; cases nn)]; exact nn
    · rw [upd_ne (ne q (nt _))]; exact q
    · rw [upd_ne (ne q (nf _ _))]; exact q
    · rw [upd_ne (ne q (nb _)), q]; simp
  refine I.un (h' := s.heap) (t' := s.toks) un fun b u q => ?_
  by_cases hb : b = a
  · subst hb
    rw [upd_same] at q; cases q
    exact ok
  · rw [upd_ne hb] at q
    exact (I.hok b u q).stay (fun c v _ w => w) (fun c w => by rw [upd_ne (ne w (no _))]; exact w) fun c ys w => by rw [upd_ne (ne w (nt _))]; exact w
/-- the pot as a list of its three cells -/
theorem Inv_thaw {X : Cx} {pins : List (Addr × Obj)} {σ : L2.St} {H : Hp} {s : Shared} {a : Addr} {z : Nat} (I : Inv X pins σ H s) (h : H a = some (potO a z)) :
    ∃ x y c : Int, (0 ≤ x ∧ x < 10 ^ 301 ∧ 0 ≤ y ∧ y < 2305843009213693951 ∧ 0 ≤ c ∧ c ≤ (z : Int)) ∧ Inv X pins σ (L2.upd H a (.lst [.int x, .int y, .int c])) s := by
  obtain ⟨⟨x, y, c, t1, t2, t3, n, e, hb⟩, _, _⟩ := I.hok a _ h
  refine ⟨x, y, c, hb, Inv_swap I h (fun _ q => nomatch q) (fun _ _ q => nomatch q) (fun _ q => nomatch q) (fun _ q => nomatch q) ⟨show 3 ≤ sizeLine by decide, [.int x t1, .int y t2, .int c t3], n, .cons ⟨_, rfl⟩ (.cons ⟨_, rfl⟩ (.cons ⟨_, rfl⟩ .nil)), e⟩⟩
theorem potO_ok {P : Program} {w : World} {H : Hp} {h : Heap} {a : Addr} {x y c : Int} {z : Nat} (hok : ObjOk P w H h a (.lst [.int x, .int y, .int c])) (hb : 0 ≤ x ∧ x < 10 ^ 301 ∧ 0 ≤ y ∧ y < 2305843009213693951 ∧ 0 ≤ c ∧ c ≤ (z : Int)) (H' : Hp) : ObjOk P w H' h a (potO a z) := by
  obtain ⟨_, its, n, r, e⟩ := hok
  cases r with
  | cons r1 r => cases r with
    | cons r2 r => cases r with
      | cons r3 r =>
        cases r
        obtain ⟨t1, rfl⟩ := r1
        obtain ⟨t2, rfl⟩ := r2
        obtain ⟨t3, rfl⟩ := r3
        exact ⟨⟨x, y, c, t1, t2, t3, n, e, hb⟩, ⟨_, e⟩, fun h1 h2 ⟨x, y, c, t1, t2, t3, n, e, hb⟩ k => ⟨x, y, c, t1, t2, t3, n, k _ e, hb⟩⟩
theorem Inv_pot {X : Cx} {pins : List (Addr × Obj)} {σ : L2.St} {H : Hp} {s : Shared} {a : Addr} {x y c : Int} {z : Nat} (I : Inv X pins σ H s) (h : H a = some (.lst [.int x, .int y, .int c])) (hb : 0 ≤ x ∧ x < 10 ^ 301 ∧ 0 ≤ y ∧ y < 2305843009213693951 ∧ 0 ≤ c ∧ c ≤ (z : Int)) :
    Inv X pins σ (L2.upd H a (potO a z)) s :=
  Inv_swap I h (fun _ q => nomatch q) (fun _ _ q => nomatch q) (fun _ q => nomatch q) (fun _ q => nomatch q) (potO_ok (I.hok a _ h) hb _)
theorem potO_le {a : Addr} {z z' : Nat} (h : potO a z = potO a z') : z ≤ z' := by
  unfold potO at h
  have e := HO.ext.inj h
  have key : ∃ hp : Heap, hp.get? a = some { cls := .type "list", data := .seq #[.int 0 0, .int 0 0, .int z 0] 0 } := by
    refine ⟨{ objs := (List.replicate (a + 1) ({ cls := .type "list", data := .seq #[.int 0 0, .int 0 0, .int z 0] 0 } : Obj)).toArray }, ?_⟩
    unfold Heap.get?
    simp
  obtain ⟨hp, e1⟩ := key
  have q := congrFun e hp
  have q2 : ∃ (x y c : Int) (t1 t2 t3 : Tok) (n : Nat), hp.get? a = some { cls := .type "list", data := .seq #[.int x t1, .int y t2, .int c t3] n } ∧ 0 ≤ x ∧ x < 10 ^ 301 ∧ 0 ≤ y ∧ y < 2305843009213693951 ∧ 0 ≤ c ∧ c ≤ (z' : Int) := by
    rw [← q]
    exact ⟨0, 0, z, 0, 0, 0, 0, e1, by decide, by decide, by decide, by decide, by omega, by omega⟩
  obtain ⟨x, y, c, t1, t2, t3, n, e2, _, _, _, _, _, h6⟩ := q2
  rw [e1] at e2
  simp at e2
  omega
end SF

/-! D7b: blocks that never give slot 0 another value. -/
namespace SF
open PySem PySem.Spec PyProof.Rows L2
def SOF (X : Cx) (pins : List (Addr × Obj)) (a : Addr) (n : Nat) (H0 H : Hp) (D : Post) (fl : Flow) (s' : Shared) : Prop :=
  0 < s'.toks ∧ match fl with
  | .next => ∃ σ' H' δ', σ'[0]? = some (some (.ref a)) ∧ L2.Inv X pins σ' H' s' ∧ EnvS X.K σ' H0 H' δ' ∧ StepS n H0 H H' ∧ D.nx δ'
  | .ret u => ∃ v σ' H' d δ', σ'[0]? = some (some (.ref a)) ∧ L2.Inv X pins σ' H' s' ∧ L2.RelV v u ∧ Rep X.K H' v d ∧ EnvS X.K σ' H0 H' δ' ∧ StepS n H0 H H' ∧ D.rt δ' d
  | _ => False
def Q1F (X : Cx) (st : Stmt) (n : Nat) (F : Env → Post → Prop) : Prop :=
  ∀ (E : Value → Shared → Prop), PassesOwn (model X.prog X.w) X.A X.env E → ∀ (pins : List (Addr × Obj)) (s : Shared) (σ : L2.St) (H0 H : Hp) (δ : Env) (m : Nat) (D : Post) (a : Addr), 0 < s.toks → L2.Inv X pins σ H s → EnvS X.K σ H0 H δ → Ext H0 H → PotLe (n + m) H → σ[0]? = some (some (.ref a)) → F δ D →
    wpAny (model X.prog X.w) X.A (PySem.exec st X.env) (SOF X pins a n H0 H D) E s
def QSF (X : Cx) (sts : List Stmt) (n : Nat) (F : Env → Post → Prop) : Prop :=
  ∀ (E : Value → Shared → Prop), PassesOwn (model X.prog X.w) X.A X.env E → ∀ (pins : List (Addr × Obj)) (s : Shared) (σ : L2.St) (H0 H : Hp) (δ : Env) (m : Nat) (D : Post) (a : Addr), 0 < s.toks → L2.Inv X pins σ H s → EnvS X.K σ H0 H δ → Ext H0 H → PotLe (n + m) H → σ[0]? = some (some (.ref a)) → F δ D →
    wpAny (model X.prog X.w) X.A (PySem.execs sts X.env) (SOF X pins a n H0 H D) E s
section
variable {X : Cx} {st : Stmt} {sts : List Stmt} {n n' n'' : Nat} {e : Expr} {pos : Pos} {fe : Env → (Dat → Prop) → Prop} {gc : Env → (Bool → Prop) → Prop}
theorem SOF.le {pins : List (Addr × Obj)} {a : Addr} {H0 H H1 : Hp} {D : Post} {fl : Flow} {s' : Shared} {k : Nat} (b : StepS n' H0 H H1) (hk : n' + n ≤ k) (h : SOF X pins a n H0 H1 D fl s') : SOF X pins a k H0 H D fl s' := by
  obtain ⟨t, h⟩ := h
  refine ⟨t, ?_⟩
  cases fl with
  | next => obtain ⟨σ', H', δ', h0, h1, h2, h3, h4⟩ := h; exact ⟨σ', H', δ', h0, h1, h2, (b.trans h3).mono hk, h4⟩
  | ret u => obtain ⟨v, σ', H', d, δ', h0, h1, h2, h3, h6, h4, h5⟩ := h; exact ⟨v, σ', H', d, δ', h0, h1, h2, h3, h6, (b.trans h4).mono hk, h5⟩
  | brk => exact h.elim
  | cont => exact h.elim
theorem QSF.cg {F F' : Env → Post → Prop} (h : QSF X sts n F) (hn : n ≤ n') (e : ∀ δ D, F' δ D → F δ D) : QSF X sts n' F' := fun E hE pins s σ H0 H δ m D a t I es ex pl h0 hf =>
  thn (h E hE pins s σ H0 H δ m D a t I es ex (pl.mono (by omega)) h0 (e _ _ hf)) fun f s1 q => q.le (StepS.refl ex) (by omega)
theorem Q1F.cg {F F' : Env → Post → Prop} (h : Q1F X st n F) (hn : n ≤ n') (e : ∀ δ D, F' δ D → F δ D) : Q1F X st n' F' := fun E hE pins s σ H0 H δ m D a t I es ex pl h0 hf =>
  thn (h E hE pins s σ H0 H δ m D a t I es ex (pl.mono (by omega)) h0 (e _ _ hf)) fun f s1 q => q.le (StepS.refl ex) (by omega)
theorem qsf_nil : QSF X [] 0 (fun δ D => D.nx δ) := fun E hE pins s σ H0 H δ m D a t I es ex pl h0 hf => wpAny_execs_nil ⟨t, σ, H, δ, h0, I, es, StepS.refl ex, hf⟩
theorem qsf_cons {F1 F2 : Env → Post → Prop} (h1 : Q1F X st n F1) (h2 : QSF X sts n' F2) : QSF X (st :: sts) (n + n') (fun δ D => F1 δ { D with nx := fun δ' => F2 δ' D }) := fun E hE pins s σ H0 H δ m D a t I es ex pl h0 hf => by
  refine wpAny_execs_cons (thn (h1 E hE pins s σ H0 H δ (n' + m) _ a t I es ex (pl.mono (by omega)) h0 hf) fun f s1 q => ?_)
  obtain ⟨t1, q⟩ := q
  cases f with
  | next =>
    obtain ⟨σ1, H1, δ1, e1, I1, es1, st1, q1⟩ := q
    exact thn (h2 E hE pins s1 σ1 H0 H1 δ1 m D a t1 I1 es1 st1.ext (st1.pot _ (pl.mono (by omega))) e1 q1) fun f s2 q2 => q2.le st1 (Nat.le_refl _)
  | ret u => obtain ⟨v, σ', H', d, δ', h0, h1, h2, h3, h6, h4, h5⟩ := q; exact ⟨t1, v, σ', H', d, δ', h0, h1, h2, h3, h6, h4.mono (by omega), h5⟩
  | brk => exact q.elim
  | cont => exact q.elim
theorem q1f_ret (he : QE X e n (RV X.K) fe) : Q1F X (.Return (some e) pos) n (fun δ D => fe δ (D.rt δ)) := fun E hE pins s σ H0 H δ m D a t I es ex pl h0 hf =>
  wpAny_Return_some (thn (he E pins s σ H δ m _ t I es.rep pl hf) fun v s1 ⟨t1, x, H1, d, I1, r1, st1, b1, q1⟩ => ⟨t1, x, σ, H1, d, δ, h0, I1, r1, b1, es.ext st1.ext, .of ex st1, q1⟩)
theorem q1f_ite {x y : List Stmt} {Fa Fb : Env → Post → Prop} (hc : QT X e n gc) (ha : QSF X x n' Fa) (hb : QSF X y n'' Fb) : Q1F X (.If e x y pos) (n + (n' + n'')) (fun δ D => gc δ fun k => if k = true then Fa δ D else Fb δ D) := fun E hE pins s σ H0 H δ m D a t I es ex pl h0 hf => by
  refine wpAny_If (thn (hc E pins s σ H δ (n' + n'' + m) _ t I es.rep (pl.mono (by omega)) hf) fun k s1 ⟨t1, H1, I1, st1, q1⟩ => ?_)
  have ss := StepS.of ex st1
  cases k with
  | true =>
    rw [if_pos rfl] at q1
    exact thn (ha E hE pins s1 σ H0 H1 δ m D a t1 I1 (es.ext st1.ext) ss.ext (st1.pot _ (pl.mono (by omega))) h0 q1) fun f s2 q2 => q2.le ss (by omega)
  | false =>
    rw [if_neg Bool.false_ne_true] at q1
    exact thn (hb E hE pins s1 σ H0 H1 δ m D a t1 I1 (es.ext st1.ext) ss.ext (st1.pot _ (pl.mono (by omega))) h0 q1) fun f s2 q2 => q2.le ss (by omega)
variable {i : Nat} {x : Str} {px : Pos}
theorem q1f_set (hN : X.N.Nodup) (hi : X.N[i + 1]? = some x) (hx : Loc X.env.scope x) (hfn : X.fn x = true ∨ X.env.scope.names.lookup x = some .local) (he : QE X e n (RV X.K) fe) (hs : swapsWith e (some (.Name x px)) pos.line X.env = pure false) :
    Q1F X (.Assign [.Name x px] e pos) n (fun δ D => fe δ fun d => D.nx (δ.set (i + 1) (.val d))) := fun E hE pins s σ H0 H δ m D a t I es ex pl h0 hf => by
  refine wpAny_Assign_Name (thn (he E pins s σ H δ m _ t I es.rep pl hf) fun v s1 ⟨t1, y, H1, d, I1, r1, st1, b1, q1⟩ => ?_) hs
  refine px_of (X := X) t1 (store_ok (Q := fun _ s2 => L2.Inv X pins (σ.set (i + 1) (some y)) H1 s2) I1 hN hi hx r1 (fun s2 I2 => I2) hfn) fun _ s2 t2 I2 => ?_
  have b1 : Rep X.K H1 y d := b1
  exact ⟨t2, _, H1, _, by rw [List.getElem?_set_ne (by omega)]; exact h0, I2, (es.ext st1.ext).kp ((es.rep.ext st1.ext).set (i + 1) (s := .val d) b1) (Kp.set σ δ (i + 1) (some y) d), .of ex st1, q1⟩
variable {ix : Expr} {fx : Env → (Dat → Prop) → Prop} {spos : Pos}
theorem q1f_sto (hN : X.N[i]? = some x) (hv : Vis X.env.scope x) (hd : (x == ("__debug__" : Str)) = false) (hcd : (x == ("__classdict__" : Str)) = false) (he : QE X e n (RV X.K) fe) (hx : QE X ix n' (RV X.K) fx) (hsw : swapsWithSole [.Subscript (.Name x px) ix spos] e pos.line X.env = pure false) (hw : swappedStores [.Subscript (.Name x px) ix spos] e X.env = pure none)
    (h1 : (assignEach [.Subscript (.Name x px) ix spos] X.env).map (·.2) = [assign (.Subscript (.Name x px) ix spos) X.env])
    (ha : ∀ v, assign (.Subscript (.Name x px) ix spos) X.env v = (do
      let ov ← holding [v] (eval (.Name x px) X.env)
      let iv ← holding [v, ov] (eval ix X.env)
      standAt spos
      holding [v, ov, iv] (setItem ov iv v)
      release [v, ov, iv] [])) :
    Q1F X (.Assign [.Subscript (.Name x px) ix spos] e pos) (n + n') (fun δ D => fe δ fun d => getO δ i fun x => ∃ l, x = .lst l ∧ fx δ fun k => ∃ j r, k = .int j ∧ setAt l j d = some r ∧ D.nx (δ.set i (.own (.lst r)))) := fun E hp pins s σ H0 H δ m D a0 t I es ex pl hz0 hf => by
  refine wpAny_Assign_stores (thn (he E pins s σ H δ (n' + m) _ t I es.rep (pl.mono (by omega)) hf) fun v s1 ⟨t1, y, H1, d, I1, r1, st1, b1, q1⟩ => ?_) hsw hw
  rw [h1]
  show wpAny _ _ (assign (.Subscript (.Name x px) ix spos) X.env v) _ _ _
  have q1 : getO δ i _ := q1
  unfold getO at q1
  split at q1
  · rename_i dd hi
    obtain ⟨l, rfl, q1⟩ := q1
    have es1 := es.ext st1.ext
    obtain ⟨a, xs, hσ, hxs, hz, hr, h0⟩ := es1.ownAt hi
    rw [ha]
    refine wpAny_bind (wpAny_holding (name_ref hN hv hd hcd I1 hσ ?_))
    refine wpAny_bind (wpAny_holding (thn (hx E pins s1 σ H1 δ m _ t1 I1 es1.rep (st1.pot _ (pl.mono (by omega))) q1) fun iv s2 ⟨t2, y2, H2, d2, I2, r2, st2, b2, j, r, e2, hset, q2⟩ => ?_))
    subst e2
    have b2 : Rep X.K H2 y2 (.int j) := b2
    rw [Rep] at b2
    subst b2
    obtain ⟨k, hk, rfl⟩ := setAt_ix hset
    have hxs2 : H2 a = some (.lst xs) := st2.ext.keep hxs fun _ q => nomatch q
    have hr2 := Reps.ext st2.ext _ _ hr
    have b1' : Rep X.K H2 y d := Rep.ext st2.ext _ _ b1
    have ss := (StepS.of ex st1).trans (StepS.of (ex.trans st1.ext) st2)
    refine wpAny_bind (wpAny_standAt (wpAny_bind (wpAny_holding (px_of (X := X) t2 (set_list (X := X.wish E) pins s2 σ H2 (.ref a) (.int j) y (.ref a) iv v (fun H' => H' = upd H2 a (.lst (xs.set k y))) (I2.wish E) rfl r2 r1 ⟨a, xs, j, k, rfl, rfl, hxs2, by rw [hr2.length]; exact hk, rfl⟩) fun _ s3 t3 ⟨H3, I3, e3⟩ => ?_))))
    subst e3
    exact wpAny_release ⟨t3, σ, _, _, hz0, I3.unwish, (es1.ext st2.ext).wr hi hσ hxs2 (by rw [List.length_set]; exact hz) (hr2.set b1' k), (ss.trans (StepS.wr (o := .lst _) ss.ext hxs2 h0 fun _ q => nomatch q)).mono (by omega), q2⟩
  · exact q1.elim
end
mutual
def okF : S → Bool
  | .set (_ + 1) e => (match e with | .comp .. => false | .comp2 .. => false | _ => true)
  | .sto _ _ _ => true
  | .ite _ a b => okFs a && okFs b
  | .ret _ => true
  | _ => false
def okFs : List S → Bool
  | [] => true
  | s :: r => okF s && okFs r
end
section
variable {tb : Tb} {C : Nat → List Dat → (Dat → Prop) → Prop} {G : Nat → Option Dat} {cc k : Nat}
theorem sf_set {i : Nat} {e : E} (hC : ∀ f ds, Mono (C f ds)) {X : Cx} {st : Stmt} (g : Gd tb C G cc k X) (ho : okF (.set (i + 1) e) = true) (h : chkS tb (.set (i + 1) e) (ctx X) st = true) : Q1F X st (cc * wS (.set (i + 1) e)) (exec C G (.set (i + 1) e)) := by
  rw [chkS.eq_def] at h; dsimp only at h
  split at h
  · rename_i x px v pos
    simp only [Bool.and_eq_true] at h
    obtain ⟨⟨h1, h2⟩, h3⟩ := h
    obtain ⟨e1, e2, e3⟩ := set_of h1
    have hl : noLC v = true := by
      cases v with
      | ListComp elt gs scope vp =>
        rcases comp_inv h3 with ⟨own, p, it, t, e', tg, iter, ifs, rfl, rfl, hh⟩ | ⟨own, p, it, t, p1, it1, t1, e', tg, iter, ifs, tg1, iter1, ifs1, rfl, rfl, hh⟩
        · simp [okF] at ho
        · simp [okF] at ho
      | _ => rfl
    exact (q1f_set g.nd e1 e2 e3 ((sndE hC e).v X v g h3) (sw_none v h2 hl _ _ _)).cg (by rw [wS]; exact Nat.le_refl _) fun δ D q => by rw [exec] at q; exact q
  · cases h
theorem sf_ret {e : E} (hC : ∀ f ds, Mono (C f ds)) {X : Cx} {st : Stmt} (g : Gd tb C G cc k X) (h : chkS tb (.ret e) (ctx X) st = true) : Q1F X st (cc * wS (.ret e)) (exec C G (.ret e)) := by
  rw [chkS.eq_def] at h; dsimp only at h
  split at h
  · exact (q1f_ret ((sndE hC e).v X _ g h)).cg (by rw [wS]; exact Nat.le_refl _) fun δ D q => by rw [exec] at q; exact q
  · cases h
theorem sf_sto {i : Nat} {ix e : E} (hC : ∀ f ds, Mono (C f ds)) {X : Cx} {st : Stmt} (g : Gd tb C G cc k X) (h : chkS tb (.sto i ix e) (ctx X) st = true) : Q1F X st (cc * wS (.sto i ix e)) (exec C G (.sto i ix e)) := by
  rw [chkS.eq_def] at h; dsimp only at h
  split at h
  · rename_i x px kx sp v pos
    simp only [Bool.and_eq_true] at h
    obtain ⟨⟨⟨⟨h1, h2⟩, h3⟩, h4⟩, h5⟩ := h
    obtain ⟨e1, e2, e3, e4⟩ := var_of h1
    have ha : ∀ v, assign (.Subscript (.Name x px) kx sp) X.env v = (do
      let ov ← holding [v] (eval (.Name x px) X.env)
      let iv ← holding [v, ov] (eval kx X.env)
      standAt sp
      holding [v, ov, iv] (setItem ov iv v)
      release [v, ov, iv] []) := fun v => by
      cases kx <;> first | rfl | (rw [chk_slice] at h4; cases h4)
    exact (q1f_sto e1 e2 e3 e4 ((sndE hC e).v X _ g h5) ((sndE hC ix).v X _ g h4) (sw_sole _ v h2 h3 _ _) rfl rfl ha).cg (by rw [wS, Nat.mul_add]; exact Nat.le_refl _) fun δ D q => by rw [exec] at q; exact q
  · cases h
mutual
theorem sf_all (hC : ∀ f ds, Mono (C f ds)) {X : Cx} (g : Gd tb C G cc k X) : ∀ (s : S) (st : Stmt), okF s = true → chkS tb s (ctx X) st = true → Q1F X st (cc * wS s) (exec C G s)
  | .set (i + 1) e, st, ho, h => sf_set hC g ho h
  | .sto i ix e, st, _, h => sf_sto hC g h
  | .ret e, st, _, h => sf_ret hC g h
  | .ite c a b, st, ho, h => by
    rw [okF, Bool.and_eq_true] at ho
    rw [chkS.eq_def] at h; dsimp only at h
    split at h
    · simp only [Bool.and_eq_true] at h
      obtain ⟨⟨h1, h2⟩, h3⟩ := h
      exact (q1f_ite ((sndE hC c).t X _ g h1) (ssf_all hC g a _ ho.1 h2) (ssf_all hC g b _ ho.2 h3)).cg (by rw [wS, Nat.mul_add, Nat.mul_add]; exact Nat.le_refl _) fun δ D q => by
        rw [exec] at q
        exact ev_mono hC c .v δ _ _ (fun x => boolW_mono x _ _ fun kk hk => by
          split at hk
          · rename_i e; rw [if_pos e]; exact hk
          · rename_i e; rw [if_neg e]; exact hk) q
    · cases h
  | .set 0 e, st, ho, h => by simp [okF] at ho
  | .own i e, st, ho, h => by simp [okF] at ho
  | .unp p e, st, ho, h => by simp [okF] at ho
  | .par os is l, st, ho, h => by simp [okF] at ho
  | .parC os is l, st, ho, h => by simp [okF] at ho
  | .stp i j ix e, st, ho, h => by simp [okF] at ho
  | .stoD i ix e, st, ho, h => by simp [okF] at ho
  | .frz i, st, ho, h => by simp [okF] at ho
  | .app i e, st, ho, h => by simp [okF] at ho
  | .ext i e, st, ho, h => by simp [okF] at ho
  | .ins i ix e, st, ho, h => by simp [okF] at ho
  | .pop i e, st, ho, h => by simp [okF] at ho
  | .unpL ps e, st, ho, h => by simp [okF] at ho
  | .exp e, st, ho, h => by simp [okF] at ho
  | .retN, st, ho, h => by simp [okF] at ho
  | .pass, st, ho, h => by simp [okF] at ho
  | .for p it b, st, ho, h => by simp [okF] at ho
  | .whl c b, st, ho, h => by simp [okF] at ho
theorem ssf_all (hC : ∀ f ds, Mono (C f ds)) {X : Cx} (g : Gd tb C G cc k X) : ∀ (l : List S) (sts : List Stmt), okFs l = true → chkSs tb l (ctx X) sts = true → QSF X sts (cc * wSs l) (execs C G l)
  | [], sts, _, h => by
    cases sts with
    | nil => exact qsf_nil.cg (Nat.zero_le _) fun δ D q => by rw [execs] at q; exact q
    | cons _ _ => simp [chkSs] at h
  | s :: r, sts, ho, h => by
    rw [okFs, Bool.and_eq_true] at ho
    have hf : ¬ ∃ i, s = .frz i := by
      rintro ⟨i, rfl⟩
      simp [okF] at ho
    have h' : ∃ st sts', sts = st :: sts' ∧ chkS tb s (ctx X) st = true ∧ chkSs tb r (ctx X) sts' = true := by
      rw [chkSs.eq_def] at h
      cases sts with
      | nil => cases s <;> first | (simp at h; done) | exact absurd ⟨_, rfl⟩ hf
      | cons st sts' => cases s <;> first | (exact absurd ⟨_, rfl⟩ hf) | (simp only [Bool.and_eq_true] at h; exact ⟨_, _, rfl, h.1, h.2⟩)
    obtain ⟨st, sts', rfl, h1, h2⟩ := h'
    exact (qsf_cons (sf_all hC g s st ho.1 h1) (ssf_all hC g r sts' ho.2 h2)).cg (by rw [wSs, Nat.mul_add]; exact Nat.le_refl _) fun δ D q => by rw [execs] at q; exact q
end
end
end SF

/-! D7c: what the pot's two defs do. -/
namespace SF
open PySem PySem.Spec PyProof.Rows L2
def primes7 : List Int := [2147483629, 2147483587, 2147483579, 2147483563, 2147483549, 2147483543, 2147483497]
def takeS : List S := [
  .ite (.cmp .gt (.idx (.obs 0) (.int 0)) (.int 0)) [.set 2 (.op2 .mod (.idx (.obs 0) (.int 0)) (.var 1)), .sto 0 (.int 0) (.op2 .fdiv (.idx (.obs 0) (.int 0)) (.var 1)), .ret (.var 2)] [],
  .sto 0 (.int 2) (.op2 .add (.idx (.obs 0) (.int 2)) (.int 1)),
  .set 3 (.idx (.lst [.int 2147483629, .int 2147483587, .int 2147483579, .int 2147483563, .int 2147483549, .int 2147483543, .int 2147483497]) (.op2 .mod (.idx (.obs 0) (.int 2)) (.int 7))),
  .set 4 (.op2 .mod (.op2 .pow (.op2 .add (.op2 .add (.idx (.obs 0) (.int 1)) (.op2 .mul (.op2 .mul (.int 65537) (.idx (.obs 0) (.int 2))) (.idx (.obs 0) (.int 2)))) (.int 19)) (.int 3)) (.var 3)),
  .set 4 (.op2 .mod (.op2 .mul (.var 4) (.op2 .add (.op2 .mod (.var 4) (.int 10007)) (.op2 .mul (.int 97) (.idx (.obs 0) (.int 2))))) (.int 2305843009213693907)),
  .ret (.op2 .mod (.op2 .fdiv (.var 4) (.int 97)) (.var 1))]
def potS : List S := [
  .set 2 (.ite (.cmp .lt (.var 1) (.bi .len [.var 0])) (.idx (.var 0) (.var 1)) (.op2 .add (.op2 .mul (.int 11) (.var 1)) (.int 4))),
  .set 3 (.op2 .mul (.op2 .mod (.bi .abs [.var 2]) (.op2 .pow (.op2 .pow (.int 10) (.int 60)) (.int 5))) (.bi .int [.cmp .ge (.bi .abs [.var 2]) (.op2 .pow (.int 10) (.int 18))])),
  .ret (.lst [.var 3, .op2 .mod (.op2 .mul (.op2 .add (.op2 .add (.op2 .mod (.var 2) (.int 2305843009213693951)) (.op2 .mul (.op2 .mul (.int 7919) (.var 1)) (.var 1))) (.int 53)) (.int 48271)) (.int 2305843009213693921), .int 0])]
def PotB (x y c : Int) (z : Nat) : Prop := 0 ≤ x ∧ x < 10 ^ 301 ∧ 0 ≤ y ∧ y < 2305843009213693951 ∧ 0 ≤ c ∧ c ≤ (z : Int)
/-- a draw: any number below the bound -/
def takeW (ds : List Dat) (Q : Dat → Prop) : Prop :=
  match ds with
  | [.pot, .int b] => (0 < b ∧ b.natAbs < 2 ^ 8000) ∧ ∀ r : Int, 0 ≤ r → r < b → Q (.int r)
  | _ => False
def potW (ds : List Dat) (Q : Dat → Prop) : Prop :=
  match ds with
  | [.scr l, .int k] => (0 ≤ k ∧ k ≤ 1000) ∧ Q .pot
  | _ => False
theorem takeW_mono (ds : List Dat) : Mono (takeW ds) := by
  intro P Q h hp
  unfold takeW at *
  split at hp
  · exact ⟨hp.1, fun r a b => h _ (hp.2 r a b)⟩
  · exact hp.elim
theorem potW_mono (ds : List Dat) : Mono (potW ds) := by
  intro P Q h hp
  unfold potW at *
  split at hp
  · exact ⟨hp.1, h _ hp.2⟩
  · exact hp.elim
section
variable {C : Nat → List Dat → (Dat → Prop) → Prop} {G : Nat → Option Dat}
theorem prime_at {i : Int} (h0 : 0 ≤ i) (h7 : i < 7) : ∃ p : Int, atD [.int 2147483629, .int 2147483587, .int 2147483579, .int 2147483563, .int 2147483549, .int 2147483543, .int 2147483497] i = some (.int p) ∧ 0 < p ∧ p < 2 ^ 31 := by
  have : i = 0 ∨ i = 1 ∨ i = 2 ∨ i = 3 ∨ i = 4 ∨ i = 5 ∨ i = 6 := by omega
  rcases this with rfl | rfl | rfl | rfl | rfl | rfl | rfl <;> exact ⟨_, rfl, by decide, by decide⟩
theorem natAbs_of {a : Int} {B : Nat} (h0 : 0 ≤ a) (h1 : a < (B : Int)) : a.natAbs < B := by omega
theorem big_c {c : Int} {z : Nat} (h0 : 0 ≤ c) (h1 : c ≤ (z : Int)) (hz : z < zMax) : c.natAbs + 1 ≤ 2 ^ 30000 := by
  have : z < 2 ^ 30000 := hz
  omega
theorem take_reads {x y c b : Int} {z : Nat} (pb : PotB x y c z) (hb : 0 < b ∧ b.natAbs < 2 ^ 8000) (hz : z < zMax) (Φ : Dat → Prop) (hΦ : ∀ r : Int, 0 ≤ r → r < b → Φ (.int r)) :
    execs C G takeS [.own (.lst [.int x, .int y, .int c]), .val (.int b), .no, .no, .no] { nx := fun _ => False, rt := fun δ' d => (∃ x' y' c', δ'[0]? = some (.own (.lst [.int x', .int y', .int c'])) ∧ PotB x' y' c' (z + 1)) ∧ ∃ r : Int, d = .int r ∧ Φ d } := by
  obtain ⟨hx0, hx1, hy0, hy1, hc0, hc1⟩ := pb
  have hcz := big_c hc0 hc1 hz
  unfold takeS
  rw [execs, exec]
  simp only [ev, getO, List.getElem?_cons_zero, idxW, atD, cmpW, ordW]
  refine ⟨_, rfl, ⟨rfl, rfl, trivial, trivial⟩, ?_⟩
  simp only [boolW]
  by_cases hx : 0 < x
  · have e1 : ltD (.int 0) (.int x) = true := by simp [ltD, hx]
    rw [e1, if_pos rfl]
    simp only [execs, exec, ev, getO, getV, List.getElem?_cons_zero, idxW, atD, op2W, List.set, List.getElem?_cons_succ]
    refine ⟨_, rfl, hb.1, _, rfl, hb, _, rfl, _, _, rfl, rfl, ⟨_, _, _, rfl, ?_⟩, _, rfl, ?_⟩
    · have q1 : 0 ≤ x / b := Int.ediv_nonneg hx0 (by omega)
      have q2 : x / b ≤ x := Int.ediv_le_self b hx0
      exact ⟨q1, by omega, hy0, hy1, hc0, by omega⟩
    · exact hΦ _ (Int.emod_nonneg _ (by omega)) (Int.emod_lt_of_pos _ hb.1)
  · have e1 : ltD (.int 0) (.int x) = false := by simp [ltD, hx]
    rw [e1, if_neg Bool.false_ne_true]
    obtain ⟨p, hp1, hp2, hp3⟩ := prime_at (i := (c + 1) % 7) (Int.emod_nonneg _ (by decide)) (Int.emod_lt_of_pos _ (by decide))
    have hc1' : (c + 1).natAbs ≤ 2 ^ 30000 := by omega
    have hm1 : (65537 * (c + 1)).natAbs < 2 ^ 30017 := by
      rw [Int.natAbs_mul]
      have : 2 ^ 30017 = 131072 * 2 ^ 30000 := by rw [show 131072 = 2 ^ 17 from rfl, ← Nat.pow_add]
      rw [this]
      have := Nat.mul_le_mul_left 65537 hc1'
      have h2 : 0 < 2 ^ 30000 := Nat.pow_pos (by decide)
      show 65537 * _ < _
      omega
    have hm2 : (65537 * (c + 1) * (c + 1)).natAbs < 2 ^ 60017 := by
      rw [Int.natAbs_mul]
      have : 2 ^ 60017 = 2 ^ 30017 * 2 ^ 30000 := by rw [← Nat.pow_add]
      rw [this]
      exact Nat.lt_of_lt_of_le (Nat.mul_lt_mul_of_pos_right hm1 (by omega)) (Nat.mul_le_mul_left _ hc1')
    have hm3 : (y + 65537 * (c + 1) * (c + 1) + 19).natAbs < 2 ^ 100000 := by
      have : 2 ^ 60018 = 2 * 2 ^ 60017 := by rw [Nat.pow_succ, Nat.mul_comm]
      have h2 : (2 : Nat) ^ 64 ≤ 2 ^ 60017 := Nat.pow_le_pow_right (by decide) (by decide)
      have h3 : (2 : Nat) ^ 60018 ≤ 2 ^ 100000 := Nat.pow_le_pow_right (by decide) (by decide)
      have h4 : (2 : Nat) ^ 64 = 18446744073709551616 := by decide
      omega
    have hA : (c + 1).natAbs < 2 ^ 100000 := Nat.lt_of_le_of_lt hc1' (Nat.pow_lt_pow_right (by decide) (by decide))
    have hB : (65537 * (c + 1)).natAbs < 2 ^ 100000 := Nat.lt_of_lt_of_le hm1 (Nat.pow_le_pow_right (by decide) (by decide))
    have a2 : ∀ u v w : Dat, atD [u, v, w] 2 = some w := fun _ _ _ => rfl
    have a1 : ∀ u v w : Dat, atD [u, v, w] 1 = some v := fun _ _ _ => rfl
    have s2 : ∀ u v w t : Dat, setAt [u, v, w] 2 t = some [u, v, t] := fun _ _ _ _ => rfl
    have hw0 : 0 ≤ (y + 65537 * (c + 1) * (c + 1) + 19) ^ (3 : Int).toNat % p := Int.emod_nonneg _ (by omega)
    have hw1 : (y + 65537 * (c + 1) * (c + 1) + 19) ^ (3 : Int).toNat % p < p := Int.emod_lt_of_pos _ hp2
    rw [execs]
    dsimp only
    rw [execs, exec]
    simp only [ev, getO, List.getElem?_cons_zero, idxW, op2W]
    refine ⟨_, a2 _ _ _, _, rfl, _, _, rfl, s2 _ _ _ _, ?_⟩
    rw [List.set_cons_zero, execs, exec]
    simp only [ev, evs, getO, List.getElem?_cons_zero, idxW, op2W]
    refine ⟨_, a2 _ _ _, by decide, _, hp1, ?_⟩
    rw [List.set_cons_succ, List.set_cons_succ, List.set_cons_succ, List.set_cons_zero, execs, exec]
    simp only [ev, getO, getV, List.getElem?_cons_zero, List.getElem?_cons_succ, idxW, op2W]
    refine ⟨_, a1 _ _ _, _, a2 _ _ _, .inl (.inl (by decide)), _, a2 _ _ _, .inr ⟨hB, hA⟩, ⟨by decide, by decide, hm3⟩, hp2, ?_⟩
    generalize (y + 65537 * (c + 1) * (c + 1) + 19) ^ (3 : Int).toNat % p = w at hw0 hw1
    rw [List.set_cons_succ, List.set_cons_succ, List.set_cons_succ, List.set_cons_succ, List.set_cons_zero, execs, exec]
    simp only [ev, getO, getV, List.getElem?_cons_zero, List.getElem?_cons_succ, idxW, op2W]
    refine ⟨by decide, _, a2 _ _ _, .inl (.inl (by decide)), .inl (.inl ?_), by decide, ?_⟩
    · have h2 : (2 : Nat) ^ 64 = 18446744073709551616 := by decide
      have h3 : (2 : Int) ^ 31 = 2147483648 := by decide
      omega
    rw [List.set_cons_succ, List.set_cons_succ, List.set_cons_succ, List.set_cons_succ, List.set_cons_zero, execs, exec]
    simp only [ev, getV, List.getElem?_cons_zero, List.getElem?_cons_succ, op2W]
    refine ⟨⟨by decide, by decide⟩, hb.1, ⟨_, _, _, rfl, ?_⟩, _, rfl, ?_⟩
    · exact ⟨hx0, hx1, hy0, hy1, by omega, by omega⟩
    · exact hΦ _ (Int.emod_nonneg _ (by omega)) (Int.emod_lt_of_pos _ hb.1)
end
end SF

/-! D7d: the pot's two defs keep their promises. -/
namespace SF
open PySem PySem.Spec PyProof.Rows L2
def noC : Nat → List Dat → (Dat → Prop) → Prop := fun _ _ _ => False
theorem noC_mono : ∀ f ds, Mono (noC f ds) := fun _ _ _ _ _ h => h
def hidA (H : Hp) (a : Addr) : Hp := fun b => if b = a then none else H b
def tb0 (fre : List Str) : Tb := ⟨[], [], fre, []⟩
section
variable {P : Program} {w : World} {K : PySem.W.Frag} {mg : Str → Option Value} {base : Heap}
theorem two_of {K : PySem.W.Frag} {H : Hp} {vs : List V} {d e : Dat} (h : Reps K H vs [d, e]) : ∃ v u, vs = [v, u] ∧ Rep K H v d ∧ Rep K H u e := by
  match vs, h with
  | [v, u], h => rw [Reps, Reps] at h; exact ⟨v, u, rfl, h.1, h.2.1⟩
  | [], h => simp [Reps] at h
  | [_], h => simp [Reps] at h
  | _ :: _ :: _ :: _, h => simp [Reps] at h
theorem take_env {K : PySem.W.Frag} {H1 H0 : Hp} {a : Addr} {x y c b : Int} {N : List Str} (hN : N.length = 5) (h : H1 a = some (.lst [.int x, .int y, .int c])) (h0 : H0 a = none) :
    EnvS K (L2.start N [.ref a, .int b]) H0 H1 [.own (.lst [.int x, .int y, .int c]), .val (.int b), .no, .no, .no] := by
  have hs : L2.start N [.ref a, .int b] = [some (.ref a), some (.int b), none, none, none] := by
    unfold L2.start
    rw [hN]; rfl
  rw [hs]
  refine ⟨⟨rfl, fun i s q => ?_⟩, fun i j d d' hij hi hj => ?_, fun i d b' hi hb => ?_⟩
  · match i, q with
    | 0, q =>
      cases q
      refine ⟨a, rfl, _, h, show 3 ≤ sizeLine by decide, ?_⟩
      rw [Reps, Reps, Reps, Reps, Rep, Rep, Rep]
      exact ⟨rfl, rfl, rfl, trivial⟩
    | 1, q => cases q; show Rep _ _ _ _; rw [Rep]
    | 2, q => cases q; trivial
    | 3, q => cases q; trivial
    | 4, q => cases q; trivial
    | n + 5, q => cases q
  · match i, hi, j, hj with
    | 0, _, 0, _ => exact absurd rfl hij
    | 0, _, 1, hj => cases hj
    | 0, _, 2, hj => cases hj
    | 0, _, 3, hj => cases hj
    | 0, _, 4, hj => cases hj
    | 0, _, n + 5, hj => cases hj
    | 1, hi, _, _ => cases hi
    | 2, hi, _, _ => cases hi
    | 3, hi, _, _ => cases hi
    | 4, hi, _, _ => cases hi
    | n + 5, hi, _, _ => cases hi
  · match i, hi with
    | 0, _ => cases hb; exact h0
    | 1, hi => cases hi
    | 2, hi => cases hi
    | 3, hi => cases hi
    | 4, hi => cases hi
    | n + 5, hi => cases hi
theorem take_fng {a : Addr} {fd : FuncData} {i : DI} {params : Arguments} {qual : Str} {dvs : List V} {kws : List (Str × V)} (F : FunD K i.name qual params i.body i.scope dvs kws a fd) (ok : i.ok (tb0 []) = true) (hN : i.N.length = 5) (hd : i.d.body = takeS) :
    FnG P w K mg base 1 a fd i.ps 1 takeW := by
  unfold DI.ok at ok
  simp only [Bool.and_eq_true, beq_iff_eq] at ok
  obtain ⟨⟨⟨⟨o1, o2⟩, o3⟩, o4⟩, o5⟩ := ok
  have S := scopeB_ok o1
  rw [hd] at o2
  refine fng_raw F S fun cdv A outer s H s1 vs ds m Φ hr t1 I hl hNl hrep pl hW => ?_
  have g : Gd (tb0 []) noC (fun _ => none) 0 0 (cxOf CX0 P w K mg base i.N qual i.scope a cdv A outer s H fun _ _ _ => False) :=
    ⟨rfl, S.nd, hr, S.kind, (fun x hx => nomatch hx), (fun i x d hx => by cases hx), (fun f x hx => by cases hx)⟩
  unfold takeW at hW
  split at hW
  · rename_i b
    obtain ⟨hb, hΦ⟩ := hW
    obtain ⟨v0, v1, rfl, r0, r1⟩ := two_of hrep
    rw [Rep] at r0
    rw [Rep] at r1
    obtain ⟨a', z, rfl, hz⟩ := r0
    subst r1
    obtain ⟨x, y, c, pb, I1⟩ := Inv_thaw I hz
    have hzm : z < zMax := by have := pl.2 a' z hz; omega
    have e0 : (hidA H a') a' = none := if_pos rfl
    have ex0 : Ext (hidA H a') (L2.upd H a' (.lst [.int x, .int y, .int c])) := fun b o q => by
      by_cases hb : b = a'
      · subst hb; rw [e0] at q; cases q
      · rw [show hidA H a' b = H b from if_neg hb] at q
        exact .inl (by rw [upd_ne hb]; exact q)
    have es := take_env (K := K) (H0 := hidA H a') (b := b) hN (upd_same (H := H) (a := a') (o := .lst [.int x, .int y, .int c])) e0
    have pl1 : PotLe (0 * wSs takeS + m) (L2.upd H a' (.lst [.int x, .int y, .int c])) := by
      rw [Nat.zero_mul, Nat.zero_add]
      refine ⟨by have := pl.1; omega, fun b z' q => ?_⟩
      by_cases hb : b = a'
      · subst hb; rw [upd_same] at q; cases q
      · rw [upd_ne hb] at q; have := pl.2 b z' q; omega
    have hs0 : (L2.start i.N [.ref a', .int b])[0]? = some (some (.ref a')) := by unfold L2.start; rfl
    refine wpAny_mono (ssf_all noC_mono g takeS i.body (by decide) o2 (fun _ _ => False) PassesOwn.never [] s1 _ _ _ _ m _ a' t1 I1 es ex0 pl1 hs0 (take_reads pb hb hzm (fun d => Φ d) hΦ)) (fun fl s' hs => ?_) fun _ _ q => q.elim
    obtain ⟨t', hs⟩ := hs
    cases fl with
    | ret u =>
      obtain ⟨v, σ', H', d, δ', h0, J, rv, rd, es', st, ⟨x', y', c', hδ, pb'⟩, r, rfl, hq⟩ := hs
      obtain ⟨a2, vs, h2, h3, _, h4, _⟩ := es'.ownAt hδ
      rw [h0] at h2
      cases h2
      have e3 : vs = [.int x', .int y', .int c'] := by
        match vs, h4 with
        | [p, q, t], h4 =>
          rw [Reps, Reps, Reps, Rep, Rep, Rep] at h4
          rw [h4.1, h4.2.1, h4.2.2.1]
        | [], h4 => simp [Reps] at h4
        | [_], h4 => simp [Reps] at h4
        | [_, _], h4 => simp [Reps] at h4
        | _ :: _ :: _ :: _ :: _, h4 => simp [Reps] at h4
      subst e3
      rw [Rep] at rd
      subst rd
      refine ⟨t', u, rfl, .int r, σ', _, .int r, Inv_pot J h3 pb', rv, by rw [Rep], ⟨fun b o q => ?_, fun m' q => ?_⟩, hq⟩
      · by_cases hb : b = a'
        · subst hb
          rw [hz] at q; cases q
          exact .inr ⟨⟨z, rfl⟩, z + 1, upd_same⟩
        · have := st.ext b o (by rw [show hidA H a' b = H b from if_neg hb]; exact q)
          rw [upd_ne hb]
          exact this
      · have pm : PotLe m' H' := st.pot m' (by
          rw [Nat.zero_mul, Nat.zero_add]
          refine ⟨by have := q.1; omega, fun b z' k => ?_⟩
          by_cases hb : b = a'
          · subst hb; rw [upd_same] at k; cases k
          · rw [upd_ne hb] at k; have := q.2 b z' k; omega)
        refine ⟨pm.1, fun b z' k => ?_⟩
        by_cases hb : b = a'
        · subst hb
          rw [upd_same] at k
          have := potO_le (Option.some.inj k).symm
          have := q.2 b z hz
          omega
        · rw [upd_ne hb] at k
          exact pm.2 b z' k
    | next =>
      obtain ⟨_, _, _, _, _, _, _, q⟩ := hs
      exact q.elim
    | brk => exact hs.elim
    | cont => exact hs.elim
  · exact hW.elim

/-! ### the pot is made -/
theorem lt_big {n : Nat} (h : n < 2 ^ 250) : n < 2 ^ 100000 := Nat.lt_of_lt_of_le h (Nat.pow_le_pow_right (by decide) (by decide))
def potE1 : S := .set 2 (.ite (.cmp .lt (.var 1) (.bi .len [.var 0])) (.idx (.var 0) (.var 1)) (.op2 .add (.op2 .mul (.int 11) (.var 1)) (.int 4)))
def potE2 : S := .set 3 (.op2 .mul (.op2 .mod (.bi .abs [.var 2]) (.op2 .pow (.op2 .pow (.int 10) (.int 60)) (.int 5))) (.bi .int [.cmp .ge (.bi .abs [.var 2]) (.op2 .pow (.int 10) (.int 18))]))
def potE3 : E := .lst [.var 3, .op2 .mod (.op2 .mul (.op2 .add (.op2 .add (.op2 .mod (.var 2) (.int 2305843009213693951)) (.op2 .mul (.op2 .mul (.int 7919) (.var 1)) (.var 1))) (.int 53)) (.int 48271)) (.int 2305843009213693921), .int 0]
theorem pot_reads2 {C : Nat → List Dat → (Dat → Prop) → Prop} {G : Nat → Option Dat} {l : List Int} {k : Int} (h0 : 0 ≤ k) (h1 : k ≤ 1000) (Ψ : Dat → Prop) (hΨ : ∀ x y : Int, PotB x y 0 0 → Ψ (.lst [.int x, .int y, .int 0])) :
    exec C G potE1 [.val (.scr l), .val (.int k), .no, .no] { nx := (fun δ => exec C G potE2 δ { nx := (fun δ => ev C G potE3 .v δ Ψ), rt := fun _ _ => False }), rt := fun _ _ => False } := by
  have rest : ∀ cell : Int, exec C G potE2 (List.set [.val (.scr l), .val (.int k), .no, .no] 2 (.val (.int cell))) { nx := (fun δ => ev C G potE3 .v δ Ψ), rt := fun _ _ => False } := by
    intro cell
    unfold potE2 potE3
    have e1 : (10 : Int) ^ (60 : Int).toNat = 10 ^ 60 := rfl
    have e2 : ((10 : Int) ^ 60) ^ (5 : Int).toNat = (10 ^ 60) ^ 5 := rfl
    have e3 : (10 : Int) ^ (18 : Int).toNat = 10 ^ 18 := rfl
    have hp0 : (0 : Int) < (10 ^ 60) ^ 5 := by decide
    have hq0 : 0 ≤ (cell.natAbs : Int) % (10 ^ 60) ^ 5 := Int.emod_nonneg _ (by decide)
    have hq1 : (cell.natAbs : Int) % (10 ^ 60) ^ 5 < (10 ^ 60) ^ 5 := Int.emod_lt_of_pos _ hp0
    have h2a : (10 : Int).natAbs < 2 ^ 100000 := lt_big (by decide)
    have h2b : ((10 : Int) ^ 60).natAbs < 2 ^ 100000 := lt_big (by decide)
    rw [List.set_cons_succ, List.set_cons_succ, List.set_cons_zero, exec]
    simp only [ev, evs, getV, List.getElem?_cons_zero, List.getElem?_cons_succ, biW, absW, intW, cmpW, ordW, op2W, e1, e2, e3]
    refine ⟨⟨by decide, by decide, h2a⟩, ⟨by decide, by decide, h2b⟩, hp0, ⟨by decide, by decide, h2a⟩, ⟨rfl, rfl, trivial, trivial⟩, ?_⟩
    generalize (cell.natAbs : Int) % (10 ^ 60) ^ 5 = q at hq0 hq1
    generalize (!ltD (.int cell.natAbs) (.int (10 ^ 18))) = t
    refine ⟨?_, ?_⟩
    · refine .inl (.inr ?_)
      cases t <;> decide
    · rw [List.set_cons_succ, List.set_cons_succ, List.set_cons_succ, List.set_cons_zero]
      simp only [List.getElem?_cons_zero, List.getElem?_cons_succ]
      refine ⟨by decide, .inl (.inl (by decide)), ?_, .inl (.inr (by decide)), by decide, ?_⟩
      · left; left
        rw [Int.natAbs_mul, show (7919 : Int).natAbs = 7919 from rfl]
        have h3 : (2 : Nat) ^ 64 = 18446744073709551616 := by decide
        omega
      · refine hΨ _ _ ⟨?_, ?_, Int.emod_nonneg _ (by decide), ?_, by decide, by decide⟩
        · cases t
          · simp
          · simpa using hq0
        · have : ((10 : Int) ^ 60) ^ 5 < 10 ^ 301 := by decide +kernel
          have h0 : (0 : Int) < 10 ^ 301 := by decide +kernel
          cases t
          · simpa using h0
          · simp only [if_true, Int.mul_one]; omega
        · have := Int.emod_lt_of_pos ((cell % 2305843009213693951 + 7919 * k * k + 53) * 48271) (show (0 : Int) < 2305843009213693921 by decide)
          omega
  unfold potE1
  rw [exec]
  simp only [ev, evs, getV, List.getElem?_cons_zero, List.getElem?_cons_succ, biW, lenW, cmpW, ordW, op2W, boolW, idxW]
  refine ⟨⟨rfl, rfl, trivial, trivial⟩, ?_⟩
  cases hk : ltD (.int k) (.int l.length) with
  | true =>
    rw [if_pos rfl]
    have lt : k < l.length := by simpa [ltD] using hk
    have hn : k.toNat < l.length := by omega
    refine ⟨.int l[k.toNat], ?_, rest _⟩
    unfold atD atI ixN
    rw [List.length_map, if_pos h0, if_pos lt]
    simp [hn]
  | false =>
    rw [if_neg Bool.false_ne_true]
    refine ⟨.inl (.inl (by decide)), rest _⟩
theorem chkSs_cons {tb : Tb} {s : S} {r : List S} {c : Ck} {sts : List Stmt} (hf : ∀ i, s ≠ .frz i) (h : chkSs tb (s :: r) c sts = true) : ∃ st sts', sts = st :: sts' ∧ chkS tb s c st = true ∧ chkSs tb r c sts' = true := by
  rw [chkSs.eq_def] at h
  cases sts with
  | nil => cases s <;> first | (simp at h; done) | exact absurd rfl (hf _)
  | cons st sts' => cases s <;> first | (exact absurd rfl (hf _)) | (simp only [Bool.and_eq_true] at h; exact ⟨_, _, rfl, h.1, h.2⟩)
theorem pot_fng {a : Addr} {fd : FuncData} {i : DI} {params : Arguments} {qual : Str} {dvs : List V} {kws : List (Str × V)} (F : FunD K i.name qual params i.body i.scope dvs kws a fd) (ok : i.ok (tb0 ["len", "abs", "int"]) = true) (hf : ∀ x ∈ (["len", "abs", "int"] : List Str), mg x = none) (hN : i.N.length = 4) (hd : i.d.body = potS) :
    FnG P w K mg base 1 a fd i.ps 1 potW := by
  unfold DI.ok at ok
  simp only [Bool.and_eq_true, beq_iff_eq] at ok
  obtain ⟨⟨⟨⟨o1, o2⟩, o3⟩, o4⟩, o5⟩ := ok
  have S := scopeB_ok o1
  rw [hd] at o2
  refine fng_raw F S fun cdv A outer s H s1 vs ds m Φ hr t1 I hl hNl hrep pl hW => ?_
  have g : Gd (tb0 ["len", "abs", "int"]) noC (fun _ => none) 0 0 (cxOf CX0 P w K mg base i.N qual i.scope a cdv A outer s H fun _ _ _ => False) :=
    ⟨rfl, S.nd, hr, S.kind, hf, (fun i x d hx => by cases hx), (fun f x hx => by cases hx)⟩
  unfold potW at hW
  split at hW
  · rename_i l k
    obtain ⟨⟨k0, k1⟩, hΦ⟩ := hW
    have inv : ∃ st1 st2 st3, i.body = [st1, st2, st3] ∧ chkS (tb0 ["len", "abs", "int"]) potE1 ⟨i.N, i.scope, fun _ => true⟩ st1 = true ∧
        chkS (tb0 ["len", "abs", "int"]) potE2 ⟨i.N, i.scope, fun _ => true⟩ st2 = true ∧
        chkS (tb0 ["len", "abs", "int"]) (.ret potE3) ⟨i.N, i.scope, fun _ => true⟩ st3 = true := by
      change chkSs _ [potE1, potE2, .ret potE3] _ _ = true at o2
      have nf1 : ∀ i, potE1 ≠ .frz i := fun i e => nomatch e
      have nf3 : ∀ i, SF.S.ret potE3 ≠ SF.S.frz i := fun i e => by cases e
      have nf2 : ∀ i, potE2 ≠ .frz i := fun i e => nomatch e
      obtain ⟨st1, r1, e1, c1, o2⟩ := chkSs_cons nf1 o2
      obtain ⟨st2, r2, e2, c2, o2⟩ := chkSs_cons nf2 o2
      obtain ⟨st3, r3, e3, c3, o2⟩ := chkSs_cons nf3 o2
      rw [chkSs] at o2
      have er : r3 = [] := by cases r3 with | nil => rfl | cons _ _ => simp at o2
      exact ⟨_, _, _, by rw [e1, e2, e3, er], c1, c2, c3⟩
    obtain ⟨st1, st2, st3, hbd, c1, c2, c3⟩ := inv
    rw [hbd]
    have es : EnvS K (L2.start i.N vs) H H [.val (.scr l), .val (.int k), .no, .no] := by
      have e := start_env hrep hNl
      rw [hN] at e
      exact ⟨e, (fun p j d d' _ hp => absurd hp (start_own (n := 4) (ds := [.scr l, .int k]))), (fun p d b hp => absurd hp (start_own (n := 4) (ds := [.scr l, .int k])))⟩
    have q1 := s_set noC_mono g c1
    have q2 := s_set noC_mono g c2
    have pl0 : PotLe (0 + m) H := pl.mono (by omega)
    refine wpAny_execs_cons (thn (q1 (fun _ _ => False) PassesOwn.never [] s1 _ H H _ m _ t1 I es (Ext.refl H) (by rw [Nat.zero_mul]; exact pl.mono (by omega)) (pot_reads2 k0 k1 (fun d => ∃ x y : Int, PotB x y 0 0 ∧ d = .lst [.int x, .int y, .int 0]) fun x y h => ⟨x, y, h, rfl⟩)) fun f s2 ⟨t2, z1⟩ => ?_)
    cases f with
    | next =>
      obtain ⟨σ1, H1, δ1, I1, es1, sp1, z1⟩ := z1
      have pl1 : PotLe (0 + m) H1 := sp1.pot (0 + m) (by rw [Nat.zero_mul]; exact pl.mono (by omega))
      refine wpAny_execs_cons (thn (q2 (fun _ _ => False) PassesOwn.never [] s2 _ H H1 _ m _ t2 I1 es1 sp1.ext (by rw [Nat.zero_mul]; exact pl1.mono (by omega)) z1) fun f s3 ⟨t3, z2⟩ => ?_)
      cases f with
      | next =>
        obtain ⟨σ2, H2, δ2, I2, es2, sp2, z2⟩ := z2
        dsimp only at z2
        have pl2 : PotLe (0 + m) H2 := sp2.pot (0 + m) (by rw [Nat.zero_mul]; exact pl1.mono (by omega))
        rw [chkS.eq_def] at c3; dsimp only at c3
        split at c3
        · rename_i v pos
          have he := (sndE (tb := tb0 ["len", "abs", "int"]) (G := fun _ => none) (cc := 0) (k := 0) noC_mono potE3).o _ v g c3 rfl
          have pl3 : PotLe (0 * wE potE3 + m) H2 := by rw [Nat.zero_mul]; exact pl2.mono (by omega)
          refine wpAny_execs_cons (wpAny_Return_some (thn (he (fun _ _ => False) [] s3 σ2 H2 δ2 m _ t3 I2 es2.rep pl3 z2) fun u s4 ⟨t4, y0, H3, d, I3, r3, st3, b3, x, y, pb, hd⟩ => ?_))
          subst hd
          have b3 : RO K H2 H3 y0 (.lst [.int x, .int y, .int 0]) := b3
          obtain ⟨a', rfl, hn, vs3, h3, _, h4⟩ := b3.fresh rfl
          have e3 : vs3 = [.int x, .int y, .int 0] := by
            match vs3, h4 with
            | [p, q, t], h4 =>
              rw [Reps, Reps, Reps, Rep, Rep, Rep] at h4
              rw [h4.1, h4.2.1, h4.2.2.1]
            | [], h4 => simp [Reps] at h4
            | [_], h4 => simp [Reps] at h4
            | [_, _], h4 => simp [Reps] at h4
            | _ :: _ :: _ :: _ :: _, h4 => simp [Reps] at h4
          subst e3
          have hn0 : H a' = none := sp2.ext.none hn
          have ex3 : Ext H H3 := sp2.ext.trans st3.ext
          refine ⟨t4, u, rfl, .ref a', σ2, _, .pot, Inv_pot I3 h3 pb, r3, by rw [Rep]; exact ⟨a', 0, rfl, upd_same⟩, ⟨fun b o q => ?_, fun m' q => ?_⟩, hΦ⟩
          · have hb : b ≠ a' := fun e => by subst e; rw [hn0] at q; cases q
            rw [upd_ne hb]
            exact ex3 b o q
          · have pm : PotLe m' H3 := st3.pot m' (by
              rw [Nat.zero_mul]
              exact sp2.pot _ (by
                rw [Nat.zero_mul]
                exact (sp1.pot (0 + (0 + m')) (by rw [Nat.zero_mul]; exact q.mono (by omega))).mono (by omega)))
            refine ⟨pm.1, fun b z' k => ?_⟩
            by_cases hb : b = a'
            · subst hb
              rw [upd_same] at k
              have := potO_le (Option.some.inj k).symm
              have := pm.1
              omega
            · rw [upd_ne hb] at k
              exact pm.2 b z' k
        · cases c3
      | ret u => obtain ⟨_, _, _, _, _, _, _, _, _, _, q⟩ := z2; exact q.elim
      | brk => obtain ⟨_, _, _, _, _, _, q⟩ := z2; exact q.elim
      | cont => obtain ⟨_, _, _, _, _, _, q⟩ := z2; exact q.elim
    | ret u => obtain ⟨_, _, _, _, _, _, _, _, _, _, q⟩ := z1; exact q.elim
    | brk => obtain ⟨_, _, _, _, _, _, q⟩ := z1; exact q.elim
    | cont => obtain ⟨_, _, _, _, _, _, q⟩ := z1; exact q.elim
  · exact hW.elim
end
end SF

/-! D8: from the head to the plain law. -/
namespace SF
open PySem PySem.Spec PyProof.Rows L2
/-! ### constants of the module -/
def simV : Dat → Option V
  | .int i => some (.int i)
  | .str s => if s.length ≤ sizeLine then some (.str ⟨s.toArray⟩) else none
  | _ => none
theorem simV_rep {K : PySem.W.Frag} {H : Hp} {d : Dat} {v : V} (h : simV d = some v) : Rep K H v d := by
  cases d <;> simp only [simV] at h <;> try (cases h; done)
  · cases h; rw [Rep]
  · split at h
    · cases h; rw [Rep]; exact ⟨rfl, ‹_›⟩
    · cases h
def simVs : List Dat → Option (List V)
  | [] => some []
  | d :: r => match simV d, simVs r with
    | some v, some vs => some (v :: vs)
    | _, _ => none
theorem simVs_rep {K : PySem.W.Frag} {H : Hp} : ∀ {l : List Dat} {vs : List V}, simVs l = some vs → Reps K H vs l
  | [], vs, h => by rw [simVs] at h; cases h; rw [Reps]; trivial
  | d :: r, vs, h => by
    rw [simVs] at h
    cases hd : simV d with
    | none => rw [hd] at h; cases h
    | some v =>
      cases hr : simVs r with
      | none => rw [hd, hr] at h; cases h
      | some ws =>
        rw [hd, hr] at h
        cases h
        rw [Reps]
        exact ⟨simV_rep hd, simVs_rep hr⟩
def constB (K : PySem.W.Frag) (c : Str × Dat) : Bool :=
  match c.2 with
  | .tup l => (match PySem.W.nsIn K mainGlobals c.1 with
    | some (some (.ref a)) => (match K.lookup a with
      | some ⟨.type t, none, .seq its _, _⟩ => decide (t = "tuple") && (decide (its.size ≤ sizeLine) && (match simVs l with | some vs => He.relAll vs its.toList | none => false))
      | _ => false)
    | _ => false)
  | d => (match simV d with
    | some v => (match PySem.W.nsIn K mainGlobals c.1 with
      | some (some u) => He.relB v u
      | _ => false)
    | none => false)
theorem constB_ok {K : PySem.W.Frag} {h : Heap} {mg : Str → Option Value} (X : K.In h) (G : h.Ns mainGlobals mg) {c : Str × Dat} (e : constB K c = true) : ∃ u v, mg c.1 = some u ∧ L2.RelV v u ∧ ∀ H, Rep K H v c.2 := by
  have sim : ∀ d, (match simV d with
    | some v => (match PySem.W.nsIn K mainGlobals c.1 with
      | some (some u) => He.relB v u
      | _ => false)
    | none => false) = true → ∃ u v, mg c.1 = some u ∧ L2.RelV v u ∧ ∀ H, Rep K H v d := by
    intro d e
    split at e
    · rename_i v hv
      split at e
      · rename_i u hu
        exact ⟨u, v, PySem.W.mg_of X G hu, He.relB_ok e, fun H => simV_rep hv⟩
      · cases e
    · cases e
  obtain ⟨x, d⟩ := c
  unfold constB at e
  cases d with
  | tup l =>
    dsimp only at e
    split at e
    · rename_i a ha
      split at e
      · rename_i t its n sl hk
        simp only [Bool.and_eq_true, decide_eq_true_eq] at e
        obtain ⟨e1, e2, e3⟩ := e
        split at e3
        · rename_i vs hv
          have r := He.relAll_ok e3
          have rr : ∀ H, Reps K H vs l := fun H => simVs_rep hv
          refine ⟨_, .ref a, PySem.W.mg_of X G ha, rfl, fun H => ?_⟩
          rw [Rep]
          subst e1
          refine ⟨a, vs, rfl, .inr ⟨_, its, n, hk, rfl, rfl, rfl, e2, r⟩, ?_, rr H⟩
          have h1 : vs.length = l.length := (rr (fun _ => none)).length
          have h2 : vs.length = its.size := by have := r.length; simpa using this
          omega
        · cases e3
      · cases e
    · cases e
  | _ => exact sim _ e
/-! ### the Hook -/
open He in
def obsC (cs : List (Str × Dat)) (fa : List Fa) (fn : List DefD) (K : PySem.W.Frag) : AlD := ((fa.all fun f => f.ok K) && (cs.all (constB K) && fn.all fun d => d.ok K), fn.map fun d => fnW K d.at_)
open He in
def SaysC (cs : List (Str × Dat)) (fa : List Fa) (fn : List DefD) (K : PySem.W.Frag) : Prop := obsC cs fa fn K = valD fn
open He in
def obsCG (n : Nat) (cs : List (Str × Dat)) (fa : List Fa) (fn : List DefD) (g : Addr → Option Obj) : AlD := obsC cs fa fn (frG g (asD g n))
open He in
def hookC (n : Nat) (cs : List (Str × Dat)) (fa : List Fa) (fn : List DefD) : PySem.W.Hook where
  α := AlD
  obs := fun s => obsCG n cs fa fn s.heap.get?
  val := fun _ => valD fn
  says := fun _ h => ∃ K : PySem.W.Frag, K.In h ∧ SaysC cs fa fn K
  of := fun _ _ e => ⟨_, frG_in, e⟩
  keeps := fun _ _ _ ⟨K, hK, c⟩ k => ⟨K, PySem.W.Frag.In.keeps hK k, c⟩
open He in
theorem obsCG_eq {n : Nat} {cs : List (Str × Dat)} {fa : List Fa} {fn : List DefD} {g : Addr → Option Obj} {s : Shared} (h : ∀ a, g a = s.heap.get? a) : obsCG n cs fa fn g = (hookC n cs fa fn).obs s := by
  have e : g = s.heap.get? := funext h
  rw [e] <;> rfl
section
open He
variable {cs : List (Str × Dat)} {fa : List Fa} {fn : List DefD} {K : PySem.W.Frag}
theorem SaysC.parts (c : SaysC cs fa fn K) : (fa.all fun f => f.ok K) = true ∧ (cs.all (constB K)) = true ∧ (fn.all fun d => d.ok K) = true := by
  have c1 : ((fa.all fun f => f.ok K) && (cs.all (constB K) && fn.all fun d => d.ok K)) = true := congrArg (fun z : AlD => z.1) c
  simp only [Bool.and_eq_true] at c1
  exact c1
theorem SaysC.fact (c : SaysC cs fa fn K) {f : Fa} (h : f ∈ fa) : f.ok K = true := List.all_eq_true.mp c.parts.1 f h
theorem SaysC.const (c : SaysC cs fa fn K) {q : Str × Dat} (h : q ∈ cs) : constB K q = true := List.all_eq_true.mp c.parts.2.1 q h
theorem SaysC.def_ (c : SaysC cs fa fn K) {d : DefD} (i : Nat) (h : fn[i]? = some d) : ∃ fd, FunD K d.name d.qual d.params d.body d.scope (d.dvs K) (d.kws K) (fAd K d.at_) fd := by
  have one := congrArg (fun z : AlD => z.2[i]?) c
  have one : (fn.map fun d => fnW K d.at_)[i]? = (fn.map DefD.val)[i]? := one
  simp only [List.getElem?_map, h, Option.map_some, Option.some.injEq] at one
  exact DefD.funD one (List.all_eq_true.mp c.parts.2.2 d (List.mem_of_getElem? h))
end
/-! ### how a def is called -/
def pickU {α : Type} (z : α) (sh : List Src) (us ws : List α) : List α := sh.map fun
  | .p i => us.getD i z
  | .k i => ws.getD i z
  | _ => z
def plainSh (np nk : Nat) (sh : List Src) : Bool := sh.all fun
  | .p i => decide (i < np)
  | .k i => decide (i < nk)
  | _ => false
theorem vals_getD {vs : List V} {us : List Value} (h : L2.Vals vs us) {i : Nat} (hi : i < us.length) : L2.RelV (vs.getD i .non) (us.getD i .none) := by
  induction h generalizing i with
  | nil => simp at hi
  | cons r t ih => cases i with
    | zero => simpa using r
    | succ i => simpa using ih (by simpa using hi)
theorem reps_getD {K : PySem.W.Frag} {H : Hp} : ∀ {vs : List V} {ds : List Dat} {i : Nat}, Reps K H vs ds → i < vs.length → Rep K H (vs.getD i .non) (ds.getD i .non)
  | [], _, _, _, hi => by simp at hi
  | v :: vs, [], _, h, _ => by simp [Reps] at h
  | v :: vs, d :: ds, 0, h, _ => by rw [Reps] at h; simpa using h.1
  | v :: vs, d :: ds, i + 1, h, hi => by rw [Reps] at h; simpa using reps_getD h.2 (by simpa using hi)
/-- a def without positional defaults: its keyword-only ones -/
theorem funD_kws {K : PySem.W.Frag} {x qual : Str} {params : Arguments} {body : List Stmt} {scope : Scope} {kws : List (Str × V)} {f : Addr} {fd : FuncData} : FunD K x qual params body scope [] kws f fd → ∃ (kV doc pm : Value) (an : Option Addr) (cdv ct : Value), KwdV K kV kws ∧ fd = PySem.W.fnOf x qual params body scope .none kV doc pm an cdv ct
  | ⟨⟨_, _, _, kV, doc, pm, an, cdv, ct, _, e, _, _, .inl ⟨_, d⟩, k⟩, _⟩ => ⟨kV, doc, pm, an, cdv, ct, k, by rw [e, d]⟩
  | ⟨⟨_, _, _, _, _, _, _, _, _, _, _, _, _, .inr ⟨e, _⟩, _⟩, _⟩ => absurd rfl e
theorem bindG_plain {K : PySem.W.Frag} {x qual : Str} {params : Arguments} {body : List Stmt} {scope : Scope} {kws : List (Str × V)} {f : Addr} {fd : FuncData} {ps ks : List Str} {np : Nat} {sh : List Src} (F : FunD K x qual params body scope [] kws f fd) (hsh : plainSh np ks.length sh = true) (hl : sh.length = ps.length)
    (h : ∀ (kV doc pm : Value) (an : Option Addr) (cdv ct : Value) (us ws : List Value), us.length = np → ws.length = ks.length → bindArgs (PySem.W.fnOf x qual params body scope .none kV doc pm an cdv ct) ⟨us, ks.zip ws⟩ = pure (ps.zip (pickU .none sh us ws))) : BindG K fd ps np ks sh := by
  obtain ⟨kV, doc, pm, an, cdv, ct, hK, rfl⟩ := funD_kws F
  intro s us ws hk hu hw
  refine ⟨pickU .none sh us ws, .of_eq (h kV doc pm an cdv ct us ws hu hw), by unfold pickU; rw [List.length_map, hl], fun H vs zs ds es rv rz bv bz => ?_⟩
  refine ⟨pickU .non sh vs zs, ?_, ?_⟩
  · have l1 := rv.length; have l2 := rz.length
    clear hl h
    unfold pickU
    induction sh with
    | nil => exact .nil
    | cons c r ih =>
      rw [plainSh, List.all_cons, Bool.and_eq_true] at hsh
      refine .cons ?_ (ih hsh.2)
      cases c <;> simp at hsh <;> dsimp only
      · exact vals_getD rv (by omega)
      · exact vals_getD rz (by omega)
  · have l1 := rv.length; have l2 := rz.length
    clear hl h
    unfold pickU pickD
    induction sh with
    | nil => rw [List.map_nil, List.map_nil, Reps]; trivial
    | cons c r ih =>
      rw [plainSh, List.all_cons, Bool.and_eq_true] at hsh
      rw [List.map_cons, List.map_cons, Reps]
      refine ⟨?_, ih hsh.2⟩
      cases c <;> simp at hsh <;> dsimp only
      · exact reps_getD bv (by omega)
      · exact reps_getD bz (by omega)
/-- one keyword-only parameter lacks: m its default's value -/
def pickX {α : Type} (z m : α) (sh : List Src) (us ws : List α) : List α := sh.map fun
  | .p i => us.getD i z
  | .k i => ws.getD i z
  | _ => m
def dvS : He.Dv → Option Src
  | .non => some .dn
  | .int i => some (.di i)
  | .bl b => some (.db b)
  | _ => none
def kwSh (np nk : Nat) (d : He.Dv) (sh : List Src) : Bool := sh.all fun
  | .p i => decide (i < np)
  | .k i => decide (i < nk)
  | c => decide (dvS d = some c)
theorem dvS_rep {K : PySem.W.Frag} {H : Hp} {d : He.Dv} : (dvS d = some .dn → Rep K H (d.v K) .non) ∧ (∀ i, dvS d = some (.di i) → Rep K H (d.v K) (.int i)) ∧ (∀ b, dvS d = some (.db b) → Rep K H (d.v K) (.bl b)) := by
  refine ⟨fun e => ?_, fun i e => ?_, fun b e => ?_⟩ <;> cases d <;> simp only [dvS, reduceCtorEq, Option.some.injEq, Src.di.injEq, Src.db.injEq] at e <;> first | (subst e; rw [Rep]; rfl) | (rw [Rep]; rfl)
theorem bindG_kw {K : PySem.W.Frag} {x qual y : Str} {params : Arguments} {body : List Stmt} {scope : Scope} {kws : List (Str × V)} {f : Addr} {fd : FuncData} {ps ks : List Str} {np : Nat} {sh : List Src} {d : He.Dv} (F : FunD K x qual params body scope [] kws f fd) (hy : (y, d.v K) ∈ kws) (hsh : kwSh np ks.length d sh = true) (hl : sh.length = ps.length)
    (h : ∀ (D : Addr) (doc pm : Value) (an : Option Addr) (cdv ct : Value) (us ws : List Value) (m : Value), us.length = np → ws.length = ks.length → KwChain D [(y, m)] (bindArgs (PySem.W.fnOf x qual params body scope .none (.ref D) doc pm an cdv ct) ⟨us, ks.zip ws⟩) (ps.zip (pickX .none m sh us ws))) : BindG K fd ps np ks sh := by
  obtain ⟨kV, doc, pm, an, cdv, ct, hK, rfl⟩ := funD_kws F
  rcases hK with e | ⟨D, rfl, hq⟩
  · rw [e] at hy; cases hy
  · obtain ⟨m, hm, rm⟩ := hq _ hy
    intro s us ws hk hu hw
    refine ⟨pickX .none m sh us ws, L2.BindsTo.of_looks fun M => L2.KwChain.looks hk (fun q hq => ?_) (h D doc pm an cdv ct us ws m hu hw), by unfold pickX; rw [List.length_map, hl], fun H vs zs ds es rv rz bv bz => ?_⟩
    · cases List.mem_singleton.mp hq
      exact hm
    refine ⟨pickX .non (d.v K) sh vs zs, ?_, ?_⟩
    · have l1 := rv.length; have l2 := rz.length
      clear hl h
      unfold pickX
      induction sh with
      | nil => exact .nil
      | cons c r ih =>
        rw [kwSh, List.all_cons, Bool.and_eq_true] at hsh
        refine .cons ?_ (ih hsh.2)
        have h1 := hsh.1
        cases c <;> dsimp only at h1 ⊢
        · exact vals_getD rv (by have := of_decide_eq_true h1; omega)
        · exact vals_getD rz (by have := of_decide_eq_true h1; omega)
        · exact rm
        · exact rm
        · exact rm
    · have l1 := rv.length; have l2 := rz.length
      clear hl h
      unfold pickX pickD
      induction sh with
      | nil => rw [List.map_nil, List.map_nil, Reps]; trivial
      | cons c r ih =>
        rw [kwSh, List.all_cons, Bool.and_eq_true] at hsh
        rw [List.map_cons, List.map_cons, Reps]
        refine ⟨?_, ih hsh.2⟩
        have h1 := hsh.1
        cases c <;> dsimp only at h1 ⊢
        · exact reps_getD bv (by have := of_decide_eq_true h1; omega)
        · exact reps_getD bz (by have := of_decide_eq_true h1; omega)
        · exact dvS_rep.1 (of_decide_eq_true h1)
        · exact dvS_rep.2.1 _ (of_decide_eq_true h1)
        · exact dvS_rep.2.2 _ (of_decide_eq_true h1)
/-! ### a def of the table -/
structure DJ where
  di : DI
  params : Arguments
  dfl : List He.Dv := []
  kwd : List (Str × He.Dv) := []
  shp : List (Nat × List Str × List Src) := []
def DJ.defD (j : DJ) : He.DefD := ⟨(j.di.name, none), j.di.name, j.di.name, j.params, j.di.body, j.di.scope, j.dfl, j.kwd⟩
/-- its calls bind as they are said to -/
def DJ.binds (j : DJ) (q : Nat × List Str × List Src) : Prop := ∀ (K : PySem.W.Frag) (f : Addr) (fd : FuncData), FunD K j.di.name j.di.name j.params j.di.body j.di.scope (j.defD.dvs K) (j.defD.kws K) f fd → BindG K fd j.di.ps q.1 q.2.1 q.2.2
theorem DJ.binds_plain {j : DJ} {q : Nat × List Str × List Src} (hd : j.dfl = []) (hsh : plainSh q.1 q.2.1.length q.2.2 = true) (hl : q.2.2.length = j.di.ps.length)
    (h : ∀ (kV doc pm : Value) (an : Option Addr) (cdv ct : Value) (us ws : List Value), us.length = q.1 → ws.length = q.2.1.length → bindArgs (PySem.W.fnOf j.di.name j.di.name j.params j.di.body j.di.scope .none kV doc pm an cdv ct) ⟨us, q.2.1.zip ws⟩ = pure (j.di.ps.zip (pickU .none q.2.2 us ws))) : j.binds q := fun K f fd F => by
  have e : j.defD.dvs K = [] := by unfold He.DefD.dvs DJ.defD; rw [hd]; rfl
  rw [e] at F
  exact bindG_plain F hsh hl h
theorem DJ.binds_kw {j : DJ} {q : Nat × List Str × List Src} (y : Str) (d : He.Dv) (hd : j.dfl = []) (hy : (y, d) ∈ j.kwd) (hsh : kwSh q.1 q.2.1.length d q.2.2 = true) (hl : q.2.2.length = j.di.ps.length)
    (h : ∀ (D : Addr) (doc pm : Value) (an : Option Addr) (cdv ct : Value) (us ws : List Value) (m : Value), us.length = q.1 → ws.length = q.2.1.length → KwChain D [(y, m)] (bindArgs (PySem.W.fnOf j.di.name j.di.name j.params j.di.body j.di.scope .none (.ref D) doc pm an cdv ct) ⟨us, q.2.1.zip ws⟩) (j.di.ps.zip (pickX .none m q.2.2 us ws))) : j.binds q := fun K f fd F => by
  have e : j.defD.dvs K = [] := by unfold He.DefD.dvs DJ.defD; rw [hd]; rfl
  rw [e] at F
  exact bindG_kw F (List.mem_map.mpr ⟨_, hy, rfl⟩) hsh hl h
def primF (ip it : Nat) : Nat → Option (List Dat → (Dat → Prop) → Prop) := fun f => if f = ip then some potW else if f = it then some takeW else none
def tbOf (js : List DJ) (cs : List (Str × Dat)) (fre : List Str) : Tb := ⟨js.map (·.di.name), cs.map (·.1), fre, js.map (·.shp)⟩
def gOf (cs : List (Str × Dat)) : Nat → Option Dat := fun i => (cs[i]?).map (·.2)
def faOf (js : List DJ) (lj : DJ) (fre : List Str) : List He.Fa := .glo lj.di.name :: js.map (fun j => .glo j.di.name) ++ fre.map .free
def fnOf (js : List DJ) (lj : DJ) : List He.DefD := lj.defD :: js.map DJ.defD
/-- what a law's table of defs must keep -/
structure TabOk (js : List DJ) (lj : DJ) (cs : List (Str × Dat)) (fre : List Str) (ip it : Nat) : Prop where
  pot : ∃ j, js[ip]? = some j ∧ j.di.ok (tb0 ["len", "abs", "int"]) = true ∧ j.di.N.length = 4 ∧ j.di.d.body = potS
  take : ∃ j, js[it]? = some j ∧ j.di.ok (tb0 []) = true ∧ j.di.N.length = 5 ∧ j.di.d.body = takeS
  free : (["len", "abs", "int"] : List Str).all (fun x => fre.contains x) = true
  ok : (js.mapIdx fun i j => decide (i = ip) || (decide (i = it) || j.di.ok (tbOf js cs fre))).all id = true
  binds : ∀ j ∈ js, ∀ q ∈ j.shp, j.binds q
  law : lj.di.ok (tbOf js cs fre) = true
  first : firstB lj.di.d.body = true
  dfl : lj.dfl = []
section
variable {P : Program} {w : World} {K : PySem.W.Frag} {mg : Str → Option Value} {js : List DJ} {lj : DJ} {cs : List (Str × Dat)} {fre : List Str} {ip it : Nat} {h : Heap}
theorem primF_mono (ip it : Nat) : ∀ f p, primF ip it f = some p → ∀ ds, Mono (p ds) := fun f p h ds => by
  unfold primF at h
  split at h
  · cases h; exact potW_mono ds
  · split at h
    · cases h; exact takeW_mono ds
    · cases h
theorem tab_facts (t : TabOk js lj cs fre ip it) (X : K.In h) (G : h.Ns mainGlobals mg) (c : SaysC cs (faOf js lj fre) (fnOf js lj) K) {fa : Addr} (hfa : mg lj.di.name = some (.ref fa)) (k : Nat) :
    ∃ fd : FuncData, (∃ kws, FunD K lj.di.name lj.di.name lj.params lj.di.body lj.di.scope [] kws fa fd) ∧ ∀ base : Heap, K.In base → base.Ns mainGlobals mg →
      FnG0 P w K mg base (k + 1) fa fd lj.di.ps (bigB ^ (k + 1)) (fun ds Q => execs (callW (js.map (·.di.d)) (gOf cs) (primF ip it) k) (gOf cs) lj.di.d.body (startD lj.di.d.nn ds) { nx := fun _ => Q .non, rt := fun _ => Q }) := by
  have hfre : ∀ x ∈ fre, mg x = none := fun x hx => He.free_ok X G (c.fact (f := .free x) (by unfold faOf; simp [hx]))
  have hglo : ∀ (i : Nat) (x : Str) (d : Dat), (tbOf js cs fre).gl[i]? = some x → gOf cs i = some d → ∃ u v, mg x = some u ∧ L2.RelV v u ∧ ∀ H, Rep K H v d := fun i x d hx hd => by
    unfold tbOf at hx
    unfold gOf at hd
    rw [List.getElem?_map] at hx
    cases hc : cs[i]? with
    | none => rw [hc] at hx; cases hx
    | some q =>
      rw [hc] at hx hd
      cases hx; cases hd
      exact constB_ok X G (c.const (List.mem_of_getElem? hc))
  have lookJ : ∀ {i : Nat} {j : DJ}, js[i]? = some j → mg j.di.name = some (.ref (He.ga K j.di.name)) ∧ ∃ fd, FunD K j.di.name j.di.name j.params j.di.body j.di.scope (j.defD.dvs K) (j.defD.kws K) (He.ga K j.di.name) fd := fun {i j} hj => by
    refine ⟨He.glo_ok X G (c.fact (f := .glo j.di.name) ?_), ?_⟩
    · unfold faOf
      have := List.mem_of_getElem? hj
      simp only [List.mem_cons, List.mem_append, List.mem_map]
      exact .inl (.inr ⟨j, this, rfl⟩)
    · obtain ⟨fd, F⟩ := c.def_ (i + 1) (d := j.defD) (by unfold fnOf; rw [List.getElem?_cons_succ, List.getElem?_map, hj]; rfl)
      exact ⟨fd, F⟩
  have told : ∀ (base : Heap) (f : Nat) (x : Str), (tbOf js cs fre).fns[f]? = some x → Told P w K mg base (tbOf js cs fre) (js.map (·.di.d)) (primF ip it) f x := fun base f x hx => by
    unfold tbOf at hx
    rw [List.getElem?_map] at hx
    cases hj : js[f]? with
    | none => rw [hj] at hx; cases hx
    | some j =>
      rw [hj] at hx
      cases hx
      obtain ⟨hm, fd, F⟩ := lookJ hj
      refine ⟨_, fd, j.di.ps, hm, F.kp, fun ss hss q hq => ?_, ?_⟩
      · unfold tbOf at hss
        rw [List.getElem?_map, hj] at hss
        cases hss
        exact t.binds j (List.mem_of_getElem? hj) q hq K _ fd F
      · by_cases h1 : f = ip
        · obtain ⟨j', e, o1, o2, o3⟩ := t.pot
          subst h1
          rw [hj] at e; cases e
          refine .inl ⟨potW, by unfold primF; rw [if_pos rfl], pot_fng F o1 (fun x hx => hfre x ?_) o2 o3⟩
          have := List.all_eq_true.mp t.free x hx
          simpa using this
        · by_cases h2 : f = it
          · obtain ⟨j', e, o1, o2, o3⟩ := t.take
            subst h2
            rw [hj] at e; cases e
            exact .inl ⟨takeW, by unfold primF; rw [if_neg h1, if_pos rfl], take_fng F o1 o2 o3⟩
          · refine .inr ⟨by unfold primF; rw [if_neg h1, if_neg h2], j.di, j.params, j.di.name, _, _, F, rfl, by rw [List.getElem?_map, hj]; rfl, ?_⟩
            have := List.all_eq_true.mp t.ok (decide (f = ip) || (decide (f = it) || j.di.ok (tbOf js cs fre))) (List.mem_of_getElem? (i := f) (by rw [List.getElem?_mapIdx, hj]; rfl))
            simpa [h1, h2] using this
  obtain ⟨fd, F⟩ := c.def_ 0 (d := lj.defD) (by unfold fnOf; rfl)
  have e1 : mg lj.di.name = some (.ref (He.ga K lj.di.name)) := He.glo_ok X G (c.fact (f := .glo lj.di.name) (by unfold faOf; simp))
  have e2 := hfa.symm.trans e1
  cases e2
  have e3 : lj.defD.dvs K = [] := by unfold He.DefD.dvs DJ.defD; rw [t.dfl]; rfl
  rw [e3] at F
  exact ⟨fd, ⟨_, F⟩, fun base _ _ => law_fn (primF_mono ip it) (told base) hfre hglo F t.law t.first k⟩
/-- the law's walk -/
theorem walk_tab {l : PySem.W.OpenLaw} {q : Program} {loose : List Str} {XP : (Str → Option Value) → Heap → Prop} {d : DefRec} {x : Str} (t : TabOk js lj cs fre ip it) (k : Nat) (n : Nat)
    (hm : l.most = some 63) (hdf : d.params.defaults = []) (hdn : d.name = lj.di.name) (hk : Nat.ble (k + 1) 60 = true) (hps : lj.di.ps = [x])
    (hb : ∀ (kV doc pm : Value) (an : Option Addr) (cdv ct : Value) (u : Value), bindArgs (PySem.W.fnOf lj.di.name lj.di.name lj.params lj.di.body lj.di.scope .none kV doc pm an cdv ct) ⟨[u], []⟩ = pure [(x, u)])
    (law : ∀ ns : List Int, ns.length ≤ 63 → execs (callW (js.map (·.di.d)) (gOf cs) (primF ip it) k) (gOf cs) lj.di.d.body (startD lj.di.d.nn [.scr ns]) { nx := fun _ => False, rt := fun _ d => d = .bl true }) :
    PySem.W.WalkO q loose XP (hookC n cs (faOf js lj fre) (fnOf js lj)).says l.row.toRowW d [] (fun f vs => PySem.call f vs) := by
  have hk' : k + 1 ≤ 60 := Nat.le_of_ble_eq_true hk
  refine walk_d (l := l) (n := 63) (k := k + 1) (c := bigB ^ (k + 1)) (x := x) hm (by decide) hdf ⟨rfl, ?_, ?_, rfl⟩ ?_ ?_
  · show 1 + PySem.claimMargin + 3 * (k + 1) + 5 < recursionLimit
    have : 1 + PySem.claimMargin + 3 * 60 + 5 < recursionLimit := by decide
    omega
  · show 4 + 16 * (k + 1) + 400 < cLine
    have : 4 + 16 * 60 + 400 < cLine := by decide
    omega
  · unfold bigB zMax
    rw [← Nat.pow_mul]
    exact Nat.pow_le_pow_right (by decide) (by omega)
  · intro w mg fa h Y G hmg0
    obtain ⟨K, KX, c⟩ := Y
    obtain ⟨fd, ⟨kws, F⟩, hF⟩ := tab_facts (P := l.prog) (w := w) t KX G c (fa := fa) (by rw [← hdn]; exact hmg0) k
    refine ⟨K, fd, _, KX, ?_, fun ns hl => ?_, fun base hb1 hb2 => by rw [← hps]; exact hF base hb1 hb2⟩
    · obtain ⟨oc, od, dV, kV, doc, pm, an, cdv, ct, osl, rfl, lk, hcd, hD, hK⟩ := F.ex
      rcases hD with ⟨_, rfl⟩ | ⟨e, _⟩
      · exact fun s u => .of_eq (hb kV doc pm an cdv ct u)
      · exact absurd rfl e
    · have q := law ns hl
      exact execs_mono (callW_mono (primF_mono ip it) k) _ _ { nx := fun _ => False, rt := fun _ d => d = .bl true } _ ⟨fun _ z => False.elim z, fun _ _ z => z, fun _ z => z, fun _ z => z⟩ q
end
end SF
namespace SF
theorem all_nil {α : Type} {p : α → Prop} : ∀ x ∈ ([] : List α), p x := fun _ h => nomatch h
theorem all_cons {α : Type} {p : α → Prop} {a : α} {l : List α} (h : p a) (t : ∀ x ∈ l, p x) : ∀ x ∈ a :: l, p x := fun x hx => by
  rcases List.mem_cons.mp hx with rfl | q
  · exact h
  · exact t x q
end SF

/-! L1: plain reading: rules for calls, walks, lists. -/
namespace SF
open PySem L2
/-! ### what a def of a table does -/
section
variable {T : List FDef} {G : Nat → Option Dat} {prim : Nat → Option (List Dat → (Dat → Prop) → Prop)}
def Sp (T : List FDef) (G : Nat → Option Dat) (prim : Nat → Option (List Dat → (Dat → Prop) → Prop)) (f c : Nat) (W : List Dat → (Dat → Prop) → Prop) : Prop := ∀ k, c ≤ k → ∀ ds Q, W ds Q → callW T G prim k f ds Q
def PM (prim : Nat → Option (List Dat → (Dat → Prop) → Prop)) : Prop := ∀ f p, prim f = some p → ∀ ds, Mono (p ds)
theorem Sp.of_def {f c : Nat} {d : FDef} {W : List Dat → (Dat → Prop) → Prop} (hT : T[f]? = some d) (hp : prim f = none) (h : ∀ k, c ≤ k → ∀ ds Q, W ds Q → ds.length = d.np ∧ execs (callW T G prim k) G d.body (startD d.nn ds) { nx := fun _ => Q .non, rt := fun _ => Q }) : Sp T G prim f (c + 1) W := fun k hk ds Q hW => by
  cases k with
  | zero => omega
  | succ k =>
    rw [callW, hp, hT]
    exact h k (by omega) ds Q hW
theorem Sp.of_prim {f : Nat} {p : List Dat → (Dat → Prop) → Prop} (hp : prim f = some p) : Sp T G prim f 1 p := fun k hk ds Q hW => by
  cases k with
  | zero => omega
  | succ k =>
    rw [callW, hp]
    exact hW
theorem Sp.mono {f c c' : Nat} {W : List Dat → (Dat → Prop) → Prop} (h : Sp T G prim f c W) (le : c ≤ c') : Sp T G prim f c' W := fun k hk => h k (by omega)
theorem Sp.weak {f c : Nat} {W W' : List Dat → (Dat → Prop) → Prop} (h : Sp T G prim f c W) (w : ∀ ds Q, W' ds Q → W ds Q) : Sp T G prim f c W' := fun k hk ds Q q => h k hk ds Q (w ds Q q)
end
/-! ### walks -/
theorem forW_rule {p : P} {b : Env → Post → Prop} (hb : ∀ δ D D', D.Le D' → b δ D → b δ D') {D : Post} (I : List Dat → Env → Prop) : ∀ (ds pre : List Dat) (δ : Env), I pre δ →
    (∀ pre' d post δ', pre' ++ d :: post = pre ++ ds → I pre' δ' → bindP p d δ' fun δ2 => b δ2 { nx := I (pre' ++ [d]), ct := I (pre' ++ [d]), bk := D.nx, rt := D.rt }) → (∀ δ', I (pre ++ ds) δ' → D.nx δ') → forW p b ds δ D
  | [], pre, δ, h0, hs, he => by rw [forW]; exact he δ (by rw [List.append_nil]; exact h0)
  | d :: ds, pre, δ, h0, hs, he => by
    rw [forW]
    have rest : ∀ δ'', I (pre ++ [d]) δ'' → forW p b ds δ'' D := fun δ'' h1 => forW_rule hb I ds (pre ++ [d]) δ'' h1 (fun pre' d' post δ' e => hs pre' d' post δ' (by rw [e, List.append_assoc]; rfl)) fun δ' h2 => he δ' (by rw [List.append_assoc] at h2; exact h2)
    exact bindP_mono p d δ _ _ (fun δ2 => hb δ2 { nx := I (pre ++ [d]), ct := I (pre ++ [d]), bk := D.nx, rt := D.rt } _ ⟨rest, fun _ _ z => z, fun _ z => z, rest⟩) (hs pre d ds δ rfl h0)
theorem mem_mid {pre post ds : List Dat} {d : Dat} (e : pre ++ d :: post = [] ++ ds) : d ∈ ds := by
  have : d ∈ pre ++ d :: post := by simp
  rw [e] at this
  simpa using this
/-- the parts walked do not matter -/
theorem forW_each {p : P} {b : Env → Post → Prop} (hb : ∀ δ D D', D.Le D' → b δ D → b δ D') {D : Post} (I : Env → Prop) (ds : List Dat) (δ : Env) (h0 : I δ)
    (hs : ∀ d ∈ ds, ∀ δ', I δ' → bindP p d δ' fun δ2 => b δ2 { nx := I, ct := I, bk := D.nx, rt := D.rt }) (he : ∀ δ', I δ' → D.nx δ') : forW p b ds δ D :=
  forW_rule hb (fun _ => I) ds [] δ h0 (fun pre' d post δ' e h => hs d (mem_mid e) δ' h) he
inductive F2 {α β : Type} (R : α → β → Prop) : List α → List β → Prop where
  | nil : F2 R [] []
  | cons {a b as bs} : R a b → F2 R as bs → F2 R (a :: as) (b :: bs)
theorem F2.length {α β : Type} {R : α → β → Prop} {as : List α} {bs : List β} (h : F2 R as bs) : as.length = bs.length := by
  induction h with
  | nil => rfl
  | cons _ _ ih => simp [ih]
theorem F2.imp {α β : Type} {R S : α → β → Prop} (k : ∀ a b, R a b → S a b) {as : List α} {bs : List β} (h : F2 R as bs) : F2 S as bs := by
  induction h with
  | nil => exact .nil
  | cons h1 _ ih => exact .cons (k _ _ h1) ih
theorem F2.right {α β : Type} {R : α → β → Prop} {P : β → Prop} (k : ∀ a b, R a b → P b) {as : List α} {bs : List β} (h : F2 R as bs) : ∀ b ∈ bs, P b := by
  induction h with
  | nil => intro b hb; cases hb
  | cons h1 _ ih =>
    intro b hb
    rcases List.mem_cons.mp hb with rfl | q
    · exact k _ _ h1
    · exact ih b q
/-- values of a kind, from what is told of each -/
theorem F2.pull {α β γ : Type} {R : α → β → Prop} {S : α → γ → Prop} (g : γ → β) (k : ∀ a b, R a b → ∃ c, b = g c ∧ S a c) {as : List α} {bs : List β} (h : F2 R as bs) : ∃ cs : List γ, bs = cs.map g ∧ F2 S as cs := by
  induction h with
  | nil => exact ⟨[], rfl, .nil⟩
  | cons h1 _ ih =>
    obtain ⟨c, rfl, h2⟩ := k _ _ h1
    obtain ⟨cs, rfl, h3⟩ := ih
    exact ⟨c :: cs, rfl, .cons h2 h3⟩
theorem F2.map_left {α β γ : Type} {R : γ → β → Prop} (g : α → γ) {as : List α} {bs : List β} : F2 R (as.map g) bs ↔ F2 (fun a => R (g a)) as bs := by
  constructor
  · intro h
    generalize e : as.map g = cs at h
    induction h generalizing as with
    | nil => cases as with | nil => exact .nil | cons _ _ => cases e
    | cons h1 _ ih => cases as with
      | nil => cases e
      | cons a as => cases e; exact .cons h1 (ih rfl)
  · intro h
    induction h with
    | nil => exact .nil
    | cons h1 _ ih => exact .cons h1 ih
theorem F2.all {α β : Type} {P : β → Prop} {as : List α} {bs : List β} (h : F2 (fun _ b => P b) as bs) : ∀ b ∈ bs, P b := h.right (P := P) fun _ _ q => q
/-- .. with every draw -/
theorem mapW_all {α : Type} {f : α → (Option Dat → Prop) → Prop} (R : α → Dat → Prop) : ∀ (l : List α) (Q : List Dat → Prop), (∀ x ∈ l, ∀ Q' : Option Dat → Prop, (∀ y, R x y → Q' (some y)) → f x Q') → (∀ ys, F2 R l ys → Q ys) → mapW f l Q
  | [], Q, hf, h => by rw [mapW]; exact h [] .nil
  | x :: xs, Q, hf, h => by
    rw [mapW]
    refine hf x (by simp) _ fun y hy => mapW_all R xs _ (fun z hz => hf z (by simp [hz])) fun ys hys => h _ (.cons hy hys)
/-- .. each value alone -/
theorem mapW_det {α : Type} {f : α → (Option Dat → Prop) → Prop} (h : α → Option Dat) : ∀ (l : List α) (Q : List Dat → Prop), (∀ x ∈ l, ∀ Q' : Option Dat → Prop, Q' (h x) → f x Q') → Q (l.filterMap h) → mapW f l Q
  | [], Q, hf, q => by rw [mapW]; exact q
  | x :: xs, Q, hf, q => by
    rw [mapW]
    refine hf x (by simp) _ (mapW_det h xs _ (fun z hz => hf z (by simp [hz])) ?_)
    rw [List.filterMap_cons] at q
    cases e : h x with
    | none => rw [e] at q; exact q
    | some y => rw [e] at q; exact q
theorem mapW_map {α : Type} {f : α → (Option Dat → Prop) → Prop} (h : α → Dat) (l : List α) (Q : List Dat → Prop) (hf : ∀ x ∈ l, ∀ Q' : Option Dat → Prop, Q' (some (h x)) → f x Q') (q : Q (l.map h)) : mapW f l Q :=
  mapW_det (fun x => some (h x)) l Q hf (by rw [List.filterMap_eq_map']; exact q)
/-! ### slices, cells -/
theorem cut_to {α : Type} (s : List α) (n : Nat) : cut s none (some (n : Int)) = s.take n := by
  unfold cut
  rw [HT.sIx_none, HT.sIx_nat, List.drop_zero, Nat.sub_zero]
  by_cases h : n ≤ s.length
  · rw [Nat.min_eq_left h]
  · rw [Nat.min_eq_right (by omega), List.take_length, List.take_of_length_le (by omega)]
theorem cut_from {α : Type} (s : List α) (n : Nat) : cut s (some (n : Int)) none = s.drop n := by
  unfold cut
  rw [HT.sIx_none, HT.sIx_nat]
  by_cases h : n ≤ s.length
  · rw [Nat.min_eq_left h, List.take_of_length_le (by simp)]
  · rw [Nat.min_eq_right (by omega), Nat.sub_self, List.take_zero, List.drop_of_length_le (by omega)]
theorem at_nat {α : Type} (l : List α) (n : Nat) (h : n < l.length) : atI l (n : Int) = some l[n] := by
  unfold atI ixN
  rw [if_pos (by omega), if_pos (by omega), Int.toNat_natCast]
  simp [h]
theorem atD_nat {l : List Dat} {n : Nat} {d : Dat} (h : l[n]? = some d) : atD l (n : Int) = some d := by
  obtain ⟨h1, h2⟩ := List.getElem?_eq_some_iff.mp h
  unfold atD
  rw [at_nat l n h1, h2]
theorem atD_int {l : List Dat} {i : Int} (h0 : 0 ≤ i) (h1 : i < l.length) : ∃ d ∈ l, atD l i = some d := by
  obtain ⟨n, rfl⟩ := Int.eq_ofNat_of_zero_le h0
  exact ⟨l[n], List.getElem_mem _, atD_nat (List.getElem?_eq_getElem (by omega))⟩
/-! ### names -/
abbrev Nm := List Nat
def tS (l : List Nm) : Dat := .tup (l.map .str)
def tI (l : List Int) : Dat := .tup (l.map .int)
theorem okd_str (n : Nat) (s : Nm) : okd n (.str s) := by cases n <;> trivial
theorem okd_int (n : Nat) (i : Int) : okd n (.int i) := by cases n <;> trivial
theorem okd_strs {n : Nat} {l : List Nm} : ∀ z ∈ l.map Dat.str, okd n z := fun z hz => by
  obtain ⟨s, _, rfl⟩ := List.mem_map.mp hz
  exact okd_str n s
theorem okd_ints {n : Nat} {l : List Int} : ∀ z ∈ l.map Dat.int, okd n z := fun z hz => by
  obtain ⟨s, _, rfl⟩ := List.mem_map.mp hz
  exact okd_int n s
/-- a name's place -/
def plc (names : List Nm) (c : Nm) : Nat := names.findIdx fun z => z == c
theorem plc_lt {names : List Nm} {c : Nm} (h : c ∈ names) : plc names c < names.length := List.findIdx_lt_length_of_exists ⟨c, h, by simp⟩
theorem findIdx_str (names : List Nm) (c : Nm) : (names.map Dat.str).findIdx (fun z => eqD z (.str c)) = plc names c := by
  unfold plc
  rw [List.findIdx_map]
  congr 1
theorem any_str {names : List Nm} {c : Nm} (h : c ∈ names) : (names.map Dat.str).any (fun z => eqD z (.str c)) = true := by
  rw [List.any_eq_true]
  exact ⟨.str c, List.mem_map.mpr ⟨c, h, rfl⟩, by simp [eqD]⟩
theorem index_names {names : List Nm} {c : Nm} (h : c ∈ names) {Q : Dat → Prop} (q : Q (.int (plc names c))) : indexW (tS names) [.str c] Q := by
  unfold indexW tS
  exact ⟨okd_str 60 c, okd_strs, any_str h, by rw [findIdx_str]; exact q⟩
/-- an item's column -/
def fall (s : Nm) : Bool := s.take 1 == [45]
def colOf (s : Nm) : Nm := if fall s then s.drop 1 else s
def flip1 (s : Nm) : Nm := if fall s then s.drop 1 else 45 :: s
def sgn (i j : Int) : Int := (if j < i then 1 else 0) - (if i < j then 1 else 0)
theorem sgn_neg (i j : Int) : sgn j i = 0 - sgn i j := by unfold sgn; split <;> split <;> omega
theorem sgn_ne {i j : Int} (h : i ≠ j) : sgn i j ≠ 0 := by unfold sgn; split <;> split <;> omega
theorem ltD_int (i j : Int) : ltD (.int i) (.int j) = decide (i < j) := by rw [ltD]
theorem b_int (b : Bool) : (if b = true then (1 : Int) else 0) = if b then 1 else 0 := rfl
section
variable {T : List FDef} {G : Nat → Option Dat} {prim : Nat → Option (List Dat → (Dat → Prop) → Prop)}
/-- is_falling(item) -/
def D_is_falling (g_FALLING : Nat) : FDef := ⟨1, 1, [
    .ret (.cmp .eq (.slc (.var 0) .non (.int 1)) (.glob g_FALLING))]⟩
/-- column_of(item) -/
def D_column_of (f_is_falling : Nat) : FDef := ⟨1, 1, [
    .ret (.ite (.call f_is_falling [.var 0] [] [.p 0]) (.slc (.var 0) (.int 1) .non) (.var 0))]⟩
/-- flipped(items, item) -/
def D_flipped (f_column_of f_is_falling g_FALLING : Nat) : FDef := ⟨1, 2, [
    .ret (.bi .tuple [.comp [1] (.v 1) (.var 0) (.bl true) (.ite (.call f_is_falling [.var 1] [] [.p 0]) (.call f_column_of [.var 1] [] [.p 0]) (.op2 .add (.glob g_FALLING) (.var 1)))])]⟩
/-- order_of(number, other) -/
def D_order_of : FDef := ⟨2, 2, [
    .ret (.op2 .sub (.bi .int [.cmp .gt (.var 0) (.var 1)]) (.bi .int [.cmp .lt (.var 0) (.var 1)]))]⟩
/-- compare(columns, one, other, items, item, place, found) -/
def D_compare (f_column_of f_is_falling f_order_of : Nat) : FDef := ⟨4, 7, [
    .for (.v 4) (.var 3) [.set 5 (.me .index (.var 0) [.call f_column_of [.var 4] [] [.p 0]]), .ite (.cmp .ne (.idx (.var 1) (.var 5)) (.idx (.var 2) (.var 5))) [.set 6 (.call f_order_of [.idx (.var 1) (.var 5), .idx (.var 2) (.var 5)] [] [.p 0, .p 1]), .ret (.ite (.call f_is_falling [.var 4] [] [.p 0]) (.op2 .sub (.int 0) (.var 6)) (.var 6))] []],
    .ret (.int 0)]⟩
def W_is_falling (ds : List Dat) (Q : Dat → Prop) : Prop := ∃ s, ds = [.str s] ∧ Q (.bl (fall s))
theorem sp_is_falling {f g : Nat} (hT : T[f]? = some (D_is_falling g)) (hp : prim f = none) (hg : G g = some (.str [45])) : Sp T G prim f 1 W_is_falling :=
  .of_def hT hp fun k hk ds Q ⟨s, e, q⟩ => by
    subst e
    refine ⟨rfl, ?_⟩
    unfold D_is_falling startD
    simp only [execs, exec, ev, evs, getV, getO, List.getElem?_cons_zero, List.getElem?_cons_succ, List.set_cons_zero, List.set_cons_succ, biW, lenW, allW, tupleW, listW, intW, maxW, minW, absW, meW, cmpW, ordW, op2W, negW, boolW, idxW, sliceW, bindP, bindPs, List.map, pickD, List.getD_cons_zero, List.getD_cons_succ, okd, isNum, alikeD, wipeD, iterD, rangeW, range2W, isiOk, isiD, isBox, meOk, setPar, List.reverse_cons, List.reverse_nil, List.nil_append, List.cons_append, List.zip_cons_cons, List.zip_nil_right, List.all_cons, List.all_nil, Bool.not_false, Bool.not_true, Bool.true_or, Bool.false_or, Bool.and_true, true_and, and_true, isNon, hg]
    rw [show ((1 : Int)) = ((1 : Nat) : Int) from rfl, cut_to]
    rw [eqD]
    exact q
def W_column_of (ds : List Dat) (Q : Dat → Prop) : Prop := ∃ s, ds = [.str s] ∧ Q (.str (colOf s))
theorem sp_column_of {f f1 : Nat} (hT : T[f]? = some (D_column_of f1)) (hp : prim f = none) (h1 : Sp T G prim f1 1 W_is_falling) : Sp T G prim f 2 W_column_of :=
  .of_def hT hp fun k hk ds Q ⟨s, e, q⟩ => by
    subst e
    refine ⟨rfl, ?_⟩
    unfold D_column_of startD
    simp only [execs, exec, ev, evs, getV, getO, List.getElem?_cons_zero, List.getElem?_cons_succ, List.set_cons_zero, List.set_cons_succ, biW, lenW, allW, tupleW, listW, intW, maxW, minW, absW, meW, cmpW, ordW, op2W, negW, boolW, idxW, sliceW, bindP, bindPs, List.map, pickD, List.getD_cons_zero, List.getD_cons_succ, okd, isNum, alikeD, wipeD, iterD, rangeW, range2W, isiOk, isiD, isBox, meOk, setPar, List.reverse_cons, List.reverse_nil, List.nil_append, List.cons_append, List.zip_cons_cons, List.zip_nil_right, List.all_cons, List.all_nil, Bool.not_false, Bool.not_true, Bool.true_or, Bool.false_or, Bool.and_true, true_and, and_true, isNon]
    refine h1 k hk _ _ ⟨s, rfl, ?_⟩
    simp only [boolW]
    unfold colOf at q
    cases h : fall s with
    | true =>
      rw [h, if_pos rfl] at q
      rw [if_pos rfl, show ((1 : Int)) = ((1 : Nat) : Int) from rfl, cut_from]
      exact q
    | false =>
      rw [h] at q
      exact q
def W_flipped (ds : List Dat) (Q : Dat → Prop) : Prop := ∃ l : List Nm, ds = [tS l] ∧ (∀ s ∈ l, s.length + 1 ≤ big) ∧ Q (tS (l.map flip1))
theorem sp_flipped {f f1 f2 g : Nat} (hT : T[f]? = some (D_flipped f2 f1 g)) (hp : prim f = none) (hg : G g = some (.str [45])) (h1 : Sp T G prim f1 1 W_is_falling) (h2 : Sp T G prim f2 2 W_column_of) : Sp T G prim f 3 W_flipped :=
  .of_def hT hp fun k hk ds Q ⟨l, e, hl, q⟩ => by
    subst e
    refine ⟨rfl, ?_⟩
    unfold D_flipped startD
    simp only [execs, exec, ev, evs, getV, getO, List.getElem?_cons_zero, List.getElem?_cons_succ, List.set_cons_zero, List.set_cons_succ, biW, lenW, allW, tupleW, listW, intW, maxW, minW, absW, meW, cmpW, ordW, op2W, negW, boolW, idxW, sliceW, bindP, bindPs, List.map, pickD, List.getD_cons_zero, List.getD_cons_succ, okd, isNum, alikeD, wipeD, iterD, rangeW, range2W, isiOk, isiD, isBox, meOk, setPar, List.reverse_cons, List.reverse_nil, List.nil_append, List.cons_append, List.zip_cons_cons, List.zip_nil_right, List.all_cons, List.all_nil, Bool.not_false, Bool.not_true, Bool.true_or, Bool.false_or, Bool.and_true, true_and, and_true, isNon, tS, hg]
    refine ⟨_, rfl, mapW_map (fun d => match d with | .str s => .str (flip1 s) | d => d) _ _ (fun x hx Q' q' => ?_) ?_⟩
    · obtain ⟨s, hs, rfl⟩ := List.mem_map.mp hx
      simp only [List.length_cons, List.length_nil, List.replicate, List.getElem?_cons_zero, List.getElem?_cons_succ, List.set_cons_zero, List.set_cons_succ, List.nil_append, List.cons_append, if_true]
      refine h1 k (by omega) _ _ ⟨s, rfl, ?_⟩
      dsimp only at q'
      unfold flip1 at q'
      simp only [boolW]
      cases h : fall s with
      | true =>
        rw [h, if_pos rfl] at q'
        rw [if_pos rfl]
        refine h2 k (by omega) _ _ ⟨s, rfl, ?_⟩
        unfold colOf
        rw [h, if_pos rfl]
        exact q'
      | false =>
        rw [h] at q'
        rw [if_neg Bool.false_ne_true]
        have := hl s hs
        exact ⟨by show 1 + s.length ≤ big; omega, q'⟩
    · have e : (l.map Dat.str).map (fun d => match d with | .str s => .str (flip1 s) | d => d) = (l.map flip1).map Dat.str := by
        rw [List.map_map, List.map_map]; rfl
      rw [e]
      exact q
def W_order_of (ds : List Dat) (Q : Dat → Prop) : Prop := ∃ i j : Int, ds = [.int i, .int j] ∧ Q (.int (sgn i j))
theorem sp_order_of {f : Nat} (hT : T[f]? = some D_order_of) (hp : prim f = none) : Sp T G prim f 1 W_order_of :=
  .of_def hT hp fun k hk ds Q ⟨i, j, e, q⟩ => by
    subst e
    refine ⟨rfl, ?_⟩
    unfold D_order_of startD
    simp only [execs, exec, ev, evs, getV, getO, List.getElem?_cons_zero, List.getElem?_cons_succ, List.set_cons_zero, List.set_cons_succ, biW, lenW, allW, tupleW, listW, intW, maxW, minW, absW, meW, cmpW, ordW, op2W, negW, boolW, idxW, sliceW, bindP, bindPs, List.map, pickD, List.getD_cons_zero, List.getD_cons_succ, okd, isNum, alikeD, wipeD, iterD, rangeW, range2W, isiOk, isiD, isBox, meOk, setPar, List.reverse_cons, List.reverse_nil, List.nil_append, List.cons_append, List.zip_cons_cons, List.zip_nil_right, List.all_cons, List.all_nil, Bool.not_false, Bool.not_true, Bool.true_or, Bool.false_or, Bool.and_true, true_and, and_true, isNon]
    rw [ltD_int, ltD_int]
    unfold sgn at q
    simpa using q
/-- two rows compared by a list -/
def cmpI (names : List Nm) (one other : List Int) : List Nm → Int
  | [] => 0
  | s :: r => if one.getD (plc names (colOf s)) 0 = other.getD (plc names (colOf s)) 0 then cmpI names one other r
    else if fall s then 0 - sgn (one.getD (plc names (colOf s)) 0) (other.getD (plc names (colOf s)) 0) else sgn (one.getD (plc names (colOf s)) 0) (other.getD (plc names (colOf s)) 0)
def W_compare (ds : List Dat) (Q : Dat → Prop) : Prop := ∃ (names : List Nm) (one other : List Int) (items : List Nm), ds = [tS names, tI one, tI other, tS items] ∧ one.length = names.length ∧ other.length = names.length ∧ (∀ s ∈ items, colOf s ∈ names) ∧ Q (.int (cmpI names one other items))
theorem getD_at {l : List Int} {n : Nat} (h : n < l.length) : atD (l.map Dat.int) (n : Int) = some (.int (l.getD n 0)) := by
  refine atD_nat ?_
  rw [List.getElem?_map, List.getElem?_eq_getElem h, List.getD_eq_getElem?_getD, List.getElem?_eq_getElem h]
  rfl
theorem sp_compare {f f1 f2 f3 : Nat} (hpm : PM prim) (hT : T[f]? = some (D_compare f2 f1 f3)) (hp : prim f = none) (h1 : Sp T G prim f1 1 W_is_falling) (h2 : Sp T G prim f2 2 W_column_of) (h3 : Sp T G prim f3 1 W_order_of) : Sp T G prim f 3 W_compare :=
  .of_def hT hp fun k hk ds Q ⟨names, one, other, items, e, l1, l2, hi, q⟩ => by
    subst e
    refine ⟨rfl, ?_⟩
    unfold D_compare
    rw [show startD 7 [tS names, tI one, tI other, tS items] = [.val (tS names), .val (tI one), .val (tI other), .val (tS items), .no, .no, .no] from rfl]
    rw [execs, exec]
    simp only [ev, getV, List.getElem?_cons_zero, List.getElem?_cons_succ]
    refine ⟨_, rfl, ?_⟩
    refine forW_rule (fun δ D D' h => execs_mono (callW_mono hpm k) _ δ D D' h) (fun pre δ => ∃ (s4 s5 s6 : Slot) (r : List Nm), δ = [.val (tS names), .val (tI one), .val (tI other), .val (tS items), s4, s5, s6] ∧ pre ++ r.map Dat.str = items.map Dat.str ∧ cmpI names one other r = cmpI names one other items ∧ ∀ s ∈ r, s ∈ items) _ [] _ ⟨_, _, _, items, rfl, rfl, rfl, fun _ h => h⟩ ?_ ?_
    · intro pre d post δ' e ⟨s4, s5, s6, r, e1, e2, e3, e4⟩
      subst e1
      rw [List.nil_append] at e
      rw [← e, List.append_cancel_left_eq] at e2
      cases r with
      | nil => cases e2
      | cons s r =>
        rw [List.map_cons] at e2
        injection e2 with e5 e6
        subst e5 e6
        have hc := hi s (e4 s (by simp))
        have lt := plc_lt hc
        have e7 : (pre ++ [Dat.str s]) ++ r.map Dat.str = items.map Dat.str := by rw [← e, List.append_assoc]; rfl
        rw [bindP]
        simp only [List.set_cons_zero, List.set_cons_succ]
        rw [execs, exec]
        simp only [ev, evs, getV, List.getElem?_cons_zero, List.getElem?_cons_succ]
        refine ⟨rfl, ?_⟩
        simp only [pickD, List.map, List.getD_cons_zero]
        refine h2 k (by omega) _ _ ⟨s, rfl, ?_⟩
        simp only [meW]
        refine index_names hc ?_
        simp only [List.set_cons_zero, List.set_cons_succ]
        rw [execs, exec]
        simp only [ev, getV, List.getElem?_cons_zero, List.getElem?_cons_succ, idxW, tI]
        refine ⟨_, getD_at (by omega), _, getD_at (by omega), ?_⟩
        simp only [cmpW, okd, true_and, boolW]
        rw [cmpI] at e3
        by_cases hd : one.getD (plc names (colOf s)) 0 = other.getD (plc names (colOf s)) 0
        · rw [if_pos hd] at e3
          rw [if_neg (by rw [eqD, hd, beq_self_eq_true]; decide), execs]
          dsimp only
          rw [execs]
          exact ⟨_, _, _, r, rfl, e7, e3, fun t ht => e4 t (by simp [ht])⟩
        · rw [if_neg hd] at e3
          rw [if_pos (by rw [eqD, beq_eq_false_iff_ne.mpr hd]; rfl)]
          rw [execs, exec]
          simp only [ev, evs, getV, List.getElem?_cons_zero, List.getElem?_cons_succ, idxW]
          refine ⟨_, getD_at (by omega), _, getD_at (by omega), ?_⟩
          simp only [pickD, List.map, List.getD_cons_zero, List.getD_cons_succ]
          refine h3 k (by omega) _ _ ⟨_, _, rfl, ?_⟩
          simp only [List.set_cons_zero, List.set_cons_succ]
          rw [execs, exec]
          simp only [ev, evs, getV, List.getElem?_cons_zero, List.getElem?_cons_succ, pickD, List.map, List.getD_cons_zero]
          refine h1 k (by omega) _ _ ⟨s, rfl, ?_⟩
          simp only [boolW, op2W]
          rw [← e3] at q
          cases hf : fall s with
          | true => rw [hf] at q; exact q
          | false => rw [hf] at q; exact q
    · intro δ' ⟨s4, s5, s6, r, e1, e2, e3, e4⟩
      subst e1
      rw [List.nil_append] at e2
      have : r = [] := by
        have := congrArg List.length e2
        simp at this
        exact this
      subst this
      dsimp only
      rw [execs, exec]
      simp only [ev]
      rw [← e3] at q
      exact q
end
end SF

/-! L2: what a law draws: numbers, items, names, lists. -/
namespace SF
open PySem L2
theorem lt8000 {b : Int} (h0 : 0 ≤ b) (h : b ≤ 2 ^ 200) : b.natAbs < 2 ^ 8000 := by
  have h1 : (2 : Nat) ^ 201 ≤ 2 ^ 8000 := Nat.pow_le_pow_right (by decide) (by decide)
  have h2 : (2 : Nat) ^ 201 = 3213876088517980551083924184682325205044405987565585670602752 := by decide
  have h3 : (2 : Int) ^ 200 = 1606938044258990275541962092341162602522202993782792835301376 := by decide
  omega
theorem lt8k {b : Int} (h0 : 0 ≤ b) (h : b ≤ 100000000) : b.natAbs < 2 ^ 8000 := lt8000 h0 (Int.le_trans h (by decide))
theorem big_200 {n : Nat} (h : n ≤ big) : (n : Int) ≤ 2 ^ 200 := by
  have h3 : (2 : Int) ^ 200 = 1606938044258990275541962092341162602522202993782792835301376 := by decide
  have : big = 16777216 := rfl
  omega
/-- f draws one of these -/
def W_of (ds : List Dat) (Q : Dat → Prop) : Prop := ∃ x l, ds = [.pot, x] ∧ iterD x = some l ∧ l ≠ [] ∧ l.length ≤ big ∧ ∀ d ∈ l, Q d
/-! ### texts in order -/
def leS (a b : Nm) : Bool := !ltS b a
theorem ltS_irrefl : ∀ a : Nm, ltS a a = false
  | [] => by rw [ltS]
  | a :: l => by rw [ltS]; simp [ltS_irrefl l]
theorem ltS_trans : ∀ a b c : Nm, ltS a b = true → ltS b c = true → ltS a c = true
  | [], [], _, h, _ => by simp [ltS] at h
  | [], _ :: _, [], _, h => by simp [ltS] at h
  | [], _ :: _, _ :: _, _, _ => by simp [ltS]
  | _ :: _, [], _, h, _ => by simp [ltS] at h
  | _ :: _, _ :: _, [], _, h => by simp [ltS] at h
  | a :: as, b :: bs, c :: cs, h1, h2 => by
    rw [ltS] at h1 h2 ⊢
    by_cases e1 : a < b
    · by_cases e2 : b < c
      · rw [if_pos (by omega)]
      · rw [if_neg e2] at h2
        by_cases e3 : b = c
        · subst e3; rw [if_pos e1]
        · rw [if_neg e3] at h2; cases h2
    · rw [if_neg e1] at h1
      by_cases e3 : a = b
      · subst e3
        rw [if_pos rfl] at h1
        by_cases e2 : a < c
        · rw [if_pos e2]
        · rw [if_neg e2] at h2 ⊢
          by_cases e4 : a = c
          · subst e4
            rw [if_pos rfl] at h2 ⊢
            exact ltS_trans as bs cs h1 h2
          · rw [if_neg e4] at h2; cases h2
      · rw [if_neg e3] at h1; cases h1
theorem ltS_tri : ∀ a b : Nm, ltS a b = true ∨ a = b ∨ ltS b a = true
  | [], [] => .inr (.inl rfl)
  | [], _ :: _ => .inl (by rw [ltS])
  | _ :: _, [] => .inr (.inr (by rw [ltS]))
  | a :: as, b :: bs => by
    rw [ltS, ltS]
    by_cases e1 : a < b
    · exact .inl (by rw [if_pos e1])
    · by_cases e2 : b < a
      · exact .inr (.inr (by rw [if_pos e2]))
      · have : a = b := by omega
        subst this
        rw [if_neg e1, if_pos rfl, if_neg e1, if_pos rfl]
        rcases ltS_tri as bs with h | h | h
        · exact .inl h
        · exact .inr (.inl (by rw [h]))
        · exact .inr (.inr h)
theorem ltS_asymm {a b : Nm} (h : ltS a b = true) : ltS b a = false := by
  cases q : ltS b a with
  | false => rfl
  | true => have := ltS_trans a b a h q; rw [ltS_irrefl] at this; cases this
theorem leS_total (a b : Nm) : (leS a b || leS b a) = true := by
  unfold leS
  rcases ltS_tri a b with h | h | h
  · rw [ltS_asymm h]; rfl
  · subst h; rw [ltS_irrefl]; rfl
  · rw [ltS_asymm h]; simp
theorem leS_trans (a b c : Nm) (h1 : leS a b = true) (h2 : leS b c = true) : leS a c = true := by
  unfold leS at *
  rw [Bool.not_eq_true'] at *
  cases q : ltS c a with
  | false => rfl
  | true =>
    rcases ltS_tri a b with h | h | h
    · have := ltS_trans _ _ _ q h; rw [this] at h2; cases h2
    · subst h; rw [q] at h2; cases h2
    · rw [h] at h1; cases h1
/-- ascending: each before the next ones -/
def Asc (l : List Nm) : Prop := l.Pairwise fun a b => ltS a b = true
theorem sort_strs (l : List Nm) : sortD (l.map .str) = (l.mergeSort leS).map Dat.str := by
  unfold sortD
  rw [List.map_mergeSort (r := leS) (s := fun x y => !ltD y x)]
  intro a _ b _
  unfold leS
  rw [ltD]
theorem asc_sort {l : List Nm} (h : l.Nodup) : Asc (l.mergeSort leS) := by
  have h1 := List.pairwise_mergeSort leS_trans leS_total l
  have h2 : (l.mergeSort leS).Nodup := (List.mergeSort_perm l leS).nodup_iff.mpr h
  unfold Asc
  have h3 := h1.and h2
  refine h3.imp fun {a b} ⟨p, q⟩ => ?_
  unfold leS at p
  rw [Bool.not_eq_true'] at p
  rcases ltS_tri a b with h | h | h
  · exact h
  · exact absurd h q
  · rw [h] at p; cases p
theorem alike_strs (l : List Nm) : alikeAll (l.map Dat.str) := fun x hx y hy => by
  obtain ⟨a, _, rfl⟩ := List.mem_map.mp hx
  obtain ⟨b, _, rfl⟩ := List.mem_map.mp hy
  rw [alikeD]
theorem ok_strs (l : List Nm) : ∀ z ∈ l.map Dat.str, okd 60 z ∧ noEmpty z = true := fun z hz => by
  obtain ⟨s, _, rfl⟩ := List.mem_map.mp hz
  exact ⟨okd_str 60 s, rfl⟩
/-! ### column names -/
def Letters (s : Nm) : Prop := ∀ c ∈ s, 97 ≤ c ∧ c ≤ 122
structure NameOk (s : Nm) : Prop where
  lo : 1 ≤ s.length
  hi : s.length ≤ 8
  let_ : Letters s
structure NamesOk (n : Nat) (names : List Nm) : Prop where
  len : names.length = n
  each : ∀ s ∈ names, NameOk s
  asc : Asc names
def abc : Nm := [97, 98, 99, 100, 101, 102, 103, 104, 105, 106, 107, 108, 109, 110, 111, 112, 113, 114, 115, 116, 117, 118, 119, 120, 121, 122]
theorem abc_at {i : Nat} (h : i < 26) : abc[i]? = some (97 + i) := by
  have : ∀ i : Fin 26, abc[i.val]? = some (97 + i.val) := by decide
  exact this ⟨i, h⟩
theorem abc_mem {c : Nat} (h : c ∈ abc) : 97 ≤ c ∧ c ≤ 122 := by
  have : ∀ c ∈ abc, 97 ≤ c ∧ c ≤ 122 := by decide
  exact this c h
/-- the t-th name ahead of sorting -/
def nameAt (stem : Nm) (c : Nat) (a leap : Int) (t : Nat) : Nm := stem.take c ++ [97 + ((a + leap * t) % 26).toNat] ++ stem.drop c
theorem nameAt_inj {stem : Nm} {c : Nat} {a leap : Int} (hl : leap = 1 ∨ leap = 3 ∨ leap = 5 ∨ leap = 7 ∨ leap = 9 ∨ leap = 11) {t u : Nat} (ht : t < 26) (hu : u < 26) (h : nameAt stem c a leap t = nameAt stem c a leap u) : t = u := by
  unfold nameAt at h
  rw [List.append_cancel_right_eq, List.append_cancel_left_eq] at h
  have e : 97 + ((a + leap * t) % 26).toNat = 97 + ((a + leap * u) % 26).toNat := by injection h
  have h1 := Int.emod_nonneg (a + leap * t) (show (26 : Int) ≠ 0 by decide)
  have h2 := Int.emod_nonneg (a + leap * u) (show (26 : Int) ≠ 0 by decide)
  have e2 : (a + leap * t) % 26 = (a + leap * u) % 26 := by omega
  rcases hl with rfl | rfl | rfl | rfl | rfl | rfl <;> omega
theorem nameAt_ok {stem : Nm} {c : Nat} {a leap : Int} (hs : Letters stem) (hl : stem.length ≤ 7) (t : Nat) : NameOk (nameAt stem c a leap t) := by
  unfold nameAt
  refine ⟨by simp; omega, ?_, fun x hx => ?_⟩
  · have : (stem.take c ++ [97 + ((a + leap * t) % 26).toNat] ++ stem.drop c).length = stem.length + 1 := by
      simp only [List.length_append, List.length_take, List.length_drop, List.length_cons, List.length_nil]; omega
    omega
  · simp only [List.mem_append, List.mem_cons, List.not_mem_nil, or_false] at hx
    rcases hx with (h | h) | h
    · exact hs x (List.mem_of_mem_take h)
    · have h1 := Int.emod_nonneg (a + leap * t) (show (26 : Int) ≠ 0 by decide)
      have h2 := Int.emod_lt_of_pos (a + leap * t) (show (0 : Int) < 26 by decide)
      omega
    · exact hs x (List.mem_of_mem_drop h)
theorem nodup_map_range {α : Type} {n : Nat} {f : Nat → α} (h : ∀ t u, t < n → u < n → f t = f u → t = u) : ((List.range n).map f).Nodup := by
  unfold List.Nodup
  rw [List.pairwise_map]
  refine List.Pairwise.imp_of_mem (R := fun a b => a ≠ b) (fun {a b} ha hb hne e => hne (h a b (List.mem_range.mp ha) (List.mem_range.mp hb) e)) List.nodup_range
theorem namesOk_sort {stem : Nm} {c : Nat} {a leap : Int} (hl : leap = 1 ∨ leap = 3 ∨ leap = 5 ∨ leap = 7 ∨ leap = 9 ∨ leap = 11) (hs : Letters stem) (h7 : stem.length ≤ 7) {n : Nat} (hn : n ≤ 26) : NamesOk n (((List.range n).map (nameAt stem c a leap)).mergeSort leS) := by
  refine ⟨by rw [List.length_mergeSort, List.length_map, List.length_range], fun s h => ?_, asc_sort (nodup_map_range fun t u ht hu e => nameAt_inj hl (by omega) (by omega) e)⟩
  rw [List.mem_mergeSort, List.mem_map] at h
  obtain ⟨t, _, rfl⟩ := h
  exact nameAt_ok hs h7 t
theorem joinS_nil : ∀ cs : List Nat, joinS [] (cs.map fun c => [c]) = cs
  | [] => rfl
  | [c] => rfl
  | c :: d :: r => by
    show joinS [] ([c] :: [d] :: r.map fun c => [c]) = _
    rw [joinS]
    have := joinS_nil (d :: r)
    rw [List.map_cons] at this
    rw [this]; rfl
theorem sum_ones (cs : List Nat) : ((cs.map fun c => [c]).map List.length).sum = cs.length := by
  induction cs with
  | nil => rfl
  | cons c r ih => simp only [List.map_cons, List.sum_cons, List.length_cons, ih, List.length_nil]; omega
section
variable {T : List FDef} {G : Nat → Option Dat} {prim : Nat → Option (List Dat → (Dat → Prop) → Prop)}
/-- _law_of(_law_pot_here, _law_some) -/
def D__law_of (f__law_take : Nat) : FDef := ⟨2, 2, [
    .ret (.idx (.var 1) (.call f__law_take [.var 0, .bi .len [.var 1]] [] [.p 0, .p 1]))]⟩
/-- _law_names(_law_pot_here, _law_many, _law_letters, _law_from_at, _law_leap, _law_turn, _law_stem, _law_cut, _law_found, _law_letter) -/
def D__law_names (f__law_of f__law_take : Nat) : FDef := ⟨2, 10, [
    .set 2 (.str [97, 98, 99, 100, 101, 102, 103, 104, 105, 106, 107, 108, 109, 110, 111, 112, 113, 114, 115, 116, 117, 118, 119, 120, 121, 122]),
    .par [false, false] [3, 4] [.call f__law_take [.var 0, .int 26] [] [.p 0, .p 1], .call f__law_of [.var 0, .lst [.int 1, .int 3, .int 5, .int 7, .int 9, .int 11]] [] [.p 0, .p 1]],
    .set 6 (.me .join (.str []) [.comp [5] (.v 5) (.range (.call f__law_of [.var 0, .lst [.int 0, .int 0, .int 1, .int 3, .int 7]] [] [.p 0, .p 1])) (.bl true) (.call f__law_of [.var 0, .var 2] [] [.p 0, .p 1])]),
    .set 7 (.call f__law_take [.var 0, .op2 .add (.bi .len [.var 6]) (.int 1)] [] [.p 0, .p 1]),
    .own 8 (.lst []),
    .for (.v 5) (.range (.var 1)) [.set 9 (.idx (.var 2) (.op2 .mod (.op2 .add (.var 3) (.op2 .mul (.var 4) (.var 5))) (.int 26))), .app 8 (.op2 .add (.op2 .add (.slc (.var 6) .non (.var 7)) (.var 9)) (.slc (.var 6) (.var 7) .non))],
    .ret (.bi .tuple [.bi .sorted [.obs 8]])]⟩
/-- _law_listed(_law_pot_here, _law_names_here, _law_most, _law_found, _law_turn) -/
def D__law_listed (f__law_of f__law_take : Nat) : FDef := ⟨3, 5, [
    .own 3 (.lst []),
    .for (.v 4) (.range (.call f__law_take [.var 0, .op2 .add (.var 2) (.int 1)] [] [.p 0, .p 1])) [.app 3 (.op2 .add (.call f__law_of [.var 0, .lst [.str [], .str [], .str [45]]] [] [.p 0, .p 1]) (.call f__law_of [.var 0, .var 1] [] [.p 0, .p 1]))],
    .ret (.bi .tuple [.obs 3])]⟩
theorem sp_of {f f1 : Nat} (hT : T[f]? = some (D__law_of f1)) (hp : prim f = none) (h1 : Sp T G prim f1 1 takeW) : Sp T G prim f 2 W_of :=
  .of_def hT hp fun k hk ds Q ⟨x, l, e, hi, hn, hl, q⟩ => by
    subst e
    refine ⟨rfl, ?_⟩
    unfold D__law_of startD
    have hpos : 0 < l.length := List.length_pos_iff.mpr hn
    have key : ∀ r : Int, 0 ≤ r → r < l.length → ∃ d ∈ l, atD l r = some d := fun r h0 h1 => atD_int h0 h1
    simp only [execs, exec, ev, evs, getV, getO, List.getElem?_cons_zero, List.getElem?_cons_succ, List.set_cons_zero, List.set_cons_succ, biW, lenW, allW, tupleW, listW, intW, maxW, minW, absW, meW, cmpW, ordW, op2W, negW, boolW, idxW, sliceW, bindP, bindPs, List.map, pickD, List.getD_cons_zero, List.getD_cons_succ, okd, isNum, alikeD, wipeD, iterD, rangeW, range2W, isiOk, isiD, isBox, meOk, setPar, List.reverse_cons, List.reverse_nil, List.nil_append, List.cons_append, List.zip_cons_cons, List.zip_nil_right, List.all_cons, List.all_nil, Bool.not_false, Bool.not_true, Bool.true_or, Bool.false_or, Bool.and_true, true_and, and_true, isNon]
    cases x with
    | tup xs =>
      cases hi
      dsimp only
      refine h1 k hk _ _ ⟨⟨by omega, lt8000 (by omega) (big_200 hl)⟩, fun r h0 hr => ?_⟩
      obtain ⟨d, hd, ha⟩ := key r h0 hr
      exact ⟨d, ha, q d hd⟩
    | lst xs =>
      cases hi
      dsimp only
      refine h1 k hk _ _ ⟨⟨by omega, lt8000 (by omega) (big_200 hl)⟩, fun r h0 hr => ?_⟩
      obtain ⟨d, hd, ha⟩ := key r h0 hr
      exact ⟨d, ha, q d hd⟩
    | str xs =>
      cases hi
      dsimp only
      rw [List.length_map] at hl hpos
      refine h1 k hk _ _ ⟨⟨by omega, lt8000 (by omega) (big_200 hl)⟩, fun r h0 hr => ?_⟩
      obtain ⟨d, hd, ha⟩ := key r h0 (by rw [List.length_map]; exact hr)
      exact ⟨d, ha, q d hd⟩
    | _ => cases hi
def W_names (ds : List Dat) (Q : Dat → Prop) : Prop := ∃ n : Nat, ds = [.pot, .int n] ∧ n ≤ 26 ∧ ∀ names, NamesOk n names → Q (tS names)
theorem range_mem {n : Nat} {pre post : List Dat} {d : Dat} (e : pre ++ d :: post = [] ++ (List.range n).map fun i : Nat => Dat.int i) : d = .int pre.length ∧ pre.length < n := by
  rw [List.nil_append] at e
  have h1 : ((List.range n).map fun i : Nat => Dat.int i)[pre.length]? = some d := by rw [← e]; simp
  rw [List.getElem?_map] at h1
  have lt : pre.length < n := by
    have := congrArg List.length e
    simp at this; omega
  rw [List.getElem?_range lt] at h1
  exact ⟨(Option.some.inj h1).symm, lt⟩
theorem sp_names {f f1 f2 : Nat} (hpm : PM prim) (hT : T[f]? = some (D__law_names f2 f1)) (hp : prim f = none) (h1 : Sp T G prim f1 1 takeW) (h2 : Sp T G prim f2 2 W_of) : Sp T G prim f 3 W_names :=
  .of_def hT hp fun k hk ds Q ⟨n, e, hn, q⟩ => by
    subst e
    refine ⟨rfl, ?_⟩
    unfold D__law_names
    rw [show startD 10 [.pot, .int n] = [.val .pot, .val (.int n), .no, .no, .no, .no, .no, .no, .no, .no] from rfl]
    rw [execs, exec]
    simp only [ev, List.set_cons_zero, List.set_cons_succ]
    rw [execs, exec]
    simp only [ev, evs, getV, List.getElem?_cons_zero, List.getElem?_cons_succ, pickD, List.map, List.getD_cons_zero, List.getD_cons_succ]
    refine h1 k (by omega) _ _ ⟨⟨by decide, lt8000 (by decide) (by decide)⟩, fun a ha0 ha1 => ?_⟩
    refine h2 k (by omega) _ _ ⟨_, _, rfl, rfl, by simp, by decide, fun d hd => ?_⟩
    have hleap : ∃ leap : Int, d = .int leap ∧ (leap = 1 ∨ leap = 3 ∨ leap = 5 ∨ leap = 7 ∨ leap = 9 ∨ leap = 11) := by
      simp only [List.mem_cons, List.not_mem_nil, or_false] at hd
      rcases hd with rfl | rfl | rfl | rfl | rfl | rfl <;> exact ⟨_, rfl, by decide⟩
    obtain ⟨leap, rfl, hlp⟩ := hleap
    refine ⟨rfl, ?_⟩
    simp only [setPar, List.reverse_cons, List.reverse_nil, List.nil_append, List.cons_append, List.set_cons_zero, List.set_cons_succ, Bool.false_eq_true, if_false]
    rw [execs, exec]
    simp only [ev, evs, getV, List.getElem?_cons_zero, List.getElem?_cons_succ, pickD, List.map, List.getD_cons_zero, List.getD_cons_succ]
    refine ⟨rfl, ?_⟩
    refine h2 k (by omega) _ _ ⟨_, _, rfl, rfl, by simp, by decide, fun d hd => ?_⟩
    have hr : ∃ r : Nat, d = .int r ∧ r ≤ 7 := by
      simp only [List.mem_cons, List.not_mem_nil, or_false] at hd
      rcases hd with rfl | rfl | rfl | rfl | rfl
      · exact ⟨0, rfl, by decide⟩
      · exact ⟨0, rfl, by decide⟩
      · exact ⟨1, rfl, by decide⟩
      · exact ⟨3, rfl, by decide⟩
      · exact ⟨7, rfl, by decide⟩
    obtain ⟨r, rfl, hr7⟩ := hr
    refine ⟨⟨by omega, by have : big = 16777216 := rfl; omega⟩, _, rfl, ?_⟩
    refine mapW_all (fun _ y => ∃ c, y = .str [c] ∧ (97 ≤ c ∧ c ≤ 122)) _ _ (fun x hx Q' hQ' => ?_) fun ys hys => ?_
    · rw [bindP]
      simp only [wipeD, List.set_cons_zero, List.set_cons_succ, boolW, if_true, List.getElem?_cons_zero, List.getElem?_cons_succ]
      refine h2 k (by omega) _ _ ⟨_, _, rfl, rfl, by simp, by simp [big], fun d hd => ?_⟩
      obtain ⟨c, hc, rfl⟩ := List.mem_map.mp hd
      exact hQ' _ ⟨c, rfl, abc_mem hc⟩
    · obtain ⟨cs, rfl, hcs⟩ := hys.pull (S := fun _ c => 97 ≤ c ∧ c ≤ 122) (fun c : Nat => Dat.str [c]) fun _ b ⟨c, h1, h2⟩ => ⟨c, h1, h2⟩
      have hlen : cs.length = r := by
        have := hcs.length
        simp at this
        omega
      have hlet : Letters cs := hcs.all
      have ess : cs.map (fun c : Nat => Dat.str [c]) = (cs.map fun c => [c]).map Dat.str := by rw [List.map_map]; rfl
      simp only [meW, joinW]
      refine ⟨cs.map fun c => [c], ess, by rw [sum_ones]; simp; have : big = 16777216 := rfl; omega, ?_⟩
      rw [joinS_nil]
      simp only [List.set_cons_zero, List.set_cons_succ]
      rw [execs, exec]
      simp only [ev, evs, getV, List.getElem?_cons_zero, List.getElem?_cons_succ, pickD, List.map, List.getD_cons_zero, List.getD_cons_succ, biW, lenW, op2W]
      refine h1 k (by omega) _ _ ⟨⟨by omega, lt8k (by omega) (by omega)⟩, fun ct hc0 hc1 => ?_⟩
      obtain ⟨c, rfl⟩ := Int.eq_ofNat_of_zero_le hc0
      simp only [List.set_cons_zero, List.set_cons_succ]
      rw [execs, exec]
      simp only [ev, evs]
      refine ⟨rfl, ?_⟩
      simp only [List.set_cons_zero, List.set_cons_succ]
      rw [execs, exec]
      simp only [ev, getV, List.getElem?_cons_zero, List.getElem?_cons_succ, rangeW]
      refine ⟨⟨by omega, by have : big = 16777216 := rfl; omega⟩, _, rfl, ?_⟩
      rw [Int.toNat_natCast]
      refine forW_rule (fun δ D D' h => execs_mono (callW_mono hpm k) _ δ D D' h) (fun pre δ => ∃ (s5 s9 : Slot), δ = [.val .pot, .val (.int n), .val (.str abc), .val (.int a), .val (.int leap), s5, .val (.str cs), .val (.int c), .own (.lst (((List.range pre.length).map (nameAt cs c a leap)).map Dat.str)), s9]) _ [] _ ⟨_, _, rfl⟩ ?_ ?_
      · intro pre d post δ' e ⟨s5, s9, e1⟩
        subst e1
        obtain ⟨rfl, lt⟩ := range_mem e
        rw [bindP]
        simp only [List.set_cons_zero, List.set_cons_succ]
        rw [execs, exec]
        simp only [ev, getV, List.getElem?_cons_zero, List.getElem?_cons_succ, op2W, idxW]
        have h1 := Int.emod_nonneg (a + leap * (pre.length : Nat)) (show (26 : Int) ≠ 0 by decide)
        have h2 := Int.emod_lt_of_pos (a + leap * (pre.length : Nat)) (show (0 : Int) < 26 by decide)
        have hat : atD (abc.map fun c => Dat.str [c]) ((a + leap * (pre.length : Nat)) % 26) = some (.str [97 + ((a + leap * (pre.length : Nat)) % 26).toNat]) := by
          obtain ⟨i, hi⟩ := Int.eq_ofNat_of_zero_le h1
          rw [hi] at h2 ⊢
          rw [Int.toNat_natCast]
          refine atD_nat ?_
          rw [List.getElem?_map, abc_at (by omega)]
          rfl
        refine ⟨.inl (.inl (by rcases hlp with rfl | rfl | rfl | rfl | rfl | rfl <;> decide)), by decide, _, hat, ?_⟩
        simp only [List.set_cons_zero, List.set_cons_succ]
        rw [execs, exec]
        simp only [ev, getV, getO, List.getElem?_cons_zero, List.getElem?_cons_succ, op2W, sliceW]
        have hb : big = 16777216 := rfl
        have hd1 : (cs.take c).length ≤ 7 := by rw [List.length_take]; omega
        have hd2 : (cs.drop c).length ≤ 7 := by rw [List.length_drop]; omega
        rw [cut_to, cut_from]
        refine ⟨_, rfl, ⟨by simp only [List.length_cons, List.length_nil]; omega, ⟨by simp only [List.length_append, List.length_cons, List.length_nil]; omega, ?_⟩⟩⟩
        refine ⟨by simp only [List.length_map, List.length_range]; omega, ?_⟩
        simp only [List.set_cons_zero, List.set_cons_succ]
        rw [execs]
        refine ⟨.val (.int pre.length), .val (.str [97 + ((a + leap * (pre.length : Nat)) % 26).toNat]), ?_⟩
        rw [List.length_append, List.length_cons, List.length_nil, List.range_succ, List.map_append, List.map_append]
        rfl
      · intro δ' ⟨s5, s9, e1⟩
        subst e1
        dsimp only
        rw [execs, exec]
        simp only [ev, evs, getO, List.getElem?_cons_zero, List.getElem?_cons_succ, biW, sortedW]
        refine ⟨alike_strs _, ok_strs _, ?_⟩
        rw [sort_strs]
        simp only [tupleW]
        rw [List.nil_append, List.length_map, List.length_range]
        exact q _ (namesOk_sort hlp hlet (by omega) hn)
/-- a list of these columns -/
def ItemOf (names : List Nm) (s : Nm) : Prop := ∃ n ∈ names, s = n ∨ s = 45 :: n
def W_listed (ds : List Dat) (Q : Dat → Prop) : Prop := ∃ (names : List Nm) (most : Nat), ds = [.pot, tS names, .int most] ∧ names ≠ [] ∧ names.length ≤ big ∧ (∀ s ∈ names, s.length ≤ 1000) ∧ most ≤ 10000 ∧ ∀ items : List Nm, items.length ≤ most → (∀ s ∈ items, ItemOf names s) → Q (tS items)
theorem sp_listed {f f1 f2 : Nat} (hpm : PM prim) (hT : T[f]? = some (D__law_listed f2 f1)) (hp : prim f = none) (h1 : Sp T G prim f1 1 takeW) (h2 : Sp T G prim f2 2 W_of) : Sp T G prim f 3 W_listed :=
  .of_def hT hp fun k hk ds Q ⟨names, most, e, hne, hnl, hns, hm, q⟩ => by
    subst e
    have hb : big = 16777216 := rfl
    refine ⟨rfl, ?_⟩
    unfold D__law_listed
    rw [show startD 5 [.pot, tS names, .int most] = [.val .pot, .val (tS names), .val (.int most), .no, .no] from rfl]
    rw [execs, exec]
    simp only [ev, evs]
    refine ⟨rfl, ?_⟩
    simp only [List.set_cons_zero, List.set_cons_succ]
    rw [execs, exec]
    simp only [ev, evs, getV, List.getElem?_cons_zero, List.getElem?_cons_succ, pickD, List.map, List.getD_cons_zero, List.getD_cons_succ, op2W]
    refine h1 k (by omega) _ _ ⟨⟨by omega, lt8k (by omega) (by omega)⟩, fun r hr0 hr1 => ?_⟩
    obtain ⟨n, rfl⟩ := Int.eq_ofNat_of_zero_le hr0
    simp only [rangeW]
    refine ⟨⟨by omega, by omega⟩, _, rfl, ?_⟩
    rw [Int.toNat_natCast]
    refine forW_rule (fun δ D D' h => execs_mono (callW_mono hpm k) _ δ D D' h) (fun pre δ => ∃ (s4 : Slot) (items : List Nm), δ = [.val .pot, .val (tS names), .val (.int most), .own (.lst (items.map Dat.str)), s4] ∧ items.length = pre.length ∧ ∀ s ∈ items, ItemOf names s) _ [] _ ⟨_, [], rfl, rfl, fun s h => nomatch h⟩ ?_ ?_
    · intro pre d post δ' e ⟨s4, items, e1, e2, e3⟩
      subst e1
      obtain ⟨rfl, lt⟩ := range_mem e
      rw [bindP]
      simp only [List.set_cons_zero, List.set_cons_succ]
      rw [execs, exec]
      simp only [ev, evs, getV, getO, List.getElem?_cons_zero, List.getElem?_cons_succ, pickD, List.map, List.getD_cons_zero, List.getD_cons_succ]
      refine ⟨_, rfl, ?_⟩
      refine h2 k (by omega) _ _ ⟨_, _, rfl, rfl, by simp, by decide, fun d hd => ?_⟩
      have hsg : ∃ sg : Nm, d = .str sg ∧ (sg = [] ∨ sg = [45]) := by
        simp only [List.mem_cons, List.not_mem_nil, or_false] at hd
        rcases hd with rfl | rfl | rfl
        · exact ⟨[], rfl, .inl rfl⟩
        · exact ⟨[], rfl, .inl rfl⟩
        · exact ⟨[45], rfl, .inr rfl⟩
      obtain ⟨sg, rfl, hsg⟩ := hsg
      refine h2 k (by omega) _ _ ⟨_, _, rfl, rfl, by simpa using hne, by simpa using hnl, fun d hd => ?_⟩
      obtain ⟨nm, hnm, rfl⟩ := List.mem_map.mp hd
      have := hns nm hnm
      simp only [op2W]
      refine ⟨by rcases hsg with rfl | rfl <;> simp only [List.length_nil, List.length_cons] <;> omega, ?_⟩
      refine ⟨by rw [List.length_map]; omega, ?_⟩
      simp only [List.set_cons_zero, List.set_cons_succ]
      rw [execs]
      refine ⟨_, items ++ [sg ++ nm], by rw [List.map_append]; rfl, by simp [e2], fun s hs => ?_⟩
      rcases List.mem_append.mp hs with h | h
      · exact e3 s h
      · simp only [List.mem_cons, List.not_mem_nil, or_false] at h
        subst h
        exact ⟨nm, hnm, by rcases hsg with rfl | rfl <;> simp⟩
    · intro δ' ⟨s4, items, e1, e2, e3⟩
      subst e1
      dsimp only
      rw [execs, exec]
      simp only [ev, evs, getO, List.getElem?_cons_zero, List.getElem?_cons_succ, biW, tupleW]
      exact q items (by rw [e2]; simp; omega) e3
end
end SF

/-! L3: items of good names. -/
namespace SF
open PySem L2
theorem NameOk.ne45 {n : Nm} (h : NameOk n) : ∀ c ∈ n, c ≠ 45 := fun c hc e => by have := h.let_ c hc; omega
theorem fall_name {n : Nm} (h : NameOk n) : fall n = false := by
  cases n with
  | nil => rfl
  | cons c r =>
    have := h.ne45 c (by simp)
    unfold fall
    simp [this]
theorem fall_minus (n : Nm) : fall (45 :: n) = true := by unfold fall; simp
theorem colOf_name {n : Nm} (h : NameOk n) : colOf n = n := by unfold colOf; rw [fall_name h]; rfl
theorem colOf_minus (n : Nm) : colOf (45 :: n) = n := by unfold colOf; rw [fall_minus]; rfl
theorem flip_name {n : Nm} (h : NameOk n) : flip1 n = 45 :: n := by unfold flip1; rw [fall_name h]; rfl
theorem flip_minus (n : Nm) : flip1 (45 :: n) = n := by unfold flip1; rw [fall_minus]; rfl
def strip (s : Nm) : Nm := s.flatMap fun c => if c = 45 then [] else [c]
theorem strip_none : ∀ {n : Nm}, (∀ c ∈ n, c ≠ 45) → strip n = n
  | [], _ => rfl
  | c :: r, h => by
    have h1 := h c (by simp)
    have h2 := strip_none (n := r) fun d hd => h d (by simp [hd])
    unfold strip at *
    rw [List.flatMap_cons, if_neg h1, h2]; rfl
theorem strip_name {n : Nm} (h : NameOk n) : strip n = n := strip_none h.ne45
theorem strip_minus {n : Nm} (h : NameOk n) : strip (45 :: n) = n := by
  have := strip_name h
  unfold strip at *
  rw [List.flatMap_cons, if_pos rfl, this]; rfl
theorem ItemOf.cases {names : List Nm} (hn : ∀ n ∈ names, NameOk n) {s : Nm} (h : ItemOf names s) : ∃ n ∈ names, NameOk n ∧ colOf s = n ∧ strip s = n ∧ s.length ≤ 9 ∧ ((s = n ∧ fall s = false ∧ flip1 s = 45 :: n) ∨ (s = 45 :: n ∧ fall s = true ∧ flip1 s = n)) := by
  obtain ⟨n, hm, rfl | rfl⟩ := h
  · have ok := hn s hm
    exact ⟨s, hm, ok, colOf_name ok, strip_name ok, by have := ok.hi; omega, .inl ⟨rfl, fall_name ok, flip_name ok⟩⟩
  · have ok := hn n hm
    exact ⟨n, hm, ok, colOf_minus n, strip_minus ok, by have := ok.hi; simp; omega, .inr ⟨rfl, fall_minus n, flip_minus n⟩⟩
theorem ItemOf.col {names : List Nm} (hn : ∀ n ∈ names, NameOk n) {s : Nm} (h : ItemOf names s) : colOf s ∈ names := by
  obtain ⟨n, hm, _, e, _⟩ := h.cases hn
  rw [e]; exact hm
theorem ItemOf.flip {names : List Nm} (hn : ∀ n ∈ names, NameOk n) {s : Nm} (h : ItemOf names s) : ItemOf names (flip1 s) ∧ colOf (flip1 s) = colOf s ∧ fall (flip1 s) = !fall s := by
  obtain ⟨n, hm, ok, e, _, _, ⟨e1, e2, e3⟩ | ⟨e1, e2, e3⟩⟩ := h.cases hn
  · rw [e3, e2, e, colOf_minus, fall_minus]
    exact ⟨⟨n, hm, .inr rfl⟩, rfl, rfl⟩
  · rw [e3, e2, e, colOf_name ok, fall_name ok]
    exact ⟨⟨n, hm, .inl rfl⟩, rfl, rfl⟩
/-- the item is not its column alone, if it falls -/
theorem ItemOf.ne {names : List Nm} (hn : ∀ n ∈ names, NameOk n) {s : Nm} (h : ItemOf names s) : (strip s == s) = !fall s := by
  obtain ⟨n, hm, ok, e, e0, _, ⟨e1, e2, e3⟩ | ⟨e1, e2, e3⟩⟩ := h.cases hn
  · rw [e0, e2, e1]; simp
  · rw [e0, e2, e1]
    have : n ≠ 45 :: n := fun z => by have := congrArg List.length z; simp at this
    simp [this]
/-! ### rows compared -/
theorem sgn_le (i j : Int) : (sgn i j).natAbs ≤ 1 := by unfold sgn; split <;> split <;> omega
theorem cmpI_le (names : List Nm) (a b : List Int) : ∀ w, (cmpI names a b w).natAbs ≤ 1
  | [] => by rw [cmpI]; decide
  | s :: r => by
    rw [cmpI]
    have h := sgn_le (a.getD (plc names (colOf s)) 0) (b.getD (plc names (colOf s)) 0)
    split
    · exact cmpI_le names a b r
    · split <;> omega
theorem cmpI_swap (names : List Nm) (a b : List Int) : ∀ w, cmpI names b a w = 0 - cmpI names a b w
  | [] => by rw [cmpI, cmpI]; rfl
  | s :: r => by
    rw [cmpI, cmpI]
    have h := sgn_neg (a.getD (plc names (colOf s)) 0) (b.getD (plc names (colOf s)) 0)
    by_cases e : a.getD (plc names (colOf s)) 0 = b.getD (plc names (colOf s)) 0
    · rw [if_pos e, if_pos e.symm]
      exact cmpI_swap names a b r
    · rw [if_neg e, if_neg (fun z => e z.symm)]
      split <;> omega
theorem cmpI_flip {names : List Nm} (hn : ∀ n ∈ names, NameOk n) (a b : List Int) : ∀ w, (∀ s ∈ w, ItemOf names s) → cmpI names a b (w.map flip1) = 0 - cmpI names a b w
  | [], _ => by rw [List.map_nil, cmpI]; rfl
  | s :: r, h => by
    rw [List.map_cons, cmpI, cmpI]
    obtain ⟨_, e1, e2⟩ := (h s (by simp)).flip hn
    rw [e1, e2]
    by_cases e : a.getD (plc names (colOf s)) 0 = b.getD (plc names (colOf s)) 0
    · rw [if_pos e, if_pos e]
      exact cmpI_flip hn a b r fun t ht => h t (by simp [ht])
    · rw [if_neg e, if_neg e]
      cases fall s <;> simp
theorem cmpI_same (names : List Nm) (a : List Int) : ∀ w, cmpI names a a w = 0
  | [] => by rw [cmpI]
  | s :: r => by rw [cmpI, if_pos rfl]; exact cmpI_same names a r
/-! ### what can be shown -/
theorem rpd_int {n w : Nat} {i : Int} (h : i.natAbs < 10 ^ (w - 1)) (h2 : 2 ≤ w) (hw : w ≤ 200) : rpd n w (.int i) := by
  have h3 : i.natAbs < 2 ^ 1900 := by
    refine Nat.lt_of_lt_of_le h ?_
    calc 10 ^ (w - 1) ≤ 10 ^ 200 := Nat.pow_le_pow_right (by decide) (by omega)
      _ ≤ 16 ^ 200 := Nat.pow_le_pow_left (by decide) _
      _ = 2 ^ 800 := by rw [show 16 = 2 ^ 4 from rfl, ← Nat.pow_mul]
      _ ≤ 2 ^ 1900 := Nat.pow_le_pow_right (by decide) (by decide)
  cases n <;> exact ⟨h, h2, h3⟩
theorem rpd_tI {n w v : Nat} {l : List Int} (h : ∀ i ∈ l, i.natAbs < 10 ^ (v - 1)) (h2 : 2 ≤ v) (h3 : v ≤ 200) (hw : l.length * (v + 2) + 3 ≤ w) : rpd (n + 1) w (tI l) :=
  ⟨v, fun x hx => by
    obtain ⟨i, hi, rfl⟩ := List.mem_map.mp hx
    exact rpd_int (h i hi) h2 h3, by rw [List.length_map]; exact hw⟩
theorem rpd_lI {n w v : Nat} {l : List Int} (h : ∀ i ∈ l, i.natAbs < 10 ^ (v - 1)) (h2 : 2 ≤ v) (h3 : v ≤ 200) (hw : l.length * (v + 2) + 3 ≤ w) : rpd (n + 1) w (.lst (l.map .int)) :=
  ⟨v, fun x hx => by
    obtain ⟨i, hi, rfl⟩ := List.mem_map.mp hx
    exact rpd_int (h i hi) h2 h3, by rw [List.length_map]; exact hw⟩
theorem rpd_str {n w : Nat} {s : Nm} (h : ∀ c ∈ s, c < 128) (hw : 10 * s.length + 2 ≤ w) : rpd n w (.str s) := by cases n <;> exact ⟨h, hw⟩
theorem rpd_tS {n w v : Nat} {l : List Nm} (h : ∀ s ∈ l, (∀ c ∈ s, c < 128) ∧ 10 * s.length + 2 ≤ v) (hw : l.length * (v + 2) + 3 ≤ w) : rpd (n + 1) w (tS l) :=
  ⟨v, fun x hx => by
    obtain ⟨i, hi, rfl⟩ := List.mem_map.mp hx
    exact rpd_str (h i hi).1 (h i hi).2, by rw [List.length_map]; exact hw⟩
/-! ### the law's own def -/
def W_right (ds : List Dat) (Q : Dat → Prop) : Prop := ds = [.pot] ∧ Q (.bl true)
theorem law_formA {T : List FDef} {G : Nat → Option Dat} {prim : Nat → Option (List Dat → (Dat → Prop) → Prop)} {c : Int} {fr fp cr k : Nat} (hc0 : 1 ≤ c) (hc : c ≤ 1000) (hp : Sp T G prim fp 1 potW) (hr : Sp T G prim fr cr W_right) (hk : cr ≤ k) (hk1 : 1 ≤ k) (ns : List Int) :
    execs (callW T G prim k) G [.ret (.bi .all [.comp [1] (.v 1) (.range (.bi .max [.int 1, .bi .min [.int c, .bi .len [.var 0]]])) (.bl true) (.call fr [.call fp [.var 0, .var 1] [] [.p 0, .p 1]] [] [.p 0])])] (startD 2 [.scr ns]) { nx := fun _ => False, rt := fun _ d => d = .bl true } := by
  rw [show startD 2 [.scr ns] = [.val (.scr ns), .no] from rfl]
  rw [execs, exec]
  simp only [ev, evs, getV, List.getElem?_cons_zero, List.getElem?_cons_succ, biW, lenW, minW, maxW, rangeW]
  have hb : big = 16777216 := rfl
  refine ⟨⟨by omega, by omega⟩, _, rfl, ?_⟩
  refine mapW_map (fun _ => .bl true) _ _ (fun x hx Q' hQ' => ?_) ?_
  · obtain ⟨i, hi, rfl⟩ := List.mem_map.mp hx
    have hi := List.mem_range.mp hi
    rw [bindP]
    simp only [wipeD, List.set_cons_zero, List.set_cons_succ, boolW, if_true, ev, evs, getV, List.getElem?_cons_zero, List.getElem?_cons_succ, pickD, List.map, List.getD_cons_zero, List.getD_cons_succ]
    refine hp k hk1 _ _ ⟨⟨by omega, by omega⟩, ?_⟩
    exact hr k hk _ _ ⟨rfl, hQ'⟩
  · simp only [allW]
    generalize (List.range (max 1 (min c ↑ns.length)).toNat) = l
    refine ⟨l.map fun _ => true, by rw [List.map_map, List.map_map]; rfl, ?_⟩
    rw [show (l.map fun _ => true).all id = true by simp]
end SF

/-! L4: signs, rules, what follows. -/
namespace SF
open PySem L2
/-! ### walks over lists of a kind -/
theorem forW_list {β : Type} {p : P} {b : Env → Post → Prop} (hb : ∀ δ D D', D.Le D' → b δ D → b δ D') {D : Post} (g : β → Dat) (l : List β) (I : List β → List β → Env → Prop) (δ : Env) (h0 : I [] l δ)
    (hs : ∀ done a rest δ', l = done ++ a :: rest → I done (a :: rest) δ' → bindP p (g a) δ' fun δ2 => b δ2 { nx := I (done ++ [a]) rest, ct := I (done ++ [a]) rest, bk := D.nx, rt := D.rt }) (he : ∀ δ', I l [] δ' → D.nx δ') : forW p b (l.map g) δ D := by
  have key : ∀ (rest done : List β) (δ : Env), l = done ++ rest → I done rest δ → forW p b (rest.map g) δ D := by
    intro rest
    induction rest with
    | nil =>
      intro done δ e h
      rw [List.append_nil] at e
      subst e
      rw [List.map_nil, forW]
      exact he δ h
    | cons a rest ih =>
      intro done δ e h
      rw [List.map_cons, forW]
      have nxt : ∀ δ'', I (done ++ [a]) rest δ'' → forW p b (rest.map g) δ'' D := fun δ'' h1 => ih (done ++ [a]) δ'' (by rw [e, List.append_assoc]; rfl) h1
      exact bindP_mono p (g a) δ _ _ (fun δ2 => hb δ2 { nx := I (done ++ [a]) rest, ct := I (done ++ [a]) rest, bk := D.nx, rt := D.rt } _ ⟨nxt, fun _ _ z => z, fun _ z => z, nxt⟩) (hs done a rest δ e h)
  exact key l [] δ rfl h0
theorem mapW_on {α β : Type} {f : α → (Option Dat → Prop) → Prop} (g : β → α) (h : β → Option Dat) : ∀ (l : List β) (Q : List Dat → Prop), (∀ a ∈ l, ∀ Q' : Option Dat → Prop, Q' (h a) → f (g a) Q') → Q (l.filterMap h) → mapW f (l.map g) Q
  | [], Q, hf, q => by rw [List.map_nil, mapW]; exact q
  | x :: xs, Q, hf, q => by
    rw [List.map_cons, mapW]
    refine hf x (by simp) _ (mapW_on g h xs _ (fun z hz => hf z (by simp [hz])) ?_)
    rw [List.filterMap_cons] at q
    cases e : h x with
    | none => rw [e] at q; exact q
    | some y => rw [e] at q; exact q
theorem flatW_on {α β : Type} {f : α → (List Dat → Prop) → Prop} (g : β → α) (h : β → List Dat) : ∀ (l : List β) (Q : List Dat → Prop), (∀ a ∈ l, ∀ Q' : List Dat → Prop, Q' (h a) → f (g a) Q') → Q (l.flatMap h) → flatW f (l.map g) Q
  | [], Q, hf, q => by rw [List.map_nil, flatW]; exact q
  | x :: xs, Q, hf, q => by
    rw [List.map_cons, flatW]
    refine hf x (by simp) _ (flatW_on g h xs _ (fun z hz => hf z (by simp [hz])) ?_)
    rw [List.flatMap_cons] at q
    exact q
/-! ### signs -/
abbrev Rl := List Nm × List Nm
def dR (r : Rl) : Dat := .tup [tS r.1, tS r.2]
def tR (rs : List Rl) : Dat := .tup (rs.map dR)
def Sg (sg : List Int) : Prop := ∀ x ∈ sg, x = -1 ∨ x = 0 ∨ x = 1
def lexS (names : List Nm) (sg : List Int) : List Nm → Int
  | [] => 0
  | s :: r => if sg.getD (plc names (colOf s)) 0 = 0 then lexS names sg r else if fall s then 0 - sg.getD (plc names (colOf s)) 0 else sg.getD (plc names (colOf s)) 0
theorem Sg.getD {sg : List Int} (h : Sg sg) (n : Nat) : sg.getD n 0 = -1 ∨ sg.getD n 0 = 0 ∨ sg.getD n 0 = 1 := by
  by_cases lt : n < sg.length
  · rw [List.getD_eq_getElem?_getD, List.getElem?_eq_getElem lt]
    exact h _ (List.getElem_mem _)
  · rw [List.getD_eq_getElem?_getD, List.getElem?_eq_none (by omega)]
    exact .inr (.inl rfl)
theorem lexS_le {names : List Nm} {sg : List Int} (h : Sg sg) : ∀ w, lexS names sg w = -1 ∨ lexS names sg w = 0 ∨ lexS names sg w = 1
  | [] => by rw [lexS]; exact .inr (.inl rfl)
  | s :: r => by
    rw [lexS]
    have := h.getD (plc names (colOf s))
    split
    · exact lexS_le h r
    · split <;> omega
def keepsS (names : List Nm) (sg : List Int) (r : Rl) : Bool := (lexS names sg r.2 == 0) || (lexS names sg r.2 == lexS names sg r.1)
def everyS : Nat → List (List Int)
  | 0 => [[]]
  | n + 1 => (everyS n).flatMap fun s => [s ++ [-1], s ++ [0], s ++ [1]]
theorem everyS_len : ∀ (n : Nat), ∀ sg ∈ everyS n, sg.length = n ∧ Sg sg
  | 0, sg, h => by
    rw [everyS, List.mem_singleton] at h
    subst h
    exact ⟨rfl, fun x hx => nomatch hx⟩
  | n + 1, sg, h => by
    rw [everyS, List.mem_flatMap] at h
    obtain ⟨s, hs, h⟩ := h
    obtain ⟨h1, h2⟩ := everyS_len n s hs
    have key : ∀ v : Int, (v = -1 ∨ v = 0 ∨ v = 1) → sg = s ++ [v] → sg.length = n + 1 ∧ Sg sg := fun v hv e => by
      subst e
      refine ⟨by simp [h1], fun x hx => ?_⟩
      rcases List.mem_append.mp hx with q | q
      · exact h2 x q
      · simp only [List.mem_cons, List.not_mem_nil, or_false] at q
        rw [q]; exact hv
    simp only [List.mem_cons, List.not_mem_nil, or_false] at h
    rcases h with h | h | h
    · exact key _ (.inl rfl) h
    · exact key _ (.inr (.inl rfl)) h
    · exact key _ (.inr (.inr rfl)) h
theorem everyS_many : ∀ n, (everyS n).length = 3 ^ n
  | 0 => rfl
  | n + 1 => by
    rw [everyS, List.length_flatMap]
    have e : (everyS n).map (fun s => ([s ++ [-1], s ++ [0], s ++ [1]] : List (List Int)).length) = (everyS n).map fun _ => 3 := rfl
    rw [e, List.map_const', List.sum_replicate_nat, everyS_many n, Nat.pow_succ]
def allowedS (names : List Nm) (rules : List Rl) : List (List Int) := (everyS names.length).filter fun sg => rules.all (keepsS names sg)
theorem allowedS_mem {names : List Nm} {rules : List Rl} {sg : List Int} (h : sg ∈ allowedS names rules) : sg.length = names.length ∧ Sg sg := everyS_len _ _ (List.mem_filter.mp h).1
/-- a list over these columns -/
def LOk (names : List Nm) (l : List Nm) : Prop := ∀ s ∈ l, colOf s ∈ names
def ROk (names : List Nm) (r : Rl) : Prop := LOk names r.1 ∧ LOk names r.2
def optD : Option (List Int) → Dat
  | none => .non
  | some sg => tI sg
def agS (names : List Nm) (known wanted : List Nm) (sg : List Int) : Bool := decide (lexS names sg known < 1) && decide (0 < lexS names sg wanted)
def contraS (names : List Nm) (rules : List Rl) (known wanted : List Nm) : Option (List Int) := (allowedS names rules).find? (agS names known wanted)
def followsS (names : List Nm) (rules : List Rl) (known wanted : List Nm) : Bool := (contraS names rules known wanted).isNone
section
variable {T : List FDef} {G : Nat → Option Dat} {prim : Nat → Option (List Dat → (Dat → Prop) → Prop)}
/-- lex(columns, signs, items, item, sign) -/
def D_lex (f_column_of f_is_falling : Nat) : FDef := ⟨3, 5, [
    .for (.v 3) (.var 2) [.set 4 (.idx (.var 1) (.me .index (.var 0) [.call f_column_of [.var 3] [] [.p 0]])), .ite (.cmp .ne (.var 4) (.int 0)) [.ret (.ite (.call f_is_falling [.var 3] [] [.p 0]) (.op2 .sub (.int 0) (.var 4)) (.var 4))] []],
    .ret (.int 0)]⟩
/-- keeps(columns, signs, rule, second) -/
def D_keeps (f_lex : Nat) : FDef := ⟨3, 4, [
    .set 3 (.call f_lex [.var 0, .var 1, .idx (.var 2) (.int 1)] [] [.p 0, .p 1, .p 2]),
    .ret (.or (.cmp .eq (.var 3) (.int 0)) (.cmp .eq (.var 3) (.call f_lex [.var 0, .var 1, .idx (.var 2) (.int 0)] [] [.p 0, .p 1, .p 2])))]⟩
/-- every_signs(columns, found, column, some, sign) -/
def D_every_signs (g_SIGNS : Nat) : FDef := ⟨1, 5, [
    .set 1 (.lst [.tup []]),
    .for (.v 2) (.var 0) [.set 1 (.comp2 [3, 4] (.v 3) (.var 1) (.bl true) (.v 4) (.glob g_SIGNS) (.bl true) (.op2 .add (.var 3) (.tup [.var 4])))],
    .ret (.var 1)]⟩
/-- allowed(columns, rules, found, rule, some) -/
def D_allowed (f_every_signs f_keeps : Nat) : FDef := ⟨2, 5, [
    .set 2 (.call f_every_signs [.var 0] [] [.p 0]),
    .for (.v 3) (.var 1) [.set 2 (.comp [4] (.v 4) (.var 2) (.call f_keeps [.var 0, .var 4, .var 3] [] [.p 0, .p 1, .p 2]) (.var 4))],
    .ret (.bi .tuple [.var 2])]⟩
/-- contradicting(columns, rules, known, wanted, signs) -/
def D_contradicting (f_allowed f_lex : Nat) : FDef := ⟨4, 5, [
    .for (.v 4) (.call f_allowed [.var 0, .var 1] [] [.p 0, .p 1]) [.ite (.and (.cmp .lt (.call f_lex [.var 0, .var 4, .var 2] [] [.p 0, .p 1, .p 2]) (.int 1)) (.cmp .gt (.call f_lex [.var 0, .var 4, .var 3] [] [.p 0, .p 1, .p 2]) (.int 0))) [.ret (.var 4)] []],
    .ret (.non)]⟩
/-- follows(columns, rules, known, wanted) -/
def D_follows (f_contradicting : Nat) : FDef := ⟨4, 4, [
    .ret (.isN (.call f_contradicting [.var 0, .var 1, .var 2, .var 3] [] [.p 0, .p 1, .p 2, .p 3]))]⟩
def W_lex (ds : List Dat) (Q : Dat → Prop) : Prop := ∃ (names : List Nm) (sg : List Int) (items : List Nm), ds = [tS names, tI sg, tS items] ∧ sg.length = names.length ∧ LOk names items ∧ Q (.int (lexS names sg items))
theorem sp_lex {f f1 f2 : Nat} (hpm : PM prim) (hT : T[f]? = some (D_lex f2 f1)) (hp : prim f = none) (h1 : Sp T G prim f1 1 W_is_falling) (h2 : Sp T G prim f2 2 W_column_of) : Sp T G prim f 3 W_lex :=
  .of_def hT hp fun k hk ds Q ⟨names, sg, items, e, l1, hi, q⟩ => by
    subst e
    refine ⟨rfl, ?_⟩
    unfold D_lex
    rw [show startD 5 [tS names, tI sg, tS items] = [.val (tS names), .val (tI sg), .val (tS items), .no, .no] from rfl]
    rw [execs, exec]
    simp only [ev, getV, List.getElem?_cons_zero, List.getElem?_cons_succ]
    refine ⟨_, rfl, ?_⟩
    refine forW_list (fun δ D D' h => execs_mono (callW_mono hpm k) _ δ D D' h) Dat.str items (fun done rest δ => ∃ (s3 s4 : Slot), δ = [.val (tS names), .val (tI sg), .val (tS items), s3, s4] ∧ lexS names sg rest = lexS names sg items) _ ⟨_, _, rfl, rfl⟩ ?_ ?_
    · intro done s rest δ' e ⟨s3, s4, e1, e3⟩
      subst e1
      have hc : colOf s ∈ names := hi s (by rw [e]; simp)
      have lt := plc_lt hc
      rw [bindP]
      simp only [List.set_cons_zero, List.set_cons_succ]
      rw [execs, exec]
      simp only [ev, evs, getV, List.getElem?_cons_zero, List.getElem?_cons_succ, pickD, List.map, List.getD_cons_zero]
      refine ⟨rfl, h2 k (by omega) _ _ ⟨s, rfl, ?_⟩⟩
      simp only [meW]
      refine index_names hc ?_
      simp only [idxW, tI]
      refine ⟨_, getD_at (by omega), ?_⟩
      simp only [List.set_cons_zero, List.set_cons_succ]
      rw [execs, exec]
      simp only [ev, getV, List.getElem?_cons_zero, List.getElem?_cons_succ, cmpW, okd, true_and, boolW]
      rw [lexS] at e3
      by_cases hd : sg.getD (plc names (colOf s)) 0 = 0
      · rw [if_pos hd] at e3
        rw [if_neg (by rw [eqD, hd]; decide), execs]
        dsimp only
        rw [execs]
        exact ⟨_, _, rfl, e3⟩
      · rw [if_neg hd] at e3
        rw [if_pos (by rw [eqD, beq_eq_false_iff_ne.mpr hd]; rfl)]
        rw [execs, exec]
        simp only [ev, evs, getV, List.getElem?_cons_zero, List.getElem?_cons_succ, pickD, List.map, List.getD_cons_zero]
        refine h1 k (by omega) _ _ ⟨s, rfl, ?_⟩
        simp only [boolW, op2W]
        rw [← e3] at q
        cases hf : fall s with
        | true => rw [hf] at q; exact q
        | false => rw [hf] at q; exact q
    · intro δ' ⟨s3, s4, e1, e3⟩
      subst e1
      dsimp only
      rw [execs, exec]
      simp only [ev]
      rw [← e3] at q
      exact q
def W_keeps (ds : List Dat) (Q : Dat → Prop) : Prop := ∃ (names : List Nm) (sg : List Int) (r : Rl), ds = [tS names, tI sg, dR r] ∧ sg.length = names.length ∧ ROk names r ∧ Q (.bl (keepsS names sg r))
theorem sp_keeps {f f1 : Nat} (hT : T[f]? = some (D_keeps f1)) (hp : prim f = none) (h1 : Sp T G prim f1 3 W_lex) : Sp T G prim f 4 W_keeps :=
  .of_def hT hp fun k hk ds Q ⟨names, sg, r, e, l1, hr, q⟩ => by
    subst e
    refine ⟨rfl, ?_⟩
    unfold D_keeps
    rw [show startD 4 [tS names, tI sg, dR r] = [.val (tS names), .val (tI sg), .val (dR r), .no] from rfl]
    rw [execs, exec]
    simp only [ev, evs, getV, List.getElem?_cons_zero, List.getElem?_cons_succ, idxW, dR]
    refine ⟨_, rfl, ?_⟩
    simp only [pickD, List.map, List.getD_cons_zero, List.getD_cons_succ]
    refine h1 k hk _ _ ⟨names, sg, r.2, rfl, l1, hr.2, ?_⟩
    simp only [List.set_cons_zero, List.set_cons_succ]
    rw [execs, exec]
    simp only [ev, evs, getV, List.getElem?_cons_zero, List.getElem?_cons_succ, idxW, cmpW, okd, true_and, boolW]
    unfold keepsS at q
    by_cases h0 : lexS names sg r.2 = 0
    · rw [if_pos (by rw [eqD, h0]; rfl)]
      rw [h0] at q
      exact q
    · rw [if_neg (by rw [eqD, beq_eq_false_iff_ne.mpr h0]; decide)]
      refine ⟨_, rfl, ?_⟩
      simp only [pickD, List.map, List.getD_cons_zero, List.getD_cons_succ]
      refine h1 k hk _ _ ⟨names, sg, r.1, rfl, l1, hr.1, ?_⟩
      refine ⟨okd_int _ _, ?_⟩
      rw [beq_eq_false_iff_ne.mpr h0, Bool.false_or] at q
      rw [eqD]
      exact q
def W_every_signs (ds : List Dat) (Q : Dat → Prop) : Prop := ∃ names : List Nm, ds = [tS names] ∧ names.length ≤ 12 ∧ Q (.lst ((everyS names.length).map tI))
theorem pow3 {n : Nat} (h : n ≤ 11) : 3 ^ n * 3 ≤ big := by
  have : 3 ^ n ≤ 3 ^ 11 := Nat.pow_le_pow_right (by decide) h
  have h2 : (3 : Nat) ^ 11 = 177147 := by decide
  have : big = 16777216 := rfl
  omega
theorem sp_every_signs {f g : Nat} (hpm : PM prim) (hT : T[f]? = some (D_every_signs g)) (hp : prim f = none) (hg : G g = some (tI [-1, 0, 1])) : Sp T G prim f 1 W_every_signs :=
  .of_def hT hp fun k hk ds Q ⟨names, e, hn, q⟩ => by
    subst e
    refine ⟨rfl, ?_⟩
    unfold D_every_signs
    rw [show startD 5 [tS names] = [.val (tS names), .no, .no, .no, .no] from rfl]
    rw [execs, exec]
    simp only [ev, evs, List.set_cons_zero, List.set_cons_succ]
    rw [execs, exec]
    simp only [ev, getV, List.getElem?_cons_zero, List.getElem?_cons_succ]
    refine ⟨_, rfl, ?_⟩
    refine forW_list (fun δ D D' h => execs_mono (callW_mono hpm k) _ δ D D' h) Dat.str names (fun done rest δ => ∃ (s2 s3 s4 : Slot), δ = [.val (tS names), .val (.lst ((everyS done.length).map tI)), s2, s3, s4] ∧ names = done ++ rest) _ ⟨_, _, _, rfl, rfl⟩ ?_ ?_
    · intro done s rest δ' e ⟨s2, s3, s4, e1, e3⟩
      subst e1
      have hd : done.length ≤ 11 := by
        have := congrArg List.length e
        simp at this; omega
      rw [bindP]
      simp only [List.set_cons_zero, List.set_cons_succ]
      rw [execs, exec]
      simp only [ev, evs, getV, List.getElem?_cons_zero, List.getElem?_cons_succ]
      refine ⟨_, 3, rfl, by rw [List.length_map, everyS_many]; exact pow3 hd, ?_⟩
      refine flatW_on tI (fun sg => [tI (sg ++ [-1]), tI (sg ++ [0]), tI (sg ++ [1])]) _ _ (fun sg hsg Q' q' => ?_) ?_
      · have hl := (everyS_len _ _ hsg).1
        rw [bindP]
        simp only [wipeD, List.set_cons_zero, List.set_cons_succ, boolW, if_true, hg]
        refine ⟨_, rfl, by decide, ?_⟩
        refine mapW_on Dat.int (fun v => some (tI (sg ++ [v]))) [-1, 0, 1] _ (fun v hv Q'' q'' => ?_) q'
        rw [bindP]
        simp only [varsP, wipeD, List.set_cons_zero, List.set_cons_succ, boolW, if_true, ev, evs, getV, List.getElem?_cons_zero, List.getElem?_cons_succ, op2W, tI]
        refine ⟨by rw [List.length_map]; have : big = 16777216 := rfl; simp; omega, ?_⟩
        rw [tI, List.map_append] at q''
        exact q''
      · simp only [List.set_cons_zero, List.set_cons_succ]
        rw [execs]
        have e5 : (everyS (done ++ [s]).length).map tI = (everyS done.length).flatMap fun sg => [tI (sg ++ [-1]), tI (sg ++ [0]), tI (sg ++ [1])] := by
          rw [List.length_append, List.length_cons, List.length_nil, everyS, List.map_flatMap]
          rfl
        rw [← e5]
        exact ⟨_, _, _, rfl, by rw [e, List.append_assoc]; rfl⟩
    · intro δ' ⟨s2, s3, s4, e1, e3⟩
      subst e1
      dsimp only
      rw [execs, exec]
      simp only [ev, getV, List.getElem?_cons_zero, List.getElem?_cons_succ]
      exact q
def W_allowed (ds : List Dat) (Q : Dat → Prop) : Prop := ∃ (names : List Nm) (rules : List Rl), ds = [tS names, tR rules] ∧ names.length ≤ 12 ∧ (∀ r ∈ rules, ROk names r) ∧ Q (.tup ((allowedS names rules).map tI))
theorem sp_allowed {f f1 f2 : Nat} (hpm : PM prim) (hT : T[f]? = some (D_allowed f1 f2)) (hp : prim f = none) (h1 : Sp T G prim f1 1 W_every_signs) (h2 : Sp T G prim f2 4 W_keeps) : Sp T G prim f 5 W_allowed :=
  .of_def hT hp fun k hk ds Q ⟨names, rules, e, hn, hr, q⟩ => by
    subst e
    refine ⟨rfl, ?_⟩
    unfold D_allowed
    rw [show startD 5 [tS names, tR rules] = [.val (tS names), .val (tR rules), .no, .no, .no] from rfl]
    rw [execs, exec]
    simp only [ev, evs, getV, List.getElem?_cons_zero, List.getElem?_cons_succ, pickD, List.map, List.getD_cons_zero, List.getD_cons_succ]
    refine h1 k (by omega) _ _ ⟨names, rfl, hn, ?_⟩
    simp only [List.set_cons_zero, List.set_cons_succ]
    rw [execs, exec]
    simp only [ev, getV, List.getElem?_cons_zero, List.getElem?_cons_succ]
    refine ⟨_, rfl, ?_⟩
    refine forW_list (fun δ D D' h => execs_mono (callW_mono hpm k) _ δ D D' h) dR rules (fun done rest δ => ∃ (s3 s4 : Slot), δ = [.val (tS names), .val (tR rules), .val (.lst ((allowedS names done).map tI)), s3, s4]) _ ⟨.no, .no, by
      have : allowedS names [] = everyS names.length := by unfold allowedS; simp
      rw [this]⟩ ?_ ?_
    · intro done r rest δ' e ⟨s3, s4, e1⟩
      subst e1
      have hrr : ROk names r := hr r (by rw [e]; simp)
      rw [bindP]
      simp only [List.set_cons_zero, List.set_cons_succ]
      rw [execs, exec]
      simp only [ev, getV, List.getElem?_cons_zero, List.getElem?_cons_succ]
      refine ⟨_, rfl, ?_⟩
      refine mapW_on tI (fun sg => if keepsS names sg r = true then some (tI sg) else none) _ _ (fun sg hsg Q' q' => ?_) ?_
      · have hl := (allowedS_mem hsg).1
        rw [bindP]
        simp only [wipeD, List.set_cons_zero, List.set_cons_succ, ev, evs, getV, List.getElem?_cons_zero, List.getElem?_cons_succ, pickD, List.map, List.getD_cons_zero, List.getD_cons_succ]
        refine h2 k (by omega) _ _ ⟨names, sg, r, rfl, hl, hrr, ?_⟩
        simp only [boolW]
        cases hk2 : keepsS names sg r with
        | true => rw [if_pos rfl]; rw [hk2, if_pos rfl] at q'; exact q'
        | false => rw [if_neg Bool.false_ne_true]; rw [hk2, if_neg Bool.false_ne_true] at q'; exact q'
      · simp only [List.set_cons_zero, List.set_cons_succ]
        rw [execs]
        have e5 : (allowedS names (done ++ [r])).map tI = (allowedS names done).filterMap fun sg => if keepsS names sg r = true then some (tI sg) else none := by
          unfold allowedS
          have e6 : (everyS names.length).filter (fun sg => (done ++ [r]).all (keepsS names sg)) = ((everyS names.length).filter fun sg => done.all (keepsS names sg)).filter fun sg => keepsS names sg r := by
            rw [List.filter_filter]
            congr 1
            funext sg
            simp [List.all_append, Bool.and_comm]
          rw [e6]
          generalize (everyS names.length).filter (fun sg => done.all (keepsS names sg)) = l
          induction l with
          | nil => rfl
          | cons a l ih =>
            rw [List.filter_cons, List.filterMap_cons]
            cases keepsS names a r with
            | true => simp only [if_true, List.map_cons, ih]
            | false => simp only [Bool.false_eq_true, if_false, ih]
        rw [← e5]
        exact ⟨_, _, rfl⟩
    · intro δ' ⟨s3, s4, e1⟩
      subst e1
      dsimp only
      rw [execs, exec]
      simp only [ev, evs, getV, List.getElem?_cons_zero, List.getElem?_cons_succ, biW, tupleW]
      exact q
def W_contradicting (ds : List Dat) (Q : Dat → Prop) : Prop := ∃ (names : List Nm) (rules : List Rl) (known wanted : List Nm), ds = [tS names, tR rules, tS known, tS wanted] ∧ names.length ≤ 12 ∧ (∀ r ∈ rules, ROk names r) ∧ LOk names known ∧ LOk names wanted ∧ Q (optD (contraS names rules known wanted))
theorem sp_contradicting {f f1 f2 : Nat} (hpm : PM prim) (hT : T[f]? = some (D_contradicting f1 f2)) (hp : prim f = none) (h1 : Sp T G prim f1 5 W_allowed) (h2 : Sp T G prim f2 3 W_lex) : Sp T G prim f 6 W_contradicting :=
  .of_def hT hp fun k hk ds Q ⟨names, rules, known, wanted, e, hn, hr, hkn, hw, q⟩ => by
    subst e
    refine ⟨rfl, ?_⟩
    unfold D_contradicting
    rw [show startD 5 [tS names, tR rules, tS known, tS wanted] = [.val (tS names), .val (tR rules), .val (tS known), .val (tS wanted), .no] from rfl]
    rw [execs, exec]
    simp only [ev, evs, getV, List.getElem?_cons_zero, List.getElem?_cons_succ, pickD, List.map, List.getD_cons_zero, List.getD_cons_succ]
    refine h1 k (by omega) _ _ ⟨names, rules, rfl, hn, hr, ?_⟩
    refine ⟨_, rfl, ?_⟩
    unfold contraS at q
    refine forW_list (fun δ D D' h => execs_mono (callW_mono hpm k) _ δ D D' h) tI (allowedS names rules) (fun done rest δ => ∃ (s4 : Slot), δ = [.val (tS names), .val (tR rules), .val (tS known), .val (tS wanted), s4] ∧ rest.find? (agS names known wanted) = (allowedS names rules).find? (agS names known wanted)) _ ⟨_, rfl, rfl⟩ ?_ ?_
    · intro done sg rest δ' e ⟨s4, e1, e2⟩
      subst e1
      have hsg : sg ∈ allowedS names rules := by rw [e]; simp
      obtain ⟨hl, hS⟩ := allowedS_mem hsg
      rw [List.find?_cons] at e2
      rw [bindP]
      simp only [List.set_cons_zero, List.set_cons_succ]
      rw [execs, exec]
      simp only [ev, evs, getV, List.getElem?_cons_zero, List.getElem?_cons_succ, pickD, List.map, List.getD_cons_zero, List.getD_cons_succ]
      refine h2 k (by omega) _ _ ⟨names, sg, known, rfl, hl, hkn, ?_⟩
      simp only [cmpW, ordW, boolW]
      refine ⟨⟨rfl, rfl, trivial, trivial⟩, ?_⟩
      rw [ltD_int]
      unfold agS at e2
      by_cases hk1 : lexS names sg known < 1
      · rw [if_pos (by simpa using hk1)]
        rw [decide_eq_true hk1, Bool.true_and] at e2
        refine h2 k (by omega) _ _ ⟨names, sg, wanted, rfl, hl, hw, ?_⟩
        refine ⟨⟨rfl, rfl, trivial, trivial⟩, ?_⟩
        rw [ltD_int]
        by_cases hk2 : 0 < lexS names sg wanted
        · rw [if_pos (by simpa using hk2)]
          rw [decide_eq_true hk2] at e2
          rw [execs, exec]
          simp only [ev, getV, List.getElem?_cons_zero, List.getElem?_cons_succ]
          unfold agS at q
          rw [← e2] at q
          exact q
        · rw [if_neg (by simpa using hk2), execs]
          rw [decide_eq_false hk2] at e2
          dsimp only
          rw [execs]
          exact ⟨_, rfl, e2⟩
      · rw [if_neg (by simpa using hk1)]
        rw [decide_eq_false hk1, Bool.false_and] at e2
        simp only [Bool.false_eq_true, if_false]
        rw [execs]
        dsimp only
        rw [execs]
        exact ⟨_, rfl, e2⟩
    · intro δ' ⟨s4, e1, e2⟩
      subst e1
      dsimp only
      rw [execs, exec]
      simp only [ev]
      rw [← e2] at q
      exact q
def W_follows (ds : List Dat) (Q : Dat → Prop) : Prop := ∃ (names : List Nm) (rules : List Rl) (known wanted : List Nm), ds = [tS names, tR rules, tS known, tS wanted] ∧ names.length ≤ 12 ∧ (∀ r ∈ rules, ROk names r) ∧ LOk names known ∧ LOk names wanted ∧ Q (.bl (followsS names rules known wanted))
theorem isNon_opt (o : Option (List Int)) : isNon (optD o) = o.isNone := by cases o <;> rfl
theorem sp_follows {f f1 : Nat} (hT : T[f]? = some (D_follows f1)) (hp : prim f = none) (h1 : Sp T G prim f1 6 W_contradicting) : Sp T G prim f 7 W_follows :=
  .of_def hT hp fun k hk ds Q ⟨names, rules, known, wanted, e, hn, hr, hkn, hw, q⟩ => by
    subst e
    refine ⟨rfl, ?_⟩
    unfold D_follows
    rw [show startD 4 [tS names, tR rules, tS known, tS wanted] = [.val (tS names), .val (tR rules), .val (tS known), .val (tS wanted)] from rfl]
    rw [execs, exec]
    simp only [ev, evs, getV, List.getElem?_cons_zero, List.getElem?_cons_succ, pickD, List.map, List.getD_cons_zero, List.getD_cons_succ]
    refine h1 k hk _ _ ⟨names, rules, known, wanted, rfl, hn, hr, hkn, hw, ?_⟩
    show Q (.bl (isNon (optD _)))
    rw [isNon_opt]
    exact q
end
end SF

/-! L5: a law's own look at signs and rules. -/
namespace SF
open PySem L2
theorem ib (a b : Int) : (a == b) = (b == a) := by
  by_cases h : a = b
  · subst h; rfl
  · rw [beq_eq_false_iff_ne.mpr h, beq_eq_false_iff_ne.mpr (fun e => h e.symm)]
theorem at_zero (d : Dat) (l : List Dat) : atD (d :: l) 0 = some d := atD_nat (n := 0) rfl
theorem lstrip_name {n : Nm} (h : NameOk n) : n.dropWhile (fun c => ([45] : List Nat).contains c) = n := by
  cases n with
  | nil => rfl
  | cons c r =>
    have := h.ne45 c (by simp)
    rw [List.dropWhile_cons, if_neg (by simp [this])]
theorem ItemOf.lstrip {names : List Nm} (hn : ∀ n ∈ names, NameOk n) {s : Nm} (h : ItemOf names s) : s.dropWhile (fun c => ([45] : List Nat).contains c) = colOf s := by
  obtain ⟨n, hm, ok, e, e0, _, ⟨e1, e2, e3⟩ | ⟨e1, e2, e3⟩⟩ := h.cases hn
  · rw [e, e1]; exact lstrip_name ok
  · rw [e, e1, List.dropWhile_cons, if_pos (by simp)]; exact lstrip_name ok
/-- an item's first sign -/
theorem ItemOf.head {names : List Nm} (hn : ∀ n ∈ names, NameOk n) {s : Nm} (h : ItemOf names s) : ∃ c r, s = c :: r ∧ (c == 45) = fall s := by
  obtain ⟨n, hm, ok, e, e0, _, ⟨e1, e2, e3⟩ | ⟨e1, e2, e3⟩⟩ := h.cases hn
  · cases n with
    | nil => have := ok.lo; simp at this
    | cons c r => exact ⟨c, r, e1, by rw [e2]; have := ok.ne45 c (by simp); simpa using this⟩
  · exact ⟨45, n, e1, by rw [e2]; rfl⟩
def IOk (names : List Nm) (l : List Nm) : Prop := ∀ s ∈ l, ItemOf names s
def RIOk (names : List Nm) (r : Rl) : Prop := IOk names r.1 ∧ IOk names r.2
theorem IOk.l {names l : List Nm} (hn : ∀ n ∈ names, NameOk n) (h : IOk names l) : LOk names l := fun s hs => (h s hs).col hn
theorem RIOk.l {names : List Nm} {r : Rl} (hn : ∀ n ∈ names, NameOk n) (h : RIOk names r) : ROk names r := ⟨h.1.l hn, h.2.l hn⟩
section
variable {T : List FDef} {G : Nat → Option Dat} {prim : Nat → Option (List Dat → (Dat → Prop) → Prop)}
/-- _law_lex(_law_names_here, _law_pattern, _law_wish, _law_item, _law_sign) -/
def D__law_lex : FDef := ⟨3, 5, [
    .for (.v 3) (.var 2) [.set 4 (.idx (.var 1) (.me .index (.var 0) [.me .lstrip (.var 3) [.str [45]]])), .ite (.cmp .ne (.var 4) (.int 0)) [.ret (.ite (.cmp .eq (.idx (.var 3) (.int 0)) (.str [45])) (.neg (.var 4)) (.var 4))] []],
    .ret (.int 0)]⟩
/-- _law_obeyed(_law_names_here, _law_pattern, _law_pairs, _law_first, _law_second) -/
def D__law_obeyed (f__law_lex : Nat) : FDef := ⟨3, 5, [
    .for (.t [.v 3, .v 4]) (.var 2) [.ite (.cmp .nin (.call f__law_lex [.var 0, .var 1, .var 4] [] [.p 0, .p 1, .p 2]) (.tup [.int 0, .call f__law_lex [.var 0, .var 1, .var 3] [] [.p 0, .p 1, .p 2]])) [.ret (.bl false)] []],
    .ret (.bl true)]⟩
/-- _law_every(_law_size, _law_found, _law_turn, _law_longer, _law_mine, _law_sign) -/
def D__law_every : FDef := ⟨1, 6, [
    .set 1 (.lst [.tup []]),
    .for (.v 2) (.range (.var 0)) [.own 3 (.lst []), .for (.v 4) (.var 1) [.ext 3 (.comp [5] (.v 5) (.tup [.neg (.int 1), .int 0, .int 1]) (.bl true) (.op2 .add (.var 4) (.tup [.var 5])))], .frz 3, .set 1 (.var 3)],
    .ret (.var 1)]⟩
/-- _law_free(_law_names_here, _law_pairs, _law_pattern) -/
def D__law_free (f__law_every f__law_obeyed : Nat) : FDef := ⟨2, 3, [
    .ret (.comp [2] (.v 2) (.call f__law_every [.bi .len [.var 0]] [] [.p 0]) (.call f__law_obeyed [.var 0, .var 2, .var 1] [] [.p 0, .p 1, .p 2]) (.var 2))]⟩
/-- _law_ruled(_law_pot_here, _law_names_here, _law_many, _law_found, _law_turn, _law_mine) -/
def D__law_ruled (f__law_listed f__law_take : Nat) : FDef := ⟨3, 6, [
    .own 3 (.lst []),
    .for (.v 4) (.range (.call f__law_take [.var 0, .op2 .add (.var 2) (.int 1)] [] [.p 0, .p 1])) [.set 5 (.call f__law_listed [.var 0, .var 1, .int 3] [] [.p 0, .p 1, .p 2]), .app 3 (.tup [.var 5, .call f__law_listed [.var 0, .var 1, .int 3] [] [.p 0, .p 1, .p 2]])],
    .ret (.bi .tuple [.obs 3])]⟩
/-- _law_against(_law_names_here, _law_pairs, _law_base, _law_goal, _law_pattern) -/
def D__law_against (f__law_free f__law_lex : Nat) : FDef := ⟨4, 5, [
    .for (.v 4) (.call f__law_free [.var 0, .var 1] [] [.p 0, .p 1]) [.ite (.and (.cmp .lt (.call f__law_lex [.var 0, .var 4, .var 2] [] [.p 0, .p 1, .p 2]) (.int 1)) (.cmp .eq (.call f__law_lex [.var 0, .var 4, .var 3] [] [.p 0, .p 1, .p 2]) (.int 1))) [.ret (.var 4)] []],
    .ret (.non)]⟩
/-- signs may stand in a tuple or in a list -/
def W_llex (ds : List Dat) (Q : Dat → Prop) : Prop := ∃ (names : List Nm) (x : Dat) (sg : List Int) (items : List Nm), ds = [tS names, x, tS items] ∧ (x = tI sg ∨ x = .lst (sg.map .int)) ∧ (∀ n ∈ names, NameOk n) ∧ sg.length = names.length ∧ IOk names items ∧ Q (.int (lexS names sg items))
theorem sp_llex {f : Nat} (hpm : PM prim) (hT : T[f]? = some D__law_lex) (hp : prim f = none) : Sp T G prim f 1 W_llex :=
  .of_def hT hp fun k hk ds Q ⟨names, x, sg, items, e, hx, hn, l1, hi, q⟩ => by
    subst e
    refine ⟨rfl, ?_⟩
    unfold D__law_lex
    rw [show startD 5 [tS names, x, tS items] = [.val (tS names), .val x, .val (tS items), .no, .no] from rfl]
    rw [execs, exec]
    simp only [ev, getV, List.getElem?_cons_zero, List.getElem?_cons_succ]
    refine ⟨_, rfl, ?_⟩
    refine forW_list (fun δ D D' h => execs_mono (callW_mono hpm k) _ δ D D' h) Dat.str items (fun done rest δ => ∃ (s3 s4 : Slot), δ = [.val (tS names), .val x, .val (tS items), s3, s4] ∧ lexS names sg rest = lexS names sg items) _ ⟨_, _, rfl, rfl⟩ ?_ ?_
    · intro done s rest δ' e ⟨s3, s4, e1, e3⟩
      subst e1
      have hs := hi s (by rw [e]; simp)
      have hc := hs.col hn
      have hls := hs.lstrip hn
      obtain ⟨c, r, es, hhead⟩ := hs.head hn
      have lt := plc_lt hc
      rw [bindP]
      simp only [List.set_cons_zero, List.set_cons_succ]
      rw [execs, exec]
      simp only [ev, evs, getV, List.getElem?_cons_zero, List.getElem?_cons_succ, meW, lstripW]
      rw [hls]
      refine ⟨rfl, rfl, index_names hc ?_⟩
      have hat : ∀ Q' : Dat → Prop, Q' (.int (sg.getD (plc names (colOf s)) 0)) → idxW x (.int (plc names (colOf s))) Q' := fun Q' q' => by
        rcases hx with rfl | rfl
        · simp only [idxW, tI]
          exact ⟨_, getD_at (by omega), q'⟩
        · simp only [idxW]
          exact ⟨_, getD_at (by omega), q'⟩
      refine hat _ ?_
      simp only [List.set_cons_zero, List.set_cons_succ]
      rw [execs, exec]
      simp only [ev, getV, List.getElem?_cons_zero, List.getElem?_cons_succ, cmpW, okd, true_and, boolW]
      rw [lexS] at e3
      by_cases hd : sg.getD (plc names (colOf s)) 0 = 0
      · rw [if_pos hd] at e3
        rw [if_neg (by rw [eqD, hd]; decide), execs]
        dsimp only
        rw [execs]
        exact ⟨_, _, rfl, e3⟩
      · rw [if_neg hd] at e3
        rw [if_pos (by rw [eqD, beq_eq_false_iff_ne.mpr hd]; rfl)]
        rw [execs, exec]
        simp only [ev, evs, getV, List.getElem?_cons_zero, List.getElem?_cons_succ, idxW, cmpW, negW, boolW]
        refine ⟨.str [c], by rw [es]; exact at_zero _ _, okd_str _ _, okd_str _ _, ?_⟩
        have eb : eqD (.str [c]) (.str [45]) = fall s := by rw [eqD, ← hhead]; simp
        rw [← e3] at q
        cases hf : fall s with
        | true =>
          rw [hf] at q eb
          rw [if_pos eb, ← Int.zero_sub]
          exact q
        | false =>
          rw [hf] at q eb
          rw [if_neg (by rw [eb]; decide)]
          exact q
    · intro δ' ⟨s3, s4, e1, e3⟩
      subst e1
      dsimp only
      rw [execs, exec]
      simp only [ev]
      rw [← e3] at q
      exact q
def W_lobeyed (ds : List Dat) (Q : Dat → Prop) : Prop := ∃ (names : List Nm) (sg : List Int) (x : Dat) (rules : List Rl), ds = [tS names, tI sg, x] ∧ iterD x = some (rules.map dR) ∧ (∀ n ∈ names, NameOk n) ∧ sg.length = names.length ∧ (∀ r ∈ rules, RIOk names r) ∧ Q (.bl (rules.all (keepsS names sg)))
theorem sp_lobeyed {f f1 : Nat} (hpm : PM prim) (hT : T[f]? = some (D__law_obeyed f1)) (hp : prim f = none) (h1 : Sp T G prim f1 1 W_llex) : Sp T G prim f 2 W_lobeyed :=
  .of_def hT hp fun k hk ds Q ⟨names, sg, x, rules, e, hx, hn, l1, hr, q⟩ => by
    subst e
    refine ⟨rfl, ?_⟩
    unfold D__law_obeyed
    rw [show startD 5 [tS names, tI sg, x] = [.val (tS names), .val (tI sg), .val x, .no, .no] from rfl]
    rw [execs, exec]
    simp only [ev, getV, List.getElem?_cons_zero, List.getElem?_cons_succ]
    refine ⟨_, hx, ?_⟩
    refine forW_list (fun δ D D' h => execs_mono (callW_mono hpm k) _ δ D D' h) dR rules (fun done rest δ => ∃ (s3 s4 : Slot), δ = [.val (tS names), .val (tI sg), .val x, s3, s4] ∧ rest.all (keepsS names sg) = rules.all (keepsS names sg)) _ ⟨_, _, rfl, rfl⟩ ?_ ?_
    · intro done r rest δ' e ⟨s3, s4, e1, e3⟩
      subst e1
      have hrr := hr r (by rw [e]; simp)
      rw [List.all_cons] at e3
      simp only [dR, bindP, bindPs, List.set_cons_zero, List.set_cons_succ]
      rw [execs, exec]
      simp only [ev, evs, getV, List.getElem?_cons_zero, List.getElem?_cons_succ, pickD, List.map, List.getD_cons_zero, List.getD_cons_succ]
      refine h1 k (by omega) _ _ ⟨names, _, sg, r.2, rfl, .inl rfl, hn, l1, hrr.2, ?_⟩
      refine h1 k (by omega) _ _ ⟨names, _, sg, r.1, rfl, .inl rfl, hn, l1, hrr.1, ?_⟩
      simp only [cmpW, inW]
      refine ⟨okd_int _ _, fun z hz => ?_, ?_⟩
      · simp only [List.mem_cons, List.not_mem_nil, or_false] at hz
        rcases hz with rfl | rfl <;> exact okd_int _ _
      have ek : ([Dat.int 0, .int (lexS names sg r.1)].any fun z => eqD z (.int (lexS names sg r.2))) = keepsS names sg r := by
        unfold keepsS
        simp only [List.any_cons, List.any_nil, Bool.or_false, eqD]
        rw [ib 0, ib (lexS names sg r.1)]
      rw [ek]
      simp only [boolW]
      cases hkp : keepsS names sg r with
      | true =>
        rw [hkp, Bool.true_and] at e3
        rw [if_neg (by decide), execs]
        dsimp only
        rw [execs]
        exact ⟨_, _, rfl, e3⟩
      | false =>
        rw [hkp, Bool.false_and] at e3
        rw [if_pos (show (!false) = true from rfl), execs, exec]
        simp only [ev]
        rw [← e3] at q
        exact q
    · intro δ' ⟨s3, s4, e1, e3⟩
      subst e1
      dsimp only
      rw [execs, exec]
      simp only [ev]
      rw [← e3] at q
      exact q
def W_levery (ds : List Dat) (Q : Dat → Prop) : Prop := ∃ n : Nat, ds = [.int n] ∧ n ≤ 12 ∧ Q (.lst ((everyS n).map tI))
theorem sp_levery {f : Nat} (hpm : PM prim) (hT : T[f]? = some D__law_every) (hp : prim f = none) : Sp T G prim f 1 W_levery :=
  .of_def hT hp fun k hk ds Q ⟨n, e, hn, q⟩ => by
    subst e
    have hb : big = 16777216 := rfl
    refine ⟨rfl, ?_⟩
    unfold D__law_every
    rw [show startD 6 [.int n] = [.val (.int n), .no, .no, .no, .no, .no] from rfl]
    rw [execs, exec]
    simp only [ev, evs, List.set_cons_zero, List.set_cons_succ]
    rw [execs, exec]
    simp only [ev, getV, List.getElem?_cons_zero, List.getElem?_cons_succ, rangeW]
    refine ⟨⟨by omega, by omega⟩, _, rfl, ?_⟩
    rw [Int.toNat_natCast]
    refine forW_list (fun δ D D' h => execs_mono (callW_mono hpm k) _ δ D D' h) (fun i : Nat => Dat.int i) (List.range n) (fun done rest δ => ∃ (s2 s3 s4 s5 : Slot), δ = [.val (.int n), .val (.lst ((everyS done.length).map tI)), s2, s3, s4, s5]) _ ⟨_, _, _, _, rfl⟩ ?_ ?_
    · intro done i rest δ' e ⟨s2, s3, s4, s5, e1⟩
      subst e1
      have hd : done.length ≤ 11 := by
        have := congrArg List.length e
        simp at this; omega
      have hmany : (everyS done.length).length * 3 ≤ big := by rw [everyS_many]; exact pow3 hd
      rw [bindP]
      simp only [List.set_cons_zero, List.set_cons_succ]
      rw [execs, exec]
      simp only [ev, evs]
      refine ⟨rfl, ?_⟩
      simp only [List.set_cons_zero, List.set_cons_succ]
      rw [execs, exec]
      simp only [ev, getV, List.getElem?_cons_zero, List.getElem?_cons_succ]
      refine ⟨_, rfl, ?_⟩
      refine forW_list (fun δ D D' h => execs_mono (callW_mono hpm k) _ δ D D' h) tI (everyS done.length) (fun dn rest δ => ∃ (s4 s5 : Slot), δ = [.val (.int n), .val (.lst ((everyS done.length).map tI)), .val (.int i), .own (.lst ((dn.flatMap fun s => [s ++ [-1], s ++ [0], s ++ [1]]).map tI)), s4, s5] ∧ everyS done.length = dn ++ rest) _ ⟨_, _, rfl, rfl⟩ ?_ ?_
      · intro dn sg rest2 δ' e6 ⟨s4, s5, e1, e7⟩
        subst e1
        have hl := (everyS_len _ sg (by rw [e6]; simp)).1
        have hdn : dn.length * 3 + 3 ≤ big := by
          have := congrArg List.length e6
          simp at this
          omega
        rw [bindP]
        simp only [List.set_cons_zero, List.set_cons_succ]
        rw [execs, exec]
        simp only [ev, evs, getO, getV, List.getElem?_cons_zero, List.getElem?_cons_succ, negW]
        refine ⟨_, rfl, _, rfl, ?_⟩
        refine mapW_on Dat.int (fun v => some (tI (sg ++ [v]))) [-1, 0, 1] _ (fun v hv Q'' q'' => ?_) ?_
        · rw [bindP]
          simp only [wipeD, List.set_cons_zero, List.set_cons_succ, boolW, if_true, List.getElem?_cons_zero, List.getElem?_cons_succ, op2W, tI]
          refine ⟨by rw [List.length_map]; simp; omega, ?_⟩
          rw [tI, List.map_append] at q''
          exact q''
        · have hlen : (dn.flatMap fun s => [s ++ [-1], s ++ [0], s ++ [1]]).length = dn.length * 3 := by
            rw [List.length_flatMap]
            have e : dn.map (fun s => ([s ++ [-1], s ++ [0], s ++ [1]] : List (List Int)).length) = dn.map fun _ => 3 := rfl
            rw [e, List.map_const', List.sum_replicate_nat]
          refine ⟨_, rfl, by simp only [List.length_map, hlen]; show dn.length * 3 + 3 ≤ big; omega, ?_⟩
          simp only [List.set_cons_zero, List.set_cons_succ]
          rw [execs]
          have e8 : ((dn ++ [sg]).flatMap fun s => [s ++ [-1], s ++ [0], s ++ [1]]).map tI = (dn.flatMap fun s => [s ++ [-1], s ++ [0], s ++ [1]]).map tI ++ [tI (sg ++ [-1]), tI (sg ++ [0]), tI (sg ++ [1])] := by
            rw [List.flatMap_append, List.map_append]; rfl
          rw [show (List.filterMap (fun v => some (tI (sg ++ [v]))) [-1, 0, 1]) = [tI (sg ++ [-1]), tI (sg ++ [0]), tI (sg ++ [1])] from rfl, ← e8]
          exact ⟨_, _, rfl, by rw [e6, List.append_assoc]; rfl⟩
      · intro δ' ⟨s4, s5, e1, e7⟩
        subst e1
        dsimp only
        rw [execs, exec]
        simp only [getO, List.getElem?_cons_zero, List.getElem?_cons_succ, List.set_cons_zero, List.set_cons_succ]
        rw [execs, exec]
        simp only [ev, getV, List.getElem?_cons_zero, List.getElem?_cons_succ, List.set_cons_zero, List.set_cons_succ]
        rw [execs]
        have e9 : (everyS (done ++ [i]).length) = (everyS done.length).flatMap fun s => [s ++ [-1], s ++ [0], s ++ [1]] := by
          rw [List.length_append, List.length_cons, List.length_nil, everyS]
        rw [← e9]
        exact ⟨_, _, _, _, rfl⟩
    · intro δ' ⟨s2, s3, s4, s5, e1⟩
      subst e1
      dsimp only
      rw [execs, exec]
      simp only [ev, getV, List.getElem?_cons_zero, List.getElem?_cons_succ]
      rw [List.length_range]
      exact q
def W_lfree (ds : List Dat) (Q : Dat → Prop) : Prop := ∃ (names : List Nm) (x : Dat) (rules : List Rl), ds = [tS names, x] ∧ iterD x = some (rules.map dR) ∧ names.length ≤ 12 ∧ (∀ n ∈ names, NameOk n) ∧ (∀ r ∈ rules, RIOk names r) ∧ Q (.lst ((allowedS names rules).map tI))
theorem filterMap_tI (p : List Int → Bool) (l : List (List Int)) : l.filterMap (fun sg => if p sg = true then some (tI sg) else none) = (l.filter p).map tI := by
  induction l with
  | nil => rfl
  | cons a l ih =>
    rw [List.filter_cons, List.filterMap_cons]
    cases p a with
    | true => simp only [if_true, List.map_cons, ih]
    | false => simp only [Bool.false_eq_true, if_false, ih]
theorem sp_lfree {f f1 f2 : Nat} (hT : T[f]? = some (D__law_free f1 f2)) (hp : prim f = none) (h1 : Sp T G prim f1 1 W_levery) (h2 : Sp T G prim f2 2 W_lobeyed) : Sp T G prim f 3 W_lfree :=
  .of_def hT hp fun k hk ds Q ⟨names, x, rules, e, hx, hl, hn, hr, q⟩ => by
    subst e
    refine ⟨rfl, ?_⟩
    unfold D__law_free
    rw [show startD 3 [tS names, x] = [.val (tS names), .val x, .no] from rfl]
    rw [execs, exec]
    simp only [ev, evs, getV, List.getElem?_cons_zero, List.getElem?_cons_succ, biW, lenW, tS, pickD, List.map, List.getD_cons_zero, List.length_map]
    refine h1 k (by omega) _ _ ⟨names.length, rfl, hl, ?_⟩
    refine ⟨_, rfl, ?_⟩
    refine mapW_on tI (fun sg => if rules.all (keepsS names sg) = true then some (tI sg) else none) _ _ (fun sg hsg Q' q' => ?_) ?_
    · rw [bindP]
      simp only [wipeD, List.set_cons_zero, List.set_cons_succ, getV, List.getElem?_cons_zero, List.getElem?_cons_succ, pickD, List.map, List.getD_cons_zero, List.getD_cons_succ]
      refine h2 k hk _ _ ⟨names, sg, _, rules, rfl, hx, hn, (everyS_len _ _ hsg).1, hr, ?_⟩
      simp only [boolW]
      cases hk2 : rules.all (keepsS names sg) with
      | true => rw [if_pos rfl]; rw [hk2, if_pos rfl] at q'; exact q'
      | false => rw [if_neg Bool.false_ne_true]; rw [hk2, if_neg Bool.false_ne_true] at q'; exact q'
    · rw [filterMap_tI fun sg => rules.all (keepsS names sg)]
      exact q
/-- rules drawn: lists of up to three items -/
def W_ruled (ds : List Dat) (Q : Dat → Prop) : Prop := ∃ (names : List Nm) (many : Nat), ds = [.pot, tS names, .int many] ∧ names ≠ [] ∧ names.length ≤ big ∧ (∀ s ∈ names, s.length ≤ 1000) ∧ many ≤ 10000 ∧
  ∀ rules : List Rl, rules.length ≤ many → (∀ r ∈ rules, RIOk names r ∧ r.1.length ≤ 3 ∧ r.2.length ≤ 3) → Q (tR rules)
theorem sp_ruled {f f1 f2 : Nat} (hpm : PM prim) (hT : T[f]? = some (D__law_ruled f2 f1)) (hp : prim f = none) (h1 : Sp T G prim f1 1 takeW) (h2 : Sp T G prim f2 3 W_listed) : Sp T G prim f 4 W_ruled :=
  .of_def hT hp fun k hk ds Q ⟨names, many, e, hne, hnl, hns, hm, q⟩ => by
    subst e
    have hb : big = 16777216 := rfl
    refine ⟨rfl, ?_⟩
    unfold D__law_ruled
    rw [show startD 6 [.pot, tS names, .int many] = [.val .pot, .val (tS names), .val (.int many), .no, .no, .no] from rfl]
    rw [execs, exec]
    simp only [ev, evs]
    refine ⟨rfl, ?_⟩
    simp only [List.set_cons_zero, List.set_cons_succ]
    rw [execs, exec]
    simp only [ev, evs, getV, List.getElem?_cons_zero, List.getElem?_cons_succ, pickD, List.map, List.getD_cons_zero, List.getD_cons_succ, op2W]
    refine h1 k (by omega) _ _ ⟨⟨by omega, lt8k (by omega) (by omega)⟩, fun r hr0 hr1 => ?_⟩
    obtain ⟨n, rfl⟩ := Int.eq_ofNat_of_zero_le hr0
    simp only [rangeW]
    refine ⟨⟨by omega, by omega⟩, _, rfl, ?_⟩
    rw [Int.toNat_natCast]
    refine forW_list (fun δ D D' h => execs_mono (callW_mono hpm k) _ δ D D' h) (fun i : Nat => Dat.int i) (List.range n) (fun done rest δ => ∃ (s4 s5 : Slot) (rules : List Rl), δ = [.val .pot, .val (tS names), .val (.int many), .own (.lst (rules.map dR)), s4, s5] ∧ rules.length = done.length ∧ ∀ r ∈ rules, RIOk names r ∧ r.1.length ≤ 3 ∧ r.2.length ≤ 3) _ ⟨_, _, [], rfl, rfl, fun r h => nomatch h⟩ ?_ ?_
    · intro done i rest δ' e ⟨s4, s5, rules, e1, e2, e3⟩
      subst e1
      have hd : done.length < n := by
        have := congrArg List.length e
        simp at this; omega
      rw [bindP]
      simp only [List.set_cons_zero, List.set_cons_succ]
      rw [execs, exec]
      simp only [ev, evs, getV, List.getElem?_cons_zero, List.getElem?_cons_succ, pickD, List.map, List.getD_cons_zero, List.getD_cons_succ]
      refine h2 k (by omega) _ _ ⟨names, 3, rfl, hne, hnl, hns, by decide, fun a la ia => ?_⟩
      simp only [List.set_cons_zero, List.set_cons_succ]
      rw [execs, exec]
      simp only [ev, evs, getV, getO, List.getElem?_cons_zero, List.getElem?_cons_succ, pickD, List.map, List.getD_cons_zero, List.getD_cons_succ]
      refine ⟨_, rfl, ?_⟩
      refine h2 k (by omega) _ _ ⟨names, 3, rfl, hne, hnl, hns, by decide, fun b lb ib => ?_⟩
      refine ⟨by rw [List.length_map]; omega, ?_⟩
      simp only [List.set_cons_zero, List.set_cons_succ]
      rw [execs]
      refine ⟨_, _, rules ++ [(a, b)], by rw [List.map_append]; rfl, by simp [e2], fun r hr => ?_⟩
      rcases List.mem_append.mp hr with h | h
      · exact e3 r h
      · simp only [List.mem_cons, List.not_mem_nil, or_false] at h
        subst h
        exact ⟨⟨ia, ib⟩, la, lb⟩
    · intro δ' ⟨s4, s5, rules, e1, e2, e3⟩
      subst e1
      dsimp only
      rw [execs, exec]
      simp only [ev, evs, getO, List.getElem?_cons_zero, List.getElem?_cons_succ, biW, tupleW]
      exact q rules (by rw [e2]; simp; omega) e3
def W_lagainst (ds : List Dat) (Q : Dat → Prop) : Prop := ∃ (names : List Nm) (rules : List Rl) (known wanted : List Nm), ds = [tS names, tR rules, tS known, tS wanted] ∧ names.length ≤ 12 ∧ (∀ n ∈ names, NameOk n) ∧ (∀ r ∈ rules, RIOk names r) ∧ IOk names known ∧ IOk names wanted ∧ Q (optD (contraS names rules known wanted))
theorem sp_lagainst {f f1 f2 : Nat} (hpm : PM prim) (hT : T[f]? = some (D__law_against f1 f2)) (hp : prim f = none) (h1 : Sp T G prim f1 3 W_lfree) (h2 : Sp T G prim f2 1 W_llex) : Sp T G prim f 4 W_lagainst :=
  .of_def hT hp fun k hk ds Q ⟨names, rules, known, wanted, e, hl, hn, hr, hkn, hw, q⟩ => by
    subst e
    refine ⟨rfl, ?_⟩
    unfold D__law_against
    rw [show startD 5 [tS names, tR rules, tS known, tS wanted] = [.val (tS names), .val (tR rules), .val (tS known), .val (tS wanted), .no] from rfl]
    rw [execs, exec]
    simp only [ev, evs, getV, List.getElem?_cons_zero, List.getElem?_cons_succ, pickD, List.map, List.getD_cons_zero, List.getD_cons_succ]
    refine h1 k (by omega) _ _ ⟨names, _, rules, rfl, rfl, hl, hn, hr, ?_⟩
    refine ⟨_, rfl, ?_⟩
    unfold contraS at q
    refine forW_list (fun δ D D' h => execs_mono (callW_mono hpm k) _ δ D D' h) tI (allowedS names rules) (fun done rest δ => ∃ (s4 : Slot), δ = [.val (tS names), .val (tR rules), .val (tS known), .val (tS wanted), s4] ∧ rest.find? (agS names known wanted) = (allowedS names rules).find? (agS names known wanted)) _ ⟨_, rfl, rfl⟩ ?_ ?_
    · intro done sg rest δ' e ⟨s4, e1, e2⟩
      subst e1
      have hsg : sg ∈ allowedS names rules := by rw [e]; simp
      obtain ⟨hl2, hS⟩ := allowedS_mem hsg
      rw [List.find?_cons] at e2
      rw [bindP]
      simp only [List.set_cons_zero, List.set_cons_succ]
      rw [execs, exec]
      simp only [ev, evs, getV, List.getElem?_cons_zero, List.getElem?_cons_succ, pickD, List.map, List.getD_cons_zero, List.getD_cons_succ]
      refine h2 k (by omega) _ _ ⟨names, _, sg, known, rfl, .inl rfl, hn, hl2, hkn, ?_⟩
      simp only [cmpW, ordW, boolW]
      refine ⟨⟨rfl, rfl, trivial, trivial⟩, ?_⟩
      rw [ltD_int]
      unfold agS at e2
      by_cases hk1 : lexS names sg known < 1
      · rw [if_pos (by simpa using hk1)]
        rw [decide_eq_true hk1, Bool.true_and] at e2
        refine h2 k (by omega) _ _ ⟨names, _, sg, wanted, rfl, .inl rfl, hn, hl2, hw, ?_⟩
        refine ⟨okd_int _ _, okd_int _ _, ?_⟩
        have hle := lexS_le hS wanted (names := names)
        by_cases hk2 : 0 < lexS names sg wanted
        · have h1 : lexS names sg wanted = 1 := by omega
          rw [if_pos (by rw [eqD, h1]; rfl)]
          rw [decide_eq_true hk2] at e2
          rw [execs, exec]
          simp only [ev, getV, List.getElem?_cons_zero, List.getElem?_cons_succ]
          unfold agS at q
          rw [← e2] at q
          exact q
        · have h1 : lexS names sg wanted ≠ 1 := by omega
          rw [if_neg (by rw [eqD, beq_eq_false_iff_ne.mpr h1]; decide), execs]
          rw [decide_eq_false hk2] at e2
          dsimp only
          rw [execs]
          exact ⟨_, rfl, e2⟩
      · rw [if_neg (by simpa using hk1)]
        rw [decide_eq_false hk1, Bool.false_and] at e2
        simp only [Bool.false_eq_true, if_false]
        rw [execs]
        dsimp only
        rw [execs]
        exact ⟨_, rfl, e2⟩
    · intro δ' ⟨s4, e1, e2⟩
      subst e1
      dsimp only
      rw [execs, exec]
      simp only [ev]
      rw [← e2] at q
      exact q
end
end SF

/-! P09: law k09, plain. -/
namespace SF
open PySem L2 SF
theorem okd_tS (n : Nat) (l : List Nm) : okd (n + 1) (tS l) := okd_strs
theorem okd_dR (n : Nat) (r : Rl) : okd (n + 2) (dR r) := fun x hx => by
  simp only [List.mem_cons, List.not_mem_nil, or_false] at hx
  rcases hx with rfl | rfl <;> exact okd_tS n _
theorem okd_tR (n : Nat) (rs : List Rl) : okd (n + 3) (tR rs) := fun x hx => by
  obtain ⟨r, _, rfl⟩ := List.mem_map.mp hx
  exact okd_dR n r
theorem eq_tR_nil (rs : List Rl) : eqD (tR rs) (.tup []) = decide (rs = []) := by
  cases rs with
  | nil => unfold tR; rw [List.map_nil, eqD, eqDs]; rfl
  | cons r rs => unfold tR; rw [List.map_cons, eqD]; simp [eqDs]
theorem IOk.append {names a b : List Nm} (ha : IOk names a) (hb : IOk names b) : IOk names (a ++ b) := fun s hs => by
  rcases List.mem_append.mp hs with h | h
  · exact ha s h
  · exact hb s h
theorem IOk.take {names a : List Nm} (ha : IOk names a) (n : Nat) : IOk names (a.take n) := fun s hs => ha s (List.mem_of_mem_take hs)
theorem IOk.rp {names l : List Nm} (hn : ∀ n ∈ names, NameOk n) (h : IOk names l) {m n : Nat} (hl : l.length * 94 + 3 ≤ m) : rpd (n + 1) m (tS l) := rpd_tS (v := 92) (fun s hs => by
  obtain ⟨nm, hm, ok, _, _, h9, hc⟩ := (h s hs).cases hn
  refine ⟨fun c hcs => ?_, by omega⟩
  rcases hc with ⟨e, _⟩ | ⟨e, _⟩
  · rw [e] at hcs; have := ok.let_ c hcs; omega
  · rw [e] at hcs
    rcases List.mem_cons.mp hcs with q | q
    · omega
    · have := ok.let_ c q; omega) hl
theorem names_rp {names : List Nm} (hn : ∀ n ∈ names, NameOk n) {m n : Nat} (hl : names.length * 94 + 3 ≤ m) : rpd (n + 1) m (tS names) := rpd_tS (v := 92) (fun s hs => ⟨fun c hc => by have := (hn s hs).let_ c hc; omega, by have := (hn s hs).hi; omega⟩) hl
theorem rule_rp {names : List Nm} (hn : ∀ n ∈ names, NameOk n) {r : Rl} (h : RIOk names r) (h1 : r.1.length ≤ 8) (h2 : r.2.length ≤ 8) {n : Nat} : rpd (n + 2) 1600 (dR r) :=
  ⟨760, fun x hx => by
    simp only [List.mem_cons, List.not_mem_nil, or_false] at hx
    rcases hx with rfl | rfl
    · exact h.1.rp hn (by omega)
    · exact h.2.rp hn (by omega), by simp⟩
theorem rules_rp {names : List Nm} (hn : ∀ n ∈ names, NameOk n) {rs : List Rl} (h : ∀ r ∈ rs, RIOk names r ∧ r.1.length ≤ 8 ∧ r.2.length ≤ 8) {m n : Nat} (hl : rs.length * 1602 + 3 ≤ m) : rpd (n + 3) m (tR rs) :=
  ⟨1600, fun x hx => by
    obtain ⟨r, hr, rfl⟩ := List.mem_map.mp hx
    exact rule_rp hn (h r hr).1 (h r hr).2.1 (h r hr).2.2, by rw [List.length_map]; exact hl⟩
theorem rpd_bl {n w : Nat} {b : Bool} (h : 5 ≤ w) : rpd n w (.bl b) := by cases n <;> exact h
theorem rpd_lB {n w : Nat} {l : List Bool} (hw : l.length * 7 + 3 ≤ w) : rpd (n + 1) w (.lst (l.map .bl)) :=
  ⟨5, fun x hx => by
    obtain ⟨i, hi, rfl⟩ := List.mem_map.mp hx
    exact rpd_bl (by decide), by rw [List.length_map]; exact hw⟩
theorem rpd_tup {n w v : Nat} {l : List Dat} (h : ∀ x ∈ l, rpd n v x) (hw : l.length * (v + 2) + 3 ≤ w) : rpd (n + 1) w (.tup l) := ⟨v, h, hw⟩
theorem rpd_up {w w' : Nat} : ∀ {n : Nat} {d : Dat}, rpd n w d → w ≤ w' → w' ≤ 100000000 → (∀ i, d ≠ .int i) → rpd n w' d := by
  intro n d h hw _ hi
  cases d with
  | int i => exact absurd rfl (hi i)
  | non => cases n <;> exact Nat.le_trans h hw
  | bl b => cases n <;> exact Nat.le_trans h hw
  | str s => cases n <;> exact ⟨h.1, Nat.le_trans h.2 hw⟩
  | tup l => cases n with
    | zero => exact h.elim
    | succ n => obtain ⟨v, h1, h2⟩ := h; exact ⟨v, h1, Nat.le_trans h2 hw⟩
  | lst l => cases n with
    | zero => exact h.elim
    | succ n => obtain ⟨v, h1, h2⟩ := h; exact ⟨v, h1, Nat.le_trans h2 hw⟩
  | _ => cases n <;> exact h.elim
/-- a question drawn -/
structure AskOk (most : Nat) (names : List Nm) (rules : List Rl) (base goal : List Nm) : Prop where
  n1 : 1 ≤ names.length
  n2 : names.length ≤ most
  nk : ∀ n ∈ names, NameOk n
  asc : Asc names
  rl : rules.length ≤ 5
  rk : ∀ r ∈ rules, RIOk names r ∧ r.1.length ≤ 8 ∧ r.2.length ≤ 8
  bk : IOk names base
  bl : base.length ≤ 8
  gk : IOk names goal
  gl : goal.length ≤ 8
def dAsk (names : List Nm) (rules : List Rl) (base goal : List Nm) : Dat := .tup [tS names, tR rules, tS base, tS goal]
theorem AskOk.rp {most : Nat} {names : List Nm} {rules : List Rl} {base goal : List Nm} (h : AskOk most names rules base goal) (hm : most ≤ 8) : rpd 60 big (dAsk names rules base goal) := by
  have hb : big = 16777216 := rfl
  have h1 := h.n2; have h2 := h.rl; have h3 := h.bl; have h4 := h.gl
  refine ⟨10000, fun x hx => ?_, by simp [hb]⟩
  simp only [List.mem_cons, List.not_mem_nil, or_false] at hx
  rcases hx with rfl | rfl | rfl | rfl
  · exact names_rp h.nk (by omega)
  · exact rules_rp h.nk h.rk (by omega)
  · exact h.bk.rp h.nk (by omega)
  · exact h.gk.rp h.nk (by omega)
/-- _law_question(_law_pot_here, _law_most, _law_names_here, _law_pairs, _law_base, _law_goal, _law_way) -/
def D__law_question (f__law_listed f__law_names f__law_of f__law_ruled f__law_take : Nat) : FDef := ⟨2, 7, [
    .set 2 (.call f__law_names [.var 0, .op2 .add (.int 1) (.call f__law_take [.var 0, .var 1] [] [.p 0, .p 1])] [] [.p 0, .p 1]),
    .par [false, false, false] [3, 4, 5] [.bi .tuple [.call f__law_ruled [.var 0, .var 2, .int 5] [] [.p 0, .p 1, .p 2]], .call f__law_listed [.var 0, .var 2, .int 4] [] [.p 0, .p 1, .p 2], .call f__law_listed [.var 0, .var 2, .int 3] [] [.p 0, .p 1, .p 2]],
    .set 6 (.call f__law_take [.var 0, .int 5] [] [.p 0, .p 1]),
    .ite (.and (.cmp .eq (.var 6) (.int 0)) (.cmp .ne (.var 3) (.tup []))) [.unp (.t [.v 4, .v 5]) (.call f__law_of [.var 0, .var 3] [] [.p 0, .p 1])] [.ite (.cmp .eq (.var 6) (.int 1)) [.set 5 (.op2 .add (.slc (.var 4) .non (.call f__law_take [.var 0, .op2 .add (.bi .len [.var 4]) (.int 1)] [] [.p 0, .p 1])) (.slc (.var 4) .non (.int 2)))] [.ite (.and (.cmp .eq (.var 6) (.int 2)) (.cmp .ne (.var 3) (.tup []))) [.set 4 (.op2 .add (.idx (.call f__law_of [.var 0, .var 3] [] [.p 0, .p 1]) (.int 0)) (.var 4)), .set 5 (.idx (.call f__law_of [.var 0, .var 3] [] [.p 0, .p 1]) (.int 1))] []]],
    .ret (.tup [.var 2, .var 3, .var 4, .var 5])]⟩
/-- _law_right(_law_pot_here, _law_turn, _law_ask, _law_names_here, _law_pairs, _law_base, _law_goal, _law_due, _law_seen, _law_told) -/
def D__law_right (f__law_against f__law_question f_follows : Nat) : FDef := ⟨1, 10, [
    .for (.v 1) (.range (.int 6)) [.set 2 (.call f__law_question [.var 0, .int 5] [] [.p 0, .p 1]), .unp (.t [.v 3, .v 4, .v 5, .v 6]) (.var 2), .par [false, false] [7, 8] [.isN (.call f__law_against [.var 3, .var 4, .var 5, .var 6] [] [.p 0, .p 1, .p 2, .p 3]), .bi .repr [.var 2]], .set 9 (.lst [.call f_follows [.var 3, .var 4, .var 5, .var 6] [] [.p 0, .p 1, .p 2, .p 3], .call f_follows [] [.var 6, .var 5, .var 4, .var 3] [.k 3, .k 2, .k 1, .k 0]]), .ite (.or (.cmp .ne (.bi .repr [.var 9]) (.bi .repr [.lst [.var 7, .var 7]])) (.or (.cmp .ne (.bi .repr [.var 2]) (.var 8)) (.isB true (.call f_follows [.var 3, .var 4, .var 5, .tup []] [] [.p 0, .p 1, .p 2, .p 3]) true))) [.ret (.bl false)] []],
    .ret (.bl true)]⟩
section
variable {T : List FDef} {G : Nat → Option Dat} {prim : Nat → Option (List Dat → (Dat → Prop) → Prop)}
def W_question (ds : List Dat) (Q : Dat → Prop) : Prop := ∃ most : Nat, ds = [.pot, .int most] ∧ 1 ≤ most ∧ most ≤ 8 ∧ ∀ names rules base goal, AskOk most names rules base goal → Q (dAsk names rules base goal)
theorem sp_question {f f1 f2 f3 f4 f5 : Nat} (hT : T[f]? = some (D__law_question f3 f4 f2 f5 f1)) (hp : prim f = none) (h1 : Sp T G prim f1 1 takeW) (h2 : Sp T G prim f2 2 W_of) (h3 : Sp T G prim f3 3 W_listed) (h4 : Sp T G prim f4 3 W_names) (h5 : Sp T G prim f5 4 W_ruled) : Sp T G prim f 5 W_question :=
  .of_def hT hp fun k hk ds Q ⟨most, e, hm1, hm8, q⟩ => by
    subst e
    have hbig : big = 16777216 := rfl
    refine ⟨rfl, ?_⟩
    unfold D__law_question
    rw [show startD 7 [.pot, .int most] = [.val .pot, .val (.int most), .no, .no, .no, .no, .no] from rfl]
    rw [execs, exec]
    simp only [ev, evs, getV, List.getElem?_cons_zero, List.getElem?_cons_succ, pickD, List.map, List.getD_cons_zero, List.getD_cons_succ, op2W]
    refine h1 k (by omega) _ _ ⟨⟨by omega, lt8k (by omega) (by omega)⟩, fun r hr0 hr1 => ?_⟩
    obtain ⟨m, rfl⟩ := Int.eq_ofNat_of_zero_le hr0
    refine h4 k (by omega) _ _ ⟨1 + m, by simp, by omega, fun names nok => ?_⟩
    have nk := nok.each
    have hlen := nok.len
    have hne : names ≠ [] := fun e => by rw [e] at hlen; simp at hlen; omega
    have hns : ∀ s ∈ names, s.length ≤ 1000 := fun s hs => by have := (nk s hs).hi; omega
    simp only [List.set_cons_zero, List.set_cons_succ]
    rw [execs, exec]
    simp only [ev, evs, getV, List.getElem?_cons_zero, List.getElem?_cons_succ, pickD, List.map, List.getD_cons_zero, List.getD_cons_succ, biW]
    refine h5 k (by omega) _ _ ⟨names, 5, rfl, hne, by omega, hns, by decide, fun rules rl rk => ?_⟩
    simp only [tR, tupleW]
    refine h3 k (by omega) _ _ ⟨names, 4, rfl, hne, by omega, hns, by decide, fun base bl bk => ?_⟩
    refine h3 k (by omega) _ _ ⟨names, 3, rfl, hne, by omega, hns, by decide, fun goal gl gk => ?_⟩
    refine ⟨rfl, ?_⟩
    have rk : ∀ r ∈ rules, RIOk names r ∧ r.1.length ≤ 3 ∧ r.2.length ≤ 3 := rk
    have rk8 : ∀ r ∈ rules, RIOk names r ∧ r.1.length ≤ 8 ∧ r.2.length ≤ 8 := fun r hr => by
      obtain ⟨a, b, c⟩ := rk r hr
      exact ⟨a, by omega, by omega⟩
    have fin : ∀ {base goal : List Nm}, IOk names base → base.length ≤ 8 → IOk names goal → goal.length ≤ 8 → Q (dAsk names rules base goal) := fun {base goal} b1 b2 g1 g2 => q names rules base goal ⟨by omega, by omega, nk, nok.asc, rl, rk8, b1, b2, g1, g2⟩
    rw [show Dat.tup (rules.map dR) = tR rules from rfl]
    simp only [setPar, List.reverse_cons, List.reverse_nil, List.nil_append, List.cons_append, List.set_cons_zero, List.set_cons_succ, Bool.false_eq_true, if_false]
    rw [execs, exec]
    simp only [ev, evs, getV, List.getElem?_cons_zero, List.getElem?_cons_succ, pickD, List.map, List.getD_cons_zero, List.getD_cons_succ]
    refine h1 k (by omega) _ _ ⟨⟨by decide, lt8k (by decide) (by decide)⟩, fun way hw0 hw1 => ?_⟩
    simp only [List.set_cons_zero, List.set_cons_succ]
    -- the end, from any names and values
    have ending : ∀ (s6 : Slot) {base goal : List Nm}, IOk names base → base.length ≤ 8 → IOk names goal → goal.length ≤ 8 → execs (callW T G prim k) G [.ret (.tup [.var 2, .var 3, .var 4, .var 5])] [.val .pot, .val (.int most), .val (tS names), .val (tR rules), .val (tS base), .val (tS goal), s6] { nx := fun _ => Q .non, rt := fun _ => Q } := fun s6 {base goal} b1 b2 g1 g2 => by
      rw [execs, exec]
      simp only [ev, evs, getV, List.getElem?_cons_zero, List.getElem?_cons_succ]
      exact fin b1 b2 g1 g2
    have pick : ∀ {Q' : Dat → Prop}, rules ≠ [] → (∀ r ∈ rules, Q' (dR r)) → W_of [.pot, tR rules] Q' := fun {Q'} hr hq => ⟨_, _, rfl, rfl, by simpa using hr, by rw [List.length_map]; omega, fun d hd => by
      obtain ⟨r, h, rfl⟩ := List.mem_map.mp hd
      exact hq r h⟩
    rw [execs, exec]
    simp only [ev, evs, getV, List.getElem?_cons_zero, List.getElem?_cons_succ, cmpW, boolW]
    refine ⟨okd_int _ _, okd_int _ _, ?_⟩
    have A1 : ∀ i j : Int, eqD (.int i) (.int j) = decide (i = j) := fun i j => by
      rw [eqD]
      by_cases h : i = j
      · subst h; simp
      · rw [beq_eq_false_iff_ne.mpr h, decide_eq_false h]
    -- behind the first test
    have rest1 : execs (callW T G prim k) G [.ite (.cmp .eq (.var 6) (.int 1)) [.set 5 (.op2 .add (.slc (.var 4) .non (.call f1 [.var 0, .op2 .add (.bi .len [.var 4]) (.int 1)] [] [.p 0, .p 1])) (.slc (.var 4) .non (.int 2)))] [.ite (.and (.cmp .eq (.var 6) (.int 2)) (.cmp .ne (.var 3) (.tup []))) [.set 4 (.op2 .add (.idx (.call f2 [.var 0, .var 3] [] [.p 0, .p 1]) (.int 0)) (.var 4)), .set 5 (.idx (.call f2 [.var 0, .var 3] [] [.p 0, .p 1]) (.int 1))] []]]
        [.val .pot, .val (.int most), .val (tS names), .val (tR rules), .val (tS base), .val (tS goal), .val (.int way)] { nx := fun δ => execs (callW T G prim k) G [.ret (.tup [.var 2, .var 3, .var 4, .var 5])] δ { nx := fun _ => Q .non, rt := fun _ => Q }, rt := fun _ => Q } := by
      rw [execs, exec]
      simp only [ev, evs, getV, List.getElem?_cons_zero, List.getElem?_cons_succ, cmpW, boolW]
      refine ⟨okd_int _ _, okd_int _ _, ?_⟩
      by_cases w1 : way = 1
      · rw [if_pos (by rw [A1]; exact decide_eq_true w1)]
        rw [execs, exec]
        simp only [ev, evs, getV, List.getElem?_cons_zero, List.getElem?_cons_succ, pickD, List.map, List.getD_cons_zero, List.getD_cons_succ, biW, lenW, tS, op2W, List.length_map]
        refine h1 k (by omega) _ _ ⟨⟨by omega, lt8k (by omega) (by omega)⟩, fun c hc0 hc1 => ?_⟩
        obtain ⟨c, rfl⟩ := Int.eq_ofNat_of_zero_le hc0
        simp only [sliceW]
        rw [show (2 : Int) = ((2 : Nat) : Int) from rfl, cut_to, cut_to, ← List.map_take, ← List.map_take, ← List.map_append]
        refine ⟨by simp only [List.length_map, List.length_take]; omega, ?_⟩
        simp only [List.set_cons_zero, List.set_cons_succ]
        rw [execs]
        dsimp only
        rw [execs]
        exact ending _ bk (by omega) ((IOk.take (names := names) bk c).append (IOk.take (names := names) bk 2)) (by simp only [List.length_append, List.length_take]; omega)
      · rw [if_neg (by rw [A1, decide_eq_false w1]; decide)]
        rw [execs, exec]
        simp only [ev, evs, getV, List.getElem?_cons_zero, List.getElem?_cons_succ, cmpW, boolW]
        refine ⟨okd_int _ _, okd_int _ _, ?_⟩
        by_cases w2 : way = 2
        · rw [if_pos (by rw [A1]; exact decide_eq_true w2)]
          refine ⟨okd_tR _ _, fun x hx => (nomatch hx), ?_⟩
          by_cases hr : rules = []
          · rw [if_neg (by rw [eq_tR_nil, decide_eq_true hr]; decide), execs]
            dsimp only
            rw [execs]
            dsimp only
            rw [execs]
            exact ending _ bk (by omega) gk (by omega)
          · rw [if_pos (by rw [eq_tR_nil, decide_eq_false hr]; rfl)]
            rw [execs, exec]
            simp only [ev, evs, getV, List.getElem?_cons_zero, List.getElem?_cons_succ, pickD, List.map, List.getD_cons_zero, List.getD_cons_succ]
            refine h2 k (by omega) _ _ (pick hr fun r hr2 => ?_)
            obtain ⟨r1, r2, r3⟩ := rk r hr2
            simp only [idxW, dR]
            refine ⟨_, at_zero _ _, ?_⟩
            simp only [op2W, tS]
            rw [← List.map_append]
            refine ⟨by simp only [List.length_map]; omega, ?_⟩
            simp only [List.set_cons_zero, List.set_cons_succ]
            rw [execs, exec]
            simp only [ev, evs, getV, List.getElem?_cons_zero, List.getElem?_cons_succ, pickD, List.map, List.getD_cons_zero, List.getD_cons_succ]
            refine h2 k (by omega) _ _ (pick hr fun r' hr3 => ?_)
            obtain ⟨q1, q2, q3⟩ := rk r' hr3
            simp only [idxW, dR]
            refine ⟨_, rfl, ?_⟩
            simp only [List.set_cons_zero, List.set_cons_succ]
            rw [execs]
            dsimp only
            rw [execs]
            dsimp only
            rw [execs]
            exact ending _ (r1.1.append bk) (by simp only [List.length_append]; omega) q1.2 (by omega)
        · rw [if_neg (by rw [A1, decide_eq_false w2]; decide)]
          simp only [Bool.false_eq_true, if_false]
          rw [execs]
          dsimp only
          rw [execs]
          dsimp only
          rw [execs]
          exact ending _ bk (by omega) gk (by omega)
    by_cases w0 : way = 0
    · rw [if_pos (by rw [A1]; exact decide_eq_true w0)]
      refine ⟨okd_tR _ _, fun x hx => (nomatch hx), ?_⟩
      by_cases hr : rules = []
      · rw [if_neg (by rw [eq_tR_nil, decide_eq_true hr]; decide)]
        exact rest1
      · rw [if_pos (by rw [eq_tR_nil, decide_eq_false hr]; rfl)]
        rw [execs, exec]
        simp only [ev, evs, getV, List.getElem?_cons_zero, List.getElem?_cons_succ, pickD, List.map, List.getD_cons_zero, List.getD_cons_succ]
        refine h2 k (by omega) _ _ (pick hr fun r hr2 => ?_)
        obtain ⟨r1, r2, r3⟩ := rk r hr2
        simp only [dR, bindP, bindPs, List.set_cons_zero, List.set_cons_succ]
        rw [execs]
        exact ending _ r1.1 (by omega) r1.2 (by omega)
    · rw [if_neg (by rw [A1, decide_eq_false w0]; decide)]
      simp only [Bool.false_eq_true, if_false]
      exact rest1
theorem sp_right09 {f f1 f2 f3 : Nat} (hpm : PM prim) (hT : T[f]? = some (D__law_right f1 f2 f3)) (hp : prim f = none) (h1 : Sp T G prim f1 4 W_lagainst) (h2 : Sp T G prim f2 5 W_question) (h3 : Sp T G prim f3 7 W_follows) : Sp T G prim f 8 W_right :=
  .of_def hT hp fun k hk ds Q ⟨e, q⟩ => by
    subst e
    have hbig : big = 16777216 := rfl
    refine ⟨rfl, ?_⟩
    unfold D__law_right
    rw [show startD 10 [.pot] = [.val .pot, .no, .no, .no, .no, .no, .no, .no, .no, .no] from rfl]
    rw [execs, exec]
    simp only [ev, rangeW]
    refine ⟨⟨by decide, by decide⟩, _, rfl, ?_⟩
    refine forW_each (fun δ D D' h => execs_mono (callW_mono hpm k) _ δ D D' h) (fun δ => ∃ s1 s2 s3 s4 s5 s6 s7 s8 s9 : Slot, δ = [.val .pot, s1, s2, s3, s4, s5, s6, s7, s8, s9]) _ _ ⟨_, _, _, _, _, _, _, _, _, rfl⟩ ?_ ?_
    · intro d hd δ' ⟨s1, s2, s3, s4, s5, s6, s7, s8, s9, e1⟩
      subst e1
      rw [bindP]
      simp only [List.set_cons_zero, List.set_cons_succ]
      rw [execs, exec]
      simp only [ev, evs, getV, List.getElem?_cons_zero, List.getElem?_cons_succ, pickD, List.map, List.getD_cons_zero, List.getD_cons_succ]
      refine h2 k (by omega) _ _ ⟨5, rfl, by decide, by decide, fun names rules base goal ok => ?_⟩
      have rp := ok.rp (by decide)
      have n12 : names.length ≤ 12 := by have := ok.n2; omega
      have rI : ∀ r ∈ rules, RIOk names r := fun r hr => (ok.rk r hr).1
      have rO : ∀ r ∈ rules, ROk names r := fun r hr => (rI r hr).l ok.nk
      simp only [List.set_cons_zero, List.set_cons_succ]
      rw [execs, exec]
      simp only [ev, getV, List.getElem?_cons_zero, List.getElem?_cons_succ, dAsk, bindP, bindPs, List.set_cons_zero, List.set_cons_succ]
      rw [show Dat.tup [tS names, tR rules, tS base, tS goal] = dAsk names rules base goal from rfl]
      rw [execs, exec]
      simp only [ev, evs, getV, List.getElem?_cons_zero, List.getElem?_cons_succ, pickD, List.map, List.getD_cons_zero, List.getD_cons_succ, biW, reprW]
      refine h1 k (by omega) _ _ ⟨names, rules, base, goal, rfl, n12, ok.nk, rI, ok.bk, ok.gk, ?_⟩
      refine ⟨rp, rfl, ?_⟩
      rw [isNon_opt, show (contraS names rules base goal).isNone = followsS names rules base goal from rfl]
      simp only [setPar, List.reverse_cons, List.reverse_nil, List.nil_append, List.cons_append, List.set_cons_zero, List.set_cons_succ, Bool.false_eq_true, if_false]
      rw [execs, exec]
      simp only [ev, evs, getV, List.getElem?_cons_zero, List.getElem?_cons_succ, pickD, List.map, List.getD_cons_zero, List.getD_cons_succ]
      refine h3 k (by omega) _ _ ⟨names, rules, base, goal, rfl, n12, rO, ok.bk.l ok.nk, ok.gk.l ok.nk, ?_⟩
      refine h3 k (by omega) _ _ ⟨names, rules, base, goal, rfl, n12, rO, ok.bk.l ok.nk, ok.gk.l ok.nk, ?_⟩
      simp only [List.set_cons_zero, List.set_cons_succ]
      rw [execs, exec]
      simp only [ev, evs, getV, List.getElem?_cons_zero, List.getElem?_cons_succ, biW, reprW, cmpW, boolW]
      have rl : rpd 60 big (.lst [.bl (followsS names rules base goal), .bl (followsS names rules base goal)]) := rpd_lB (l := [followsS names rules base goal, followsS names rules base goal]) (by simp [hbig])
      refine ⟨rl, rl, okd_str _ _, okd_str _ _, ?_⟩
      rw [if_neg (by rw [eqD, beq_self_eq_true]; decide)]
      refine ⟨rp, okd_str _ _, okd_str _ _, ?_⟩
      rw [if_neg (by rw [eqD, beq_self_eq_true]; decide)]
      simp only [pickD, List.map, List.getD_cons_zero, List.getD_cons_succ]
      refine h3 k (by omega) _ _ ⟨names, rules, base, [], rfl, n12, rO, ok.bk.l ok.nk, fun s hs => (nomatch hs), ?_⟩
      have hf : followsS names rules base [] = true := by
        unfold followsS contraS
        have : (allowedS names rules).find? (agS names base []) = none := List.find?_eq_none.mpr fun sg hsg => by
          unfold agS
          rw [show lexS names sg [] = 0 from rfl]
          simp
        rw [this]; rfl
      rw [hf]
      dsimp only
      rw [show (((true : Bool) == true) != true) = false from rfl, if_neg Bool.false_ne_true]
      rw [execs]
      dsimp only
      rw [execs]
      exact ⟨_, _, _, _, _, _, _, _, _, rfl⟩
    · intro δ' ⟨s1, s2, s3, s4, s5, s6, s7, s8, s9, e1⟩
      dsimp only
      rw [execs, exec]
      simp only [ev]
      exact q
end
end SF

/-! P23: law k23, plain. -/
namespace SF
open PySem L2 SF
/-! ### the opposite signs -/
def negS (sg : List Int) : List Int := sg.map fun x => 0 - x
theorem everyS_all : ∀ (n : Nat) (sg : List Int), sg.length = n → Sg sg → sg ∈ everyS n
  | 0, sg, h, _ => by
    have : sg = [] := List.eq_nil_of_length_eq_zero h
    rw [this, everyS]; simp
  | n + 1, sg, h, hs => by
    have hne : sg ≠ [] := fun e => by rw [e] at h; cases h
    have e : sg = sg.dropLast ++ [sg.getLast hne] := (List.dropLast_concat_getLast hne).symm
    have h1 : sg.dropLast.length = n := by rw [List.length_dropLast, h]; rfl
    have h2 : Sg sg.dropLast := fun x hx => hs x ((List.dropLast_sublist _).subset hx)
    have h3 := hs _ (List.getLast_mem hne)
    rw [everyS, List.mem_flatMap]
    refine ⟨sg.dropLast, everyS_all n _ h1 h2, ?_⟩
    generalize sg.getLast hne = v at e h3
    simp only [List.mem_cons, List.not_mem_nil, or_false]
    rcases h3 with rfl | rfl | rfl
    · exact .inl e
    · exact .inr (.inl e)
    · exact .inr (.inr e)
theorem neg_getD (sg : List Int) (n : Nat) : (negS sg).getD n 0 = 0 - sg.getD n 0 := by
  unfold negS
  rw [List.getD_eq_getElem?_getD, List.getD_eq_getElem?_getD, List.getElem?_map]
  cases sg[n]? <;> simp
theorem lexS_neg (names : List Nm) (sg : List Int) : ∀ w, lexS names (negS sg) w = 0 - lexS names sg w
  | [] => by rw [lexS, lexS]; rfl
  | s :: r => by
    rw [lexS, lexS, neg_getD]
    by_cases h : sg.getD (plc names (colOf s)) 0 = 0
    · rw [if_pos h, if_pos (by omega)]
      exact lexS_neg names sg r
    · rw [if_neg h, if_neg (by omega)]
      split <;> omega
theorem keepsS_neg (names : List Nm) (sg : List Int) (r : Rl) : keepsS names (negS sg) r = keepsS names sg r := by
  unfold keepsS
  rw [lexS_neg, lexS_neg]
  rw [Bool.eq_iff_iff]
  simp only [Bool.or_eq_true, beq_iff_eq]
  omega
theorem allowedS_iff {names : List Nm} {rules : List Rl} {sg : List Int} : sg ∈ allowedS names rules ↔ sg.length = names.length ∧ Sg sg ∧ rules.all (keepsS names sg) = true := by
  unfold allowedS
  rw [List.mem_filter]
  constructor
  · intro ⟨h1, h2⟩
    obtain ⟨a, b⟩ := everyS_len _ _ h1
    exact ⟨a, b, h2⟩
  · intro ⟨a, b, c⟩
    exact ⟨everyS_all _ _ a b, c⟩
theorem allowedS_neg {names : List Nm} {rules : List Rl} {sg : List Int} (h : sg ∈ allowedS names rules) : negS sg ∈ allowedS names rules := by
  rw [allowedS_iff] at h ⊢
  obtain ⟨a, b, c⟩ := h
  refine ⟨by unfold negS; rw [List.length_map, a], fun x hx => ?_, ?_⟩
  · obtain ⟨y, hy, rfl⟩ := List.mem_map.mp hx
    have := b y hy
    omega
  · rw [List.all_eq_true] at c ⊢
    intro r hr
    rw [keepsS_neg]
    exact c r hr
theorem followsS_iff {names : List Nm} {rules : List Rl} {known wanted : List Nm} : followsS names rules known wanted = true ↔ ∀ sg ∈ allowedS names rules, ¬ (lexS names sg known < 1 ∧ 0 < lexS names sg wanted) := by
  unfold followsS contraS
  rw [Option.isNone_iff_eq_none, List.find?_eq_none]
  constructor
  · intro h sg hsg ⟨h1, h2⟩
    refine h sg hsg ?_
    unfold agS
    rw [decide_eq_true h1, decide_eq_true h2]; rfl
  · intro h sg hsg e
    unfold agS at e
    rw [Bool.and_eq_true, decide_eq_true_eq, decide_eq_true_eq] at e
    exact h sg hsg e
/-- the comparisons are equal everywhere -/
def sameS (names : List Nm) (rules : List Rl) (a b : List Nm) : Bool := (allowedS names rules).all fun sg => lexS names sg a == lexS names sg b
theorem sameS_comm (names : List Nm) (rules : List Rl) (a b : List Nm) : sameS names rules a b = sameS names rules b a := by
  unfold sameS
  congr 1
  funext sg
  exact ib _ _
theorem equalS (names : List Nm) (rules : List Rl) (a b : List Nm) : (followsS names rules a b && followsS names rules b a) = sameS names rules a b := by
  rw [Bool.eq_iff_iff, Bool.and_eq_true, followsS_iff, followsS_iff]
  unfold sameS
  rw [List.all_eq_true]
  constructor
  · intro ⟨h1, h2⟩ sg hsg
    rw [beq_iff_eq]
    have hS := (allowedS_mem hsg).2
    have a1 := h1 sg hsg; have a2 := h2 sg hsg
    have b1 := h1 _ (allowedS_neg hsg); have b2 := h2 _ (allowedS_neg hsg)
    rw [lexS_neg, lexS_neg] at b1 b2
    have c1 := lexS_le hS a (names := names); have c2 := lexS_le hS b (names := names)
    omega
  · intro h
    refine ⟨fun sg hsg => ?_, fun sg hsg => ?_⟩
    · have := h sg hsg
      rw [beq_iff_eq] at this
      omega
    · have := h sg hsg
      rw [beq_iff_eq] at this
      omega
/-- _law_names(_law_pot_here, _law_many, _law_letters, _law_begin, _law_leap, _law_turn, _law_stem, _law_cut, _law_some, _law_letter) -/
def D__law_namesB (f__law_of f__law_take : Nat) : FDef := ⟨2, 10, [
    .set 2 (.str [97, 98, 99, 100, 101, 102, 103, 104, 105, 106, 107, 108, 109, 110, 111, 112, 113, 114, 115, 116, 117, 118, 119, 120, 121, 122]),
    .unp (.t [.v 3, .v 4]) (.tup [.call f__law_take [.var 0, .int 26] [] [.p 0, .p 1], .call f__law_of [.var 0, .lst [.int 1, .int 3, .int 5, .int 7, .int 9, .int 11]] [] [.p 0, .p 1]]),
    .set 6 (.me .join (.str []) [.comp [5] (.v 5) (.range (.call f__law_of [.var 0, .lst [.int 0, .int 0, .int 1, .int 3, .int 7]] [] [.p 0, .p 1])) (.bl true) (.call f__law_of [.var 0, .var 2] [] [.p 0, .p 1])]),
    .set 7 (.call f__law_take [.var 0, .op2 .add (.bi .len [.var 6]) (.int 1)] [] [.p 0, .p 1]),
    .set 8 (.comp [5] (.v 5) (.range (.var 1)) (.bl true) (.idx (.var 2) (.op2 .mod (.op2 .add (.var 3) (.op2 .mul (.var 4) (.var 5))) (.int 26)))),
    .ret (.bi .tuple [.bi .sorted [.comp [9] (.v 9) (.var 8) (.bl true) (.op2 .add (.op2 .add (.slc (.var 6) .non (.var 7)) (.var 9)) (.slc (.var 6) (.var 7) .non))]])]⟩
/-- _law_items(_law_names_here, _law_name) -/
def D__law_items : FDef := ⟨1, 2, [
    .ret (.bi .sorted [.op2 .add (.comp [1] (.v 1) (.var 0) (.bl true) (.op2 .add (.str [45]) (.var 1))) (.bi .list [.var 0])])]⟩
/-- _law_same(_law_names_here, _law_free_here, _law_wish, _law_its, _law_signs) -/
def D__law_same (f__law_lex : Nat) : FDef := ⟨4, 5, [
    .for (.v 4) (.var 1) [.ite (.cmp .ne (.call f__law_lex [.var 0, .var 4, .var 2] [] [.p 0, .p 1, .p 2]) (.call f__law_lex [.var 0, .var 4, .var 3] [] [.p 0, .p 1, .p 2])) [.ret (.bl false)] []],
    .ret (.bl true)]⟩
/-- _law_near(_law_pot_here, _law_names_here, _law_wish, _law_at, _law_way) -/
def D__law_near (f__law_items f__law_of f__law_take : Nat) : FDef := ⟨3, 5, [
    .par [false, false] [3, 4] [.call f__law_take [.var 0, .op2 .add (.bi .len [.var 2]) (.int 1)] [] [.p 0, .p 1], .call f__law_take [.var 0, .int 4] [] [.p 0, .p 1]],
    .ite (.cmp .eq (.var 4) (.int 0)) [.ret (.op2 .add (.var 2) (.slc (.var 2) .non (.int 1)))] [],
    .ite (.cmp .eq (.var 4) (.int 1)) [.ret (.op2 .add (.slc (.var 2) .non (.var 3)) (.slc (.var 2) (.op2 .add (.var 3) (.int 1)) .non))] [],
    .ite (.cmp .eq (.var 4) (.int 2)) [.ret (.slc (.op2 .add (.op2 .add (.slc (.var 2) .non (.var 3)) (.tup [.call f__law_of [.var 0, .call f__law_items [.var 1] [] [.p 0]] [] [.p 0, .p 1]])) (.slc (.var 2) (.var 3) .non)) .non (.int 8))] [],
    .ret (.var 2)]⟩
/-- equal_lists(columns, rules, one, other) -/
def D_equal_lists (f_follows : Nat) : FDef := ⟨4, 4, [
    .ret (.and (.call f_follows [.var 0, .var 1, .var 2, .var 3] [] [.p 0, .p 1, .p 2, .p 3]) (.call f_follows [.var 0, .var 1, .var 3, .var 2] [] [.p 0, .p 1, .p 2, .p 3]))]⟩
/-- law(_law_script, _law_k, _law_pot_here, _law_names_here, _law_pairs, _law_free_here, _law_turn, _law_wish, _law_its, _law_due, _law_kept, _law_told) -/
def D_law23 (f__law_free f__law_listed f__law_names f__law_near f__law_pot f__law_ruled f__law_same f__law_take f_equal_lists : Nat) : FDef := ⟨1, 12, [
    .for (.v 1) (.range (.bi .max [.int 1, .bi .min [.int 3, .bi .len [.var 0]]])) [.set 2 (.call f__law_pot [.var 0, .var 1] [] [.p 0, .p 1]), .set 3 (.call f__law_names [.var 2, .op2 .add (.int 1) (.call f__law_take [.var 2, .int 5] [] [.p 0, .p 1])] [] [.p 0, .p 1]), .set 4 (.call f__law_ruled [.var 2, .var 3, .int 3] [] [.p 0, .p 1, .p 2]), .set 5 (.call f__law_free [.var 3, .var 4] [] [.p 0, .p 1]), .for (.v 6) (.range (.int 8)) [.set 7 (.call f__law_listed [.var 2, .var 3, .int 6] [] [.p 0, .p 1, .p 2]), .set 8 (.ite (.cmp .eq (.call f__law_take [.var 2, .int 2] [] [.p 0, .p 1]) (.int 0)) (.call f__law_near [.var 2, .var 3, .var 7] [] [.p 0, .p 1, .p 2]) (.call f__law_listed [.var 2, .var 3, .int 6] [] [.p 0, .p 1, .p 2])), .par [false, false] [9, 10] [.bi .repr [.call f__law_same [.var 3, .var 5, .var 7, .var 8] [] [.p 0, .p 1, .p 2, .p 3]], .bi .repr [.tup [.var 3, .var 4, .var 7, .var 8]]], .set 11 (.lst [.call f_equal_lists [.var 3, .var 4, .var 7, .var 8] [] [.p 0, .p 1, .p 2, .p 3], .call f_equal_lists [.var 3, .var 4, .var 8, .var 7] [] [.p 0, .p 1, .p 2, .p 3]]), .ite (.or (.cmp .ne (.bi .repr [.idx (.var 11) (.int 0)]) (.var 9)) (.cmp .ne (.bi .repr [.idx (.var 11) (.int 1)]) (.var 9))) [.ret (.bl false)] [], .ite (.cmp .ne (.bi .repr [.tup [.var 3, .var 4, .var 7, .var 8]]) (.var 10)) [.ret (.bl false)] []]],
    .ret (.bl true)]⟩
section
variable {T : List FDef} {G : Nat → Option Dat} {prim : Nat → Option (List Dat → (Dat → Prop) → Prop)}
theorem sp_namesB {f f1 f2 : Nat} (hT : T[f]? = some (D__law_namesB f2 f1)) (hp : prim f = none) (h1 : Sp T G prim f1 1 takeW) (h2 : Sp T G prim f2 2 W_of) : Sp T G prim f 3 W_names :=
  .of_def hT hp fun k hk ds Q ⟨n, e, hn, q⟩ => by
    subst e
    refine ⟨rfl, ?_⟩
    unfold D__law_namesB
    rw [show startD 10 [.pot, .int n] = [.val .pot, .val (.int n), .no, .no, .no, .no, .no, .no, .no, .no] from rfl]
    rw [execs, exec]
    simp only [ev, List.set_cons_zero, List.set_cons_succ]
    rw [execs, exec]
    simp only [ev, evs, getV, List.getElem?_cons_zero, List.getElem?_cons_succ, pickD, List.map, List.getD_cons_zero, List.getD_cons_succ]
    refine h1 k (by omega) _ _ ⟨⟨by decide, lt8000 (by decide) (by decide)⟩, fun a ha0 ha1 => ?_⟩
    refine h2 k (by omega) _ _ ⟨_, _, rfl, rfl, by simp, by decide, fun d hd => ?_⟩
    have hleap : ∃ leap : Int, d = .int leap ∧ (leap = 1 ∨ leap = 3 ∨ leap = 5 ∨ leap = 7 ∨ leap = 9 ∨ leap = 11) := by
      simp only [List.mem_cons, List.not_mem_nil, or_false] at hd
      rcases hd with rfl | rfl | rfl | rfl | rfl | rfl <;> exact ⟨_, rfl, by decide⟩
    obtain ⟨leap, rfl, hlp⟩ := hleap
    simp only [bindP, bindPs, List.set_cons_zero, List.set_cons_succ]
    rw [execs, exec]
    simp only [ev, evs, getV, List.getElem?_cons_zero, List.getElem?_cons_succ, pickD, List.map, List.getD_cons_zero, List.getD_cons_succ]
    refine ⟨rfl, ?_⟩
    refine h2 k (by omega) _ _ ⟨_, _, rfl, rfl, by simp, by decide, fun d hd => ?_⟩
    have hr : ∃ r : Nat, d = .int r ∧ r ≤ 7 := by
      simp only [List.mem_cons, List.not_mem_nil, or_false] at hd
      rcases hd with rfl | rfl | rfl | rfl | rfl
      · exact ⟨0, rfl, by decide⟩
      · exact ⟨0, rfl, by decide⟩
      · exact ⟨1, rfl, by decide⟩
      · exact ⟨3, rfl, by decide⟩
      · exact ⟨7, rfl, by decide⟩
    obtain ⟨r, rfl, hr7⟩ := hr
    have hb : big = 16777216 := rfl
    refine ⟨⟨by omega, by omega⟩, _, rfl, ?_⟩
    refine mapW_all (fun _ y => ∃ c, y = .str [c] ∧ (97 ≤ c ∧ c ≤ 122)) _ _ (fun x hx Q' hQ' => ?_) fun ys hys => ?_
    · rw [bindP]
      simp only [wipeD, List.set_cons_zero, List.set_cons_succ, boolW, if_true, List.getElem?_cons_zero, List.getElem?_cons_succ]
      refine h2 k (by omega) _ _ ⟨_, _, rfl, rfl, by simp, by simp [big], fun d hd => ?_⟩
      obtain ⟨c, hc, rfl⟩ := List.mem_map.mp hd
      exact hQ' _ ⟨c, rfl, abc_mem hc⟩
    · obtain ⟨cs, rfl, hcs⟩ := hys.pull (S := fun _ c => 97 ≤ c ∧ c ≤ 122) (fun c : Nat => Dat.str [c]) fun _ b ⟨c, h1, h2⟩ => ⟨c, h1, h2⟩
      have hlen : cs.length = r := by
        have := hcs.length
        simp at this
        omega
      have hlet : Letters cs := hcs.all
      have ess : cs.map (fun c : Nat => Dat.str [c]) = (cs.map fun c => [c]).map Dat.str := by rw [List.map_map]; rfl
      simp only [meW, joinW]
      refine ⟨cs.map fun c => [c], ess, by rw [sum_ones]; simp; omega, ?_⟩
      rw [joinS_nil]
      simp only [List.set_cons_zero, List.set_cons_succ]
      rw [execs, exec]
      simp only [ev, evs, getV, List.getElem?_cons_zero, List.getElem?_cons_succ, pickD, List.map, List.getD_cons_zero, List.getD_cons_succ, biW, lenW, op2W]
      refine h1 k (by omega) _ _ ⟨⟨by omega, lt8k (by omega) (by omega)⟩, fun ct hc0 hc1 => ?_⟩
      obtain ⟨c, rfl⟩ := Int.eq_ofNat_of_zero_le hc0
      simp only [List.set_cons_zero, List.set_cons_succ]
      rw [execs, exec]
      simp only [ev, getV, List.getElem?_cons_zero, List.getElem?_cons_succ, rangeW]
      refine ⟨⟨by omega, by omega⟩, _, rfl, ?_⟩
      rw [Int.toNat_natCast]
      have hat : ∀ t : Nat, atD (abc.map fun c => Dat.str [c]) ((a + leap * (t : Nat)) % 26) = some (.str [97 + ((a + leap * (t : Nat)) % 26).toNat]) := fun t => by
        have h1 := Int.emod_nonneg (a + leap * (t : Nat)) (show (26 : Int) ≠ 0 by decide)
        have h2 := Int.emod_lt_of_pos (a + leap * (t : Nat)) (show (0 : Int) < 26 by decide)
        obtain ⟨i, hi⟩ := Int.eq_ofNat_of_zero_le h1
        rw [hi] at h2 ⊢
        rw [Int.toNat_natCast]
        refine atD_nat ?_
        rw [List.getElem?_map, abc_at (by omega)]
        rfl
      refine mapW_on (fun i : Nat => Dat.int i) (fun t => some (.str [97 + ((a + leap * (t : Nat)) % 26).toNat])) (List.range n) _ (fun t ht Q' q' => ?_) ?_
      · rw [bindP]
        simp only [wipeD, List.set_cons_zero, List.set_cons_succ, boolW, if_true, getV, List.getElem?_cons_zero, List.getElem?_cons_succ, op2W, idxW]
        refine ⟨.inl (.inl (by rcases hlp with rfl | rfl | rfl | rfl | rfl | rfl <;> decide)), by decide, _, hat t, q'⟩
      · rw [List.filterMap_eq_map']
        simp only [List.set_cons_zero, List.set_cons_succ]
        rw [execs, exec]
        simp only [ev, evs, getV, List.getElem?_cons_zero, List.getElem?_cons_succ, biW, sortedW]
        refine ⟨_, rfl, ?_⟩
        refine mapW_on (fun t : Nat => Dat.str [97 + ((a + leap * (t : Nat)) % 26).toNat]) (fun t => some (.str (nameAt cs c a leap t))) (List.range n) _ (fun t ht Q' q' => ?_) ?_
        · rw [bindP]
          simp only [wipeD, List.set_cons_zero, List.set_cons_succ, boolW, if_true, getV, List.getElem?_cons_zero, List.getElem?_cons_succ, op2W, sliceW]
          have hd1 : (cs.take c).length ≤ 7 := by rw [List.length_take]; omega
          have hd2 : (cs.drop c).length ≤ 7 := by rw [List.length_drop]; omega
          rw [cut_to, cut_from]
          exact ⟨by simp only [List.length_cons, List.length_nil]; omega, by simp only [List.length_append, List.length_cons, List.length_nil]; omega, q'⟩
        · rw [List.filterMap_eq_map', show (List.range n).map (fun t => Dat.str (nameAt cs c a leap t)) = ((List.range n).map (nameAt cs c a leap)).map Dat.str by rw [List.map_map]; rfl]
          refine ⟨alike_strs _, ok_strs _, ?_⟩
          rw [sort_strs]
          simp only [tupleW]
          exact q _ (namesOk_sort hlp hlet (by omega) hn)
/-- every item of these columns -/
def W_items (ds : List Dat) (Q : Dat → Prop) : Prop := ∃ names : List Nm, ds = [tS names] ∧ names.length ≤ 10000 ∧ (∀ s ∈ names, s.length ≤ 1000) ∧ ∀ items : List Nm, items.length = names.length + names.length → IOk names items → Q (.lst (items.map .str))
theorem sp_items {f : Nat} (hT : T[f]? = some D__law_items) (hp : prim f = none) : Sp T G prim f 1 W_items :=
  .of_def hT hp fun k hk ds Q ⟨names, e, hl, hs, q⟩ => by
    subst e
    have hb : big = 16777216 := rfl
    refine ⟨rfl, ?_⟩
    unfold D__law_items
    rw [show startD 2 [tS names] = [.val (tS names), .no] from rfl]
    rw [execs, exec]
    simp only [ev, evs, getV, List.getElem?_cons_zero, List.getElem?_cons_succ, biW, sortedW, op2W, listW, tS]
    refine ⟨_, rfl, ?_⟩
    refine mapW_on Dat.str (fun n => some (.str (45 :: n))) names _ (fun n hn Q' q' => ?_) ?_
    · rw [bindP]
      simp only [wipeD, List.set_cons_zero, List.set_cons_succ, boolW, if_true, getV, List.getElem?_cons_zero, List.getElem?_cons_succ, op2W]
      have := hs n hn
      exact ⟨by simp only [List.length_cons, List.length_nil]; omega, q'⟩
    · rw [List.filterMap_eq_map', show names.map (fun n => Dat.str (45 :: n)) = (names.map fun n => 45 :: n).map Dat.str by rw [List.map_map]; rfl, ← List.map_append]
      refine ⟨by simp only [List.length_map]; omega, alike_strs _, ok_strs _, ?_⟩
      rw [sort_strs]
      refine q _ (by rw [List.length_mergeSort]; simp) fun s hs => ?_
      rw [List.mem_mergeSort] at hs
      rcases List.mem_append.mp hs with h | h
      · obtain ⟨n, hn, rfl⟩ := List.mem_map.mp h
        exact ⟨n, hn, .inr rfl⟩
      · exact ⟨s, h, .inl rfl⟩
def W_same (ds : List Dat) (Q : Dat → Prop) : Prop := ∃ (names : List Nm) (rules : List Rl) (a b : List Nm), ds = [tS names, .lst ((allowedS names rules).map tI), tS a, tS b] ∧ (∀ n ∈ names, NameOk n) ∧ IOk names a ∧ IOk names b ∧ Q (.bl (sameS names rules a b))
theorem sp_same {f f1 : Nat} (hpm : PM prim) (hT : T[f]? = some (D__law_same f1)) (hp : prim f = none) (h1 : Sp T G prim f1 1 W_llex) : Sp T G prim f 2 W_same :=
  .of_def hT hp fun k hk ds Q ⟨names, rules, a, b, e, hn, ha, hb, q⟩ => by
    subst e
    refine ⟨rfl, ?_⟩
    unfold D__law_same
    rw [show startD 5 [tS names, .lst ((allowedS names rules).map tI), tS a, tS b] = [.val (tS names), .val (.lst ((allowedS names rules).map tI)), .val (tS a), .val (tS b), .no] from rfl]
    rw [execs, exec]
    simp only [ev, getV, List.getElem?_cons_zero, List.getElem?_cons_succ]
    refine ⟨_, rfl, ?_⟩
    unfold sameS at q
    refine forW_list (fun δ D D' h => execs_mono (callW_mono hpm k) _ δ D D' h) tI (allowedS names rules) (fun done rest δ => ∃ (s4 : Slot), δ = [.val (tS names), .val (.lst ((allowedS names rules).map tI)), .val (tS a), .val (tS b), s4] ∧ (rest.all fun sg => lexS names sg a == lexS names sg b) = ((allowedS names rules).all fun sg => lexS names sg a == lexS names sg b)) _ ⟨_, rfl, rfl⟩ ?_ ?_
    · intro done sg rest δ' e ⟨s4, e1, e2⟩
      subst e1
      have hsg : sg ∈ allowedS names rules := by rw [e]; simp
      obtain ⟨hl, hS⟩ := allowedS_mem hsg
      rw [List.all_cons] at e2
      rw [bindP]
      simp only [List.set_cons_zero, List.set_cons_succ]
      rw [execs, exec]
      simp only [ev, evs, getV, List.getElem?_cons_zero, List.getElem?_cons_succ, pickD, List.map, List.getD_cons_zero, List.getD_cons_succ]
      refine h1 k (by omega) _ _ ⟨names, _, sg, a, rfl, .inl rfl, hn, hl, ha, ?_⟩
      refine h1 k (by omega) _ _ ⟨names, _, sg, b, rfl, .inl rfl, hn, hl, hb, ?_⟩
      simp only [cmpW, boolW]
      refine ⟨okd_int _ _, okd_int _ _, ?_⟩
      by_cases h : lexS names sg a = lexS names sg b
      · rw [if_neg (by rw [eqD, h, beq_self_eq_true]; decide), execs]
        dsimp only
        rw [execs]
        rw [h, beq_self_eq_true, Bool.true_and] at e2
        exact ⟨_, rfl, e2⟩
      · rw [if_pos (by rw [eqD, beq_eq_false_iff_ne.mpr h]; rfl), execs, exec]
        simp only [ev]
        rw [beq_eq_false_iff_ne.mpr h, Bool.false_and] at e2
        rw [← e2] at q
        exact q
    · intro δ' ⟨s4, e1, e2⟩
      subst e1
      dsimp only
      rw [execs, exec]
      simp only [ev]
      rw [← e2] at q
      exact q
def W_near (ds : List Dat) (Q : Dat → Prop) : Prop := ∃ (names : List Nm) (wish : List Nm), ds = [.pot, tS names, tS wish] ∧ names ≠ [] ∧ names.length ≤ 10000 ∧ (∀ s ∈ names, s.length ≤ 1000) ∧ IOk names wish ∧ wish.length ≤ 7 ∧ ∀ its : List Nm, IOk names its → its.length ≤ 8 → Q (tS its)
theorem sp_near {f f1 f2 f3 : Nat} (hT : T[f]? = some (D__law_near f3 f2 f1)) (hp : prim f = none) (h1 : Sp T G prim f1 1 takeW) (h2 : Sp T G prim f2 2 W_of) (h3 : Sp T G prim f3 1 W_items) : Sp T G prim f 3 W_near :=
  .of_def hT hp fun k hk ds Q ⟨names, wish, e, hne, hl, hs, hw, wl, q⟩ => by
    subst e
    have hb : big = 16777216 := rfl
    refine ⟨rfl, ?_⟩
    unfold D__law_near
    rw [show startD 5 [.pot, tS names, tS wish] = [.val .pot, .val (tS names), .val (tS wish), .no, .no] from rfl]
    rw [execs, exec]
    simp only [ev, evs, getV, List.getElem?_cons_zero, List.getElem?_cons_succ, pickD, List.map, List.getD_cons_zero, List.getD_cons_succ, biW, lenW, tS, op2W, List.length_map]
    refine h1 k (by omega) _ _ ⟨⟨by omega, lt8k (by omega) (by omega)⟩, fun c hc0 hc1 => ?_⟩
    obtain ⟨c, rfl⟩ := Int.eq_ofNat_of_zero_le hc0
    refine h1 k (by omega) _ _ ⟨⟨by decide, lt8k (by decide) (by decide)⟩, fun way hw0 hw1 => ?_⟩
    refine ⟨rfl, ?_⟩
    simp only [setPar, List.reverse_cons, List.reverse_nil, List.nil_append, List.cons_append, List.set_cons_zero, List.set_cons_succ, Bool.false_eq_true, if_false]
    have A1 : ∀ i j : Int, eqD (.int i) (.int j) = decide (i = j) := fun i j => by
      rw [eqD]
      by_cases h : i = j
      · subst h; simp
      · rw [beq_eq_false_iff_ne.mpr h, decide_eq_false h]
    have qt : ∀ its : List Nm, IOk names its → its.length ≤ 8 → Q (.tup (its.map Dat.str)) := q
    rw [execs, exec]
    simp only [ev, evs, getV, List.getElem?_cons_zero, List.getElem?_cons_succ, cmpW, boolW]
    refine ⟨okd_int _ _, okd_int _ _, ?_⟩
    by_cases w0 : way = 0
    · rw [if_pos (by rw [A1]; exact decide_eq_true w0)]
      rw [execs, exec]
      simp only [ev, evs, getV, List.getElem?_cons_zero, List.getElem?_cons_succ, sliceW, op2W]
      rw [show (1 : Int) = ((1 : Nat) : Int) from rfl, cut_to, ← List.map_take, ← List.map_append]
      refine ⟨by simp only [List.length_map, List.length_take]; omega, ?_⟩
      exact qt _ (hw.append (IOk.take (names := names) hw 1)) (by simp only [List.length_append, List.length_take]; omega)
    rw [if_neg (by rw [A1, decide_eq_false w0]; decide), execs]
    dsimp only
    rw [execs, exec]
    simp only [ev, evs, getV, List.getElem?_cons_zero, List.getElem?_cons_succ, cmpW, boolW]
    refine ⟨okd_int _ _, okd_int _ _, ?_⟩
    have drp : ∀ n : Nat, IOk names (wish.drop n) := fun n s hs => hw s (List.mem_of_mem_drop hs)
    by_cases w1 : way = 1
    · rw [if_pos (by rw [A1]; exact decide_eq_true w1)]
      rw [execs, exec]
      simp only [ev, evs, getV, List.getElem?_cons_zero, List.getElem?_cons_succ, sliceW, op2W]
      rw [show ((c : Nat) : Int) + 1 = ((c + 1 : Nat) : Int) from by omega, cut_to, cut_from, ← List.map_take, ← List.map_drop, ← List.map_append]
      refine ⟨by simp only [List.length_map, List.length_take, List.length_drop]; omega, ?_⟩
      exact qt _ (IOk.append (names := names) (IOk.take (names := names) hw c) (drp _)) (by simp only [List.length_append, List.length_take, List.length_drop]; omega)
    rw [if_neg (by rw [A1, decide_eq_false w1]; decide), execs]
    dsimp only
    rw [execs, exec]
    simp only [ev, evs, getV, List.getElem?_cons_zero, List.getElem?_cons_succ, cmpW, boolW]
    refine ⟨okd_int _ _, okd_int _ _, ?_⟩
    by_cases w2 : way = 2
    · rw [if_pos (by rw [A1]; exact decide_eq_true w2)]
      rw [execs, exec]
      simp only [ev, evs, getV, List.getElem?_cons_zero, List.getElem?_cons_succ, pickD, List.map, List.getD_cons_zero, List.getD_cons_succ, sliceW]
      refine h3 k (by omega) _ _ ⟨names, rfl, hl, hs, fun items il ik => ?_⟩
      have ine : items ≠ [] := fun e => by
        rw [e] at il
        have : names.length ≠ 0 := fun z => hne (List.eq_nil_of_length_eq_zero z)
        simp at il; omega
      refine h2 k (by omega) _ _ ⟨_, _, rfl, rfl, by simpa using ine, by rw [List.length_map]; omega, fun d hd => ?_⟩
      obtain ⟨it, hit, rfl⟩ := List.mem_map.mp hd
      simp only [op2W]
      rw [cut_to, cut_from, ← List.map_take, ← List.map_drop]
      rw [show ([Dat.str it]) = [it].map Dat.str from rfl, ← List.map_append, ← List.map_append]
      refine ⟨by simp only [List.length_map, List.length_take, List.length_cons, List.length_nil]; omega, by simp only [List.length_map, List.length_append, List.length_take, List.length_drop, List.length_cons, List.length_nil]; omega, ?_⟩
      rw [show (8 : Int) = ((8 : Nat) : Int) from rfl, cut_to, ← List.map_take]
      refine qt _ (IOk.take (names := names) (IOk.append (names := names) (IOk.append (names := names) (IOk.take (names := names) hw c) (fun s hs => ?_)) (drp c)) 8) (by simp only [List.length_take]; omega)
      simp only [List.mem_cons, List.not_mem_nil, or_false] at hs
      subst hs
      exact ik _ hit
    rw [if_neg (by rw [A1, decide_eq_false w2]; decide), execs]
    dsimp only
    rw [execs, exec]
    simp only [ev, getV, List.getElem?_cons_zero, List.getElem?_cons_succ]
    exact qt _ hw (by omega)
def W_equal_lists (ds : List Dat) (Q : Dat → Prop) : Prop := ∃ (names : List Nm) (rules : List Rl) (a b : List Nm), ds = [tS names, tR rules, tS a, tS b] ∧ names.length ≤ 12 ∧ (∀ r ∈ rules, ROk names r) ∧ LOk names a ∧ LOk names b ∧ Q (.bl (sameS names rules a b))
theorem sp_equal_lists {f f1 : Nat} (hT : T[f]? = some (D_equal_lists f1)) (hp : prim f = none) (h1 : Sp T G prim f1 7 W_follows) : Sp T G prim f 8 W_equal_lists :=
  .of_def hT hp fun k hk ds Q ⟨names, rules, a, b, e, hn, hr, ha, hb, q⟩ => by
    subst e
    refine ⟨rfl, ?_⟩
    unfold D_equal_lists
    rw [show startD 4 [tS names, tR rules, tS a, tS b] = [.val (tS names), .val (tR rules), .val (tS a), .val (tS b)] from rfl]
    rw [execs, exec]
    simp only [ev, evs, getV, List.getElem?_cons_zero, List.getElem?_cons_succ, pickD, List.map, List.getD_cons_zero, List.getD_cons_succ]
    refine h1 k hk _ _ ⟨names, rules, a, b, rfl, hn, hr, ha, hb, ?_⟩
    rw [← equalS] at q
    simp only [boolW]
    cases h : followsS names rules a b with
    | true =>
      rw [h, Bool.true_and] at q
      rw [if_pos rfl]
      exact h1 k hk _ _ ⟨names, rules, b, a, rfl, hn, hr, hb, ha, q⟩
    | false =>
      rw [h, Bool.false_and] at q
      rw [if_neg Bool.false_ne_true]
      exact q
theorem law23 {ff fl fn fe fp fr fs ft fq k : Nat} (hpm : PM prim) (hk : 9 ≤ k) (hfree : Sp T G prim ff 3 W_lfree) (hlist : Sp T G prim fl 3 W_listed) (hnames : Sp T G prim fn 3 W_names) (hnear : Sp T G prim fe 3 W_near) (hpot : Sp T G prim fp 1 potW) (hrul : Sp T G prim fr 4 W_ruled) (hsame : Sp T G prim fs 2 W_same) (htake : Sp T G prim ft 1 takeW) (heq : Sp T G prim fq 8 W_equal_lists) (ns : List Int) :
    execs (callW T G prim k) G (D_law23 ff fl fn fe fp fr fs ft fq).body (startD 12 [.scr ns]) { nx := fun _ => False, rt := fun _ d => d = .bl true } := by
  have hb : big = 16777216 := rfl
  unfold D_law23
  rw [show startD 12 [.scr ns] = [.val (.scr ns), .no, .no, .no, .no, .no, .no, .no, .no, .no, .no, .no] from rfl]
  rw [execs, exec]
  simp only [ev, evs, getV, List.getElem?_cons_zero, List.getElem?_cons_succ, biW, lenW, minW, maxW, rangeW]
  refine ⟨⟨by omega, by omega⟩, _, rfl, ?_⟩
  refine forW_list (fun δ D D' h => execs_mono (callW_mono hpm k) _ δ D D' h) (fun i : Nat => Dat.int i) (List.range (max 1 (min 3 (ns.length : Int))).toNat) (fun done rest δ => ∃ s1 s2 s3 s4 s5 s6 s7 s8 s9 s10 s11 : Slot, δ = [.val (.scr ns), s1, s2, s3, s4, s5, s6, s7, s8, s9, s10, s11]) _ ⟨_, _, _, _, _, _, _, _, _, _, _, rfl⟩ ?_ ?_
  · intro done i rest δ' e ⟨s1, s2, s3, s4, s5, s6, s7, s8, s9, s10, s11, e1⟩
    subst e1
    have hi : i < (max 1 (min 3 (ns.length : Int))).toNat := List.mem_range.mp (by rw [e]; simp)
    rw [bindP]
    simp only [List.set_cons_zero, List.set_cons_succ]
    rw [execs, exec]
    simp only [ev, evs, getV, List.getElem?_cons_zero, List.getElem?_cons_succ, pickD, List.map, List.getD_cons_zero, List.getD_cons_succ]
    refine hpot k (by omega) _ _ ⟨⟨by omega, by omega⟩, ?_⟩
    simp only [List.set_cons_zero, List.set_cons_succ]
    rw [execs, exec]
    simp only [ev, evs, getV, List.getElem?_cons_zero, List.getElem?_cons_succ, pickD, List.map, List.getD_cons_zero, List.getD_cons_succ, op2W]
    refine htake k (by omega) _ _ ⟨⟨by decide, lt8k (by decide) (by decide)⟩, fun r hr0 hr1 => ?_⟩
    obtain ⟨m, rfl⟩ := Int.eq_ofNat_of_zero_le hr0
    refine hnames k (by omega) _ _ ⟨1 + m, by simp, by omega, fun names nok => ?_⟩
    have nk := nok.each
    have hlen := nok.len
    have hne : names ≠ [] := fun e => by rw [e] at hlen; simp at hlen; omega
    have hns : ∀ s ∈ names, s.length ≤ 1000 := fun s hs => by have := (nk s hs).hi; omega
    have n12 : names.length ≤ 12 := by omega
    simp only [List.set_cons_zero, List.set_cons_succ]
    rw [execs, exec]
    simp only [ev, evs, getV, List.getElem?_cons_zero, List.getElem?_cons_succ, pickD, List.map, List.getD_cons_zero, List.getD_cons_succ]
    refine hrul k (by omega) _ _ ⟨names, 3, rfl, hne, by omega, hns, by decide, fun rules rl rk => ?_⟩
    have rI : ∀ r ∈ rules, RIOk names r := fun r hr => (rk r hr).1
    have rO : ∀ r ∈ rules, ROk names r := fun r hr => (rI r hr).l nk
    have rk8 : ∀ r ∈ rules, RIOk names r ∧ r.1.length ≤ 8 ∧ r.2.length ≤ 8 := fun r hr => by
      obtain ⟨a, b, c⟩ := rk r hr
      exact ⟨a, by omega, by omega⟩
    simp only [List.set_cons_zero, List.set_cons_succ]
    rw [execs, exec]
    simp only [ev, evs, getV, List.getElem?_cons_zero, List.getElem?_cons_succ, pickD, List.map, List.getD_cons_zero, List.getD_cons_succ]
    refine hfree k (by omega) _ _ ⟨names, _, rules, rfl, rfl, n12, nk, rI, ?_⟩
    simp only [List.set_cons_zero, List.set_cons_succ]
    rw [execs, exec]
    simp only [ev, rangeW]
    refine ⟨⟨by decide, by decide⟩, _, rfl, ?_⟩
    refine forW_each (fun δ D D' h => execs_mono (callW_mono hpm k) _ δ D D' h) (fun δ => ∃ s1 s6 s7 s8 s9 s10 s11 : Slot, δ = [.val (.scr ns), s1, .val .pot, .val (tS names), .val (tR rules), .val (.lst ((allowedS names rules).map tI)), s6, s7, s8, s9, s10, s11]) _ _ ⟨_, _, _, _, _, _, _, rfl⟩ ?_ ?_
    · intro d hd δ' ⟨s1, s6, s7, s8, s9, s10, s11, e1⟩
      subst e1
      rw [bindP]
      simp only [List.set_cons_zero, List.set_cons_succ]
      rw [execs, exec]
      simp only [ev, evs, getV, List.getElem?_cons_zero, List.getElem?_cons_succ, pickD, List.map, List.getD_cons_zero, List.getD_cons_succ]
      refine hlist k (by omega) _ _ ⟨names, 6, rfl, hne, by omega, hns, by decide, fun wish wl wk => ?_⟩
      simp only [List.set_cons_zero, List.set_cons_succ]
      rw [execs, exec]
      simp only [ev, evs, getV, List.getElem?_cons_zero, List.getElem?_cons_succ, pickD, List.map, List.getD_cons_zero, List.getD_cons_succ]
      refine htake k (by omega) _ _ ⟨⟨by decide, lt8k (by decide) (by decide)⟩, fun r hr0 hr1 => ?_⟩
      simp only [cmpW, boolW]
      refine ⟨okd_int _ _, okd_int _ _, ?_⟩
      have go : ∀ its : List Nm, IOk names its → its.length ≤ 8 →
          execs (callW T G prim k) G [.par [false, false] [9, 10] [.bi .repr [.call fs [.var 3, .var 5, .var 7, .var 8] [] [.p 0, .p 1, .p 2, .p 3]], .bi .repr [.tup [.var 3, .var 4, .var 7, .var 8]]], .set 11 (.lst [.call fq [.var 3, .var 4, .var 7, .var 8] [] [.p 0, .p 1, .p 2, .p 3], .call fq [.var 3, .var 4, .var 8, .var 7] [] [.p 0, .p 1, .p 2, .p 3]]), .ite (.or (.cmp .ne (.bi .repr [.idx (.var 11) (.int 0)]) (.var 9)) (.cmp .ne (.bi .repr [.idx (.var 11) (.int 1)]) (.var 9))) [.ret (.bl false)] [], .ite (.cmp .ne (.bi .repr [.tup [.var 3, .var 4, .var 7, .var 8]]) (.var 10)) [.ret (.bl false)] []]
            [.val (.scr ns), s1, .val .pot, .val (tS names), .val (tR rules), .val (.lst ((allowedS names rules).map tI)), .val d, .val (tS wish), .val (tS its), s9, s10, s11]
            { nx := fun δ => ∃ s1 s6 s7 s8 s9 s10 s11 : Slot, δ = [.val (.scr ns), s1, .val .pot, .val (tS names), .val (tR rules), .val (.lst ((allowedS names rules).map tI)), s6, s7, s8, s9, s10, s11], rt := fun _ d => d = .bl true, bk := fun δ => ∃ s1 s2 s3 s4 s5 s6 s7 s8 s9 s10 s11 : Slot, δ = [.val (.scr ns), s1, s2, s3, s4, s5, s6, s7, s8, s9, s10, s11], ct := fun δ => ∃ s1 s6 s7 s8 s9 s10 s11 : Slot, δ = [.val (.scr ns), s1, .val .pot, .val (tS names), .val (tR rules), .val (.lst ((allowedS names rules).map tI)), s6, s7, s8, s9, s10, s11] } := by
        intro its ik il
        have ok : AskOk 8 names rules wish its := ⟨by omega, by omega, nk, nok.asc, by omega, rk8, wk, by omega, ik, il⟩
        have rp := ok.rp (by decide)
        rw [execs, exec]
        simp only [ev, evs, getV, List.getElem?_cons_zero, List.getElem?_cons_succ, pickD, List.map, List.getD_cons_zero, List.getD_cons_succ, biW, reprW]
        refine hsame k (by omega) _ _ ⟨names, rules, wish, its, rfl, nk, wk, ik, ?_⟩
        refine ⟨rpd_bl (by decide), rp, rfl, ?_⟩
        simp only [setPar, List.reverse_cons, List.reverse_nil, List.nil_append, List.cons_append, List.set_cons_zero, List.set_cons_succ, Bool.false_eq_true, if_false]
        rw [execs, exec]
        simp only [ev, evs, getV, List.getElem?_cons_zero, List.getElem?_cons_succ, pickD, List.map, List.getD_cons_zero, List.getD_cons_succ]
        refine heq k (by omega) _ _ ⟨names, rules, wish, its, rfl, n12, rO, IOk.l (names := names) nk wk, ik.l nk, ?_⟩
        refine heq k (by omega) _ _ ⟨names, rules, its, wish, rfl, n12, rO, ik.l nk, IOk.l (names := names) nk wk, ?_⟩
        rw [sameS_comm names rules its wish]
        simp only [List.set_cons_zero, List.set_cons_succ]
        rw [execs, exec]
        simp only [ev, evs, getV, List.getElem?_cons_zero, List.getElem?_cons_succ, biW, reprW, idxW, cmpW, boolW]
        refine ⟨_, at_zero _ _, rpd_bl (by decide), okd_str _ _, okd_str _ _, ?_⟩
        rw [if_neg (by rw [eqD, beq_self_eq_true]; decide)]
        refine ⟨_, rfl, rpd_bl (by decide), okd_str _ _, okd_str _ _, ?_⟩
        rw [if_neg (by rw [eqD, beq_self_eq_true]; decide), execs]
        dsimp only
        rw [execs, exec]
        simp only [ev, evs, getV, List.getElem?_cons_zero, List.getElem?_cons_succ, biW, reprW, cmpW, boolW]
        refine ⟨rp, okd_str _ _, okd_str _ _, ?_⟩
        rw [if_neg (by rw [eqD, beq_self_eq_true]; decide), execs]
        dsimp only
        rw [execs]
        exact ⟨_, _, _, _, _, _, _, rfl⟩
      split
      · refine hnear k (by omega) _ _ ⟨names, wish, rfl, hne, by omega, hns, wk, by omega, fun its ik il => ?_⟩
        simp only [List.set_cons_zero, List.set_cons_succ]
        exact go its ik il
      · refine hlist k (by omega) _ _ ⟨names, 6, rfl, hne, by omega, hns, by decide, fun its il ik => ?_⟩
        simp only [List.set_cons_zero, List.set_cons_succ]
        exact go its ik (by omega)
    · intro δ' ⟨s1, s6, s7, s8, s9, s10, s11, e1⟩
      subst e1
      dsimp only
      rw [execs]
      exact ⟨_, _, _, _, _, _, _, _, _, _, _, rfl⟩
  · intro δ' ⟨s1, s2, s3, s4, s5, s6, s7, s8, s9, s10, s11, e1⟩
    dsimp only
    rw [execs, exec]
    simp only [ev]
end
end SF

/-! P26: law k26, plain. -/
namespace SF
open PySem L2 SF
theorem eqDs_refl {l : List Dat} (h : ∀ x ∈ l, eqD x x = true) : eqDs l l = true := by
  induction l with
  | nil => rw [eqDs]
  | cons a l ih => rw [eqDs, h a (by simp), ih fun x hx => h x (by simp [hx])]; rfl
theorem eqD_refl : ∀ (n : Nat) (d : Dat), okd n d → eqD d d = true
  | _, .non, _ => by rw [eqD]
  | _, .bl b, _ => by rw [eqD]; exact beq_self_eq_true b
  | _, .int i, _ => by rw [eqD]; exact beq_self_eq_true i
  | _, .str s, _ => by rw [eqD]; exact beq_self_eq_true s
  | 0, .tup l, h => h.elim
  | 0, .lst l, h => h.elim
  | n + 1, .tup l, h => by rw [eqD]; exact eqDs_refl fun x hx => eqD_refl n x (h x hx)
  | n + 1, .lst l, h => by rw [eqD]; exact eqDs_refl fun x hx => eqD_refl n x (h x hx)
  | n, .dic l, h => by cases n <;> exact h.elim
  | n, .obj c l, h => by cases n <;> exact h.elim
  | n, .pot, h => by cases n <;> exact h.elim
  | n, .scr l, h => by cases n <;> exact h.elim
/-! ### rules that may go -/
/-- r goes without saying, the others given -/
def goes (names : List Nm) (others : List Rl) (r : Rl) : Bool := (allowedS names others).all fun sg => keepsS names sg r
theorem goes_follows (names : List Nm) (others : List Rl) (r : Rl) : followsS names others r.1 r.2 = goes names others r := by
  rw [Bool.eq_iff_iff, followsS_iff]
  unfold goes
  rw [List.all_eq_true]
  constructor
  · intro h sg hsg
    have hS := (allowedS_mem hsg).2
    have a1 := h sg hsg
    have b1 := h _ (allowedS_neg hsg)
    rw [lexS_neg, lexS_neg] at b1
    have c1 := lexS_le hS r.1 (names := names); have c2 := lexS_le hS r.2 (names := names)
    unfold keepsS
    rw [Bool.or_eq_true, beq_iff_eq, beq_iff_eq]
    omega
  · intro h sg hsg
    have := h sg hsg
    unfold keepsS at this
    rw [Bool.or_eq_true, beq_iff_eq, beq_iff_eq] at this
    omega
theorem goes_same {names : List Nm} {others left : List Rl} {r : Rl} (hm : ∀ x, x ∈ left ↔ x ∈ others ∨ x = r) (h : goes names others r = true) : allowedS names others = allowedS names left := by
  unfold allowedS
  refine List.filter_congr fun sg hsg => ?_
  rw [Bool.eq_iff_iff, List.all_eq_true, List.all_eq_true]
  constructor
  · intro ho x hx
    rcases (hm x).mp hx with q | rfl
    · exact ho x q
    · unfold goes at h
      rw [List.all_eq_true] at h
      exact h sg (List.mem_filter.mpr ⟨hsg, List.all_eq_true.mpr ho⟩)
  · intro hl x hx
    exact hl x ((hm x).mpr (.inl hx))
/-- the i-th rule looked at -/
def dropAt (names : List Nm) (left : List Rl) (i : Nat) : List Rl := if goes names (left.eraseIdx i) (left.getD i ([], [])) = true then left.eraseIdx i else left
/-- from i - 1 down -/
def dropS (names : List Nm) : List Rl → Nat → List Rl
  | left, 0 => left
  | left, i + 1 => dropS names (dropAt names left i) i
theorem erase_mem {left : List Rl} {i : Nat} (h : i < left.length) : ∀ x, x ∈ left ↔ x ∈ left.eraseIdx i ∨ x = left.getD i ([], []) := fun x => by
  rw [List.getD_eq_getElem?_getD, List.getElem?_eq_getElem h]
  have e : left = left.take i ++ left[i] :: left.drop (i + 1) := by rw [List.getElem_cons_drop, List.take_append_drop]
  have e2 : left.eraseIdx i = left.take i ++ left.drop (i + 1) := List.eraseIdx_eq_take_drop_succ left i
  rw [e2]
  conv => lhs; rw [e]
  simp only [List.mem_append, List.mem_cons, Option.getD_some]
  constructor
  · rintro (q | rfl | q)
    · exact .inl (.inl q)
    · exact .inr rfl
    · exact .inl (.inr q)
  · rintro ((q | q) | rfl)
    · exact .inl q
    · exact .inr (.inr q)
    · exact .inr (.inl rfl)
theorem dropAt_facts (names : List Nm) {left : List Rl} {i : Nat} (h : i < left.length) : (∀ x ∈ dropAt names left i, x ∈ left) ∧ i ≤ (dropAt names left i).length ∧ allowedS names (dropAt names left i) = allowedS names left := by
  unfold dropAt
  split
  · rename_i hg
    refine ⟨fun x hx => (erase_mem h x).mpr (.inl hx), ?_, goes_same (erase_mem h) hg⟩
    rw [List.length_eraseIdx, if_pos h]; omega
  · exact ⟨fun x hx => hx, by omega, rfl⟩
theorem dropS_facts (names : List Nm) : ∀ (i : Nat) (left : List Rl), i ≤ left.length → (∀ x ∈ dropS names left i, x ∈ left) ∧ (dropS names left i).length ≤ left.length ∧ allowedS names (dropS names left i) = allowedS names left
  | 0, left, _ => by rw [dropS]; exact ⟨fun x hx => hx, Nat.le_refl _, rfl⟩
  | i + 1, left, h => by
    rw [dropS]
    obtain ⟨h1, h2, h3⟩ := dropAt_facts names (left := left) (i := i) (by omega)
    obtain ⟨q1, q2, q3⟩ := dropS_facts names i (dropAt names left i) h2
    refine ⟨fun x hx => h1 x (q1 x hx), ?_, by rw [q3, h3]⟩
    have : (dropAt names left i).length ≤ left.length := by
      unfold dropAt
      split
      · rw [List.length_eraseIdx]; split <;> omega
      · omega
    omega
/-- needed(columns, rules, left, number, first, second, others) -/
def D_needed (f_follows : Nat) : FDef := ⟨2, 7, [
    .own 2 (.bi .list [.var 1]),
    .for (.v 3) (.rangeD (.op2 .sub (.bi .len [.var 1]) (.int 1))) [.unp (.t [.v 4, .v 5]) (.idx (.obs 2) (.var 3)), .set 6 (.bi .tuple [.op2 .add (.slc (.obs 2) .non (.var 3)) (.slc (.obs 2) (.op2 .add (.var 3) (.int 1)) .non)]), .ite (.call f_follows [.var 0, .var 6, .var 4, .var 5] [] [.p 0, .p 1, .p 2, .p 3]) [.pop 2 (.var 3)] []],
    .ret (.bi .tuple [.obs 2])]⟩
/-- _law_serves(_law_names_here, _law_free_here, _law_wish, _law_due, _law_signs) -/
def D__law_serves (f__law_lex : Nat) : FDef := ⟨4, 5, [
    .for (.v 4) (.var 1) [.ite (.cmp .nin (.call f__law_lex [.var 0, .var 4, .var 3] [] [.p 0, .p 1, .p 2]) (.tup [.int 0, .call f__law_lex [.var 0, .var 4, .var 2] [] [.p 0, .p 1, .p 2]])) [.ret (.bl false)] []],
    .ret (.bl true)]⟩
/-- _law_dropped(_law_names_here, _law_pairs, _law_left, _law_at, _law_others) -/
def D__law_dropped (f__law_free f__law_serves : Nat) : FDef := ⟨2, 5, [
    .set 2 (.bi .list [.var 1]),
    .for (.v 3) (.rangeD (.op2 .sub (.bi .len [.var 1]) (.int 1))) [.set 4 (.op2 .add (.slc (.var 2) .non (.var 3)) (.slc (.var 2) (.op2 .add (.var 3) (.int 1)) .non)), .ite (.call f__law_serves [.var 0, .call f__law_free [.var 0, .var 4] [] [.p 0, .p 1], .idx (.idx (.var 2) (.var 3)) (.int 0), .idx (.idx (.var 2) (.var 3)) (.int 1)] [] [.p 0, .p 1, .p 2, .p 3]) [.set 2 (.var 4)] []],
    .ret (.bi .tuple [.var 2])]⟩
/-- _law_joined(_law_pot_here, _law_pairs, _law_one, _law_its, _law_longer) -/
def D__law_joined (f__law_of : Nat) : FDef := ⟨2, 5, [
    .par [false, false] [2, 3] [.call f__law_of [.var 0, .var 1] [] [.p 0, .p 1], .call f__law_of [.var 0, .var 1] [] [.p 0, .p 1]],
    .set 4 (.lst [.tup [.idx (.var 2) (.int 0), .idx (.var 3) (.int 1)], .tup [.slc (.op2 .add (.idx (.var 2) (.int 0)) (.idx (.var 3) (.int 0))) .non (.int 8), .idx (.var 2) (.int 1)], .tup [.idx (.var 2) (.int 0), .slc (.op2 .add (.idx (.var 3) (.int 0)) (.idx (.var 2) (.int 1))) .non (.int 8)], .var 2]),
    .ret (.call f__law_of [.var 0, .var 4] [] [.p 0, .p 1])]⟩
/-- law(_law_script, _law_k, _law_pot_here, _law_names_here, _law_pairs, _law_turn, _law_at, _law_kept, _law_found) -/
def D_law26 (f__law_dropped f__law_free f__law_joined f__law_names f__law_pot f__law_ruled f__law_take f_needed : Nat) : FDef := ⟨1, 9, [
    .for (.v 1) (.range (.bi .max [.int 1, .bi .min [.int 3, .bi .len [.var 0]]])) [.set 2 (.call f__law_pot [.var 0, .var 1] [] [.p 0, .p 1]), .set 3 (.call f__law_names [.var 2, .op2 .add (.int 1) (.call f__law_take [.var 2, .int 4] [] [.p 0, .p 1])] [] [.p 0, .p 1]), .set 4 (.call f__law_ruled [.var 2, .var 3, .int 4] [] [.p 0, .p 1, .p 2]), .for (.v 5) (.range (.op2 .mul (.call f__law_take [.var 2, .int 4] [] [.p 0, .p 1]) (.bi .int [.cmp .ne (.var 4) (.tup [])]))) [.set 4 (.op2 .add (.var 4) (.tup [.call f__law_joined [.var 2, .var 4] [] [.p 0, .p 1]]))], .set 6 (.call f__law_take [.var 2, .op2 .add (.bi .len [.var 4]) (.int 1)] [] [.p 0, .p 1]), .set 4 (.op2 .add (.slc (.var 4) (.var 6) .non) (.slc (.var 4) .non (.var 6))), .par [false, false] [7, 8] [.bi .repr [.var 4], .call f_needed [.var 3, .var 4] [] [.p 0, .p 1]], .ite (.or (.cmp .ne (.bi .repr [.var 8]) (.bi .repr [.call f__law_dropped [.var 3, .var 4] [] [.p 0, .p 1]])) (.cmp .ne (.bi .repr [.var 4]) (.var 7))) [.ret (.bl false)] [], .ite (.cmp .ne (.call f__law_free [.var 3, .var 8] [] [.p 0, .p 1]) (.call f__law_free [.var 3, .var 4] [] [.p 0, .p 1])) [.ret (.bl false)] []],
    .ret (.bl true)]⟩
section
variable {T : List FDef} {G : Nat → Option Dat} {prim : Nat → Option (List Dat → (Dat → Prop) → Prop)}
theorem cutR_to (l : List Rl) (n : Nat) : cut (l.map dR) none (some (n : Int)) = (l.take n).map dR := by rw [cut_to, ← List.map_take]
theorem cutR_from (l : List Rl) (n : Nat) : cut (l.map dR) (some (n : Int)) none = (l.drop n).map dR := by rw [cut_from, ← List.map_drop]
theorem down_range (n : Nat) : (List.range (((n : Int) - 1) + 1).toNat).map (fun i : Nat => Dat.int ((n : Int) - 1 - i)) = (List.range n).reverse.map (fun i : Nat => Dat.int i) := by
  have e : (((n : Int) - 1) + 1).toNat = n := by omega
  rw [e]
  apply List.ext_getElem?
  intro j
  rw [List.getElem?_map, List.getElem?_map]
  by_cases h : j < n
  · rw [List.getElem?_range h, List.getElem?_reverse (by simpa using h), List.length_range, List.getElem?_range (by omega)]
    simp only [Option.map_some]
    congr 2
    omega
  · rw [List.getElem?_eq_none (by simpa using h), List.getElem?_eq_none (by simpa using h)]; rfl
theorem rev_range_succ (n : Nat) : (List.range (n + 1)).reverse = n :: (List.range n).reverse := by rw [List.range_succ, List.reverse_append]; rfl
theorem rev_range_mid {n : Nat} {done rest : List Nat} {a : Nat} (e : (List.range n).reverse = done ++ a :: rest) : a < n ∧ rest = (List.range a).reverse := by
  induction done generalizing n with
  | nil =>
    cases n with
    | zero => simp at e
    | succ n =>
      rw [rev_range_succ] at e
      injection e with e1 e2
      subst e1
      exact ⟨by omega, e2.symm⟩
  | cons b done ih =>
    cases n with
    | zero => simp at e
    | succ n =>
      rw [rev_range_succ] at e
      injection e with e1 e2
      obtain ⟨h1, h2⟩ := ih e2
      exact ⟨by omega, h2⟩
theorem at_dR {l : List Rl} {i : Nat} (h : i < l.length) : atD (l.map dR) (i : Int) = some (dR (l.getD i ([], []))) := by
  refine atD_nat ?_
  rw [List.getElem?_map, List.getElem?_eq_getElem h, List.getD_eq_getElem?_getD, List.getElem?_eq_getElem h]
  rfl
theorem erase_td {l : List Rl} (i : Nat) : l.take i ++ l.drop (i + 1) = l.eraseIdx i := (List.eraseIdx_eq_take_drop_succ l i).symm
theorem erase_map {l : List Rl} (i : Nat) : (l.map dR).eraseIdx i = (l.eraseIdx i).map dR := by
  rw [List.eraseIdx_eq_take_drop_succ, List.eraseIdx_eq_take_drop_succ, List.map_append, List.map_take, List.map_drop]
theorem ixN_nat {n i : Nat} (h : i < n) : ixN n (i : Int) = some i := by
  unfold ixN
  rw [if_pos (by omega), if_pos (by omega), Int.toNat_natCast]
def W_needed (ds : List Dat) (Q : Dat → Prop) : Prop := ∃ (names : List Nm) (rules : List Rl), ds = [tS names, tR rules] ∧ names.length ≤ 12 ∧ rules.length ≤ 10000 ∧ (∀ r ∈ rules, ROk names r) ∧ Q (tR (dropS names rules rules.length))
theorem sp_needed {f f1 : Nat} (hpm : PM prim) (hT : T[f]? = some (D_needed f1)) (hp : prim f = none) (h1 : Sp T G prim f1 7 W_follows) : Sp T G prim f 8 W_needed :=
  .of_def hT hp fun k hk ds Q ⟨names, rules, e, hn, hl, hr, q⟩ => by
    subst e
    have hb : big = 16777216 := rfl
    refine ⟨rfl, ?_⟩
    unfold D_needed
    rw [show startD 7 [tS names, tR rules] = [.val (tS names), .val (tR rules), .no, .no, .no, .no, .no] from rfl]
    rw [execs, exec]
    simp only [ev, evs, getV, List.getElem?_cons_zero, List.getElem?_cons_succ, biW, listW, tR]
    refine ⟨rfl, ?_⟩
    simp only [List.set_cons_zero, List.set_cons_succ]
    rw [execs, exec]
    simp only [ev, evs, getV, List.getElem?_cons_zero, List.getElem?_cons_succ, biW, lenW, op2W, rangeDW, List.length_map]
    refine ⟨⟨by omega, by omega⟩, _, rfl, ?_⟩
    rw [down_range]
    refine forW_list (fun δ D D' h => execs_mono (callW_mono hpm k) _ δ D D' h) (fun i : Nat => Dat.int i) (List.range rules.length).reverse (fun done rest δ => ∃ (s3 s4 s5 s6 : Slot) (left : List Rl) (i : Nat), δ = [.val (tS names), .val (tR rules), .own (.lst (left.map dR)), s3, s4, s5, s6] ∧ rest = (List.range i).reverse ∧ i ≤ left.length ∧ left.length ≤ rules.length ∧ (∀ r ∈ left, r ∈ rules) ∧ dropS names left i = dropS names rules rules.length) _ ⟨_, _, _, _, rules, rules.length, rfl, rfl, Nat.le_refl _, Nat.le_refl _, fun r hr => hr, rfl⟩ ?_ ?_
    · intro done a rest δ' e ⟨s3, s4, s5, s6, left, i, e1, e2, e3, e4, e5, e6⟩
      subst e1
      have hi : i = a + 1 := by
        cases i with
        | zero => simp at e2
        | succ i => rw [rev_range_succ] at e2; injection e2 with e7 _; omega
      subst hi
      have hrest : rest = (List.range a).reverse := by rw [rev_range_succ] at e2; injection e2
      have ha : a < left.length := by omega
      have hro : ∀ r ∈ left, ROk names r := fun r h => hr r (e5 r h)
      have hra : ROk names (left.getD a ([], [])) := hro _ (by rw [List.getD_eq_getElem?_getD, List.getElem?_eq_getElem ha]; exact List.getElem_mem _)
      rw [bindP]
      simp only [List.set_cons_zero, List.set_cons_succ]
      rw [execs, exec]
      simp only [ev, getO, getV, List.getElem?_cons_zero, List.getElem?_cons_succ, idxW]
      refine ⟨_, at_dR ha, ?_⟩
      generalize hg : left.getD a ([], []) = r at hra
      simp only [dR, bindP, bindPs, List.set_cons_zero, List.set_cons_succ]
      rw [execs, exec]
      simp only [ev, evs, getO, getV, List.getElem?_cons_zero, List.getElem?_cons_succ, biW, sliceW, op2W]
      rw [show ((a : Nat) : Int) + 1 = ((a + 1 : Nat) : Int) from by omega, cutR_to, cutR_from, ← List.map_append, erase_td]
      refine ⟨by simp only [List.length_map, List.length_take, List.length_drop]; omega, ?_⟩
      simp only [tupleW, List.set_cons_zero, List.set_cons_succ]
      rw [execs, exec]
      simp only [ev, evs, getO, getV, List.getElem?_cons_zero, List.getElem?_cons_succ, pickD, List.map, List.getD_cons_zero, List.getD_cons_succ]
      refine h1 k (by omega) _ _ ⟨names, left.eraseIdx a, r.1, r.2, rfl, hn, fun x hx => hro x ((erase_mem ha x).mpr (.inl hx)), hra.1, hra.2, ?_⟩
      rw [goes_follows]
      simp only [boolW]
      have ed : dropS names left (a + 1) = dropS names (dropAt names left a) a := by rw [dropS]
      unfold dropAt at ed
      rw [hg] at ed
      cases hgo : goes names (left.eraseIdx a) r with
      | true =>
        rw [hgo, if_pos rfl] at ed
        rw [if_pos rfl, execs, exec]
        simp only [ev, getO, getV, List.getElem?_cons_zero, List.getElem?_cons_succ]
        refine ⟨_, rfl, _, a, rfl, ixN_nat (by rw [List.length_map]; exact ha), ?_⟩
        simp only [List.set_cons_zero, List.set_cons_succ]
        rw [execs]
        dsimp only
        rw [execs]
        refine ⟨_, _, _, _, left.eraseIdx a, a, by rw [erase_map], hrest, ?_, ?_, fun x hx => e5 x ((erase_mem ha x).mpr (.inl hx)), by rw [← ed, e6]⟩
        · rw [List.length_eraseIdx, if_pos ha]; omega
        · rw [List.length_eraseIdx, if_pos ha]; omega
      | false =>
        rw [hgo, if_neg Bool.false_ne_true] at ed
        rw [if_neg Bool.false_ne_true, execs]
        dsimp only
        rw [execs]
        exact ⟨_, _, _, _, left, a, rfl, hrest, by omega, e4, e5, by rw [← ed, e6]⟩
    · intro δ' ⟨s3, s4, s5, s6, left, i, e1, e2, e3, e4, e5, e6⟩
      subst e1
      have hi : i = 0 := by
        cases i with
        | zero => rfl
        | succ i => rw [rev_range_succ] at e2; cases e2
      subst hi
      dsimp only
      rw [execs, exec]
      simp only [ev, evs, getO, List.getElem?_cons_zero, List.getElem?_cons_succ, biW, tupleW]
      rw [dropS] at e6
      rw [← e6] at q
      exact q
def W_serves (ds : List Dat) (Q : Dat → Prop) : Prop := ∃ (names : List Nm) (others : List Rl) (r : Rl), ds = [tS names, .lst ((allowedS names others).map tI), tS r.1, tS r.2] ∧ (∀ n ∈ names, NameOk n) ∧ RIOk names r ∧ Q (.bl (goes names others r))
theorem sp_serves {f f1 : Nat} (hpm : PM prim) (hT : T[f]? = some (D__law_serves f1)) (hp : prim f = none) (h1 : Sp T G prim f1 1 W_llex) : Sp T G prim f 2 W_serves :=
  .of_def hT hp fun k hk ds Q ⟨names, others, r, e, hn, hr, q⟩ => by
    subst e
    refine ⟨rfl, ?_⟩
    unfold D__law_serves
    rw [show startD 5 [tS names, .lst ((allowedS names others).map tI), tS r.1, tS r.2] = [.val (tS names), .val (.lst ((allowedS names others).map tI)), .val (tS r.1), .val (tS r.2), .no] from rfl]
    rw [execs, exec]
    simp only [ev, getV, List.getElem?_cons_zero, List.getElem?_cons_succ]
    refine ⟨_, rfl, ?_⟩
    unfold goes at q
    refine forW_list (fun δ D D' h => execs_mono (callW_mono hpm k) _ δ D D' h) tI (allowedS names others) (fun done rest δ => ∃ (s4 : Slot), δ = [.val (tS names), .val (.lst ((allowedS names others).map tI)), .val (tS r.1), .val (tS r.2), s4] ∧ (rest.all fun sg => keepsS names sg r) = ((allowedS names others).all fun sg => keepsS names sg r)) _ ⟨_, rfl, rfl⟩ ?_ ?_
    · intro done sg rest δ' e ⟨s4, e1, e2⟩
      subst e1
      have hsg : sg ∈ allowedS names others := by rw [e]; simp
      obtain ⟨hl, hS⟩ := allowedS_mem hsg
      rw [List.all_cons] at e2
      rw [bindP]
      simp only [List.set_cons_zero, List.set_cons_succ]
      rw [execs, exec]
      simp only [ev, evs, getV, List.getElem?_cons_zero, List.getElem?_cons_succ, pickD, List.map, List.getD_cons_zero, List.getD_cons_succ]
      refine h1 k (by omega) _ _ ⟨names, _, sg, r.2, rfl, .inl rfl, hn, hl, hr.2, ?_⟩
      refine h1 k (by omega) _ _ ⟨names, _, sg, r.1, rfl, .inl rfl, hn, hl, hr.1, ?_⟩
      simp only [cmpW, inW]
      refine ⟨okd_int _ _, fun z hz => ?_, ?_⟩
      · simp only [List.mem_cons, List.not_mem_nil, or_false] at hz
        rcases hz with rfl | rfl <;> exact okd_int _ _
      have ek : ([Dat.int 0, .int (lexS names sg r.1)].any fun z => eqD z (.int (lexS names sg r.2))) = keepsS names sg r := by
        unfold keepsS
        simp only [List.any_cons, List.any_nil, Bool.or_false, eqD]
        rw [ib 0, ib (lexS names sg r.1)]
      rw [ek]
      simp only [boolW]
      cases hkp : keepsS names sg r with
      | true =>
        rw [hkp, Bool.true_and] at e2
        rw [if_neg (by decide), execs]
        dsimp only
        rw [execs]
        exact ⟨_, rfl, e2⟩
      | false =>
        rw [hkp, Bool.false_and] at e2
        rw [if_pos (show (!false) = true from rfl), execs, exec]
        simp only [ev]
        rw [← e2] at q
        exact q
    · intro δ' ⟨s4, e1, e2⟩
      subst e1
      dsimp only
      rw [execs, exec]
      simp only [ev]
      rw [← e2] at q
      exact q
def W_dropped (ds : List Dat) (Q : Dat → Prop) : Prop := ∃ (names : List Nm) (rules : List Rl), ds = [tS names, tR rules] ∧ names.length ≤ 12 ∧ rules.length ≤ 10000 ∧ (∀ n ∈ names, NameOk n) ∧ (∀ r ∈ rules, RIOk names r) ∧ Q (tR (dropS names rules rules.length))
theorem sp_dropped {f f1 f2 : Nat} (hpm : PM prim) (hT : T[f]? = some (D__law_dropped f1 f2)) (hp : prim f = none) (h1 : Sp T G prim f1 3 W_lfree) (h2 : Sp T G prim f2 2 W_serves) : Sp T G prim f 4 W_dropped :=
  .of_def hT hp fun k hk ds Q ⟨names, rules, e, hn, hl, nk, hr, q⟩ => by
    subst e
    have hb : big = 16777216 := rfl
    refine ⟨rfl, ?_⟩
    unfold D__law_dropped
    rw [show startD 5 [tS names, tR rules] = [.val (tS names), .val (tR rules), .no, .no, .no] from rfl]
    rw [execs, exec]
    simp only [ev, evs, getV, List.getElem?_cons_zero, List.getElem?_cons_succ, biW, listW, tR]
    simp only [List.set_cons_zero, List.set_cons_succ]
    rw [execs, exec]
    simp only [ev, evs, getV, List.getElem?_cons_zero, List.getElem?_cons_succ, biW, lenW, op2W, rangeDW, List.length_map]
    refine ⟨⟨by omega, by omega⟩, _, rfl, ?_⟩
    rw [down_range]
    refine forW_list (fun δ D D' h => execs_mono (callW_mono hpm k) _ δ D D' h) (fun i : Nat => Dat.int i) (List.range rules.length).reverse (fun done rest δ => ∃ (s3 s4 : Slot) (left : List Rl) (i : Nat), δ = [.val (tS names), .val (tR rules), .val (.lst (left.map dR)), s3, s4] ∧ rest = (List.range i).reverse ∧ i ≤ left.length ∧ left.length ≤ rules.length ∧ (∀ r ∈ left, r ∈ rules) ∧ dropS names left i = dropS names rules rules.length) _ ⟨_, _, rules, rules.length, rfl, rfl, Nat.le_refl _, Nat.le_refl _, fun r hr => hr, rfl⟩ ?_ ?_
    · intro done a rest δ' e ⟨s3, s4, left, i, e1, e2, e3, e4, e5, e6⟩
      subst e1
      have hi : i = a + 1 := by
        cases i with
        | zero => simp at e2
        | succ i => rw [rev_range_succ] at e2; injection e2 with e7 _; omega
      subst hi
      have hrest : rest = (List.range a).reverse := by rw [rev_range_succ] at e2; injection e2
      have ha : a < left.length := by omega
      have hro : ∀ r ∈ left, RIOk names r := fun r h => hr r (e5 r h)
      have hra : RIOk names (left.getD a ([], [])) := hro _ (by rw [List.getD_eq_getElem?_getD, List.getElem?_eq_getElem ha]; exact List.getElem_mem _)
      rw [bindP]
      simp only [List.set_cons_zero, List.set_cons_succ]
      rw [execs, exec]
      simp only [ev, evs, getO, getV, List.getElem?_cons_zero, List.getElem?_cons_succ, biW, sliceW, op2W]
      rw [show ((a : Nat) : Int) + 1 = ((a + 1 : Nat) : Int) from by omega, cutR_to, cutR_from, ← List.map_append, erase_td]
      refine ⟨by simp only [List.length_map, List.length_take, List.length_drop]; omega, ?_⟩
      simp only [List.set_cons_zero, List.set_cons_succ]
      rw [execs, exec]
      simp only [ev, evs, getO, getV, List.getElem?_cons_zero, List.getElem?_cons_succ, pickD, List.map, List.getD_cons_zero, List.getD_cons_succ]
      refine h1 k (by omega) _ _ ⟨names, _, left.eraseIdx a, rfl, rfl, hn, nk, fun x hx => hro x ((erase_mem ha x).mpr (.inl hx)), ?_⟩
      simp only [idxW]
      refine ⟨_, at_dR ha, ?_⟩
      generalize hg : left.getD a ([], []) = r at hra
      simp only [dR]
      refine ⟨_, at_zero _ _, ?_⟩
      refine ⟨_, at_dR ha, ?_⟩
      rw [hg]
      simp only [dR]
      refine ⟨_, rfl, ?_⟩
      refine h2 k (by omega) _ _ ⟨names, left.eraseIdx a, r, rfl, nk, hra, ?_⟩
      simp only [boolW]
      have ed : dropS names left (a + 1) = dropS names (dropAt names left a) a := by rw [dropS]
      unfold dropAt at ed
      rw [hg] at ed
      cases hgo : goes names (left.eraseIdx a) r with
      | true =>
        rw [hgo, if_pos rfl] at ed
        rw [if_pos rfl, execs, exec]
        simp only [ev, getO, getV, List.getElem?_cons_zero, List.getElem?_cons_succ]
        simp only [List.set_cons_zero, List.set_cons_succ]
        rw [execs]
        dsimp only
        rw [execs]
        refine ⟨_, _, left.eraseIdx a, a, rfl, hrest, ?_, ?_, fun x hx => e5 x ((erase_mem ha x).mpr (.inl hx)), by rw [← ed, e6]⟩
        · rw [List.length_eraseIdx, if_pos ha]; omega
        · rw [List.length_eraseIdx, if_pos ha]; omega
      | false =>
        rw [hgo, if_neg Bool.false_ne_true] at ed
        rw [if_neg Bool.false_ne_true, execs]
        dsimp only
        rw [execs]
        exact ⟨_, _, left, a, rfl, hrest, by omega, e4, e5, by rw [← ed, e6]⟩
    · intro δ' ⟨s3, s4, left, i, e1, e2, e3, e4, e5, e6⟩
      subst e1
      have hi : i = 0 := by
        cases i with
        | zero => rfl
        | succ i => rw [rev_range_succ] at e2; cases e2
      subst hi
      dsimp only
      rw [execs, exec]
      simp only [ev, evs, getV, List.getElem?_cons_zero, List.getElem?_cons_succ, biW, tupleW]
      rw [dropS] at e6
      rw [← e6] at q
      exact q
/-- rules of lists of up to eight items -/
def R8 (names : List Nm) (r : Rl) : Prop := RIOk names r ∧ r.1.length ≤ 8 ∧ r.2.length ≤ 8
def W_joined (ds : List Dat) (Q : Dat → Prop) : Prop := ∃ (names : List Nm) (rules : List Rl), ds = [.pot, tR rules] ∧ rules ≠ [] ∧ rules.length ≤ 10000 ∧ (∀ r ∈ rules, R8 names r) ∧ ∀ r, R8 names r → Q (dR r)
theorem sp_joined {f f1 : Nat} (hT : T[f]? = some (D__law_joined f1)) (hp : prim f = none) (h1 : Sp T G prim f1 2 W_of) : Sp T G prim f 3 W_joined :=
  .of_def hT hp fun k hk ds Q ⟨names, rules, e, hne, hl, hr, q⟩ => by
    subst e
    have hb : big = 16777216 := rfl
    refine ⟨rfl, ?_⟩
    unfold D__law_joined
    rw [show startD 5 [.pot, tR rules] = [.val .pot, .val (tR rules), .no, .no, .no] from rfl]
    have pick : ∀ {Q' : Dat → Prop}, (∀ r ∈ rules, Q' (dR r)) → W_of [.pot, tR rules] Q' := fun {Q'} hq => ⟨_, _, rfl, rfl, by simpa using hne, by rw [List.length_map]; omega, fun d hd => by
      obtain ⟨r, h, rfl⟩ := List.mem_map.mp hd
      exact hq r h⟩
    rw [execs, exec]
    simp only [ev, evs, getV, List.getElem?_cons_zero, List.getElem?_cons_succ, pickD, List.map, List.getD_cons_zero, List.getD_cons_succ]
    refine h1 k hk _ _ (pick fun a ha => h1 k hk _ _ (pick fun b hb2 => ?_))
    obtain ⟨⟨a1, a2⟩, a3, a4⟩ := hr a ha
    obtain ⟨⟨b1, b2⟩, b3, b4⟩ := hr b hb2
    refine ⟨rfl, ?_⟩
    simp only [setPar, List.reverse_cons, List.reverse_nil, List.nil_append, List.cons_append, List.set_cons_zero, List.set_cons_succ, Bool.false_eq_true, if_false]
    rw [execs, exec]
    simp only [ev, evs, getV, List.getElem?_cons_zero, List.getElem?_cons_succ, idxW, dR]
    refine ⟨_, at_zero _ _, _, rfl, _, at_zero _ _, _, at_zero _ _, ?_⟩
    simp only [op2W, tS]
    refine ⟨by simp only [List.length_map]; omega, ?_⟩
    simp only [sliceW]
    rw [show (8 : Int) = ((8 : Nat) : Int) from rfl, ← List.map_append, cut_to, ← List.map_take]
    refine ⟨_, rfl, _, at_zero _ _, _, at_zero _ _, _, rfl, ?_⟩
    refine ⟨by simp only [List.length_map]; omega, ?_⟩
    rw [← List.map_append, cut_to, ← List.map_take]
    simp only [List.set_cons_zero, List.set_cons_succ]
    rw [execs, exec]
    simp only [ev, evs, getV, List.getElem?_cons_zero, List.getElem?_cons_succ, pickD, List.map, List.getD_cons_zero, List.getD_cons_succ]
    refine h1 k hk _ _ ⟨_, _, rfl, rfl, by simp, by simp [hb], fun d hd => ?_⟩
    simp only [List.mem_cons, List.not_mem_nil, or_false] at hd
    rcases hd with rfl | rfl | rfl | rfl
    · exact q (a.1, b.2) ⟨⟨a1, b2⟩, a3, b4⟩
    · exact q ((a.1 ++ b.1).take 8, a.2) ⟨⟨IOk.take (names := names) (IOk.append (names := names) a1 b1) 8, a2⟩, by simp only [List.length_take]; omega, a4⟩
    · exact q (a.1, (b.1 ++ a.2).take 8) ⟨⟨a1, IOk.take (names := names) (IOk.append (names := names) b1 a2) 8⟩, a3, by simp only [List.length_take]; omega⟩
    · exact q a ⟨⟨a1, a2⟩, a3, a4⟩
theorem law26 {fd ff fj fn fp fr ft fx k : Nat} (hpm : PM prim) (hk : 9 ≤ k) (hdrop : Sp T G prim fd 4 W_dropped) (hfree : Sp T G prim ff 3 W_lfree) (hjoin : Sp T G prim fj 3 W_joined) (hnames : Sp T G prim fn 3 W_names) (hpot : Sp T G prim fp 1 potW) (hrul : Sp T G prim fr 4 W_ruled) (htake : Sp T G prim ft 1 takeW) (hneed : Sp T G prim fx 8 W_needed) (ns : List Int) :
    execs (callW T G prim k) G (D_law26 fd ff fj fn fp fr ft fx).body (startD 9 [.scr ns]) { nx := fun _ => False, rt := fun _ d => d = .bl true } := by
  have hb : big = 16777216 := rfl
  unfold D_law26
  rw [show startD 9 [.scr ns] = [.val (.scr ns), .no, .no, .no, .no, .no, .no, .no, .no] from rfl]
  rw [execs, exec]
  simp only [ev, evs, getV, List.getElem?_cons_zero, List.getElem?_cons_succ, biW, lenW, minW, maxW, rangeW]
  refine ⟨⟨by omega, by omega⟩, _, rfl, ?_⟩
  refine forW_list (fun δ D D' h => execs_mono (callW_mono hpm k) _ δ D D' h) (fun i : Nat => Dat.int i) (List.range (max 1 (min 3 (ns.length : Int))).toNat) (fun done rest δ => ∃ s1 s2 s3 s4 s5 s6 s7 s8 : Slot, δ = [.val (.scr ns), s1, s2, s3, s4, s5, s6, s7, s8]) _ ⟨_, _, _, _, _, _, _, _, rfl⟩ ?_ ?_
  · intro done i rest δ' e ⟨s1, s2, s3, s4, s5, s6, s7, s8, e1⟩
    subst e1
    have hi : i < (max 1 (min 3 (ns.length : Int))).toNat := List.mem_range.mp (by rw [e]; simp)
    rw [bindP]
    simp only [List.set_cons_zero, List.set_cons_succ]
    rw [execs, exec]
    simp only [ev, evs, getV, List.getElem?_cons_zero, List.getElem?_cons_succ, pickD, List.map, List.getD_cons_zero, List.getD_cons_succ]
    refine hpot k (by omega) _ _ ⟨⟨by omega, by omega⟩, ?_⟩
    simp only [List.set_cons_zero, List.set_cons_succ]
    rw [execs, exec]
    simp only [ev, evs, getV, List.getElem?_cons_zero, List.getElem?_cons_succ, pickD, List.map, List.getD_cons_zero, List.getD_cons_succ, op2W]
    refine htake k (by omega) _ _ ⟨⟨by decide, lt8k (by decide) (by decide)⟩, fun r hr0 hr1 => ?_⟩
    obtain ⟨m, rfl⟩ := Int.eq_ofNat_of_zero_le hr0
    refine hnames k (by omega) _ _ ⟨1 + m, by simp, by omega, fun names nok => ?_⟩
    have nk := nok.each
    have hlen := nok.len
    have hne : names ≠ [] := fun e => by rw [e] at hlen; simp at hlen; omega
    have hns : ∀ s ∈ names, s.length ≤ 1000 := fun s hs => by have := (nk s hs).hi; omega
    have n12 : names.length ≤ 12 := by omega
    simp only [List.set_cons_zero, List.set_cons_succ]
    rw [execs, exec]
    simp only [ev, evs, getV, List.getElem?_cons_zero, List.getElem?_cons_succ, pickD, List.map, List.getD_cons_zero, List.getD_cons_succ]
    refine hrul k (by omega) _ _ ⟨names, 4, rfl, hne, by omega, hns, by decide, fun rules rl rk => ?_⟩
    have rk8 : ∀ r ∈ rules, R8 names r := fun r hr => by
      obtain ⟨a, b, c⟩ := rk r hr
      exact ⟨a, by omega, by omega⟩
    simp only [List.set_cons_zero, List.set_cons_succ]
    rw [execs, exec]
    simp only [ev, evs, getV, List.getElem?_cons_zero, List.getElem?_cons_succ, pickD, List.map, List.getD_cons_zero, List.getD_cons_succ]
    refine htake k (by omega) _ _ ⟨⟨by decide, lt8k (by decide) (by decide)⟩, fun w hw0 hw1 => ?_⟩
    simp only [cmpW, biW, intW, op2W, rangeW]
    refine ⟨okd_tR _ _, fun x hx => (nomatch hx), ?_⟩
    rw [eq_tR_nil]
    have hw4 : w < 4 := hw1
    refine ⟨.inl (.inl (by omega)), ⟨?_, ?_⟩, _, rfl, ?_⟩
    · split <;> omega
    · split <;> omega
    have hmany : (w * (if (!decide (rules = [])) = true then 1 else 0)).toNat ≤ 3 ∧ (rules = [] → (w * (if (!decide (rules = [])) = true then 1 else 0)).toNat = 0) := by
      by_cases h : rules = []
      · rw [decide_eq_true h]; simp
      · rw [decide_eq_false h]; simp [h]; omega
    generalize (w * (if (!decide (rules = [])) = true then 1 else 0)).toNat = many at hmany
    -- behind the longer rules
    have rest2 : ∀ (s5 s6 s7 s8 : Slot) (rules : List Rl), rules.length ≤ 7 → (∀ r ∈ rules, R8 names r) →
        execs (callW T G prim k) G [.set 6 (.call ft [.var 2, .op2 .add (.bi .len [.var 4]) (.int 1)] [] [.p 0, .p 1]), .set 4 (.op2 .add (.slc (.var 4) (.var 6) .non) (.slc (.var 4) .non (.var 6))), .par [false, false] [7, 8] [.bi .repr [.var 4], .call fx [.var 3, .var 4] [] [.p 0, .p 1]], .ite (.or (.cmp .ne (.bi .repr [.var 8]) (.bi .repr [.call fd [.var 3, .var 4] [] [.p 0, .p 1]])) (.cmp .ne (.bi .repr [.var 4]) (.var 7))) [.ret (.bl false)] [], .ite (.cmp .ne (.call ff [.var 3, .var 8] [] [.p 0, .p 1]) (.call ff [.var 3, .var 4] [] [.p 0, .p 1])) [.ret (.bl false)] []]
          [.val (.scr ns), .val (.int i), .val .pot, .val (tS names), .val (tR rules), s5, s6, s7, s8]
          { nx := fun δ => ∃ s1 s2 s3 s4 s5 s6 s7 s8 : Slot, δ = [.val (.scr ns), s1, s2, s3, s4, s5, s6, s7, s8], rt := fun _ d => d = .bl true, bk := fun δ' => execs (callW T G prim k) G [.ret (.bl true)] δ' { nx := fun _ => False, rt := fun _ d => d = .bl true }, ct := fun δ => ∃ s1 s2 s3 s4 s5 s6 s7 s8 : Slot, δ = [.val (.scr ns), s1, s2, s3, s4, s5, s6, s7, s8] } := by
      intro s5 s6 s7 s8 rules rl rk
      rw [execs, exec]
      simp only [ev, evs, getV, List.getElem?_cons_zero, List.getElem?_cons_succ, pickD, List.map, List.getD_cons_zero, List.getD_cons_succ, biW, lenW, tR, op2W, List.length_map]
      refine htake k (by omega) _ _ ⟨⟨by omega, lt8k (by omega) (by omega)⟩, fun c hc0 hc1 => ?_⟩
      obtain ⟨c, rfl⟩ := Int.eq_ofNat_of_zero_le hc0
      simp only [List.set_cons_zero, List.set_cons_succ]
      rw [execs, exec]
      simp only [ev, getV, List.getElem?_cons_zero, List.getElem?_cons_succ, sliceW, op2W]
      rw [cutR_to, cutR_from, ← List.map_append]
      refine ⟨by simp only [List.length_map, List.length_take, List.length_drop]; omega, ?_⟩
      have rk2 : ∀ r ∈ rules.drop c ++ rules.take c, R8 names r := fun r hr => by
        rcases List.mem_append.mp hr with h | h
        · exact rk r (List.mem_of_mem_drop h)
        · exact rk r (List.mem_of_mem_take h)
      have rl2 : (rules.drop c ++ rules.take c).length ≤ 7 := by simp only [List.length_append, List.length_take, List.length_drop]; omega
      generalize rules.drop c ++ rules.take c = rs at rk2 rl2
      rw [show Dat.tup (rs.map dR) = tR rs from rfl]
      have rI : ∀ r ∈ rs, RIOk names r := fun r hr => (rk2 r hr).1
      have rO : ∀ r ∈ rs, ROk names r := fun r hr => (rI r hr).l nk
      have rp : rpd 60 big (tR rs) := rules_rp nk rk2 (by omega)
      obtain ⟨d1, d2, d3⟩ := dropS_facts names rs.length rs (Nat.le_refl _)
      have rp2 : rpd 60 big (tR (dropS names rs rs.length)) := rules_rp nk (fun r hr => rk2 r (d1 r hr)) (by omega)
      simp only [List.set_cons_zero, List.set_cons_succ]
      rw [execs, exec]
      simp only [ev, evs, getV, List.getElem?_cons_zero, List.getElem?_cons_succ, pickD, List.map, List.getD_cons_zero, List.getD_cons_succ, biW, reprW]
      refine ⟨rp, ?_⟩
      refine hneed k (by omega) _ _ ⟨names, rs, rfl, n12, by omega, rO, ?_⟩
      refine ⟨rfl, ?_⟩
      simp only [setPar, List.reverse_cons, List.reverse_nil, List.nil_append, List.cons_append, List.set_cons_zero, List.set_cons_succ, Bool.false_eq_true, if_false]
      rw [execs, exec]
      simp only [ev, evs, getV, List.getElem?_cons_zero, List.getElem?_cons_succ, pickD, List.map, List.getD_cons_zero, List.getD_cons_succ, biW, reprW, cmpW, boolW]
      refine ⟨rp2, ?_⟩
      refine hdrop k (by omega) _ _ ⟨names, rs, rfl, n12, by omega, nk, rI, ?_⟩
      refine ⟨rp2, okd_str _ _, okd_str _ _, ?_⟩
      rw [if_neg (by rw [eqD, beq_self_eq_true]; decide)]
      refine ⟨rp, okd_str _ _, okd_str _ _, ?_⟩
      rw [if_neg (by rw [eqD, beq_self_eq_true]; decide), execs]
      dsimp only
      rw [execs, exec]
      simp only [ev, evs, getV, List.getElem?_cons_zero, List.getElem?_cons_succ, pickD, List.map, List.getD_cons_zero, List.getD_cons_succ, cmpW, boolW]
      refine hfree k (by omega) _ _ ⟨names, _, dropS names rs rs.length, rfl, rfl, n12, nk, fun r hr => rI r (d1 r hr), ?_⟩
      refine hfree k (by omega) _ _ ⟨names, _, rs, rfl, rfl, n12, nk, rI, ?_⟩
      rw [d3]
      have ok2 : okd 60 (.lst ((allowedS names rs).map tI)) := fun x hx => by
        obtain ⟨sg, _, rfl⟩ := List.mem_map.mp hx
        exact okd_ints
      refine ⟨ok2, ok2, ?_⟩
      rw [if_neg (by rw [eqD_refl _ _ ok2]; decide), execs]
      dsimp only
      rw [execs]
      exact ⟨_, _, _, _, _, _, _, _, rfl⟩
    refine forW_list (fun δ D D' h => execs_mono (callW_mono hpm k) _ δ D D' h) (fun i : Nat => Dat.int i) (List.range many) (fun done rest δ => ∃ (s5 s6 s7 s8 : Slot) (rs : List Rl), δ = [.val (.scr ns), .val (.int i), .val .pot, .val (tS names), .val (tR rs), s5, s6, s7, s8] ∧ rs.length = rules.length + done.length ∧ (many ≠ 0 → rs ≠ []) ∧ ∀ r ∈ rs, R8 names r) _ ⟨_, _, _, _, rules, rfl, rfl, fun h z => h (hmany.2 z), rk8⟩ ?_ ?_
    · intro done j rest δ' e ⟨s5, s6, s7, s8, rs, e1, e2, e3, e4⟩
      subst e1
      have hd : done.length < many := by
        have := congrArg List.length e
        simp at this; omega
      rw [bindP]
      simp only [List.set_cons_zero, List.set_cons_succ]
      rw [execs, exec]
      simp only [ev, evs, getV, List.getElem?_cons_zero, List.getElem?_cons_succ, pickD, List.map, List.getD_cons_zero, List.getD_cons_succ]
      refine hjoin k (by omega) _ _ ⟨names, rs, rfl, e3 (by omega), by omega, e4, fun r hr => ?_⟩
      simp only [op2W, tR]
      rw [show [dR r] = [r].map dR from rfl, ← List.map_append]
      refine ⟨by simp only [List.length_map, List.length_cons, List.length_nil]; omega, ?_⟩
      simp only [List.set_cons_zero, List.set_cons_succ]
      rw [execs]
      refine ⟨_, _, _, _, rs ++ [r], rfl, by simp; omega, fun _ => by simp, fun x hx => ?_⟩
      rcases List.mem_append.mp hx with h | h
      · exact e4 x h
      · simp only [List.mem_cons, List.not_mem_nil, or_false] at h
        subst h
        exact hr
    · intro δ' ⟨s5, s6, s7, s8, rs, e1, e2, e3, e4⟩
      subst e1
      exact rest2 s5 s6 s7 s8 rs (by rw [List.length_range] at e2; omega) e4
  · intro δ' ⟨s1, s2, s3, s4, s5, s6, s7, s8, e1⟩
    dsimp only
    rw [execs, exec]
    simp only [ev]
end
end SF

/-! P79a: law k79, plain: what follows goes on following. -/
namespace SF
open PySem L2 SF
theorem lexS_flip {names : List Nm} {sg : List Int} (nk : ∀ n ∈ names, NameOk n) : ∀ w : List Nm, IOk names w → lexS names sg (w.map flip1) = 0 - lexS names sg w
  | [], _ => by rw [List.map_nil, lexS]; rfl
  | s :: r, h => by
    obtain ⟨_, e1, e2⟩ := (h s (by simp)).flip nk
    rw [List.map_cons, lexS, lexS, e1, e2]
    by_cases z : sg.getD (plc names (colOf s)) 0 = 0
    · rw [if_pos z, if_pos z]
      exact lexS_flip nk r fun x hx => h x (by simp [hx])
    · rw [if_neg z, if_neg z]
      cases fall s <;> simp
theorem lexS_append {names : List Nm} {sg : List Int} (t : List Nm) : ∀ u : List Nm, lexS names sg (u ++ t) = if lexS names sg u = 0 then lexS names sg t else lexS names sg u
  | [] => by rw [List.nil_append, show lexS names sg [] = 0 from by rw [lexS], if_pos rfl]
  | s :: r => by
    rw [List.cons_append, lexS, lexS]
    by_cases z : sg.getD (plc names (colOf s)) 0 = 0
    · rw [if_pos z, if_pos z]
      exact lexS_append t r
    · rw [if_neg z, if_neg z]
      refine (if_neg fun e => z ?_).symm
      split at e <;> omega
/-- where a list's head decides -/
theorem lexS_take {names : List Nm} {sg : List Int} (u : List Nm) (n : Nat) : lexS names sg (u.take n) = 0 ∨ lexS names sg (u.take n) = lexS names sg u := by
  by_cases z : lexS names sg (u.take n) = 0
  · exact .inl z
  · right
    have := lexS_append (names := names) (sg := sg) (u.drop n) (u.take n)
    rw [List.take_append_drop, if_neg z] at this
    exact this.symm
section
variable {names : List Nm} {rules : List Rl} {base goal third : List Nm}
theorem fol_pre (n : Nat) : followsS names rules base (base.take n) = true := by
  rw [followsS_iff]
  rintro sg _ ⟨h1, h2⟩
  rcases lexS_take (names := names) (sg := sg) base n with e | e <;> omega
theorem fol_more (n : Nat) (h : followsS names rules (base.take n) goal = true) : followsS names rules base goal = true := by
  rw [followsS_iff] at h ⊢
  rintro sg hs ⟨h1, h2⟩
  refine h sg hs ⟨?_, h2⟩
  rcases lexS_take (names := names) (sg := sg) base n with e | e <;> omega
theorem fol_tail (t : List Nm) (h : followsS names rules base goal = true) : followsS names rules (base ++ t) goal = true :=
  fol_more base.length (by rw [List.take_left]; exact h)
theorem fol_goal (n : Nat) (h : followsS names rules base goal = true) : followsS names rules base (goal.take n) = true := by
  rw [followsS_iff] at h ⊢
  rintro sg hs ⟨h1, h2⟩
  refine h sg hs ⟨h1, ?_⟩
  rcases lexS_take (names := names) (sg := sg) goal n with e | e <;> omega
theorem fol_rules (more : List Rl) (h : followsS names rules base goal = true) : followsS names (more ++ rules) base goal = true := by
  rw [followsS_iff] at h ⊢
  intro sg hs
  refine h sg ?_
  rw [allowedS_iff] at hs ⊢
  rw [List.all_append, Bool.and_eq_true] at hs
  exact ⟨hs.1, hs.2.1, hs.2.2.2⟩
theorem fol_trans (h : followsS names rules base goal = true) (h' : followsS names rules goal third = true) : followsS names rules base third = true := by
  rw [followsS_iff] at h h' ⊢
  rintro sg hs ⟨h1, h2⟩
  have a := h sg hs
  have b := h' sg hs
  by_cases z : 0 < lexS names sg goal
  · exact a ⟨h1, z⟩
  · exact b ⟨by omega, h2⟩
theorem fol_flip (nk : ∀ n ∈ names, NameOk n) (hb : IOk names base) (hg : IOk names goal) : followsS names rules (base.map flip1) (goal.map flip1) = followsS names rules base goal := by
  rw [Bool.eq_iff_iff, followsS_iff, followsS_iff]
  constructor
  · intro h sg hs ⟨h1, h2⟩
    refine h (negS sg) (allowedS_neg hs) ?_
    rw [lexS_flip nk _ hb, lexS_flip nk _ hg, lexS_neg, lexS_neg]
    omega
  · intro h sg hs ⟨h1, h2⟩
    refine h (negS sg) (allowedS_neg hs) ?_
    rw [lexS_flip nk _ hb] at h1
    rw [lexS_flip nk _ hg] at h2
    rw [lexS_neg, lexS_neg]
    omega
theorem fol_allowed : (allowedS names (rules ++ [(base, goal)]) = allowedS names rules) ↔ followsS names rules base goal = true := by
  have e : allowedS names (rules ++ [(base, goal)]) = (allowedS names rules).filter fun sg => keepsS names sg (base, goal) := by
    unfold allowedS
    rw [List.filter_filter]
    congr 1
    funext sg
    rw [List.all_append, List.all_cons, List.all_nil, Bool.and_true, Bool.and_comm]
  have g := goes_follows names rules (base, goal)
  show _ ↔ followsS names rules (base, goal).1 (base, goal).2 = true
  rw [e, g]
  unfold goes
  rw [List.filter_eq_self, List.all_eq_true]
end
/-! ### other names -/
/-- an item by another name -/
def renI (f : Nm → Nm) (s : Nm) : Nm := if fall s then 45 :: f (s.drop 1) else f s
/-- signs for the new names, read at the old ones -/
def backS (names cols : List Nm) (f : Nm → Nm) (sg : List Int) : List Int := names.map fun n => sg.getD (plc cols (f n)) 0
/-- signs for the old names, laid at the new ones -/
def layS (names cols : List Nm) (f : Nm → Nm) (sg : List Int) : List Int := cols.map fun m => sg.getD (names.findIdx fun n => f n == m) 0
structure Ren (names cols : List Nm) (f : Nm → Nm) : Prop where
  nk : ∀ n ∈ names, NameOk n
  ck : ∀ n ∈ cols, NameOk n
  at_ : ∀ n ∈ names, f n ∈ cols
  nd : names.Nodup
  inj : ∀ a ∈ names, ∀ b ∈ names, f a = f b → a = b
theorem plc_at {l : List Nm} {c : Nm} (h : c ∈ l) : l[plc l c]? = some c := by
  have lt := plc_lt h
  rw [List.getElem?_eq_getElem lt]
  have := List.findIdx_getElem (xs := l) (p := fun z => z == c) (w := lt)
  exact congrArg some (eq_of_beq this)
section
variable {names cols : List Nm} {f : Nm → Nm} (R : Ren names cols f)
include R
theorem Ren.item {s : Nm} (h : ItemOf names s) : colOf (renI f s) = f (colOf s) ∧ fall (renI f s) = fall s ∧ ItemOf cols (renI f s) := by
  obtain ⟨n, hm, ok, e, _, _, ⟨e1, e2, _⟩ | ⟨e1, e2, _⟩⟩ := h.cases R.nk
  · have ok' := R.ck _ (R.at_ n hm)
    have er : renI f s = f n := by unfold renI; rw [e2, if_neg (by decide), e1]
    rw [er, e, e2, colOf_name ok', fall_name ok']
    exact ⟨rfl, rfl, f n, R.at_ n hm, .inl rfl⟩
  · have er : renI f s = 45 :: f n := by
      unfold renI
      rw [e2, if_pos rfl, e1]
      rfl
    rw [er, e, e2, colOf_minus, fall_minus]
    exact ⟨rfl, rfl, f n, R.at_ n hm, .inr rfl⟩
theorem Ren.back (sg : List Int) : ∀ w : List Nm, IOk names w → lexS cols sg (w.map (renI f)) = lexS names (backS names cols f sg) w
  | [], _ => by rw [List.map_nil, lexS, lexS]
  | s :: r, h => by
    obtain ⟨e1, e2, _⟩ := R.item (h s (by simp))
    have hc := (h s (by simp)).col R.nk
    have ev : (backS names cols f sg).getD (plc names (colOf s)) 0 = sg.getD (plc cols (f (colOf s))) 0 := by
      unfold backS
      rw [List.getD_eq_getElem?_getD, List.getElem?_map, plc_at hc]
      rfl
    rw [List.map_cons, lexS, lexS, e1, e2, ev, Ren.back sg r fun x hx => h x (by simp [hx])]
theorem Ren.lay {sg : List Int} (hl : sg.length = names.length) : backS names cols f (layS names cols f sg) = sg := by
  refine List.ext_getElem? fun i => ?_
  by_cases lt : i < names.length
  · unfold backS
    rw [List.getElem?_map, List.getElem?_eq_getElem lt, Option.map_some, List.getElem?_eq_getElem (show i < sg.length by omega)]
    congr 1
    have hm : names[i] ∈ names := List.getElem_mem lt
    unfold layS
    rw [List.getD_eq_getElem?_getD, List.getElem?_map, plc_at (R.at_ _ hm)]
    show sg.getD (names.findIdx fun n => f n == f names[i]) 0 = sg[i]
    have lk : (names.findIdx fun n => f n == f names[i]) < names.length := List.findIdx_lt_length_of_exists ⟨names[i], hm, by simp⟩
    have hk := List.findIdx_getElem (xs := names) (p := fun n => f n == f names[i]) (w := lk)
    have e := R.inj _ (List.getElem_mem lk) _ hm (eq_of_beq hk)
    have ek : (names.findIdx fun n => f n == f names[i]) = i := (List.getElem_inj R.nd).mp e
    rw [ek, List.getD_eq_getElem?_getD, List.getElem?_eq_getElem (show i < sg.length by omega)]
    rfl
  · unfold backS
    rw [List.getElem?_eq_none (by rw [List.length_map]; omega), List.getElem?_eq_none (by omega)]
theorem Ren.sgB {sg : List Int} (h : Sg sg) : Sg (backS names cols f sg) := fun x hx => by
  obtain ⟨n, _, rfl⟩ := List.mem_map.mp hx
  exact h.getD _
theorem Ren.sgL {sg : List Int} (h : Sg sg) : Sg (layS names cols f sg) := fun x hx => by
  obtain ⟨n, _, rfl⟩ := List.mem_map.mp hx
  exact h.getD _
theorem Ren.keeps (sg : List Int) {r : Rl} (h : RIOk names r) : keepsS cols sg (r.1.map (renI f), r.2.map (renI f)) = keepsS names (backS names cols f sg) r := by
  unfold keepsS
  rw [R.back sg _ h.1, R.back sg _ h.2]
/-- the same question in other words -/
theorem Ren.fol {rules : List Rl} {base goal : List Nm} (hr : ∀ r ∈ rules, RIOk names r) (hb : IOk names base) (hg : IOk names goal) :
    followsS cols (rules.map fun r => (r.1.map (renI f), r.2.map (renI f))) (base.map (renI f)) (goal.map (renI f)) = followsS names rules base goal := by
  rw [Bool.eq_iff_iff, followsS_iff, followsS_iff]
  have all : ∀ sg : List Int, ((rules.map fun r => (r.1.map (renI f), r.2.map (renI f))).all (keepsS cols sg)) = rules.all (keepsS names (backS names cols f sg)) := fun sg => by
    rw [Bool.eq_iff_iff, List.all_eq_true, List.all_eq_true]
    constructor
    · intro h r hm
      have := h _ (List.mem_map.mpr ⟨r, hm, rfl⟩)
      rwa [R.keeps sg (hr r hm)] at this
    · intro h x hx
      obtain ⟨r, hm, rfl⟩ := List.mem_map.mp hx
      rw [R.keeps sg (hr r hm)]
      exact h r hm
  constructor
  · intro h sg hs ⟨h1, h2⟩
    rw [allowedS_iff] at hs
    refine h (layS names cols f sg) ?_ ?_
    · rw [allowedS_iff, all, R.lay hs.1]
      exact ⟨by unfold layS; rw [List.length_map], R.sgL hs.2.1, hs.2.2⟩
    · rw [R.back _ _ hb, R.back _ _ hg, R.lay hs.1]
      exact ⟨h1, h2⟩
  · intro h sg hs ⟨h1, h2⟩
    rw [allowedS_iff, all] at hs
    refine h (backS names cols f sg) ?_ ?_
    · rw [allowedS_iff]
      exact ⟨by unfold backS; rw [List.length_map], R.sgB hs.2.1, hs.2.2⟩
    · rw [R.back _ _ hb] at h1
      rw [R.back _ _ hg] at h2
      exact ⟨h1, h2⟩
end
end SF

/-! P79b: law k79: the defs. -/
namespace SF
open PySem L2 SF
def kvD (kv : List (Nm × Nm)) : List (Dat × Dat) := kv.map fun p => (.str p.1, .str p.2)
def getN (kv : List (Nm × Nm)) (s : Nm) : Option Nm := (kv.find? fun p => decide (p.1 = s)).map (·.2)
theorem getK_kv (kv : List (Nm × Nm)) (s : Nm) : getK (kvD kv) s = (getN kv s).map Dat.str := by
  unfold getK getN kvD
  rw [List.find?_map, Option.map_map, Option.map_map]
  rfl
theorem idx_kv {kv : List (Nm × Nm)} {s t : Nm} {Q : Dat → Prop} (h : getN kv s = some t) (q : Q (.str t)) : idxW (.dic (kvD kv)) (.str s) Q := by
  simp only [idxW]
  exact ⟨.str t, by rw [getK_kv, h]; rfl, q⟩
theorem idx_head {c : Nat} {r : Nm} {Q : Dat → Prop} (q : Q (.str [c])) : idxW (.str (c :: r)) (.int 0) Q := by
  simp only [idxW]
  exact ⟨.str [c], at_zero _ _, q⟩
theorem getN_mem {kv : List (Nm × Nm)} {s : Nm} (h : s ∈ kv.map (·.1)) : ∃ t, getN kv s = some t ∧ (s, t) ∈ kv := by
  obtain ⟨p, hp, rfl⟩ := List.mem_map.mp h
  unfold getN
  cases e : kv.find? fun q => decide (q.1 = p.1) with
  | none => exact absurd (List.find?_eq_none.mp e p hp) (by simp)
  | some q =>
    have h1 : q.1 = p.1 := of_decide_eq_true (List.find?_some (p := fun q : Nm × Nm => decide (q.1 = p.1)) e)
    exact ⟨q.2, rfl, by rw [← h1]; exact List.mem_of_find?_eq_some e⟩
theorem putD_kv {kv : List (Nm × Nm)} {s t : Nm} (h : s ∉ kv.map (·.1)) : putD (kvD kv) s (.str t) = kvD (kv ++ [(s, t)]) := by
  unfold putD
  rw [if_neg]
  · simp [kvD]
  · rw [List.any_eq_true]
    rintro ⟨x, hx, e⟩
    obtain ⟨p, hp, rfl⟩ := List.mem_map.mp hx
    exact h (List.mem_map.mpr ⟨p, hp, of_decide_eq_true e⟩)
section
variable {T : List FDef} {G : Nat → Option Dat} {prim : Nat → Option (List Dat → (Dat → Prop) → Prop)}
/-- _law_called(_law_calls, _law_wish, _law_item) -/
def D__law_called : FDef := ⟨2, 3, [
    .ret (.bi .tuple [.comp [2] (.v 2) (.var 1) (.bl true) (.ite (.cmp .ne (.idx (.var 2) (.int 0)) (.str [45])) (.idx (.var 0) (.var 2)) (.op2 .add (.str [45]) (.idx (.var 0) (.slc (.var 2) (.int 1) .non))))])]⟩
/-- _law_renamed(_law_pot_here, _law_ask, _law_names_here, _law_pairs, _law_base, _law_goal, _law_left, _law_fresh, _law_calls, _law_new, _law_mine, _law_its, _law_rules_now) -/
def D__law_renamed (f__law_called f__law_names f__law_take : Nat) : FDef := ⟨2, 13, [
    .unp (.t [.v 2, .v 3, .v 4, .v 5]) (.var 1),
    .parC [true, false, true] [6, 7, 8] [.bi .list [.var 2], .call f__law_names [.var 0, .op2 .add (.bi .len [.var 2]) (.int 1)] [] [.p 0, .p 1], .dnew],
    .for (.v 9) (.slc (.var 7) (.int 1) .non) [.stp 8 6 (.call f__law_take [.var 0, .bi .len [.obs 6]] [] [.p 0, .p 1]) (.var 9)],
    .frz 8,
    .set 12 (.bi .tuple [.comp [10, 11] (.t [.v 10, .v 11]) (.var 3) (.bl true) (.tup [.call f__law_called [.var 8, .var 10] [] [.p 0, .p 1], .call f__law_called [.var 8, .var 11] [] [.p 0, .p 1]])]),
    .ret (.tup [.bi .tuple [.bi .sorted [.var 7]], .var 12, .call f__law_called [.var 8, .var 4] [] [.p 0, .p 1], .call f__law_called [.var 8, .var 5] [] [.p 0, .p 1]])]⟩
def W_called (ds : List Dat) (Q : Dat → Prop) : Prop := ∃ (kv : List (Nm × Nm)) (f : Nm → Nm) (names w : List Nm), ds = [.dic (kvD kv), tS w] ∧ (∀ n ∈ names, NameOk n) ∧ IOk names w ∧ (∀ n ∈ names, getN kv n = some (f n)) ∧ (∀ n ∈ names, (f n).length ≤ 1000) ∧ Q (tS (w.map (renI f)))
theorem sp_called {f : Nat} (hT : T[f]? = some D__law_called) (hp : prim f = none) : Sp T G prim f 1 W_called :=
  .of_def hT hp fun k hk ds Q ⟨kv, g, names, w, e, nk, hw, hg, hl, q⟩ => by
    subst e
    have hb : big = 16777216 := rfl
    refine ⟨rfl, ?_⟩
    unfold D__law_called
    rw [show startD 3 [.dic (kvD kv), tS w] = [.val (.dic (kvD kv)), .val (tS w), .no] from rfl]
    rw [execs, exec]
    simp only [ev, evs, getV, List.getElem?_cons_zero, List.getElem?_cons_succ]
    refine ⟨w.map .str, rfl, ?_⟩
    refine mapW_on Dat.str (fun s => some (.str (renI g s))) w _ (fun s hs Q' q' => ?_) ?_
    · obtain ⟨c, r, es, hh⟩ := (hw s hs).head nk
      obtain ⟨n, hm, ok, _, _, _, hc⟩ := (hw s hs).cases nk
      rw [bindP]
      simp only [wipeD, List.set_cons_zero, List.set_cons_succ, boolW, if_true, ev, evs, getV, List.getElem?_cons_zero, List.getElem?_cons_succ, cmpW]
      have eb : eqD (.str [c]) (.str [45]) = fall s := by rw [eqD, ← hh]; simp
      refine (show idxW (.str s) (.int 0) _ from ?_)
      rw [es]
      refine idx_head ⟨okd_str _ _, okd_str _ _, ?_⟩
      rw [← es, eb]
      rcases hc with ⟨e1, e2, _⟩ | ⟨e1, e2, _⟩
      · rw [e2, if_pos (by decide)]
        refine idx_kv (hg _ (e1 ▸ hm)) ?_
        unfold renI at q'
        rw [e2, if_neg (by decide)] at q'
        exact q'
      · rw [e2, if_neg (by decide)]
        have ed : s.drop 1 = n := by rw [e1]; rfl
        simp only [sliceW]
        rw [show cut s (some 1) none = s.drop 1 from cut_from s 1, ed]
        refine idx_kv (hg n hm) ?_
        simp only [op2W]
        unfold renI at q'
        rw [e2, if_pos rfl, ed] at q'
        exact ⟨by have := hl n hm; simp; omega, q'⟩
    · rw [List.filterMap_eq_map', show (w.map fun s => Dat.str (renI g s)) = (w.map (renI g)).map Dat.str by rw [List.map_map]; rfl]
      simp only [biW, tupleW]
      exact q
theorem map_erase {α β : Type} (f : α → β) : ∀ (l : List α) (i : Nat), (l.map f).eraseIdx i = (l.eraseIdx i).map f
  | [], _ => by simp
  | _ :: _, 0 => by simp
  | a :: l, i + 1 => by simp [map_erase f l i]
theorem inj_snd : ∀ {kv : List (Nm × Nm)}, (kv.map (·.2)).Nodup → ∀ {a b t : Nm}, (a, t) ∈ kv → (b, t) ∈ kv → a = b
  | [], _, _, _, _, h, _ => by simp at h
  | p :: kv, nd, a, b, t, h, h' => by
    rw [List.map_cons, List.nodup_cons] at nd
    rcases List.mem_cons.mp h with e | e
    · rcases List.mem_cons.mp h' with e' | e'
      · rw [← e] at e'
        exact (Prod.mk.inj e').1.symm
      · exact absurd (List.mem_map.mpr ⟨(b, t), e', by rw [← e]⟩) nd.1
    · rcases List.mem_cons.mp h' with e' | e'
      · exact absurd (List.mem_map.mpr ⟨(a, t), e, by rw [← e']⟩) nd.1
      · exact inj_snd nd.2 e e'
theorem Asc.nodup {l : List Nm} (h : Asc l) : l.Nodup := h.imp fun {a b} q e => by
  subst e
  rw [ltS_irrefl] at q
  cases q
theorem asc_sorted {l : List Nm} (h : Asc l) : l.mergeSort leS = l := List.mergeSort_of_pairwise (h.imp fun {a b} q => by
  unfold leS
  rw [ltS_asymm q]
  rfl)
def ren2 (f : Nm → Nm) (r : Rl) : Rl := (r.1.map (renI f), r.2.map (renI f))
def W_renamed (ds : List Dat) (Q : Dat → Prop) : Prop := ∃ (most : Nat) (names : List Nm) (rules : List Rl) (base goal : List Nm), ds = [.pot, dAsk names rules base goal] ∧ AskOk most names rules base goal ∧ most ≤ 8 ∧
  ∀ (cols : List Nm) (f : Nm → Nm), NamesOk (names.length + 1) cols → Ren names cols f → Q (dAsk cols (rules.map (ren2 f)) (base.map (renI f)) (goal.map (renI f)))
theorem sp_renamed {f fc fn ft : Nat} (hpm : PM prim) (hT : T[f]? = some (D__law_renamed fc fn ft)) (hp : prim f = none) (hc : Sp T G prim fc 1 W_called) (hn : Sp T G prim fn 3 W_names) (ht : Sp T G prim ft 1 takeW) : Sp T G prim f 4 W_renamed :=
  .of_def hT hp fun k hk ds Q ⟨most, names, rules, base, goal, e, ok, hm8, q⟩ => by
    subst e
    have hb : big = 16777216 := rfl
    have n8 : names.length ≤ 8 := by have := ok.n2; omega
    have nd := ok.asc.nodup
    refine ⟨rfl, ?_⟩
    unfold D__law_renamed
    rw [show startD 13 [.pot, dAsk names rules base goal] = [.val .pot, .val (dAsk names rules base goal), .no, .no, .no, .no, .no, .no, .no, .no, .no, .no, .no] from rfl]
    rw [execs, exec]
    simp only [ev, getV, List.getElem?_cons_zero, List.getElem?_cons_succ, dAsk, bindP, bindPs, List.set_cons_zero, List.set_cons_succ]
    generalize hask : Dat.tup [tS names, tR rules, tS base, tS goal] = ask
    rw [execs, exec]
    simp only [ev, evs, getV, List.getElem?_cons_zero, List.getElem?_cons_succ, pickD, List.map, List.getD_cons_zero, List.getD_cons_succ, biW, listW, lenW, op2W, tS]
    refine hn k (by omega) _ _ ⟨names.length + 1, by simp, by omega, fun cols ck => ?_⟩
    refine ⟨rfl, ?_⟩
    simp only [setPar, List.set_cons_zero, List.set_cons_succ, if_true, Bool.false_eq_true, if_false]
    rw [execs, exec]
    simp only [ev, getV, List.getElem?_cons_zero, List.getElem?_cons_succ, tS, sliceW]
    rw [show cut (cols.map Dat.str) (some 1) none = (cols.map Dat.str).drop 1 from cut_from _ 1, ← List.map_drop]
    refine ⟨_, rfl, ?_⟩
    have cn := ck.asc.nodup
    have cl := ck.len
    refine forW_list (fun δ D D' h => execs_mono (callW_mono hpm k) _ δ D D' h) Dat.str (cols.drop 1) (fun done rest δ => ∃ (left : List Nm) (kv : List (Nm × Nm)) (s9 : Slot), δ = [.val .pot, .val ask, .val (tS names), .val (tR rules), .val (tS base), .val (tS goal), .own (.lst (left.map .str)), .val (tS cols), .own (.dic (kvD kv)), s9, .no, .no, .no] ∧ left.length = rest.length ∧ kv.map (·.2) = done ∧ (left ++ kv.map (·.1)).Perm names) _
      ⟨names, [], _, rfl, by rw [List.length_drop]; omega, rfl, by simp⟩ ?_ ?_
    · intro done a rest δ' e ⟨left, kv, s9, e1, hl, hv, hpm'⟩
      subst e1
      have l8 : left.length ≤ 8 := by have := hpm'.length_eq; simp at this; omega
      have k8 : kv.length ≤ 8 := by have := hpm'.length_eq; simp at this; omega
      have lp : 0 < left.length := by rw [hl]; simp
      rw [bindP]
      simp only [List.set_cons_zero, List.set_cons_succ]
      rw [execs, exec]
      simp only [ev, evs, getV, getO, List.getElem?_cons_zero, List.getElem?_cons_succ, pickD, List.map, List.getD_cons_zero, List.getD_cons_succ, biW, lenW]
      refine ⟨kvD kv, rfl, left.map .str, rfl, ?_⟩
      refine ht k (by omega) _ _ ⟨⟨by rw [List.length_map]; omega, lt8k (by omega) (by rw [List.length_map]; omega)⟩, fun r r0 r1 => ?_⟩
      obtain ⟨j, rfl⟩ := Int.eq_ofNat_of_zero_le r0
      have lj : j < left.length := by rw [List.length_map] at r1; omega
      have hj : left[j]? = some left[j] := List.getElem?_eq_getElem lj
      have pj := L2.erase_perm left j _ hj
      have fresh : left[j] ∉ kv.map (·.1) := fun h => by
        have nd2 := (hpm'.nodup_iff).mpr nd
        exact (List.nodup_append.mp nd2).2.2 _ (List.getElem_mem lj) _ h rfl
      refine ⟨j, j, left[j], rfl, ixN_nat (by rw [List.length_map]; exact lj), by rw [List.getElem?_map, hj]; rfl, by unfold kvD; rw [List.length_map]; omega, ?_⟩
      rw [putD_kv fresh, map_erase]
      simp only [List.set_cons_zero, List.set_cons_succ]
      rw [execs]
      refine ⟨left.eraseIdx j, kv ++ [(left[j], a)], _, rfl, ?_, ?_, ?_⟩
      · rw [List.length_eraseIdx, if_pos lj, hl]
        simp
      · rw [List.map_append, hv]
        rfl
      · rw [List.map_append]
        refine List.Perm.trans ?_ hpm'
        refine List.Perm.trans ?_ (pj.append_right _)
        show (left.eraseIdx j ++ (kv.map (·.1) ++ [left[j]])).Perm _
        rw [← List.append_assoc]
        exact (List.perm_append_singleton _ _)
    · intro δ' ⟨left, kv, s9, e1, hl, hv, hpm'⟩
      subst e1
      have l0 : left = [] := List.eq_nil_of_length_eq_zero (by rw [hl]; rfl)
      subst l0
      rw [List.nil_append] at hpm'
      dsimp only
      have vn : (kv.map (·.2)).Nodup := by rw [hv]; exact cn.sublist (List.drop_sublist 1 cols)
      let g : Nm → Nm := fun n => (getN kv n).getD []
      have get : ∀ n ∈ names, getN kv n = some (g n) ∧ (n, g n) ∈ kv := fun n h => by
        obtain ⟨t, h1, h2⟩ := getN_mem (hpm'.mem_iff.mpr h)
        have : g n = t := by show (getN kv n).getD [] = t; rw [h1]; rfl
        rw [this]
        exact ⟨h1, h2⟩
      have R : Ren names cols g := ⟨ok.nk, ck.each, fun n h => by
        have : g n ∈ cols.drop 1 := by rw [← hv]; exact List.mem_map.mpr ⟨_, (get n h).2, rfl⟩
        exact List.mem_of_mem_drop this, nd, fun a ha b hb e => inj_snd vn (get a ha).2 (e ▸ (get b hb).2)⟩
      have gl : ∀ n ∈ names, (g n).length ≤ 1000 := fun n h => by have := (ck.each _ (R.at_ n h)).hi; omega
      have gg : ∀ n ∈ names, getN kv n = some (g n) := fun n h => (get n h).1
      clear_value g
      rw [execs, exec]
      simp only [getO, List.getElem?_cons_zero, List.getElem?_cons_succ, List.set_cons_zero, List.set_cons_succ]
      rw [execs, exec]
      simp only [ev, evs, getV, List.getElem?_cons_zero, List.getElem?_cons_succ]
      refine ⟨rules.map dR, rfl, ?_⟩
      refine mapW_on dR (fun r => some (dR (ren2 g r))) rules _ (fun r hr Q' q' => ?_) ?_
      · have rk := (ok.rk r hr).1
        simp only [dR, bindP, bindPs, wipeD, List.set_cons_zero, List.set_cons_succ, boolW, if_true, ev, evs, getV, List.getElem?_cons_zero, List.getElem?_cons_succ, pickD, List.map, List.getD_cons_zero, List.getD_cons_succ]
        refine hc k (by omega) _ _ ⟨kv, g, names, r.1, rfl, ok.nk, rk.1, gg, gl, ?_⟩
        refine hc k (by omega) _ _ ⟨kv, g, names, r.2, rfl, ok.nk, rk.2, gg, gl, ?_⟩
        exact q'
      rw [List.filterMap_eq_map', show (rules.map fun r => dR (ren2 g r)) = (rules.map (ren2 g)).map dR by rw [List.map_map]; rfl]
      simp only [biW, tupleW, List.set_cons_zero, List.set_cons_succ]
      rw [execs, exec]
      simp only [ev, evs, getV, List.getElem?_cons_zero, List.getElem?_cons_succ, pickD, List.map, List.getD_cons_zero, List.getD_cons_succ, biW, sortedW]
      refine ⟨⟨cols, rfl⟩, ?_⟩
      rw [sort_strs, asc_sorted ck.asc]
      simp only [tupleW]
      refine hc k (by omega) _ _ ⟨kv, g, names, base, rfl, ok.nk, ok.bk, gg, gl, ?_⟩
      refine hc k (by omega) _ _ ⟨kv, g, names, goal, rfl, ok.nk, ok.gk, gg, gl, ?_⟩
      exact q cols g ck R
end
end SF

/-! P79c: law k79. -/
namespace SF
open PySem L2 SF
theorem eq_tI (a b : List Int) : eqD (tI a) (tI b) = decide (a = b) := by
  unfold tI
  rw [eqD]
  induction a generalizing b with
  | nil => cases b <;> simp [eqDs]
  | cons x a ih =>
    cases b with
    | nil => simp [eqDs]
    | cons y b =>
      rw [List.map_cons, List.map_cons, eqDs, ih, eqD]
      by_cases h1 : x = y <;> by_cases h2 : a = b <;> simp [h1, h2]
theorem eq_tIs (A B : List (List Int)) : eqD (.tup (A.map tI)) (.tup (B.map tI)) = decide (A = B) := by
  rw [eqD]
  induction A generalizing B with
  | nil => cases B <;> simp [eqDs]
  | cons x a ih =>
    cases B with
    | nil => simp [eqDs]
    | cons y b =>
      rw [List.map_cons, List.map_cons, eqDs, ih, eq_tI]
      by_cases h1 : x = y <;> by_cases h2 : a = b <;> simp [h1, h2]
theorem ok_tIs (A : List (List Int)) : okd 60 (.tup (A.map tI)) := by
  simp only [okd]
  intro x hx
  obtain ⟨a, _, rfl⟩ := List.mem_map.mp hx
  unfold tI
  simp only [okd]
  intro y hy
  obtain ⟨i, _, rfl⟩ := List.mem_map.mp hy
  exact okd_int _ _
theorem F2.yes {α : Type} {l : List α} {ys : List Dat} (h : F2 (fun _ y => y = Dat.bl true) l ys) : ys = (ys.map fun _ => true).map Dat.bl := by
  induction h with
  | nil => rfl
  | cons a _ ih =>
    subst a
    rw [List.map_cons, List.map_cons, ← ih]
section
variable {T : List FDef} {G : Nat → Option Dat} {prim : Nat → Option (List Dat → (Dat → Prop) → Prop)}
def D_right79 (f__law_listed f__law_question f__law_renamed f__law_ruled f__law_take f_allowed f_flipped f_follows : Nat) : FDef := ⟨1, 14, [
    .set 1 (.call f__law_question [.var 0, .int 4] [] [.p 0, .p 1]),
    .unp (.t [.v 2, .v 3, .v 4, .v 5]) (.var 1),
    .par [false, false] [6, 7] [.call f_follows [.var 2, .var 3, .var 4, .var 5] [] [.p 0, .p 1, .p 2, .p 3], .call f__law_ruled [.var 0, .var 2, .int 2] [] [.p 0, .p 1, .p 2]],
    .par [false, false] [8, 9] [.call f__law_listed [.var 0, .var 2, .int 1] [] [.p 0, .p 1, .p 2], .call f__law_listed [.var 0, .var 2, .int 3] [] [.p 0, .p 1, .p 2]],
    .set 10 (.call f__law_renamed [.var 0, .var 1] [] [.p 0, .p 1]),
    .set 11 (.call f_follows [.var 2, .var 3, .call f_flipped [.var 4] [] [.p 0], .call f_flipped [.var 5] [] [.p 0]] [] [.p 0, .p 1, .p 2, .p 3]),
    .ite (.cmp .ne (.lst [.var 11, .call f_follows [.idx (.var 10) (.int 0), .idx (.var 10) (.int 1), .idx (.var 10) (.int 2), .idx (.var 10) (.int 3)] [] [.p 0, .p 1, .p 2, .p 3]]) (.lst [.var 6, .var 6])) [.ret (.bl false)] [],
    .ite (.cmp .ne (.var 6) (.cmp .eq (.call f_allowed [.var 2, .op2 .add (.bi .tuple [.bi .list [.var 3]]) (.tup [.tup [.var 4, .var 5]])] [] [.p 0, .p 1]) (.call f_allowed [.var 2, .var 3] [] [.p 0, .p 1]))) [.ret (.bl false)] [],
    .ite (.not (.bi .all [.comp [12] (.v 12) (.range (.op2 .add (.bi .len [.var 4]) (.int 1))) (.bl true) (.call f_follows [.var 2, .var 3, .var 4, .slc (.var 4) .non (.var 12)] [] [.p 0, .p 1, .p 2, .p 3])])) [.ret (.bl false)] [],
    .ite (.not (.var 6)) [.ret (.not (.call f_follows [.var 2, .var 3, .slc (.var 4) .non (.call f__law_take [.var 0, .op2 .add (.bi .len [.var 4]) (.int 1)] [] [.p 0, .p 1]), .var 5] [] [.p 0, .p 1, .p 2, .p 3]))] [],
    .own 13 (.lst [.call f_follows [.var 2, .op2 .add (.bi .tuple [.var 7]) (.bi .tuple [.var 3]), .var 4, .var 5] [] [.p 0, .p 1, .p 2, .p 3], .call f_follows [.var 2, .var 3, .op2 .add (.var 4) (.var 8), .var 5] [] [.p 0, .p 1, .p 2, .p 3]]),
    .app 13 (.call f_follows [.var 2, .var 3, .var 4, .slc (.var 5) .non (.call f__law_take [.var 0, .op2 .add (.bi .len [.var 5]) (.int 1)] [] [.p 0, .p 1])] [] [.p 0, .p 1, .p 2, .p 3]),
    .ite (.cmp .ne (.obs 13) (.op2 .mul (.lst [.bl true]) (.int 3))) [.ret (.bl false)] [],
    .ret (.or (.call f_follows [.var 2, .var 3, .var 4, .var 9] [] [.p 0, .p 1, .p 2, .p 3]) (.not (.call f_follows [.var 2, .var 3, .var 5, .var 9] [] [.p 0, .p 1, .p 2, .p 3])))]⟩
theorem sp_right79 {f fli fq frn fru ft fal ffl ffo : Nat} (hpm : PM prim) (hT : T[f]? = some (D_right79 fli fq frn fru ft fal ffl ffo)) (hp : prim f = none) (hli : Sp T G prim fli 3 W_listed) (hq : Sp T G prim fq 5 W_question) (hrn : Sp T G prim frn 4 W_renamed) (hru : Sp T G prim fru 4 W_ruled) (ht : Sp T G prim ft 1 takeW) (hal : Sp T G prim fal 5 W_allowed) (hfl : Sp T G prim ffl 3 W_flipped) (hfo : Sp T G prim ffo 7 W_follows) : Sp T G prim f 8 W_right :=
  .of_def hT hp fun k hk ds Q ⟨e, q⟩ => by
    subst e
    have hb : big = 16777216 := rfl
    refine ⟨rfl, ?_⟩
    unfold D_right79
    rw [show startD 14 [.pot] = [.val .pot, .no, .no, .no, .no, .no, .no, .no, .no, .no, .no, .no, .no, .no] from rfl]
    rw [execs, exec]
    simp only [ev, evs, getV, List.getElem?_cons_zero, List.getElem?_cons_succ, pickD, List.map, List.getD_cons_zero, List.getD_cons_succ]
    refine hq k (by omega) _ _ ⟨4, rfl, by decide, by decide, fun names rules base goal ok => ?_⟩
    have n12 : names.length ≤ 12 := by have := ok.n2; omega
    have nk := ok.nk
    have rI : ∀ r ∈ rules, RIOk names r := fun r hr => (ok.rk r hr).1
    have rO : ∀ r ∈ rules, ROk names r := fun r hr => (rI r hr).l nk
    have bO := ok.bk.l nk
    have gO := ok.gk.l nk
    have hne : names ≠ [] := fun e => by have := ok.n1; rw [e] at this; simp at this
    have hns : ∀ s ∈ names, s.length ≤ 1000 := fun s hs => by have := (nk s hs).hi; omega
    have nbig : names.length ≤ big := by omega
    have b8 := ok.bl
    have g8 := ok.gl
    have r5 := ok.rl
    simp only [List.set_cons_zero, List.set_cons_succ]
    rw [execs, exec]
    simp only [ev, getV, List.getElem?_cons_zero, List.getElem?_cons_succ, dAsk, bindP, bindPs, List.set_cons_zero, List.set_cons_succ]
    rw [show Dat.tup [tS names, tR rules, tS base, tS goal] = dAsk names rules base goal from rfl]
    rw [execs, exec]
    simp only [ev, evs, getV, List.getElem?_cons_zero, List.getElem?_cons_succ, pickD, List.map, List.getD_cons_zero, List.getD_cons_succ]
    refine hfo k (by omega) _ _ ⟨names, rules, base, goal, rfl, n12, rO, bO, gO, ?_⟩
    refine hru k (by omega) _ _ ⟨names, 2, rfl, hne, nbig, hns, by decide, fun more ml mk => ?_⟩
    refine ⟨rfl, ?_⟩
    simp only [setPar, List.reverse_cons, List.reverse_nil, List.nil_append, List.cons_append, List.set_cons_zero, List.set_cons_succ, Bool.false_eq_true, if_false]
    rw [execs, exec]
    simp only [ev, evs, getV, List.getElem?_cons_zero, List.getElem?_cons_succ, pickD, List.map, List.getD_cons_zero, List.getD_cons_succ]
    refine hli k (by omega) _ _ ⟨names, 1, rfl, hne, nbig, hns, by decide, fun tl tll tlk => ?_⟩
    refine hli k (by omega) _ _ ⟨names, 3, rfl, hne, nbig, hns, by decide, fun th thl thk => ?_⟩
    refine ⟨rfl, ?_⟩
    simp only [setPar, List.reverse_cons, List.reverse_nil, List.nil_append, List.cons_append, List.set_cons_zero, List.set_cons_succ, Bool.false_eq_true, if_false]
    rw [execs, exec]
    simp only [ev, evs, getV, List.getElem?_cons_zero, List.getElem?_cons_succ, pickD, List.map, List.getD_cons_zero, List.getD_cons_succ]
    refine hrn k (by omega) _ _ ⟨4, names, rules, base, goal, rfl, ok, by decide, fun cols f ck R => ?_⟩
    simp only [List.set_cons_zero, List.set_cons_succ]
    rw [execs, exec]
    simp only [ev, evs, getV, List.getElem?_cons_zero, List.getElem?_cons_succ, pickD, List.map, List.getD_cons_zero, List.getD_cons_succ]
    have small : ∀ w : List Nm, IOk names w → ∀ s ∈ w, s.length + 1 ≤ big := fun w h s hs => by
      obtain ⟨_, _, _, _, _, h9, _⟩ := (h s hs).cases nk
      omega
    have flO : ∀ w : List Nm, IOk names w → LOk names (w.map flip1) := fun w h s hs => by
      obtain ⟨x, hx, rfl⟩ := List.mem_map.mp hs
      have := (h x hx).flip nk
      rw [this.2.1]
      exact (h x hx).col nk
    refine hfl k (by omega) _ _ ⟨base, rfl, small base ok.bk, ?_⟩
    refine hfl k (by omega) _ _ ⟨goal, rfl, small goal ok.gk, ?_⟩
    refine hfo k (by omega) _ _ ⟨names, rules, base.map flip1, goal.map flip1, rfl, n12, rO, flO base ok.bk, flO goal ok.gk, ?_⟩
    rw [fol_flip nk ok.bk ok.gk]
    simp only [List.set_cons_zero, List.set_cons_succ]
    rw [execs, exec]
    simp only [ev, evs, getV, List.getElem?_cons_zero, List.getElem?_cons_succ, pickD, List.map, List.getD_cons_zero, List.getD_cons_succ]
    have i0 : ∀ Q' : Dat → Prop, Q' (tS cols) → idxW (dAsk cols (rules.map (ren2 f)) (base.map (renI f)) (goal.map (renI f))) (.int 0) Q' := fun Q' q' => ⟨_, rfl, q'⟩
    have i1 : ∀ Q' : Dat → Prop, Q' (tR (rules.map (ren2 f))) → idxW (dAsk cols (rules.map (ren2 f)) (base.map (renI f)) (goal.map (renI f))) (.int 1) Q' := fun Q' q' => ⟨_, rfl, q'⟩
    have i2 : ∀ Q' : Dat → Prop, Q' (tS (base.map (renI f))) → idxW (dAsk cols (rules.map (ren2 f)) (base.map (renI f)) (goal.map (renI f))) (.int 2) Q' := fun Q' q' => ⟨_, rfl, q'⟩
    have i3 : ∀ Q' : Dat → Prop, Q' (tS (goal.map (renI f))) → idxW (dAsk cols (rules.map (ren2 f)) (base.map (renI f)) (goal.map (renI f))) (.int 3) Q' := fun Q' q' => ⟨_, rfl, q'⟩
    have renO : ∀ w : List Nm, IOk names w → LOk cols (w.map (renI f)) := fun w h s hs => by
      obtain ⟨x, hx, rfl⟩ := List.mem_map.mp hs
      exact (R.item (h x hx)).2.2.col R.ck
    have n4 := ok.n2
    have cl := ck.len
    refine i0 _ (i1 _ (i2 _ (i3 _ (hfo k (by omega) _ _ ⟨cols, rules.map (ren2 f), base.map (renI f), goal.map (renI f), rfl, by omega, fun r hr => ?_, renO base ok.bk, renO goal ok.gk, ?_⟩))))
    · obtain ⟨x, hx, rfl⟩ := List.mem_map.mp hr
      exact ⟨renO _ (rI x hx).1, renO _ (rI x hx).2⟩
    rw [show followsS cols (rules.map (ren2 f)) (base.map (renI f)) (goal.map (renI f)) = followsS names rules base goal from R.fol rI ok.bk ok.gk]
    generalize hdue : followsS names rules base goal = due
    simp only [cmpW]
    refine ⟨by simp [okd], by simp [okd], ?_⟩
    simp only [boolW]
    rw [if_neg (by simp [eqD, eqDs]), execs]
    dsimp only
    -- one rule more
    rw [execs, exec]
    simp only [ev, evs, getV, List.getElem?_cons_zero, List.getElem?_cons_succ, pickD, List.map, List.getD_cons_zero, List.getD_cons_succ, biW]
    rw [show tR rules = .tup (rules.map dR) from rfl]
    simp only [listW, tupleW, op2W]
    refine ⟨by rw [List.length_map]; simp; omega, ?_⟩
    rw [show Dat.tup (rules.map dR ++ [Dat.tup [tS base, tS goal]]) = tR (rules ++ [(base, goal)]) by unfold tR; rw [List.map_append]; rfl]
    refine hal k (by omega) _ _ ⟨names, rules ++ [(base, goal)], rfl, n12, fun r hr => ?_, ?_⟩
    · rcases List.mem_append.mp hr with h | h
      · exact rO r h
      · rw [List.mem_singleton.mp h]
        exact ⟨bO, gO⟩
    refine hal k (by omega) _ _ ⟨names, rules, rfl, n12, rO, ?_⟩
    simp only [cmpW]
    refine ⟨ok_tIs _, ok_tIs _, ?_⟩
    rw [eq_tIs]
    have ed : decide (allowedS names (rules ++ [(base, goal)]) = allowedS names rules) = due := by
      rw [← hdue, Bool.eq_iff_iff, decide_eq_true_iff]
      exact fol_allowed
    rw [ed]
    refine ⟨by simp [okd], by simp [okd], ?_⟩
    simp only [boolW]
    rw [if_neg (by simp [eqD]), execs]
    dsimp only
    -- its own beginnings
    rw [execs, exec]
    simp only [ev, evs, getV, List.getElem?_cons_zero, List.getElem?_cons_succ, biW, lenW, tS, op2W, rangeW, List.length_map]
    refine ⟨⟨by omega, by omega⟩, _, rfl, ?_⟩
    refine mapW_all (fun _ y => y = .bl true) _ _ (fun x hx Q' hQ' => ?_) fun ys hys => ?_
    · obtain ⟨n, hn, rfl⟩ := List.mem_map.mp hx
      rw [bindP]
      simp only [wipeD, List.set_cons_zero, List.set_cons_succ, boolW, if_true, ev, evs, getV, List.getElem?_cons_zero, List.getElem?_cons_succ, sliceW, pickD, List.map, List.getD_cons_zero, List.getD_cons_succ]
      rw [cut_to, ← List.map_take]
      refine hfo k (by omega) _ _ ⟨names, rules, base, base.take n, rfl, n12, rO, bO, fun s hs => bO s (List.mem_of_mem_take hs), ?_⟩
      rw [fol_pre]
      exact hQ' _ rfl
    simp only [allW]
    refine ⟨ys.map fun _ => true, hys.yes, ?_⟩
    rw [show (ys.map fun _ => true).all id = true by simp]
    simp only [boolW]
    rw [if_neg (by decide), execs]
    dsimp only
    -- shorter, longer
    rw [execs, exec]
    simp only [ev, getV, List.getElem?_cons_zero, List.getElem?_cons_succ, boolW]
    cases due with
    | false =>
      rw [if_pos (by decide), execs, exec]
      simp only [ev, evs, getV, List.getElem?_cons_zero, List.getElem?_cons_succ, pickD, List.map, List.getD_cons_zero, List.getD_cons_succ, biW, lenW, op2W, List.length_map]
      refine ht k (by omega) _ _ ⟨⟨by omega, lt8k (by omega) (by omega)⟩, fun r r0 r1 => ?_⟩
      obtain ⟨n, rfl⟩ := Int.eq_ofNat_of_zero_le r0
      simp only [sliceW]
      rw [cut_to, ← List.map_take]
      refine hfo k (by omega) _ _ ⟨names, rules, base.take n, goal, rfl, n12, rO, fun s hs => bO s (List.mem_of_mem_take hs), gO, ?_⟩
      have no : followsS names rules (base.take n) goal = false := by
        cases h : followsS names rules (base.take n) goal with
        | false => rfl
        | true => rw [fol_more n h] at hdue; cases hdue
      rw [no]
      simp only [boolW]
      exact q
    | true =>
      rw [if_neg (by decide), execs]
      dsimp only
      rw [execs, exec]
      simp only [ev, evs, getV, List.getElem?_cons_zero, List.getElem?_cons_succ, pickD, List.map, List.getD_cons_zero, List.getD_cons_succ, biW]
      rw [show tR more = .tup (more.map dR) from rfl]
      simp only [tupleW, op2W]
      refine ⟨by rw [List.length_map, List.length_map]; omega, ?_⟩
      rw [show Dat.tup (more.map dR ++ rules.map dR) = tR (more ++ rules) by unfold tR; rw [List.map_append]]
      refine hfo k (by omega) _ _ ⟨names, more ++ rules, base, goal, rfl, n12, fun r hr => ?_, bO, gO, ?_⟩
      · rcases List.mem_append.mp hr with h | h
        · exact (mk r h).1.l nk
        · exact rO r h
      rw [fol_rules more hdue]
      refine ⟨by rw [List.length_map, List.length_map]; omega, ?_⟩
      rw [← List.map_append]
      refine hfo k (by omega) _ _ ⟨names, rules, base ++ tl, goal, rfl, n12, rO, fun s hs => ?_, gO, ?_⟩
      · rcases List.mem_append.mp hs with h | h
        · exact bO s h
        · exact (tlk s h).col nk
      rw [fol_tail tl hdue]
      refine ⟨rfl, ?_⟩
      simp only [List.set_cons_zero, List.set_cons_succ]
      rw [execs, exec]
      simp only [ev, evs, getV, getO, List.getElem?_cons_zero, List.getElem?_cons_succ, pickD, List.map, List.getD_cons_zero, List.getD_cons_succ, biW, lenW, op2W, List.length_map]
      refine ⟨_, rfl, ?_⟩
      refine ht k (by omega) _ _ ⟨⟨by omega, lt8k (by omega) (by omega)⟩, fun r r0 r1 => ?_⟩
      obtain ⟨n, rfl⟩ := Int.eq_ofNat_of_zero_le r0
      simp only [sliceW]
      rw [cut_to, ← List.map_take]
      refine hfo k (by omega) _ _ ⟨names, rules, base, goal.take n, rfl, n12, rO, bO, fun s hs => gO s (List.mem_of_mem_take hs), ?_⟩
      rw [fol_goal n hdue]
      refine ⟨by simp [hb], ?_⟩
      simp only [List.set_cons_zero, List.set_cons_succ, List.cons_append, List.nil_append]
      rw [execs, exec]
      simp only [ev, evs, getV, List.getElem?_cons_zero, List.getElem?_cons_succ, op2W, List.length_cons, List.length_nil, cmpW]
      refine ⟨⟨by decide, by decide, by simp [hb]⟩, ?_⟩
      rw [show (List.replicate (3 : Int).toNat [Dat.bl true]).flatten = [.bl true, .bl true, .bl true] from rfl]
      refine ⟨by simp [okd], by simp [okd], ?_⟩
      simp only [boolW]
      rw [if_neg (by simp [eqD, eqDs]), execs]
      dsimp only
      rw [execs, exec]
      simp only [ev, evs, getV, List.getElem?_cons_zero, List.getElem?_cons_succ, pickD, List.map, List.getD_cons_zero, List.getD_cons_succ]
      have thO := IOk.l nk thk
      refine hfo k (by omega) _ _ ⟨names, rules, base, th, rfl, n12, rO, bO, thO, ?_⟩
      simp only [boolW]
      cases h3 : followsS names rules base th with
      | true =>
        rw [if_pos rfl]
        exact q
      | false =>
        rw [if_neg (by decide)]
        refine hfo k (by omega) _ _ ⟨names, rules, goal, th, rfl, n12, rO, gO, thO, ?_⟩
        have no : followsS names rules goal th = false := by
          cases h : followsS names rules goal th with
          | false => rfl
          | true => rw [fol_trans hdue h] at h3; cases h3
        rw [no]
        simp only [boolW]
        exact q
def D_law79 (f__law_pot f__law_right : Nat) : FDef := ⟨1, 4, [
    .for (.v 1) (.range (.bi .max [.int 1, .bi .min [.int 3, .bi .len [.var 0]]])) [.set 2 (.call f__law_pot [.var 0, .var 1] [] [.p 0, .p 1]), .ite (.not (.bi .all [.comp [3] (.v 3) (.range (.int 3)) (.bl true) (.call f__law_right [.var 2] [] [.p 0])])) [.ret (.bl false)] []],
    .ret (.bl true)]⟩
theorem law79 {fp fr k : Nat} (hpm : PM prim) (hk : 9 ≤ k) (hpot : Sp T G prim fp 1 potW) (hri : Sp T G prim fr 8 W_right) (ns : List Int) :
    execs (callW T G prim k) G (D_law79 fp fr).body (startD 4 [.scr ns]) { nx := fun _ => False, rt := fun _ d => d = .bl true } := by
  have hb : big = 16777216 := rfl
  unfold D_law79
  rw [show startD 4 [.scr ns] = [.val (.scr ns), .no, .no, .no] from rfl]
  rw [execs, exec]
  simp only [ev, evs, getV, List.getElem?_cons_zero, List.getElem?_cons_succ, biW, lenW, minW, maxW, rangeW]
  refine ⟨⟨by omega, by omega⟩, _, rfl, ?_⟩
  refine forW_list (fun δ D D' h => execs_mono (callW_mono hpm k) _ δ D D' h) (fun i : Nat => Dat.int i) (List.range (max 1 (min 3 (ns.length : Int))).toNat) (fun done rest δ => ∃ s1 s2 s3 : Slot, δ = [.val (.scr ns), s1, s2, s3]) _ ⟨_, _, _, rfl⟩ ?_ ?_
  · intro done i rest δ' e ⟨s1, s2, s3, e1⟩
    subst e1
    have hi : i < (max 1 (min 3 (ns.length : Int))).toNat := List.mem_range.mp (by rw [e]; simp)
    rw [bindP]
    simp only [List.set_cons_zero, List.set_cons_succ]
    rw [execs, exec]
    simp only [ev, evs, getV, List.getElem?_cons_zero, List.getElem?_cons_succ, pickD, List.map, List.getD_cons_zero, List.getD_cons_succ]
    refine hpot k (by omega) _ _ ⟨⟨by omega, by omega⟩, ?_⟩
    simp only [List.set_cons_zero, List.set_cons_succ]
    rw [execs, exec]
    simp only [ev, evs, getV, List.getElem?_cons_zero, List.getElem?_cons_succ, pickD, List.map, List.getD_cons_zero, List.getD_cons_succ, rangeW]
    refine ⟨⟨by decide, by decide⟩, _, rfl, ?_⟩
    refine mapW_on (fun i : Nat => Dat.int i) (fun _ => some (.bl true)) (List.range (3 : Int).toNat) _ (fun j hj Q' q' => ?_) ?_
    · rw [bindP]
      simp only [wipeD, List.set_cons_zero, List.set_cons_succ, boolW, if_true, ev, evs, getV, List.getElem?_cons_zero, List.getElem?_cons_succ, pickD, List.map, List.getD_cons_zero, List.getD_cons_succ]
      exact hri k (by omega) _ _ ⟨rfl, q'⟩
    · rw [List.filterMap_eq_map']
      simp only [biW, allW]
      refine ⟨[true, true, true], rfl, ?_⟩
      simp only [boolW]
      rw [if_neg (by decide), execs]
      dsimp only
      rw [execs]
      exact ⟨_, _, _, rfl⟩
  · intro δ' ⟨s1, s2, s3, e1⟩
    dsimp only
    rw [execs, exec]
    simp only [ev]
end
end SF

set_option maxHeartbeats 0
namespace SF.K79
open PySem PySem.Spec PyProof.Rows L2 SF
def top (i : Nat) : Stmt := PySem.Challenge.pw_sortfollow_k79_whole_what_follows_goes_o.main.body.getD i (.Pass ⟨0, 0, 0, 0⟩)
def d_is_falling : FDef := ⟨1, 1, [
    .ret (.cmp .eq (.slc (.var 0) .non (.int 1)) (.glob 0))]⟩
def j_is_falling : DJ := { di := { name := "is_falling", body := defBody (top 2), scope := defScope (top 2), N := ["item"], ps := ["item"], d := d_is_falling }, params := defArgs (top 2), dfl := [], kwd := [], shp := [(1, [], [.p 0])] }
def d_column_of : FDef := ⟨1, 1, [
    .ret (.ite (.call 0 [.var 0] [] [.p 0]) (.slc (.var 0) (.int 1) .non) (.var 0))]⟩
def j_column_of : DJ := { di := { name := "column_of", body := defBody (top 3), scope := defScope (top 3), N := ["item"], ps := ["item"], d := d_column_of }, params := defArgs (top 3), dfl := [], kwd := [], shp := [(1, [], [.p 0])] }
def d_flipped : FDef := ⟨1, 2, [
    .ret (.bi .tuple [.comp [1] (.v 1) (.var 0) (.bl true) (.ite (.call 0 [.var 1] [] [.p 0]) (.call 1 [.var 1] [] [.p 0]) (.op2 .add (.glob 0) (.var 1)))])]⟩
def j_flipped : DJ := { di := { name := "flipped", body := defBody (top 4), scope := defScope (top 4), N := ["items", "item"], ps := ["items"], d := d_flipped }, params := defArgs (top 4), dfl := [], kwd := [], shp := [(1, [], [.p 0])] }
def d_lex : FDef := ⟨3, 5, [
    .for (.v 3) (.var 2) [.set 4 (.idx (.var 1) (.me .index (.var 0) [.call 1 [.var 3] [] [.p 0]])), .ite (.cmp .ne (.var 4) (.int 0)) [.ret (.ite (.call 0 [.var 3] [] [.p 0]) (.op2 .sub (.int 0) (.var 4)) (.var 4))] []],
    .ret (.int 0)]⟩
def j_lex : DJ := { di := { name := "lex", body := defBody (top 7), scope := defScope (top 7), N := ["columns", "signs", "items", "item", "sign"], ps := ["columns", "signs", "items"], d := d_lex }, params := defArgs (top 7), dfl := [], kwd := [], shp := [(3, [], [.p 0, .p 1, .p 2])] }
def d_keeps : FDef := ⟨3, 4, [
    .set 3 (.call 3 [.var 0, .var 1, .idx (.var 2) (.int 1)] [] [.p 0, .p 1, .p 2]),
    .ret (.or (.cmp .eq (.var 3) (.int 0)) (.cmp .eq (.var 3) (.call 3 [.var 0, .var 1, .idx (.var 2) (.int 0)] [] [.p 0, .p 1, .p 2])))]⟩
def j_keeps : DJ := { di := { name := "keeps", body := defBody (top 8), scope := defScope (top 8), N := ["columns", "signs", "rule", "second"], ps := ["columns", "signs", "rule"], d := d_keeps }, params := defArgs (top 8), dfl := [], kwd := [], shp := [(3, [], [.p 0, .p 1, .p 2])] }
def d_every_signs : FDef := ⟨1, 5, [
    .set 1 (.lst [.tup []]),
    .for (.v 2) (.var 0) [.set 1 (.comp2 [3, 4] (.v 3) (.var 1) (.bl true) (.v 4) (.glob 1) (.bl true) (.op2 .add (.var 3) (.tup [.var 4])))],
    .ret (.var 1)]⟩
def j_every_signs : DJ := { di := { name := "every_signs", body := defBody (top 9), scope := defScope (top 9), N := ["columns", "found", "column", "some", "sign"], ps := ["columns"], d := d_every_signs }, params := defArgs (top 9), dfl := [], kwd := [], shp := [(1, [], [.p 0])] }
def d_allowed : FDef := ⟨2, 5, [
    .set 2 (.call 5 [.var 0] [] [.p 0]),
    .for (.v 3) (.var 1) [.set 2 (.comp [4] (.v 4) (.var 2) (.call 4 [.var 0, .var 4, .var 3] [] [.p 0, .p 1, .p 2]) (.var 4))],
    .ret (.bi .tuple [.var 2])]⟩
def j_allowed : DJ := { di := { name := "allowed", body := defBody (top 10), scope := defScope (top 10), N := ["columns", "rules", "found", "rule", "some"], ps := ["columns", "rules"], d := d_allowed }, params := defArgs (top 10), dfl := [], kwd := [], shp := [(2, [], [.p 0, .p 1])] }
def d_contradicting : FDef := ⟨4, 5, [
    .for (.v 4) (.call 6 [.var 0, .var 1] [] [.p 0, .p 1]) [.ite (.and (.cmp .lt (.call 3 [.var 0, .var 4, .var 2] [] [.p 0, .p 1, .p 2]) (.int 1)) (.cmp .gt (.call 3 [.var 0, .var 4, .var 3] [] [.p 0, .p 1, .p 2]) (.int 0))) [.ret (.var 4)] []],
    .ret (.non)]⟩
def j_contradicting : DJ := { di := { name := "contradicting", body := defBody (top 12), scope := defScope (top 12), N := ["columns", "rules", "known", "wanted", "signs"], ps := ["columns", "rules", "known", "wanted"], d := d_contradicting }, params := defArgs (top 12), dfl := [], kwd := [], shp := [(4, [], [.p 0, .p 1, .p 2, .p 3])] }
def d_follows : FDef := ⟨4, 4, [
    .ret (.isN (.call 7 [.var 0, .var 1, .var 2, .var 3] [] [.p 0, .p 1, .p 2, .p 3]))]⟩
def j_follows : DJ := { di := { name := "follows", body := defBody (top 13), scope := defScope (top 13), N := ["columns", "rules", "known", "wanted"], ps := ["columns", "rules", "known", "wanted"], d := d_follows }, params := defArgs (top 13), dfl := [], kwd := [], shp := [(4, [], [.p 0, .p 1, .p 2, .p 3])] }
def d__law_pot : FDef := ⟨2, 4, [
    .set 2 (.ite (.cmp .lt (.var 1) (.bi .len [.var 0])) (.idx (.var 0) (.var 1)) (.op2 .add (.op2 .mul (.int 11) (.var 1)) (.int 4))),
    .set 3 (.op2 .mul (.op2 .mod (.bi .abs [.var 2]) (.op2 .pow (.op2 .pow (.int 10) (.int 60)) (.int 5))) (.bi .int [.cmp .ge (.bi .abs [.var 2]) (.op2 .pow (.int 10) (.int 18))])),
    .ret (.lst [.var 3, .op2 .mod (.op2 .mul (.op2 .add (.op2 .add (.op2 .mod (.var 2) (.int 2305843009213693951)) (.op2 .mul (.op2 .mul (.int 7919) (.var 1)) (.var 1))) (.int 53)) (.int 48271)) (.int 2305843009213693921), .int 0])]⟩
def j__law_pot : DJ := { di := { name := "_law_pot", body := defBody (top 15), scope := defScope (top 15), N := ["_law_script", "_law_k", "_law_cell", "_law_own"], ps := ["_law_script", "_law_k"], d := d__law_pot }, params := defArgs (top 15), dfl := [], kwd := [], shp := [(2, [], [.p 0, .p 1])] }
def d__law_take : FDef := ⟨2, 5, [
    .ite (.cmp .gt (.idx (.obs 0) (.int 0)) (.int 0)) [.set 2 (.op2 .mod (.idx (.obs 0) (.int 0)) (.var 1)), .sto 0 (.int 0) (.op2 .fdiv (.idx (.obs 0) (.int 0)) (.var 1)), .ret (.var 2)] [],
    .sto 0 (.int 2) (.op2 .add (.idx (.obs 0) (.int 2)) (.int 1)),
    .set 3 (.idx (.lst [.int 2147483629, .int 2147483587, .int 2147483579, .int 2147483563, .int 2147483549, .int 2147483543, .int 2147483497]) (.op2 .mod (.idx (.obs 0) (.int 2)) (.int 7))),
    .set 4 (.op2 .mod (.op2 .pow (.op2 .add (.op2 .add (.idx (.obs 0) (.int 1)) (.op2 .mul (.op2 .mul (.int 65537) (.idx (.obs 0) (.int 2))) (.idx (.obs 0) (.int 2)))) (.int 19)) (.int 3)) (.var 3)),
    .set 4 (.op2 .mod (.op2 .mul (.var 4) (.op2 .add (.op2 .mod (.var 4) (.int 10007)) (.op2 .mul (.int 97) (.idx (.obs 0) (.int 2))))) (.int 2305843009213693907)),
    .ret (.op2 .mod (.op2 .fdiv (.var 4) (.int 97)) (.var 1))]⟩
def j__law_take : DJ := { di := { name := "_law_take", body := defBody (top 16), scope := defScope (top 16), N := ["_law_pot_here", "_law_bound", "_law_digit", "_law_prime", "_law_drawn"], ps := ["_law_pot_here", "_law_bound"], d := d__law_take }, params := defArgs (top 16), dfl := [], kwd := [], shp := [(2, [], [.p 0, .p 1])] }
def d__law_of : FDef := ⟨2, 2, [
    .ret (.idx (.var 1) (.call 10 [.var 0, .bi .len [.var 1]] [] [.p 0, .p 1]))]⟩
def j__law_of : DJ := { di := { name := "_law_of", body := defBody (top 17), scope := defScope (top 17), N := ["_law_pot_here", "_law_some"], ps := ["_law_pot_here", "_law_some"], d := d__law_of }, params := defArgs (top 17), dfl := [], kwd := [], shp := [(2, [], [.p 0, .p 1])] }
def d__law_names : FDef := ⟨2, 10, [
    .set 2 (.str [97, 98, 99, 100, 101, 102, 103, 104, 105, 106, 107, 108, 109, 110, 111, 112, 113, 114, 115, 116, 117, 118, 119, 120, 121, 122]),
    .par [false, false] [3, 4] [.call 10 [.var 0, .int 26] [] [.p 0, .p 1], .call 11 [.var 0, .lst [.int 1, .int 3, .int 5, .int 7, .int 9, .int 11]] [] [.p 0, .p 1]],
    .set 6 (.me .join (.str []) [.comp [5] (.v 5) (.range (.call 11 [.var 0, .lst [.int 0, .int 0, .int 1, .int 3, .int 7]] [] [.p 0, .p 1])) (.bl true) (.call 11 [.var 0, .var 2] [] [.p 0, .p 1])]),
    .set 7 (.call 10 [.var 0, .op2 .add (.bi .len [.var 6]) (.int 1)] [] [.p 0, .p 1]),
    .own 8 (.lst []),
    .for (.v 5) (.range (.var 1)) [.set 9 (.idx (.var 2) (.op2 .mod (.op2 .add (.var 3) (.op2 .mul (.var 4) (.var 5))) (.int 26))), .app 8 (.op2 .add (.op2 .add (.slc (.var 6) .non (.var 7)) (.var 9)) (.slc (.var 6) (.var 7) .non))],
    .ret (.bi .tuple [.bi .sorted [.obs 8]])]⟩
def j__law_names : DJ := { di := { name := "_law_names", body := defBody (top 18), scope := defScope (top 18), N := ["_law_pot_here", "_law_many", "_law_letters", "_law_from_at", "_law_leap", "_law_turn", "_law_stem", "_law_cut", "_law_found", "_law_letter"], ps := ["_law_pot_here", "_law_many"], d := d__law_names }, params := defArgs (top 18), dfl := [], kwd := [], shp := [(2, [], [.p 0, .p 1])] }
def d__law_listed : FDef := ⟨3, 5, [
    .own 3 (.lst []),
    .for (.v 4) (.range (.call 10 [.var 0, .op2 .add (.var 2) (.int 1)] [] [.p 0, .p 1])) [.app 3 (.op2 .add (.call 11 [.var 0, .lst [.str [], .str [], .str [45]]] [] [.p 0, .p 1]) (.call 11 [.var 0, .var 1] [] [.p 0, .p 1]))],
    .ret (.bi .tuple [.obs 3])]⟩
def j__law_listed : DJ := { di := { name := "_law_listed", body := defBody (top 19), scope := defScope (top 19), N := ["_law_pot_here", "_law_names_here", "_law_most", "_law_found", "_law_turn"], ps := ["_law_pot_here", "_law_names_here", "_law_most"], d := d__law_listed }, params := defArgs (top 19), dfl := [], kwd := [], shp := [(3, [], [.p 0, .p 1, .p 2])] }
def d__law_ruled : FDef := ⟨3, 6, [
    .own 3 (.lst []),
    .for (.v 4) (.range (.call 10 [.var 0, .op2 .add (.var 2) (.int 1)] [] [.p 0, .p 1])) [.set 5 (.call 13 [.var 0, .var 1, .int 3] [] [.p 0, .p 1, .p 2]), .app 3 (.tup [.var 5, .call 13 [.var 0, .var 1, .int 3] [] [.p 0, .p 1, .p 2]])],
    .ret (.bi .tuple [.obs 3])]⟩
def j__law_ruled : DJ := { di := { name := "_law_ruled", body := defBody (top 20), scope := defScope (top 20), N := ["_law_pot_here", "_law_names_here", "_law_many", "_law_found", "_law_turn", "_law_mine"], ps := ["_law_pot_here", "_law_names_here", "_law_many"], d := d__law_ruled }, params := defArgs (top 20), dfl := [], kwd := [], shp := [(3, [], [.p 0, .p 1, .p 2])] }
def d__law_question : FDef := ⟨2, 7, [
    .set 2 (.call 12 [.var 0, .op2 .add (.int 1) (.call 10 [.var 0, .var 1] [] [.p 0, .p 1])] [] [.p 0, .p 1]),
    .par [false, false, false] [3, 4, 5] [.bi .tuple [.call 14 [.var 0, .var 2, .int 5] [] [.p 0, .p 1, .p 2]], .call 13 [.var 0, .var 2, .int 4] [] [.p 0, .p 1, .p 2], .call 13 [.var 0, .var 2, .int 3] [] [.p 0, .p 1, .p 2]],
    .set 6 (.call 10 [.var 0, .int 5] [] [.p 0, .p 1]),
    .ite (.and (.cmp .eq (.var 6) (.int 0)) (.cmp .ne (.var 3) (.tup []))) [.unp (.t [.v 4, .v 5]) (.call 11 [.var 0, .var 3] [] [.p 0, .p 1])] [.ite (.cmp .eq (.var 6) (.int 1)) [.set 5 (.op2 .add (.slc (.var 4) .non (.call 10 [.var 0, .op2 .add (.bi .len [.var 4]) (.int 1)] [] [.p 0, .p 1])) (.slc (.var 4) .non (.int 2)))] [.ite (.and (.cmp .eq (.var 6) (.int 2)) (.cmp .ne (.var 3) (.tup []))) [.set 4 (.op2 .add (.idx (.call 11 [.var 0, .var 3] [] [.p 0, .p 1]) (.int 0)) (.var 4)), .set 5 (.idx (.call 11 [.var 0, .var 3] [] [.p 0, .p 1]) (.int 1))] []]],
    .ret (.tup [.var 2, .var 3, .var 4, .var 5])]⟩
def j__law_question : DJ := { di := { name := "_law_question", body := defBody (top 21), scope := defScope (top 21), N := ["_law_pot_here", "_law_most", "_law_names_here", "_law_pairs", "_law_base", "_law_goal", "_law_way"], ps := ["_law_pot_here", "_law_most"], d := d__law_question }, params := defArgs (top 21), dfl := [], kwd := [], shp := [(2, [], [.p 0, .p 1])] }
def d__law_called : FDef := ⟨2, 3, [
    .ret (.bi .tuple [.comp [2] (.v 2) (.var 1) (.bl true) (.ite (.cmp .ne (.idx (.var 2) (.int 0)) (.str [45])) (.idx (.var 0) (.var 2)) (.op2 .add (.str [45]) (.idx (.var 0) (.slc (.var 2) (.int 1) .non))))])]⟩
def j__law_called : DJ := { di := { name := "_law_called", body := defBody (top 22), scope := defScope (top 22), N := ["_law_calls", "_law_wish", "_law_item"], ps := ["_law_calls", "_law_wish"], d := d__law_called }, params := defArgs (top 22), dfl := [], kwd := [], shp := [(2, [], [.p 0, .p 1])] }
def d__law_renamed : FDef := ⟨2, 13, [
    .unp (.t [.v 2, .v 3, .v 4, .v 5]) (.var 1),
    .parC [true, false, true] [6, 7, 8] [.bi .list [.var 2], .call 12 [.var 0, .op2 .add (.bi .len [.var 2]) (.int 1)] [] [.p 0, .p 1], .dnew],
    .for (.v 9) (.slc (.var 7) (.int 1) .non) [.stp 8 6 (.call 10 [.var 0, .bi .len [.obs 6]] [] [.p 0, .p 1]) (.var 9)],
    .frz 8,
    .set 12 (.bi .tuple [.comp [10, 11] (.t [.v 10, .v 11]) (.var 3) (.bl true) (.tup [.call 16 [.var 8, .var 10] [] [.p 0, .p 1], .call 16 [.var 8, .var 11] [] [.p 0, .p 1]])]),
    .ret (.tup [.bi .tuple [.bi .sorted [.var 7]], .var 12, .call 16 [.var 8, .var 4] [] [.p 0, .p 1], .call 16 [.var 8, .var 5] [] [.p 0, .p 1]])]⟩
def j__law_renamed : DJ := { di := { name := "_law_renamed", body := defBody (top 23), scope := defScope (top 23), N := ["_law_pot_here", "_law_ask", "_law_names_here", "_law_pairs", "_law_base", "_law_goal", "_law_left", "_law_fresh", "_law_calls", "_law_new", "_law_mine", "_law_its", "_law_rules_now"], ps := ["_law_pot_here", "_law_ask"], d := d__law_renamed }, params := defArgs (top 23), dfl := [], kwd := [], shp := [(2, [], [.p 0, .p 1])] }
def d__law_right : FDef := ⟨1, 14, [
    .set 1 (.call 15 [.var 0, .int 4] [] [.p 0, .p 1]),
    .unp (.t [.v 2, .v 3, .v 4, .v 5]) (.var 1),
    .par [false, false] [6, 7] [.call 8 [.var 2, .var 3, .var 4, .var 5] [] [.p 0, .p 1, .p 2, .p 3], .call 14 [.var 0, .var 2, .int 2] [] [.p 0, .p 1, .p 2]],
    .par [false, false] [8, 9] [.call 13 [.var 0, .var 2, .int 1] [] [.p 0, .p 1, .p 2], .call 13 [.var 0, .var 2, .int 3] [] [.p 0, .p 1, .p 2]],
    .set 10 (.call 17 [.var 0, .var 1] [] [.p 0, .p 1]),
    .set 11 (.call 8 [.var 2, .var 3, .call 2 [.var 4] [] [.p 0], .call 2 [.var 5] [] [.p 0]] [] [.p 0, .p 1, .p 2, .p 3]),
    .ite (.cmp .ne (.lst [.var 11, .call 8 [.idx (.var 10) (.int 0), .idx (.var 10) (.int 1), .idx (.var 10) (.int 2), .idx (.var 10) (.int 3)] [] [.p 0, .p 1, .p 2, .p 3]]) (.lst [.var 6, .var 6])) [.ret (.bl false)] [],
    .ite (.cmp .ne (.var 6) (.cmp .eq (.call 6 [.var 2, .op2 .add (.bi .tuple [.bi .list [.var 3]]) (.tup [.tup [.var 4, .var 5]])] [] [.p 0, .p 1]) (.call 6 [.var 2, .var 3] [] [.p 0, .p 1]))) [.ret (.bl false)] [],
    .ite (.not (.bi .all [.comp [12] (.v 12) (.range (.op2 .add (.bi .len [.var 4]) (.int 1))) (.bl true) (.call 8 [.var 2, .var 3, .var 4, .slc (.var 4) .non (.var 12)] [] [.p 0, .p 1, .p 2, .p 3])])) [.ret (.bl false)] [],
    .ite (.not (.var 6)) [.ret (.not (.call 8 [.var 2, .var 3, .slc (.var 4) .non (.call 10 [.var 0, .op2 .add (.bi .len [.var 4]) (.int 1)] [] [.p 0, .p 1]), .var 5] [] [.p 0, .p 1, .p 2, .p 3]))] [],
    .own 13 (.lst [.call 8 [.var 2, .op2 .add (.bi .tuple [.var 7]) (.bi .tuple [.var 3]), .var 4, .var 5] [] [.p 0, .p 1, .p 2, .p 3], .call 8 [.var 2, .var 3, .op2 .add (.var 4) (.var 8), .var 5] [] [.p 0, .p 1, .p 2, .p 3]]),
    .app 13 (.call 8 [.var 2, .var 3, .var 4, .slc (.var 5) .non (.call 10 [.var 0, .op2 .add (.bi .len [.var 5]) (.int 1)] [] [.p 0, .p 1])] [] [.p 0, .p 1, .p 2, .p 3]),
    .ite (.cmp .ne (.obs 13) (.op2 .mul (.lst [.bl true]) (.int 3))) [.ret (.bl false)] [],
    .ret (.or (.call 8 [.var 2, .var 3, .var 4, .var 9] [] [.p 0, .p 1, .p 2, .p 3]) (.not (.call 8 [.var 2, .var 3, .var 5, .var 9] [] [.p 0, .p 1, .p 2, .p 3])))]⟩
def j__law_right : DJ := { di := { name := "_law_right", body := defBody (top 24), scope := defScope (top 24), N := ["_law_pot_here", "_law_ask", "_law_names_here", "_law_pairs", "_law_base", "_law_goal", "_law_due", "_law_more", "_law_tail", "_law_third", "_law_its", "_law_turned", "_law_at", "_law_told"], ps := ["_law_pot_here"], d := d__law_right }, params := defArgs (top 24), dfl := [], kwd := [], shp := [(1, [], [.p 0])] }
def d_law : FDef := ⟨1, 4, [
    .for (.v 1) (.range (.bi .max [.int 1, .bi .min [.int 3, .bi .len [.var 0]]])) [.set 2 (.call 9 [.var 0, .var 1] [] [.p 0, .p 1]), .ite (.not (.bi .all [.comp [3] (.v 3) (.range (.int 3)) (.bl true) (.call 18 [.var 2] [] [.p 0])])) [.ret (.bl false)] []],
    .ret (.bl true)]⟩
def j_law : DJ := { di := { name := "law", body := defBody (top 25), scope := defScope (top 25), N := ["_law_script", "_law_k", "_law_pot_here", "_law_turn"], ps := ["_law_script"], d := d_law }, params := defArgs (top 25), dfl := [], kwd := [], shp := [] }
def js : List DJ := [j_is_falling, j_column_of, j_flipped, j_lex, j_keeps, j_every_signs, j_allowed, j_contradicting, j_follows, j__law_pot, j__law_take, j__law_of, j__law_names, j__law_listed, j__law_ruled, j__law_question, j__law_called, j__law_renamed, j__law_right]
def cs : List (Str × Dat) := [("FALLING", .str [45]), ("SIGNS", .tup [.int (-1), .int 0, .int 1])]
def fre : List Str := ["tuple", "len", "abs", "int", "range", "sorted", "list", "all", "max", "min"]
theorem b_is_falling_0 : j_is_falling.binds (1, [], [.p 0]) := DJ.binds_plain rfl (by decide +kernel) rfl fun kV doc pm an cdv ct us ws h1 h2 => match us, h1, ws, h2 with | [_], _, [], _ => rfl
theorem b_column_of_0 : j_column_of.binds (1, [], [.p 0]) := DJ.binds_plain rfl (by decide +kernel) rfl fun kV doc pm an cdv ct us ws h1 h2 => match us, h1, ws, h2 with | [_], _, [], _ => rfl
theorem b_flipped_0 : j_flipped.binds (1, [], [.p 0]) := DJ.binds_plain rfl (by decide +kernel) rfl fun kV doc pm an cdv ct us ws h1 h2 => match us, h1, ws, h2 with | [_], _, [], _ => rfl
theorem b_lex_0 : j_lex.binds (3, [], [.p 0, .p 1, .p 2]) := DJ.binds_plain rfl (by decide +kernel) rfl fun kV doc pm an cdv ct us ws h1 h2 => match us, h1, ws, h2 with | [_, _, _], _, [], _ => rfl
theorem b_keeps_0 : j_keeps.binds (3, [], [.p 0, .p 1, .p 2]) := DJ.binds_plain rfl (by decide +kernel) rfl fun kV doc pm an cdv ct us ws h1 h2 => match us, h1, ws, h2 with | [_, _, _], _, [], _ => rfl
theorem b_every_signs_0 : j_every_signs.binds (1, [], [.p 0]) := DJ.binds_plain rfl (by decide +kernel) rfl fun kV doc pm an cdv ct us ws h1 h2 => match us, h1, ws, h2 with | [_], _, [], _ => rfl
theorem b_allowed_0 : j_allowed.binds (2, [], [.p 0, .p 1]) := DJ.binds_plain rfl (by decide +kernel) rfl fun kV doc pm an cdv ct us ws h1 h2 => match us, h1, ws, h2 with | [_, _], _, [], _ => rfl
theorem b_contradicting_0 : j_contradicting.binds (4, [], [.p 0, .p 1, .p 2, .p 3]) := DJ.binds_plain rfl (by decide +kernel) rfl fun kV doc pm an cdv ct us ws h1 h2 => match us, h1, ws, h2 with | [_, _, _, _], _, [], _ => rfl
theorem b_follows_0 : j_follows.binds (4, [], [.p 0, .p 1, .p 2, .p 3]) := DJ.binds_plain rfl (by decide +kernel) rfl fun kV doc pm an cdv ct us ws h1 h2 => match us, h1, ws, h2 with | [_, _, _, _], _, [], _ => rfl
theorem b__law_pot_0 : j__law_pot.binds (2, [], [.p 0, .p 1]) := DJ.binds_plain rfl (by decide +kernel) rfl fun kV doc pm an cdv ct us ws h1 h2 => match us, h1, ws, h2 with | [_, _], _, [], _ => rfl
theorem b__law_take_0 : j__law_take.binds (2, [], [.p 0, .p 1]) := DJ.binds_plain rfl (by decide +kernel) rfl fun kV doc pm an cdv ct us ws h1 h2 => match us, h1, ws, h2 with | [_, _], _, [], _ => rfl
theorem b__law_of_0 : j__law_of.binds (2, [], [.p 0, .p 1]) := DJ.binds_plain rfl (by decide +kernel) rfl fun kV doc pm an cdv ct us ws h1 h2 => match us, h1, ws, h2 with | [_, _], _, [], _ => rfl
theorem b__law_names_0 : j__law_names.binds (2, [], [.p 0, .p 1]) := DJ.binds_plain rfl (by decide +kernel) rfl fun kV doc pm an cdv ct us ws h1 h2 => match us, h1, ws, h2 with | [_, _], _, [], _ => rfl
theorem b__law_listed_0 : j__law_listed.binds (3, [], [.p 0, .p 1, .p 2]) := DJ.binds_plain rfl (by decide +kernel) rfl fun kV doc pm an cdv ct us ws h1 h2 => match us, h1, ws, h2 with | [_, _, _], _, [], _ => rfl
theorem b__law_ruled_0 : j__law_ruled.binds (3, [], [.p 0, .p 1, .p 2]) := DJ.binds_plain rfl (by decide +kernel) rfl fun kV doc pm an cdv ct us ws h1 h2 => match us, h1, ws, h2 with | [_, _, _], _, [], _ => rfl
theorem b__law_question_0 : j__law_question.binds (2, [], [.p 0, .p 1]) := DJ.binds_plain rfl (by decide +kernel) rfl fun kV doc pm an cdv ct us ws h1 h2 => match us, h1, ws, h2 with | [_, _], _, [], _ => rfl
theorem b__law_called_0 : j__law_called.binds (2, [], [.p 0, .p 1]) := DJ.binds_plain rfl (by decide +kernel) rfl fun kV doc pm an cdv ct us ws h1 h2 => match us, h1, ws, h2 with | [_, _], _, [], _ => rfl
theorem b__law_renamed_0 : j__law_renamed.binds (2, [], [.p 0, .p 1]) := DJ.binds_plain rfl (by decide +kernel) rfl fun kV doc pm an cdv ct us ws h1 h2 => match us, h1, ws, h2 with | [_, _], _, [], _ => rfl
theorem b__law_right_0 : j__law_right.binds (1, [], [.p 0]) := DJ.binds_plain rfl (by decide +kernel) rfl fun kV doc pm an cdv ct us ws h1 h2 => match us, h1, ws, h2 with | [_], _, [], _ => rfl
theorem tab : TabOk js j_law cs fre 9 10 where
  pot := ⟨j__law_pot, rfl, by decide +kernel, rfl, rfl⟩
  take := ⟨j__law_take, rfl, by decide +kernel, rfl, rfl⟩
  free := by decide +kernel
  ok := by decide +kernel
  binds := (all_cons (p := fun j : DJ => ∀ q ∈ j.shp, j.binds q) (a := j_is_falling) (all_cons b_is_falling_0 all_nil) (all_cons (p := fun j : DJ => ∀ q ∈ j.shp, j.binds q) (a := j_column_of) (all_cons b_column_of_0 all_nil) (all_cons (p := fun j : DJ => ∀ q ∈ j.shp, j.binds q) (a := j_flipped) (all_cons b_flipped_0 all_nil) (all_cons (p := fun j : DJ => ∀ q ∈ j.shp, j.binds q) (a := j_lex) (all_cons b_lex_0 all_nil) (all_cons (p := fun j : DJ => ∀ q ∈ j.shp, j.binds q) (a := j_keeps) (all_cons b_keeps_0 all_nil) (all_cons (p := fun j : DJ => ∀ q ∈ j.shp, j.binds q) (a := j_every_signs) (all_cons b_every_signs_0 all_nil) (all_cons (p := fun j : DJ => ∀ q ∈ j.shp, j.binds q) (a := j_allowed) (all_cons b_allowed_0 all_nil) (all_cons (p := fun j : DJ => ∀ q ∈ j.shp, j.binds q) (a := j_contradicting) (all_cons b_contradicting_0 all_nil) (all_cons (p := fun j : DJ => ∀ q ∈ j.shp, j.binds q) (a := j_follows) (all_cons b_follows_0 all_nil) (all_cons (p := fun j : DJ => ∀ q ∈ j.shp, j.binds q) (a := j__law_pot) (all_cons b__law_pot_0 all_nil) (all_cons (p := fun j : DJ => ∀ q ∈ j.shp, j.binds q) (a := j__law_take) (all_cons b__law_take_0 all_nil) (all_cons (p := fun j : DJ => ∀ q ∈ j.shp, j.binds q) (a := j__law_of) (all_cons b__law_of_0 all_nil) (all_cons (p := fun j : DJ => ∀ q ∈ j.shp, j.binds q) (a := j__law_names) (all_cons b__law_names_0 all_nil) (all_cons (p := fun j : DJ => ∀ q ∈ j.shp, j.binds q) (a := j__law_listed) (all_cons b__law_listed_0 all_nil) (all_cons (p := fun j : DJ => ∀ q ∈ j.shp, j.binds q) (a := j__law_ruled) (all_cons b__law_ruled_0 all_nil) (all_cons (p := fun j : DJ => ∀ q ∈ j.shp, j.binds q) (a := j__law_question) (all_cons b__law_question_0 all_nil) (all_cons (p := fun j : DJ => ∀ q ∈ j.shp, j.binds q) (a := j__law_called) (all_cons b__law_called_0 all_nil) (all_cons (p := fun j : DJ => ∀ q ∈ j.shp, j.binds q) (a := j__law_renamed) (all_cons b__law_renamed_0 all_nil) (all_cons (p := fun j : DJ => ∀ q ∈ j.shp, j.binds q) (a := j__law_right) (all_cons b__law_right_0 all_nil) all_nil)))))))))))))))))))
  law := by decide +kernel
  first := by rfl
  dfl := rfl
abbrev R : PySem.W.OpenRow := PySem.W.OpenLaw.row PySem.Challenge.rw_sortfollow_k79_whole_what_follows_goes_o
abbrev hk : PySem.W.Hook := hookC 4 cs (faOf js j_law fre) (fnOf js j_law)
def ob (s : PySem.W.SharedT) : He.AlD := obsCG 4 cs (faOf js j_law fre) (fnOf js j_law) (HandSHeadRun.getT s)
theorem ob_eq (s : PySem.W.SharedT) : ob s = hk.obs s.abs := obsCG_eq (HandSHeadRun.getT_eq s)
def loose : List PySem.Str := (["FALLING", "SIGNS", "is_falling", "column_of", "flipped", "lex", "keeps", "every_signs", "allowed", "contradicting", "follows", "_law_pot", "_law_take", "_law_of", "_law_names", "_law_listed", "_law_ruled", "_law_question", "_law_called", "_law_renamed", "_law_right"] : List PySem.Str)
theorem run (w : World) : HandSHeadRun.RunEq R (PySem.W.view R.prog [25]) hk ob 4000 loose w := by
  intro os
  kernel_rfl
abbrev T : List FDef := js.map (·.di.d)
abbrev G : Nat → Option Dat := gOf cs
abbrev prim : Nat → Option (List Dat → (Dat → Prop) → Prop) := primF 9 10
end SF.K79
namespace SF.K79
open PySem SF
theorem law_plain : ∀ ns : List Int, ns.length ≤ 63 → execs (callW (js.map (·.di.d)) (gOf cs) (primF 9 10) 40) (gOf cs) j_law.di.d.body (startD j_law.di.d.nn [.scr ns]) { nx := fun _ => False, rt := fun _ d => d = .bl true } := fun ns hns => by
  have hpm : PM (primF 9 10) := primF_mono 9 10
  have s9 : Sp T G prim 9 1 potW := .of_prim rfl
  have s10 : Sp T G prim 10 1 takeW := .of_prim rfl
  have s11 := sp_of (T := T) (G := G) (prim := prim) (f := 11) rfl rfl s10
  have s13 := sp_listed (T := T) (G := G) (prim := prim) (f := 13) hpm rfl rfl s10 s11
  have s12 := sp_names (T := T) (G := G) (prim := prim) (f := 12) hpm rfl rfl s10 s11
  have s14 := sp_ruled (T := T) (G := G) (prim := prim) (f := 14) hpm rfl rfl s10 s13
  have s15 := sp_question (T := T) (G := G) (prim := prim) (f := 15) rfl rfl s10 s11 s13 s12 s14
  have s16 := sp_called (T := T) (G := G) (prim := prim) (f := 16) rfl rfl 
  have s17 := sp_renamed (T := T) (G := G) (prim := prim) (f := 17) hpm rfl rfl s16 s12 s10
  have s5 := sp_every_signs (T := T) (G := G) (prim := prim) (f := 5) hpm rfl rfl rfl 
  have s0 := sp_is_falling (T := T) (G := G) (prim := prim) (f := 0) rfl rfl rfl 
  have s1 := sp_column_of (T := T) (G := G) (prim := prim) (f := 1) rfl rfl s0
  have s3 := sp_lex (T := T) (G := G) (prim := prim) (f := 3) hpm rfl rfl s0 s1
  have s4 := sp_keeps (T := T) (G := G) (prim := prim) (f := 4) rfl rfl s3
  have s6 := sp_allowed (T := T) (G := G) (prim := prim) (f := 6) hpm rfl rfl s5 s4
  have s2 := sp_flipped (T := T) (G := G) (prim := prim) (f := 2) rfl rfl rfl s0 s1
  have s7 := sp_contradicting (T := T) (G := G) (prim := prim) (f := 7) hpm rfl rfl s6 s3
  have s8 := sp_follows (T := T) (G := G) (prim := prim) (f := 8) rfl rfl s7
  have s18 := sp_right79 (T := T) (G := G) (prim := prim) (f := 18) hpm rfl rfl s13 s15 s17 s14 s10 s6 s2 s8
  exact law79 hpm (by decide) s9 s18 ns
end SF.K79

open PySem PySem.W PySem.Calls PyProof.Rows SF
theorem PySem.Challenge.cw_sortfollow_k79_whole_what_follows_goes_o_holds : PySem.Challenge.rw_sortfollow_k79_whole_what_follows_goes_o.Holds := by
  w_on; o_law
  refine HandSHeadRun.head_any (r := OpenLaw.row PySem.Challenge.rw_sortfollow_k79_whole_what_follows_goes_o) (q := view (OpenLaw.row PySem.Challenge.rw_sortfollow_k79_whole_what_follows_goes_o).prog [25]) (H := SF.K79.hk) (ob := SF.K79.ob) (M := 4000) (loose := SF.K79.loose) (d := HandSHeadRun.topDef (OpenLaw.row PySem.Challenge.rw_sortfollow_k79_whole_what_follows_goes_o).prog 25) (kwd := []) SF.K79.ob_eq
    (by kernel_rfl) (fun s => by kernel_rfl) SF.K79.run (by kernel_rfl) (by kernel_rfl) (by kernel_rfl) (by rfl) (by first | assumption | decide +kernel) (by decide +kernel) ⟨rfl, rfl, rfl, rfl, rfl, by decide +kernel⟩ ?hw ?hc
  case hw => w_witness2
  case hc =>
    exact SF.walk_tab (l := PySem.Challenge.rw_sortfollow_k79_whole_what_follows_goes_o) (x := "_law_script") SF.K79.tab 40 4 rfl (by kernel_rfl) (by kernel_rfl) rfl rfl (fun kV doc pm an cdv ct u => rfl) SF.K79.law_plain
