import PyProof.Rows.All
import Wide.All
import OpenK.AllK
import Wide.FinOn
import HandS.ForMost
import HandS.ForExc
import HandS.ExcInit
import HandS.CallSlots
import HandS.FStr
import HandS.IsInst
import HandS.Flow
import HandS.TupAny
import HandS.TupLe
import HandS.Conv
import HandS.SortOrd
import HandS.HotCalls
import HandS.ExcIs
import HandS.ExcField
import HandS.CallLocal
import HandS.RaiseMore
import PyProof.AutoSeq1
import HandS.TupMul
import KE.SortCalls
import HandS.SortInts
import KE.KExcIs
import HandS.Codes
import KE.IntTextLaws
import PySem.Challenge.RW_postsooth_k61_whole_texts_of_forms_and_f
set_option linter.all false
set_option maxRecDepth 100000
/-! Rx, part A: a small language, what it means over plain data. -/
namespace Rx
open PySem L2

abbrev D := PyData
/-- a text by its codes -/
def S (l : List Nat) : D := .str ⟨l.toArray⟩

inductive Dv where
  | pd (x : D) | ref (n : Nat) | fn (k : Nat) | lck (xs : List D)
inductive Cell where
  | lst (xs : List D) | fzl (xs : List D) | dK (kvs : List (Key × D)) | dT (kvs : List (List Key × D)) | dead
abbrev Sto := List Cell
structure Ex where
  cls : Nat
  args : List D
inductive Res (α : Type) where
  | ok (a : α) (s : Sto) | exc (e : Ex) (s : Sto) | stuck
abbrev M (α : Type) := Sto → Res α
abbrev Env := List (Option Dv)
def Res.bind {α β : Type} (r : Res α) (f : α → M β) : Res β := match r with
  | .ok a s => f a s
  | .exc e s => .exc e s
  | .stuck => .stuck

inductive BOp where | add | sub | mul | fdiv | mod | pow
  deriving DecidableEq
inductive COp where | eq | ne | lt | le | gt | ge | is | isnot | inn | notin
  deriving DecidableEq
/-- built-in functions and types, called -/
inductive Bf where | len | all | any | int | str | tuple | list | sorted | min1 | max1 | min2 | max2 | abs | sum
  deriving DecidableEq
/-- methods -/
inductive Mt where | append | extend | split | partition | startswith | join | tindex | get2 | replace
  deriving DecidableEq
inductive Lit where
  | non | bl (b : Bool) | int (i : Int) | str (s : List Nat)
  deriving DecidableEq

mutual
inductive E where
  | var (i : Nat) | cst (c : Lit) | gbl (j : Nat) | fnv (k : Nat)
  | bin (o : BOp) (a b : E) | neg (a : E) | notv (a : E) | bop (isAnd : Bool) (es : Es)
  | cmp (o : COp) (a b : E) | chn (o o' : COp) (a b c : E) | ifx (c a b : E)
  | tup (es : Es) | lst (mu : Bool) (es : Es) | dnew (tk : Bool) | dsp (ks : List Lit) (vs : Es)
  | idx (a b : E) | slc (a : E) (lo hi : Eo)
  | call (k : Nat) (es : Es) | callv (nf i : Nat) (es : Es) | blt (f : Bf) (es : Es) | isi (a : E) (cs : List String)
  | mth (m : Mt) (a : E) (es : Es)
  | lc (mu : Bool) (own : List Nat) (elt : E) (tg : Tg) (it : It) (ifs : Es)
  | fst (es : Es)
inductive Es where
  | nil | cons (e : E) (es : Es)
inductive Eo where
  | none | some (e : E)
inductive It where
  | val (e : E) | rng (a : E) | rng2 (a b : E) | enum (e : E)
inductive Tg where
  | name (i : Nat) | tup (ts : Tgs) | sub (o i : E)
inductive Tgs where
  | nil | cons (t : Tg) (ts : Tgs)
end
mutual
inductive St where
  | exp (e : E) | ret (e : E) | retN | asg (t : Tg) (e : E) | aug (i : Nat) (o : BOp) (e : E)
  | ite (c : E) (a b : Ss) | wh (c : E) (b : Ss) | fo (t : Tg) (it : It) (b : Ss)
  | brk | cnt | pass | rai (k : Nat) (es : Es)
  | tryN (b : Ss) (cls : Nat) (i : Nat) (k : Nat)
  | augs (o i : E) (op : BOp) (e : E)
inductive Ss where
  | nil | cons (s : St) (ss : Ss)
end

/-! ### values -/
/-- what a value tells to a reader: a list, frozen or not, is its items -/
def view (v : Dv) (s : Sto) : Option D := match v with
  | .pd x => some x
  | .ref n => match s[n]? with
    | some (.lst xs) => some (.list xs)
    | some (.fzl xs) => some (.list xs)
    | _ => none
  | .fn _ => none
  | .lck _ => none
/-- a value as plain data: a list of the store is frozen by that -/
def toP (v : Dv) : M D := fun s => match v with
  | .pd x => .ok x s
  | .ref n => match s[n]? with
    | some (.lst xs) => .ok (.list xs) (s.set n (.fzl xs))
    | some (.fzl xs) => .ok (.list xs) s
    | _ => .stuck
  | .fn _ => .stuck
  | .lck _ => .stuck
def line : Nat := 16777216
def truthD (x : D) : Option Bool := match x with
  | .none => some false
  | .bool b => some b
  | .int i => some (i != 0)
  | .str y => if y.length ≤ line then some ((y.length : Int) != 0) else none
  | .list xs => some (!xs.isEmpty)
  | .tuple xs => some (!xs.isEmpty)
  | .dict _ => none
def truthV (v : Dv) (s : Sto) : Option Bool := match v with
  | .pd x => truthD x
  | .ref n => match s[n]? with
    | some (.lst xs) => some (!xs.isEmpty)
    | some (.fzl xs) => some (!xs.isEmpty)
    | some (.dK kvs) => some (!kvs.isEmpty)
    | _ => none
  | .fn _ => none
  | .lck _ => none
def truthR (v : Dv) : M Bool := fun s => match truthV v s with
  | some b => .ok b s
  | none => .stuck
def okP (x : D) : M Dv := fun s => .ok (.pd x) s
/-- a new list -/
def newL (mu : Bool) (xs : List D) : M Dv := fun s =>
  if xs.length ≤ line then (if mu then .ok (.ref s.length) (s ++ [.lst xs]) else .ok (.pd (.list xs)) s) else .stuck

/-- a slice -/
def cut {α : Type} (xs : List α) (lo hi : Option Int) : List α := (xs.drop (HT.sIx xs.length 0 lo)).take (HT.sIx xs.length xs.length hi - HT.sIx xs.length 0 lo)

/-! ### order of data: tuples by their first difference -/
def intO (o : COp) (a b : Int) : Option Bool := match o with
  | .lt => some (decide (a < b)) | .le => some (decide (a ≤ b)) | .gt => some (decide (b < a)) | .ge => some (decide (b ≤ a)) | _ => none
def strO (o : COp) (a b : Str) : Option Bool := match o with
  | .lt => some (decide (a.cps.toList < b.cps.toList)) | .le => some (!decide (b.cps.toList < a.cps.toList))
  | .gt => some (decide (b.cps.toList < a.cps.toList)) | .ge => some (!decide (a.cps.toList < b.cps.toList)) | _ => none
/-- the lengths alone -/
def lenO (o : COp) (m n : Nat) : Bool := match o with
  | .lt => decide (m < n) | .le => decide (m ≤ n) | .gt => decide (m > n) | .ge => decide (m ≥ n) | _ => false
mutual
def ordD (o : COp) : D → D → Option Bool
  | .int a, .int b => intO o a b
  | .str a, .str b => strO o a b
  | .tuple xs, .tuple ys => ordAll o (lenO o xs.length ys.length) xs ys
  | _, _ => none
def ordAll (o : COp) (z : Bool) : List D → List D → Option Bool
  | x :: xs, y :: ys => if PyData.eqv x y then ordAll o z xs ys else ordD o x y
  | _, _ => some z
end
abbrev ltD : D → D → Option Bool := ordD .lt
/-- what may be compared at all -/
def shp (x : D) : Bool := x.canLay0 && decide (x.depth ≤ 64)
def scl (x y : D) : Bool := match x, y with
  | .none, .none => true | .none, .int _ => true | .int _, .none => true | .none, .bool _ => true | .bool _, .none => true | .none, .str _ => true | .str _, .none => true
  | .int _, .int _ => true | .bool _, .bool _ => true | .str _, .str _ => true
  | .int _, .str _ => true | .str _, .int _ => true | .bool _, .str _ => true | .str _, .bool _ => true
  | _, _ => false
def eqR (x y : D) : M Bool := fun s => if scl x y || (shp x && shp y) then .ok (PyData.eqv x y) s else .stuck
def flat (x : D) : Bool := match x with
  | .none | .bool _ | .int _ | .str _ => true
  | _ => false
def keyOf (x : D) : Option Key := match x with
  | .int i => some (.inl i)
  | .str y => some (.inr y)
  | _ => none
def keysOf : List D → Option (List Key)
  | [] => some []
  | x :: xs => match keyOf x, keysOf xs with
    | some k, some ks => some (k :: ks)
    | _, _ => none
def lookK {κ : Type} [DecidableEq κ] (kvs : List (κ × D)) (k : κ) : Option D := (kvs.find? fun p => decide (p.1 = k)).map (·.2)
def putD {κ : Type} [DecidableEq κ] (kvs : List (κ × D)) (k : κ) (v : D) : List (κ × D) :=
  if kvs.any (fun p => decide (p.1 = k)) = true then kvs.map (fun p => if p.1 = k then (p.1, v) else p) else kvs ++ [(k, v)]
/-- d[k] of a dict of the store -/
def dget (c : Cell) (k : D) : Option (Option D) := match c with
  | .dK kvs => (keyOf k).map (lookK kvs)
  | .dT kvs => match k with
    | .tuple xs => (keysOf xs).map (lookK kvs)
    | _ => none
  | _ => none
def occ (a b : D) : Option Bool := match a, b with
  | .str x, .str y => some (!(Builtin.Str.occurrences y x 0 y.length 1).isEmpty)
  | _, _ => none
/-- x in y -/
def inD (x : Dv) (y : Dv) : M Bool := fun s => match x, y with
  | .pd k, .ref n => match s[n]? with
    | some (.lst xs) => if flat k && xs.all flat then .ok (xs.any fun z => PyData.eqv z k) s else .stuck
    | some (.fzl xs) => if flat k && xs.all flat then .ok (xs.any fun z => PyData.eqv z k) s else .stuck
    | some c => match dget c k with
      | some o => .ok o.isSome s
      | none => .stuck
    | none => .stuck
  | .pd k, .pd (.list xs) => if flat k && xs.all flat then .ok (xs.any fun z => PyData.eqv z k) s else .stuck
  | .pd k, .pd (.tuple xs) => if flat k && xs.all flat then .ok (xs.any fun z => PyData.eqv z k) s else .stuck
  | .pd (.str a), .pd (.str b) => .ok (!(Builtin.Str.occurrences b a 0 b.length 1).isEmpty) s
  | _, _ => .stuck
def scalD (x : D) : Bool := match x with
  | .none | .bool _ | .int _ | .str _ => true
  | _ => false
def ordR (r : Option Bool) : M Bool := fun s => match r with
  | some b => .ok b s
  | none => .stuck
def ordV (o : COp) (x y : Dv) : M Bool := fun s => match x, y with
  | .pd a, .pd b => if (flat a && flat b) || (shp a && shp b) then ordR (ordD o a b) s else .stuck
  | _, _ => .stuck
def cmpV (o : COp) (x y : Dv) : M Bool := fun s => match o with
  | .inn => inD x y s
  | .notin => (inD x y s).bind fun b s => .ok (!b) s
  | .is => match x, y with
    | .pd .none, .pd .none => .ok true s
    | .pd (.bool a), .pd (.bool b) => .ok (decide (a = b)) s
    | _, .pd .none => .ok false s
    | _, _ => .stuck
  | .isnot => match x, y with
    | .pd .none, .pd .none => .ok false s
    | .pd (.bool a), .pd (.bool b) => .ok (!decide (a = b)) s
    | _, .pd .none => .ok true s
    | _, _ => .stuck
  | .eq => match view x s, view y s with
    | some a, some b => eqR a b s
    | _, _ => .stuck
  | .ne => match view x s, view y s with
    | some a, some b => (eqR a b s).bind fun b s => .ok (!b) s
    | _, _ => .stuck
  | .lt => ordV .lt x y s
  | .le => ordV .le x y s
  | .gt => ordV .gt x y s
  | .ge => ordV .ge x y s
def big : Nat := 18446744073709551616
def half : Nat := 9223372036854775808
def rep {α : Type} (xs : List α) (k : Int) : List α := (List.replicate k.toNat xs).flatten
def binD (o : BOp) (x y : D) : M Dv := fun s => match o, x, y with
  | .add, .int a, .int b => .ok (.pd (.int (a + b))) s
  | .add, .str a, .str b => if a.length + b.length ≤ line then .ok (.pd (.str (a ++ b))) s else .stuck
  | .add, .list a, .list b => if a.length + b.length ≤ line then .ok (.pd (.list (a ++ b))) s else .stuck
  | .add, .tuple a, .tuple b => if a.length + b.length ≤ line then .ok (.pd (.tuple (a ++ b))) s else .stuck
  | .sub, .int a, .int b => .ok (.pd (.int (a - b))) s
  | .mul, .int a, .int b => if a.natAbs < big ∨ b.natAbs < big then .ok (.pd (.int (a * b))) s else .stuck
  | .mul, .list a, .int b => if 0 ≤ b ∧ b.natAbs < half ∧ a.length * b.toNat ≤ line then .ok (.pd (.list (rep a b))) s else .stuck
  | .mul, .str a, .int b => if 0 ≤ b ∧ b.natAbs < half ∧ a.length * b.toNat ≤ line then .ok (.pd (.str ⟨(rep a.cps.toList b).toArray⟩)) s else .stuck
  | .mul, .tuple a, .int b => if a.isEmpty = false ∧ 2 ≤ b ∧ b.natAbs ≤ 1000000 ∧ a.length * b.toNat ≤ 1000000 then .ok (.pd (.tuple (rep a b))) s else .stuck
  | .fdiv, .int a, .int b => if 0 < b ∧ b.natAbs < 1073741824 then .ok (.pd (.int (a / b))) s else .stuck
  | .mod, .int a, .int b => if 0 < b then .ok (.pd (.int (a % b))) s else .stuck
  | .pow, .int a, .int b => if 0 ≤ b ∧ b ≤ 1000000 ∧ a.natAbs < 18446744073709551616 then .ok (.pd (.int (a ^ b.toNat))) s else .stuck
  | _, _, _ => .stuck
def binV (o : BOp) (x y : Dv) : M Dv := fun s => match view x s, view y s with
  | some a, some b => binD o a b s
  | _, _ => .stuck
def atL (xs : List D) (k : D) : M Dv := fun s => match k with
  | .int i => (match (ixN xs.length i).bind (xs[·]?) with
    | some v => .ok (.pd v) s
    | none => .stuck)
  | _ => .stuck
def atC (c : Cell) (k : D) : M Dv := fun s => match c with
  | .lst xs => atL xs k s
  | .fzl xs => atL xs k s
  | c => match dget c k with
    | some (some v) => .ok (.pd v) s
    | _ => .stuck
def atS (z : Str) (k : D) : M Dv := fun s => match k with
  | .int i => if z.length ≤ line then (match (ixN z.cps.toList.length i).bind (z.cps.toList[·]?) with
    | some c => .ok (.pd (.str ⟨#[c]⟩)) s
    | none => .stuck) else .stuck
  | _ => .stuck
def idxV (x y : Dv) : M Dv := fun s => match x, y with
  | .ref n, .pd k => (match s[n]? with
    | some c => atC c k s
    | none => .stuck)
  | .pd (.list xs), .pd k => atL xs k s
  | .pd (.tuple xs), .pd k => atL xs k s
  | .pd (.str z), .pd k => atS z k s
  | _, _ => .stuck
/-- an item of a list of the store, ahead of op= -/
def getL (x y : Dv) : M Dv := fun s => match x, y with
  | .ref n, .pd (.int i) => (match s[n]? with
    | some (.lst xs) => if 0 ≤ i then (match xs[i.toNat]? with
      | some v => .ok (.pd v) s
      | none => .stuck) else .stuck
    | _ => .stuck)
  | _, _ => .stuck
def pdOf (x : Dv) : M D := fun s => match x with
  | .pd d => .ok d s
  | _ => .stuck
def slcI (x : Dv) (l h : Option Int) : M Dv := fun s => match view x s with
  | some (.list xs) => .ok (.pd (.list (cut xs l h))) s
  | some (.tuple xs) => .ok (.pd (.tuple (cut xs l h))) s
  | some (.str z) => if z.length ≤ line then .ok (.pd (.str ⟨(cut z.cps.toList l h).toArray⟩)) s else .stuck
  | _ => .stuck
/-- o[i] = v -/
def putC (C : List D) (c : Cell) (k : D) (v : D) : Option Cell := match c with
  | .lst xs => (match k with
    | .int i => (ixN xs.length i).map fun j => .lst (xs.set j v)
    | _ => none)
  | .dK kvs => (keyOf k).bind fun k => if kvs.length < line then some (.dK (putD kvs k v)) else none
  | .dT kvs => (match k with
    | .tuple ks => (keysOf ks).bind fun k => if kvs.length < line ∧ (C.any fun c => PyData.eqv c (.tuple ks)) = false then some (.dT (putD kvs k v)) else none
    | _ => none)
  | _ => none
def setV (C : List D) (o i : Dv) (v : D) : M Unit := fun s => match o, i with
  | .ref n, .pd k => (match s[n]? with
    | some c => (match putC C c k v with
      | some c' => .ok () (s.set n c')
      | none => .stuck)
    | none => .stuck)
  | _, _ => .stuck
def strsD : List D → Option (List Str)
  | [] => some []
  | .str x :: r => (strsD r).map (x :: ·)
  | _ :: _ => none
def boolsD : List D → Option (List Bool)
  | [] => some []
  | .bool x :: r => (boolsD r).map (x :: ·)
  | _ :: _ => none
def intsD : List D → Option (List Int)
  | [] => some []
  | .int x :: r => (intsD r).map (x :: ·)
  | _ :: _ => none
def sumLen (sep : Nat) (ys : List Str) : Nat := (ys.map (·.length)).sum + ys.length * sep
/-- insertion by an order that may have no answer -/
def ins (x : D) : List D → Option (List D)
  | [] => some [x]
  | y :: r => match ltD x y with
    | some true => some (x :: y :: r)
    | some false => (ins x r).map (y :: ·)
    | none => none
def isort : List D → Option (List D)
  | [] => some []
  | x :: r => (isort r).bind (ins x)
mutual
/-- ints, texts, tuples of such -/
def nb : D → Bool
  | .int _ => true
  | .str _ => true
  | .tuple xs => nbs xs
  | _ => false
def nbs : List D → Bool
  | [] => true
  | x :: xs => nb x && nbs xs
end
def nonE (x : D) : Bool := match x with
  | .tuple [] => false
  | _ => true
/-- every two may be compared -/
def cmpAll (xs : List D) : Bool := xs.all fun x => nb x && (shp x && nonE x) && xs.all fun y => (ltD x y).isSome
def maxI : Int → List Int → Int
  | m, [] => m
  | m, x :: r => maxI (if x > m then x else m) r
def minI : Int → List Int → Int
  | m, [] => m
  | m, x :: r => minI (if x < m then x else m) r
def keyD : Key → D
  | .inl i => .int i
  | .inr x => .str x
def lenV (v : Dv) : M Dv := fun s => match v with
  | .lck xs => .ok (.pd (.int xs.length)) s
  | v => match view v s with
    | some (.list xs) => .ok (.pd (.int xs.length)) s
    | some (.tuple xs) => .ok (.pd (.int xs.length)) s
    | some (.str x) => if x.length ≤ line then .ok (.pd (.int x.length)) s else .stuck
    | _ => .stuck
def allV (v : Dv) : M Dv := fun s => match view v s with
  | some (.list xs) => (match boolsD xs with
    | some bs => .ok (.pd (.bool (bs.all id))) s
    | none => .stuck)
  | _ => .stuck
def anyV (v : Dv) : M Dv := fun s => match view v s with
  | some (.list xs) => (match boolsD xs with
    | some bs => .ok (.pd (.bool (bs.any id))) s
    | none => .stuck)
  | _ => .stuck
def intV (v : Dv) : M Dv := fun s => match v with
  | .pd (.int i) => .ok (.pd (.int i)) s
  | .pd (.bool b) => .ok (.pd (.int (if b then 1 else 0))) s
  | .pd (.str x) => (match intText? x with
    | some n => if x.length ≤ 640 then .ok (.pd (.int n)) s else .stuck
    | none => .stuck)
  | _ => .stuck
def strV (v : Dv) : M Dv := fun s => match v with
  | .pd (.int i) => if i.natAbs.log2 < 1920 then .ok (.pd (.str (toString i))) s else .stuck
  | .pd (.str x) => .ok (.pd (.str x)) s
  | _ => .stuck
def tupleV (v : Dv) : M Dv := fun s => match view v s with
  | some (.list xs) => .ok (.pd (.tuple xs)) s
  | some (.tuple xs) => .ok (.pd (.tuple xs)) s
  | _ => .stuck
def listC (c : Cell) : M Dv := fun s => match c with
  | .lst xs => .ok (.pd (.list xs)) s
  | .fzl xs => .ok (.pd (.list xs)) s
  | .dK kvs => .ok (.pd (.list (kvs.map fun p => keyD p.1))) s
  | .dT kvs => .ok (.pd (.list (kvs.map fun p => .tuple (p.1.map keyD)))) s
  | .dead => .stuck
def listV (v : Dv) : M Dv := fun s => match v with
  | .ref n => (match s[n]? with
    | some c => listC c s
    | none => .stuck)
  | .pd (.list xs) => .ok (.pd (.list xs)) s
  | .pd (.tuple xs) => .ok (.pd (.list xs)) s
  | .lck xs => .ok (.pd (.list xs)) s
  | _ => .stuck
def sortV (v : Dv) : M Dv := fun s => match view v s with
  | some (.list xs) => if cmpAll xs && decide (xs.length ≤ line) then (match isort xs with
    | some ys => .ok (.pd (.list ys)) s
    | none => .stuck) else .stuck
  | _ => .stuck
def absV (v : Dv) : M Dv := fun s => match v with
  | .pd (.int a) => .ok (.pd (.int (if a < 0 then -a else a))) s
  | _ => .stuck
def max2V (v w : Dv) : M Dv := fun s => match v, w with
  | .pd (.int a), .pd (.int b) => .ok (.pd (.int (if b > a then b else a))) s
  | _, _ => .stuck
def min2V (v w : Dv) : M Dv := fun s => match v, w with
  | .pd (.int a), .pd (.int b) => .ok (.pd (.int (if b < a then b else a))) s
  | _, _ => .stuck
def numsV (f : List Int → Option Int) (v : Dv) : M Dv := fun s => match view v s with
  | some (.list xs) => (match (intsD xs).bind f with
    | some n => .ok (.pd (.int n)) s
    | none => .stuck)
  | _ => .stuck
def maxL : List Int → Option Int
  | [] => none
  | n :: ns => some (maxI n ns)
def minL : List Int → Option Int
  | [] => none
  | n :: ns => some (minI n ns)
def blt1 (f : Bf) (v : Dv) : M Dv := match f with
  | .len => lenV v
  | .all => allV v
  | .any => anyV v
  | .int => intV v
  | .str => strV v
  | .tuple => tupleV v
  | .list => listV v
  | .sorted => sortV v
  | .abs => absV v
  | .sum => numsV (fun ns => some ns.sum) v
  | .max1 => numsV maxL v
  | .min1 => numsV minL v
  | .max2 => fun _ => .stuck
  | .min2 => fun _ => .stuck
def bltV (f : Bf) (vs : List Dv) : M Dv := fun s => match vs with
  | [v] => blt1 f v s
  | [v, w] => (match f with
    | .max2 => max2V v w s
    | .min2 => min2V v w s
    | _ => .stuck)
  | _ => .stuck
/-- isinstance with built-in classes -/
def isOf (x : D) (c : String) : Option Bool := match x, c with
  | .int _, "int" => some true
  | .bool _, "int" => some true
  | .bool _, "bool" => some true
  | .int _, "bool" => some false
  | .str _, "str" => some true
  | .tuple _, "tuple" => some true
  | .list _, "list" => some true
  | .none, "int" => some false
  | .none, "str" => some false
  | .none, "bool" => some false
  | .none, "tuple" => some false
  | .none, "list" => some false
  | .int _, "str" => some false
  | .int _, "tuple" => some false
  | .int _, "list" => some false
  | .bool _, "str" => some false
  | .bool _, "tuple" => some false
  | .bool _, "list" => some false
  | .str _, "int" => some false
  | .str _, "bool" => some false
  | .str _, "tuple" => some false
  | .str _, "list" => some false
  | .tuple _, "int" => some false
  | .tuple _, "bool" => some false
  | .tuple _, "str" => some false
  | .tuple _, "list" => some false
  | .list _, "int" => some false
  | .list _, "bool" => some false
  | .list _, "str" => some false
  | .list _, "tuple" => some false
  | _, _ => none
def isiV (v : Dv) (cs : List String) : M Dv := fun s => match view v s, cs with
  | some x, [c] => match isOf x c with
    | some b => .ok (.pd (.bool b)) s
    | none => .stuck
  | _, _ => .stuck
def appC (n : Nat) (d : D) : M Dv := fun s => match s[n]? with
  | some (.lst xs) => if xs.length < line then .ok (.pd .none) (s.set n (.lst (xs ++ [d]))) else .stuck
  | _ => .stuck
def joinV (a : Str) (v : Dv) : M Dv := fun s => match view v s with
  | some (.list xs) => (match strsD xs with
    | some ys => if sumLen a.length ys ≤ line then .ok (.pd (.str (Txt.join a ys))) s else .stuck
    | none => .stuck)
  | some (.tuple xs) => (match strsD xs with
    | some ys => if sumLen a.length ys ≤ line then .ok (.pd (.str (Txt.join a ys))) s else .stuck
    | none => .stuck)
  | _ => .stuck
def extC (n : Nat) (v : Dv) : M Dv := fun s => match view v s with
  | some (.list ys) => (match s[n]? with
    | some (.lst xs) => if xs.length + ys.length ≤ line then .ok (.pd .none) (s.set n (.lst (xs ++ ys))) else .stuck
    | _ => .stuck)
  | some (.tuple ys) => (match s[n]? with
    | some (.lst xs) => if xs.length + ys.length ≤ line then .ok (.pd .none) (s.set n (.lst (xs ++ ys))) else .stuck
    | _ => .stuck)
  | _ => .stuck
def getC (n : Nat) (k d : Dv) : M Dv := fun s => match k with
  | .pd k => (toP d s).bind fun d s => (match s[n]? with
    | some c => (match dget c k with
      | some o => .ok (.pd (o.getD d)) s
      | none => .stuck)
    | none => .stuck)
  | _ => .stuck
def str1V (m : Mt) (a b : Str) : M Dv := fun s => match m with
  | .split => if (b.length == 0) = false ∧ a.length + 2 ≤ line then .ok (.pd (.list ((Txt.split a b).map .str))) s else .stuck
  | .partition => if (b.length == 0) = false ∧ a.length ≤ line then .ok (.pd (.tuple [.str (Txt.partition a b).1, .str (Txt.partition a b).2.1, .str (Txt.partition a b).2.2])) s else .stuck
  | .startswith => .ok (.pd (.bool (Txt.startswith a b))) s
  | _ => .stuck
def mth1 (m : Mt) (x v : Dv) : M Dv := fun s => match x with
  | .ref n => (match m with
    | .append => (toP v s).bind fun d s => appC n d s
    | .extend => extC n v s
    | _ => .stuck)
  | .pd (.str a) => (match m with
    | .join => joinV a v s
    | m => match v with
      | .pd (.str b) => str1V m a b s
      | _ => .stuck)
  | _ => .stuck
def mthV (m : Mt) (x : Dv) (vs : List Dv) : M Dv := fun s => match vs with
  | [v] => mth1 m x v s
  | [v, w] => (match m, x with
    | .get2, .ref n => getC n v w s
    | _, _ => .stuck)
  | _ => .stuck
/-- the receiver's kind, looked at ahead of the arguments -/
def mthT (m : Mt) (x : Dv) (s : Sto) : Bool := match m, x with
  | .append, .ref n | .extend, .ref n => match s[n]? with
    | some (.lst _) => true
    | some (.fzl _) => true
    | _ => false
  | .get2, .ref n => match s[n]? with
    | some (.dK _) => true
    | some (.dT _) => true
    | _ => false
  | .split, .pd (.str _) | .partition, .pd (.str _) | .startswith, .pd (.str _) | .join, .pd (.str _) | .replace, .pd (.str _) => true
  | _, _ => false
def fmtV (v : Dv) : M Str := fun s => match v with
  | .pd (.str y) => if y.length ≤ line then .ok y s else .stuck
  | .pd (.int i) => if i.natAbs.log2 < 1920 then .ok (toString i) s else .stuck
  | _ => .stuck

/-! ### what is walked -/
def enumD : Nat → List D → List D
  | _, [] => []
  | i, x :: xs => .tuple [.int i, x] :: enumD (i + 1) xs
def rngD (lo : Int) (n : Nat) : List D := (List.range n).map fun i => .int (lo + (i : Nat))
def rlim (i : Int) : Bool := decide (i.natAbs ≤ 1000000000000000000)
/-- a list that is walked is frozen -/
def walkV (v : Dv) : M (List D) := fun s => match v with
  | .ref n => match s[n]? with
    | some (.lst xs) => .ok xs (s.set n (.fzl xs))
    | some (.fzl xs) => .ok xs s
    | _ => .stuck
  | .pd (.list xs) => .ok xs s
  | .pd (.tuple xs) => .ok xs s
  | .pd (.str x) => .ok (x.cps.toList.map fun c => .str ⟨#[c]⟩) s
  | .lck xs => .ok xs s
  | _ => .stuck
def walkL (v : Dv) : M (List D) := fun s => match v with
  | .ref n => match s[n]? with
    | some (.lst xs) => .ok xs (s.set n (.fzl xs))
    | some (.fzl xs) => .ok xs s
    | _ => .stuck
  | .pd (.list xs) => .ok xs s
  | _ => .stuck

abbrev DE := Env → M Dv
abbrev DT := Env → M Bool
abbrev Mean := Nat → List Dv → M Dv
def wipeE (env : Env) : List Nat → Env
  | [] => env
  | v :: vs => (wipeE env vs).set v none
/-- the turns of a comprehension -/
def lcL (f : D → M (Option D)) : List D → List D → M (List D)
  | [], acc, s => .ok acc s
  | x :: xs, acc, s => match f x s with
    | .ok none s' => lcL f xs acc s'
    | .ok (some d) s' => if acc.length < line then lcL f xs (acc ++ [d]) s' else .stuck
    | _ => .stuck
def tests : List (M Bool) → M Bool
  | [], s => .ok true s
  | [t], s => t s
  | _, _ => .stuck
def joinF : List (M Str) → Str → M Str
  | [], acc, s => .ok acc s
  | f :: fs, acc, s => match f s with
    | .ok y s' => if acc.length + y.length ≤ line then joinF fs (acc ++ y) s' else .stuck
    | .exc e s' => .exc e s'
    | .stuck => .stuck
def litD : Lit → D
  | .non => .none
  | .bl b => .bool b
  | .int i => .int i
  | .str s => S s

def both (f : DE) : DE × DT := (f, fun env s => (f env s).bind fun v s => truthR v s)
def cmpB (f : DT) : DE × DT := (fun env s => (f env s).bind fun b s => .ok (.pd (.bool b)) s, f)
mutual
/-- a target that takes plain data -/
def denG : Tg → D → Env → M Env
  | .name i, x, env, s => .ok (env.set i (some (.pd x))) s
  | .tup ts, x, env, s => match x with
    | .tuple xs => denGs ts xs env s
    | _ => .stuck
  | .sub _ _, _, _, _ => .stuck
def denGs : Tgs → List D → Env → M Env
  | .nil, [], env, s => .ok env s
  | .cons t ts, x :: xs, env, s => (denG t x env s).bind fun env' s => denGs ts xs env' s
  | _, _, _, _ => .stuck
end
section
variable (C : List D) (call : Mean)
mutual
def den : E → DE × DT
  | .var i => both fun env s => match env[i]? with
    | some (some v) => .ok v s
    | _ => .stuck
  | .cst c => both fun _ s => .ok (.pd (litD c)) s
  | .gbl j => both fun _ s => match C[j]? with
    | some x => .ok (.pd x) s
    | none => .stuck
  | .fnv k => both fun _ s => .ok (.fn k) s
  | .bin o a b => both fun env s => ((den a).1 env s).bind fun x s => ((den b).1 env s).bind fun y s => binV o x y s
  | .neg a => both fun env s => ((den a).1 env s).bind fun x s => match x with
    | .pd (.int i) => .ok (.pd (.int (-i))) s
    | _ => .stuck
  | .notv a => (fun env s => ((den a).1 env s).bind fun x s => (truthR x s).bind fun b s => .ok (.pd (.bool (!b))) s,
      fun env s => ((den a).2 env s).bind fun b s => .ok (!b) s)
  | .bop isAnd es => denB isAnd es
  | .cmp o a b => cmpB fun env s => ((den a).1 env s).bind fun x s => ((den b).1 env s).bind fun y s => cmpV o x y s
  | .chn o o' a b c => cmpB fun env s => ((den a).1 env s).bind fun x s => ((den b).1 env s).bind fun y s => (cmpV o x y s).bind fun k s =>
      if k then ((den c).1 env s).bind fun z s => cmpV o' y z s else .ok false s
  | .ifx c a b => (fun env s => ((den c).2 env s).bind fun k s => if k then (den a).1 env s else (den b).1 env s,
      fun _ _ => .stuck)
  | .tup es => both fun env s => (denP es env s).bind fun xs s => if xs.length ≤ line then .ok (.pd (.tuple xs)) s else .stuck
  | .lst mu es => both fun env s => (denP es env s).bind fun xs s => newL mu xs s
  | .dnew tk => both fun _ s => .ok (.ref s.length) (s ++ [if tk then .dT [] else .dK []])
  | .dsp ks vs => both fun env s => (denP vs env s).bind fun ys s => match keysOf (ks.map litD) with
    | some ks => if ks.length = ys.length ∧ ks.length ≤ 15 then .ok (.ref s.length) (s ++ [.dK ((ks.zip ys).foldl (fun acc p => putD acc p.1 p.2) [])]) else .stuck
    | none => .stuck
  | .idx a b => both fun env s => ((den a).1 env s).bind fun x s => ((den b).1 env s).bind fun y s => idxV x y s
  | .slc a lo hi => both fun env s => ((den a).1 env s).bind fun x s => (denO lo env s).bind fun l s => (denO hi env s).bind fun h s => slcI x l h s
  | .call k es => both fun env s => (denV es env s).bind fun vs s => call k vs s
  | .callv nf i es => both fun env s => match env[i]? with
    | some (some (.fn k)) => if k < nf then (denV es env s).bind fun vs s => call k vs s else .stuck
    | _ => .stuck
  | .blt f es => both fun env s => (denV es env s).bind fun vs s => bltV f vs s
  | .isi a cs => both fun env s => ((den a).1 env s).bind fun x s => isiV x cs s
  | .mth m a es => both fun env s => ((den a).1 env s).bind fun x s => if mthT m x s then (denV es env s).bind fun vs s => mthV m x vs s else .stuck
  | .lc mu own elt tg it ifs => both fun env s => (denI it env s).bind fun xs s =>
      (lcL (fun x s => match denG tg x (wipeE env own) s with
        | .ok env' s => (tests (denTs ifs env') s).bind fun k s => if k then ((den elt).1 env' s).bind fun v s => (toP v s).bind fun d s => .ok (some d) s else .ok none s
        | .exc e s => .exc e s
        | .stuck => .stuck) xs [] s).bind fun ys s => newL mu ys s
  | .fst es => both fun env s => (joinF (denF es env) Str.empty s).bind fun z s => .ok (.pd (.str z)) s
def denB : Bool → Es → DE × DT
  | _, .nil => both fun _ _ => .stuck
  | isAnd, .cons e .nil => den e
  | isAnd, .cons e es => (fun env s => ((den e).1 env s).bind fun x s => (truthR x s).bind fun k s => if k == isAnd then (denB isAnd es).1 env s else .ok x s,
      fun env s => ((den e).2 env s).bind fun k s => if k == isAnd then (denB isAnd es).2 env s else .ok k s)
def denV : Es → Env → M (List Dv)
  | .nil, _, s => .ok [] s
  | .cons e es, env, s => ((den e).1 env s).bind fun v s => (denV es env s).bind fun vs s => .ok (v :: vs) s
def denP : Es → Env → M (List D)
  | .nil, _, s => .ok [] s
  | .cons e es, env, s => ((den e).1 env s).bind fun v s => (toP v s).bind fun d s => (denP es env s).bind fun vs s => .ok (d :: vs) s
def denTs : Es → Env → List (M Bool)
  | .nil, _ => []
  | .cons e es, env => (den e).2 env :: denTs es env
def denF : Es → Env → List (M Str)
  | .nil, _ => []
  | .cons e es, env => (fun s => ((den e).1 env s).bind fun v s => fmtV v s) :: denF es env
def denO : Eo → Env → M (Option Int)
  | .none, _, s => .ok none s
  | .some e, env, s => ((den e).1 env s).bind fun v s => match v with
    | .pd (.int i) => .ok (some i) s
    | _ => .stuck
def denI : It → Env → M (List D)
  | .val e, env, s => ((den e).1 env s).bind fun v s => walkV v s
  | .rng a, env, s => ((den a).1 env s).bind fun v s => match v with
    | .pd (.int j) => if rlim j then .ok (rngD 0 j.toNat) s else .stuck
    | _ => .stuck
  | .rng2 a b, env, s => ((den a).1 env s).bind fun x s => ((den b).1 env s).bind fun y s => match x, y with
    | .pd (.int i), .pd (.int j) => if rlim i && rlim j then .ok (rngD i (j - i).toNat) s else .stuck
    | _, _ => .stuck
  | .enum e, env, s => ((den e).1 env s).bind fun v s => (walkL v s).bind fun xs s => .ok (enumD 0 xs) s
end
end
end Rx


set_option linter.all false
set_option maxRecDepth 100000
/-! Rx, part A2: statements, defs. -/
namespace Rx
open PySem L2
inductive Out where
  | nx (env : Env) | rt (v : Dv) | bk (env : Env) | ct (env : Env)
inductive RS where
  | out (o : Out) (s : Sto) | exc (e : Ex) (env : Env) (s : Sto) | stuck
/-- an expression's end, then a statement -/
def Res.go {α : Type} (r : Res α) (env : Env) (f : α → Sto → RS) : RS := match r with
  | .ok a s => f a s
  | .exc e s => .exc e env s
  | .stuck => .stuck
def RS.nxt (r : RS) (f : Env → Sto → RS) : RS := match r with
  | .out (.nx env) s => f env s
  | r => r
/-- the turns of a for -/
def forL (f : D → Env → Sto → RS) : List D → Env → Sto → RS
  | [], env, s => .out (.nx env) s
  | x :: xs, env, s => match f x env s with
    | .out (.nx env') s' => forL f xs env' s'
    | .out (.ct env') s' => forL f xs env' s'
    | .out (.bk env') s' => .out (.nx env') s'
    | r => r
/-- the turns of a while, so many at most -/
def whL (c : DT) (b : Env → Sto → RS) : Nat → Env → Sto → RS
  | 0, _, _ => .stuck
  | n + 1, env, s => (c env s).go env fun k s => if k then (match b env s with
    | .out (.nx env') s' => whL c b n env' s'
    | .out (.ct env') s' => whL c b n env' s'
    | .out (.bk env') s' => .out (.nx env') s'
    | r => r) else .out (.nx env) s
/-- x op= y of numbers and texts -/
def augV (o : BOp) (x y : Dv) : M Dv := fun s => match o, x, y with
  | .add, .pd (.int a), .pd (.int b) => .ok (.pd (.int (a + b))) s
  | .add, .pd (.str a), .pd (.str b) => if a.length + b.length ≤ line then .ok (.pd (.str (a ++ b))) s else .stuck
  | .sub, .pd (.int a), .pd (.int b) => .ok (.pd (.int (a - b))) s
  | _, _, _ => .stuck
section
variable (C : List D) (fl : Nat) (call : Mean)
/-- a target that takes any value -/
def denT : Tg → Dv → Env → M Env
  | .name i, v, env, s => .ok (env.set i (some v)) s
  | .tup ts, v, env, s => match view v s with
    | some (.tuple xs) => denGs ts xs env s
    | _ => .stuck
  | .sub o i, v, env, s => (toP v s).bind fun d s => ((den C call o).1 env s).bind fun x s => ((den C call i).1 env s).bind fun y s => (setV C x y d s).bind fun _ s => .ok env s
mutual
def denS : St → Env → Sto → RS
  | .exp e, env, s => ((den C call e).1 env s).go env fun _ s => .out (.nx env) s
  | .ret e, env, s => ((den C call e).1 env s).go env fun v s => .out (.rt v) s
  | .retN, env, s => .out (.rt (.pd .none)) s
  | .asg t e, env, s => ((den C call e).1 env s).go env fun v s => (denT C call t v env s).go env fun env' s => .out (.nx env') s
  | .aug i o e, env, s => match env[i]? with
    | some (some x) => ((den C call e).1 env s).go env fun v s => (augV o x v s).go env fun z s => .out (.nx (env.set i (some z))) s
    | _ => .stuck
  | .ite c a b, env, s => ((den C call c).2 env s).go env fun k s => if k then denSs a env s else denSs b env s
  | .wh c b, env, s => whL (den C call c).2 (denSs b) fl env s
  | .fo t it b, env, s => (denI C call it env s).go env fun xs s => forL (fun x env s => (denG t x env s).go env fun env' s => denSs b env' s) xs env s
  | .brk, env, s => .out (.bk env) s
  | .cnt, env, s => .out (.ct env) s
  | .pass, env, s => .out (.nx env) s
  | .rai k es, env, s => (denP C call es env s).go env fun xs s => .exc ⟨k, xs⟩ env s
  | .augs o i op e, env, s => ((den C call o).1 env s).go env fun x s => ((den C call i).1 env s).go env fun y s => (getL x y s).go env fun old s => ((den C call e).1 env s).go env fun v s => (augV op old v s).go env fun z s => (pdOf z s).go env fun d s => (setV C x y d s).go env fun _ s => .out (.nx env) s
  | .tryN b cls i k, env, s => match denSs b env s with
    | .exc e env' s' => if e.cls = cls ∧ i < env'.length then (match e.args with
      | [x] => .out (.rt (.pd x)) s'
      | _ => .stuck) else .stuck
    | r => r
def denSs : Ss → Env → Sto → RS
  | .nil, env, s => .out (.nx env) s
  | .cons a r, env, s => (denS a env s).nxt fun env s => denSs r env s
end
end
/-- a def -/
structure Def where
  name : Str
  names : List Str
  np : Nat
  keep : Bool
  body : Ss
/-- what is left behind a def: its own cells are gone; a list that it made is frozen, or kept as the last cell -/
def leave (keep : Bool) (n : Nat) (v : Dv) (s : Sto) : Res Dv := match v with
  | .pd x => .ok (.pd x) (s.take n)
  | .fn k => .ok (.fn k) (s.take n)
  | .lck xs => .ok (.lck xs) (s.take n)
  | .ref m => if m < n then .ok (.ref m) (s.take n) else match s[m]? with
    | some (.lst xs) => if keep then .ok (.ref n) (s.take n ++ [.lst xs]) else .ok (.pd (.list xs)) (s.take n)
    | some (.fzl xs) => .ok (.pd (.list xs)) (s.take n)
    | some (.dK kvs) => if keep then .ok (.ref n) (s.take n ++ [.dK kvs]) else .stuck
    | some (.dT kvs) => if keep then .ok (.ref n) (s.take n ++ [.dT kvs]) else .stuck
    | _ => .stuck
def body (C : List D) (fl : Nat) (call : Mean) (d : Def) (vs : List Dv) : M Dv := fun s =>
  if vs.length = d.np then match denSs C fl call d.body (vs.map some ++ List.replicate (d.names.length - vs.length) none) s with
    | .out (.rt v) s' => leave d.keep s.length v s'
    | .out (.nx _) s' => .ok (.pd .none) (s'.take s.length)
    | .exc e _ s' => .exc e (s'.take s.length)
    | _ => .stuck
  else .stuck
/-- the defs, so deep at most -/
def run (C : List D) (T : List Def) (fl : Nat) : Nat → Mean
  | 0 => fun _ _ _ => .stuck
  | n + 1 => fun k vs s => match T[k]? with
    | some d => body C fl (run C T fl n) d vs s
    | none => .stuck
end Rx


set_option linter.all false
set_option maxRecDepth 100000
/-! Rx, part B: how plain data lies in the abstract heap. -/
namespace Rx
open PySem PySem.Spec PyProof.Rows L2

/-- the ghost: what is frozen, where the cells of the store lie, the tuples that are the module's own -/
structure Gh where
  fz : Addr → Prop
  m : List Addr
  kc : List D
/-- where the defs and the classes lie; the field of a class -/
structure Ins where
  fa : Nat → Addr
  ca : Nat → Addr
  cf : Nat → Str
/-- a tuple of the module's own -/
def KTu (K : PySem.W.Frag) (a : Addr) (xs : List V) : Prop :=
  ∃ (o : Obj) (its : Array Value) (n : Nat), K.lookup a = some o ∧ o.cls = .type "tuple" ∧ o.data = .seq its n ∧ its.size ≤ sizeLine ∧ Vals xs its.toList
mutual
inductive Rp (K : PySem.W.Frag) (g : Gh) (H : Hp) : D → V → Prop
  | non : Rp K g H .none .non
  | bl (b : Bool) : Rp K g H (.bool b) (.bl b)
  | int (i : Int) : Rp K g H (.int i) (.int i)
  | str (x : Str) : Rp K g H (.str x) (.str x)
  | lst {a : Addr} {vs : List V} {ds : List D} : g.fz a ∧ H a = some (.lst vs) → RpA K g H ds vs → Rp K g H (.list ds) (.ref a)
  | tup {a : Addr} {vs : List V} {ds : List D} : H a = some (.tup vs) ∨ (KTu K a vs ∧ PyData.tuple ds ∈ g.kc) → RpA K g H ds vs → Rp K g H (.tuple ds) (.ref a)
inductive RpA (K : PySem.W.Frag) (g : Gh) (H : Hp) : List D → List V → Prop
  | nil : RpA K g H [] []
  | cons {d : D} {v : V} {ds : List D} {vs : List V} : Rp K g H d v → RpA K g H ds vs → RpA K g H (d :: ds) (v :: vs)
end
/-- what is frozen and the tuples stay -/
structure Fw (g : Gh) (H : Hp) (g' : Gh) (H' : Hp) : Prop where
  fz : ∀ a, g.fz a → g'.fz a
  rd : ∀ a u, g.fz a → H a = some u → H' a = some u
  lk : ∀ a vs, g.fz a → Rd H a (.lst vs) → Rd H' a (.lst vs)
  tup : ∀ a vs, H a = some (.tup vs) → H' a = some (.tup vs)
  kc : g'.kc = g.kc
section
variable {K : PySem.W.Frag} {g g' g1 g2 : Gh} {H H' H1 H2 : Hp}
theorem Fw.refl : Fw g H g H := ⟨fun _ h => h, fun _ _ _ h => h, fun _ _ _ h => h, fun _ _ h => h, rfl⟩
mutual
theorem Rp.fw (f : Fw g H g' H') : ∀ {d : D} {v : V}, Rp K g H d v → Rp K g' H' d v
  | _, _, .non => .non
  | _, _, .bl b => .bl b
  | _, _, .int i => .int i
  | _, _, .str x => .str x
  | _, _, .lst h r => .lst ⟨f.fz _ h.1, f.rd _ _ h.1 h.2⟩ (RpA.fw f r)
  | _, _, .tup h r => .tup (by
      rcases h with h | h
      · exact .inl (f.tup _ _ h)
      · exact .inr ⟨h.1, by rw [f.kc]; exact h.2⟩) (RpA.fw f r)
theorem RpA.fw (f : Fw g H g' H') : ∀ {ds : List D} {vs : List V}, RpA K g H ds vs → RpA K g' H' ds vs
  | _, _, .nil => .nil
  | _, _, .cons h r => .cons (Rp.fw f h) (RpA.fw f r)
end
theorem RpA.length : ∀ {ds : List D} {vs : List V}, RpA K g H ds vs → ds.length = vs.length
  | _, _, .nil => rfl
  | _, _, .cons _ r => congrArg (· + 1) r.length
theorem RpA.get : ∀ {ds : List D} {vs : List V} {i : Nat} {d : D}, RpA K g H ds vs → ds[i]? = some d → ∃ v, vs[i]? = some v ∧ Rp K g H d v
  | _, _, _, _, .nil, e => by simp at e
  | _, _, 0, _, .cons h _, e => by simp at e; subst e; exact ⟨_, rfl, h⟩
  | _, _, i + 1, d, .cons _ r, e => by
    obtain ⟨v, h1, h2⟩ := RpA.get (i := i) (d := d) r (by simpa using e)
    exact ⟨v, by simpa using h1, h2⟩
theorem RpA.getV : ∀ {ds : List D} {vs : List V} {i : Nat} {v : V}, RpA K g H ds vs → vs[i]? = some v → ∃ d, ds[i]? = some d ∧ Rp K g H d v
  | _, _, _, _, .nil, e => by simp at e
  | _, _, 0, _, .cons h _, e => by simp at e; subst e; exact ⟨_, rfl, h⟩
  | _, _, i + 1, v, .cons _ r, e => by
    obtain ⟨d, h1, h2⟩ := RpA.getV (i := i) (v := v) r (by simpa using e)
    exact ⟨d, by simpa using h1, h2⟩
theorem RpA.append : ∀ {ds es : List D} {vs ws : List V}, RpA K g H ds vs → RpA K g H es ws → RpA K g H (ds ++ es) (vs ++ ws)
  | _, _, _, _, .nil, s => s
  | _, _, _, _, .cons h r, s => .cons h (RpA.append r s)
theorem RpA.take : ∀ {ds : List D} {vs : List V} (n : Nat), RpA K g H ds vs → RpA K g H (ds.take n) (vs.take n)
  | _, _, 0, _ => .nil
  | _, _, _ + 1, .nil => .nil
  | _, _, n + 1, .cons h r => .cons h (RpA.take n r)
theorem RpA.drop : ∀ {ds : List D} {vs : List V} (n : Nat), RpA K g H ds vs → RpA K g H (ds.drop n) (vs.drop n)
  | _, _, 0, r => r
  | _, _, _ + 1, .nil => .nil
  | _, _, n + 1, .cons _ r => RpA.drop n r
theorem RpA.set {d : D} {v : V} (h : Rp K g H d v) : ∀ {ds : List D} {vs : List V} (i : Nat), RpA K g H ds vs → RpA K g H (ds.set i d) (vs.set i v)
  | _, _, _, .nil => .nil
  | _, _, 0, .cons _ r => .cons h r
  | _, _, i + 1, .cons q r => .cons q (RpA.set h i r)
theorem RpA.rep {ds : List D} {vs : List V} (h : RpA K g H ds vs) : ∀ k : Nat, RpA K g H (List.replicate k ds).flatten (List.replicate k vs).flatten
  | 0 => .nil
  | k + 1 => by
    rw [List.replicate_succ, List.replicate_succ, List.flatten_cons, List.flatten_cons]
    exact h.append (RpA.rep h k)
theorem tup_sq {a : Addr} {vs : List V} {p : Prop} (h : H a = some (.tup vs) ∨ (KTu K a vs ∧ p)) : SqT K H a vs := by
  rcases h with h | h
  · exact .inl (.inl h)
  · exact .inr h.1
mutual
theorem Rp.dp : ∀ {d : D} {v : V}, Rp K g H d v → Dp K H v d
  | _, _, .non => .non
  | _, _, .bl b => .bl b
  | _, _, .int i => .int i
  | _, _, .str x => .str x
  | _, _, .lst h r => .lst (.inl (.inl h.2)) (RpA.dp r)
  | _, _, .tup h r => .tup (tup_sq h) (RpA.dp r)
theorem RpA.dp : ∀ {ds : List D} {vs : List V}, RpA K g H ds vs → DpAll K H vs ds
  | _, _, .nil => .nil
  | _, _, .cons h r => .cons (Rp.dp h) (RpA.dp r)
end
theorem Rp.lst_inv {ds : List D} {v : V} (h : Rp K g H (.list ds) v) : ∃ a vs, v = .ref a ∧ H a = some (.lst vs) ∧ RpA K g H ds vs := by
  cases h with
  | lst h r => exact ⟨_, _, rfl, h.2, r⟩
theorem Rp.tup_inv {ds : List D} {v : V} (h : Rp K g H (.tuple ds) v) : ∃ a vs, v = .ref a ∧ SqT K H a vs ∧ RpA K g H ds vs := by
  cases h with
  | tup h r => exact ⟨_, _, rfl, tup_sq h, r⟩
end

/-! ### the store -/
def Cell.mut : Cell → Prop
  | .lst _ => True | .dK _ => True | .dT _ => True | _ => False
def CRp (K : PySem.W.Frag) (g : Gh) (H : Hp) : Cell → Addr → Prop
  | .lst xs, a => ∃ vs, H a = some (.lst vs) ∧ RpA K g H xs vs
  | .fzl xs, a => Rp K g H (.list xs) (.ref a)
  | .dK kvs, a => ∃ ks, H a = some (.dK ks) ∧ Paired (fun (p : Key × D) (q : Key × V) => p.1 = q.1 ∧ Rp K g H p.2 q.2) kvs ks
  | .dT kvs, a => ∃ ks, H a = some (.dT ks) ∧ Paired (fun (p : List Key × D) (q : List Key × V) => p.1 = q.1 ∧ Rp K g H p.2 q.2) kvs ks
  | .dead, _ => True
/-- a cell that may be written lies at a -/
def Al (g : Gh) (S : Sto) (a : Addr) : Prop := ∃ (n : Nat) (c : Cell), S[n]? = some c ∧ c.mut ∧ g.m[n]? = some a
structure SR (K : PySem.W.Frag) (g : Gh) (H : Hp) (S : Sto) : Prop where
  len : g.m.length = S.length
  cell : ∀ (n : Nat) (c : Cell), S[n]? = some c → ∃ a, g.m[n]? = some a ∧ CRp K g H c a ∧ (c.mut → ¬ g.fz a)
  inj : ∀ (i j : Nat) (ci cj : Cell) (a : Addr), S[i]? = some ci → ci.mut → S[j]? = some cj → cj.mut → g.m[i]? = some a → g.m[j]? = some a → i = j
  frz : ∀ a, g.fz a → H a ≠ none
/-- a step -/
structure Stp (g : Gh) (H : Hp) (S : Sto) (g' : Gh) (H' : Hp) (S' : Sto) : Prop where
  fz : ∀ a, g.fz a → g'.fz a
  m : ∃ l, g'.m = g.m ++ l
  kc : g'.kc = g.kc
  keep : ∀ a o, H a = some o → ¬ Al g S a → H' a = some o
  nfz : ∀ a, g'.fz a → g.fz a ∨ H a = none ∨ Al g S a
  nal : ∀ a, Al g' S' a → Al g S a ∨ H a = none
section
variable {K : PySem.W.Frag} {g g' g1 g2 : Gh} {H H' H1 H2 : Hp} {S S' S1 S2 : Sto}
theorem Stp.refl : Stp g H S g H S := ⟨fun _ h => h, ⟨[], by simp⟩, rfl, fun _ _ h _ => h, fun _ h => .inl h, fun _ h => .inl h⟩
theorem Stp.trans (a : Stp g H S g1 H1 S1) (b : Stp g1 H1 S1 g2 H2 S2) : Stp g H S g2 H2 S2 := by
  have nn : ∀ x, H1 x = none → H x = none ∨ Al g S x := fun x e => by
    cases q : H x with
    | none => exact .inl rfl
    | some o =>
      by_cases h : Al g S x
      · exact .inr h
      · have := a.keep x o q h
        rw [e] at this; cases this
  refine ⟨fun x h => b.fz x (a.fz x h), ?_, b.kc.trans a.kc, fun x o h n => ?_, fun x h => ?_, fun x h => ?_⟩
  · obtain ⟨l1, e1⟩ := a.m
    obtain ⟨l2, e2⟩ := b.m
    exact ⟨l1 ++ l2, by rw [e2, e1, List.append_assoc]⟩
  · refine b.keep x o (a.keep x o h n) fun h2 => ?_
    rcases a.nal x h2 with q | q
    · exact n q
    · rw [h] at q; cases q
  · rcases b.nfz x h with q | q | q
    · exact a.nfz x q
    · rcases nn x q with z | z
      · exact .inr (.inl z)
      · exact .inr (.inr z)
    · rcases a.nal x q with z | z
      · exact .inr (.inr z)
      · exact .inr (.inl z)
  · rcases b.nal x h with q | q
    · exact a.nal x q
    · rcases nn x q with z | z
      · exact .inr z
      · exact .inl z
theorem SR.notfz (R : SR K g H S) {a : Addr} (h : Al g S a) : ¬ g.fz a := by
  obtain ⟨n, c, h1, h2, h3⟩ := h
  obtain ⟨a', e, _, q⟩ := R.cell n c h1
  rw [h3] at e; cases e
  exact q h2
theorem SR.al_obj (R : SR K g H S) {a : Addr} (h : Al g S a) : (∃ vs, H a = some (.lst vs)) ∨ (∃ ks, H a = some (.dK ks)) ∨ ∃ ks, H a = some (.dT ks) := by
  obtain ⟨n, c, h1, h2, h3⟩ := h
  obtain ⟨a', e, q, _⟩ := R.cell n c h1
  rw [h3] at e; cases e
  cases c with
  | lst xs => obtain ⟨vs, e, _⟩ := q; exact .inl ⟨vs, e⟩
  | dK kvs => obtain ⟨vs, e, _⟩ := q; exact .inr (.inl ⟨vs, e⟩)
  | dT kvs => obtain ⟨vs, e, _⟩ := q; exact .inr (.inr ⟨vs, e⟩)
  | fzl xs => exact h2.elim
  | dead => exact h2.elim
theorem SR.al_tup (R : SR K g H S) {a : Addr} {vs : List V} (h : H a = some (.tup vs)) : ¬ Al g S a := fun q => by
  rcases R.al_obj q with ⟨u, e⟩ | ⟨u, e⟩ | ⟨u, e⟩ <;> (rw [h] at e; cases e)
theorem Stp.fw (st : Stp g H S g' H' S') (R : SR K g H S) : Fw g H g' H' := by
  have kp : ∀ a u, ¬ Al g S a → Rd H a u → Rd H' a u := fun a u n h => by
    rcases h with h | ⟨o, h⟩
    · exact .inl (st.keep a _ h n)
    · exact .inr ⟨o, st.keep a _ h n⟩
  exact ⟨st.fz, fun a u h r => st.keep a u r (fun q => R.notfz q h), fun a u h r => kp a _ (fun q => R.notfz q h) r, fun a vs r => st.keep a _ r (R.al_tup r), st.kc⟩
theorem Paired.imp' {α β : Type} {F G : α → β → Prop} : ∀ {l₁ : List α} {l₂ : List β}, Paired F l₁ l₂ → (∀ a b, F a b → G a b) → Paired G l₁ l₂
  | _, _, .nil, _ => .nil
  | _, _, .cons r t, f => .cons (f _ _ r) (Paired.imp' t f)
/-- a cell's description stays, where its own object does -/
theorem CRp.fw (f : Fw g H g' H') {c : Cell} {a : Addr} (h : CRp K g H c a) (e : c.mut → H' a = H a) : CRp K g' H' c a := by
  cases c with
  | lst xs => obtain ⟨vs, h1, h2⟩ := h; exact ⟨vs, by rw [e trivial]; exact h1, h2.fw f⟩
  | fzl xs => exact Rp.fw f h
  | dK kvs => obtain ⟨vs, h1, h2⟩ := h; exact ⟨vs, by rw [e trivial]; exact h1, Paired.imp' h2 fun p q z => ⟨z.1, z.2.fw f⟩⟩
  | dT kvs => obtain ⟨vs, h1, h2⟩ := h; exact ⟨vs, by rw [e trivial]; exact h1, Paired.imp' h2 fun p q z => ⟨z.1, z.2.fw f⟩⟩
  | dead => trivial
theorem SR.cell_some (R : SR K g H S) {n : Nat} {c : Cell} (h : S[n]? = some c) (hm : c.mut) {a : Addr} (e : g.m[n]? = some a) : ∃ o, H a = some o := by
  obtain ⟨a', e', q, _⟩ := R.cell n c h
  rw [e] at e'; cases e'
  cases c with
  | lst xs => obtain ⟨vs, e, _⟩ := q; exact ⟨_, e⟩
  | dK kvs => obtain ⟨vs, e, _⟩ := q; exact ⟨_, e⟩
  | dT kvs => obtain ⟨vs, e, _⟩ := q; exact ⟨_, e⟩
  | fzl xs => exact hm.elim
  | dead => exact hm.elim

/-- the ghost with one more frozen -/
def Gh.add (g : Gh) (p : Addr) : Gh := ⟨fun a => g.fz a ∨ a = p, g.m, g.kc⟩
theorem fw_new {p : Addr} {o : HO} (n : H p = none) : Fw g H g (upd H p o) :=
  ⟨fun _ h => h, fun a u _ h => by rw [upd_ne (ne_of_none h n)]; exact h, fun a u _ h => by
    rcases h with h | ⟨q, h⟩
    · exact .inl (by rw [upd_ne (ne_of_none h n)]; exact h)
    · exact .inr ⟨q, by rw [upd_ne (ne_of_none h n)]; exact h⟩, fun a vs h => by rw [upd_ne (ne_of_none h n)]; exact h, rfl⟩
/-- a new object that is no cell -/
theorem new_obj (R : SR K g H S) {p : Addr} {o : HO} (n : H p = none) : Stp g H S g (upd H p o) S ∧ SR K g (upd H p o) S := by
  have f : Fw g H g (upd H p o) := fw_new n
  refine ⟨⟨fun _ h => h, ⟨[], by simp⟩, rfl, fun a u h _ => by rw [upd_ne (ne_of_none h n)]; exact h, fun _ h => .inl h, fun _ h => .inl h⟩, R.len, fun i c h => ?_, R.inj, fun a h => ?_⟩
  · obtain ⟨a, e, q, nf⟩ := R.cell i c h
    refine ⟨a, e, q.fw f fun hm => ?_, nf⟩
    obtain ⟨u, hu⟩ := R.cell_some h hm e
    exact upd_ne (ne_of_none hu n)
  · by_cases e : a = p
    · subst e; rw [upd_same]; simp
    · rw [upd_ne e]; exact R.frz a h
theorem add_fz (R : SR K g H S) {p : Addr} (ho : H p ≠ none) (na : ¬ Al g S p) : SR K (g.add p) H S := by
  have f : Fw g H (g.add p) H := ⟨fun _ h => .inl h, fun a u h r => r, fun a u h r => r, fun _ _ h => h, rfl⟩
  refine ⟨R.len, fun i c h => ?_, R.inj, fun a h => ?_⟩
  · obtain ⟨a, e, q, nf⟩ := R.cell i c h
    refine ⟨a, e, q.fw f fun _ => rfl, fun hm z => ?_⟩
    rcases z with z | z
    · exact nf hm z
    · subst z; exact na ⟨i, c, h, hm, e⟩
  · rcases h with h | h
    · exact R.frz a h
    · subst h; exact ho
theorem al_add {p a : Addr} : Al (g.add p) S a ↔ Al g S a := Iff.rfl
/-- a new list that is never written -/
theorem new_lst (R : SR K g H S) {p : Addr} {vs : List V} {ds : List D} (n : H p = none) (r : RpA K g H ds vs) :
    Stp g H S (g.add p) (upd H p (.lst vs)) S ∧ SR K (g.add p) (upd H p (.lst vs)) S ∧ Rp K (g.add p) (upd H p (.lst vs)) (.list ds) (.ref p) := by
  obtain ⟨st, R'⟩ := new_obj (o := .lst vs) R n
  have na : ¬ Al g S p := fun z => by
    rcases R.al_obj z with ⟨u, e⟩ | ⟨u, e⟩ | ⟨u, e⟩ <;> (rw [n] at e; cases e)
  have f2 : Fw g (upd H p (.lst vs)) (g.add p) (upd H p (.lst vs)) := ⟨fun _ h => .inl h, fun a u h r => r, fun a u h r => r, fun _ _ h => h, rfl⟩
  refine ⟨⟨fun _ h => .inl h, ⟨[], by simp [Gh.add]⟩, rfl, st.keep, fun a h => ?_, fun a h => st.nal a h⟩, add_fz R' (by rw [upd_same]; simp) na, .lst ⟨.inr rfl, upd_same⟩ ((r.fw (fw_new n)).fw f2)⟩
  rcases h with h | h
  · exact .inl h
  · subst h; exact .inr (.inl n)
theorem new_tup (R : SR K g H S) {p : Addr} {vs : List V} {ds : List D} (n : H p = none) (r : RpA K g H ds vs) :
    Stp g H S g (upd H p (.tup vs)) S ∧ SR K g (upd H p (.tup vs)) S ∧ Rp K g (upd H p (.tup vs)) (.tuple ds) (.ref p) := by
  obtain ⟨st, R'⟩ := new_obj (o := .tup vs) R n
  exact ⟨st, R', .tup (.inl upd_same) (r.fw (fw_new n))⟩
def Gh.push (g : Gh) (p : Addr) : Gh := ⟨g.fz, g.m ++ [p], g.kc⟩
/-- a new cell -/
theorem new_cell (R : SR K g H S) {p : Addr} {o : HO} {c : Cell} (n : H p = none) (hc : ∀ g', Fw g H g' (upd H p o) → CRp K g' (upd H p o) c p) (hm : c.mut) :
    Stp g H S (g.push p) (upd H p o) (S ++ [c]) ∧ SR K (g.push p) (upd H p o) (S ++ [c]) := by
  have f : Fw g H (g.push p) (upd H p o) := ⟨fun _ h => h, (fw_new (g := g) n).rd, (fw_new (g := g) n).lk, (fw_new (g := g) n).tup, rfl⟩
  have npf : ¬ g.fz p := fun z => R.frz p z n
  have get : ∀ (i : Nat) (ci : Cell), (S ++ [c])[i]? = some ci → (i < S.length ∧ S[i]? = some ci) ∨ (i = S.length ∧ ci = c) := fun i ci h => by
    by_cases hi : i < S.length
    · rw [List.getElem?_append_left hi] at h; exact .inl ⟨hi, h⟩
    · rw [List.getElem?_append_right (by omega)] at h
      by_cases h0 : i = S.length
      · subst h0; simp at h; exact .inr ⟨rfl, h.symm⟩
      · have : 1 ≤ i - S.length := by omega
        rw [List.getElem?_eq_none (by simpa using this)] at h; cases h
  have getm : ∀ i, i < S.length → (g.push p).m[i]? = g.m[i]? := fun i hi => by
    show (g.m ++ [p])[i]? = _
    rw [List.getElem?_append_left (by rw [R.len]; exact hi)]
  have getp : (g.push p).m[S.length]? = some p := by
    show (g.m ++ [p])[S.length]? = _
    rw [← R.len]; simp
  have old : ∀ (i : Nat) (ci : Cell) (a : Addr), S[i]? = some ci → ci.mut → g.m[i]? = some a → a ≠ p := fun i ci a h1 h2 h3 e => by
    obtain ⟨u, hu⟩ := R.cell_some h1 h2 h3
    subst e; rw [n] at hu; cases hu
  refine ⟨⟨fun _ h => h, ⟨[p], rfl⟩, rfl, fun a u h _ => by rw [upd_ne (ne_of_none h n)]; exact h, fun _ h => .inl h, fun a h => ?_⟩, ?_, fun i ci h => ?_, fun i j ci cj a h1 h2 h3 h4 h5 h6 => ?_, fun a h => ?_⟩
  · obtain ⟨i, ci, h1, h2, h3⟩ := h
    rcases get i ci h1 with ⟨hi, h1⟩ | ⟨hi, rfl⟩
    · rw [getm i hi] at h3
      exact .inl ⟨i, ci, h1, h2, h3⟩
    · subst hi
      rw [getp] at h3; cases h3
      exact .inr n
  · show (g.m ++ [p]).length = _
    rw [List.length_append, List.length_append, R.len]; rfl
  · rcases get i ci h with ⟨hi, h1⟩ | ⟨hi, rfl⟩
    · obtain ⟨a, e, q, nf⟩ := R.cell i ci h1
      refine ⟨a, by rw [getm i hi]; exact e, q.fw f fun hm' => ?_, nf⟩
      exact upd_ne (old i ci a h1 hm' e)
    · subst hi
      exact ⟨p, getp, hc _ f, fun _ => npf⟩
  · rcases get i ci h1 with ⟨hi, k1⟩ | ⟨hi, ei⟩
    · rw [getm i hi] at h5
      rcases get j cj h3 with ⟨hj, k3⟩ | ⟨hj, ej⟩
      · rw [getm j hj] at h6
        exact R.inj i j ci cj a k1 h2 k3 h4 h5 h6
      · rw [hj, getp] at h6
        exact absurd (Option.some.inj h6).symm (old i ci _ k1 h2 h5)
    · rw [hi, getp] at h5
      rcases get j cj h3 with ⟨hj, k3⟩ | ⟨hj, ej⟩
      · rw [getm j hj] at h6
        exact absurd (Option.some.inj h5).symm (old j cj _ k3 h4 h6)
      · rw [hi, hj]
  · by_cases e : a = p
    · subst e; rw [upd_same]; simp
    · rw [upd_ne e]; exact R.frz a h
/-- a cell is written -/
theorem put_cell (R : SR K g H S) {n : Nat} {c c' : Cell} {a : Addr} {o : HO} (h : S[n]? = some c) (hm : c.mut) (e : g.m[n]? = some a) (hm' : c'.mut) (hc : Fw g H g (upd H a o) → CRp K g (upd H a o) c' a) :
    Stp g H S g (upd H a o) (S.set n c') ∧ SR K g (upd H a o) (S.set n c') := by
  have hA : Al g S a := ⟨n, c, h, hm, e⟩
  have nf := R.notfz hA
  have f : Fw g H g (upd H a o) := by
    refine ⟨fun _ h => h, fun b u hb r => by rw [upd_ne (fun z => nf (by rw [← z]; exact hb))]; exact r, fun b u hb r => ?_, fun b vs r => by rw [upd_ne (fun z => R.al_tup r (by rw [z]; exact hA))]; exact r, rfl⟩
    · have ne : b ≠ a := fun z => nf (z ▸ hb)
      rcases r with r | ⟨q, r⟩
      · exact .inl (by rw [upd_ne ne]; exact r)
      · exact .inr ⟨q, by rw [upd_ne ne]; exact r⟩
  have hn : n < S.length := (List.getElem?_eq_some_iff.mp h).1
  have get : ∀ (i : Nat) (ci : Cell), (S.set n c')[i]? = some ci → (i ≠ n ∧ S[i]? = some ci) ∨ (i = n ∧ ci = c') := fun i ci q => by
    by_cases hi : i = n
    · subst hi; rw [List.getElem?_set_self hn] at q; exact .inr ⟨rfl, (Option.some.inj q).symm⟩
    · rw [List.getElem?_set_ne (Ne.symm hi)] at q; exact .inl ⟨hi, q⟩
  have ne : ∀ (i : Nat) (ci : Cell) (b : Addr), i ≠ n → S[i]? = some ci → ci.mut → g.m[i]? = some b → b ≠ a := fun i ci b hi h1 h2 h3 z => by
    subst z; exact hi (R.inj i n ci c b h1 h2 h hm h3 e)
  refine ⟨⟨fun _ h => h, ⟨[], by simp⟩, rfl, fun b u hb nA => ?_, fun _ h => .inl h, fun b hb => ?_⟩, by rw [List.length_set]; exact R.len, fun i ci q => ?_, fun i j ci cj b h1 h2 h3 h4 h5 h6 => ?_, fun b hb => ?_⟩
  · rw [upd_ne (fun z => nA (by rw [z]; exact hA))]; exact hb
  · obtain ⟨i, ci, h1, h2, h3⟩ := hb
    rcases get i ci h1 with ⟨_, h1⟩ | ⟨rfl, _⟩
    · exact .inl ⟨i, ci, h1, h2, h3⟩
    · rw [e] at h3; cases h3; exact .inl hA
  · rcases get i ci q with ⟨hi, h1⟩ | ⟨rfl, rfl⟩
    · obtain ⟨b, eb, qb, nb⟩ := R.cell i ci h1
      exact ⟨b, eb, qb.fw f fun hm2 => upd_ne (ne i ci b hi h1 hm2 eb), nb⟩
    · exact ⟨a, e, hc f, fun _ => nf⟩
  · rcases get i ci h1 with ⟨hi, k1⟩ | ⟨hi, ei⟩
    · rcases get j cj h3 with ⟨hj, k3⟩ | ⟨hj, ej⟩
      · exact R.inj i j ci cj b k1 h2 k3 h4 h5 h6
      · rw [hj, e] at h6
        exact absurd (Option.some.inj h6).symm (ne i ci _ hi k1 h2 h5)
    · rw [hi, e] at h5
      rcases get j cj h3 with ⟨hj, k3⟩ | ⟨hj, ej⟩
      · exact absurd (Option.some.inj h5).symm (ne j cj _ hj k3 h4 h6)
      · rw [hi, hj]
  · by_cases z : b = a
    · subst z; rw [upd_same]; simp
    · rw [upd_ne z]; exact R.frz b hb
/-- a list of the store is frozen -/
theorem frz_cell (R : SR K g H S) {n : Nat} {xs : List D} {a : Addr} (h : S[n]? = some (.lst xs)) (e : g.m[n]? = some a) :
    Stp g H S (g.add a) H (S.set n (.fzl xs)) ∧ SR K (g.add a) H (S.set n (.fzl xs)) ∧ Rp K (g.add a) H (.list xs) (.ref a) := by
  have hA : Al g S a := ⟨n, _, h, trivial, e⟩
  have f : Fw g H (g.add a) H := ⟨fun _ h => .inl h, fun b u h r => r, fun b u h r => r, fun _ _ h => h, rfl⟩
  have hn : n < S.length := (List.getElem?_eq_some_iff.mp h).1
  obtain ⟨a', e', ⟨vs, hH, r⟩, _⟩ := R.cell n _ h
  rw [e] at e'; cases e'
  have rp : Rp K (g.add a) H (.list xs) (.ref a) := .lst ⟨.inr rfl, hH⟩ (r.fw f)
  have get : ∀ (i : Nat) (ci : Cell), (S.set n (.fzl xs))[i]? = some ci → (i ≠ n ∧ S[i]? = some ci) ∨ (i = n ∧ ci = .fzl xs) := fun i ci q => by
    by_cases hi : i = n
    · subst hi; rw [List.getElem?_set_self hn] at q; exact .inr ⟨rfl, (Option.some.inj q).symm⟩
    · rw [List.getElem?_set_ne (Ne.symm hi)] at q; exact .inl ⟨hi, q⟩
  refine ⟨⟨fun _ h => .inl h, ⟨[], by simp [Gh.add]⟩, rfl, fun _ _ h _ => h, fun b hb => ?_, fun b hb => ?_⟩, ⟨by rw [List.length_set]; exact R.len, fun i ci q => ?_, fun i j ci cj b h1 h2 h3 h4 h5 h6 => ?_, fun b hb => ?_⟩, rp⟩
  · rcases hb with hb | hb
    · exact .inl hb
    · subst hb; exact .inr (.inr hA)
  · obtain ⟨i, ci, h1, h2, h3⟩ := hb
    rcases get i ci h1 with ⟨_, h1⟩ | ⟨rfl, rfl⟩
    · exact .inl ⟨i, ci, h1, h2, h3⟩
    · exact h2.elim
  · rcases get i ci q with ⟨hi, h1⟩ | ⟨rfl, rfl⟩
    · obtain ⟨b, eb, qb, nb⟩ := R.cell i ci h1
      refine ⟨b, eb, qb.fw f fun _ => rfl, fun hm z => ?_⟩
      rcases z with z | z
      · exact nb hm z
      · subst z; exact hi (R.inj i n ci _ b h1 hm h trivial eb e)
    · exact ⟨a, e, rp, fun hm => hm.elim⟩
  · rcases get i ci h1 with ⟨hi, h1⟩ | ⟨rfl, rfl⟩
    · rcases get j cj h3 with ⟨hj, h3⟩ | ⟨rfl, rfl⟩
      · exact R.inj i j ci cj b h1 h2 h3 h4 h5 h6
      · exact h4.elim
    · exact h2.elim
  · rcases hb with hb | hb
    · exact R.frz b hb
    · subst hb; rw [hH]; simp
end

/-! ### values -/
/-- the law's own list: frozen, or an object of the module -/
def LkR (K : PySem.W.Frag) (g : Gh) (H : Hp) (a : Addr) (vs : List V) : Prop := (g.fz a ∧ Rd H a (.lst vs)) ∨
    ∃ (o : Obj) (its : Array Value) (n : Nat), K.lookup a = some o ∧ o.cls = .type "list" ∧ o.dict = none ∧ o.data = .seq its n ∧ its.size ≤ sizeLine ∧ Vals vs its.toList
theorem LkR.fw {K : PySem.W.Frag} {g g' : Gh} {H H' : Hp} {a : Addr} {vs : List V} (h : LkR K g H a vs) (f : Fw g H g' H') : LkR K g' H' a vs := by
  rcases h with h | h
  · exact .inl ⟨f.fz a h.1, f.lk a vs h.1 h.2⟩
  · exact .inr h
theorem LkR.sq {K : PySem.W.Frag} {g : Gh} {H : Hp} {a : Addr} {vs : List V} (h : LkR K g H a vs) : SqL K H a vs := by
  rcases h with h | h
  · exact .inl h.2
  · exact .inr h
def RpV (I : Ins) (K : PySem.W.Frag) (g : Gh) (H : Hp) : Dv → V → Prop
  | .pd d, v => Rp K g H d v
  | .ref n, v => ∃ a, g.m[n]? = some a ∧ v = .ref a
  | .fn k, v => v = .ref (I.fa k)
  | .lck xs, v => ∃ a vs, v = .ref a ∧ LkR K g H a vs ∧ RpA K g H xs vs
def EnvR (I : Ins) (K : PySem.W.Frag) (g : Gh) (H : Hp) (env : Env) (σ : L2.St) : Prop :=
  env.length = σ.length ∧ ∀ (i : Nat) (d : Dv), env[i]? = some (some d) → ∃ v : V, σ[i]? = some (some v) ∧ RpV I K g H d v
def ExR (I : Ins) (K : PySem.W.Frag) (g : Gh) (H : Hp) (e : Ex) (cls : Value) (d : Option Addr) : Prop :=
  cls = .ref (I.ca e.cls) ∧ ((e.args = [] ∧ d = none) ∨ ∃ x dd v, e.args = [x] ∧ d = some dd ∧ H dd = some (.xd [(I.cf e.cls, v)]) ∧ Rp K g H x v)
section
variable {I : Ins} {K : PySem.W.Frag} {g g' g1 g2 : Gh} {H H' H1 H2 : Hp} {S S' S1 S2 : Sto}
theorem Stp.get (st : Stp g H S g' H' S') {n : Nat} {a : Addr} (h : g.m[n]? = some a) : g'.m[n]? = some a := by
  obtain ⟨l, e⟩ := st.m
  rw [e, List.getElem?_append_left (List.getElem?_eq_some_iff.mp h).1]
  exact h
theorem RpV.st (st : Stp g H S g' H' S') (R : SR K g H S) : ∀ {d : Dv} {v : V}, RpV I K g H d v → RpV I K g' H' d v
  | .pd _, _, h => Rp.fw (st.fw R) h
  | .ref _, _, ⟨a, h, e⟩ => ⟨a, st.get h, e⟩
  | .fn _, _, h => h
  | .lck _, _, ⟨a, vs, e, h1, h3⟩ => ⟨a, vs, e, h1.fw (st.fw R), h3.fw (st.fw R)⟩
theorem EnvR.st (st : Stp g H S g' H' S') (R : SR K g H S) {env : Env} {σ : L2.St} (h : EnvR I K g H env σ) : EnvR I K g' H' env σ :=
  ⟨h.1, fun i d e => let ⟨v, h1, h2⟩ := h.2 i d e; ⟨v, h1, h2.st st R⟩⟩
theorem EnvR.set {env : Env} {σ : L2.St} (h : EnvR I K g H env σ) (i : Nat) {d : Dv} {v : V} (r : RpV I K g H d v) : EnvR I K g H (env.set i (some d)) (σ.set i (some v)) := by
  refine ⟨by rw [List.length_set, List.length_set]; exact h.1, fun j d' e => ?_⟩
  by_cases hj : i = j
  · subst hj
    by_cases hi : i < env.length
    · rw [List.getElem?_set_self hi] at e
      cases e
      exact ⟨v, by rw [List.getElem?_set_self (by rw [← h.1]; exact hi)], r⟩
    · rw [List.getElem?_eq_none (by simpa using hi)] at e; cases e
  · rw [List.getElem?_set_ne hj] at e ⊢
    exact h.2 j d' e
theorem EnvR.wipe {env : Env} {σ : L2.St} (h : EnvR I K g H env σ) : ∀ vs : List Nat, EnvR I K g H (wipeE env vs) (wipe σ vs)
  | [] => h
  | v :: vs => by
    have ih := EnvR.wipe h vs
    unfold wipeE L2.wipe
    refine ⟨by rw [List.length_set, List.length_set]; exact ih.1, fun j d' e => ?_⟩
    by_cases hj : v = j
    · subst hj
      by_cases hi : v < (wipeE env vs).length
      · rw [List.getElem?_set_self hi] at e; cases e
      · rw [List.getElem?_eq_none (by simpa using hi)] at e; cases e
    · rw [List.getElem?_set_ne hj] at e ⊢
      exact ih.2 j d' e

/-! ### what is wanted of an answer -/
/-- W: what is wanted of an exception; Q of an answer b that R ties to a -/
def Post {α β : Type} (I : Ins) (K : PySem.W.Frag) (R : Gh → Hp → α → β → Prop) (W : WX) (σ : L2.St) (g : Gh) (H : Hp) (S : Sto) (r : Res α) (Q : β → Hp → Prop) : Prop := match r with
  | .ok a S' => ∀ g' H' b, Stp g H S g' H' S' → SR K g' H' S' → R g' H' a b → Q b H'
  | .exc e S' => ∀ g' H' cls d, Stp g H S g' H' S' → SR K g' H' S' → ExR I K g' H' e cls d → W cls d σ H'
  | .stuck => False
variable {α β γ δ : Type} {R1 : Gh → Hp → α → β → Prop} {R2 : Gh → Hp → γ → δ → Prop} {W : WX} {σ : L2.St}
theorem Post.from {r : Res α} {Q : β → Hp → Prop} (h : Post I K R1 W σ g H S r Q) (st : Stp g H S g1 H1 S1) : Post I K R1 W σ g1 H1 S1 r Q := by
  cases r with
  | ok a S' => exact fun g' H' b st' R' q => h g' H' b (st.trans st') R' q
  | exc e S' => exact fun g' H' cls d st' R' q => h g' H' cls d (st.trans st') R' q
  | stuck => exact h
theorem Post.bind {r : Res α} {f : α → M γ} {Q : δ → Hp → Prop} {Q1 : β → Hp → Prop} (h : Post I K R2 W σ g H S (r.bind f) Q)
    (hq : ∀ a S1 g1 H1 b, Stp g H S g1 H1 S1 → SR K g1 H1 S1 → R1 g1 H1 a b → Post I K R2 W σ g1 H1 S1 (f a S1) Q → Q1 b H1) : Post I K R1 W σ g H S r Q1 := by
  cases r with
  | ok a S' =>
    intro g' H' b st R' q
    exact hq a S' g' H' b st R' q (Post.from (r := f a S') h st)
  | exc e S' => exact h
  | stuck => exact h
theorem Post.mono {r : Res α} {Q Q1 : β → Hp → Prop} (h : Post I K R1 W σ g H S r Q) (hq : ∀ b H', Q b H' → Q1 b H') : Post I K R1 W σ g H S r Q1 := by
  cases r with
  | ok a S' => exact fun g' H' b st R' q => hq b H' (h g' H' b st R' q)
  | exc e S' => exact h
  | stuck => exact h
theorem Post.here {a : α} {Q : β → Hp → Prop} {b : β} (h : Post I K R1 W σ g H S (.ok a S) Q) (R : SR K g H S) (r : R1 g H a b) : Q b H := h g H b Stp.refl R r
end
end Rx


set_option linter.all false
set_option maxRecDepth 100000
set_option maxHeartbeats 1000000
/-! Rx, part C: the operations on values. -/
namespace Rx
open PySem PySem.Spec PyProof.Rows L2

/-- a value read -/
def VRp (K : PySem.W.Frag) (g : Gh) (H : Hp) : D → V → Prop
  | .list ds, x => ∃ a vs, x = .ref a ∧ H a = some (.lst vs) ∧ RpA K g H ds vs
  | d, x => Rp K g H d x
section
variable {I : Ins} {K : PySem.W.Frag} {g g' : Gh} {H H' : Hp} {S S' : Sto}
theorem Rp.vrp {d : D} {x : V} (h : Rp K g H d x) : VRp K g H d x := by
  cases h with
  | lst h r => exact ⟨_, _, rfl, h.2, r⟩
  | tup h r => exact Rp.tup h r
  | non => exact Rp.non
  | bl b => exact Rp.bl b
  | int i => exact Rp.int i
  | str z => exact Rp.str z
theorem VRp.dp {d : D} {x : V} (h : VRp K g H d x) : Dp K H x d := by
  cases d with
  | list ds =>
    obtain ⟨a, vs, rfl, h1, h2⟩ := h
    exact .lst (.inl (.inl h1)) h2.dp
  | none => exact Rp.dp (g := g) (d := .none) h
  | bool b => exact Rp.dp (g := g) (d := .bool b) h
  | int i => exact Rp.dp (g := g) (d := .int i) h
  | str z => exact Rp.dp (g := g) (d := .str z) h
  | tuple ds => exact Rp.dp (g := g) (d := .tuple ds) h
  | dict kvs => exact Rp.dp (g := g) (d := .dict kvs) h
theorem VRp.lst {ds : List D} {x : V} (h : VRp K g H (.list ds) x) : ∃ a vs, x = .ref a ∧ H a = some (.lst vs) ∧ RpA K g H ds vs := h
theorem Rp.int_inv {i : Int} {x : V} (h : Rp K g H (.int i) x) : x = .int i := by cases h; rfl
theorem Rp.bl_inv {i : Bool} {x : V} (h : Rp K g H (.bool i) x) : x = .bl i := by cases h; rfl
theorem Rp.non_inv {x : V} (h : Rp K g H .none x) : x = .non := by cases h; rfl
theorem Rp.str_inv {i : Str} {x : V} (h : Rp K g H (.str i) x) : x = .str i := by cases h; rfl
theorem Rp.dict_inv {kvs : List (D × D)} {x : V} (h : Rp K g H (.dict kvs) x) : False := by cases h
theorem SR.lst (R : SR K g H S) {n : Nat} {xs : List D} {a : Addr} (h : S[n]? = some (.lst xs)) (e : g.m[n]? = some a) : ∃ vs, H a = some (.lst vs) ∧ RpA K g H xs vs := by
  obtain ⟨a', e', q, _⟩ := R.cell n _ h
  rw [e] at e'; cases e'
  exact q
theorem SR.fzl (R : SR K g H S) {n : Nat} {xs : List D} {a : Addr} (h : S[n]? = some (.fzl xs)) (e : g.m[n]? = some a) : Rp K g H (.list xs) (.ref a) := by
  obtain ⟨a', e', q, _⟩ := R.cell n _ h
  rw [e] at e'; cases e'
  exact q
theorem SR.dK (R : SR K g H S) {n : Nat} {kvs : List (Key × D)} {a : Addr} (h : S[n]? = some (.dK kvs)) (e : g.m[n]? = some a) :
    ∃ ks, H a = some (.dK ks) ∧ Paired (fun (p : Key × D) (q : Key × V) => p.1 = q.1 ∧ Rp K g H p.2 q.2) kvs ks := by
  obtain ⟨a', e', q, _⟩ := R.cell n _ h
  rw [e] at e'; cases e'
  exact q
theorem SR.dT (R : SR K g H S) {n : Nat} {kvs : List (List Key × D)} {a : Addr} (h : S[n]? = some (.dT kvs)) (e : g.m[n]? = some a) :
    ∃ ks, H a = some (.dT ks) ∧ Paired (fun (p : List Key × D) (q : List Key × V) => p.1 = q.1 ∧ Rp K g H p.2 q.2) kvs ks := by
  obtain ⟨a', e', q, _⟩ := R.cell n _ h
  rw [e] at e'; cases e'
  exact q
theorem view_rp (R : SR K g H S) {v : Dv} {x : V} {d : D} (h : RpV I K g H v x) (e : view v S = some d) : VRp K g H d x := by
  cases v with
  | pd y => cases e; exact Rp.vrp h
  | fn k => cases e
  | lck xs => cases e
  | ref n =>
    obtain ⟨a, ha, rfl⟩ := h
    unfold view at e
    cases hc : S[n]? with
    | none => simp only [hc] at e; cases e
    | some c =>
      simp only [hc] at e
      cases c with
      | lst xs =>
        cases e
        obtain ⟨vs, h1, h2⟩ := R.lst hc ha
        exact ⟨a, vs, rfl, h1, h2⟩
      | fzl xs => cases e; exact Rp.vrp (R.fzl hc ha)
      | dK _ => cases e
      | dT _ => cases e
      | dead => cases e
end

/-- an operation's reading by what it means -/
def r2 (K : PySem.W.Frag) (op : Dv → Dv → M Dv) : R2 := fun x y H Q =>
  ∃ (I : Ins) (W : WX) (σ : L2.St) (g : Gh) (S : Sto) (dx dy : Dv), SR K g H S ∧ RpV I K g H dx x ∧ RpV I K g H dy y ∧ Post I K (RpV I K) W σ g H S (op dx dy S) Q
/-- the same for an answer that is a bool -/
def r2b (K : PySem.W.Frag) (op : Dv → Dv → M Bool) : R2 := fun x y H Q =>
  ∃ (I : Ins) (W : WX) (σ : L2.St) (g : Gh) (S : Sto) (dx dy : Dv), SR K g H S ∧ RpV I K g H dx x ∧ RpV I K g H dy y ∧ Post I K (fun _ _ b c => c = V.bl b) W σ g H S (op dx dy S) Q
theorem small_units {u c : Nat} (h : u + 64 < c) : u + 1 < c := by omega

section
variable {X : Cx}
/-- a text, so many times -/
theorem op_repS : OpR X (binaryOp .Mult) (fun x y H Q => ∃ z k, x = .str z ∧ y = .int k ∧ 0 ≤ k ∧ k < 18446744073709551616 / 2 ∧ z.length * k.toNat ≤ 16777216 ∧ Q (.str ⟨(List.replicate k.toNat z.cps.toList).flatten.toArray⟩) H) := by
  intro pins s σ H x y v u Q I rx ry h
  obtain ⟨z, k, rfl, rfl, h1, h2, hz, q⟩ := h
  obtain ⟨t, rfl⟩ := rx
  obtain ⟨t', rfl⟩ := ry
  have fl : ∀ m : Nat, (List.replicate m z.cps).foldl (· ++ ·) #[] = ((List.replicate m z.cps.toList).flatten).toArray := fun m => by
    have g : ∀ (m : Nat) (acc : Array Nat), (List.replicate m z.cps).foldl (· ++ ·) acc = acc ++ ((List.replicate m z.cps.toList).flatten).toArray := by
      intro m
      induction m with
      | zero => intro acc; simp
      | succ m ih =>
        intro acc
        rw [List.replicate_succ, List.foldl_cons, ih, List.replicate_succ, List.flatten_cons, Array.append_assoc]
        congr 1
        simp
    rw [g, Array.empty_append]
  refine PySem.P.mul_str ?_ (fun a1 a2 => ?_) (fun a1 a2 => ?_) ?_
  · rw [Bool.or_eq_false_iff]
    exact ⟨decide_eq_false (by omega), decide_eq_false (by omega)⟩
  · have hk : 1 ≤ k := by omega
    have e : ((z.length * k.toNat : Nat) : Int) = (z.length : Int) * k := by
      rw [Int.natCast_mul, Int.toNat_of_nonneg h1]
    have hz' : (z.length : Int) * k ≤ 16777216 := by
      rw [← e]
      exact Int.ofNat_le.mpr hz
    have : (z.length : Int) ≤ (2 ^ 63 - 1) / k := (Int.le_ediv_iff_mul_le (by omega)).mpr (by omega)
    omega
  · show decide (z.length * k.toNat > sizeLine) = false
    exact decide_eq_false (by rw [sizeLine_eq]; omega)
  · have fin : ∀ w : Str, w = (⟨(List.replicate k.toNat z.cps.toList).flatten.toArray⟩ : Str) → EP X pins σ Q (.str w s.toks) { s with toks := s.toks + 1 } := fun w e => ⟨.str w, H, I.tok _, ⟨_, rfl⟩, by rw [e]; exact q⟩
    have len : (⟨(List.replicate k.toNat z.cps.toList).flatten.toArray⟩ : Str).length ≤ sizeLine := by
      show (List.replicate k.toNat z.cps.toList).flatten.toArray.size ≤ sizeLine
      rw [List.size_toArray, PyProof.Rows.lm_len_rep_flat, sizeLine_eq, Nat.mul_comm]
      exact hz
    split
    · rename_i hk
      have hk0 : k = 0 := by omega
      refine ⟨by rw [sizeLine_eq]; exact Nat.zero_le _, fin _ ?_⟩
      subst hk0
      rfl
    · rename_i hk
      split
      · rename_i ho
        rw [Bool.or_eq_true] at ho
        refine ⟨.str z, H, I, ⟨t, rfl⟩, ?_⟩
        have ez : (⟨(List.replicate k.toNat z.cps.toList).flatten.toArray⟩ : Str) = z := by
          rcases ho with ho | ho
          · have hk1 : k = 1 := by simpa using ho
            subst hk1
            simp
          · have h0 : z.length = 0 := by simpa using ho
            have h1 : z.cps = #[] := Array.eq_empty_of_size_eq_zero h0
            obtain ⟨c⟩ := z
            simp only at h1
            subst h1
            simp
        rw [ez] at q
        exact q
      · have e : (⟨(List.replicate k.toNat z.cps).foldl (· ++ ·) #[]⟩ : Str) = ⟨(List.replicate k.toNat z.cps.toList).flatten.toArray⟩ := congrArg Str.mk (fl _)
        refine ⟨?_, fin _ e⟩
        rw [e]
        exact len
end
end Rx


set_option linter.all false
set_option maxRecDepth 100000
/-! Rx, part X1: a list extended by a tuple; a tuple times a number. -/
namespace Rx
open PySem PySem.AutoSeq1
/-- the builtin, for any tuple's object -/
theorem ext_tup (l b : Addr) (xs ys : Array Value) (n m : Nat) (od : Option Addr) (os : Array (Option Value)) (h0 : ¬(!xs.isEmpty && Builtin.List.listTooLong (xs.size + ys.size)) = true) (h1 : xs.size ≤ sizeLine) (h2 : xs.size + ys.size ≤ sizeLine + 1) :
    Meets (Builtin.«list.extend» ⟨[.ref l, .ref b], []⟩) fun _ R s => s.heap.get? l = some ⟨.type "list", none, .seq xs n, #[]⟩ ∧ s.heap.get? b = some ⟨.type "tuple", od, .seq ys m, os⟩ ∧
      R (.ok (.ret .none)) { s with heap := s.heap.update l (Obj.mapSeq fun x => x ++ ys), toks := s.toks } :=
  .of_wp fun _ _ _ _ s h => by
    obtain ⟨hp, ge, dr, tk, st⟩ := s
    obtain ⟨k1, k2, h⟩ := h
    have g1 := idx_int; have g2 := sub_tuple_tuple; have g3 := sub_list_list
    have g4 := sub_tuple_list; have g5 := sub_list_tuple
    have big : (xs ++ ys).size ≤ sizeLine + 1 := by rw [Array.size_append]; exact h2
    wp_walk using (wpAny_updateSeq k1 rfl (hz := h1) (_hz' := big)), wpAny_loadPart' k1, wpAny_loadPart' k2
    exact ⟨_, rfl, h⟩
end Rx
namespace Rx
open PySem PySem.Spec PyProof.Rows L2 SeqAt
variable {X : Cx}
def rExtT (K : PySem.W.Frag) : V → List V → Hp → VK → Prop := fun x vs H Q => ∃ l b xs zs, x = .ref l ∧ vs = [.ref b] ∧ H l = some (.lst xs) ∧ SqT K H b zs ∧ xs.length + zs.length ≤ sizeLine ∧ Q .non (upd H l (.lst (xs ++ zs)))
/-- xs.extend(t), t a tuple -/
theorem mt_extendT : MtM X "list.extend" (rExtT X.K) := by
  rintro pins s σ H x vs v us Q I rx rv ⟨l, b, xs, zs, rfl, rfl, hL, hT, hz, q⟩
  cases rx
  obtain ⟨u, rfl, ru⟩ := rv.one
  cases ru
  obtain ⟨z, its, n, r, hl, e⟩ := I.lstM hL
  obtain ⟨its2, r2, ⟨⟨oc, od, odt, osl⟩, e2, hc, n2, hd⟩, z2⟩ := I.tuple hT
  cases (hc : oc = _); cases (hd : odt = _)
  have q2 := r2.length
  have q3 : its.toArray.size = its.length := List.size_toArray ..
  have q4 : its2.toArray.size = its2.length := List.size_toArray ..
  have fits : ¬ (!its.toArray.isEmpty && Builtin.List.listTooLong (its.toArray.size + its2.toArray.size)) = true := fun c => by
    rw [notLongL (by omega), Bool.and_false] at c
    cases c
  refine call_meets F.slot_list_extend ⟨_, e, rfl⟩ F.entry_list_extend (F.args_list_extend_2 _ _) (ext_tup l b its.toArray its2.toArray n n2 od osl fits (by omega) (by omega)) ⟨e, e2, .non, _, ?_, rfl, q⟩
  exact I.lset (its' := its ++ its2) hL e (by simp) (r.append r2) (by rw [List.length_append]; omega)
def rRepB (K : PySem.W.Frag) : R2 := fun x y H Q => ∃ l k xs, x = .ref l ∧ y = .int k ∧ SqT K H l xs ∧ xs ≠ [] ∧ 2 ≤ k ∧ k ≤ 1000000 ∧ xs.length * k.toNat ≤ 1000000 ∧ ∀ p, H p = none → Q (.ref p) (upd H p (.tup (List.replicate k.toNat xs).flatten))
/-- t * k -/
theorem op_repB : OpR X (binaryOp .Mult) (rRepB X.K) := by
  rintro pins s σ H x y v u Q I rx ry ⟨l, k, xs, rfl, rfl, hT, hne, hk, hk2, hz, q⟩
  cases rx
  obtain ⟨t, rfl⟩ := ry
  obtain ⟨its, r, ⟨⟨oc, od, odt, osl⟩, e, hc, n, hd⟩, hs⟩ := I.tuple hT
  cases (hc : oc = _); cases (hd : odt = _)
  have q1 := r.length
  have q2 : its.toArray.size = its.length := List.size_toArray ..
  have ne : its.toArray.isEmpty = false := by
    cases its with
    | nil => exact absurd (List.eq_nil_of_length_eq_zero q1) hne
    | cons _ _ => rfl
  have pr : ((its.toArray.size : Nat) : Int) * k = ((xs.length * k.toNat : Nat) : Int) := by
    rw [q2, ← q1, Int.natCast_mul]
    congr 1
    omega
  have fl : (List.replicate k.toNat its).flatten.length ≤ sizeLine := by
    rw [PyProof.Rows.lm_len_rep_flat, ← q1, sizeLine_eq, Nat.mul_comm]; omega
  have tm : Builtin.Tuple.tupleTooMany (((its.toArray.size : Nat) : Int) * k) = false := by
    unfold Builtin.Tuple.tupleTooMany
    rw [sizeLine_eq, pr]
    exact decide_eq_false (by omega)
  have w1 : (decide (k < -(2 ^ 63)) || decide (k ≥ 2 ^ 63)) = false := by
    rw [Bool.or_eq_false_iff]; exact ⟨decide_eq_false (by omega), decide_eq_false (by omega)⟩
  have w2 : (its.toArray.isEmpty || k == 1) = false := by
    rw [ne, Bool.false_or]; exact beq_eq_false_iff_ne.mpr (by omega)
  have w3 : (decide (k ≤ 0) || its.toArray.isEmpty) = false := by
    rw [ne, Bool.or_false]; exact decide_eq_false (by omega)
  have mul := tuple_mulW l its.toArray n od osl k t w1 w2 w3 (by rw [pr]; omega) tm (by rw [size_rep, List.size_toArray]; exact fl)
  refine wpAny_binaryOp_repeat_ref (T := "tuple") (U := "int") (by decide) ⟨_, e, rfl⟩ (fun s' => typeIs_int s' k t) noFill_tuple_mul F.fills_int_mul F.slot_int_rmul repeat_tuple F.slot_int_index.lookup ?_
  refine call_meets F.slot_int_rmul (typeIs_int s k t) F.entry_int_rmul (F.args_int_rmul_2 _ _) (int_rmul_tuple k t l its.toArray n od osl) ⟨e, rfl, ⟨_, e, rfl⟩, ?_⟩
  refine call_meets F.slot_tuple_mul ⟨_, e, rfl⟩ F.entry_tuple_mul (F.args_tuple_mul_2 _ _) mul ⟨e, ?_⟩
  rw [size_rep]
  refine ⟨.ref s.heap.objs.size, _, I.laid (t' := s.toks) (o := .tup (List.replicate k.toNat xs).flatten) (fun _ _ z => Heap.get?_push_of_some _ z) (Nat.le_refl _) ⟨?_, _, r.rep k.toNat, IsTup.new _ _⟩, rfl, q _ (I.hok.fresh (Nat.le_refl _))⟩
  rw [PyProof.Rows.lm_len_rep_flat, sizeLine_eq, Nat.mul_comm]; omega
end Rx


set_option linter.all false
set_option maxRecDepth 100000
set_option maxHeartbeats 1000000
/-! Rx, part C2: operators. -/
namespace Rx
open PySem PySem.Spec PyProof.Rows L2
theorem line_eq : line = sizeLine := by rw [sizeLine_eq]; rfl
section
variable {I : Ins} {K : PySem.W.Frag} {g g' : Gh} {H H' : Hp} {S S' : Sto} {W : WX} {σ : L2.St} {Q : VK}
theorem fin_d {d : D} {v : V} (R : SR K g H S) (h : Post I K (RpV I K) W σ g H S (.ok (.pd d) S) Q) (r : Rp K g H d v) : Q v H := h.here R r
theorem fin_l {ds : List D} {vs : List V} (R : SR K g H S) (h : Post I K (RpV I K) W σ g H S (.ok (.pd (.list ds)) S) Q) (r : RpA K g H ds vs) : ∀ p, H p = none → Q (.ref p) (upd H p (.lst vs)) := fun p n => by
  obtain ⟨st, R', r'⟩ := new_lst R n r
  exact h _ _ _ st R' r'
theorem fin_t {ds : List D} {vs : List V} (R : SR K g H S) (h : Post I K (RpV I K) W σ g H S (.ok (.pd (.tuple ds)) S) Q) (r : RpA K g H ds vs) : ∀ p, H p = none → Q (.ref p) (upd H p (.tup vs)) := fun p n => by
  obtain ⟨st, R', r'⟩ := new_tup R n r
  exact h _ _ _ st R' r'
end
section
variable {X : Cx}
theorem bin_ok (o : BOp) : OpR X (binaryOp (match o with | .add => .Add | .sub => .Sub | .mul => .Mult | .fdiv => .FloorDiv | .mod => .Mod | .pow => .Pow)) (r2 X.K (binV o)) := by
  intro pins s σ H x y v u Q Iv rx ry h
  obtain ⟨I, W, σ', g, S, dx, dy, R, r1, r2, h⟩ := h
  unfold binV at h
  cases ha : view dx S with
  | none => simp only [ha] at h; exact h.elim
  | some a =>
  cases hb : view dy S with
  | none => simp only [ha, hb] at h; exact h.elim
  | some b =>
  simp only [ha, hb] at h
  have va := view_rp R r1 ha
  have vb := view_rp R r2 hb
  unfold binD at h
  split at h
  · -- ints added
    obtain rfl := Rp.int_inv va
    obtain rfl := Rp.int_inv vb
    exact op_add pins s σ H _ _ v u Q Iv rx ry ⟨_, _, rfl, rfl, fin_d R h (.int _)⟩
  · split at h
    · rename_i hl
      obtain rfl := Rp.str_inv va
      obtain rfl := Rp.str_inv vb
      exact op_add_str pins s σ H _ _ v u Q Iv rx ry ⟨_, _, rfl, rfl, by rw [← line_eq]; exact hl, fin_d R h (.str _)⟩
    · exact h.elim
  · split at h
    · rename_i hl
      obtain ⟨a1, vs, rfl, h1, h2⟩ := va.lst
      obtain ⟨a2, ws, rfl, h3, h4⟩ := vb.lst
      exact op_cat pins s σ H _ _ v u Q Iv rx ry ⟨_, _, _, _, rfl, rfl, h1, h3, by rw [← line_eq, ← h2.length, ← h4.length]; exact hl, fin_l R h (h2.append h4)⟩
    · exact h.elim
  · split at h
    · rename_i xs ys hl
      have va : Rp X.K g H (.tuple xs) x := va
      have vb : Rp X.K g H (.tuple ys) y := vb
      obtain ⟨a1, vs, rfl, h1, h2⟩ := Rp.tup_inv va
      obtain ⟨a2, ws, rfl, h3, h4⟩ := Rp.tup_inv vb
      refine op_catA pins s σ H _ _ v u Q Iv rx ry ⟨_, _, _, _, rfl, rfl, h1, h3, by rw [← line_eq, ← h2.length, ← h4.length]; exact hl, fun e => ?_, fun e e' => ?_, fun e e' => fin_t R h (h2.append h4)⟩
      · subst e
        cases h2
        exact fin_d R h vb
      · subst e'
        cases h4
        rw [List.append_nil] at h
        exact fin_d R h va
    · exact h.elim
  · obtain rfl := Rp.int_inv va
    obtain rfl := Rp.int_inv vb
    exact op_sub pins s σ H _ _ v u Q Iv rx ry ⟨_, _, rfl, rfl, fin_d R h (.int _)⟩
  · split at h
    · rename_i hl
      obtain rfl := Rp.int_inv va
      obtain rfl := Rp.int_inv vb
      exact op_mul pins s σ H _ _ v u Q Iv rx ry ⟨_, _, rfl, rfl, by unfold big at hl; unfold L2.CMul; omega, fin_d R h (.int _)⟩
    · exact h.elim
  · split at h
    · rename_i hl
      obtain ⟨a1, vs, rfl, h1, h2⟩ := va.lst
      obtain rfl := Rp.int_inv vb
      obtain ⟨k1, k2, k3⟩ := hl
      refine op_rep pins s σ H _ _ v u Q Iv rx ry ⟨_, _, _, rfl, rfl, h1, by omega, by unfold half at k2; omega, by rw [← line_eq, ← h2.length]; exact k3, fin_l R h (h2.rep _)⟩
    · exact h.elim
  · split at h
    · rename_i hl
      obtain rfl := Rp.str_inv va
      obtain rfl := Rp.int_inv vb
      obtain ⟨k1, k2, k3⟩ := hl
      exact op_repS pins s σ H _ _ v u Q Iv rx ry ⟨_, _, rfl, rfl, k1, by unfold half at k2; omega, k3, fin_d R h (.str _)⟩
    · exact h.elim
  · split at h
    · rename_i xs b hl
      obtain ⟨k1, k2, k3, k4⟩ := hl
      obtain ⟨a1, vs, rfl, h1, h2⟩ := Rp.tup_inv (show Rp X.K g H (.tuple xs) x from va)
      obtain rfl := Rp.int_inv vb
      refine op_repB pins s σ H _ _ v u Q Iv rx ry ⟨_, _, _, rfl, rfl, h1, ?_, k2, by omega, by rw [← h2.length]; exact k4, fin_t R h (h2.rep _)⟩
      rintro rfl
      cases h2
      cases k1
    · exact h.elim
  · split at h
    · rename_i hl
      obtain rfl := Rp.int_inv va
      obtain rfl := Rp.int_inv vb
      exact op_fdiv pins s σ H _ _ v u Q Iv rx ry ⟨_, _, rfl, rfl, by unfold L2.CDiv; omega, fin_d R h (.int _)⟩
    · exact h.elim
  · split at h
    · rename_i hl
      obtain rfl := Rp.int_inv va
      obtain rfl := Rp.int_inv vb
      exact op_mod pins s σ H _ _ v u Q Iv rx ry ⟨_, _, rfl, rfl, hl, fin_d R h (.int _)⟩
    · exact h.elim
  · split at h
    · rename_i hl
      obtain rfl := Rp.int_inv va
      obtain rfl := Rp.int_inv vb
      exact op_pow pins s σ H _ _ v u Q Iv rx ry ⟨_, _, rfl, rfl, hl, fin_d R h (.int _)⟩
    · exact h.elim
  · exact h.elim
end
end Rx


set_option linter.all false
set_option maxRecDepth 100000
set_option maxHeartbeats 4000000
/-! Rx, part C3: order. -/
namespace Rx
open PySem PySem.Spec PyProof.Rows L2 SeqAt
/-- pairs walked from the left: equal ones are passed, the first other one tells; z where none is left -/
inductive Lex (op : CmpOp) (A : Around) (s : Shared) (z : Bool) : List (Value × Value) → Bool → Prop
  | nil : Lex op A s z [] z
  | eq {y x : Value} {r : List (Value × Value)} {b : Bool} : EqAt A s y x true → Lex op A s z r b → Lex op A s z ((y, x) :: r) b
  | ne {y x : Value} {r : List (Value × Value)} {b : Bool} : EqAt A s y x false → Ob.RcOp op A s y x b → Lex op A s z ((y, x) :: r) b


theorem tup_lt_run (l b : Addr) (us ws : Array Value) (n n2 : Nat) (dd dd2 : Option Addr) (sl sl2 : Array (Option Value)) (k : Bool) :
    Meets (Builtin.«tuple.__lt__» ⟨[.ref l, .ref b], []⟩)
      (fun A R s => (s.heap.get? l = some { cls := .type "tuple", dict := dd, data := .seq us n, slots := sl } ∧
        s.heap.get? b = some { cls := .type "tuple", dict := dd2, data := .seq ws n2, slots := sl2 }) ∧
        Lex .Lt A.in1 s (decide (us.size < ws.size)) (us.toList.zip ws.toList) k ∧ R (.ok (.ret (.bool k))) s) :=
  .of_wp fun prog w A R s h => by
    obtain ⟨hp, g, d, tk, os⟩ := s
    obtain ⟨⟨e1, e2⟩, lx, h⟩ := h
    have sub := AutoSeq1.sub_tuple_tuple
    wp_walk using AutoSeq1.wpAny_loadPart' e1, AutoSeq1.wpAny_loadPart' e2, wpAny_forIn_list _ (fun rest c s' => c.1 = none ∧ s' = ⟨hp, g, d, tk, os⟩ ∧
      Lex .Lt A.in1 ⟨hp, g, d, tk, os⟩ (decide (us.size < ws.size)) rest k) _
    case turn =>
      rintro ⟨y, x⟩ rest c s' ⟨hc, rfl, lx⟩
      cases lx with
      | eq he lx =>
        refine wpAny_bind (he prog w _ _ ?_)
        wp_walk
        exact ⟨rfl, rfl, lx⟩
      | ne he hr =>
        refine wpAny_bind (he prog w _ _ ?_)
        have hri := hr prog w
        wp_walk using hri
        exact ⟨_, rfl, by simpa using h⟩
    case fin =>
      rintro ⟨c1, c2⟩ s' ⟨hc, rfl, lx⟩
      simp only at hc
      subst hc
      cases lx
      wp_walk
      exact ⟨_, rfl, by simpa [Builtin.Tuple.tupleCompareSizes] using h⟩
    case h => exact ⟨rfl, rfl, lx⟩
theorem rc_tup_lt {A : Around} {s : Shared} {l b : Addr} {us ws : Array Value} {k : Bool} (hl : s.heap.IsTuple l us) (hb : s.heap.IsTuple b ws) (hu : A.units < cLine)
    (lx : Lex .Lt A.in1 s (decide (us.size < ws.size)) (us.toList.zip ws.toList) k) : Ob.RcOp .Lt A s (.ref l) (.ref b) k := fun prog w E Q h => by
  obtain ⟨⟨c1, d1, t1, s1⟩, o1, e1, n1, q1⟩ := id hl
  obtain ⟨⟨c2, d2, t2, s2⟩, o2, e2, n2, q2⟩ := id hb
  simp only at e1 q1 e2 q2
  subst e1 q1 e2 q2
  exact richCompare_meets_room (op := .Lt) ⟨_, o1, rfl⟩ ⟨_, o2, rfl⟩ F.slot_tuple_lt F.entry_tuple_lt (F.args_tuple_lt_2 _ _) (tup_lt_run l b us ws n1 n2 d1 d2 s1 s2 k)
    ⟨⟨o1, o2⟩, lx, (fun x => nomatch x), h⟩ hu

theorem tup_le_run (l b : Addr) (us ws : Array Value) (n n2 : Nat) (dd dd2 : Option Addr) (sl sl2 : Array (Option Value)) (k : Bool) :
    Meets (Builtin.«tuple.__le__» ⟨[.ref l, .ref b], []⟩)
      (fun A R s => (s.heap.get? l = some { cls := .type "tuple", dict := dd, data := .seq us n, slots := sl } ∧
        s.heap.get? b = some { cls := .type "tuple", dict := dd2, data := .seq ws n2, slots := sl2 }) ∧
        Lex .LtE A.in1 s (decide (us.size ≤ ws.size)) (us.toList.zip ws.toList) k ∧ R (.ok (.ret (.bool k))) s) :=
  .of_wp fun prog w A R s h => by
    obtain ⟨hp, g, d, tk, os⟩ := s
    obtain ⟨⟨e1, e2⟩, lx, h⟩ := h
    have sub := AutoSeq1.sub_tuple_tuple
    wp_walk using AutoSeq1.wpAny_loadPart' e1, AutoSeq1.wpAny_loadPart' e2, wpAny_forIn_list _ (fun rest c s' => c.1 = none ∧ s' = ⟨hp, g, d, tk, os⟩ ∧
      Lex .LtE A.in1 ⟨hp, g, d, tk, os⟩ (decide (us.size ≤ ws.size)) rest k) _
    case turn =>
      rintro ⟨y, x⟩ rest c s' ⟨hc, rfl, lx⟩
      cases lx with
      | eq he lx =>
        refine wpAny_bind (he prog w _ _ ?_)
        wp_walk
        exact ⟨rfl, rfl, lx⟩
      | ne he hr =>
        refine wpAny_bind (he prog w _ _ ?_)
        have hri := hr prog w
        wp_walk using hri
        exact ⟨_, rfl, by simpa using h⟩
    case fin =>
      rintro ⟨c1, c2⟩ s' ⟨hc, rfl, lx⟩
      simp only at hc
      subst hc
      cases lx
      wp_walk
      exact ⟨_, rfl, by simpa [Builtin.Tuple.tupleCompareSizes] using h⟩
    case h => exact ⟨rfl, rfl, lx⟩
theorem rc_tup_le {A : Around} {s : Shared} {l b : Addr} {us ws : Array Value} {k : Bool} (hl : s.heap.IsTuple l us) (hb : s.heap.IsTuple b ws) (hu : A.units < cLine)
    (lx : Lex .LtE A.in1 s (decide (us.size ≤ ws.size)) (us.toList.zip ws.toList) k) : Ob.RcOp .LtE A s (.ref l) (.ref b) k := fun prog w E Q h => by
  obtain ⟨⟨c1, d1, t1, s1⟩, o1, e1, n1, q1⟩ := id hl
  obtain ⟨⟨c2, d2, t2, s2⟩, o2, e2, n2, q2⟩ := id hb
  simp only at e1 q1 e2 q2
  subst e1 q1 e2 q2
  exact richCompare_meets_room (op := .LtE) ⟨_, o1, rfl⟩ ⟨_, o2, rfl⟩ F.slot_tuple_le F.entry_tuple_le (F.args_tuple_le_2 _ _) (tup_le_run l b us ws n1 n2 d1 d2 s1 s2 k)
    ⟨⟨o1, o2⟩, lx, (fun x => nomatch x), h⟩ hu

theorem tup_gt_run (l b : Addr) (us ws : Array Value) (n n2 : Nat) (dd dd2 : Option Addr) (sl sl2 : Array (Option Value)) (k : Bool) :
    Meets (Builtin.«tuple.__gt__» ⟨[.ref l, .ref b], []⟩)
      (fun A R s => (s.heap.get? l = some { cls := .type "tuple", dict := dd, data := .seq us n, slots := sl } ∧
        s.heap.get? b = some { cls := .type "tuple", dict := dd2, data := .seq ws n2, slots := sl2 }) ∧
        Lex .Gt A.in1 s (decide (us.size > ws.size)) (us.toList.zip ws.toList) k ∧ R (.ok (.ret (.bool k))) s) :=
  .of_wp fun prog w A R s h => by
    obtain ⟨hp, g, d, tk, os⟩ := s
    obtain ⟨⟨e1, e2⟩, lx, h⟩ := h
    have sub := AutoSeq1.sub_tuple_tuple
    wp_walk using AutoSeq1.wpAny_loadPart' e1, AutoSeq1.wpAny_loadPart' e2, wpAny_forIn_list _ (fun rest c s' => c.1 = none ∧ s' = ⟨hp, g, d, tk, os⟩ ∧
      Lex .Gt A.in1 ⟨hp, g, d, tk, os⟩ (decide (us.size > ws.size)) rest k) _
    case turn =>
      rintro ⟨y, x⟩ rest c s' ⟨hc, rfl, lx⟩
      cases lx with
      | eq he lx =>
        refine wpAny_bind (he prog w _ _ ?_)
        wp_walk
        exact ⟨rfl, rfl, lx⟩
      | ne he hr =>
        refine wpAny_bind (he prog w _ _ ?_)
        have hri := hr prog w
        wp_walk using hri
        exact ⟨_, rfl, by simpa using h⟩
    case fin =>
      rintro ⟨c1, c2⟩ s' ⟨hc, rfl, lx⟩
      simp only at hc
      subst hc
      cases lx
      wp_walk
      exact ⟨_, rfl, by simpa [Builtin.Tuple.tupleCompareSizes] using h⟩
    case h => exact ⟨rfl, rfl, lx⟩
theorem rc_tup_gt {A : Around} {s : Shared} {l b : Addr} {us ws : Array Value} {k : Bool} (hl : s.heap.IsTuple l us) (hb : s.heap.IsTuple b ws) (hu : A.units < cLine)
    (lx : Lex .Gt A.in1 s (decide (us.size > ws.size)) (us.toList.zip ws.toList) k) : Ob.RcOp .Gt A s (.ref l) (.ref b) k := fun prog w E Q h => by
  obtain ⟨⟨c1, d1, t1, s1⟩, o1, e1, n1, q1⟩ := id hl
  obtain ⟨⟨c2, d2, t2, s2⟩, o2, e2, n2, q2⟩ := id hb
  simp only at e1 q1 e2 q2
  subst e1 q1 e2 q2
  exact richCompare_meets_room (op := .Gt) ⟨_, o1, rfl⟩ ⟨_, o2, rfl⟩ F.slot_tuple_gt F.entry_tuple_gt (F.args_tuple_gt_2 _ _) (tup_gt_run l b us ws n1 n2 d1 d2 s1 s2 k)
    ⟨⟨o1, o2⟩, lx, (fun x => nomatch x), h⟩ hu

theorem tup_ge_run (l b : Addr) (us ws : Array Value) (n n2 : Nat) (dd dd2 : Option Addr) (sl sl2 : Array (Option Value)) (k : Bool) :
    Meets (Builtin.«tuple.__ge__» ⟨[.ref l, .ref b], []⟩)
      (fun A R s => (s.heap.get? l = some { cls := .type "tuple", dict := dd, data := .seq us n, slots := sl } ∧
        s.heap.get? b = some { cls := .type "tuple", dict := dd2, data := .seq ws n2, slots := sl2 }) ∧
        Lex .GtE A.in1 s (decide (us.size ≥ ws.size)) (us.toList.zip ws.toList) k ∧ R (.ok (.ret (.bool k))) s) :=
  .of_wp fun prog w A R s h => by
    obtain ⟨hp, g, d, tk, os⟩ := s
    obtain ⟨⟨e1, e2⟩, lx, h⟩ := h
    have sub := AutoSeq1.sub_tuple_tuple
    wp_walk using AutoSeq1.wpAny_loadPart' e1, AutoSeq1.wpAny_loadPart' e2, wpAny_forIn_list _ (fun rest c s' => c.1 = none ∧ s' = ⟨hp, g, d, tk, os⟩ ∧
      Lex .GtE A.in1 ⟨hp, g, d, tk, os⟩ (decide (us.size ≥ ws.size)) rest k) _
    case turn =>
      rintro ⟨y, x⟩ rest c s' ⟨hc, rfl, lx⟩
      cases lx with
      | eq he lx =>
        refine wpAny_bind (he prog w _ _ ?_)
        wp_walk
        exact ⟨rfl, rfl, lx⟩
      | ne he hr =>
        refine wpAny_bind (he prog w _ _ ?_)
        have hri := hr prog w
        wp_walk using hri
        exact ⟨_, rfl, by simpa using h⟩
    case fin =>
      rintro ⟨c1, c2⟩ s' ⟨hc, rfl, lx⟩
      simp only at hc
      subst hc
      cases lx
      wp_walk
      exact ⟨_, rfl, by simpa [Builtin.Tuple.tupleCompareSizes] using h⟩
    case h => exact ⟨rfl, rfl, lx⟩
theorem rc_tup_ge {A : Around} {s : Shared} {l b : Addr} {us ws : Array Value} {k : Bool} (hl : s.heap.IsTuple l us) (hb : s.heap.IsTuple b ws) (hu : A.units < cLine)
    (lx : Lex .GtE A.in1 s (decide (us.size ≥ ws.size)) (us.toList.zip ws.toList) k) : Ob.RcOp .GtE A s (.ref l) (.ref b) k := fun prog w E Q h => by
  obtain ⟨⟨c1, d1, t1, s1⟩, o1, e1, n1, q1⟩ := id hl
  obtain ⟨⟨c2, d2, t2, s2⟩, o2, e2, n2, q2⟩ := id hb
  simp only at e1 q1 e2 q2
  subst e1 q1 e2 q2
  exact richCompare_meets_room (op := .GtE) ⟨_, o1, rfl⟩ ⟨_, o2, rfl⟩ F.slot_tuple_ge F.entry_tuple_ge (F.args_tuple_ge_2 _ _) (tup_ge_run l b us ws n1 n2 d1 d2 s1 s2 k)
    ⟨⟨o1, o2⟩, lx, (fun x => nomatch x), h⟩ hu

theorem rcI (o : COp) (op : CmpOp) (ho : (o = .lt ∧ op = .Lt) ∨ (o = .le ∧ op = .LtE) ∨ (o = .gt ∧ op = .Gt) ∨ (o = .ge ∧ op = .GtE)) {A : Around} {s : Shared} {a b : Int} {t u : Tok} {r : Bool} (h : intO o a b = some r) :
    Ob.RcOp op A s (.int a t) (.int b u) r := by
  rcases ho with ⟨rfl, rfl⟩ | ⟨rfl, rfl⟩ | ⟨rfl, rfl⟩ | ⟨rfl, rfl⟩ <;> cases h
  · exact Ob.RcOp.lt_int _ _ _ _
  · exact Ob.RcOp.le_int _ _ _ _
  · exact Ob.RcOp.gt_int _ _ _ _
  · exact Ob.RcOp.ge_int _ _ _ _
theorem rcS (o : COp) (op : CmpOp) (ho : (o = .lt ∧ op = .Lt) ∨ (o = .le ∧ op = .LtE) ∨ (o = .gt ∧ op = .Gt) ∨ (o = .ge ∧ op = .GtE)) {A : Around} {s : Shared} {a b : Str} {t u : Tok} {r : Bool} (h : strO o a b = some r) :
    Ob.RcOp op A s (.str a t) (.str b u) r := fun prog w E Q q => by
  rcases ho with ⟨rfl, rfl⟩ | ⟨rfl, rfl⟩ | ⟨rfl, rfl⟩ | ⟨rfl, rfl⟩ <;> cases h
  · exact PyProof.Rows.lt_str q
  · exact PySem.P.le_str q
  · exact PySem.P.gt_str q
  · exact PySem.P.ge_str q
abbrev OOk (o : COp) (op : CmpOp) : Prop := (o = .lt ∧ op = .Lt) ∨ (o = .le ∧ op = .LtE) ∨ (o = .gt ∧ op = .Gt) ∨ (o = .ge ∧ op = .GtE)
theorem rc_tup (o : COp) (op : CmpOp) (ho : OOk o op) {A : Around} {s : Shared} {l b : Addr} {us ws : Array Value} {k : Bool} (hl : s.heap.IsTuple l us) (hb : s.heap.IsTuple b ws) (hu : A.units < cLine)
    (lx : Lex op A.in1 s (lenO o us.size ws.size) (us.toList.zip ws.toList) k) : Ob.RcOp op A s (.ref l) (.ref b) k := by
  rcases ho with ⟨rfl, rfl⟩ | ⟨rfl, rfl⟩ | ⟨rfl, rfl⟩ | ⟨rfl, rfl⟩
  · exact rc_tup_lt hl hb hu lx
  · exact rc_tup_le hl hb hu lx
  · exact rc_tup_gt hl hb hu lx
  · exact rc_tup_ge hl hb hu lx
theorem readsAll_len {h : Heap} : ∀ {vs : List Value} {ds : List D} {as : List Addr}, ReadsAll h vs ds as → vs.length = ds.length
  | _, _, _, .nil => rfl
  | _, _, _, .cons _ r => congrArg (· + 1) (readsAll_len r)
mutual
theorem rc_data (o : COp) (op : CmpOp) (ho : OOk o op) : ∀ (a b : D) (r : Bool) (A : Around) (s : Shared) (u v : Value) (as bs : List Addr), ordD o a b = some r → Reads s.heap u a as → Reads s.heap v b bs →
    a.canLay0 = true → b.canLay0 = true → A.units + a.depth < cLine → Ob.RcOp op A s u v r
  | .int a, b, r, A, s, u, v, as, bs, h, ra, rb, ca, cb, hu => by
    cases b with
    | int b =>
      cases ra
      cases rb
      exact rcI o op ho (by simpa [ordD] using h)
    | _ => simp [ordD] at h
  | .str a, b, r, A, s, u, v, as, bs, h, ra, rb, ca, cb, hu => by
    cases b with
    | str b =>
      cases ra
      cases rb
      exact rcS o op ho (by simpa [ordD] using h)
    | _ => simp [ordD] at h
  | .tuple xs, b, r, A, s, u, v, as, bs, h, ra, rb, ca, cb, hu => by
    cases b with
    | tuple ys =>
      cases ra with
      | tuple k1 k2 k3 k4 =>
      cases rb with
      | tuple j1 j2 j3 j4 =>
      have h' : ordAll o (lenO o xs.length ys.length) xs ys = some r := by simpa [ordD] using h
      have hd : A.units + (PyData.depthAll xs + 1) < cLine := by simpa [PyData.depth] using hu
      refine rc_tup o op ho ⟨_, k1, k2, _, k3⟩ ⟨_, j1, j2, _, j3⟩ (by omega) ?_
      have e1 := readsAll_len k4
      have e2 := readsAll_len j4
      rw [Array.length_toList] at e1 e2
      rw [e1, e2]
      exact rc_datas o op ho xs ys _ r A.in1 s _ _ _ _ h' k4 j4 (by simpa [PyData.canLay0] using ca) (by simpa [PyData.canLay0] using cb) (by show A.units + 1 + _ < _; omega)
    | _ => simp [ordD] at h
  | .none, b, r, A, s, u, v, as, bs, h, ra, rb, ca, cb, hu => by simp [ordD] at h
  | .bool _, b, r, A, s, u, v, as, bs, h, ra, rb, ca, cb, hu => by simp [ordD] at h
  | .list _, b, r, A, s, u, v, as, bs, h, ra, rb, ca, cb, hu => by simp [ordD] at h
  | .dict _, b, r, A, s, u, v, as, bs, h, ra, rb, ca, cb, hu => by simp [ordD] at h
theorem rc_datas (o : COp) (op : CmpOp) (ho : OOk o op) : ∀ (xs ys : List D) (z r : Bool) (A : Around) (s : Shared) (us vs : List Value) (as bs : List Addr), ordAll o z xs ys = some r → ReadsAll s.heap us xs as → ReadsAll s.heap vs ys bs →
    PyData.canLayAll0 xs = true → PyData.canLayAll0 ys = true → A.units + PyData.depthAll xs < cLine → Lex op A s z (us.zip vs) r
  | [], ys, z, r, A, s, us, vs, as, bs, h, ra, rb, ca, cb, hu => by
    cases ra
    have e : z = r := by simpa [ordAll] using h
    subst e
    exact .nil
  | x :: xs, [], z, r, A, s, us, vs, as, bs, h, ra, rb, ca, cb, hu => by
    cases rb
    have e : z = r := by simpa [ordAll] using h
    subst e
    rw [List.zip_nil_right]
    exact .nil
  | x :: xs, y :: ys, z, r, A, s, us, vs, as, bs, h, ra, rb, ca, cb, hu => by
    cases ra with
    | cons ra1 ra2 =>
    cases rb with
    | cons rb1 rb2 =>
    have ca' : x.canLay0 = true ∧ PyData.canLayAll0 xs = true := by simpa [PyData.canLayAll0, Bool.and_eq_true] using ca
    have cb' : y.canLay0 = true ∧ PyData.canLayAll0 ys = true := by simpa [PyData.canLayAll0, Bool.and_eq_true] using cb
    have hd : A.units + max x.depth (PyData.depthAll xs) < cLine := by simpa [PyData.depthAll] using hu
    have eq := eqAt_reads x y A s _ _ _ _ ra1 rb1 ca'.1 cb'.1 (by omega)
    rw [List.zip_cons_cons]
    unfold ordAll at h
    cases he : PyData.eqv x y with
    | true =>
      rw [he] at h eq
      exact .eq eq (rc_datas o op ho xs ys z r A s _ _ _ _ (by simpa using h) ra2 rb2 ca'.2 cb'.2 (by omega))
    | false =>
      rw [he] at h eq
      exact .ne eq (rc_data o op ho x y r A s _ _ _ _ (by simpa using h) ra1 rb1 ca'.1 cb'.1 (by omega))
end
end Rx

set_option linter.all false
set_option maxRecDepth 100000
set_option maxHeartbeats 1000000
/-! Rx, part C4: comparisons. -/
namespace Rx
open PySem PySem.Spec PyProof.Rows L2 SeqAt
section
variable {I : Ins} {K : PySem.W.Frag} {g g' : Gh} {H H' : Hp} {S S' : Sto} {W : WX} {σ : L2.St} {Q : VK}
abbrev RB : Gh → Hp → Bool → V → Prop := fun _ _ b c => c = V.bl b
theorem fin_b {b : Bool} (R : SR K g H S) (h : Post I K RB W σ g H S (.ok b S) Q) : Q (.bl b) H := h.here R rfl
theorem post_not {r : Res Bool} (h : Post I K RB W σ g H S (r.bind fun b s => .ok (!b) s) Q) : Post I K RB W σ g H S r (fun c H' => ∀ b, c = .bl b → Q (.bl (!b)) H') := by
  cases r with
  | ok b s => exact fun g' H' c st R' e b' e' => h g' H' _ st R' (by rw [e] at e'; cases e'; rfl)
  | exc e s => exact h
  | stuck => exact h
theorem scl_dec {a b : D} {x y : V} (h : scl a b = true) (ra : Rp K g H a x) (rb : Rp K g H b y) : scal x y = true ∧ decide (x = y) = PyData.eqv a b := by
  cases a <;> cases b <;> first
    | (cases h; done)
    | (cases ra; cases rb; refine ⟨rfl, ?_⟩; simp [PyData.eqv, Bool.beq_eq_decide_eq])
    | (cases ra; cases rb; refine ⟨rfl, ?_⟩; simp [PyData.eqv]; done)
theorem scl_pd {a : D} {b : D} (h : scl a b = true) : (∀ ds, a ≠ .list ds) ∧ ∀ ds, b ≠ .list ds := by
  cases a <;> cases b <;> first
    | (cases h; done)
    | exact ⟨fun ds z => (by cases z), fun ds z => (by cases z)⟩
theorem VRp.rp {d : D} {x : V} (h : VRp K g H d x) (n : ∀ ds, d ≠ .list ds) : Rp K g H d x := by
  cases d with
  | list ds => exact absurd rfl (n ds)
  | none => exact h
  | bool b => exact h
  | int i => exact h
  | str z => exact h
  | tuple ds => exact h
  | dict kvs => exact h
end
section
variable {X : Cx}
theorem eq_ok (hu : X.A.units + 64 < cLine) : OpR X (compareOp .Eq) (r2b X.K (cmpV .eq)) := by
  intro pins s σ H x y v u Q Iv rx ry h
  obtain ⟨I, W, σ', g, S, dx, dy, R, r1, r2, h⟩ := h
  show wpAny _ _ _ _ _ _
  have h : Post I X.K RB W σ' g H S (match view dx S, view dy S with | some a, some b => eqR a b S | _, _ => .stuck) Q := h
  cases ha : view dx S with
  | none => simp only [ha] at h; exact h.elim
  | some a =>
  cases hb : view dy S with
  | none => simp only [ha, hb] at h; exact h.elim
  | some b =>
  simp only [ha, hb] at h
  have va := view_rp R r1 ha
  have vb := view_rp R r2 hb
  unfold eqR at h
  split at h
  · rename_i hc
    cases hs : scl a b with
    | true =>
      obtain ⟨n1, n2⟩ := scl_pd hs
      obtain ⟨e1, e2⟩ := scl_dec hs (va.rp n1) (vb.rp n2)
      exact op_eq pins s σ H x y v u Q Iv rx ry ⟨e1, by rw [e2]; exact fin_b R h⟩
    | false =>
      rw [hs, Bool.false_or, Bool.and_eq_true] at hc
      exact op_eqD hu pins s σ H x y v u Q Iv rx ry ⟨a, b, va.dp, vb.dp, hc.1, hc.2, fin_b R h⟩
  · exact h.elim
theorem ne_ok (hu : X.A.units + 64 < cLine) : OpR X (compareOp .NotEq) (r2b X.K (cmpV .ne)) := by
  intro pins s σ H x y v u Q Iv rx ry h
  obtain ⟨I, W, σ', g, S, dx, dy, R, r1, r2, h⟩ := h
  have h : Post I X.K RB W σ' g H S (match view dx S, view dy S with | some a, some b => (eqR a b S).bind fun b s => .ok (!b) s | _, _ => .stuck) Q := h
  cases ha : view dx S with
  | none => simp only [ha] at h; exact h.elim
  | some a =>
  cases hb : view dy S with
  | none => simp only [ha, hb] at h; exact h.elim
  | some b =>
  simp only [ha, hb] at h
  have va := view_rp R r1 ha
  have vb := view_rp R r2 hb
  unfold eqR at h
  split at h
  · rename_i hc
    cases hs : scl a b with
    | true =>
      obtain ⟨n1, n2⟩ := scl_pd hs
      obtain ⟨e1, e2⟩ := scl_dec hs (va.rp n1) (vb.rp n2)
      exact op_ne pins s σ H x y v u Q Iv rx ry ⟨e1, by rw [e2]; exact fin_b R h⟩
    | false =>
      rw [hs, Bool.false_or, Bool.and_eq_true] at hc
      exact op_neD hu pins s σ H x y v u Q Iv rx ry ⟨a, b, va.dp, vb.dp, hc.1, hc.2, fin_b R h⟩
  · exact h.elim
theorem ord_ok (o : COp) (op : CmpOp) (ho : OOk o op) (hop : ∀ v u, compareOp op v u = richCompare op v u) (hu : X.A.units + 64 < cLine) : OpR X (compareOp op) (r2b X.K (cmpV o)) := by
  intro pins s σ H x y v u Q Iv rx ry h
  obtain ⟨I, W, σ', g, S, dx, dy, R, r1, r2, h⟩ := h
  have h : Post I X.K RB W σ' g H S (ordV o dx dy S) Q := by
    rcases ho with ⟨rfl, rfl⟩ | ⟨rfl, rfl⟩ | ⟨rfl, rfl⟩ | ⟨rfl, rfl⟩ <;> exact h
  unfold ordV at h
  cases dx with
  | pd a =>
    cases dy with
    | pd b =>
      simp only at h
      split at h
      · rename_i hc
        unfold ordR at h
        split at h
        · rename_i k hk
          have q := fin_b R h
          obtain ⟨as, ra⟩ := Dp.reads Iv a x v (Rp.dp r1) rx
          obtain ⟨bs, rb⟩ := Dp.reads Iv b y u (Rp.dp r2) ry
          have fin : Ob.RcOp op X.A s v u k → wpAny (model X.prog X.w) X.A (compareOp op v u) (EP X pins σ Q) X.xe s := fun rc => by
            rw [hop]
            exact rc X.prog X.w X.xe _ ⟨.bl k, H, Iv, rfl, q⟩
          rw [Bool.or_eq_true] at hc
          rcases hc with hc | hc
          · rw [Bool.and_eq_true] at hc
            cases a with
            | int a =>
              cases b with
              | int b => cases ra; cases rb; exact fin (rcI o op ho (by simpa [ordD] using hk))
              | _ => simp [ordD] at hk
            | str a =>
              cases b with
              | str b => cases ra; cases rb; exact fin (rcS o op ho (by simpa [ordD] using hk))
              | _ => simp [ordD] at hk
            | tuple xs => exact absurd hc.1 (by simp [flat])
            | _ => simp [ordD] at hk
          · rw [Bool.and_eq_true] at hc
            have c1 : a.canLay0 = true ∧ a.depth ≤ 64 := by simpa [shp, Bool.and_eq_true] using hc.1
            have c2 : b.canLay0 = true ∧ b.depth ≤ 64 := by simpa [shp, Bool.and_eq_true] using hc.2
            exact fin (rc_data o op ho a b k X.A s v u as bs hk ra rb c1.1 c2.1 (by omega))
        · exact h.elim
      · exact h.elim
    | _ => exact h.elim
  | _ => exact h.elim
theorem is_ok : OpR X (compareOp .Is) (r2b X.K (cmpV .is)) := by
  intro pins s σ H x y v u Q Iv rx ry h
  obtain ⟨I, W, σ', g, S, dx, dy, R, r1, r2, h⟩ := h
  unfold cmpV at h
  simp only at h
  split at h
  · cases r1; cases r2
    exact op_isN pins s σ H _ _ v u Q Iv rx ry ⟨rfl, fin_b R h⟩
  · cases r1; cases r2
    exact op_is_bl pins s σ H _ _ v u Q Iv rx ry ⟨_, _, rfl, rfl, fin_b R h⟩
  · cases r2
    refine op_isN pins s σ H _ _ v u Q Iv rx ry ⟨rfl, ?_⟩
    have e : decide (x = V.non) = false := by
      refine decide_eq_false fun e => ?_
      subst e
      cases dx with
      | pd a =>
        have r1 : Rp X.K g H a .non := r1
        cases r1
        exact absurd rfl (by assumption)
      | ref n => obtain ⟨a, _, e⟩ := r1; cases e
      | fn k => have e : V.non = V.ref _ := r1; cases e
      | lck xs => obtain ⟨a, vs, e, _⟩ := r1; cases e
    rw [e]
    exact fin_b R h
  · exact h.elim
theorem isnot_ok : OpR X (compareOp .IsNot) (r2b X.K (cmpV .isnot)) := by
  intro pins s σ H x y v u Q Iv rx ry h
  obtain ⟨I, W, σ', g, S, dx, dy, R, r1, r2, h⟩ := h
  unfold cmpV at h
  simp only at h
  split at h
  · cases r1; cases r2
    exact op_notN pins s σ H _ _ v u Q Iv rx ry ⟨rfl, fin_b R h⟩
  · cases r1; cases r2
    exact op_isnot_bl pins s σ H _ _ v u Q Iv rx ry ⟨_, _, rfl, rfl, fin_b R h⟩
  · cases r2
    refine op_notN pins s σ H _ _ v u Q Iv rx ry ⟨rfl, ?_⟩
    have e : decide (x = V.non) = false := by
      refine decide_eq_false fun e => ?_
      subst e
      cases dx with
      | pd a =>
        have r1 : Rp X.K g H a .non := r1
        cases r1
        exact absurd rfl (by assumption)
      | ref n => obtain ⟨a, _, e⟩ := r1; cases e
      | fn k => have e : V.non = V.ref _ := r1; cases e
      | lck xs => obtain ⟨a, vs, e, _⟩ := r1; cases e
    rw [e]
    exact fin_b R h
  · exact h.elim
end
end Rx


set_option linter.all false
set_option maxRecDepth 100000
set_option maxHeartbeats 1000000
/-! Rx, part C5: dicts, in, subscripts, slices. -/
namespace Rx
open PySem PySem.Spec PyProof.Rows L2 SeqAt
section
variable {I : Ins} {K : PySem.W.Frag} {g g' : Gh} {H H' : Hp} {S S' : Sto} {W : WX} {σ : L2.St}
abbrev PairsR {κ : Type} (K : PySem.W.Frag) (g : Gh) (H : Hp) (kvs : List (κ × D)) (ks : List (κ × V)) : Prop := Paired (fun (p : κ × D) (q : κ × V) => p.1 = q.1 ∧ Rp K g H p.2 q.2) kvs ks
/-- what is looked up on both sides -/
def RpO (K : PySem.W.Frag) (g : Gh) (H : Hp) : Option D → Option V → Prop
  | some d, some v => Rp K g H d v
  | none, none => True
  | _, _ => False
theorem PairsR.look {κ : Type} [DecidableEq κ] {kvs : List (κ × D)} {ks : List (κ × V)} (r : PairsR K g H kvs ks) (k : κ) : RpO K g H (lookK kvs k) (valV ks k) := by
  unfold PairsR at r
  induction r with
  | nil => trivial
  | @cons p q ps qs h t ih =>
    by_cases e : p.1 = k
    · have e1 : lookK (p :: ps) k = some p.2 := by simp [lookK, List.find?_cons, e]
      rw [e1, valV_pos (h.1.symm.trans e)]
      exact h.2
    · have e1 : lookK (p :: ps) k = lookK ps k := by simp [lookK, List.find?_cons, e]
      rw [e1, valV_neg (fun z => e (h.1.trans z))]
      exact ih
theorem PairsR.any {κ : Type} [DecidableEq κ] {kvs : List (κ × D)} {ks : List (κ × V)} (r : PairsR K g H kvs ks) (k : κ) : (kvs.any fun p => decide (p.1 = k)) = ks.any fun p => decide (p.1 = k) := by
  unfold PairsR at r
  induction r with
  | nil => rfl
  | cons h t ih => rw [List.any_cons, List.any_cons, ih, h.1]
theorem PairsR.repl {κ : Type} [DecidableEq κ] {kvs : List (κ × D)} {ks : List (κ × V)} (r : PairsR K g H kvs ks) (k : κ) {d : D} {v : V} (h : Rp K g H d v) :
    PairsR K g H (kvs.map fun p => if p.1 = k then (p.1, d) else p) (ks.map fun p => if p.1 = k then (p.1, v) else p) := by
  unfold PairsR at r ⊢
  induction r with
  | nil => exact .nil
  | @cons p q ps qs hh t ih =>
    rw [List.map_cons, List.map_cons]
    refine .cons ?_ ih
    by_cases e : p.1 = k
    · rw [if_pos e, if_pos (hh.1.symm.trans e)]; exact ⟨hh.1, h⟩
    · rw [if_neg e, if_neg (fun z => e (hh.1.trans z))]; exact hh
theorem PairsR.put {κ : Type} [DecidableEq κ] {kvs : List (κ × D)} {ks : List (κ × V)} (r : PairsR K g H kvs ks) (k : κ) {d : D} {v : V} (h : Rp K g H d v) : PairsR K g H (putD kvs k d) (putK ks k v) := by
  unfold putD putK
  rw [PairsR.any r k]
  split
  · exact PairsR.repl r k h
  · exact Paired.snoc r ⟨rfl, h⟩
theorem PairsR.length {κ : Type} {kvs : List (κ × D)} {ks : List (κ × V)} (r : PairsR K g H kvs ks) : kvs.length = ks.length := Paired.length r
theorem PairsR.fw {κ : Type} {kvs : List (κ × D)} {ks : List (κ × V)} (f : Fw g H g' H') (r : PairsR K g H kvs ks) : PairsR K g' H' kvs ks := Paired.imp' r fun p q z => ⟨z.1, z.2.fw f⟩
theorem key_rp {d : D} {k : Key} {v : V} (h : Rp K g H d v) (e : keyOf d = some k) : v = kV k := by
  cases h with
  | int i => cases e; rfl
  | str x => cases e; rfl
  | _ => cases e
theorem keys_rp : ∀ {ds : List D} {ks : List Key} {vs : List V}, RpA K g H ds vs → keysOf ds = some ks → vs = ks.map kV
  | [], ks, _, .nil, e => by cases e; rfl
  | d :: ds, ks, _, .cons h r, e => by
    unfold keysOf at e
    cases h1 : keyOf d with
    | none => rw [h1] at e; cases e
    | some k =>
      cases h2 : keysOf ds with
      | none => rw [h1, h2] at e; cases e
      | some ks' =>
        rw [h1, h2] at e
        cases e
        rw [List.map_cons, key_rp h h1, keys_rp r h2]
end
section
variable {X : Cx} {pins : List (Addr × Obj)} {σ : L2.St} {H : Hp} {s : Shared}
theorem key_sq (I : Inv X pins σ H s) {b : Addr} {k : List Key} (h : SqT X.K H b (k.map kV)) : (tupleKind (mixKind X.prog X.w)).is s.heap k b := by
  obtain ⟨its, r, ⟨o, h1, h2, n, h3⟩, _⟩ := I.tuple h
  exact ⟨o, its.toArray, n, h1, h2, h3, by simpa using items_are r⟩
/-- what the dict at a holds at the key y, whose tuple may be the module's own -/
def DGt (K : PySem.W.Frag) (H : Hp) (a : Addr) (y : V) (r : Option V) : Prop :=
  (∃ kvs k, H a = some (.dK kvs) ∧ y = kV k ∧ r = valV kvs k) ∨ ∃ kvs k b, H a = some (.dT kvs) ∧ y = .ref b ∧ SqT K H b (k.map kV) ∧ r = valV kvs k
theorem g_get {A : Around} {E : Value → Shared → Prop} {Q : Value → Shared → Prop} {a : Addr} {y v : V} {u : Value} (hu : A.units + 1 < cLine) (I : Inv X pins σ H s) (g : DGt X.K H a y (some v)) (ry : RelV y u) (h : ∀ w' s', Inv X pins σ H s' → RelV v w' → Q w' s') :
    wpAny (model X.prog X.w) A (getItem (.ref a) u) Q E s := by
  rcases g with ⟨kvs, k, e, ey, l⟩ | ⟨kvs, k, b, e, rfl, eb, l⟩
  · exact d_getItem hu I (.inl ⟨kvs, k, .inl e, ey, l⟩) ry h
  · cases (show u = Value.ref b from ry)
    obtain ⟨_, _, xs, rel, dd⟩ := dt_of I.hok e
    have rv := rel.val k
    rw [← l] at rv
    obtain ⟨w', hw, rw'⟩ := RelO.some_of rv
    obtain ⟨p, hp, rfl⟩ := Option.map_eq_some_iff.mp hw
    exact wpAny_getItem_heap (tupleKind_room_in1 hu) (key_sq I eb) dd hp (h _ _ (I.tok _) rw')
theorem g_in {A : Around} {E : Value → Shared → Prop} {Q : Value → Shared → Prop} {a : Addr} {y : V} {o : Option V} {u : Value} (hu : A.units + 1 < cLine) (I : Inv X pins σ H s) (g : DGt X.K H a y o) (ry : RelV y u) (h : ∀ s', Inv X pins σ H s' → Q (.bool o.isSome) s') :
    wpAny (model X.prog X.w) A (compareOp .In u (.ref a)) Q E s := by
  rcases g with ⟨kvs, k, e, ey, l⟩ | ⟨kvs, k, b, e, rfl, eb, l⟩
  · exact d_in hu I (.inl ⟨kvs, k, .inl e, ey, l⟩) ry h
  · cases (show u = Value.ref b from ry)
    obtain ⟨_, hd, xs, rel, dd⟩ := dt_of I.hok e
    refine wpAny_in_heap (tupleKind_room_in1 hu) (key_sq I eb) hd dd ?_
    have q := (rel.val k).isSome_eq
    rw [Option.isSome_map, ← l] at q
    rw [← q]
    exact h _ (I.tok _)
theorem g_notIn {A : Around} {E : Value → Shared → Prop} {Q : Value → Shared → Prop} {a : Addr} {y : V} {o : Option V} {u : Value} (hu : A.units + 1 < cLine) (I : Inv X pins σ H s) (g : DGt X.K H a y o) (ry : RelV y u) (h : ∀ s', Inv X pins σ H s' → Q (.bool (!o.isSome)) s') :
    wpAny (model X.prog X.w) A (compareOp .NotIn u (.ref a)) Q E s := by
  rcases g with ⟨kvs, k, e, ey, l⟩ | ⟨kvs, k, b, e, rfl, eb, l⟩
  · exact d_notIn hu I (.inl ⟨kvs, k, .inl e, ey, l⟩) ry h
  · cases (show u = Value.ref b from ry)
    obtain ⟨_, hd, xs, rel, dd⟩ := dt_of I.hok e
    refine wpAny_notIn_heap (tupleKind_room_in1 hu) (key_sq I eb) hd dd ?_
    have q := (rel.val k).isSome_eq
    rw [Option.isSome_map, ← l] at q
    rw [← q]
    exact h _ (I.tok _)
end
section
variable {J : Ins} {K : PySem.W.Frag} {g : Gh} {H : Hp} {S : Sto}
/-- a lookup in a cell -/
theorem dget_rp (R : SR K g H S) {n : Nat} {c : Cell} {a : Addr} (h : S[n]? = some c) (e : g.m[n]? = some a) {d : D} {y : V} (r : Rp K g H d y) {o : Option D} (hd : dget c d = some o) : ∃ ov, DGt K H a y ov ∧ RpO K g H o ov := by
  cases c with
  | dK kvs =>
    obtain ⟨ks, h1, h2⟩ := R.dK h e
    obtain ⟨k, hk, rfl⟩ := Option.map_eq_some_iff.mp hd
    exact ⟨_, .inl ⟨ks, k, h1, key_rp r hk, rfl⟩, PairsR.look h2 k⟩
  | dT kvs =>
    obtain ⟨ks, h1, h2⟩ := R.dT h e
    cases d with
    | tuple xs =>
      obtain ⟨k, hk, rfl⟩ := Option.map_eq_some_iff.mp (show (keysOf xs).map (lookK kvs) = some o from hd)
      obtain ⟨b, vs, rfl, h3, h4⟩ := Rp.tup_inv r
      obtain rfl := keys_rp h4 hk
      exact ⟨_, .inr ⟨ks, k, b, h1, rfl, h3, rfl⟩, PairsR.look h2 k⟩
    | _ => cases hd
  | _ => cases hd
theorem dget_cell {c : Cell} {d : D} {o : Option D} (hd : dget c d = some o) : (∃ kvs, c = .dK kvs) ∨ ∃ kvs, c = .dT kvs := by
  cases c with
  | dK kvs => exact .inl ⟨_, rfl⟩
  | dT kvs => exact .inr ⟨_, rfl⟩
  | _ => cases hd
theorem RpO.isSome {o : Option D} {ov : Option V} (h : RpO K g H o ov) : o.isSome = ov.isSome := by
  cases o <;> cases ov <;> first | rfl | exact h.elim
theorem RpA.flat : ∀ {ds : List D} {vs : List V}, RpA K g H ds vs → ds.all Rx.flat = true → vs.all flatV = true
  | _, _, .nil, _ => rfl
  | _, _, .cons h r, e => by
    rw [List.all_cons, Bool.and_eq_true] at e ⊢
    refine ⟨?_, r.flat e.2⟩
    cases h <;> first | rfl | cases e.1
theorem flat_rp {d : D} {v : V} (h : Rp K g H d v) (e : Rx.flat d = true) : flatV v = true := by
  cases h <;> first | rfl | cases e
theorem eqV_rp {d e : D} {v w : V} (h : Rp K g H d v) (q : Rp K g H e w) (f1 : Rx.flat d = true) (f2 : Rx.flat e = true) : eqV v w = PyData.eqv d e := by
  cases h with
  | lst _ _ => cases f1
  | tup _ _ => cases f1
  | non => cases q with
    | lst _ _ => cases f2
    | tup _ _ => cases f2
    | _ => rfl
  | bl b => cases q with
    | lst _ _ => cases f2
    | tup _ _ => cases f2
    | _ => rfl
  | int i => cases q with
    | lst _ _ => cases f2
    | tup _ _ => cases f2
    | _ => rfl
  | str z => cases q with
    | lst _ _ => cases f2
    | tup _ _ => cases f2
    | _ => rfl
theorem any_rp {k : D} {x : V} (h : Rp K g H k x) (f : Rx.flat k = true) : ∀ {ds : List D} {vs : List V}, RpA K g H ds vs → ds.all Rx.flat = true → inV x vs = ds.any fun z => PyData.eqv z k
  | _, _, .nil, _ => rfl
  | _, _, .cons q r, e => by
    rw [List.all_cons, Bool.and_eq_true] at e
    unfold inV
    rw [List.any_cons, List.any_cons, eqV_rp q h e.1 f]
    exact congrArg _ (any_rp h f r e.2)
end
section
variable {X : Cx}
theorem in_core (neg : Bool) (op : CmpOp) (hop : (neg = false ∧ op = .In) ∨ (neg = true ∧ op = .NotIn)) (hu : X.A.units + 64 < cLine) {I : Ins} {W : WX} {σ' : L2.St} {g : Gh} {S : Sto} {dx dy : Dv} {pins : List (Addr × Obj)} {s : Shared} {σ : L2.St} {H : Hp} {x y : V} {v u : Value} {Q : VK}
    (Iv : Inv X pins σ H s) (rx : RelV x v) (ry : RelV y u) (R : SR X.K g H S) (r1 : RpV I X.K g H dx x) (r2 : RpV I X.K g H dy y)
    (h : Post I X.K RB W σ' g H S (inD dx dy S) (fun c H' => ∀ b, c = .bl b → Q (.bl (if neg then !b else b)) H')) : wpAny (model X.prog X.w) X.A (compareOp op v u) (EP X pins σ Q) X.xe s := by
  have seq : ∀ {p : Addr} {xs : List D} {vs : List V} {k : D}, y = .ref p → dx = .pd k → (SqL X.K H p vs ∨ SqT X.K H p vs) → RpA X.K g H xs vs → Rx.flat k = true → xs.all Rx.flat = true →
      Q (.bl (if neg then !(xs.any fun z => PyData.eqv z k) else xs.any fun z => PyData.eqv z k)) H → wpAny (model X.prog X.w) X.A (compareOp op v u) (EP X pins σ Q) X.xe s := by
    rintro p xs vs k rfl rfl hq ra f1 f2 q
    have r1 : Rp X.K g H k x := r1
    rw [← any_rp r1 f1 ra f2] at q
    rcases hop with ⟨rfl, rfl⟩ | ⟨rfl, rfl⟩
    · exact op_in_seq pins s σ H x _ v u Q Iv rx ry ⟨p, vs, rfl, hq, flat_rp r1 f1, ra.flat f2, q⟩
    · exact op_notIn_seq pins s σ H x _ v u Q Iv rx ry ⟨p, vs, rfl, hq, flat_rp r1 f1, ra.flat f2, q⟩
  unfold inD at h
  split at h
  · rename_i k n
    obtain ⟨a, ha, rfl⟩ := r2
    split at h
    · rename_i xs hc
      split at h
      · rename_i f
        rw [Bool.and_eq_true] at f
        obtain ⟨vs, h1, h2⟩ := R.lst hc ha
        exact seq rfl rfl (.inl (.inl (.inl h1))) h2 f.1 f.2 (h.here (R1 := RB) (b := .bl _) R rfl _ rfl)
      · exact h.elim
    · rename_i xs hc
      split at h
      · rename_i f
        rw [Bool.and_eq_true] at f
        obtain ⟨a', vs, e, h1, h2⟩ := Rp.lst_inv (R.fzl hc ha)
        cases e
        exact seq rfl rfl (.inl (.inl (.inl h1))) h2 f.1 f.2 (h.here (R1 := RB) (b := .bl _) R rfl _ rfl)
      · exact h.elim
    · rename_i c n1 n2 hc
      split at h
      · rename_i o ho
        obtain ⟨ov, g1, g2⟩ := dget_rp R hc ha (show Rp X.K g H k x from r1) ho
        have q := h.here (R1 := RB) (b := .bl _) R rfl _ rfl
        rw [g2.isSome] at q
        cases ry
        rcases hop with ⟨rfl, rfl⟩ | ⟨rfl, rfl⟩
        · exact g_in (small_units hu) Iv g1 rx fun s' I' => ⟨.bl _, H, I', rfl, q⟩
        · exact g_notIn (small_units hu) Iv g1 rx fun s' I' => ⟨.bl _, H, I', rfl, q⟩
      · exact h.elim
    · exact h.elim
  · rename_i k xs
    split at h
    · rename_i f
      rw [Bool.and_eq_true] at f
      obtain ⟨a', vs, rfl, h1, h2⟩ := Rp.lst_inv (show Rp X.K g H (.list xs) y from r2)
      exact seq rfl rfl (.inl (.inl (.inl h1))) h2 f.1 f.2 (h.here (R1 := RB) (b := .bl _) R rfl _ rfl)
    · exact h.elim
  · rename_i k xs
    split at h
    · rename_i f
      rw [Bool.and_eq_true] at f
      obtain ⟨a', vs, rfl, h1, h2⟩ := Rp.tup_inv (show Rp X.K g H (.tuple xs) y from r2)
      exact seq rfl rfl (.inr h1) h2 f.1 f.2 (h.here (R1 := RB) (b := .bl _) R rfl _ rfl)
    · exact h.elim
  · cases r1
    cases r2
    have q := h.here (R1 := RB) (b := .bl _) R rfl _ rfl
    rcases hop with ⟨rfl, rfl⟩ | ⟨rfl, rfl⟩
    · exact op_in_str pins s σ H _ _ v u Q Iv rx ry ⟨_, _, rfl, rfl, q⟩
    · exact L2.op_notin_str pins s σ H _ _ v u Q Iv rx ry ⟨_, _, rfl, rfl, q⟩
  · exact h.elim
theorem in_ok (hu : X.A.units + 64 < cLine) : OpR X (compareOp .In) (r2b X.K (cmpV .inn)) := by
  intro pins s σ H x y v u Q Iv rx ry h
  obtain ⟨I, W, σ', g, S, dx, dy, R, r1, r2, h⟩ := h
  exact in_core false .In (.inl ⟨rfl, rfl⟩) hu Iv rx ry R r1 r2 (Post.mono (show Post I X.K RB W σ' g H S (inD dx dy S) Q from h) fun c H' q b e => by rw [e] at q; exact q)
theorem notin_ok (hu : X.A.units + 64 < cLine) : OpR X (compareOp .NotIn) (r2b X.K (cmpV .notin)) := by
  intro pins s σ H x y v u Q Iv rx ry h
  obtain ⟨I, W, σ', g, S, dx, dy, R, r1, r2, h⟩ := h
  exact in_core true .NotIn (.inr ⟨rfl, rfl⟩) hu Iv rx ry R r1 r2 (post_not (show Post I X.K RB W σ' g H S ((inD dx dy S).bind fun b s => .ok (!b) s) Q from h))
end
end Rx


set_option linter.all false
set_option maxRecDepth 100000
set_option maxHeartbeats 1000000
/-! Rx, part C6: subscripts, slices, stores, what is walked. -/
namespace Rx
open PySem PySem.Spec PyProof.Rows L2 SeqAt
section
variable {J : Ins} {K : PySem.W.Frag} {g g' : Gh} {H H' : Hp} {S S' : Sto} {W : WX} {σ : L2.St} {Q : VK}
theorem at_rp {ds : List D} {vs : List V} (r : RpA K g H ds vs) {i : Int} {j : Nat} {d : D} (h : ixN ds.length i = some j) (e : ds[j]? = some d) : ∃ v, atI vs i = some v ∧ Rp K g H d v := by
  obtain ⟨v, h1, h2⟩ := r.get e
  refine ⟨v, ?_, h2⟩
  unfold atI
  rw [← r.length, h]
  exact h1
/-- a value as plain data: its cell is frozen by that -/
theorem toP_rp (R : SR K g H S) {v : Dv} {x : V} (r : RpV J K g H v x) : (∃ d S', toP v S = .ok d S' ∧ ∃ g', Stp g H S g' H S' ∧ SR K g' H S' ∧ Rp K g' H d x) ∨ toP v S = .stuck := by
  cases v with
  | pd d => exact .inl ⟨d, S, rfl, g, Stp.refl, R, r⟩
  | fn k => exact .inr rfl
  | lck xs => exact .inr rfl
  | ref n =>
    obtain ⟨a, ha, rfl⟩ := r
    cases hc : S[n]? with
    | none => exact .inr (by simp only [toP, hc])
    | some c =>
      cases c with
      | lst xs =>
        obtain ⟨st, R', rp⟩ := frz_cell R hc ha
        exact .inl ⟨.list xs, _, by simp only [toP, hc], _, st, R', rp⟩
      | fzl xs => exact .inl ⟨.list xs, S, by simp only [toP, hc], g, Stp.refl, R, R.fzl hc ha⟩
      | dK _ => exact .inr (by simp only [toP, hc])
      | dT _ => exact .inr (by simp only [toP, hc])
      | dead => exact .inr (by simp only [toP, hc])
/-- .. ahead of something else -/
theorem post_toP {α β : Type} {R1 : Gh → Hp → α → β → Prop} {f : D → M α} {Q : β → Hp → Prop} (R : SR K g H S) {v : Dv} {x : V} (r : RpV J K g H v x) {I : Ins} (h : Post I K R1 W σ g H S ((toP v S).bind f) Q) :
    ∃ d S' g', Stp g H S g' H S' ∧ SR K g' H S' ∧ Rp K g' H d x ∧ Post I K R1 W σ g' H S' (f d S') Q := by
  rcases toP_rp R r with ⟨d, S', e, g', st, R', rp⟩ | e
  · rw [e] at h
    exact ⟨d, S', g', st, R', rp, Post.from (r := f d S') h st⟩
  · rw [e] at h
    exact h.elim
end
section
variable {X : Cx}
theorem idx_ok (hu : X.A.units + 64 < cLine) : IxR X (r2 X.K idxV) := by
  intro value slice pins s σ H x y v u Q Iv rx ry h hs
  obtain ⟨I, W, σ', g, S, dx, dy, R, r1, r2, h⟩ := h
  have lst : ∀ {p : Addr} {xs : List D} {vs : List V} {i : Int} {j : Nat} {d : D}, x = .ref p → y = .int i → H p = some (.lst vs) → RpA X.K g H xs vs → ixN xs.length i = some j → xs[j]? = some d →
      Post I X.K (RpV I X.K) W σ' g H S (.ok (.pd d) S) Q → wpAny (model X.prog X.w) X.A (subscriptTail value slice v u) (EP X pins σ Q) X.xe s := by
    rintro p xs vs i j d rfl rfl hq ra e1 e2 h
    obtain ⟨z, e3, e4⟩ := at_rp ra e1 e2
    exact ix_list value slice pins s σ H _ _ v u Q Iv rx ry ⟨p, vs, i, z, rfl, rfl, .inl (.inl hq), e3, fin_d R h e4⟩ hs
  have lst' : ∀ {p : Addr} {xs : List D} {vs : List V} {k : D}, x = .ref p → Rp X.K g H k y → H p = some (.lst vs) → RpA X.K g H xs vs →
      Post I X.K (RpV I X.K) W σ' g H S (atL xs k S) Q → wpAny (model X.prog X.w) X.A (subscriptTail value slice v u) (EP X pins σ Q) X.xe s := by
    intro p xs vs k ex r2 hq ra h
    unfold atL at h
    cases k with
    | int i =>
      cases hj : ixN xs.length i with
      | none => simp only [hj, Option.bind_none] at h; exact h.elim
      | some j =>
        cases hd : xs[j]? with
        | none => simp only [hj, hd, Option.bind_some] at h; exact h.elim
        | some d =>
          simp only [hj, hd, Option.bind_some] at h
          exact lst ex (Rp.int_inv r2) hq ra hj hd h
    | _ => exact h.elim
  unfold idxV at h
  cases dy with
  | pd k =>
    have r2 : Rp X.K g H k y := r2
    cases dx with
    | ref n =>
      obtain ⟨a, ha, rfl⟩ := r1
      cases hc : S[n]? with
      | none => simp only [hc] at h; exact h.elim
      | some c =>
        simp only [hc] at h
        have dict : Post I X.K (RpV I X.K) W σ' g H S (match dget c k with | some (some v) => .ok (.pd v) S | _ => .stuck) Q → wpAny (model X.prog X.w) X.A (subscriptTail value slice v u) (EP X pins σ Q) X.xe s := fun h => by
          cases hd : dget c k with
          | none => simp only [hd] at h; exact h.elim
          | some o =>
            obtain ⟨ov, g1, g2⟩ := dget_rp R hc ha r2 hd
            cases o with
            | none => simp only [hd] at h; exact h.elim
            | some d =>
              simp only [hd] at h
              cases ov with
              | none => exact g2.elim
              | some z =>
                have q := fin_d R h g2
                cases rx
                have ty : s.TypeIs (.ref a) "dict" := by
                  obtain ⟨t1, _, _⟩ := isD_at (a := a) Iv (by
                    rcases g1 with ⟨kvs, _, e, _⟩ | ⟨kvs, _, _, e, _⟩
                    · exact .inl ⟨kvs, .inl e⟩
                    · exact .inr ⟨kvs, .inl e⟩)
                  exact t1
                exact tail_any ty PySem.F.slot_dict_getitem.lookup (g_get (small_units hu) Iv g1 ry fun w' s' I' rw' => ⟨z, H, I', rw', q⟩) hs
        unfold atC at h
        cases c with
        | lst xs =>
          obtain ⟨vs, h1, h2⟩ := R.lst hc ha
          exact lst' rfl r2 h1 h2 h
        | fzl xs =>
          obtain ⟨a', vs, e, h1, h2⟩ := Rp.lst_inv (R.fzl hc ha)
          cases e
          exact lst' rfl r2 h1 h2 h
        | dK kvs => exact dict h
        | dT kvs => exact dict h
        | dead => exact dict h
    | pd d =>
      cases d with
      | list xs =>
        obtain ⟨a', vs, e, h1, h2⟩ := Rp.lst_inv (show Rp X.K g H (.list xs) x from r1)
        exact lst' e r2 h1 h2 h
      | tuple xs =>
        obtain ⟨a', vs, e, h1, h2⟩ := Rp.tup_inv (show Rp X.K g H (.tuple xs) x from r1)
        have h : Post I X.K (RpV I X.K) W σ' g H S (atL xs k S) Q := h
        unfold atL at h
        cases k with
        | int i =>
          cases hj : ixN xs.length i with
          | none => simp only [hj, Option.bind_none] at h; exact h.elim
          | some j =>
            cases hd : xs[j]? with
            | none => simp only [hj, hd, Option.bind_some] at h; exact h.elim
            | some d =>
              simp only [hj, hd, Option.bind_some] at h
              obtain ⟨z, e3, e4⟩ := at_rp h2 hj hd
              exact ix_tup value slice pins s σ H _ _ v u Q Iv rx ry ⟨a', vs, i, z, e, Rp.int_inv r2, h1, e3, fin_d R h e4⟩ hs
        | _ => exact h.elim
      | str z =>
        have h : Post I X.K (RpV I X.K) W σ' g H S (atS z k S) Q := h
        unfold atS at h
        cases k with
        | int i =>
          simp only at h
          split at h
          · rename_i hl
            cases hj : ixN z.cps.toList.length i with
            | none => simp only [hj, Option.bind_none] at h; exact h.elim
            | some j =>
              cases hd : z.cps.toList[j]? with
              | none => simp only [hj, hd, Option.bind_some] at h; exact h.elim
              | some c =>
                simp only [hj, hd, Option.bind_some] at h
                refine ix_str value slice pins s σ H _ _ v u Q Iv rx ry ⟨z, i, c, Rp.str_inv r1, Rp.int_inv r2, by rw [← line_eq]; exact hl, ?_, fin_d R h (.str _)⟩ hs
                unfold atI
                rw [hj]
                exact hd
          · exact h.elim
        | _ => exact h.elim
      | _ => exact h.elim
    | _ => exact h.elim
  | _ => cases dx <;> first
    | exact h.elim
    | (rename_i d; cases d <;> exact h.elim)
/-- a slice's reading -/
def rSl (K : PySem.W.Frag) : V → Option Int → Option Int → Hp → VK → Prop := fun x lo hi H Q =>
  ∃ (I : Ins) (W : WX) (σ : L2.St) (g : Gh) (S : Sto) (dx : Dv), SR K g H S ∧ RpV I K g H dx x ∧ Post I K (RpV I K) W σ g H S (slcI dx lo hi S) Q
theorem RpA.cut {K : PySem.W.Frag} {g : Gh} {H : Hp} {ds : List D} {vs : List V} (r : RpA K g H ds vs) (lo hi : Option Int) : RpA K g H (Rx.cut ds lo hi) (cutV vs lo hi) := by
  unfold Rx.cut cutV
  rw [r.length]
  exact (r.drop _).take _
theorem slc_ok : SlR X (rSl X.K) := by
  intro pins s σ H x v vl vu lo hi sl Q Iv rx hs pl pu h
  obtain ⟨I, W, σ', g, S, dx, R, r1, h⟩ := h
  unfold slcI at h
  split at h
  · rename_i xs hv
    obtain ⟨a, vs, rfl, h1, h2⟩ := (view_rp R r1 hv).lst
    exact sl_list pins s σ H _ v vl vu lo hi sl Q Iv rx hs pl pu ⟨a, vs, rfl, .inl (.inl h1), fin_l R h (h2.cut lo hi)⟩
  · rename_i xs hv
    have rp : Rp X.K g H (.tuple xs) x := view_rp R r1 hv
    obtain ⟨a, vs, rfl, h1, h2⟩ := Rp.tup_inv rp
    refine sl_tupA pins s σ H _ v vl vu lo hi sl Q Iv rx hs pl pu ⟨a, vs, rfl, h1, fun w => ?_, fun w => fin_t R h (h2.cut lo hi)⟩
    have e : cut xs lo hi = xs := by
      unfold cut
      rw [← h2.length] at w
      rw [w.1, w.2, List.drop_zero, Nat.sub_zero, List.take_length]
    rw [e] at h
    exact fin_d R h rp
  · rename_i z hv
    split at h
    · rename_i hl
      have rp : Rp X.K g H (.str z) x := view_rp R r1 hv
      cases rp
      have e : (⟨(cut z.cps.toList lo hi).toArray⟩ : Str) = cutS z lo hi := by
        unfold cut cutS
        have : z.cps.toList.length = z.length := by simp [Str.length]
        rw [this]
      rw [e] at h
      exact sl_str pins s σ H _ v vl vu lo hi sl Q Iv rx hs pl pu ⟨z, rfl, by rw [← line_eq]; exact hl, fin_d R h (.str _)⟩
    · exact h.elim
  · exact h.elim
/-- a store's reading -/
def rSet (C : List D) (K : PySem.W.Frag) : V → V → V → Hp → (Hp → Prop) → Prop := fun o i v H Q =>
  ∃ (I : Ins) (W : WX) (σ : L2.St) (g : Gh) (S : Sto) (d1 d2 : Dv) (d : D), g.kc = C ∧ SR K g H S ∧ RpV I K g H d1 o ∧ RpV I K g H d2 i ∧ Rp K g H d v ∧ Post I K (fun _ _ (_ : Unit) (_ : Unit) => True) W σ g H S (setV C d1 d2 d S) (fun _ H' => Q H')
mutual
theorem eqv_refl' : ∀ d : D, nb d = true → PyData.eqv d d = true
  | .int i, _ => by simp [PyData.eqv]
  | .str x, _ => by simp [PyData.eqv]
  | .tuple xs, h => by simpa [PyData.eqv] using eqvs_refl' xs (by simpa [nb] using h)
  | .none, h => by cases h
  | .bool _, h => by cases h
  | .list _, h => by cases h
  | .dict _, h => by cases h
theorem eqvs_refl' : ∀ ds : List D, nbs ds = true → PyData.eqvAll ds ds = true
  | [], _ => by simp [PyData.eqvAll]
  | d :: ds, h => by
    have h' : nb d = true ∧ nbs ds = true := by simpa [nbs, Bool.and_eq_true] using h
    simp [PyData.eqvAll, eqv_refl' d h'.1, eqvs_refl' ds h'.2]
end
theorem nbs_keys : ∀ {ds : List D} {ks : List Key}, keysOf ds = some ks → nbs ds = true
  | [], _, _ => rfl
  | d :: ds, ks, h => by
    unfold keysOf at h
    cases h1 : keyOf d with
    | none => rw [h1] at h; cases h
    | some k =>
      cases h2 : keysOf ds with
      | none => rw [h1, h2] at h; cases h
      | some ks' =>
        have : nb d = true := by
          cases d <;> first | rfl | cases h1
        simp [nbs, this, nbs_keys h2]
theorem set_ok (C : List D) (hu : X.A.units + 64 < cLine) : PSet X (rSet C X.K) := by
  intro pins s σ H o i v ov iv u Q Iv ro ri rv h
  obtain ⟨I, W, σ', g, S, d1, d2, d, hC, R, r1, r2, r3, h⟩ := h
  have fin : ∀ {n : Nat} {c c' : Cell} {a : Addr} {ob : HO}, S[n]? = some c → c.mut → g.m[n]? = some a → c'.mut → (Fw g H g (upd H a ob) → CRp X.K g (upd H a ob) c' a) →
      Post I X.K (fun _ _ (_ : Unit) (_ : Unit) => True) W σ' g H S (.ok () (S.set n c')) (fun _ H' => Q H') → Q (upd H a ob) := fun e1 e2 e3 e4 e5 h => by
    obtain ⟨st, R'⟩ := put_cell R e1 e2 e3 e4 e5
    exact h _ _ () st R' trivial
  unfold setV at h
  cases d1 with
  | ref n =>
    cases d2 with
    | pd k =>
      have r2 : Rp X.K g H k i := r2
      obtain ⟨a, ha, rfl⟩ := r1
      cases hc : S[n]? with
      | none => simp only [hc] at h; exact h.elim
      | some c =>
        simp only [hc] at h
        cases hp : putC C c k d with
        | none => simp only [hp] at h; exact h.elim
        | some c' =>
          simp only [hp] at h
          unfold putC at hp
          cases c with
          | lst xs =>
            cases k with
            | int m =>
              obtain ⟨j, hj, rfl⟩ := Option.map_eq_some_iff.mp hp
              obtain ⟨vs, h1, h2⟩ := R.lst hc ha
              refine set_list pins s σ H _ _ v ov iv u Q Iv ro ri rv ⟨a, vs, _, j, rfl, Rp.int_inv r2, h1, by rw [← h2.length]; exact hj, ?_⟩
              exact fin (c' := .lst (xs.set j d)) hc trivial ha trivial (fun f => ⟨_, upd_same, (h2.fw f).set (r3.fw f) j⟩) h
            | _ => cases hp
          | dK kvs =>
            obtain ⟨key, hk, hp⟩ := Option.bind_eq_some_iff.mp hp
            split at hp
            · rename_i hl
              cases hp
              obtain ⟨ks, h1, h2⟩ := R.dK hc ha
              have q := fin (c' := .dK (putD kvs key d)) (ob := .dK (putK ks key v)) hc trivial ha trivial (fun f => ⟨_, upd_same, PairsR.put (PairsR.fw f h2) key (r3.fw f)⟩) h
              cases ro
              exact d_setItem (small_units hu) Iv (.inl ⟨ks, key, h1, key_rp r2 hk, by rw [← line_eq, ← PairsR.length h2]; exact hl, rfl⟩) ri rv fun s' I' => ⟨_, I', q⟩
            · cases hp
          | dT kvs =>
            cases k with
            | tuple ks' =>
              obtain ⟨key, hk, hp⟩ := Option.bind_eq_some_iff.mp hp
              split at hp
              · rename_i hl
                cases hp
                obtain ⟨hl, hn⟩ := hl
                obtain ⟨ks, h1, h2⟩ := R.dT hc ha
                have q := fin (c' := .dT (putD kvs key d)) (ob := .dT (putK ks key v)) hc trivial ha trivial (fun f => ⟨_, upd_same, PairsR.put (PairsR.fw f h2) key (r3.fw f)⟩) h
                cases ro
                cases r2 with
                | tup e ra =>
                  have ev := keys_rp ra hk
                  subst ev
                  rcases e with e | ⟨_, e⟩
                  · exact d_setItem (small_units hu) Iv (.inr ⟨ks, key, _, h1, rfl, e, by rw [← line_eq, ← PairsR.length h2]; exact hl, rfl⟩) ri rv fun s' I' => ⟨_, I', q⟩
                  · rw [hC] at e
                    have nn := List.any_eq_false.mp hn _ e
                    rw [eqv_refl' _ (by simpa [nb] using nbs_keys hk)] at nn
                    exact absurd rfl nn
              · cases hp
            | _ => cases hp
          | _ => cases hp
    | _ => exact h.elim
  | _ => cases d2 <;> exact h.elim
theorem tru_rp {I : Ins} {g : Gh} {H : Hp} {S : Sto} {dx : Dv} {x : V} {k : Bool} (R : SR X.K g H S) (r : RpV I X.K g H dx x) (h : truthV dx S = some k) : TruV X.K x H k := by
  have seq : ∀ {p : Addr} {vs : List V} {xs : List D}, RpA X.K g H xs vs → (!vs.isEmpty) = !xs.isEmpty := fun r => by
    cases r <;> rfl
  unfold truthV at h
  cases dx with
  | fn _ => cases h
  | lck _ => cases h
  | pd d =>
    have h : truthD d = some k := h
    have r : Rp X.K g H d x := r
    cases r with
    | non => cases h; rfl
    | bl b => cases h; rfl
    | int i => cases h; rfl
    | str z =>
      unfold truthD at h
      simp only at h
      split at h
      · rename_i hl
        cases h
        exact ⟨by rw [← line_eq]; exact hl, rfl⟩
      · cases h
    | lst h1 h2 => cases h; exact .inl ⟨_, .inl (.inl h1.2), (seq (p := 0) h2).symm⟩
    | tup h1 h2 => cases h; exact .inr (.inl ⟨_, tup_sq h1, (seq (p := 0) h2).symm⟩)
  | ref n =>
    obtain ⟨a, ha, rfl⟩ := r
    simp only at h
    split at h
    · rename_i xs hc
      cases h
      obtain ⟨vs, h1, h2⟩ := R.lst hc ha
      exact .inl ⟨vs, .inl (.inl h1), (seq (p := 0) h2).symm⟩
    · rename_i xs hc
      cases h
      obtain ⟨a', vs, e, h1, h2⟩ := Rp.lst_inv (R.fzl hc ha)
      cases e
      exact .inl ⟨vs, .inl (.inl h1), (seq (p := 0) h2).symm⟩
    · rename_i kvs hc
      cases h
      obtain ⟨ks, h1, h2⟩ := R.dK hc ha
      refine .inr (.inr ⟨ks, h1, ?_⟩)
      have := PairsR.length h2
      cases kvs <;> cases ks <;> first | rfl | cases this
    · cases h
end
end Rx


set_option linter.all false
set_option maxRecDepth 100000
set_option maxHeartbeats 1000000
/-! Rx, part C7: built-in functions, methods. -/
namespace Rx
open PySem PySem.Spec PyProof.Rows L2 SeqAt
/-- a call of one value -/
def r1 (K : PySem.W.Frag) (op : Dv → M Dv) : List V → Hp → VK → Prop := fun xs H Q =>
  ∃ (I : Ins) (W : WX) (σ : L2.St) (g : Gh) (S : Sto) (d : Dv) (x : V), xs = [x] ∧ SR K g H S ∧ RpV I K g H d x ∧ Post I K (RpV I K) W σ g H S (op d S) Q
def r1w (K : PySem.W.Frag) (op : Dv → Dv → M Dv) : List V → Hp → VK → Prop := fun xs H Q =>
  ∃ (I : Ins) (W : WX) (σ : L2.St) (g : Gh) (S : Sto) (d e : Dv) (x y : V), xs = [x, y] ∧ SR K g H S ∧ RpV I K g H d x ∧ RpV I K g H e y ∧ Post I K (RpV I K) W σ g H S (op d e S) Q
section
variable {J : Ins} {K : PySem.W.Frag} {g g' : Gh} {H H' : Hp} {S S' : Sto} {W : WX} {σ : L2.St} {Q : VK}
theorem bools_rp : ∀ {ds : List D} {bs : List Bool} {vs : List V}, RpA K g H ds vs → boolsD ds = some bs → vs = bs.map V.bl
  | [], bs, _, .nil, e => by cases e; rfl
  | d :: ds, bs, _, .cons h r, e => by
    cases d with
    | bool b =>
      obtain ⟨bs', e', rfl⟩ := Option.map_eq_some_iff.mp (show (boolsD ds).map (b :: ·) = some bs from e)
      rw [List.map_cons, Rp.bl_inv h, bools_rp r e']
    | _ => cases e
theorem ints_rp : ∀ {ds : List D} {bs : List Int} {vs : List V}, RpA K g H ds vs → intsD ds = some bs → vs = bs.map V.int
  | [], bs, _, .nil, e => by cases e; rfl
  | d :: ds, bs, _, .cons h r, e => by
    cases d with
    | int b =>
      obtain ⟨bs', e', rfl⟩ := Option.map_eq_some_iff.mp (show (intsD ds).map (b :: ·) = some bs from e)
      rw [List.map_cons, Rp.int_inv h, ints_rp r e']
    | _ => cases e
theorem strs_rp : ∀ {ds : List D} {bs : List Str} {vs : List V}, RpA K g H ds vs → strsD ds = some bs → vs = bs.map V.str
  | [], bs, _, .nil, e => by cases e; rfl
  | d :: ds, bs, _, .cons h r, e => by
    cases d with
    | str b =>
      obtain ⟨bs', e', rfl⟩ := Option.map_eq_some_iff.mp (show (strsD ds).map (b :: ·) = some bs from e)
      rw [List.map_cons, Rp.str_inv h, strs_rp r e']
    | _ => cases e
theorem rp_strs : ∀ ys : List Str, RpA K g H (ys.map .str) (ys.map V.str)
  | [] => .nil
  | y :: ys => .cons (.str y) (rp_strs ys)
theorem rp_keys : ∀ ks : List Key, RpA K g H (ks.map keyD) (ks.map kV)
  | [] => .nil
  | .inl i :: ks => .cons (.int i) (rp_keys ks)
  | .inr x :: ks => .cons (.str x) (rp_keys ks)
theorem maxI_mem : ∀ (ns : List Int) (m : Int), maxI m ns = m ∨ maxI m ns ∈ ns
  | [], m => .inl rfl
  | n :: ns, m => by
    unfold maxI
    rcases maxI_mem ns (if n > m then n else m) with h | h
    · rw [h]
      by_cases c : n > m
      · rw [if_pos c]; exact .inr List.mem_cons_self
      · rw [if_neg c]; exact .inl rfl
    · exact .inr (List.mem_cons_of_mem _ h)
theorem maxI_ge : ∀ (ns : List Int) (m : Int), m ≤ maxI m ns ∧ ∀ y ∈ ns, y ≤ maxI m ns
  | [], m => ⟨Int.le_refl _, fun _ h => nomatch h⟩
  | n :: ns, m => by
    unfold maxI
    obtain ⟨h1, h2⟩ := maxI_ge ns (if n > m then n else m)
    have a : m ≤ (if n > m then n else m) ∧ n ≤ (if n > m then n else m) := by split <;> omega
    refine ⟨Int.le_trans a.1 h1, fun y hy => ?_⟩
    rcases List.mem_cons.mp hy with rfl | hy
    · exact Int.le_trans a.2 h1
    · exact h2 y hy
theorem minI_mem : ∀ (ns : List Int) (m : Int), minI m ns = m ∨ minI m ns ∈ ns
  | [], m => .inl rfl
  | n :: ns, m => by
    unfold minI
    rcases minI_mem ns (if n < m then n else m) with h | h
    · rw [h]
      by_cases c : n < m
      · rw [if_pos c]; exact .inr List.mem_cons_self
      · rw [if_neg c]; exact .inl rfl
    · exact .inr (List.mem_cons_of_mem _ h)
theorem minI_le : ∀ (ns : List Int) (m : Int), minI m ns ≤ m ∧ ∀ y ∈ ns, minI m ns ≤ y
  | [], m => ⟨Int.le_refl _, fun _ h => nomatch h⟩
  | n :: ns, m => by
    unfold minI
    obtain ⟨h1, h2⟩ := minI_le ns (if n < m then n else m)
    have a : (if n < m then n else m) ≤ m ∧ (if n < m then n else m) ≤ n := by split <;> omega
    refine ⟨Int.le_trans h1 a.1, fun y hy => ?_⟩
    rcases List.mem_cons.mp hy with rfl | hy
    · exact Int.le_trans h1 a.2
    · exact h2 y hy
end
section
variable {X : Cx}
theorem c_len : CallR X (.builtin "len") (r1 X.K lenV) := by
  intro pins s σ H xs us Q Iv rs h
  obtain ⟨I, W, σ', g, S, d, x, rfl, R, r, h⟩ := h
  unfold lenV at h
  split at h
  · obtain ⟨a, vs, rfl, h2, h3⟩ := r
    have q := fin_d R h (.int _)
    rw [h3.length] at q
    exact call_len_seq pins s σ H _ us Q Iv rs ⟨a, vs, rfl, .inl h2.sq, q⟩
  · split at h
    · rename_i ys hv
      obtain ⟨a, vs, rfl, h1, h2⟩ := (view_rp R r hv).lst
      have q := fin_d R h (.int _)
      rw [h2.length] at q
      exact call_len_seq pins s σ H _ us Q Iv rs ⟨a, vs, rfl, .inl (.inl (.inl h1)), q⟩
    · rename_i ys hv
      obtain ⟨a, vs, rfl, h1, h2⟩ := Rp.tup_inv (show Rp X.K g H (.tuple ys) x from view_rp R r hv)
      have q := fin_d R h (.int _)
      rw [h2.length] at q
      exact call_len_seq pins s σ H _ us Q Iv rs ⟨a, vs, rfl, .inr h1, q⟩
    · rename_i z hv
      split at h
      · rename_i hl
        obtain rfl := Rp.str_inv (show Rp X.K g H (.str z) x from view_rp R r hv)
        exact call_len_str pins s σ H _ us Q Iv rs ⟨z, rfl, by rw [← line_eq]; exact hl, fin_d R h (.int _)⟩
      · exact h.elim
    · exact h.elim
theorem c_all (hc : X.calm = true) : CallR X (.builtin "all") (r1 X.K allV) := by
  intro pins s σ H xs us Q Iv rs h
  obtain ⟨I, W, σ', g, S, d, x, rfl, R, r, h⟩ := h
  unfold allV at h
  split at h
  · rename_i ys hv
    split at h
    · rename_i bs hb
      obtain ⟨a, vs, rfl, h1, h2⟩ := (view_rp R r hv).lst
      obtain rfl := bools_rp h2 hb
      exact cr_all hc pins s σ H _ us Q Iv rs ⟨a, bs, rfl, .inl (.inl h1), fin_d R h (.bl _)⟩
    · exact h.elim
  · exact h.elim
theorem c_any (hc : X.calm = true) : CallR X (.builtin "any") (r1 X.K anyV) := by
  intro pins s σ H xs us Q Iv rs h
  obtain ⟨I, W, σ', g, S, d, x, rfl, R, r, h⟩ := h
  unfold anyV at h
  split at h
  · rename_i ys hv
    split at h
    · rename_i bs hb
      obtain ⟨a, vs, rfl, h1, h2⟩ := (view_rp R r hv).lst
      obtain rfl := bools_rp h2 hb
      exact cr_any hc pins s σ H _ us Q Iv rs ⟨a, bs, rfl, .inl (.inl h1), fin_d R h (.bl _)⟩
    · exact h.elim
  · exact h.elim
theorem c_int : CallR X (.type "int") (r1 X.K intV) := by
  intro pins s σ H xs us Q Iv rs h
  obtain ⟨I, W, σ', g, S, d, x, rfl, R, r, h⟩ := h
  unfold intV at h
  split at h
  · cases r
    exact call_int1 pins s σ H _ us Q Iv rs (.inl ⟨_, rfl, fin_d R h (.int _)⟩)
  · cases r
    exact call_int1 pins s σ H _ us Q Iv rs (.inr ⟨_, rfl, fin_d R h (.int _)⟩)
  · split at h
    · rename_i n hn
      split at h
      · rename_i hl
        cases r
        exact call_int_str pins s σ H _ us Q Iv rs ⟨_, n, rfl, hn, hl, fin_d R h (.int _)⟩
      · exact h.elim
    · exact h.elim
  · exact h.elim
theorem c_str : CallR X (.type "str") (r1 X.K strV) := by
  intro pins s σ H xs us Q Iv rs h
  obtain ⟨I, W, σ', g, S, d, x, rfl, R, r, h⟩ := h
  unfold strV at h
  split at h
  · split at h
    · rename_i hl
      cases r
      exact call_str_int pins s σ H _ us Q Iv rs ⟨_, rfl, hl, fin_d R h (.str _)⟩
    · exact h.elim
  · cases r
    exact SkE.call_str_str pins s σ H _ us Q Iv rs ⟨_, rfl, fin_d R h (.str _)⟩
  · exact h.elim
theorem c_tuple : CallR X (.type "tuple") (r1 X.K tupleV) := by
  intro pins s σ H xs us Q Iv rs h
  obtain ⟨I, W, σ', g, S, d, x, rfl, R, r, h⟩ := h
  unfold tupleV at h
  split at h
  · rename_i ys hv
    obtain ⟨a, vs, rfl, h1, h2⟩ := (view_rp R r hv).lst
    exact call_tuple_of pins s σ H _ us Q Iv rs ⟨a, vs, rfl, .inl ⟨.inl (.inl h1), fin_t R h h2⟩⟩
  · rename_i ys hv
    have rp : Rp X.K g H (.tuple ys) x := view_rp R r hv
    obtain ⟨a, vs, rfl, h1, h2⟩ := Rp.tup_inv rp
    exact call_tuple_of pins s σ H _ us Q Iv rs ⟨a, vs, rfl, .inr ⟨h1, fin_d R h rp⟩⟩
  · exact h.elim
theorem map_keys {K : PySem.W.Frag} {g : Gh} {H : Hp} {κ : Type} : ∀ {kvs : List (κ × D)} {ks : List (κ × V)}, PairsR K g H kvs ks → kvs.map (·.1) = ks.map (·.1)
  | _, _, .nil => rfl
  | _, _, .cons h t => by rw [List.map_cons, List.map_cons, h.1, map_keys t]
theorem rp_tkeys {K : PySem.W.Frag} {g : Gh} {H : Hp} : ∀ {ks : List (List Key × V)} {bs : List Addr}, IsKeys H ks bs → RpA K g H (ks.map fun p => .tuple (p.1.map keyD)) (bs.map V.ref)
  | _, _, .nil => .nil
  | _, _, .cons h t => .cons (.tup (.inl h) (rp_keys _)) (rp_tkeys t)
theorem c_list (hc : X.calm = true) : CallR X (.type "list") (r1 X.K listV) := by
  intro pins s σ H xs us Q Iv rs h
  obtain ⟨I, W, σ', g, S, d, x, rfl, R, r, h⟩ := h
  unfold listV at h
  cases d with
  | ref n =>
    obtain ⟨a, ha, rfl⟩ := r
    cases hcl : S[n]? with
    | none => simp only [hcl] at h; exact h.elim
    | some c =>
      simp only [hcl] at h
      unfold listC at h
      cases c with
      | lst ys =>
        obtain ⟨vs, h1, h2⟩ := R.lst hcl ha
        exact call_list_of pins s σ H _ us Q Iv rs ⟨a, vs, rfl, .inl (.inl (.inl h1)), fin_l R h h2⟩
      | fzl ys =>
        obtain ⟨a', vs, e, h1, h2⟩ := Rp.lst_inv (R.fzl hcl ha)
        cases e
        exact call_list_of pins s σ H _ us Q Iv rs ⟨a, vs, rfl, .inl (.inl (.inl h1)), fin_l R h h2⟩
      | dK kvs =>
        obtain ⟨ks, h1, h2⟩ := R.dK hcl ha
        refine call_list_dK hc pins s σ H _ us Q Iv rs ⟨a, ks, rfl, h1, ?_⟩
        have ra : RpA X.K g H (kvs.map fun p => keyD p.1) (ks.map fun kv => kV kv.1) := by
          have e := map_keys h2
          have e1 : (kvs.map fun p => keyD p.1) = (ks.map (·.1)).map keyD := by rw [← e, List.map_map]; rfl
          have e2 : (ks.map fun kv => kV kv.1) = (ks.map (·.1)).map kV := by rw [List.map_map]; rfl
          rw [e1, e2]
          exact rp_keys _
        exact fin_l R h ra
      | dT kvs =>
        obtain ⟨ks, h1, h2⟩ := R.dT hcl ha
        refine call_list_dT hc pins s σ H _ us Q Iv rs ⟨a, ks, rfl, .inl h1, fun p bs hp hb => ?_⟩
        have ra : RpA X.K g H (kvs.map fun p => .tuple (p.1.map keyD)) (bs.map V.ref) := by
          have e := map_keys h2
          have e1 : (kvs.map fun p => PyData.tuple (p.1.map keyD)) = ks.map fun p => .tuple (p.1.map keyD) := by
            have : ∀ l : List (List Key × D), (l.map fun p => PyData.tuple (p.1.map keyD)) = (l.map (·.1)).map fun k => .tuple (k.map keyD) := fun l => by rw [List.map_map]; rfl
            rw [this, e, List.map_map]; rfl
          rw [e1]
          exact rp_tkeys hb
        exact fin_l R h ra p hp
      | dead => exact h.elim
  | pd d =>
    cases d with
    | list ys =>
      obtain ⟨a, vs, rfl, h1, h2⟩ := Rp.lst_inv (show Rp X.K g H (.list ys) x from r)
      exact call_list_of pins s σ H _ us Q Iv rs ⟨a, vs, rfl, .inl (.inl (.inl h1)), fin_l R h h2⟩
    | tuple ys =>
      obtain ⟨a, vs, rfl, h1, h2⟩ := Rp.tup_inv (show Rp X.K g H (.tuple ys) x from r)
      exact call_list_of pins s σ H _ us Q Iv rs ⟨a, vs, rfl, .inr h1, fin_l R h h2⟩
    | _ => exact h.elim
  | lck ys =>
    obtain ⟨a, vs, rfl, h2, h3⟩ := r
    exact call_list_of pins s σ H _ us Q Iv rs ⟨a, vs, rfl, .inl h2.sq, fin_l R h h3⟩
  | fn k => exact h.elim
theorem c_abs : CallR X (.builtin "abs") (r1 X.K Rx.absV) := by
  intro pins s σ H xs us Q Iv rs h
  obtain ⟨I, W, σ', g, S, d, x, rfl, R, r, h⟩ := h
  unfold Rx.absV at h
  split at h
  · cases r
    exact call_abs pins s σ H _ us Q Iv rs ⟨_, rfl, fin_d R h (.int _)⟩
  · exact h.elim
theorem c_max2 (hc : X.calm = true) : CallR X (.builtin "max") (r1w X.K max2V) := by
  intro pins s σ H xs us Q Iv rs h
  obtain ⟨I, W, σ', g, S, d, e, x, y, rfl, R, r, r', h⟩ := h
  unfold max2V at h
  split at h
  · cases r
    cases r'
    exact call_max2 hc pins s σ H _ us Q Iv rs ⟨_, _, rfl, fin_d R h (.int _)⟩
  · exact h.elim
theorem c_min2 (hc : X.calm = true) : CallR X (.builtin "min") (r1w X.K min2V) := by
  intro pins s σ H xs us Q Iv rs h
  obtain ⟨I, W, σ', g, S, d, e, x, y, rfl, R, r, r', h⟩ := h
  unfold min2V at h
  split at h
  · cases r
    cases r'
    exact call_min2 hc pins s σ H _ us Q Iv rs ⟨_, _, rfl, fin_d R h (.int _)⟩
  · exact h.elim
theorem c_sum (hc : X.calm = true) : CallR X (.builtin "sum") (r1 X.K (numsV fun ns => some ns.sum)) := by
  intro pins s σ H xs us Q Iv rs h
  obtain ⟨I, W, σ', g, S, d, x, rfl, R, r, h⟩ := h
  unfold numsV at h
  split at h
  · rename_i ys hv
    split at h
    · rename_i n hn
      obtain ⟨ns, hi, e⟩ := Option.bind_eq_some_iff.mp hn
      cases e
      obtain ⟨a, vs, rfl, h1, h2⟩ := (view_rp R r hv).lst
      obtain rfl := ints_rp h2 hi
      exact cr_sum hc pins s σ H _ us Q Iv rs ⟨a, ns, rfl, .inl (.inl h1), fin_d R h (.int _)⟩
    · exact h.elim
  · exact h.elim
theorem c_max1 (hc : X.calm = true) : CallR X (.builtin "max") (r1 X.K (numsV maxL)) := by
  intro pins s σ H xs us Q Iv rs h
  obtain ⟨I, W, σ', g, S, d, x, rfl, R, r, h⟩ := h
  unfold numsV at h
  split at h
  · rename_i ys hv
    split at h
    · rename_i n hn
      obtain ⟨ns, hi, e⟩ := Option.bind_eq_some_iff.mp hn
      obtain ⟨a, vs, rfl, h1, h2⟩ := (view_rp R r hv).lst
      obtain rfl := ints_rp h2 hi
      refine cr_max hc pins s σ H _ us Q Iv rs ⟨a, ns, rfl, .inl (.inl h1), ?_, fun m hm hge => ?_⟩
      · cases ns with
        | nil => cases e
        | cons _ _ => exact Nat.succ_pos _
      · have q := fin_d R h (.int _)
        cases ns with
        | nil => cases e
        | cons k ks =>
          cases e
          have h3 := maxI_ge ks k
          have : maxI k ks = m := by
            have a1 : maxI k ks ≤ m := by
              rcases maxI_mem ks k with z | z
              · rw [z]; exact hge k List.mem_cons_self
              · exact hge _ (List.mem_cons_of_mem _ z)
            have a2 : m ≤ maxI k ks := by
              rcases List.mem_cons.mp hm with z | z
              · rw [z]; exact h3.1
              · exact h3.2 m z
            omega
          rw [this] at q
          exact q
    · exact h.elim
  · exact h.elim
theorem c_min1 (hc : X.calm = true) : CallR X (.builtin "min") (r1 X.K (numsV minL)) := by
  intro pins s σ H xs us Q Iv rs h
  obtain ⟨I, W, σ', g, S, d, x, rfl, R, r, h⟩ := h
  unfold numsV at h
  split at h
  · rename_i ys hv
    split at h
    · rename_i n hn
      obtain ⟨ns, hi, e⟩ := Option.bind_eq_some_iff.mp hn
      obtain ⟨a, vs, rfl, h1, h2⟩ := (view_rp R r hv).lst
      obtain rfl := ints_rp h2 hi
      refine cr_min hc pins s σ H _ us Q Iv rs ⟨a, ns, rfl, .inl (.inl h1), ?_, fun m hm hle => ?_⟩
      · cases ns with
        | nil => cases e
        | cons _ _ => exact Nat.succ_pos _
      · have q := fin_d R h (.int _)
        cases ns with
        | nil => cases e
        | cons k ks =>
          cases e
          have h3 := minI_le ks k
          have : minI k ks = m := by
            have a1 : m ≤ minI k ks := by
              rcases minI_mem ks k with z | z
              · rw [z]; exact hle k List.mem_cons_self
              · exact hle _ (List.mem_cons_of_mem _ z)
            have a2 : minI k ks ≤ m := by
              rcases List.mem_cons.mp hm with z | z
              · rw [z]; exact h3.1
              · exact h3.2 m z
            omega
          rw [this] at q
          exact q
    · exact h.elim
  · exact h.elim
/-! ### isinstance -/
def rIs (K : PySem.W.Frag) (c : String) : List V → Hp → VK → Prop := fun xs H Q =>
  ∃ (I : Ins) (W : WX) (σ : L2.St) (g : Gh) (S : Sto) (d : Dv) (x : V), xs = [x, .ty c] ∧ SR K g H S ∧ RpV I K g H d x ∧ Post I K (RpV I K) W σ g H S (isiV d [c] S) Q
def kname (d : D) : Option String := match d with
  | .none => some "NoneType" | .bool _ => some "bool" | .int _ => some "int" | .str _ => some "str" | .list _ => some "list" | .tuple _ => some "tuple" | .dict _ => none
theorem isOf_kit {d : D} {c : String} {b : Bool} (h : isOf d c = some b) : ∃ k, kname d = some k ∧ kitB k c = some b := by
  unfold isOf at h
  split at h <;> first
    | (cases h; exact ⟨_, rfl, by decide +kernel⟩)
    | cases h
theorem c_isi (c : String) : CallR X (.builtin "isinstance") (rIs X.K c) := by
  intro pins s σ H xs us Q Iv rs h
  obtain ⟨I, W, σ', g, S, d, x, rfl, R, r, h⟩ := h
  unfold isiV at h
  cases hv : view d S with
  | none => simp only [hv] at h; exact h.elim
  | some dd =>
    simp only [hv] at h
    cases hb : isOf dd c with
    | none => simp only [hb] at h; exact h.elim
    | some b =>
      simp only [hb] at h
      obtain ⟨k, hk, kb⟩ := isOf_kit hb
      have rp := view_rp R r hv
      have ty : TyX X.K H x (.type k) := by
        cases dd with
        | none => cases hk; cases (show Rp X.K g H .none x from rp); exact .base .non
        | bool b => cases hk; cases (show Rp X.K g H (.bool b) x from rp); exact .base (.bl _)
        | int i => cases hk; cases (show Rp X.K g H (.int i) x from rp); exact .base (.int _)
        | str z => cases hk; cases (show Rp X.K g H (.str z) x from rp); exact .base (.str _)
        | list ys =>
          cases hk
          obtain ⟨a, vs, rfl, h1, h2⟩ := rp.lst
          exact .base (.lst h1)
        | tuple ys =>
          cases hk
          cases (show Rp X.K g H (.tuple ys) x from rp) with
          | tup e ra =>
            rcases e with e | ⟨⟨o, its, n, e1, e2, _⟩, _⟩
            · exact .base (.tup e)
            · exact .kTuple e1 e2
        | dict kvs => cases hk
      exact call_isi pins s σ H _ us Q Iv rs ⟨x, .ty c, .type k, .type c, b, rfl, .ty c, ty, kit_ty kb, fin_d R h (.bl _)⟩
end
end Rx


set_option linter.all false
set_option maxRecDepth 100000
set_option maxHeartbeats 1000000
/-! Rx, part C8: methods. -/
namespace Rx
open PySem PySem.Spec PyProof.Rows L2 SeqAt
/-- a method's reading: the receiver, the arguments -/
def rMt (K : PySem.W.Frag) (m : Mt) : V → List V → Hp → VK → Prop := fun x xs H Q =>
  ∃ (I : Ins) (W : WX) (σ : L2.St) (g : Gh) (S : Sto) (d : Dv) (ds : List Dv), SR K g H S ∧ RpV I K g H d x ∧ Paired (RpV I K g H) ds xs ∧ Post I K (RpV I K) W σ g H S (mthV m d ds S) Q
section
variable {X : Cx}
theorem m_append : MtR X "list.append" (rMt X.K .append) := by
  intro pins s σ H x xs v us Q Iv rx rs h
  obtain ⟨I, W, σ', g, S, d, ds, R, r, ra, h⟩ := h
  cases ra with
  | nil => exact h.elim
  | @cons d1 x1 ds1 xs1 h1 t =>
  cases t with
  | cons h2 t => cases t <;> (cases d <;> exact h.elim)
  | nil =>
  have h : Post I X.K (RpV I X.K) W σ' g H S (mth1 .append d d1 S) Q := h
  cases d with
  | pd p => cases p <;> first | exact h.elim | (cases d1 with | pd q => cases q <;> exact h.elim | _ => exact h.elim)
  | fn k => exact h.elim
  | lck ys => exact h.elim
  | ref n =>
    obtain ⟨a, ha, rfl⟩ := r
    have h : Post I X.K (RpV I X.K) W σ' g H S ((toP d1 S).bind fun d s => appC n d s) Q := h
    obtain ⟨e, S', g', st, R', rp, h⟩ := post_toP R h1 h
    unfold appC at h
    split at h
    · rename_i ys hc
      split at h
      · rename_i hl
        obtain ⟨vs, k1, k2⟩ := R'.lst hc (st.get ha)
        refine mt_append pins s σ H _ _ v us Q Iv rx rs ⟨a, vs, x1, rfl, rfl, k1, by rw [← line_eq, ← k2.length]; exact hl, ?_⟩
        obtain ⟨st', R''⟩ := put_cell (c' := .lst (ys ++ [e])) (o := .lst (vs ++ [x1])) R' hc trivial (st.get ha) trivial fun f => ⟨_, upd_same, (k2.fw f).append (.cons (rp.fw f) .nil)⟩
        exact h _ _ .non st' R'' .non
      · exact h.elim
    · exact h.elim
theorem m_extend : MtR X "list.extend" (rMt X.K .extend) := by
  intro pins s σ H x xs v us Q Iv rx rs h
  obtain ⟨I, W, σ', g, S, d, ds, R, r, ra, h⟩ := h
  cases ra with
  | nil => exact h.elim
  | @cons d1 x1 ds1 xs1 h1 t =>
  cases t with
  | cons h2 t => cases t <;> (cases d <;> exact h.elim)
  | nil =>
  have h : Post I X.K (RpV I X.K) W σ' g H S (mth1 .extend d d1 S) Q := h
  cases d with
  | pd p => cases p <;> first | exact h.elim | (cases d1 with | pd q => cases q <;> exact h.elim | _ => exact h.elim)
  | fn k => exact h.elim
  | lck ys => exact h.elim
  | ref n =>
    obtain ⟨a, ha, rfl⟩ := r
    have h : Post I X.K (RpV I X.K) W σ' g H S (extC n d1 S) Q := h
    unfold extC at h
    split at h
    · rename_i zs hv
      split at h
      · rename_i ys hc
        split at h
        · rename_i hl
          obtain ⟨b, ws, rfl, j1, j2⟩ := (view_rp R h1 hv).lst
          obtain ⟨vs, k1, k2⟩ := R.lst hc ha
          refine mt_extend pins s σ H _ _ v us Q Iv rx rs ⟨a, b, vs, ws, rfl, rfl, k1, j1, by rw [← line_eq, ← k2.length, ← j2.length]; exact hl, ?_⟩
          obtain ⟨st', R''⟩ := put_cell (c' := .lst (ys ++ zs)) (o := .lst (vs ++ ws)) R hc trivial ha trivial fun f => ⟨_, upd_same, (k2.fw f).append (j2.fw f)⟩
          exact h _ _ .non st' R'' .non
        · exact h.elim
      · exact h.elim
    · rename_i zs hv
      split at h
      · rename_i ys hc
        split at h
        · rename_i hl
          obtain ⟨b, ws, rfl, j1, j2⟩ := Rp.tup_inv (view_rp R h1 hv)
          obtain ⟨vs, k1, k2⟩ := R.lst hc ha
          refine mt_extendT pins s σ H _ _ v us Q Iv rx rs ⟨a, b, vs, ws, rfl, rfl, k1, j1, by rw [← line_eq, ← k2.length, ← j2.length]; exact hl, ?_⟩
          obtain ⟨st', R''⟩ := put_cell (c' := .lst (ys ++ zs)) (o := .lst (vs ++ ws)) R hc trivial ha trivial fun f => ⟨_, upd_same, (k2.fw f).append (j2.fw f)⟩
          exact h _ _ .non st' R'' .non
        · exact h.elim
      · exact h.elim
    · exact h.elim
theorem m_get2 (hu : X.A.units + 64 < cLine) : MtR X "dict.get" (rMt X.K .get2) := by
  intro pins s σ H x xs v us Q Iv rx rs h
  obtain ⟨I, W, σ', g, S, d, ds, R, r, ra, h⟩ := h
  cases ra with
  | nil => exact h.elim
  | @cons d1 x1 ds1 xs1 h1 t =>
  cases t with
  | nil =>
    have h : Post I X.K (RpV I X.K) W σ' g H S (mth1 .get2 d d1 S) Q := h
    cases d with
    | pd p => cases p <;> first | exact h.elim | (cases d1 with | pd q => cases q <;> exact h.elim | _ => exact h.elim)
    | _ => exact h.elim
  | @cons d2 x2 ds2 xs2 h2 t =>
  cases t with
  | cons h3 t => cases d <;> exact h.elim
  | nil =>
  cases d with
  | pd p => exact h.elim
  | fn k => exact h.elim
  | lck ys => exact h.elim
  | ref n =>
    obtain ⟨a, ha, rfl⟩ := r
    have h : Post I X.K (RpV I X.K) W σ' g H S (getC n d1 d2 S) Q := h
    unfold getC at h
    cases d1 with
    | pd k =>
      obtain ⟨e, S', g', st, R', rp, h⟩ := post_toP R h2 h
      cases hc : S'[n]? with
      | none => simp only [hc] at h; exact h.elim
      | some c =>
        simp only [hc] at h
        cases hd : dget c k with
        | none => simp only [hd] at h; exact h.elim
        | some o =>
          simp only [hd] at h
          have r1 : Rp X.K g' H k x1 := Rp.fw (st.fw R) h1
          obtain ⟨ov, g1, g2⟩ := dget_rp R' hc (st.get ha) r1 hd
          have q : Q (ov.getD x2) H := by
            refine fin_d R' h ?_
            cases o <;> cases ov <;> first | exact g2.elim | exact rp | exact g2
          obtain ⟨u1, u2, rfl, ru1, ru2⟩ := Vals.two rs
          cases rx
          have done : ∀ w' s', L2.Inv X pins σ H s' → RelV (ov.getD x2) w' → EP X pins σ Q w' s' := fun w' s' I' rw' => ⟨_, H, I', rw', q⟩
          rcases g1 with ⟨kvs, kk, e1, e2, e3⟩ | ⟨kvs, kk, b, e1, rfl, e2, e3⟩
          · exact d_get2 (small_units hu) Iv (.inl ⟨kvs, kk, .inl e1, e2, e3⟩) ru1 ru2 done
          · cases (show u1 = Value.ref b from ru1)
            obtain ⟨_, hdm, xs, rel, dd⟩ := dt_of Iv.hok e1
            refine call_meetsIn PySem.F.slot_dict_get dd.typeIs PySem.F.entry_dict_get (PySem.F.args_dict_get_3 _ _ _) (meetsH_dict_get_default (tupleKind (mixKind X.prog X.w)) a b hdm u2) ⟨tupleKind_room_in1 (small_units hu), kk, xs, key_sq Iv e2, dd, done _ _ (Iv.tok _) ?_⟩
            rw [e3]
            exact (rel.val kk).getD ru2
    | _ => exact h.elim
theorem m_str (m : Mt) (id : String) (hm : (m = .split ∧ id = "str.split") ∨ (m = .partition ∧ id = "str.partition") ∨ (m = .startswith ∧ id = "str.startswith") ∨ (m = .join ∧ id = "str.join")) : MtR X id (rMt X.K m) := by
  intro pins s σ H x xs v us Q Iv rx rs h
  obtain ⟨I, W, σ', g, S, d, ds, R, r, ra, h⟩ := h
  cases ra with
  | nil => exact h.elim
  | @cons d1 x1 ds1 xs1 h1 t =>
  cases t with
  | cons h2 t =>
    cases t with
    | nil => rcases hm with ⟨rfl, _⟩ | ⟨rfl, _⟩ | ⟨rfl, _⟩ | ⟨rfl, _⟩ <;> (cases d <;> exact h.elim)
    | cons _ _ => exact h.elim
  | nil =>
  have h : Post I X.K (RpV I X.K) W σ' g H S (mth1 m d d1 S) Q := h
  cases d with
  | fn k => exact h.elim
  | lck ys => exact h.elim
  | ref n => rcases hm with ⟨rfl, _⟩ | ⟨rfl, _⟩ | ⟨rfl, _⟩ | ⟨rfl, _⟩ <;> exact h.elim
  | pd p =>
    cases p with
    | str a =>
      obtain rfl := Rp.str_inv (show Rp X.K g H (.str a) x from r)
      have one : ∀ {b : Str}, d1 = .pd (.str b) → x1 = .str b := by
        rintro b rfl
        exact Rp.str_inv (show Rp X.K g H (.str b) x1 from h1)
      rcases hm with ⟨rfl, rfl⟩ | ⟨rfl, rfl⟩ | ⟨rfl, rfl⟩ | ⟨rfl, rfl⟩
      · cases d1 with
        | pd p1 =>
          cases p1 with
          | str b =>
            obtain rfl := one rfl
            have h : Post I X.K (RpV I X.K) W σ' g H S (str1V .split a b S) Q := h
            unfold str1V at h
            simp only at h
            split at h
            · rename_i hl
              exact mt_split pins s σ H _ _ v us Q Iv rx rs ⟨a, b, rfl, rfl, hl.1, by rw [← line_eq]; exact hl.2, fin_l R h (rp_strs _)⟩
            · exact h.elim
          | _ => exact h.elim
        | _ => exact h.elim
      · cases d1 with
        | pd p1 =>
          cases p1 with
          | str b =>
            obtain rfl := one rfl
            have h : Post I X.K (RpV I X.K) W σ' g H S (str1V .partition a b S) Q := h
            unfold str1V at h
            simp only at h
            split at h
            · rename_i hl
              exact mt_partition pins s σ H _ _ v us Q Iv rx rs ⟨a, b, rfl, rfl, hl.1, by rw [← line_eq]; exact hl.2, fin_t R h (.cons (.str _) (.cons (.str _) (.cons (.str _) .nil)))⟩
            · exact h.elim
          | _ => exact h.elim
        | _ => exact h.elim
      · cases d1 with
        | pd p1 =>
          cases p1 with
          | str b =>
            obtain rfl := one rfl
            exact mt_startswith pins s σ H _ _ v us Q Iv rx rs ⟨a, b, rfl, rfl, fin_d R h (.bl _)⟩
          | _ => exact h.elim
        | _ => exact h.elim
      · have h : Post I X.K (RpV I X.K) W σ' g H S (joinV a d1 S) Q := h
        unfold joinV at h
        split at h
        · rename_i zs hv
          split at h
          · rename_i ys hy
            split at h
            · rename_i hl
              obtain ⟨b, ws, rfl, j1, j2⟩ := (view_rp R h1 hv).lst
              obtain rfl := strs_rp j2 hy
              exact mt_join pins s σ H _ _ v us Q Iv rx rs ⟨a, b, ys, rfl, rfl, .inl (.inl (.inl j1)), hl, fin_d R h (.str _)⟩
            · exact h.elim
          · exact h.elim
        · rename_i zs hv
          split at h
          · rename_i ys hy
            split at h
            · rename_i hl
              obtain ⟨b, ws, rfl, j1, j2⟩ := Rp.tup_inv (show Rp X.K g H (.tuple zs) x1 from view_rp R h1 hv)
              obtain rfl := strs_rp j2 hy
              exact mt_join pins s σ H _ _ v us Q Iv rx rs ⟨a, b, ys, rfl, rfl, .inr j1, hl, fin_d R h (.str _)⟩
            · exact h.elim
          · exact h.elim
        · exact h.elim
    | _ => exact h.elim
/-- the receiver's kind -/
def mtTy (m : Mt) : String := match m with | .append | .extend => "list" | .get2 => "dict" | .tindex => "tuple" | _ => "str"
theorem mthT_ty {I : Ins} {g : Gh} {H : Hp} {S : Sto} {d : Dv} {x : V} (R : SR X.K g H S) (r : RpV I X.K g H d x) (m : Mt) (h : mthT m d S = true) : tyV X.K (mtTy m) x H := by
  have ls : ∀ n, d = .ref n → (match S[n]? with | some (Cell.lst xs) => true | some (Cell.fzl xs) => true | _ => false) = true → tyV X.K "list" x H := by
    rintro n rfl h
    obtain ⟨a, ha, rfl⟩ := r
    split at h
    · rename_i ys hc
      obtain ⟨vs, h1, _⟩ := R.lst hc ha
      exact .inl ⟨rfl, vs, .inl (.inl h1)⟩
    · rename_i ys hc
      obtain ⟨a', vs, e, h1, _⟩ := Rp.lst_inv (R.fzl hc ha)
      cases e
      exact .inl ⟨rfl, vs, .inl (.inl h1)⟩
    · cases h
  have sr : ∀ z, d = .pd (.str z) → tyV X.K "str" x H := by
    rintro z rfl
    obtain rfl := Rp.str_inv (show Rp X.K g H (.str z) x from r)
    rfl
  cases d with
  | fn k => cases m <;> cases h
  | lck ys => cases m <;> cases h
  | pd p => cases p <;> cases m <;> first | (cases h; done) | exact sr _ rfl
  | ref n =>
    cases m <;> first | (cases h; done) | exact ls n rfl h | skip
    obtain ⟨a, ha, rfl⟩ := r
    have h : (match S[n]? with | some (Cell.dK xs) => true | some (Cell.dT xs) => true | _ => false) = true := h
    split at h
    · rename_i ys hc
      obtain ⟨vs, h1, _⟩ := R.dK hc ha
      exact .inr (.inr (.inl ⟨rfl, .inl ⟨vs, h1⟩⟩))
    · rename_i ys hc
      obtain ⟨vs, h1, _⟩ := R.dT hc ha
      exact .inr (.inr (.inl ⟨rfl, .inr ⟨vs, h1⟩⟩))
    · cases h
end
end Rx


set_option linter.all false
set_option maxRecDepth 100000
set_option maxHeartbeats 1000000
/-! Rx, part S1: the order of data, in plain Lean. -/
namespace Rx
open PySem
mutual
theorem eqv_nb : ∀ (a b : D), nb a = true → nb b = true → PyData.eqv a b = true → a = b
  | .int a, b, h1, h2, e => by
    cases b with
    | int b => simp [PyData.eqv] at e; rw [e]
    | str b => simp [PyData.eqv] at e
    | tuple ys => simp [PyData.eqv] at e
    | _ => cases h2
  | .str a, b, h1, h2, e => by
    cases b with
    | int b => simp [PyData.eqv] at e
    | str b => simp [PyData.eqv] at e; rw [e]
    | tuple ys => simp [PyData.eqv] at e
    | _ => cases h2
  | .tuple xs, b, h1, h2, e => by
    cases b with
    | int b => simp [PyData.eqv] at e
    | str b => simp [PyData.eqv] at e
    | tuple ys => rw [eqvs_nb xs ys (by simpa [nb] using h1) (by simpa [nb] using h2) (by simpa [PyData.eqv] using e)]
    | _ => cases h2
  | .none, _, h, _, _ => by cases h
  | .bool _, _, h, _, _ => by cases h
  | .list _, _, h, _, _ => by cases h
  | .dict _, _, h, _, _ => by cases h
theorem eqvs_nb : ∀ (xs ys : List D), nbs xs = true → nbs ys = true → PyData.eqvAll xs ys = true → xs = ys
  | [], [], _, _, _ => rfl
  | [], _ :: _, _, _, e => by simp [PyData.eqvAll] at e
  | _ :: _, [], _, _, e => by simp [PyData.eqvAll] at e
  | x :: xs, y :: ys, h1, h2, e => by
    simp only [nbs, Bool.and_eq_true] at h1 h2
    simp only [PyData.eqvAll, Bool.and_eq_true] at e
    rw [eqv_nb x y h1.1 h2.1 e.1, eqvs_nb xs ys h1.2 h2.2 e.2]
end
theorem eqv_iff {a b : D} (h1 : nb a = true) (h2 : nb b = true) : PyData.eqv a b = true ↔ a = b := ⟨eqv_nb a b h1 h2, fun e => by rw [e]; exact eqv_refl' b h2⟩
theorem eqv_no {a b : D} (h1 : nb a = true) (h2 : nb b = true) (n : a ≠ b) : PyData.eqv a b = false := by
  cases h : PyData.eqv a b with
  | true => exact absurd (eqv_nb a b h1 h2 h) n
  | false => rfl
/-- the order of two rows, by their tails -/
abbrev ltT (xs ys : List D) : Option Bool := ordAll .lt (decide (xs.length < ys.length)) xs ys
theorem ltT_tuple (xs ys : List D) : ltD (.tuple xs) (.tuple ys) = ltT xs ys := by simp [ltD, ordD, lenO]
theorem ltT_cons (x y : D) (xs ys : List D) : ltT (x :: xs) (y :: ys) = if PyData.eqv x y then ltT xs ys else ltD x y := by
  simp [ltT, ordAll]
theorem ltT_nil_l (ys : List D) : ltT [] ys = some (decide (0 < ys.length)) := by simp [ltT, ordAll]
theorem ltT_nil_r (x : D) (xs : List D) : ltT (x :: xs) [] = some false := by simp [ltT, ordAll]
theorem lt_int (a b : Int) : ltD (.int a) (.int b) = some (decide (a < b)) := rfl
theorem lt_str (a b : Str) : ltD (.str a) (.str b) = some (decide (a.cps.toList < b.cps.toList)) := rfl
theorem str_ext {a b : Str} (h : a.cps.toList = b.cps.toList) : a = b := by
  obtain ⟨⟨a⟩⟩ := a
  obtain ⟨⟨b⟩⟩ := b
  exact congrArg (fun l => (⟨⟨l⟩⟩ : Str)) h
mutual
/-- both ways round -/
theorem lt_tri : ∀ (a b : D) (r : Bool), nb a = true → nb b = true → ltD a b = some r → (r = true → ltD b a = some false ∧ a ≠ b) ∧ (r = false → ltD b a = some true ∨ a = b)
  | .int a, b, r, h1, h2, e => by
    cases b with
    | int b =>
      rw [lt_int] at e ⊢
      cases e
      refine ⟨fun h => ⟨?_, fun z => ?_⟩, fun h => ?_⟩
      · have := of_decide_eq_true h
        rw [decide_eq_false (by omega)]
      · cases z
        have := of_decide_eq_true h
        omega
      · have := of_decide_eq_false h
        by_cases q : b < a
        · exact .inl (by rw [decide_eq_true q])
        · exact .inr (by congr 1; omega)
    | _ => simp [ltD, ordD] at e
  | .str a, b, r, h1, h2, e => by
    cases b with
    | str b =>
      rw [lt_str] at e ⊢
      cases e
      refine ⟨fun h => ⟨?_, fun z => ?_⟩, fun h => ?_⟩
      · have := of_decide_eq_true h
        rw [decide_eq_false (List.lt_asymm this)]
      · cases z
        exact List.lt_irrefl _ (of_decide_eq_true h)
      · have := of_decide_eq_false h
        by_cases q : b.cps.toList < a.cps.toList
        · exact .inl (by rw [decide_eq_true q])
        · exact .inr (by rw [str_ext (List.le_antisymm (List.not_lt.mp q) (List.not_lt.mp this))])
    | _ => simp [ltD, ordD] at e
  | .tuple xs, b, r, h1, h2, e => by
    cases b with
    | tuple ys =>
      rw [ltT_tuple] at e ⊢
      obtain ⟨k1, k2⟩ := lts_tri xs ys r (by simpa [nb] using h1) (by simpa [nb] using h2) e
      exact ⟨fun h => ⟨(k1 h).1, fun z => (k1 h).2 (by cases z; rfl)⟩, fun h => (k2 h).imp id fun z => by rw [z]⟩
    | _ => simp [ltD, ordD] at e
  | .none, _, _, h, _, _ => by cases h
  | .bool _, _, _, h, _, _ => by cases h
  | .list _, _, _, h, _, _ => by cases h
  | .dict _, _, _, h, _, _ => by cases h
theorem lts_tri : ∀ (xs ys : List D) (r : Bool), nbs xs = true → nbs ys = true → ltT xs ys = some r → (r = true → ltT ys xs = some false ∧ xs ≠ ys) ∧ (r = false → ltT ys xs = some true ∨ xs = ys)
  | [], [], r, _, _, e => by
    rw [ltT_nil_l] at e
    cases e
    exact ⟨fun h => by simp at h, fun _ => .inr rfl⟩
  | [], y :: ys, r, _, _, e => by
    rw [ltT_nil_l] at e
    cases e
    exact ⟨fun _ => ⟨ltT_nil_r y ys, by simp⟩, fun h => by simp at h⟩
  | x :: xs, [], r, _, _, e => by
    rw [ltT_nil_r] at e
    cases e
    exact ⟨fun h => (by cases h), fun _ => .inl (by rw [ltT_nil_l]; simp)⟩
  | x :: xs, y :: ys, r, h1, h2, e => by
    simp only [nbs, Bool.and_eq_true] at h1 h2
    rw [ltT_cons] at e ⊢
    by_cases q : x = y
    · subst q
      rw [eqv_refl' x h1.1, if_pos rfl] at e ⊢
      obtain ⟨k1, k2⟩ := lts_tri xs ys r h1.2 h2.2 e
      exact ⟨fun h => ⟨(k1 h).1, fun z => (k1 h).2 (List.cons.inj z).2⟩, fun h => (k2 h).imp id fun z => by rw [z]⟩
    · rw [eqv_no h1.1 h2.1 q, if_neg (by simp)] at e
      rw [eqv_no h2.1 h1.1 (Ne.symm q), if_neg (by simp)]
      obtain ⟨k1, k2⟩ := lt_tri x y r h1.1 h2.1 e
      exact ⟨fun h => ⟨(k1 h).1, fun z => q (List.cons.inj z).1⟩, fun h => (k2 h).imp id fun z => absurd z q⟩
end
mutual
theorem lt_tr : ∀ (a b c : D) , nb a = true → nb b = true → nb c = true → ltD a b = some true → ltD b c = some true → (ltD a c).isSome = true → ltD a c = some true
  | .int a, b, c, h1, h2, h3, e1, e2, e3 => by
    cases b with
    | int b =>
      cases c with
      | int c =>
        rw [lt_int] at e1 e2 ⊢
        have k1 := of_decide_eq_true (Option.some.inj e1)
        have k2 := of_decide_eq_true (Option.some.inj e2)
        rw [decide_eq_true (Int.lt_trans k1 k2)]
      | _ => simp [ltD, ordD] at e2
    | _ => simp [ltD, ordD] at e1
  | .str a, b, c, h1, h2, h3, e1, e2, e3 => by
    cases b with
    | str b =>
      cases c with
      | str c =>
        rw [lt_str] at e1 e2 ⊢
        have k1 := of_decide_eq_true (Option.some.inj e1)
        have k2 := of_decide_eq_true (Option.some.inj e2)
        rw [decide_eq_true (List.lt_trans k1 k2)]
      | _ => simp [ltD, ordD] at e2
    | _ => simp [ltD, ordD] at e1
  | .tuple xs, b, c, h1, h2, h3, e1, e2, e3 => by
    cases b with
    | tuple ys =>
      cases c with
      | tuple zs =>
        rw [ltT_tuple] at e1 e2 e3 ⊢
        exact lts_tr xs ys zs (by simpa [nb] using h1) (by simpa [nb] using h2) (by simpa [nb] using h3) e1 e2 e3
      | _ => simp [ltD, ordD] at e2
    | _ => simp [ltD, ordD] at e1
  | .none, _, _, h, _, _, _, _, _ => by cases h
  | .bool _, _, _, h, _, _, _, _, _ => by cases h
  | .list _, _, _, h, _, _, _, _, _ => by cases h
  | .dict _, _, _, h, _, _, _, _, _ => by cases h
theorem lts_tr : ∀ (xs ys zs : List D), nbs xs = true → nbs ys = true → nbs zs = true → ltT xs ys = some true → ltT ys zs = some true → (ltT xs zs).isSome = true → ltT xs zs = some true
  | [], ys, [], _, _, _, e1, e2, _ => by
    cases ys with
    | nil => rw [ltT_nil_l] at e1; simp at e1
    | cons y ys => rw [ltT_nil_r] at e2; cases e2
  | [], ys, z :: zs, _, _, _, e1, e2, _ => by rw [ltT_nil_l]; simp
  | x :: xs, [], zs, _, _, _, e1, _, _ => by rw [ltT_nil_r] at e1; cases e1
  | x :: xs, y :: ys, [], _, _, _, _, e2, _ => by rw [ltT_nil_r] at e2; cases e2
  | x :: xs, y :: ys, z :: zs, h1, h2, h3, e1, e2, e3 => by
    simp only [nbs, Bool.and_eq_true] at h1 h2 h3
    rw [ltT_cons] at e1 e2 e3 ⊢
    by_cases q1 : x = y
    · subst q1
      rw [eqv_refl' x h1.1, if_pos rfl] at e1
      by_cases q2 : x = z
      · subst q2
        rw [eqv_refl' x h1.1, if_pos rfl] at e2 e3 ⊢
        exact lts_tr xs ys zs h1.2 h2.2 h3.2 e1 e2 e3
      · rw [eqv_no h1.1 h3.1 q2, if_neg (by simp)] at e2 ⊢
        exact e2
    · rw [eqv_no h1.1 h2.1 q1, if_neg (by simp)] at e1
      by_cases q2 : y = z
      · subst q2
        rw [eqv_no h1.1 h2.1 q1, if_neg (by simp)]
        exact e1
      · rw [eqv_no h2.1 h3.1 q2, if_neg (by simp)] at e2
        have q3 : x ≠ z := fun e => by
          subst e
          have := ((lt_tri x y true h1.1 h2.1 e1).1 rfl).1
          rw [e2] at this; cases this
        rw [eqv_no h1.1 h3.1 q3, if_neg (by simp)] at e3 ⊢
        exact lt_tr x y z h1.1 h2.1 h3.1 e1 e2 e3
end
theorem lt_irr {a : D} (h : nb a = true) (s : (ltD a a).isSome = true) : ltD a a = some false := by
  cases e : ltD a a with
  | none => rw [e] at s; cases s
  | some r =>
    cases r with
    | false => rfl
    | true => exact absurd rfl ((lt_tri a a true h h e).1 rfl).2
/-! ### a list in which every two may be compared -/
structure Comp (ds : List D) : Prop where
  nb : ∀ a ∈ ds, nb a = true
  cmp : ∀ a ∈ ds, ∀ b ∈ ds, (ltD a b).isSome = true
theorem comp_of {ds : List D} (h : cmpAll ds = true) : Comp ds := by
  unfold cmpAll at h
  refine ⟨fun a ha => ?_, fun a ha b hb => ?_⟩
  · have := List.all_eq_true.mp h a ha
    simp only [Bool.and_eq_true] at this
    exact this.1.1
  · have := List.all_eq_true.mp h a ha
    simp only [Bool.and_eq_true] at this
    exact List.all_eq_true.mp this.2 b hb
theorem Comp.dec {ds : List D} (c : Comp ds) {a b : D} (ha : a ∈ ds) (hb : b ∈ ds) : ∃ r, ltD a b = some r := Option.isSome_iff_exists.mp (c.cmp a ha b hb)
theorem Comp.sub {ds es : List D} (c : Comp ds) (h : ∀ a ∈ es, a ∈ ds) : Comp es := ⟨fun a ha => c.nb a (h a ha), fun a ha b hb => c.cmp a (h a ha) b (h b hb)⟩
/-- in order -/
abbrev Ord (ds : List D) : Prop := ds.Pairwise fun a b => ltD b a = some false
theorem Comp.le_of_lt {ds : List D} (c : Comp ds) {a b : D} (ha : a ∈ ds) (hb : b ∈ ds) (h : ltD a b = some true) : ltD b a = some false := ((lt_tri a b true (c.nb a ha) (c.nb b hb) h).1 rfl).1
theorem ins_ok {x : D} : ∀ {ds : List D}, Comp (x :: ds) → Ord ds → ∃ ys, ins x ds = some ys ∧ ys.Perm (x :: ds) ∧ Ord ys
  | [], c, o => ⟨[x], rfl, .refl _, List.pairwise_singleton _ _⟩
  | y :: ds, c, o => by
    obtain ⟨r, e⟩ := c.dec (a := x) (b := y) (by simp) (by simp)
    cases r with
    | true =>
      refine ⟨x :: y :: ds, by simp [ins, e], .refl _, List.pairwise_cons.mpr ⟨fun z hz => ?_, o⟩⟩
      rcases List.mem_cons.mp hz with rfl | hz
      · exact c.le_of_lt (a := x) (by simp) (by simp) e
      · have hyz : ltD z y = some false := (List.pairwise_cons.mp o).1 z hz
        obtain ⟨r, q⟩ := c.dec (a := z) (b := x) (by simp [hz]) (by simp)
        cases r with
        | false => exact q
        | true =>
          have := lt_tr z x y (c.nb z (by simp [hz])) (c.nb x (by simp)) (c.nb y (by simp)) q e (c.cmp z (by simp [hz]) y (by simp))
          rw [hyz] at this; cases this
    | false =>
      obtain ⟨ys, e1, p1, o1⟩ := ins_ok (x := x) (ds := ds) (c.sub fun a ha => by rcases List.mem_cons.mp ha with rfl | h <;> simp [*]) (List.pairwise_cons.mp o).2
      refine ⟨y :: ys, by simp [ins, e, e1], (p1.cons y).trans (List.Perm.swap x y ds), List.pairwise_cons.mpr ⟨fun z hz => ?_, o1⟩⟩
      rcases List.mem_cons.mp (p1.mem_iff.mp hz) with rfl | hz
      · exact e
      · exact (List.pairwise_cons.mp o).1 z hz
theorem isort_ok : ∀ {ds : List D}, Comp ds → ∃ ys, isort ds = some ys ∧ ys.Perm ds ∧ Ord ys
  | [], _ => ⟨[], rfl, .refl _, .nil⟩
  | x :: ds, c => by
    obtain ⟨ys, e1, p1, o1⟩ := isort_ok (ds := ds) (c.sub fun a ha => by simp [ha])
    obtain ⟨zs, e2, p2, o2⟩ := ins_ok (x := x) (ds := ys) (c.sub fun a ha => by
      rcases List.mem_cons.mp ha with rfl | h
      · simp
      · simp [p1.mem_iff.mp h]) o1
    exact ⟨zs, by simp [isort, e1, e2], p2.trans (p1.cons x), o2⟩
/-- one order alone -/
theorem ord_unique : ∀ {xs ys : List D}, Comp xs → xs.Perm ys → Ord xs → Ord ys → xs = ys
  | [], ys, c, p, _, _ => (List.Perm.nil_eq p)
  | x :: xs, [], c, p, _, _ => absurd p.length_eq (by simp)
  | x :: xs, y :: ys, c, p, o1, o2 => by
    have cy : ∀ a ∈ y :: ys, a ∈ x :: xs := fun a h => p.mem_iff.mpr h
    have hxy : x = y := by
      rcases List.mem_cons.mp (p.mem_iff.mp (List.mem_cons_self (a := x) (l := xs))) with h | h
      · exact h
      · rcases List.mem_cons.mp (cy y (List.mem_cons_self (a := y) (l := ys))) with k | k
        · exact k.symm
        · have e1 := (List.pairwise_cons.mp o2).1 x h
          have e2 := (List.pairwise_cons.mp o1).1 y k
          rcases (lt_tri x y false (c.nb x (by simp)) (c.nb y (by simp [k])) e1).2 rfl with z | z
          · rw [e2] at z; cases z
          · exact z
    subst hxy
    rw [ord_unique (c.sub fun a ha => by simp [ha]) (List.Perm.cons_inv p) (List.pairwise_cons.mp o1).2 (List.pairwise_cons.mp o2).2]
/-- how many lie below -/
def below (ds : List D) (a : D) : Nat := (ds.filter fun c => ltD c a == some true).length
theorem filt_sub {ds : List D} {p q : D → Bool} : ∀ (_ : ∀ c ∈ ds, p c = true → q c = true), (ds.filter p).length ≤ (ds.filter q).length := by
  induction ds with
  | nil => intro _; simp
  | cons x ds ih =>
    intro h
    have := ih fun c hc => h c (by simp [hc])
    have hx := h x (by simp)
    by_cases hp : p x = true
    · rw [List.filter_cons_of_pos hp, List.filter_cons_of_pos (hx hp)]; simp; exact this
    · rw [List.filter_cons_of_neg hp]
      by_cases hq : q x = true
      · rw [List.filter_cons_of_pos hq]; simp; omega
      · rw [List.filter_cons_of_neg hq]; exact this
theorem filt_lt {ds : List D} {p q : D → Bool} {a : D} (ha : a ∈ ds) (h1 : p a = false) (h2 : q a = true) (h : ∀ c ∈ ds, p c = true → q c = true) : (ds.filter p).length < (ds.filter q).length := by
  induction ds with
  | nil => cases ha
  | cons x ds ih =>
    have hx := h x (by simp)
    have hs := filt_sub (ds := ds) (p := p) (q := q) fun c hc => h c (by simp [hc])
    rcases List.mem_cons.mp ha with rfl | ha
    · rw [List.filter_cons_of_neg (by simp [h1]), List.filter_cons_of_pos h2]; simp; omega
    · have := ih ha fun c hc => h c (by simp [hc])
      by_cases hp : p x = true
      · rw [List.filter_cons_of_pos hp, List.filter_cons_of_pos (hx hp)]; simp; exact this
      · rw [List.filter_cons_of_neg hp]
        by_cases hq : q x = true
        · rw [List.filter_cons_of_pos hq]; simp; omega
        · rw [List.filter_cons_of_neg hq]; exact this
theorem below_lt {ds : List D} (c : Comp ds) {a b : D} (ha : a ∈ ds) (hb : b ∈ ds) (h : ltD a b = some true) : below ds a < below ds b := by
  refine filt_lt ha ?_ (by simp [h]) fun x hx e => ?_
  · rw [lt_irr (c.nb a ha) (c.cmp a ha a ha)]; rfl
  · have e : ltD x a = some true := by simpa using e
    rw [lt_tr x a b (c.nb x hx) (c.nb a ha) (c.nb b hb) e h (c.cmp x hx b hb)]; rfl
theorem below_eq {ds : List D} (c : Comp ds) {a b : D} (ha : a ∈ ds) (hb : b ∈ ds) : ltD a b = some (decide (below ds a < below ds b)) := by
  obtain ⟨r, e⟩ := c.dec ha hb
  cases r with
  | true => rw [e, decide_eq_true (below_lt c ha hb e)]
  | false =>
    rcases (lt_tri a b false (c.nb a ha) (c.nb b hb) e).2 rfl with z | z
    · have := below_lt c hb ha z
      rw [e, decide_eq_false (by omega)]
    · subst z
      rw [e, decide_eq_false (by omega)]
end Rx


set_option linter.all false
set_option maxRecDepth 100000
set_option maxHeartbeats 1000000
/-! Rx, part S2: sorted. -/
namespace Rx
open PySem PySem.Spec PyProof.Rows L2 SeqAt
theorem shp_of {ds : List D} (h : cmpAll ds = true) : ∀ a ∈ ds, a.canLay0 = true ∧ a.depth ≤ 64 ∧ nonE a = true := by
  intro a ha
  unfold cmpAll at h
  have := List.all_eq_true.mp h a ha
  simp only [Bool.and_eq_true] at this
  have q := this.1.2
  have c : a.canLay0 = true ∧ a.depth ≤ 64 := by simpa [shp, Bool.and_eq_true] using q.1
  exact ⟨c.1, c.2, q.2⟩
mutual
theorem reads_nb {h : Heap} : ∀ (d e : D) (v : Value) (as bs : List Addr), nb d = true → nb e = true → Reads h v d as → Reads h v e bs → d = e
  | .int a, e, v, as, bs, h1, h2, r, q => by
    cases r
    cases q
    rfl
  | .str a, e, v, as, bs, h1, h2, r, q => by
    cases r
    cases q
    rfl
  | .tuple xs, e, v, as, bs, h1, h2, r, q => by
    cases r with
    | tuple k1 k2 k3 k4 =>
      cases q with
      | tuple j1 j2 j3 j4 =>
        rw [k1] at j1; cases j1
        rw [k3] at j3; cases j3
        rw [readss_nb _ _ _ _ _ (by simpa [nb] using h1) (by simpa [nb] using h2) k4 j4]
      | list j1 j2 j3 j4 => cases h2
      | dict _ _ _ _ _ => cases h2
  | .none, _, _, _, _, h, _, _, _ => by cases h
  | .bool _, _, _, _, _, h, _, _, _ => by cases h
  | .list _, _, _, _, _, h, _, _, _ => by cases h
  | .dict _, _, _, _, _, h, _, _, _ => by cases h
theorem readss_nb {h : Heap} : ∀ (xs ys : List D) (vs : List Value) (as bs : List Addr), nbs xs = true → nbs ys = true → ReadsAll h vs xs as → ReadsAll h vs ys bs → xs = ys
  | [], ys, vs, as, bs, h1, h2, r, q => by
    cases r
    cases q
    rfl
  | x :: xs, ys, vs, as, bs, h1, h2, r, q => by
    cases r with
    | cons r1 r2 =>
      cases q with
      | cons q1 q2 =>
        simp only [nbs, Bool.and_eq_true] at h1 h2
        rw [reads_nb x _ _ _ _ h1.1 h2.1 r1 q1, readss_nb xs _ _ _ _ h1.2 h2.2 r2 q2]
end
section
variable {prog : Program} {w : World} {A : Around} {s : Shared}
theorem katLex_data {b fin : Bool} {Q : Bool → Shared → Prop} : ∀ (xs ys : List D) (i : Nat) (us vs : List Value) (as bs : List Addr) (r : Bool), ReadsAll s.heap us xs as → ReadsAll s.heap vs ys bs → ordAll .lt fin xs ys = some r → PyData.canLayAll0 xs = true → PyData.canLayAll0 ys = true →
    A.units + PyData.depthAll xs < cLine → (b = true → i = 0 → ∀ x t, xs = x :: t → ∀ zs, x ≠ .tuple zs) → Q r s → PySem.W.KatLex prog w A b fin Q (us.zip vs) i s
  | [], ys, i, us, vs, as, bs, r, ra, rb, h, _, _, _, _, hq => by
    cases ra
    have e : fin = r := by simpa [ordAll] using h
    subst e
    rw [List.zip_nil_left]
    exact PySem.W.kat_nil hq
  | x :: xs, [], i, us, vs, as, bs, r, ra, rb, h, _, _, _, _, hq => by
    cases rb
    have e : fin = r := by simpa [ordAll] using h
    subst e
    rw [List.zip_nil_right]
    exact PySem.W.kat_nil hq
  | x :: xs, y :: ys, i, us, vs, as, bs, r, ra, rb, h, ca, cb, hu, hb, hq => by
    cases ra with
    | cons ra1 ra2 =>
      cases rb with
      | cons rb1 rb2 =>
        have ca' : x.canLay0 = true ∧ PyData.canLayAll0 xs = true := by simpa [PyData.canLayAll0, Bool.and_eq_true] using ca
        have cb' : y.canLay0 = true ∧ PyData.canLayAll0 ys = true := by simpa [PyData.canLayAll0, Bool.and_eq_true] using cb
        have hd : A.units + max x.depth (PyData.depthAll xs) < cLine := by simpa [PyData.depthAll] using hu
        rw [List.zip_cons_cons]
        refine PySem.W.kat_cons (eqAt_reads x y A s _ _ _ _ ra1 rb1 ca'.1 cb'.1 (by omega) prog w _ _ ?_)
        unfold ordAll at h
        cases hx : PyData.eqv x y with
        | true =>
          rw [hx, if_pos rfl] at h
          exact PySem.W.kat_yes (katLex_data xs ys (i + 1) _ _ _ _ r ra2 rb2 h ca'.2 cb'.2 (by omega) (fun _ z => absurd z (Nat.succ_ne_zero i)) hq)
        | false =>
          rw [hx, if_neg (by simp)] at h
          refine PySem.W.kat_no ?_
          cases hf : (b && i == 0) with
          | false =>
            exact PySem.W.kat_one _ _ ((rc_data .lt .Lt (.inl ⟨rfl, rfl⟩) x y r A s _ _ _ _ h ra1 rb1 ca'.1 cb'.1 (by omega)) prog w _ (PySem.W.BoolBack Q) hq)
          | true =>
            rw [Bool.and_eq_true] at hf
            have ht := hb hf.1 (by simpa using hf.2) x xs rfl
            cases x with
            | int a =>
              cases y with
              | int c =>
                cases ra1
                cases rb1
                have e := Option.some.inj h
                exact oneLt_any_int (by rw [← e] at hq; exact hq)
              | _ => simp [ordD] at h
            | str a =>
              cases y with
              | str c =>
                cases ra1
                cases rb1
                have e := Option.some.inj h
                exact oneLt_any_str (by rw [← e] at hq; exact hq)
              | _ => simp [ordD] at h
            | tuple zs => exact absurd rfl (ht zs)
            | _ => simp [ordD] at h
end
/-- the data of a value among ds -/
noncomputable def datOf (h : Heap) (ds : List D) (u : Value) : D := by
  classical exact if q : ∃ d, d ∈ ds ∧ ∃ as, Reads h u d as then Classical.choose q else .none
theorem datOf_eq {h : Heap} {ds : List D} (c : Comp ds) {u : Value} {d : D} {as : List Addr} (hd : d ∈ ds) (r : Reads h u d as) : datOf h ds u = d := by
  have q : ∃ d, d ∈ ds ∧ ∃ as, Reads h u d as := ⟨d, hd, as, r⟩
  unfold datOf
  rw [dif_pos q]
  obtain ⟨h1, bs, h2⟩ := Classical.choose_spec q
  exact reads_nb _ _ _ _ _ (c.nb _ h1) (c.nb d hd) h2 r
/-- one kind: whole numbers, texts, rows -/
theorem kinds {ds : List D} (c : Comp ds) (hne : ∀ a ∈ ds, nonE a = true) {d : D} (hd : d ∈ ds) :
    (∀ a ∈ ds, ∃ i, a = .int i) ∨ (∀ a ∈ ds, ∃ x, a = .str x) ∨ ∀ a ∈ ds, ∃ x r, a = .tuple (x :: r) := by
  have all : ∀ a ∈ ds, (ltD d a).isSome = true := fun a ha => c.cmp d hd a ha
  cases d with
  | int i =>
    refine .inl fun a ha => ?_
    have := all a ha
    cases a with
    | int j => exact ⟨j, rfl⟩
    | _ => simp [ltD, ordD] at this
  | str x =>
    refine .inr (.inl fun a ha => ?_)
    have := all a ha
    cases a with
    | str j => exact ⟨j, rfl⟩
    | _ => simp [ltD, ordD] at this
  | tuple xs =>
    refine .inr (.inr fun a ha => ?_)
    have := all a ha
    cases a with
    | tuple ys =>
      cases ys with
      | nil =>
        have := hne _ ha
        cases this
      | cons y ys => exact ⟨y, ys, rfl⟩
    | _ => simp [ltD, ordD] at this
  | _ =>
    have := c.nb _ hd
    cases this
/-- the first members of rows are of one type -/
theorem firsts_type {ds : List D} (c : Comp ds) {x y : D} {xs ys : List D} (h1 : .tuple (x :: xs) ∈ ds) (h2 : .tuple (y :: ys) ∈ ds) : PySem.W.dataType x = PySem.W.dataType y := by
  have n1 : nb x = true := by have := c.nb _ h1; simp only [nb, nbs, Bool.and_eq_true] at this; exact this.1
  have n2 : nb y = true := by have := c.nb _ h2; simp only [nb, nbs, Bool.and_eq_true] at this; exact this.1
  have q := c.cmp _ h1 _ h2
  rw [ltT_tuple, ltT_cons] at q
  by_cases e : x = y
  · rw [e]
  · rw [eqv_no n1 n2 e, if_neg (by simp)] at q
    cases x with
    | int a => cases y with
      | int b => rfl
      | _ => simp [ltD, ordD] at q
    | str a => cases y with
      | str b => rfl
      | _ => simp [ltD, ordD] at q
    | tuple a => cases y with
      | tuple b => rfl
      | _ => simp [ltD, ordD] at q
    | _ => cases n1
theorem cmp_of {prog : Program} {w : World} {A : Around} {s s0 : Shared} {κ : SortKind} {its : List Value} {ds : List D} (c : Comp ds) (hr : ∀ u ∈ its, ∃ d ∈ ds, ∃ as, Reads s0.heap u d as)
    (h : ∀ u v a b as bs, a ∈ ds → b ∈ ds → Reads s0.heap u a as → Reads s0.heap v b bs → ∀ r, ltD a b = some r → ∀ (Q : Bool → Shared → Prop), Q r s → wpAny (model prog w) A (keyLt' κ u v) Q (fun _ _ => False) s) :
    SrtO.Cmp prog w A s κ (fun p => p.1 ∈ its) (SrtO.lt2 fun u v => decide (below ds (datOf s0.heap ds u) < below ds (datOf s0.heap ds v))) := by
  intro p q hp hq
  obtain ⟨a, ha, as, ra⟩ := hr p.1 hp
  obtain ⟨b, hb, bs, rb⟩ := hr q.1 hq
  refine h p.1 q.1 a b as bs ha hb ra rb _ (below_eq c ha hb) _ ⟨rfl, ?_⟩
  show _ = decide (below ds (datOf s0.heap ds p.1) < below ds (datOf s0.heap ds q.1))
  rw [datOf_eq c ha ra, datOf_eq c hb rb]
section
variable {X : Cx}
theorem each_of {α β : Type} {R : α → β → Prop} : ∀ {as : List α} {bs : List β}, Paired R as bs → PySem.W.EachIs R as bs
  | _, _, .nil => .nil
  | _, _, .cons r t => .cons r (each_of t)
theorem dat_map {h : Heap} {ds : List D} (c : Comp ds) : ∀ {us : List Value} {es : List D}, (∀ e ∈ es, e ∈ ds) → Paired (fun u d => ∃ as, Reads h u d as) us es → us.map (datOf h ds) = es
  | _, _, _, .nil => rfl
  | _, _, k, .cons ⟨_, r⟩ t => by rw [List.map_cons, datOf_eq c (k _ List.mem_cons_self) r, dat_map c (fun e he => k e (List.mem_cons_of_mem _ he)) t]
theorem pair_reads {pins : List (Addr × Obj)} {σ : L2.St} {g : Gh} {H : Hp} {s : Shared} (Iv : L2.Inv X pins σ H s) : ∀ {ds : List D} {vs : List V} {us : List Value}, RpA X.K g H ds vs → Vals vs us → Paired (fun u d => ∃ as, Reads s.heap u d as) us ds
  | _, _, _, .nil, .nil => .nil
  | _, _, _, .cons h r, .cons q t => .cons (Dp.reads Iv _ _ _ (Rp.dp h) q) (pair_reads Iv r t)
theorem paired_mem {α β : Type} {R : α → β → Prop} : ∀ {as : List α} {bs : List β}, Paired R as bs → ∀ a ∈ as, ∃ b ∈ bs, R a b
  | _, _, .nil, a, h => by cases h
  | _, _, .cons r t, a, h => by
    rcases List.mem_cons.mp h with rfl | h
    · exact ⟨_, List.mem_cons_self, r⟩
    · obtain ⟨b, h1, h2⟩ := paired_mem t a h
      exact ⟨b, List.mem_cons_of_mem _ h1, h2⟩
theorem one_rp {K : PySem.W.Frag} {g : Gh} {H : Hp} {h : Heap} {ds : List D} (c : Comp ds) {u : Value} : ∀ {es : List D} {xs : List V} {ys : List Value}, RpA K g H es xs → Vals xs ys → Paired (fun u d => ∃ as, Reads h u d as) ys es → (∀ e ∈ es, e ∈ ds) → u ∈ ys → ∃ x, RelV x u ∧ Rp K g H (datOf h ds u) x
  | _, _, _, .nil, r2, _, _, hu => by cases r2; cases hu
  | _, _, _, .cons h1 t1, r2, r3, r4, hu => by
    cases r2 with
    | cons q1 q2 =>
      cases r3 with
      | cons p1 p2 =>
        rcases List.mem_cons.mp hu with e | hu
        · obtain ⟨as, p1⟩ := p1
          subst e
          exact ⟨_, q1, by rw [datOf_eq c (r4 _ List.mem_cons_self) p1]; exact h1⟩
        · exact one_rp c t1 q2 p2 (fun e he => r4 e (List.mem_cons_of_mem _ he)) hu
/-- the answer's items, by what they are -/
theorem out_rp {K : PySem.W.Frag} {g : Gh} {H : Hp} {h : Heap} {ds : List D} {vs : List V} {us : List Value} (c : Comp ds) (ra : RpA K g H ds vs) (rv : Vals vs us) (rr : Paired (fun u d => ∃ as, Reads h u d as) us ds) :
    ∀ {out : List Value}, (∀ u ∈ out, u ∈ us) → ∃ ws, Vals ws out ∧ RpA K g H (out.map (datOf h ds)) ws
  | [], _ => ⟨[], .nil, .nil⟩
  | u :: out, k => by
    obtain ⟨ws, h1, h2⟩ := out_rp c ra rv rr (out := out) fun v hv => k v (List.mem_cons_of_mem _ hv)
    obtain ⟨x, k1, k2⟩ := one_rp c ra rv rr (fun _ h => h) (k u List.mem_cons_self)
    exact ⟨x :: ws, .cons k1 h1, .cons k2 h2⟩
theorem c_sorted (hu : X.A.units + 100 < cLine) : CallR X (.builtin "sorted") (r1 X.K sortV) := by
  intro pins s σ H xs us Q Iv rs h
  obtain ⟨I, W, σ', g, S, d, x, rfl, R, r, h⟩ := h
  unfold sortV at h
  split at h
  · rename_i ds hv
    split at h
    · rename_i hc
      rw [Bool.and_eq_true, decide_eq_true_eq] at hc
      obtain ⟨hc, hlen⟩ := hc
      have c := comp_of hc
      have sh := shp_of hc
      obtain ⟨ys, e1, p1, o1⟩ := isort_ok c
      rw [e1] at h
      obtain ⟨a, vs, rfl, k1, k2⟩ := (view_rp R r hv).lst
      obtain ⟨its, rv, pl, hz⟩ := Iv.list (SqL.of k1)
      rw [Vals.ref1 rs]
      have rr := pair_reads Iv k2 rv
      have hmem : ∀ u ∈ its, ∃ d ∈ ds, ∃ as, Reads s.heap u d as := fun u hu => paired_mem rr u hu
      have swo : SrtO.Swo (fun u v : Value => decide (below ds (datOf s.heap ds u) < below ds (datOf s.heap ds v))) := by
        refine ⟨fun x y h => ?_, fun x y z h1 h2 => ?_⟩
        · have := of_decide_eq_true h
          exact decide_eq_false (by omega)
        · have a1 := of_decide_eq_false h1
          have a2 := of_decide_eq_false h2
          exact decide_eq_false (by omega)
      refine SrtO.sorted_ord swo pl.isList (by rw [← rv.length]; exact hz) (fun h2 h₁ a' _ kk => ?_) fun out q1 q2 => ?_
      · -- what is asked of the items
        intro h' keep
        have kp : ∀ b o, s.heap.get? b = some o → h'.get? b = some o := fun b o e => keep b o (kk b o e).1 (kk b o e).2
        have hl : 2 ≤ ds.length := by rw [← Paired.length rr]; exact h2
        obtain ⟨d0, hd0⟩ : ∃ d0, d0 ∈ ds := by
          cases ds with
          | nil => simp at hl
          | cons d0 _ => exact ⟨d0, List.mem_cons_self⟩
        obtain ⟨u1, u2, rest, eu⟩ : ∃ u1 u2 rest, its = u1 :: u2 :: rest := by
          match its, h2 with
          | u1 :: u2 :: rest, _ => exact ⟨u1, u2, rest, rfl⟩
          | [_], h => exact absurd h (by simp)
          | [], h => exact absurd h (by simp)
        have un : (X.A.in1.in1).units = X.A.units + 2 := rfl
        rcases kinds c (fun a ha => (sh a ha).2.2) hd0 with ki | ks | kt
        · have hI : IntsAre its (its.map SrtO.iv) := SrtO.ints_iv fun v hv => by
            obtain ⟨d, hd, as, rd⟩ := hmem v hv
            obtain ⟨i, rfl⟩ := ki d hd
            cases rd
            exact ⟨_, _, rfl⟩
          refine ⟨oneType', fun Q E hq => ?_, cmp_of (s := { s with heap := h' }) c hmem fun u v a b as bs ha hb ra rb r e Q hq => ?_⟩
          · subst eu
            rw [keyKind_ints hI]
            exact wpAny_pure hq
          · obtain ⟨i, rfl⟩ := ki a ha
            obtain ⟨j, rfl⟩ := ki b hb
            cases ra
            cases rb
            rw [lt_int] at e
            rw [keyLt'_oneType]
            exact oneLt_int (by rw [← Option.some.inj e] at hq; exact hq)
        · have hS : ∃ ss, StrsAre its ss := by
            have : ∀ {l : List Value}, (∀ v ∈ l, ∃ x t, v = Value.str x t) → ∃ ss, StrsAre l ss := by
              intro l
              induction l with
              | nil => intro _; exact ⟨[], .nil⟩
              | cons v l ih =>
                intro k
                obtain ⟨ss, h⟩ := ih fun w hw => k w (List.mem_cons_of_mem _ hw)
                obtain ⟨x, t, rfl⟩ := k v List.mem_cons_self
                exact ⟨x :: ss, .cons x t h⟩
            refine this fun v hv => ?_
            obtain ⟨d, hd, as, rd⟩ := hmem v hv
            obtain ⟨i, rfl⟩ := ks d hd
            cases rd
            exact ⟨_, _, rfl⟩
          obtain ⟨ss, hS⟩ := hS
          refine ⟨oneType', fun Q E hq => ?_, cmp_of (s := { s with heap := h' }) c hmem fun u v a b as bs ha hb ra rb r e Q hq => ?_⟩
          · subst eu
            rw [keyKind_strs hS]
            exact wpAny_pure hq
          · obtain ⟨i, rfl⟩ := ks a ha
            obtain ⟨j, rfl⟩ := ks b hb
            cases ra
            cases rb
            rw [lt_str] at e
            rw [keyLt'_oneType]
            exact oneLt_any_str (by rw [← Option.some.inj e] at hq; exact hq)
        · obtain ⟨fs, f1, f2, f3⟩ := PySem.W.each_katTups (h := h') (each_of (Paired.imp' rr fun u d ⟨as, r⟩ => ⟨as, Reads.keeps kp r⟩)) kt
          obtain ⟨x0, r0, e0⟩ := kt d0 hd0
          subst e0
          refine ⟨tuples' (PySem.W.dataType x0 != Value.type "tuple"), fun Q E hq => ?_, cmp_of (s := { s with heap := h' }) c hmem fun u v a b as bs ha hb ra rb r e Q hq => ?_⟩
          · refine PySem.W.kat_kind (T := PySem.W.dataType x0) f1 (by omega) (fun f hm => ?_) (by cases x0 <;> first | rfl | decide) hq
            obtain ⟨x, r, as, g1, g2⟩ := f3 f hm
            rw [firsts_type c hd0 g1]
            exact PySem.W.looks_reads g2
          · have ra' := Reads.keeps kp ra
            have rb' := Reads.keeps kp rb
            obtain ⟨x, xs, rfl⟩ := kt a ha
            obtain ⟨y, ys, rfl⟩ := kt b hb
            obtain ⟨ca, da, _⟩ := sh _ ha
            obtain ⟨cb, db, _⟩ := sh _ hb
            cases ra' with
            | tuple m1 m2 m3 m4 =>
              cases rb' with
              | tuple n1 n2 n3 n4 =>
                have l1 := readsAll_len m4
                have l2 := readsAll_len n4
                rw [Array.length_toList] at l1 l2
                refine PySem.W.kat_lt (s := { s with heap := h' }) m1 m3 n1 n3 ?_
                rw [l1, l2]
                have dep : PyData.depthAll (x :: xs) + 1 ≤ 64 := by simpa [PyData.depth] using da
                refine katLex_data _ _ 0 _ _ _ _ r m4 n4 (by rw [ltT_tuple] at e; exact e) (by simpa [PyData.canLay0] using ca) (by simpa [PyData.canLay0] using cb) (by rw [un]; omega) (fun hb1 _ x1 t1 he zs hz => ?_) hq
                cases he
                subst hz
                rw [firsts_type c hd0 ha] at hb1
                exact absurd hb1 (by simp [PySem.W.dataType])
      · -- the answer
        have perm : (out.map (datOf s.heap ds)).Perm ds := by
          have := q2.perm.map (datOf s.heap ds)
          rw [dat_map c (fun _ h => h) rr] at this
          exact this
        have cz : Comp (out.map (datOf s.heap ds)) := c.sub fun a ha => perm.mem_iff.mp ha
        have hord : Ord (out.map (datOf s.heap ds)) := by
          refine List.pairwise_map.mpr ?_
          refine List.Pairwise.imp_of_mem (fun {u v} hu' hv' hlt => ?_) q1
          have hu1 := q2.perm.mem_iff.mp hu'
          have hv1 := q2.perm.mem_iff.mp hv'
          obtain ⟨d1, m1, as, w1⟩ := hmem u hu1
          obtain ⟨d2, m2, bs, w2⟩ := hmem v hv1
          have hlt : decide (below ds (datOf s.heap ds v) < below ds (datOf s.heap ds u)) = false := hlt
          rw [datOf_eq c m1 w1, datOf_eq c m2 w2] at hlt ⊢
          rw [below_eq c m2 m1, hlt]
        have ez := ord_unique cz (perm.trans p1.symm) hord o1
        obtain ⟨ws, z1, z2⟩ := out_rp c k2 rv rr (out := out) fun u hu' => q2.perm.mem_iff.mp hu'
        rw [ez] at z2
        obtain ⟨ep, he'⟩ := PyProof.Rows.sortedAll_at s.heap its out.toArray
        have hlen2 : ws.length ≤ sizeLine := by
          rw [z1.length, q2.perm.length_eq, ← rv.length]
          exact hz
        exact ⟨.ref _, upd H (s.heap.objs.size + 1) (.lst ws), Iv.laid (t' := s.toks) (fun _ _ => PyProof.Rows.sortedAll_old) (Nat.le_succ _) ⟨hlen2, out, ep, z1, he'⟩, rfl, fin_l R h z2 _ (Iv.hok.fresh (Nat.le_succ _))⟩
    · exact h.elim
  · exact h.elim
end
end Rx


set_option linter.all false
set_option maxRecDepth 100000
set_option maxHeartbeats 1000000
/-! Rx, part D1: what an expression gives is what its denotation says: the simple forms. -/
namespace Rx
open PySem PySem.Spec PyProof.Rows L2 SeqAt
structure Wld (I : Ins) (K : PySem.W.Frag) (C : List D) (g : Gh) (H : Hp) (S : Sto) (env : Env) (σ : L2.St) : Prop where
  sr : SR K g H S
  er : EnvR I K g H env σ
  kc : g.kc = C
section
variable {I : Ins} {K : PySem.W.Frag} {C : List D} {W : WX} {g g' : Gh} {H H' : Hp} {S S' : Sto} {env : Env} {σ : L2.St}
theorem Wld.st (w : Wld I K C g H S env σ) (st : Stp g H S g' H' S') (R : SR K g' H' S') : Wld I K C g' H' S' env σ := ⟨R, w.er.st st w.sr, st.kc.trans w.kc⟩
theorem Wld.fw (w : Wld I K C g H S env σ) (st : Stp g H S g' H' S') : Fw g H g' H' := st.fw w.sr
abbrev RT : Gh → Hp → Bool → Bool → Prop := fun _ _ a b => b = a
def rE (I : Ins) (K : PySem.W.Frag) (C : List D) (W : WX) (d : DE) : TE := fun σ H Q => ∃ g S env, Wld I K C g H S env σ ∧ Post I K (RpV I K) W σ g H S (d env S) Q
def rT (I : Ins) (K : PySem.W.Frag) (C : List D) (W : WX) (d : DT) : TT := fun σ H Q => ∃ g S env, Wld I K C g H S env σ ∧ Post I K RT W σ g H S (d env S) Q
abbrev RVs (I : Ins) (K : PySem.W.Frag) : Gh → Hp → List Dv → List V → Prop := fun g H => Paired (RpV I K g H)
def rV (I : Ins) (K : PySem.W.Frag) (C : List D) (W : WX) (d : Env → M (List Dv)) : TA := fun σ H Q => ∃ g S env, Wld I K C g H S env σ ∧ Post I K (RVs I K) W σ g H S (d env S) Q
def rP (I : Ins) (K : PySem.W.Frag) (C : List D) (W : WX) (d : Env → M (List D)) : TA := fun σ H Q => ∃ g S env, Wld I K C g H S env σ ∧ Post I K (RpA K) W σ g H S (d env S) Q
def rO (I : Ins) (K : PySem.W.Frag) (C : List D) (W : WX) (d : Env → M (Option Int)) : TO := fun σ H Q => ∃ g S env, Wld I K C g H S env σ ∧ Post I K (fun _ _ a b => b = a) W σ g H S (d env S) Q
variable {γ δ : Type} {R2 : Gh → Hp → γ → δ → Prop} {Q' : δ → Hp → Prop}
theorem goE {d : DE} {f : Dv → M γ} {Q : VK} (w : Wld I K C g H S env σ) (h : Post I K R2 W σ g H S ((d env S).bind f) Q')
    (k : ∀ a S1 g1 H1 b, Wld I K C g1 H1 S1 env σ → Stp g H S g1 H1 S1 → RpV I K g1 H1 a b → Post I K R2 W σ g1 H1 S1 (f a S1) Q' → Q b H1) : rE I K C W d σ H Q :=
  ⟨g, S, env, w, Post.bind h fun a S1 g1 H1 b st R r q => k a S1 g1 H1 b (w.st st R) st r q⟩
theorem goT {d : DT} {f : Bool → M γ} {Q : Bool → Hp → Prop} (w : Wld I K C g H S env σ) (h : Post I K R2 W σ g H S ((d env S).bind f) Q')
    (k : ∀ a S1 g1 H1, Wld I K C g1 H1 S1 env σ → Stp g H S g1 H1 S1 → Post I K R2 W σ g1 H1 S1 (f a S1) Q' → Q a H1) : rT I K C W d σ H Q :=
  ⟨g, S, env, w, Post.bind h fun a S1 g1 H1 b st R r q => by cases r; exact k a S1 g1 H1 (w.st st R) st q⟩
theorem goV {d : Env → M (List Dv)} {f : List Dv → M γ} {Q : List V → Hp → Prop} (w : Wld I K C g H S env σ) (h : Post I K R2 W σ g H S ((d env S).bind f) Q')
    (k : ∀ a S1 g1 H1 b, Wld I K C g1 H1 S1 env σ → Stp g H S g1 H1 S1 → Paired (RpV I K g1 H1) a b → Post I K R2 W σ g1 H1 S1 (f a S1) Q' → Q b H1) : rV I K C W d σ H Q :=
  ⟨g, S, env, w, Post.bind h fun a S1 g1 H1 b st R r q => k a S1 g1 H1 b (w.st st R) st r q⟩
theorem goP {d : Env → M (List D)} {f : List D → M γ} {Q : List V → Hp → Prop} (w : Wld I K C g H S env σ) (h : Post I K R2 W σ g H S ((d env S).bind f) Q')
    (k : ∀ a S1 g1 H1 b, Wld I K C g1 H1 S1 env σ → Stp g H S g1 H1 S1 → RpA K g1 H1 a b → Post I K R2 W σ g1 H1 S1 (f a S1) Q' → Q b H1) : rP I K C W d σ H Q :=
  ⟨g, S, env, w, Post.bind h fun a S1 g1 H1 b st R r q => k a S1 g1 H1 b (w.st st R) st r q⟩
theorem goO {d : Env → M (Option Int)} {f : Option Int → M γ} {Q : Option Int → Hp → Prop} (w : Wld I K C g H S env σ) (h : Post I K R2 W σ g H S ((d env S).bind f) Q')
    (k : ∀ a S1 g1 H1, Wld I K C g1 H1 S1 env σ → Stp g H S g1 H1 S1 → Post I K R2 W σ g1 H1 S1 (f a S1) Q' → Q a H1) : rO I K C W d σ H Q :=
  ⟨g, S, env, w, Post.bind h fun a S1 g1 H1 b st R r q => by cases r; exact k a S1 g1 H1 (w.st st R) st q⟩
/-- the last step is the answer itself -/
theorem goE' {d : DE} {Q : VK} (w : Wld I K C g H S env σ) (h : Post I K (RpV I K) W σ g H S (d env S) Q) : rE I K C W d σ H Q := ⟨g, S, env, w, h⟩
theorem goT' {d : DT} {Q : Bool → Hp → Prop} (w : Wld I K C g H S env σ) (h : Post I K RT W σ g H S (d env S) Q) : rT I K C W d σ H Q := ⟨g, S, env, w, h⟩
theorem Paired.st' {ds : List Dv} {vs : List V} (h : Paired (RpV I K g H) ds vs) (st : Stp g H S g' H' S') (R : SR K g H S) : Paired (RpV I K g' H') ds vs := Paired.imp' h fun _ _ z => z.st st R
end
theorem pe_imp {X : Cx} {e : Expr} {t t' : TE} (h : PE X e t) (f : ∀ σ H Q, t' σ H Q → t σ H Q) : PE X e t' := ⟨fun pins s σ H Q I q => h.run pins s σ H Q I (f σ H Q q)⟩
theorem pt_imp {X : Cx} {e : Expr} {t t' : TT} (h : PT X e t) (f : ∀ σ H Q, t' σ H Q → t σ H Q) : PT X e t' := ⟨fun pins s σ H Q I q => h.run pins s σ H Q I (f σ H Q q)⟩
theorem pw_imp {X : Cx} {e : Expr} {t t' : TT} (h : PW X e t) (f : ∀ σ H Q, t' σ H Q → t σ H Q) : PW X e t' := ⟨fun wh pins s σ H Q I q => h.run wh pins s σ H Q I (f σ H Q q)⟩
theorem pa_imp {X : Cx} {es : List Expr} {t t' : TA} (h : PA X es t) (f : ∀ σ H Q, t' σ H Q → t σ H Q) : PA X es t' := ⟨fun pos pins s σ H Q I q => h.run pos pins s σ H Q I (f σ H Q q)⟩
theorem po_imp {X : Cx} {e : Option Expr} {t t' : TO} (h : PO X e t) (f : ∀ σ H Q, t' σ H Q → t σ H Q) : PO X e t' := ⟨fun pins s σ H Q I q => h.run pins s σ H Q I (f σ H Q q)⟩

section
variable {X : Cx} {I : Ins} {C : List D} {W : WX} {a b c : Expr} {da db dc : DE} {ta tb : DT} {pos : Pos}
/-- a value's truth, behind the value -/
theorem k_both {e : Expr} {d : DE} (h : PE X e (rE I X.K C W d)) (he : ∀ whole, isTrue e X.env whole = (do let v ← whole; standAt e.pos; holding [v] (truthy v))) :
    PE X e (rE I X.K C W (both d).1) ∧ PT X e (rT I X.K C W (both d).2) := by
  refine ⟨h, pt_imp (pt_truth h he) fun σ H Q ⟨g, S, env, w, q⟩ => goE w q fun x S1 g1 H1 v w1 st r q => ?_⟩
  unfold truthR at q
  cases hk : truthV x S1 with
  | none => rw [hk] at q; exact q.elim
  | some k =>
    rw [hk] at q
    exact ⟨k, tru_rp w1.sr r hk, q.here w1.sr rfl⟩
/-! ### names and constants -/
theorem k_var {i : Nat} {x : Str} (hN : X.N[i]? = some x) (hv : Vis X.env.scope x) (hd : (x == ("__debug__" : Str)) = false) (hcd : (x == ("__classdict__" : Str)) = false) :
    PE X (.Name x pos) (rE I X.K C W fun env s => match env[i]? with
    | some (some v) => .ok v s
    | _ => .stuck) := by
  refine pe_imp (pe_var hN hv hd hcd) fun σ H Q ⟨g, S, env, w, q⟩ => ?_
  dsimp only at q
  split at q
  · rename_i v e
    obtain ⟨u, h1, h2⟩ := w.er.2 i v e
    exact ⟨u, h1, q.here w.sr h2⟩
  · exact q.elim
theorem k_int {i : Int} {j : Nat} : PE X (.Constant (.int i) j pos) (rE I X.K C W fun _ s => .ok (.pd (litD (.int i))) s) := pe_imp pe_int fun σ H Q ⟨g, S, env, w, q⟩ => q.here w.sr (.int i)
theorem k_bl {i : Bool} {j : Nat} : PE X (.Constant (.bool i) j pos) (rE I X.K C W fun _ s => .ok (.pd (litD (.bl i))) s) := pe_imp pe_bl fun σ H Q ⟨g, S, env, w, q⟩ => q.here w.sr (.bl i)
theorem k_non {j : Nat} : PE X (.Constant .none j pos) (rE I X.K C W fun _ s => .ok (.pd (litD .non)) s) := pe_imp pe_non fun σ H Q ⟨g, S, env, w, q⟩ => q.here w.sr .non
theorem k_str {l : List Nat} {j : Nat} {x : Str} (h : x = ⟨l.toArray⟩) : PE X (.Constant (.str x) j pos) (rE I X.K C W fun _ s => .ok (.pd (litD (.str l))) s) := by
  subst h
  exact pe_imp pe_str fun σ H Q ⟨g, S, env, w, q⟩ => q.here w.sr (.str _)
/-- a module's constant -/
def KonOk (X : Cx) (C : List D) (j : Nat) (x : Str) : Prop := ∃ v u d, C[j]? = some d ∧ X.mg x = some u ∧ RelV v u ∧ ∀ g H, g.kc = C → Rp X.K g H d v
theorem k_gbl {j : Nat} {x : Str} (hg : Gl X x) (k : KonOk X C j x) (hd : (x == ("__debug__" : Str)) = false) : PE X (.Name x pos) (rE I X.K C W fun _ s => match C[j]? with
    | some x => .ok (.pd x) s
    | none => .stuck) := by
  obtain ⟨v, u, d, h1, h2, h3, h4⟩ := k
  refine pe_imp (pe_glob hg h2 h3 hd) fun σ H Q ⟨g, S, env, w, q⟩ => ?_
  simp only [h1] at q
  exact q.here w.sr (h4 g H w.kc)
theorem k_fnv {k : Nat} {x : Str} (hg : Gl X x) (hm : X.mg x = some (.ref (I.fa k))) (hd : (x == ("__debug__" : Str)) = false) : PE X (.Name x pos) (rE I X.K C W fun _ s => .ok (.fn k) s) :=
  pe_imp (pe_glob (v := .ref (I.fa k)) hg hm rfl hd) fun σ H Q ⟨g, S, env, w, q⟩ => q.here w.sr rfl
/-! ### operators -/
def opA (o : BOp) : Operator := match o with | .add => .Add | .sub => .Sub | .mul => .Mult | .fdiv => .FloorDiv | .mod => .Mod | .pow => .Pow
theorem k_bin (o : BOp) (ha : PE X a (rE I X.K C W da)) (hb : PE X b (rE I X.K C W db)) :
    PE X (.BinOp a (opA o) b pos) (rE I X.K C W fun env s => (da env s).bind fun x s => (db env s).bind fun y s => binV o x y s) := by
  have op : OpR X (binaryOp (opA o)) (r2 X.K (binV o)) := by
    cases o with
    | add => exact bin_ok .add
    | sub => exact bin_ok .sub
    | mul => exact bin_ok .mul
    | fdiv => exact bin_ok .fdiv
    | mod => exact bin_ok .mod
    | pow => exact bin_ok .pow
  refine pe_imp (pe_op op ha hb) fun σ H Q ⟨g, S, env, w, h⟩ => ?_
  exact goE w h fun x S1 g1 H1 vx w1 st1 rx h1 => goE w1 h1 fun y S2 g2 H2 vy w2 st2 ry h2 => ⟨I, W, σ, g2, S2, x, y, w2.sr, rx.st st2 w1.sr, ry, h2⟩
theorem k_neg (ha : PE X a (rE I X.K C W da)) : PE X (.UnaryOp .USub a pos) (rE I X.K C W fun env s => (da env s).bind fun x s => match x with
    | .pd (.int i) => .ok (.pd (.int (-i))) s
    | _ => .stuck) := by
  refine pe_imp (pe_un un_neg ha) fun σ H Q ⟨g, S, env, w, h⟩ => ?_
  dsimp only at h
  have go : rE I X.K C W da σ H (fun x H1 => ∃ i : Int, x = .int i ∧ Q (.int (-i)) H1) := goE w h fun x S1 g1 H1 vx w1 st1 rx h1 => by
    split at h1
    · rename_i i
      exact ⟨i, Rp.int_inv (show Rp X.K g1 H1 (.int i) vx from rx), Post.here (R1 := RpV I X.K) h1 w1.sr (Rp.int (-i))⟩
    · exact h1.elim
  exact go
theorem k_notE (ha : PE X a (rE I X.K C W da)) : PE X (.UnaryOp .Not a pos) (rE I X.K C W fun env s => (da env s).bind fun x s => (truthR x s).bind fun b s => .ok (.pd (.bool (!b))) s) := by
  refine pe_imp (pe_notT ha) fun σ H Q ⟨g, S, env, w, h⟩ => goE w h fun x S1 g1 H1 vx w1 st1 rx h1 => ?_
  unfold truthR at h1
  cases hk : truthV x S1 with
  | none => rw [hk] at h1; exact h1.elim
  | some k =>
    rw [hk] at h1
    exact ⟨k, tru_rp w1.sr rx hk, Post.here (R1 := RpV I X.K) h1 w1.sr (.bl _)⟩
theorem k_notT (ha : PT X a (rT I X.K C W ta)) : PT X (.UnaryOp .Not a pos) (rT I X.K C W fun env s => (ta env s).bind fun b s => .ok (!b) s) := by
  refine pt_imp (pt_not ha) fun σ H Q ⟨g, S, env, w, h⟩ => goT w h fun x S1 g1 H1 w1 st1 h1 => h1.here w1.sr rfl
theorem k_ifx (hc : PT X c (rT I X.K C W ta)) (ha : PE X a (rE I X.K C W da)) (hb : PE X b (rE I X.K C W db)) :
    PE X (.IfExp c a b pos) (rE I X.K C W fun env s => (ta env s).bind fun k s => if k then da env s else db env s) := by
  refine pe_imp (pe_ifExp hc ha hb) fun σ H Q ⟨g, S, env, w, h⟩ => goT w h fun k S1 g1 H1 w1 st1 h1 => ?_
  cases k with
  | true => exact ⟨g1, S1, env, w1, h1⟩
  | false => exact ⟨g1, S1, env, w1, h1⟩
/-! ### comparisons -/
def copA (o : COp) : CmpOp := match o with | .eq => .Eq | .ne => .NotEq | .lt => .Lt | .le => .LtE | .gt => .Gt | .ge => .GtE | .is => .Is | .isnot => .IsNot | .inn => .In | .notin => .NotIn
theorem cmp_ok (o : COp) (hu : X.A.units + 64 < cLine) : OpR X (compareOp (copA o)) (r2b X.K (cmpV o)) := by
  cases o with
  | eq => exact eq_ok hu
  | ne => exact ne_ok hu
  | lt => exact ord_ok .lt .Lt (.inl ⟨rfl, rfl⟩) (fun _ _ => rfl) hu
  | le => exact ord_ok .le .LtE (.inr (.inl ⟨rfl, rfl⟩)) (fun _ _ => rfl) hu
  | gt => exact ord_ok .gt .Gt (.inr (.inr (.inl ⟨rfl, rfl⟩))) (fun _ _ => rfl) hu
  | ge => exact ord_ok .ge .GtE (.inr (.inr (.inr ⟨rfl, rfl⟩))) (fun _ _ => rfl) hu
  | is => exact is_ok
  | isnot => exact isnot_ok
  | inn => exact in_ok hu
  | notin => exact notin_ok hu
theorem rb_val {g : Gh} {H : Hp} {S : Sto} {σ : L2.St} {r : Res Bool} {Q : VK} (h : Post I X.K (RpV I X.K) W σ g H S (r.bind fun b s => .ok (.pd (.bool b)) s) Q) : Post I X.K RB W σ g H S r Q :=
  Post.bind h fun b S1 g1 H1 c st R rc q => by cases rc; exact q.here R (.bl b)
theorem rb_tst {g : Gh} {H : Hp} {S : Sto} {σ : L2.St} {r : Res Bool} {Q : Bool → Hp → Prop} (h : Post I X.K RT W σ g H S r Q) : Post I X.K RB W σ g H S r (fun z H' => ∃ k, z = .bl k ∧ Q k H') := by
  cases r with
  | ok a S' => exact fun g' H' b st R e => ⟨a, e, h g' H' a st R rfl⟩
  | exc e S' => exact h
  | stuck => exact h
/-- a comparison's denotation -/
def dCmp (o : COp) (da db : DE) : DT := fun env s => (da env s).bind fun x s => (db env s).bind fun y s => cmpV o x y s
theorem k_cmp (o : COp) (hu : X.A.units + 64 < cLine) (ha : PE X a (rE I X.K C W da)) (hb : PE X b (rE I X.K C W db)) (hm : behindInMarks (copA o) b = false) :
    PE X (.Compare a [copA o] [b] pos) (rE I X.K C W (cmpB (dCmp o da db)).1) ∧ PT X (.Compare a [copA o] [b] pos) (rT I X.K C W (cmpB (dCmp o da db)).2) := by
  constructor
  · refine pe_imp (pe_cmpR (cmp_ok o hu) ha hb hm) fun σ H Q ⟨g, S, env, w, h⟩ => ?_
    have h : Post I X.K RB W σ g H S (dCmp o da db env S) Q := rb_val h
    exact goE w h fun x S1 g1 H1 vx w1 st1 rx h1 => goE w1 h1 fun y S2 g2 H2 vy w2 st2 ry h2 => ⟨I, W, σ, g2, S2, x, y, w2.sr, rx.st st2 w1.sr, ry, h2⟩
  · refine pt_imp (pt_cmpR (cmp_ok o hu) ha hb hm) fun σ H Q ⟨g, S, env, w, h⟩ => ?_
    have h : Post I X.K RB W σ g H S (dCmp o da db env S) _ := rb_tst h
    exact goE w h fun x S1 g1 H1 vx w1 st1 rx h1 => goE w1 h1 fun y S2 g2 H2 vy w2 st2 ry h2 => ⟨I, W, σ, g2, S2, x, y, w2.sr, rx.st st2 w1.sr, ry, h2⟩
def dChn (o o' : COp) (da db dc : DE) : DT := fun env s => (da env s).bind fun x s => (db env s).bind fun y s => (cmpV o x y s).bind fun k s =>
      if k then (dc env s).bind fun z s => cmpV o' y z s else .ok false s
theorem k_chn_core (o o' : COp) {σ : L2.St} {H : Hp} {Q : VK} {g : Gh} {S : Sto} {env : Env} (w : Wld I X.K C g H S env σ) (h : Post I X.K RB W σ g H S (dChn o o' da db dc env S) Q) :
    tChain (r2b X.K (cmpV o)) (r2b X.K (cmpV o')) (rE I X.K C W da) (rE I X.K C W db) (rE I X.K C W dc) σ H Q := by
  refine goE w h fun x S1 g1 H1 vx w1 st1 rx h1 => goE w1 h1 fun y S2 g2 H2 vy w2 st2 ry h2 => ?_
  refine ⟨I, W, σ, g2, S2, x, y, w2.sr, rx.st st2 w1.sr, ry, ?_⟩
  refine Post.bind (R1 := RB) h2 fun k S3 g3 H3 z st3 R3 e h3 => ?_
  have w3 := w2.st st3 R3
  refine ⟨k, e, ?_⟩
  cases k with
  | false => exact fin_b w3.sr h3
  | true => exact goE w3 h3 fun u S4 g4 H4 vu w4 st4 ru h4 => ⟨I, W, σ, g4, S4, y, u, w4.sr, (ry.st st3 w2.sr).st st4 w3.sr, ru, h4⟩
theorem k_chn (o o' : COp) (hu : X.A.units + 64 < cLine) (ha : PE X a (rE I X.K C W da)) (hb : PE X b (rE I X.K C W db)) (hc : PE X c (rE I X.K C W dc)) (hm : lastMarks [copA o, copA o'] [b, c] = false) :
    PE X (.Compare a [copA o, copA o'] [b, c] pos) (rE I X.K C W (cmpB (dChn o o' da db dc)).1) ∧ PT X (.Compare a [copA o, copA o'] [b, c] pos) (rT I X.K C W (cmpB (dChn o o' da db dc)).2) := by
  constructor
  · exact pe_imp (pe_chain (cmp_ok o hu) (cmp_ok o' hu) ha hb hc hm) fun σ H Q ⟨g, S, env, w, h⟩ => k_chn_core o o' w (rb_val h)
  · exact pt_imp (pt_chain (cmp_ok o hu) (cmp_ok o' hu) ha hb hc hm) fun σ H Q ⟨g, S, env, w, h⟩ => k_chn_core o o' w (rb_tst h)
/-! ### subscripts, slices -/
theorem k_idx (hu : X.A.units + 64 < cLine) (ha : PE X a (rE I X.K C W da)) (hb : PE X b (rE I X.K C W db)) (hs : PlainIx b) :
    PE X (.Subscript a b pos) (rE I X.K C W fun env s => (da env s).bind fun x s => (db env s).bind fun y s => idxV x y s) := by
  refine pe_imp (pe_ix (idx_ok hu) ha hb hs) fun σ H Q ⟨g, S, env, w, h⟩ => ?_
  exact goE w h fun x S1 g1 H1 vx w1 st1 rx h1 => goE w1 h1 fun y S2 g2 H2 vy w2 st2 ry h2 => ⟨I, W, σ, g2, S2, x, y, w2.sr, rx.st st2 w1.sr, ry, h2⟩
theorem k_onone : PO X none (rO I X.K C W fun _ s => .ok none s) := po_imp po_none fun σ H Q ⟨g, S, env, w, h⟩ => h.here w.sr rfl
theorem k_osome (ha : PE X a (rE I X.K C W da)) : PO X (some a) (rO I X.K C W fun env s => (da env s).bind fun v s => match v with
    | .pd (.int i) => .ok (some i) s
    | _ => .stuck) := by
  refine po_imp (po_some ha) fun σ H Q ⟨g, S, env, w, h⟩ => goE w h fun x S1 g1 H1 vx w1 st1 rx h1 => ?_
  split at h1
  · rename_i i
    exact ⟨i, Rp.int_inv (show Rp X.K g1 H1 (.int i) vx from rx), h1.here w1.sr rfl⟩
  · exact h1.elim
theorem k_slc {lo hi : Option Expr} {dl dh : Env → M (Option Int)} {p2 : Pos} (ha : PE X a (rE I X.K C W da)) (hl : PO X lo (rO I X.K C W dl)) (hh : PO X hi (rO I X.K C W dh)) :
    PE X (.Subscript a (.Slice lo hi none p2) pos) (rE I X.K C W fun env s => (da env s).bind fun x s => (dl env s).bind fun l s => (dh env s).bind fun h s => slcI x l h s) := by
  refine pe_imp (pe_slice slc_ok ha hl hh) fun σ H Q ⟨g, S, env, w, h⟩ => goE w h fun x S1 g1 H1 vx w1 st1 rx h1 => goO w1 h1 fun l S2 g2 H2 w2 st2 h2 => goO w2 h2 fun u S3 g3 H3 w3 st3 h3 => ?_
  exact ⟨I, W, σ, g3, S3, x, w3.sr, (rx.st st2 w1.sr).st st3 w2.sr, h3⟩
/-! ### argument lists -/
def star1 (e : Expr) : Bool := match e with
  | .Starred _ _ => true
  | _ => false
theorem star_cons {e : Expr} {es : List Expr} {env : PySem.Env} (h : star1 e = false) : starEach (e :: es) env = (false, eval e env) :: starEach es env := by
  cases e <;> first | rfl | cases h
theorem star_any {env : PySem.Env} {pos : Pos} : ∀ {es : List Expr}, es.any star1 = false → (backTo pos (starEach es env)).any (·.1) = false
  | [], _ => rfl
  | e :: es, h => by
    rw [List.any_cons, Bool.or_eq_false_iff] at h
    rw [star_cons h.1]
    show (false || (backTo pos (starEach es env)).any (·.1)) = false
    rw [star_any h.2]; rfl
theorem k_vnil : PA X [] (rV I X.K C W fun _ s => .ok [] s) := pa_imp pa_nil fun σ H Q ⟨g, S, env, w, h⟩ => h.here w.sr .nil
theorem k_vcons {es : List Expr} {ds : Env → M (List Dv)} (hs : star1 a = false) (ha : PE X a (rE I X.K C W da)) (hr : PA X es (rV I X.K C W ds)) :
    PA X (a :: es) (rV I X.K C W fun env s => (da env s).bind fun v s => (ds env s).bind fun vs s => .ok (v :: vs) s) := by
  refine pa_imp (pa_cons ha hr (star_cons hs)) fun σ H Q ⟨g, S, env, w, h⟩ => goE w h fun x S1 g1 H1 vx w1 st1 rx h1 => goV w1 h1 fun xs S2 g2 H2 vs w2 st2 rs h2 => ?_
  exact h2.here w2.sr (.cons (rx.st st2 w1.sr) rs)
theorem k_pnil : PA X [] (rP I X.K C W fun _ s => .ok [] s) := pa_imp pa_nil fun σ H Q ⟨g, S, env, w, h⟩ => h.here w.sr .nil
theorem k_pcons {es : List Expr} {ds : Env → M (List D)} (hs : star1 a = false) (ha : PE X a (rE I X.K C W da)) (hr : PA X es (rP I X.K C W ds)) :
    PA X (a :: es) (rP I X.K C W fun env s => (da env s).bind fun v s => (toP v s).bind fun d s => (ds env s).bind fun vs s => .ok (d :: vs) s) := by
  refine pa_imp (pa_cons ha hr (star_cons hs)) fun σ H Q ⟨g, S, env, w, h⟩ => goE w h fun x S1 g1 H1 vx w1 st1 rx h1 => ?_
  obtain ⟨d, S2, g2, st2, R2, rd, h2⟩ := post_toP w1.sr rx h1
  exact goP (w1.st st2 R2) h2 fun xs S3 g3 H3 vs w3 st3 rs h3 => h3.here w3.sr (.cons (rd.fw (st3.fw R2)) rs)
theorem k_tup {es : List Expr} {k : Nat} {ds : Env → M (List D)} (hr : PA X es (rP I X.K C W ds)) : PE X (.Tuple es k pos) (rE I X.K C W fun env s => (ds env s).bind fun xs s => if xs.length ≤ line then .ok (.pd (.tuple xs)) s else .stuck) := by
  refine pe_imp (pe_tup hr) fun σ H Q ⟨g, S, env, w, h⟩ => goP w h fun xs S1 g1 H1 vs w1 st1 rs h1 => ?_
  split at h1
  · rename_i hl
    exact ⟨by rw [← rs.length, ← line_eq]; exact hl, fin_t w1.sr h1 rs⟩
  · exact h1.elim
theorem newL_rp {g : Gh} {H : Hp} {S : Sto} {σ : L2.St} {Q : VK} {mu : Bool} {xs : List D} {vs : List V} (R : SR X.K g H S) (rs : RpA X.K g H xs vs) (h : Post I X.K (RpV I X.K) W σ g H S (newL mu xs S) Q) : vs.length ≤ sizeLine ∧ ∀ p, H p = none → Q (.ref p) (upd H p (.lst vs)) := by
  unfold newL at h
  split at h
  · rename_i hl
    refine ⟨by rw [← rs.length, ← line_eq]; exact hl, ?_⟩
    cases mu with
    | false => exact fin_l R h rs
    | true =>
      intro p n
      obtain ⟨st, R'⟩ := new_cell (c := .lst xs) R n (fun g' f => ⟨vs, upd_same, rs.fw f⟩) trivial
      exact h _ _ (.ref p) st R' ⟨p, by simp [Gh.push, R.len], rfl⟩
  · exact h.elim
theorem k_lst {mu : Bool} {es : List Expr} {ds : Env → M (List D)} (hr : PA X es (rP I X.K C W ds)) : PE X (.List es pos) (rE I X.K C W fun env s => (ds env s).bind fun xs s => newL mu xs s) := by
  refine pe_imp (pe_lst hr) fun σ H Q ⟨g, S, env, w, h⟩ => goP w h fun xs S1 g1 H1 vs w1 st1 rs h1 => newL_rp w1.sr rs h1
end
end Rx


set_option linter.all false
set_option maxRecDepth 100000
set_option maxHeartbeats 1000000
/-! Rx, part D2: calls, methods, f-strings, displays of dicts, and/or. -/
namespace Rx
open PySem PySem.Spec PyProof.Rows L2 SeqAt
/-- what a def promises: what its denotation says -/
def SpR (I : Ins) (K : PySem.W.Frag) (C : List D) (call : Mean) (k : Nat) : Sp := fun vs H Q E =>
  ∃ g S ds, SR K g H S ∧ g.kc = C ∧ Paired (RpV I K g H) ds vs ∧ Post I K (RpV I K) (fun c d _ H' => E c d H') [] g H S (call k ds S) Q
structure Callee (X : Cx) (I : Ins) (C : List D) (call : Mean) (n k : Nat) (x : Str) : Prop where
  ex : ∃ fd ps, FnOk X.prog X.w X.K X.mg X.base (L2.CX X.prog X.w) n (I.fa k) fd ps (SpR I X.K C call k) ∧ Binds X.K fd ps []
  mg : X.mg x = some (.ref (I.fa k))
  kp : PySem.W.keepIn X.K (.ref (I.fa k)) = true
section
variable {X : Cx} {I : Ins} {C : List D} {W : WX} {a b c : Expr} {da db dc : DE} {ta tb : DT} {pos p : Pos} {call : Mean} {n k : Nat} {x : Str} {es : List Expr} {ds : Env → M (List Dv)}
theorem post_W {α β : Type} {R : Gh → Hp → α → β → Prop} {W : WX} {σ : L2.St} {g : Gh} {H : Hp} {S : Sto} {r : Res α} {Q : β → Hp → Prop} (h : Post I X.K R W σ g H S r Q) : Post I X.K R (fun c d _ H' => W c d σ H') [] g H S r Q := by
  cases r <;> exact h
theorem sp_of {σ : L2.St} {g : Gh} {H : Hp} {S : Sto} {env : Env} {vs : List Dv} {xs : List V} {Q : VK} (w : Wld I X.K C g H S env σ) (rs : Paired (RpV I X.K g H) vs xs) (h : Post I X.K (RpV I X.K) W σ g H S (call k vs S) Q) :
    SpR I X.K C call k (xs ++ []) H Q (WE W σ) := by
  rw [List.append_nil]
  exact ⟨g, S, vs, w.sr, w.kc, rs, post_W h⟩
theorem k_call (F : Callee X I C call n k x) (hr : Room n X.A) (tk : Takes X W) (hg : Gl X x) (hdb : (x == ("__debug__" : Str)) = false) (hs : (a :: es).any star1 = false) (ha : PA X (a :: es) (rV I X.K C W ds)) :
    PE X (.Call (.Name x p) (a :: es) [] pos) (rE I X.K C W fun env s => (ds env s).bind fun vs s => call k vs s) := by
  obtain ⟨fd, ps, F1, F2⟩ := F.ex
  rw [List.any_cons, Bool.or_eq_false_iff] at hs
  refine pe_imp (pe_callSD (E := WE W) F1 hr hg F.mg F.kp F2 .nil (fun σ => passAt tk σ) ha hdb (star_cons hs.1) (star_any hs.2)) fun σ H Q ⟨g, S, env, w, h⟩ => ?_
  exact goV w h fun vs S1 g1 H1 xs w1 st1 rs h1 => sp_of w1 rs h1
theorem k_call0 (F : Callee X I C call n k x) (hr : Room n X.A) (tk : Takes X W) (hg : Gl X x) (hdb : (x == ("__debug__" : Str)) = false) :
    PE X (.Call (.Name x p) [] [] pos) (rE I X.K C W fun env s => (Res.ok ([] : List Dv) s).bind fun vs s => call k vs s) := by
  obtain ⟨fd, ps, F1, F2⟩ := F.ex
  refine ⟨fun pins s σ H Q Iv ⟨g, S, env, w, h⟩ => ?_⟩
  refine wpAny_Call_Name_kw (ld_glob Iv hg F.mg ?_ hdb)
  exact PySem.W.callWith_K0 Iv.kIn F.kp (run_fnSD (us := []) (E := WE W) F1 hr F2 .nil (passAt tk σ) Iv .nil (sp_of w .nil h))
/-- a local name that holds a def -/
theorem k_callv {nf i : Nat} (F : ∀ k, k < nf → ∃ y, Callee X I C call n k y) (hr : Room n X.A) (tk : Takes X W) (hN : X.N[i]? = some x) (hv : Vis X.env.scope x) (hdb : (x == ("__debug__" : Str)) = false) (hcd : (x == ("__classdict__" : Str)) = false)
    (hs : (a :: es).any star1 = false) (ha : PA X (a :: es) (rV I X.K C W ds)) :
    PE X (.Call (.Name x p) (a :: es) [] pos) (rE I X.K C W fun env s => match env[i]? with
    | some (some (.fn k)) => if k < nf then (ds env s).bind fun vs s => call k vs s else .stuck
    | _ => .stuck) := by
  rw [List.any_cons, Bool.or_eq_false_iff] at hs
  refine ⟨fun pins s σ H Q Iv ⟨g, S, env, w, h⟩ => ?_⟩
  dsimp only at h
  split at h
  · rename_i k e
    split at h
    · rename_i hk
      obtain ⟨u, h1, h2⟩ := w.er.2 i _ e
      cases (show u = .ref (I.fa k) from h2)
      obtain ⟨y, F⟩ := F k hk
      obtain ⟨fd, ps, F1, F2⟩ := F.ex
      refine wpAny_Call_Name_kw (thn ((pe_var (pos := p) hN hv hdb hcd).run pins s σ H (fun v H1 => v = .ref (I.fa k) ∧ H1 = H) Iv ⟨.ref (I.fa k), h1, rfl, rfl⟩) fun u s1 ⟨v, H1, I1, r1, q1⟩ => ?_)
      obtain ⟨rfl, rfl⟩ := q1
      cases r1
      refine PySem.W.callWith_K (h₀ := X.base) Iv.ok.mod.kin F.kp (thn (ha.run pos pins s1 σ _ (fun xs H1 => SpR I X.K C call k (xs ++ []) H1 Q (WE W σ)) I1 (goV w h fun vs S1 g1 H1 xs w1 st1 rs h1 => sp_of w1 rs h1)) fun us s2 ⟨vs, H2, I2, r, q⟩ => ⟨I2.kIn, ?_⟩) (star_cons hs.1) (star_any hs.2)
      exact run_fnSD F1 hr F2 .nil (passAt tk σ) I2 r q
    · exact h.elim
  · exact h.elim
/-! ### built-ins -/
def rBlt (K : PySem.W.Frag) (f : Bf) : List V → Hp → VK → Prop := fun xs H Q =>
  ∃ (I : Ins) (W : WX) (σ : L2.St) (g : Gh) (S : Sto) (ds : List Dv), SR K g H S ∧ Paired (RpV I K g H) ds xs ∧ Post I K (RpV I K) W σ g H S (bltV f ds S) Q
def bfN (f : Bf) : Str := match f with
  | .len => "len" | .all => "all" | .any => "any" | .int => "int" | .str => "str" | .tuple => "tuple" | .list => "list" | .sorted => "sorted" | .min1 => "min" | .max1 => "max" | .min2 => "min" | .max2 => "max" | .abs => "abs" | .sum => "sum"
def bfVal (f : Bf) : Value := match f with
  | .len => .builtin "len" | .all => .builtin "all" | .any => .builtin "any" | .int => .type "int" | .str => .type "str" | .tuple => .type "tuple" | .list => .type "list" | .sorted => .builtin "sorted" | .min1 => .builtin "min" | .max1 => .builtin "max" | .min2 => .builtin "min" | .max2 => .builtin "max" | .abs => .builtin "abs" | .sum => .builtin "sum"
theorem bf_boot (f : Bf) : bootBuiltins (bfN f) = some (bfVal f) := by cases f <;> decide +kernel
theorem callR_imp {f : Value} {r r' : List V → Hp → VK → Prop} (h : CallR X f r) (i : ∀ xs H Q, r' xs H Q → r xs H Q) : CallR X f r' := fun pins s σ H xs us Q Iv rs q => h pins s σ H xs us Q Iv rs (i xs H Q q)
theorem blt_one {f : Bf} {op : Dv → M Dv} (hop : ∀ v s, bltV f [v] s = op v s) (h2 : ∀ v w s, bltV f [v, w] s = .stuck) : ∀ xs H Q, rBlt X.K f xs H Q → r1 X.K op xs H Q := by
  rintro xs H Q ⟨I, W, σ, g, S, ds, R, rs, h⟩
  cases rs with
  | nil => exact h.elim
  | @cons d x ds xs r rs =>
    cases rs with
    | nil =>
      rw [hop] at h
      exact ⟨I, W, σ, g, S, d, x, rfl, R, r, h⟩
    | @cons d2 x2 ds xs r2 rs =>
      cases rs with
      | nil => rw [h2] at h; exact h.elim
      | cons _ _ => exact h.elim
theorem blt_two {f : Bf} {op : Dv → Dv → M Dv} (hop : ∀ v s, bltV f [v] s = .stuck) (h2 : ∀ v w s, bltV f [v, w] s = op v w s) : ∀ xs H Q, rBlt X.K f xs H Q → r1w X.K op xs H Q := by
  rintro xs H Q ⟨I, W, σ, g, S, ds, R, rs, h⟩
  cases rs with
  | nil => exact h.elim
  | @cons d x ds xs r rs =>
    cases rs with
    | nil => rw [hop] at h; exact h.elim
    | @cons d2 x2 ds xs r2 rs =>
      cases rs with
      | nil =>
        rw [h2] at h
        exact ⟨I, W, σ, g, S, d, d2, x, x2, rfl, R, r, r2, h⟩
      | cons _ _ => exact h.elim
/-- sorted is told apart -/
theorem blt_ok (hc : X.calm = true) (hsort : CallR X (.builtin "sorted") (r1 X.K sortV)) (f : Bf) : CallR X (bfVal f) (rBlt X.K f) := by
  cases f with
  | len => exact callR_imp c_len (blt_one (fun _ _ => rfl) fun _ _ _ => rfl)
  | all => exact callR_imp (c_all hc) (blt_one (fun _ _ => rfl) fun _ _ _ => rfl)
  | any => exact callR_imp (c_any hc) (blt_one (fun _ _ => rfl) fun _ _ _ => rfl)
  | int => exact callR_imp c_int (blt_one (fun _ _ => rfl) fun _ _ _ => rfl)
  | str => exact callR_imp c_str (blt_one (fun _ _ => rfl) fun _ _ _ => rfl)
  | tuple => exact callR_imp c_tuple (blt_one (fun _ _ => rfl) fun _ _ _ => rfl)
  | list => exact callR_imp (c_list hc) (blt_one (fun _ _ => rfl) fun _ _ _ => rfl)
  | sorted => exact callR_imp hsort (blt_one (fun _ _ => rfl) fun _ _ _ => rfl)
  | min1 => exact callR_imp (c_min1 hc) (blt_one (fun _ _ => rfl) fun _ _ _ => rfl)
  | max1 => exact callR_imp (c_max1 hc) (blt_one (fun _ _ => rfl) fun _ _ _ => rfl)
  | min2 => exact callR_imp (c_min2 hc) (blt_two (fun _ _ => rfl) fun _ _ _ => rfl)
  | max2 => exact callR_imp (c_max2 hc) (blt_two (fun _ _ => rfl) fun _ _ _ => rfl)
  | abs => exact callR_imp c_abs (blt_one (fun _ _ => rfl) fun _ _ _ => rfl)
  | sum => exact callR_imp (c_sum hc) (blt_one (fun _ _ => rfl) fun _ _ _ => rfl)
theorem k_blt (f : Bf) (hb : CallR X (bfVal f) (rBlt X.K f)) (hg : Gl X (bfN f)) (hm : X.mg (bfN f) = none) (hs : (a :: es).any star1 = false) (ha : PA X (a :: es) (rV I X.K C W ds)) :
    PE X (.Call (.Name (bfN f) p) (a :: es) [] pos) (rE I X.K C W fun env s => (ds env s).bind fun vs s => bltV f vs s) := by
  rw [List.any_cons, Bool.or_eq_false_iff] at hs
  have hn : bfN f ≠ "__name__" := by cases f <;> decide
  have hdb : (bfN f == ("__debug__" : Str)) = false := by cases f <;> decide
  have key : PE X (.Call (.Name (bfN f) p) (a :: es) [] pos) (tCB (rBlt X.K f) (rV I X.K C W ds)) := by
    have bb := bf_boot f
    cases hv : bfVal f with
    | builtin id =>
      rw [hv] at bb hb
      exact pe_callB hb hg hm bb ha hn hdb (star_cons hs.1) (star_any hs.2)
    | type T =>
      rw [hv] at bb hb
      exact pe_callTy hb hg hm bb ha hn hdb (star_cons hs.1) (star_any hs.2)
    | _ => cases f <;> cases hv
  refine pe_imp key fun σ H Q ⟨g, S, env, w, h⟩ => goV w h fun vs S1 g1 H1 xs w1 st1 rs h1 => ⟨I, W, σ, g1, S1, vs, w1.sr, rs, h1⟩
/-- isinstance(x, T) -/
theorem k_isi {T : String} {t : Str} {p2 : Pos} (hg : Gl X "isinstance") (hm : X.mg "isinstance" = none) (hgt : Gl X t) (hmt : X.mg t = none) (hv : bootBuiltins t = some (.type T)) (hn : t ≠ "__name__") (hdb : (t == ("__debug__" : Str)) = false) (hs : star1 a = false)
    (ha : PE X a (rE I X.K C W da)) : PE X (.Call (.Name "isinstance" p) [a, .Name t p2] [] pos) (rE I X.K C W fun env s => (da env s).bind fun x s => isiV x [T] s) := by
  have hT : PE X (.Name t p2) (tC (.ty T)) := pe_bltn hgt hmt hv rfl hn hdb
  have hA : PA X [a, .Name t p2] (tCons (rE I X.K C W da) (tCons (tC (.ty T)) tNil)) := pa_cons ha (pa_cons hT pa_nil) (star_cons hs)
  refine pe_imp (pe_callB (c_isi T) hg hm boot_isinstance hA (by decide) (by decide) (star_cons hs) (star_any (by rfl))) fun σ H Q ⟨g, S, env, w, h⟩ => goE w h fun x S1 g1 H1 v w1 st1 r h1 => ?_
  exact ⟨I, W, σ, g1, S1, x, v, rfl, w1.sr, r, h1⟩
/-! ### methods -/
def base1 (o : Expr) : Bool := match o with
  | .Call (.Name _ _) [] [] _ => false
  | _ => true
theorem base_eq {o : Expr} {m : Str} {env : PySem.Env} {whole : Sem Value} (h : base1 o = true) : attributeBase o m env whole = whole := by
  unfold attributeBase
  unfold base1 at h
  split at h
  · cases h
  · rename_i hne
    split
    · rename_i id p0 pos0
      exact absurd rfl (hne _ _ _)
    · rfl
def mtN (m : Mt) : Str := match m with
  | .append => "append" | .extend => "extend" | .split => "split" | .partition => "partition" | .startswith => "startswith" | .join => "join" | .tindex => "index" | .get2 => "get" | .replace => "replace"
def mtOk (m : Mt) (n : Nat) : Bool := match m with
  | .get2 => n == 2
  | .tindex => false
  | .replace => false
  | _ => n == 1
theorem rMt_one {m : Mt} {x : V} {v : Dv} {ds : List Dv} {xs : List V} {g : Gh} {H : Hp} {S : Sto} {σ : L2.St} {Q : VK} (R : SR X.K g H S) (r : RpV I X.K g H v x) (rs : Paired (RpV I X.K g H) ds xs) (h : Post I X.K (RpV I X.K) W σ g H S (mthV m v ds S) Q) : rMt X.K m x xs H Q :=
  ⟨I, W, σ, g, S, v, ds, R, r, rs, h⟩
theorem k_mth (m : Mt) {apos : Pos} (hu : X.A.units + 64 < cLine) (hm : mtOk m (a :: es).length = true) (hb : base1 b = true) (hl : (apos.endLine == pos.line) = true) (hs : (a :: es).any star1 = false) (ho : PE X b (rE I X.K C W db)) (ha : PA X (a :: es) (rV I X.K C W ds)) :
    PE X (.Call (.Attribute b (mtN m) apos) (a :: es) [] pos) (rE I X.K C W fun env s => (db env s).bind fun x s => if mthT m x s then (ds env s).bind fun vs s => mthV m x vs s else .stuck) := by
  have hs0 := hs
  rw [List.any_cons, Bool.or_eq_false_iff] at hs
  have few : ((backTo pos (starEach (a :: es) X.env)).all (fun x => !x.1) && (backToKw pos (keywordEach [] X.env)).all (fun x => x.1.isSome)
      && decide ((a :: es).length + ([] : List Keyword).length + (if ([] : List Keyword).isEmpty then 0 else 1) < 30)) = true := by
    have hlen : (a :: es).length < 30 := by
      cases m <;> first | (cases hm; done) | (have := beq_iff_eq.mp (show (_ == _) = true from hm); omega)
    have h1 : (backTo pos (starEach (a :: es) X.env)).all (fun x => !x.1) = true := by
      have := star_any (env := X.env) (pos := pos) hs0
      rw [List.all_eq_not_any_not]
      simpa using this
    rw [h1, show backToKw pos (keywordEach [] X.env) = [] from rfl]
    simpa using hlen
  have fin : ∀ {T id : String} {r : V → List V → Hp → VK → Prop}, r = rMt X.K m → mtTy m = T → PE X (.Call (.Attribute b (mtN m) apos) (a :: es) [] pos) (tBM X.K T r (rE I X.K C W db) (rV I X.K C W ds)) →
      PE X (.Call (.Attribute b (mtN m) apos) (a :: es) [] pos) (rE I X.K C W fun env s => (db env s).bind fun x s => if mthT m x s then (ds env s).bind fun vs s => mthV m x vs s else .stuck) := by
    rintro T id r rfl rfl key
    refine pe_imp key fun σ H Q ⟨g, S, env, w, h⟩ => goE w h fun x S1 g1 H1 v w1 st1 r1 h1 => ?_
    split at h1
    · rename_i ht
      exact ⟨mthT_ty w1.sr r1 m ht, goV w1 h1 fun vs S2 g2 H2 xs w2 st2 rs h2 => rMt_one w2.sr (r1.st st2 w1.sr) rs h2⟩
    · exact h1.elim
  cases m with
  | append => exact fin (id := "") rfl rfl (pe_bm PySem.F.plainAttrs_list PySem.F.slot_list_append PySem.F.type_list_append m_append ho ha (base_eq hb) few hl (star_cons hs.1) (star_any hs.2))
  | extend => exact fin (id := "") rfl rfl (pe_bm PySem.F.plainAttrs_list PySem.F.slot_list_extend PySem.F.type_list_extend m_extend ho ha (base_eq hb) few hl (star_cons hs.1) (star_any hs.2))
  | get2 => exact fin (id := "") rfl rfl (pe_bm PySem.F.plainAttrs_dict PySem.F.slot_dict_get PySem.F.type_dict_get (m_get2 hu) ho ha (base_eq hb) few hl (star_cons hs.1) (star_any hs.2))
  | split => exact fin (id := "") rfl rfl (pe_bm PySem.F.plainAttrs_str PySem.F.slot_str_split PySem.F.type_str_split (m_str .split _ (.inl ⟨rfl, rfl⟩)) ho ha (base_eq hb) few hl (star_cons hs.1) (star_any hs.2))
  | partition => exact fin (id := "") rfl rfl (pe_bm PySem.F.plainAttrs_str PySem.F.slot_str_partition PySem.F.type_str_partition (m_str .partition _ (.inr (.inl ⟨rfl, rfl⟩))) ho ha (base_eq hb) few hl (star_cons hs.1) (star_any hs.2))
  | startswith => exact fin (id := "") rfl rfl (pe_bm PySem.F.plainAttrs_str PySem.F.slot_str_startswith PySem.F.type_str_startswith (m_str .startswith _ (.inr (.inr (.inl ⟨rfl, rfl⟩)))) ho ha (base_eq hb) few hl (star_cons hs.1) (star_any hs.2))
  | join => exact fin (id := "") rfl rfl (pe_bm PySem.F.plainAttrs_str PySem.F.slot_str_join PySem.F.type_str_join (m_str .join _ (.inr (.inr (.inr ⟨rfl, rfl⟩)))) ho ha (base_eq hb) few hl (star_cons hs.1) (star_any hs.2))
  | tindex => cases hm
  | replace => cases hm
/-! ### f-strings -/
theorem k_fmt (ha : PE X a (rE I X.K C W da)) : PE X (.FormattedValue a (-1) none pos) (rE I X.K C W fun env s => (da env s).bind fun v s => (fmtV v s).bind fun z s => .ok (.pd (.str z)) s) := by
  refine pe_imp (pe_fmt ha) fun σ H Q ⟨g, S, env, w, h⟩ => goE w h fun x S1 g1 H1 v w1 st1 r h1 => ?_
  unfold fmtV at h1
  split at h1
  · rename_i y
    split at h1
    · rename_i hl
      exact .inl ⟨y, Rp.str_inv (show Rp X.K g1 H1 (.str y) v from r), by rw [← line_eq]; exact hl, Post.here (R1 := RpV I X.K) h1 w1.sr (.str y)⟩
    · exact h1.elim
  · rename_i i
    split at h1
    · rename_i hl
      exact .inr ⟨i, Rp.int_inv (show Rp X.K g1 H1 (.int i) v from r), hl, Post.here (R1 := RpV I X.K) h1 w1.sr (.str _)⟩
    · exact h1.elim
  · exact h1.elim
/-! ### dicts -/
theorem k_dnew (tk : Bool) : PE X (.Dict [] [] pos) (rE I X.K C W fun _ s => .ok (.ref s.length) (s ++ [if tk then .dT [] else .dK []])) := by
  cases tk with
  | true =>
    refine pe_imp pe_dnewT fun σ H Q ⟨g, S, env, w, h⟩ p n => ?_
    obtain ⟨st, R'⟩ := new_cell (c := .dT []) (o := .dT []) w.sr n (fun g' f => ⟨[], upd_same, .nil⟩) trivial
    exact h _ _ (.ref p) st R' ⟨p, by simp [Gh.push, w.sr.len], rfl⟩
  | false =>
    refine pe_imp pe_dnewK fun σ H Q ⟨g, S, env, w, h⟩ p n => ?_
    obtain ⟨st, R'⟩ := new_cell (c := .dK []) (o := .dK []) w.sr n (fun g' f => ⟨[], upd_same, .nil⟩) trivial
    exact h _ _ (.ref p) st R' ⟨p, by simp [Gh.push, w.sr.len], rfl⟩
/-! ### and, or -/
variable {rest : List Expr}
def opB (isAnd : Bool) : BoolOp := if isAnd then .And else .Or
theorem k_bop1 {isAnd : Bool} (ha : PE X a (rE I X.K C W da) ∧ PT X a (rT I X.K C W ta)) : PE X (.BoolOp (opB isAnd) [a] pos) (rE I X.K C W da) ∧ PW X (.BoolOp (opB isAnd) [a] pos) (rT I X.K C W ta) := by
  cases isAnd with
  | true => exact ⟨pe_one ha.1, pw_and1 ha.2⟩
  | false => exact ⟨pe_one ha.1, pw_or1 ha.2⟩
theorem k_bop {isAnd : Bool} (ha : PE X a (rE I X.K C W da) ∧ PT X a (rT I X.K C W ta)) (hb : PE X (.BoolOp (opB isAnd) (b :: rest) pos) (rE I X.K C W db) ∧ PW X (.BoolOp (opB isAnd) (b :: rest) pos) (rT I X.K C W tb)) :
    PE X (.BoolOp (opB isAnd) (a :: b :: rest) pos) (rE I X.K C W fun env s => (da env s).bind fun x s => (truthR x s).bind fun k s => if k == isAnd then db env s else .ok x s) ∧
    PW X (.BoolOp (opB isAnd) (a :: b :: rest) pos) (rT I X.K C W fun env s => (ta env s).bind fun k s => if k == isAnd then tb env s else .ok k s) := by
  have tr : ∀ {σ : L2.St} {H1 : Hp} {g1 : Gh} {S1 : Sto} {env : Env} {x : Dv} {v : V} {Q : VK} (w1 : Wld I X.K C g1 H1 S1 env σ) (r : RpV I X.K g1 H1 x v) (f : Bool → M Dv) (h1 : Post I X.K (RpV I X.K) W σ g1 H1 S1 ((truthR x S1).bind f) Q),
      ∃ k, TruV X.K v H1 k ∧ Post I X.K (RpV I X.K) W σ g1 H1 S1 (f k S1) Q := by
    intro σ H1 g1 S1 env x v Q w1 r f h1
    unfold truthR at h1
    cases hk : truthV x S1 with
    | none => rw [hk] at h1; exact h1.elim
    | some k => rw [hk] at h1; exact ⟨k, tru_rp w1.sr r hk, h1⟩
  cases isAnd with
  | true =>
    refine ⟨pe_imp (pe_andT ha.1 hb.1) fun σ H Q ⟨g, S, env, w, h⟩ => goE w h fun x S1 g1 H1 v w1 st1 r h1 => ?_, pw_imp (pw_and ha.2 hb.2) fun σ H Q ⟨g, S, env, w, h⟩ => goT w h fun k S1 g1 H1 w1 st1 h1 => ?_⟩
    · obtain ⟨k, e, h2⟩ := tr w1 r _ h1
      refine ⟨k, e, ?_⟩
      cases k with
      | true => exact ⟨g1, S1, env, w1, h2⟩
      | false => exact Post.here (R1 := RpV I X.K) h2 w1.sr r
    · cases k with
      | true => exact ⟨g1, S1, env, w1, h1⟩
      | false => exact Post.here (R1 := RT) h1 w1.sr rfl
  | false =>
    refine ⟨pe_imp (pe_orT ha.1 hb.1) fun σ H Q ⟨g, S, env, w, h⟩ => goE w h fun x S1 g1 H1 v w1 st1 r h1 => ?_, pw_imp (pw_or ha.2 hb.2) fun σ H Q ⟨g, S, env, w, h⟩ => goT w h fun k S1 g1 H1 w1 st1 h1 => ?_⟩
    · obtain ⟨k, e, h2⟩ := tr w1 r _ h1
      refine ⟨k, e, ?_⟩
      cases k with
      | false => exact ⟨g1, S1, env, w1, h2⟩
      | true => exact Post.here (R1 := RpV I X.K) h2 w1.sr r
    · cases k with
      | false => exact ⟨g1, S1, env, w1, h1⟩
      | true => exact Post.here (R1 := RT) h1 w1.sr rfl
end
end Rx


set_option linter.all false
set_option maxRecDepth 100000
set_option maxHeartbeats 1000000
/-! Rx, part D3: what is walked; targets. -/
namespace Rx
open PySem PySem.Spec PyProof.Rows L2 SeqAt
section
variable {K : PySem.W.Frag} {g g1 g2 : Gh} {H H1 H2 : Hp} {S S1 S2 : Sto} {p : Addr}
theorem Fw.trans (a : Fw g H g1 H1) (b : Fw g1 H1 g2 H2) : Fw g H g2 H2 :=
  ⟨fun x h => b.fz x (a.fz x h), fun x u h r => b.rd x u (a.fz x h) (a.rd x u h r), fun x u h r => b.lk x u (a.fz x h) (a.lk x u h r), fun x u r => b.tup x u (a.tup x u r), b.kc.trans a.kc⟩
/-- an object that is no one's changes -/
theorem own_upd (R : SR K g H S) {o : HO} (na : ¬ Al g S p) (nf : ¬ g.fz p) (nt : ∀ xs, H p ≠ some (.tup xs)) : Fw g H g (upd H p o) ∧ SR K g (upd H p o) S := by
  have f : Fw g H g (upd H p o) := by
    refine ⟨fun _ h => h, fun b u hb r => by rw [upd_ne (fun z : b = p => nf (z ▸ hb))]; exact r, fun b u hb r => ?_, fun b vs r => by rw [upd_ne (fun z : b = p => nt vs (z ▸ r))]; exact r, rfl⟩
    have ne : b ≠ p := fun z => nf (z ▸ hb)
    rcases r with r | ⟨q, r⟩
    · exact .inl (by rw [upd_ne ne]; exact r)
    · exact .inr ⟨q, by rw [upd_ne ne]; exact r⟩
  refine ⟨f, R.len, fun i ci h => ?_, R.inj, fun a h => ?_⟩
  · obtain ⟨a, e, q, n⟩ := R.cell i ci h
    exact ⟨a, e, q.fw f fun hm => upd_ne fun z => na ⟨i, ci, h, hm, by rw [e, z]⟩, n⟩
  · by_cases z : a = p
    · rw [z, upd_same]; simp
    · rw [upd_ne z]; exact R.frz a h
/-- an object that is no one's becomes a cell -/
theorem adopt (R : SR K g H S) {c : Cell} (na : ¬ Al g S p) (nf : ¬ g.fz p) (hc : ∀ g', Fw g H g' H → CRp K g' H c p) (hm : c.mut) : SR K (g.push p) H (S ++ [c]) ∧ ∀ a, Al (g.push p) (S ++ [c]) a → Al g S a ∨ a = p := by
  have f : Fw g H (g.push p) H := ⟨fun _ h => h, fun _ _ _ h => h, fun _ _ _ h => h, fun _ _ h => h, rfl⟩
  have get : ∀ (i : Nat) (ci : Cell), (S ++ [c])[i]? = some ci → (i < S.length ∧ S[i]? = some ci) ∨ (i = S.length ∧ ci = c) := fun i ci h => by
    by_cases hi : i < S.length
    · rw [List.getElem?_append_left hi] at h; exact .inl ⟨hi, h⟩
    · rw [List.getElem?_append_right (by omega)] at h
      by_cases h0 : i = S.length
      · subst h0; simp at h; exact .inr ⟨rfl, h.symm⟩
      · have : 1 ≤ i - S.length := by omega
        rw [List.getElem?_eq_none (by simpa using this)] at h; cases h
  have getm : ∀ i, i < S.length → (g.push p).m[i]? = g.m[i]? := fun i hi => by
    show (g.m ++ [p])[i]? = _
    rw [List.getElem?_append_left (by rw [R.len]; exact hi)]
  have getp : (g.push p).m[S.length]? = some p := by
    show (g.m ++ [p])[S.length]? = _
    rw [← R.len]; simp
  have old : ∀ (i : Nat) (ci : Cell) (a : Addr), S[i]? = some ci → ci.mut → g.m[i]? = some a → a ≠ p := fun i ci a h1 h2 h3 e => na ⟨i, ci, h1, h2, by rw [h3, e]⟩
  refine ⟨⟨?_, fun i ci h => ?_, fun i j ci cj a h1 h2 h3 h4 h5 h6 => ?_, R.frz⟩, fun a h => ?_⟩
  · show (g.m ++ [p]).length = _
    rw [List.length_append, List.length_append, R.len]; rfl
  · rcases get i ci h with ⟨hi, h1⟩ | ⟨hi, rfl⟩
    · obtain ⟨a, e, q, n⟩ := R.cell i ci h1
      exact ⟨a, by rw [getm i hi]; exact e, q.fw f fun _ => rfl, n⟩
    · subst hi
      exact ⟨p, getp, hc _ f, fun _ => nf⟩
  · rcases get i ci h1 with ⟨hi, k1⟩ | ⟨hi, ei⟩
    · rw [getm i hi] at h5
      rcases get j cj h3 with ⟨hj, k3⟩ | ⟨hj, ej⟩
      · rw [getm j hj] at h6
        exact R.inj i j ci cj a k1 h2 k3 h4 h5 h6
      · rw [hj, getp] at h6
        exact absurd (Option.some.inj h6).symm (old i ci _ k1 h2 h5)
    · rw [hi, getp] at h5
      rcases get j cj h3 with ⟨hj, k3⟩ | ⟨hj, ej⟩
      · rw [getm j hj] at h6
        exact absurd (Option.some.inj h5).symm (old j cj _ k3 h4 h6)
      · rw [hi, hj]
  · obtain ⟨i, ci, h1, h2, h3⟩ := h
    rcases get i ci h1 with ⟨hi, h1⟩ | ⟨hi, rfl⟩
    · rw [getm i hi] at h3
      exact .inl ⟨i, ci, h1, h2, h3⟩
    · subst hi
      rw [getp] at h3; cases h3
      exact .inr rfl
/-- what is no one's stays so -/
theorem Stp.own (st : Stp g H S g1 H1 S1) (na : ¬ Al g S p) (nf : ¬ g.fz p) {o : HO} (e : H p = some o) : H1 p = some o ∧ ¬ Al g1 S1 p ∧ ¬ g1.fz p := by
  refine ⟨st.keep p o e na, fun z => ?_, fun z => ?_⟩
  · rcases st.nal p z with q | q
    · exact na q
    · rw [e] at q; cases q
  · rcases st.nfz p z with q | q | q
    · exact nf q
    · rw [e] at q; cases q
    · exact na q
/-- from a base where p was free -/
theorem Stp.updOwn (st : Stp g H S g1 H1 S1) {o : HO} (n : H p = none) : Stp g H S g1 (upd H1 p o) S1 :=
  ⟨st.fz, st.m, st.kc, fun a u h na => by rw [upd_ne (ne_of_none h n)]; exact st.keep a u h na, st.nfz, st.nal⟩
theorem Stp.push (st : Stp g H S g1 H1 S1) {c : Cell} (n : H p = none) (hal : ∀ a, Al (g1.push p) (S1 ++ [c]) a → Al g1 S1 a ∨ a = p) : Stp g H S (g1.push p) H1 (S1 ++ [c]) := by
  refine ⟨st.fz, ?_, st.kc, st.keep, st.nfz, fun a h => ?_⟩
  · obtain ⟨l, e⟩ := st.m
    exact ⟨l ++ [p], by show g1.m ++ [p] = _; rw [e, List.append_assoc]⟩
  · rcases hal a h with q | q
    · exact st.nal a q
    · exact .inr (by rw [q]; exact n)
theorem Stp.add (st : Stp g H S g1 H1 S1) (n : H p = none) : Stp g H S (g1.add p) H1 S1 := by
  refine ⟨fun a h => .inl (st.fz a h), st.m, st.kc, st.keep, fun a h => ?_, st.nal⟩
  rcases h with h | h
  · exact st.nfz a h
  · exact .inr (.inl (by rw [h]; exact n))
end
/-! ### iterators -/
/-- the iterator yields ds, from a world on -/
def Wk (K : PySem.W.Frag) (g : Gh) (H : Hp) (ds : List D) (J : L2.It) : Prop :=
  ∀ (g1 : Gh) (H1 : Hp) (S1 : Sto), Fw g H g1 H1 → SR K g1 H1 S1 → ∀ i : Nat, (ds.length ≤ i → J.stop i H1) ∧
    ∀ d, ds[i]? = some d → J.go i H1 ∧ ∀ x H2, J.yld i H1 x H2 → ∃ g2, Stp g1 H1 S1 g2 H2 S1 ∧ SR K g2 H2 S1 ∧ Rp K g2 H2 d x
theorem Wk.fw {K : PySem.W.Frag} {g g' : Gh} {H H' : Hp} {ds : List D} {J : L2.It} (w : Wk K g H ds J) (f : Fw g H g' H') : Wk K g' H' ds J := fun g1 H1 S1 f1 R i => w g1 H1 S1 (f.trans f1) R i
section
variable {K : PySem.W.Frag} {g : Gh} {H : Hp} {S : Sto}
theorem wk_list {a : Addr} {vs : List V} {ds : List D} (hl : LkR K g H a vs) (r : RpA K g H ds vs) : Wk K g H ds (Itl K a) := by
  intro g1 H1 S1 f R i
  have hr1 : SqL K H1 a vs := (hl.fw f).sq
  have r1 := r.fw f
  refine ⟨fun h => ⟨vs, hr1, by rw [← r.length]; exact h⟩, fun d hd => ?_⟩
  obtain ⟨v, hv, rv⟩ := r1.get hd
  refine ⟨⟨vs, v, hr1, hv⟩, fun x H2 ⟨e, y⟩ => ?_⟩
  subst e
  have := y vs hr1
  rw [hv] at this; cases this
  exact ⟨g1, .refl, R, rv⟩
theorem wk_tup {a : Addr} {ds : List D} (r : Rp K g H (.tuple ds) (.ref a)) : Wk K g H ds (Itt K a) := by
  intro g1 H1 S1 f R i
  obtain ⟨a', vs, e, hr1, r1⟩ := Rp.tup_inv (r.fw f)
  cases e
  refine ⟨fun h => ⟨vs, hr1, by rw [← r1.length]; exact h⟩, fun d hd => ?_⟩
  obtain ⟨v, hv, rv⟩ := r1.get hd
  refine ⟨⟨vs, v, hr1, hv⟩, fun x H2 ⟨e, y⟩ => ?_⟩
  subst e
  have := y vs hr1
  rw [hv] at this; cases this
  exact ⟨g1, .refl, R, rv⟩
theorem wk_str {x : Str} : Wk K g H (x.cps.toList.map fun c => .str ⟨#[c]⟩) (Its x) := by
  intro g1 H1 S1 f R i
  refine ⟨fun h => (show x.cps.size ≤ i by simpa using h), fun d hd => ?_⟩
  rw [List.getElem?_map] at hd
  cases hc : x.cps.toList[i]? with
  | none => rw [hc] at hd; cases hd
  | some c =>
    rw [hc] at hd
    cases hd
    have hc' : x.cps[i]? = some c := by simpa using hc
    refine ⟨by rw [Array.getElem?_eq_some_iff] at hc'; exact hc'.1, fun y H2 ⟨e, c2, h2, h3⟩ => ?_⟩
    subst e h3
    rw [hc'] at h2; cases h2
    exact ⟨g1, .refl, R, .str _⟩
theorem wk_rng {lo : Int} {n : Nat} : Wk K g H (rngD lo n) (Itr lo n) := by
  intro g1 H1 S1 f R i
  unfold rngD
  refine ⟨fun h => (show n ≤ i by simpa using h), fun d hd => ?_⟩
  rw [List.getElem?_map] at hd
  by_cases hi : i < n
  · rw [List.getElem?_range hi] at hd
    cases hd
    refine ⟨hi, fun y H2 ⟨e, h3⟩ => ?_⟩
    subst e h3
    exact ⟨g1, .refl, R, .int _⟩
  · rw [List.getElem?_eq_none (by simpa using hi)] at hd; cases hd
theorem enumD_length : ∀ (xs : List D) (n : Nat), (enumD n xs).length = xs.length
  | [], _ => rfl
  | x :: xs, n => by unfold enumD; rw [List.length_cons, List.length_cons, enumD_length xs]
theorem enumD_get : ∀ (xs : List D) (n i : Nat) (d : D), (enumD n xs)[i]? = some d → ∃ x, xs[i]? = some x ∧ d = .tuple [.int ((n + i : Nat) : Int), x]
  | [], _, _, _, h => by simp [enumD] at h
  | x :: xs, n, 0, d, h => by simp [enumD] at h; exact ⟨x, rfl, by subst h; simp⟩
  | x :: xs, n, i + 1, d, h => by
    unfold enumD at h
    obtain ⟨y, h1, h2⟩ := enumD_get xs (n + 1) i d (by simpa using h)
    exact ⟨y, by simpa using h1, by rw [h2, show n + 1 + i = n + (i + 1) by omega]⟩
theorem wk_enum {a : Addr} {vs : List V} {ds : List D} (hf : g.fz a) (hr : Rd H a (.lst vs)) (r : RpA K g H ds vs) : Wk K g H (enumD 0 ds) (Ite K a) := by
  intro g1 H1 S1 f R i
  have hr1 : SqL K H1 a vs := .inl (f.lk a vs hf hr)
  have r1 := r.fw f
  refine ⟨fun h => ⟨vs, hr1, by rw [← r.length, ← enumD_length ds 0]; exact h⟩, fun d hd => ?_⟩
  obtain ⟨x, hx, rfl⟩ := enumD_get _ _ _ _ hd
  obtain ⟨v, hv, rv⟩ := r1.get hx
  refine ⟨⟨vs, v, hr1, hv⟩, fun y H2 ⟨T, z, e1, n, e2, q⟩ => ?_⟩
  subst e1 e2
  have := q vs hr1
  rw [hv] at this; cases this
  rw [Nat.zero_add]
  obtain ⟨st, R', rp⟩ := new_tup R n (.cons (.int ((i : Nat) : Int)) (.cons rv .nil))
  exact ⟨_, st, R', rp⟩
theorem walk_rp {I : Ins} {W : WX} {σ : L2.St} (R : SR K g H S) {v : Dv} {x : V} (r : RpV I K g H v x) {α : Type} {R1 : Gh → Hp → α → L2.It → Prop} {f : List D → M α} {Q : L2.It → Hp → Prop}
    (h : Post I K R1 W σ g H S ((walkL v S).bind f) Q) : ∃ a xs vs g' S', x = .ref a ∧ Stp g H S g' H S' ∧ SR K g' H S' ∧ g'.fz a ∧ H a = some (.lst vs) ∧ RpA K g' H xs vs ∧ Post I K R1 W σ g' H S' (f xs S') Q := by
  unfold walkL at h
  split at h
  · rename_i n
    obtain ⟨a, ha, rfl⟩ := r
    split at h
    · rename_i xs hc
      obtain ⟨st, R', rp⟩ := frz_cell R hc ha
      cases rp with
      | lst e ra => exact ⟨a, xs, _, _, _, rfl, st, R', e.1, e.2, ra, Post.from (r := f xs _) h st⟩
    · rename_i xs hc
      cases R.fzl hc ha with
      | lst e ra => exact ⟨a, xs, _, _, _, rfl, .refl, R, e.1, e.2, ra, h⟩
    · exact h.elim
  · rename_i xs
    cases (show Rp K g H (.list xs) x from r) with
    | lst e ra => exact ⟨_, xs, _, _, _, rfl, .refl, R, e.1, e.2, ra, h⟩
  · exact h.elim
end
def RW (K : PySem.W.Frag) : Gh → Hp → List D → L2.It → Prop := fun g H ds J => Wk K g H ds J
def rI (I : Ins) (K : PySem.W.Frag) (C : List D) (W : WX) (d : Env → M (List D)) : TI := fun σ H R => ∃ g S env, Wld I K C g H S env σ ∧ Post I K (RW K) W σ g H S (d env S) R
section
variable {X : Cx} {I : Ins} {C : List D} {W : WX} {a b c tg : Expr} {da db dc : DE} {pos p : Pos}
theorem k_val (ha : PE X a (rE I X.K C W da)) : PI X tg a (rI I X.K C W fun env s => (da env s).bind fun v s => walkV v s) := by
  refine ⟨fun pins s σ H R Iv ⟨g, S, env, w, h⟩ => ?_⟩
  dsimp only at h
  have hr : ∀ {v S'}, da env S = .ok v S' → (da env S).bind (fun v s => walkV v s) = walkV v S' := fun e => by rw [e]; rfl
  cases hd : da env S with
  | stuck => rw [hd] at h; exact h.elim
  | exc e S' =>
    refine (pi_list ha).run pins s σ H R Iv ⟨g, S, env, w, ?_⟩
    rw [hd]; rw [hd] at h
    exact h
  | ok v S' =>
    rw [hr hd] at h
    -- by what is walked
    have lst : (∃ xs S2, walkL v S' = .ok xs S2 ∧ walkV v S' = .ok xs S2) → wpAny (model X.prog X.w) X.A (eval a X.env) (fun v s1 => wpAny (model X.prog X.w) X.A (pyIter v) (PIE X pins σ tg R) X.xe s1) X.xe s := by
      rintro ⟨xs, S2, e1, e2⟩
      refine (pi_list ha).run pins s σ H R Iv ⟨g, S, env, w, ?_⟩
      rw [hd]
      intro g' H' x st R' rx
      have h2 : Post I X.K (RW X.K) W σ g' H' S' ((walkL v S').bind fun xs s => .ok xs s) R := by
        rw [e1]; rw [e2] at h
        exact Post.from (r := Res.ok xs S2) h st
      obtain ⟨a', ys, vs, g2, S3, rfl, st2, R2, hf, e, ra, h3⟩ := walk_rp R' rx h2
      exact ⟨a', rfl, ⟨vs, .inl (.inl e)⟩, h3.here R2 (wk_list (.inl ⟨hf, .inl e⟩) ra)⟩
    unfold walkV at h
    split at h
    · rename_i n
      split at h
      · rename_i xs hc
        exact lst ⟨xs, S'.set n (.fzl xs), by unfold walkL; simp only [hc], by unfold walkV; simp only [hc]⟩
      · rename_i xs hc
        exact lst ⟨xs, S', by unfold walkL; simp only [hc], by unfold walkV; simp only [hc]⟩
      · exact h.elim
    · exact lst ⟨_, _, rfl, rfl⟩
    · rename_i xs
      refine (pi_tup ha).run pins s σ H R Iv ⟨g, S, env, w, ?_⟩
      rw [hd]
      intro g' H' x st R' rx
      obtain ⟨a', vs, rfl, h1, h2⟩ := Rp.tup_inv (show Rp X.K g' H' (.tuple xs) x from rx)
      exact ⟨a', rfl, ⟨vs, h1⟩, (Post.from (r := Res.ok xs S') h st).here R' (wk_tup rx)⟩
    · rename_i z
      refine (pi_str ha).run pins s σ H R Iv ⟨g, S, env, w, ?_⟩
      rw [hd]
      intro g' H' x st R' rx
      obtain rfl := Rp.str_inv (show Rp X.K g' H' (.str z) x from rx)
      exact ⟨z, rfl, (Post.from (r := Res.ok _ S') h st).here R' wk_str⟩
    · rename_i xs
      refine (pi_list ha).run pins s σ H R Iv ⟨g, S, env, w, ?_⟩
      rw [hd]
      intro g' H' x st R' rx
      obtain ⟨a', vs, rfl, h2, h3⟩ := rx
      exact ⟨a', rfl, ⟨vs, h2.sq⟩, (Post.from (r := Res.ok _ S') h st).here R' (wk_list h2 h3)⟩
    · exact h.elim
theorem star_one (h : star1 a = false) {env : PySem.Env} : starEach [a] env = [(false, eval a env)] := star_cons h
theorem rlim_iff {i : Int} (h : rlim i = true) : -(2 ^ 62) ≤ i ∧ i < 2 ^ 62 := by
  unfold rlim at h
  have := of_decide_eq_true h
  omega
theorem k_rng (hg : Gl X "range") (hm : X.mg "range" = none) (hs : star1 a = false) (ha : PE X a (rE I X.K C W da)) : PI X tg (.Call (.Name "range" p) [a] [] pos) (rI I X.K C W fun env s => (da env s).bind fun v s => match v with
    | .pd (.int j) => if rlim j then .ok (rngD 0 j.toNat) s else .stuck
    | _ => .stuck) := by
  have hA : PA X [a] (tCons (rE I X.K C W da) tNil) := pa_cons ha pa_nil (star_cons hs)
  refine ⟨fun pins s σ H R Iv ⟨g, S, env, w, h⟩ => (pi_range1 hg hm hA (star_one hs)).run pins s σ H R Iv ?_⟩
  have go : rE I X.K C W da σ H (fun x H1 => ∃ j : Int, [x] = [V.int j] ∧ -(2 ^ 62) ≤ j ∧ j < 2 ^ 62 ∧ R (Itr 0 j.toNat) H1) := goE w h fun v S1 g1 H1 x w1 st1 rx h1 => by
    split at h1
    · rename_i j
      split at h1
      · rename_i hl
        obtain rfl := Rp.int_inv (show Rp X.K g1 H1 (.int j) x from rx)
        exact ⟨j, rfl, (rlim_iff hl).1, (rlim_iff hl).2, Post.here (R1 := RW X.K) h1 w1.sr wk_rng⟩
      · exact h1.elim
    · exact h1.elim
  exact go
theorem k_rng2 (hg : Gl X "range") (hm : X.mg "range" = none) (hs : star1 a = false) (hs2 : star1 b = false) (ha : PE X a (rE I X.K C W da)) (hb : PE X b (rE I X.K C W db)) : PI X tg (.Call (.Name "range" p) [a, b] [] pos) (rI I X.K C W fun env s => (da env s).bind fun x s => (db env s).bind fun y s => match x, y with
    | .pd (.int i), .pd (.int j) => if rlim i && rlim j then .ok (rngD i (j - i).toNat) s else .stuck
    | _, _ => .stuck) := by
  have hA : PA X [a, b] (tCons (rE I X.K C W da) (tCons (rE I X.K C W db) tNil)) := pa_cons ha (pa_cons hb pa_nil (star_cons hs2)) (star_cons hs)
  refine ⟨fun pins s σ H R Iv ⟨g, S, env, w, h⟩ => (pi_range2 hg hm hA (by rw [star_cons hs, star_one hs2]) (star_one hs2)).run pins s σ H R Iv ?_⟩
  have go : rE I X.K C W da σ H (fun x H1 => rE I X.K C W db σ H1 fun y H2 => ∃ i j : Int, [x, y] = [V.int i, V.int j] ∧ (-(2 ^ 62) ≤ i ∧ i < 2 ^ 62 ∧ -(2 ^ 62) ≤ j ∧ j < 2 ^ 62) ∧ R (Itr i (j - i).toNat) H2) := goE w h fun v S1 g1 H1 x w1 st1 rx h1 => goE w1 h1 fun u S2 g2 H2 y w2 st2 ry h2 => by
    split at h2
    · rename_i i j
      split at h2
      · rename_i hl
        rw [Bool.and_eq_true] at hl
        obtain rfl := Rp.int_inv (show Rp X.K g1 H1 (.int i) x from rx)
        obtain rfl := Rp.int_inv (show Rp X.K g2 H2 (.int j) y from ry)
        exact ⟨i, j, rfl, ⟨(rlim_iff hl.1).1, (rlim_iff hl.1).2, (rlim_iff hl.2).1, (rlim_iff hl.2).2⟩, Post.here (R1 := RW X.K) h2 w2.sr wk_rng⟩
      · exact h2.elim
    · exact h2.elim
  exact go
theorem k_enum {elts : List Expr} {kk : Nat} {tpos : Pos} (hg : Gl X "enumerate") (hm : X.mg "enumerate" = none) (hs : star1 a = false) (ha : PE X a (rE I X.K C W da)) : PI X (.Tuple elts kk tpos) (.Call (.Name "enumerate" p) [a] [] pos) (rI I X.K C W fun env s => (da env s).bind fun v s => (walkL v s).bind fun xs s => .ok (enumD 0 xs) s) := by
  have hA : PA X [a] (tCons (rE I X.K C W da) tNil) := pa_cons ha pa_nil (star_cons hs)
  refine ⟨fun pins s σ H R Iv ⟨g, S, env, w, h⟩ => (pi_enum hg hm hA (star_one hs)).run pins s σ H R Iv ?_⟩
  have go : rE I X.K C W da σ H (fun x H1 => ∃ a xs, [x] = [V.ref a] ∧ SqL X.K H1 a xs ∧ R (Ite X.K a) H1) := goE w h fun v S1 g1 H1 x w1 st1 rx h1 => by
    obtain ⟨a', ys, vs, g2, S3, rfl, st2, R2, hf, e, ra, h3⟩ := walk_rp w1.sr rx h1
    exact ⟨a', vs, rfl, .inl (.inl e), h3.here R2 (wk_enum hf (.inl e) ra)⟩
  exact go
/-! ### targets -/
mutual
/-- a target of plain data raises nothing, and leaves the store -/
theorem denG_noexc : ∀ (t : Tg) (x : D) (env : Env) (S : Sto), (∀ e S', denG t x env S ≠ .exc e S') ∧ ∀ env' S', denG t x env S = .ok env' S' → S' = S
  | .name i, x, env, S => ⟨fun e S' h => by simp [denG] at h, fun env' S' h => by simp [denG] at h; exact h.2.symm⟩
  | .tup ts, x, env, S => by
    cases x with
    | tuple xs => simpa [denG] using denGs_noexc ts xs env S
    | _ => exact ⟨fun e S' h => by simp [denG] at h, fun env' S' h => by simp [denG] at h⟩
  | .sub a b, x, env, S => ⟨fun e S' h => by simp [denG] at h, fun env' S' h => by simp [denG] at h⟩
theorem denGs_noexc : ∀ (ts : Tgs) (xs : List D) (env : Env) (S : Sto), (∀ e S', denGs ts xs env S ≠ .exc e S') ∧ ∀ env' S', denGs ts xs env S = .ok env' S' → S' = S
  | .nil, [], env, S => ⟨fun e S' h => by simp [denGs] at h, fun env' S' h => by simp [denGs] at h; exact h.2.symm⟩
  | .nil, _ :: _, env, S => ⟨fun e S' h => by simp [denGs] at h, fun env' S' h => by simp [denGs] at h⟩
  | .cons t ts, [], env, S => ⟨fun e S' h => by simp [denGs] at h, fun env' S' h => by simp [denGs] at h⟩
  | .cons t ts, x :: xs, env, S => by
    have h1 := denG_noexc t x env S
    cases hd : denG t x env S with
    | exc e S' => exact absurd hd (h1.1 e S')
    | stuck => exact ⟨fun e S' h => by simp [denGs, hd, Res.bind] at h, fun env' S' h => by simp [denGs, hd, Res.bind] at h⟩
    | ok env1 S1 =>
      have e1 := h1.2 env1 S1 hd
      subst e1
      have h2 := denGs_noexc ts xs env1 S1
      exact ⟨fun e S' h => h2.1 e S' (by simpa [denGs, hd, Res.bind] using h), fun env' S' h => h2.2 env' S' (by simpa [denGs, hd, Res.bind] using h)⟩
end
def Tgs.len : Tgs → Nat
  | .nil => 0
  | .cons _ ts => ts.len + 1
theorem denGs_len : ∀ (ts : Tgs) (xs : List D) (env : Env) (S : Sto), denGs ts xs env S ≠ .stuck → xs.length = ts.len
  | .nil, [], _, _, _ => rfl
  | .nil, _ :: _, env, S, h => absurd (by simp [denGs]) h
  | .cons t ts, [], env, S, h => absurd (by simp [denGs]) h
  | .cons t ts, x :: xs, env, S, h => by
    unfold Tgs.len
    rw [List.length_cons]
    cases hd : denG t x env S with
    | exc e S' => exact absurd hd ((denG_noexc t x env S).1 e S')
    | stuck => exact absurd (by simp [denGs, hd, Res.bind]) h
    | ok env1 S1 => rw [denGs_len ts xs env1 S1 (fun e => h (by simp [denGs, hd, Res.bind, e]))]
/-- the slots but vs stay -/
def SameOff (vs : List Nat) (σ σ' : L2.St) : Prop := σ'.length = σ.length ∧ ∀ j, j ∉ vs → σ'[j]? = σ[j]?
theorem SameOff.refl {vs : List Nat} {σ : L2.St} : SameOff vs σ σ := ⟨rfl, fun _ _ => rfl⟩
theorem SameOff.trans {vs : List Nat} {σ σ1 σ2 : L2.St} (h : SameOff vs σ σ1) (k : SameOff vs σ1 σ2) : SameOff vs σ σ2 := ⟨k.1.trans h.1, fun j n => (k.2 j n).trans (h.2 j n)⟩
theorem SameOff.set {vs : List Nat} {σ : L2.St} {i : Nat} {v : Option V} (h : i ∈ vs) : SameOff vs σ (σ.set i v) := ⟨List.length_set, fun j n => List.getElem?_set_ne fun e : i = j => n (e ▸ h)⟩
theorem wipe_in {σ : L2.St} {i : Nat} : ∀ {vs : List Nat}, i ∈ vs → i < σ.length → (wipe σ vs)[i]? = some none
  | v :: vs, h, hl => by
    unfold wipe
    by_cases e : v = i
    · subst e
      rw [List.getElem?_set_self (by rw [wipe_length]; exact hl)]
    · rw [List.getElem?_set_ne e]
      exact wipe_in ((List.mem_cons.mp h).resolve_left fun z => e z.symm) hl
theorem SameOff.wipe {vs : List Nat} {σ σ' : L2.St} (h : SameOff vs (L2.wipe σ vs) σ') : L2.wipe σ' vs = L2.wipe σ vs := by
  have hl : σ'.length = σ.length := by rw [h.1, wipe_length]
  refine List.ext_getElem? fun i => ?_
  by_cases hi : i ∈ vs
  · by_cases hlt : i < σ.length
    · rw [wipe_in hi hlt, wipe_in hi (by rw [hl]; exact hlt)]
    · rw [List.getElem?_eq_none (by rw [wipe_length, hl]; omega), List.getElem?_eq_none (by rw [wipe_length]; omega)]
  · rw [wipe_out hi, h.2 i hi]
def RG (I : Ins) (K : PySem.W.Frag) (vs : List Nat) (σ : L2.St) : Gh → Hp → Env → L2.St → Prop := fun g H env σ' => EnvR I K g H env σ' ∧ SameOff vs σ σ'
def rG (I : Ins) (K : PySem.W.Frag) (C : List D) (W : WX) (vs : List Nat) (d : D → Env → M Env) : TG := fun v σ H Q => ∃ g S env x, Wld I K C g H S env σ ∧ Rp K g H x v ∧ Post I K (RG I K vs σ) W σ g H S (d x env S) Q
def rGs (I : Ins) (K : PySem.W.Frag) (C : List D) (W : WX) (vs : List Nat) (d : List D → Env → M Env) : TGs := fun us σ H Q => ∃ g S env xs, Wld I K C g H S env σ ∧ RpA K g H xs us ∧ Post I K (RG I K vs σ) W σ g H S (d xs env S) Q
theorem pg_imp {e : Expr} {t t' : TG} (h : PG X e t) (f : ∀ v σ H Q, t' v σ H Q → t v σ H Q) : PG X e t' := ⟨fun pins s σ H v u Q I r q => h.run pins s σ H v u Q I r (f v σ H Q q)⟩
theorem pgs_imp {es : List Expr} {t t' : TGs} (h : PGs X es t) (f : ∀ v σ H Q, t' v σ H Q → t v σ H Q) : PGs X es t' := ⟨fun pins s σ H v u Q I r q => h.run pins s σ H v u Q I r (f v σ H Q q)⟩
theorem g_name {vs : List Nat} {i : Nat} {x : Str} (hN : X.N.Nodup) (hi : X.N[i]? = some x) (hx : Loc X.env.scope x) (hf : X.fn x = true ∨ X.env.scope.names.lookup x = some .local) (hv : i ∈ vs) :
    PG X (.Name x pos) (rG I X.K C W vs fun x env s => .ok (env.set i (some (.pd x))) s) := by
  refine pg_imp (pg_name hN hi hx hf) fun v σ H Q ⟨g, S, env, x, w, r, h⟩ => ?_
  exact Post.here (R1 := RG I X.K vs σ) h w.sr ⟨w.er.set i (d := .pd x) r, SameOff.set hv⟩
theorem gs_nil {vs : List Nat} : PGs X [] (rGs I X.K C W vs (denGs .nil)) := by
  refine pgs_imp pgs_nil fun us σ H Q ⟨g, S, env, xs, w, r, h⟩ => ?_
  cases r with
  | nil => exact ⟨rfl, Post.here (R1 := RG I X.K vs σ) h w.sr ⟨w.er, .refl⟩⟩
  | cons _ _ => exact h.elim
theorem gs_cons {vs : List Nat} {e : Expr} {es : List Expr} {t : Tg} {ts : Tgs} (h1 : PG X e (rG I X.K C W vs (denG t))) (h2 : PGs X es (rGs I X.K C W vs (denGs ts)))
    (hs : (assignEach (e :: es) X.env).map (·.2) = assign e X.env :: (assignEach es X.env).map (·.2)) : PGs X (e :: es) (rGs I X.K C W vs (denGs (.cons t ts))) := by
  refine pgs_imp (pgs_cons h1 h2 hs) fun us σ H Q ⟨g, S, env, xs, w, r, h⟩ => ?_
  cases r with
  | nil => exact h.elim
  | @cons x v xs us rx rr =>
    have h : Post I X.K (RG I X.K vs σ) W σ g H S ((denG t x env S).bind fun env' s => denGs ts xs env' s) Q := h
    refine ⟨v, us, rfl, g, S, env, x, w, rx, ?_⟩
    have noexc : ∀ {e S'}, denG t x env S ≠ .exc e S' := by
      intro e S'
      exact (denG_noexc t x env S).1 e S'
    cases hd : denG t x env S with
    | exc e S' => exact absurd hd noexc
    | stuck => rw [hd] at h; exact h
    | ok env' S' =>
      rw [hd] at h
      intro g' H' σ' st R' ⟨er, so⟩
      refine ⟨g', S', env', xs, ⟨R', er, st.kc.trans w.kc⟩, rr.fw (st.fw w.sr), ?_⟩
      have h3 : Post I X.K (RG I X.K vs σ) W σ g' H' S' (denGs ts xs env' S') Q := Post.from (r := denGs ts xs env' S') h st
      cases hq : denGs ts xs env' S' with
      | exc e S2 => exact absurd hq ((denGs_noexc ts xs env' S').1 e S2)
      | stuck => rw [hq] at h3; exact h3
      | ok env2 S2 =>
        rw [hq] at h3
        exact fun g2 H2 σ2 st2 R2 ⟨er2, so2⟩ => h3 g2 H2 σ2 st2 R2 ⟨er2, so.trans so2⟩
theorem Rp.seq_len {K : PySem.W.Frag} {g : Gh} {H : Hp} {ds : List D} {v : V} (h : Rp K g H (.tuple ds) v) : ∃ a vs, v = .ref a ∧ SqT K H a vs ∧ vs.length = ds.length ∧ RpA K g H ds vs := by
  obtain ⟨a, vs, e, h1, h2⟩ := Rp.tup_inv h
  exact ⟨a, vs, e, h1, h2.length.symm, h2⟩
end
end Rx


set_option linter.all false
set_option maxRecDepth 100000
set_option maxHeartbeats 1000000
/-! Rx, part D4: comprehensions, displays of dicts, f-strings. -/
namespace Rx
open PySem PySem.Spec PyProof.Rows L2 SeqAt
/-- no exception leaves a block -/
abbrev WF : WX := fun _ _ _ _ => False
/-- a turn of a comprehension -/
def dTurn (vs : List Nat) (t : Tg) (dts : Env → List (M Bool)) (de : DE) (env : Env) : D → M (Option D) := fun x s => match denG t x (wipeE env vs) s with
        | .ok env' s' => (tests (dts env') s').bind fun k s => if k then (de env' s).bind fun v s => (toP v s).bind fun d s => .ok (some d) s else .ok none s
        | .exc e s => .exc e s
        | .stuck => .stuck
def dLc (mu : Bool) (vs : List Nat) (di : Env → M (List D)) (t : Tg) (dts : Env → List (M Bool)) (de : DE) : DE := fun env s => (di env s).bind fun xs s =>
      (lcL (dTurn vs t dts de env) xs [] s).bind fun ys s => newL mu ys s
def RF (K : PySem.W.Frag) : Gh → Hp → Option D → Option V → Prop := fun g H o y => match o, y with
  | none, none => True
  | some d, some v => Rp K g H d v
  | _, _ => False
section
variable {X : Cx} {I : Ins} {C : List D} {W : WX} {σ : L2.St} {H : Hp}
theorem lc_t {mu : Bool} {vs : List Nat} {di : Env → M (List D)} {t : Tg} {dts : Env → List (M Bool)} {de : DE} {Q : VK} (h : rE I X.K C W (dLc mu vs di t dts de) σ H Q) :
    tLc (rI I X.K C W di) (rG I X.K C WF vs (denG t)) (rT I X.K C WF fun env s => tests (dts env) s) (rE I X.K C WF de) vs σ H Q := by
  obtain ⟨g, S, env, w, h⟩ := h
  refine ⟨g, S, env, w, Post.bind (R1 := RW X.K) h fun xs S1 g1 H1 J st R wk h1 => ?_⟩
  have w1 := w.st st R
  intro Dd n
  have h1 : Post I X.K (RpV I X.K) W σ g1 H1 S1 ((lcL (dTurn vs t dts de env) xs [] S1).bind fun ys s => newL mu ys s) Q := h1
  have wk : Wk X.K g1 H1 xs J := wk
  let Wi : Nat → Nat → Hp → Prop := fun i m H' => ∃ g' S' acc us, SR X.K g' H' S' ∧ Stp g1 H1 S1 g' H' S' ∧ H' Dd = some (.lst us) ∧ RpA X.K g' H' acc us ∧ ¬ Al g' S' Dd ∧ ¬ g'.fz Dd ∧
    lcL (dTurn vs t dts de env) xs [] S1 = lcL (dTurn vs t dts de env) (xs.drop i) acc S' ∧ m = xs.length - i
  have na0 : ¬ Al g1 S1 Dd := fun z => by
    rcases R.al_obj z with ⟨u, e⟩ | ⟨u, e⟩ | ⟨u, e⟩ <;> (rw [n] at e; cases e)
  have nf0 : ¬ g1.fz Dd := fun z => R.frz Dd z n
  obtain ⟨st0, R0⟩ := new_obj (o := .lst []) R n
  refine ⟨Wi, ⟨xs.length, g1, S1, [], [], R0, st0, upd_same, .nil, na0, nf0, by rw [List.drop_zero], by rw [Nat.sub_zero]⟩, ?_⟩
  rintro i m H' ⟨g', S', acc, us, R', st', e, ra, na, nf, eq, rfl⟩
  obtain ⟨wk1, wk2⟩ := wk g' H' S' (st'.fw R) R' i
  rw [eq] at h1
  cases hx : xs[i]? with
  | none =>
    have hle : xs.length ≤ i := List.getElem?_eq_none_iff.mp hx
    refine .inl ⟨wk1 hle, ?_⟩
    rw [List.drop_eq_nil_of_le hle] at h1
    have h1 : Post I X.K (RpV I X.K) W σ g1 H1 S1 (newL mu acc S') Q := h1
    unfold newL at h1
    split at h1
    · cases mu with
      | true =>
        obtain ⟨R2, hal⟩ := adopt (c := .lst acc) R' na nf (fun g2 f => ⟨us, e, ra.fw f⟩) trivial
        exact h1 _ _ (.ref Dd) (st'.push n hal) R2 ⟨Dd, by simp [Gh.push, R'.len], rfl⟩
      | false =>
        have f : Fw g' H' (g'.add Dd) H' := ⟨fun _ h => .inl h, fun _ _ _ h => h, fun _ _ _ h => h, fun _ _ h => h, rfl⟩
        exact h1 _ _ (.ref Dd) (st'.add n) (add_fz R' (by rw [e]; simp) na) (Rp.lst ⟨.inr rfl, e⟩ (ra.fw f))
    · exact h1.elim
  | some d =>
    obtain ⟨hgo, hy⟩ := wk2 d hx
    have hi : i < xs.length := (List.getElem?_eq_some_iff.mp hx).1
    refine .inr ⟨hgo, Wi (i + 1) (xs.length - (i + 1)), fun H2 q => ⟨_, by omega, q⟩, fun x H2 y => ?_⟩
    obtain ⟨g2, st2, R2, rp⟩ := hy x H2 y
    have hd : xs.drop i = d :: xs.drop (i + 1) := by
      rw [List.drop_eq_getElem_cons hi]
      congr 1
      rw [List.getElem?_eq_getElem hi] at hx
      exact Option.some.inj hx
    rw [hd] at h1 eq
    let Qf : Option V → Hp → Prop := fun y H3 => match y with
      | none => Wi (i + 1) (xs.length - (i + 1)) H3
      | some v => ∃ acc', H3 Dd = some (.lst acc') ∧ acc'.length < sizeLine ∧ Wi (i + 1) (xs.length - (i + 1)) (upd H3 Dd (.lst (acc' ++ [v])))
    have pf : ∀ σx, Post I X.K (RF X.K) WF σx g2 H2 S' (dTurn vs t dts de env d S') Qf := by
      intro σx
      have e0 : lcL (dTurn vs t dts de env) (d :: xs.drop (i + 1)) acc S' = match dTurn vs t dts de env d S' with
        | .ok none s' => lcL (dTurn vs t dts de env) (xs.drop (i + 1)) acc s'
        | .ok (some d) s' => if acc.length < line then lcL (dTurn vs t dts de env) (xs.drop (i + 1)) (acc ++ [d]) s' else .stuck
        | _ => .stuck := rfl
      rw [e0] at h1 eq
      cases hf : dTurn vs t dts de env d S' with
      | stuck => rw [hf] at h1; exact h1.elim
      | exc e S2 => rw [hf] at h1; exact h1.elim
      | ok o S2 =>
        rw [hf] at h1 eq
        intro g3 H3 y st3 R3 ry
        have stc := st2.trans st3
        obtain ⟨e3, na3, nf3⟩ := stc.own na nf e
        have stt := st'.trans stc
        have ra3 := ra.fw (stc.fw R')
        cases o with
        | none =>
          cases y with
          | none => exact ⟨g3, S2, acc, us, R3, stt, e3, ra3, na3, nf3, eq, rfl⟩
          | some v => exact ry.elim
        | some e' =>
          cases y with
          | none => exact ry.elim
          | some v =>
            have rv : Rp X.K g3 H3 e' v := ry
            by_cases hl : acc.length < line
            · simp only [if_pos hl] at eq
              obtain ⟨f4, R4⟩ := own_upd (o := .lst (us ++ [v])) R3 na3 nf3 (fun ys z => by rw [e3] at z; cases z)
              exact ⟨us, e3, by rw [← ra.length, ← line_eq]; exact hl, g3, S2, acc ++ [e'], us ++ [v], R4, stt.updOwn n, upd_same, (ra3.append (.cons rv .nil)).fw f4, na3, nf3, eq, rfl⟩
            · simp only [if_neg hl] at h1
              exact h1.elim
    have er2 : EnvR I X.K g2 H2 env σ := (w1.er.st st' R).st st2 R'
    have kc2 : g2.kc = C := (st'.trans st2).kc.trans w1.kc
    refine ⟨g2, S', wipeE env vs, d, ⟨R2, er2.wipe vs, kc2⟩, rp, ?_⟩
    cases hg : denG t d (wipeE env vs) S' with
    | exc e S2 => exact absurd hg ((denG_noexc t d _ S').1 e S2)
    | stuck =>
      have z := pf []
      unfold dTurn at z
      rw [hg] at z
      exact z
    | ok env' S3 =>
      intro g3 H3 σ2 st3 R3 ⟨er3, so⟩
      refine ⟨so.wipe, ?_⟩
      have z := pf σ2
      unfold dTurn at z
      rw [hg] at z
      have z : Post I X.K (RF X.K) WF σ2 g3 H3 S3 ((tests (dts env') S3).bind fun k s => if k then (de env' s).bind fun v s => (toP v s).bind fun d s => .ok (some d) s else .ok none s) Qf := Post.from (r := _) z st3
      have w3 : Wld I X.K C g3 H3 S3 env' σ2 := ⟨R3, er3, st3.kc.trans kc2⟩
      refine goT (d := fun env s => tests (dts env) s) w3 z fun k S4 g4 H4 w4 st4 h4 => ?_
      cases k with
      | false => exact Post.here (R1 := RF X.K) (b := (none : Option V)) h4 w4.sr trivial
      | true =>
        refine goE w4 h4 fun v S5 g5 H5 x5 w5 st5 rv h5 => ?_
        obtain ⟨d', S6, g6, st6, R6, rd, h6⟩ := post_toP w5.sr rv h5
        exact Post.here (R1 := RF X.K) (b := some x5) h6 R6 rd
theorem pts_imp {ifs : List Expr} {t t' : TT} (h : PTs X ifs t) (f : ∀ σ H Q, t' σ H Q → t σ H Q) : PTs X ifs t' := ⟨fun pins s σ H Q I q => h.run pins s σ H Q I (f σ H Q q)⟩
/-! ### displays of dicts -/
def litV : Lit → V
  | .non => .non
  | .bl b => .bl b
  | .int i => .int i
  | .str l => .str ⟨l.toArray⟩
def litA (c : Lit) (e : Expr) : Bool := match c, e with
  | .non, .Constant .none _ _ => true
  | .bl b, .Constant (.bool b') _ _ => b == b'
  | .int i, .Constant (.int i') _ _ => i == i'
  | .str l, .Constant (.str x) _ _ => decide (x = ⟨l.toArray⟩)
  | _, _ => false
theorem lit_pe {c : Lit} {e : Expr} (h : litA c e = true) : PE X e (tC (litV c)) := by
  unfold litA at h
  split at h
  · exact pe_non
  · rw [beq_iff_eq] at h; subst h; exact pe_bl
  · rw [beq_iff_eq] at h; subst h; exact pe_int
  · rw [decide_eq_true_eq] at h; subst h; exact pe_str
  · cases h
theorem lit_rp {c : Lit} {K : PySem.W.Frag} {g : Gh} {H : Hp} : Rp K g H (litD c) (litV c) := by
  cases c with
  | non => exact .non
  | bl b => exact .bl b
  | int i => exact .int i
  | str l => exact .str _
structure KP (X : Cx) (I : Ins) (C : List D) (W : WX) (pos : Pos) (keys : List (Option Expr)) (vals : List Expr) (ks : List Lit) (d : Env → M (List D)) : Prop where
  ex : ∃ trs, PPs X pos keys vals trs ∧ keys.length = ks.length ∧ vals.length = ks.length ∧ keys.all (·.isSome) = true ∧
    ∀ (σ : L2.St) (g : Gh) (H : Hp) (S : Sto) (env : Env) (Q : List (V × V) → Hp → Prop), Wld I X.K C g H S env σ → Post I X.K (RpA X.K) W σ g H S (d env S) (fun vs H' => Q ((ks.map litV).zip vs) H') → tPairs trs σ H Q
theorem kp_nil {pos : Pos} : KP X I C W pos [] [] [] (fun _ s => .ok [] s) :=
  ⟨[], pps_nil, rfl, rfl, rfl, fun σ g H S env Q w h => Post.here (R1 := RpA X.K) h w.sr .nil⟩
theorem kp_cons {pos : Pos} {c : Lit} {k v : Expr} {keys : List (Option Expr)} {vals : List Expr} {ks : List Lit} {dv : DE} {d : Env → M (List D)} (hk : litA c k = true) (hv : PE X v (rE I X.K C W dv)) (h : KP X I C W pos keys vals ks d) :
    KP X I C W pos (some k :: keys) (v :: vals) (c :: ks) (fun env s => (dv env s).bind fun x s => (toP x s).bind fun y s => (d env s).bind fun ys s => .ok (y :: ys) s) := by
  obtain ⟨trs, h1, h2, h3, h4, h5⟩ := h.ex
  refine ⟨(tC (litV c), rE I X.K C W dv) :: trs, pps_cons (lit_pe hk) hv h1, by rw [List.length_cons, h2]; rfl, by rw [List.length_cons, h3]; rfl, by rw [List.all_cons, h4]; rfl, fun σ g H S env Q w q => ?_⟩
  refine goE w q fun x S1 g1 H1 vx w1 st1 rx q1 => ?_
  obtain ⟨y, S2, g2, st2, R2, ry, q2⟩ := post_toP w1.sr rx q1
  refine h5 σ g2 H1 S2 env _ (w1.st st2 R2) (Post.bind q2 fun ys S3 g3 H3 us st3 R3 rs q3 => ?_)
  exact Post.here (R1 := RpA X.K) (b := vx :: us) q3 R3 (.cons (ry.fw (st3.fw R2)) rs)
theorem keysOf_kv : ∀ {ks : List Lit} {kk : List Key}, keysOf (ks.map litD) = some kk → ks.map litV = kk.map kV
  | [], kk, h => by
    cases kk with
    | nil => rfl
    | cons _ _ => cases h
  | c :: ks, kk, h => by
    have h : (match keyOf (litD c), keysOf (ks.map litD) with
      | some k, some ks => some (k :: ks)
      | _, _ => none) = some kk := h
    split at h
    · rename_i k ks' e1 e2
      cases h
      rw [List.map_cons, List.map_cons, keysOf_kv e2]
      congr 1
      cases c with
      | non => cases e1
      | bl b => cases e1
      | int i => cases e1; rfl
      | str l => cases e1; rfl
    · cases h
theorem merge_rp {K : PySem.W.Frag} {g : Gh} {H : Hp} : ∀ {kk : List Key} {ys : List D} {us : List V} {acc : List (Key × D)} {bcc : List (Key × V)}, RpA K g H ys us → PairsR K g H acc bcc →
    PairsR K g H ((kk.zip ys).foldl (fun acc p => putD acc p.1 p.2) acc) (mergeK bcc (kk.zip us))
  | [], _, _, _, _, _, h => by simpa [mergeK] using h
  | k :: kk, [], _, _, _, r, h => by cases r; simpa [mergeK] using h
  | k :: kk, y :: ys, _, acc, bcc, .cons ry rs, h => by
    have := merge_rp (kk := kk) rs (h.put k ry)
    simpa [mergeK] using this
theorem zip_map_kv : ∀ (kk : List Key) (us : List V), (kk.map kV).zip us = (kk.zip us).map fun kv => (kV kv.1, kv.2)
  | [], _ => by simp
  | k :: kk, [] => by simp
  | k :: kk, u :: us => by simp [zip_map_kv kk us]
theorem k_dsp {pos : Pos} {keys : List (Option Expr)} {vals : List Expr} {ks : List Lit} {d : Env → M (List D)} (h : KP X I C W pos keys vals ks d) (hne : ks ≠ []) (h15 : ks.length ≤ 15) :
    PE X (.Dict keys vals pos) (rE I X.K C W fun env s => (d env s).bind fun ys s => match keysOf (ks.map litD) with
    | some ks => if ks.length = ys.length ∧ ks.length ≤ 15 then .ok (.ref s.length) (s ++ [.dK ((ks.zip ys).foldl (fun acc p => putD acc p.1 p.2) [])]) else .stuck
    | none => .stuck) := by
  obtain ⟨trs, h1, h2, h3, h4, h5⟩ := h.ex
  refine pe_imp (pe_disp h1 h4 (h2.trans h3.symm) (fun z => hne (List.eq_nil_of_length_eq_zero (by rw [← h2, z]; rfl))) (by rw [h2]; exact h15)) fun σ H Q ⟨g, S, env, w, q⟩ p n => ?_
  have na0 : ¬ Al g S p := fun z => by
    rcases w.sr.al_obj z with ⟨u, e⟩ | ⟨u, e⟩ | ⟨u, e⟩ <;> (rw [n] at e; cases e)
  have nf0 : ¬ g.fz p := fun z => w.sr.frz p z n
  obtain ⟨st0, R0⟩ := new_obj (o := .dK []) w.sr n
  refine h5 σ g _ S env _ (w.st st0 R0) ?_
  dsimp only at q
  cases hd : d env S with
  | stuck => rw [hd] at q; exact q.elim
  | exc e S1 => rw [hd] at q; exact Post.from (r := Res.exc e S1) (Q := Q) (R1 := RpV I X.K) q st0
  | ok ys S1 =>
    rw [hd] at q
    intro g1 H1 us st1 R1 rs
    have stt := st0.trans st1
    obtain ⟨e1, na1, nf1⟩ := st1.own na0 nf0 (upd_same (H := H) (a := p) (o := .dK []))
    refine ⟨e1, ?_⟩
    have q : Post I X.K (RpV I X.K) W σ g H S (match keysOf (ks.map litD) with
      | some ks => if ks.length = ys.length ∧ ks.length ≤ 15 then .ok (.ref S1.length) (S1 ++ [.dK ((ks.zip ys).foldl (fun acc p => putD acc p.1 p.2) [])]) else .stuck
      | none => .stuck) Q := q
    cases hk : keysOf (ks.map litD) with
    | none => rw [hk] at q; exact q.elim
    | some kk =>
      rw [hk] at q
      simp only at q
      split at q
      · rename_i hl
        refine ⟨kk.zip us, by rw [keysOf_kv hk, zip_map_kv], by rw [List.length_zip]; omega, ?_⟩
        obtain ⟨f2, R2⟩ := own_upd (o := .dK (mergeK [] (kk.zip us))) R1 na1 nf1 (fun ys z => by rw [e1] at z; cases z)
        obtain ⟨R3, hal⟩ := adopt (c := .dK ((kk.zip ys).foldl (fun acc p => putD acc p.1 p.2) [])) R2 na1 nf1 (fun g2 f => ⟨_, upd_same, (merge_rp rs .nil).fw (f2.trans f)⟩) trivial
        exact q _ _ (.ref p) ((stt.updOwn n).push n hal) R3 ⟨p, by simp [Gh.push, R2.len], rfl⟩
      · exact q.elim
/-! ### f-strings -/
abbrev RS' : Gh → Hp → Str → Str → Prop := fun _ _ a b => b = a
structure KJ (X : Cx) (I : Ins) (C : List D) (W : WX) (vals : List Expr) (d : Env → List (M Str)) : Prop where
  ex : ∃ ts, PJ X vals ts ∧ ∀ (σ : L2.St) (g : Gh) (H : Hp) (S : Sto) (env : Env) (acc : Str) (Q : Str → Hp → Prop), Wld I X.K C g H S env σ → Post I X.K RS' W σ g H S (joinF (d env) acc S) Q → tJs ts acc σ H Q
theorem kj_nil : KJ X I C W [] (fun _ => []) := ⟨[], .nil, fun σ g H S env acc Q w h => Post.here (R1 := RS') h w.sr rfl⟩
theorem kj_cons {e : Expr} {vals : List Expr} {de : DE} {d : Env → List (M Str)} (he : PE X e (rE I X.K C W fun env s => (de env s).bind fun v s => (fmtV v s).bind fun z s => .ok (.pd (.str z)) s)) (h : KJ X I C W vals d) :
    KJ X I C W (e :: vals) (fun env => (fun s => (de env s).bind fun v s => fmtV v s) :: d env) := by
  obtain ⟨ts, h1, h2⟩ := h.ex
  refine ⟨_, .cons he h1, fun σ g H S env acc Q w q => ?_⟩
  refine ⟨g, S, env, w, ?_⟩
  have q : Post I X.K RS' W σ g H S (match (de env S).bind (fun v s => fmtV v s) with
    | .ok y s' => if acc.length + y.length ≤ line then joinF (d env) (acc ++ y) s' else .stuck
    | .exc e s' => .exc e s'
    | .stuck => .stuck) Q := q
  have e0 : ((de env S).bind fun v s => (fmtV v s).bind fun z s => (.ok (.pd (.str z)) s : Res Dv)) = ((de env S).bind fun v s => fmtV v s).bind fun z s => .ok (.pd (.str z)) s := by
    cases de env S <;> rfl
  dsimp only
  rw [e0]
  cases hz : (de env S).bind fun v s => fmtV v s with
  | stuck => rw [hz] at q; exact q.elim
  | exc e' S' => rw [hz] at q; exact q
  | ok y S' =>
    rw [hz] at q
    simp only at q
    split at q
    · rename_i hl
      intro g' H' b st R' rb
      refine ⟨y, Rp.str_inv (show Rp X.K g' H' (.str y) b from rb), by rw [← line_eq, show (acc ++ y).length = acc.length + y.length from Str.length_append acc y]; exact hl, ?_⟩
      exact h2 σ g' H' S' env _ Q (w.st st R') (Post.from (r := joinF (d env) (acc ++ y) S') q st)
    · exact q.elim
theorem kj_str {pos : Pos} {l : List Nat} {j : Nat} {x : Str} (h : x = ⟨l.toArray⟩) : PE X (.Constant (.str x) j pos) (rE I X.K C W fun env s => ((both fun _ s => .ok (.pd (litD (.str l))) s).1 env s).bind fun v s => (fmtV v s).bind fun z s => .ok (.pd (.str z)) s) := by
  subst h
  refine pe_imp pe_str fun σ H Q ⟨g, S, env, w, h⟩ => ?_
  have h : Post I X.K (RpV I X.K) W σ g H S ((fmtV (.pd (.str ⟨l.toArray⟩)) S).bind fun z s => .ok (.pd (.str z)) s) Q := h
  unfold fmtV at h
  simp only at h
  split at h
  · exact Post.here (R1 := RpV I X.K) h w.sr (.str _)
  · exact h.elim
theorem k_fst {pos : Pos} {v1 v2 : Expr} {rest : List Expr} {d : Env → List (M Str)} (h : KJ X I C W (v1 :: v2 :: rest) d) :
    PE X (.JoinedStr (v1 :: v2 :: rest) pos) (rE I X.K C W fun env s => (joinF (d env) Str.empty s).bind fun z s => .ok (.pd (.str z)) s) := by
  obtain ⟨ts, h1, h2⟩ := h.ex
  refine pe_imp (pe_joined h1) fun σ H Q ⟨g, S, env, w, q⟩ => h2 σ g H S env _ _ w ?_
  refine Post.bind q fun z S1 g1 H1 b st R e q1 => ?_
  cases e
  exact Post.here (R1 := RpV I X.K) q1 R (.str _)
end
end Rx


set_option linter.all false
set_option maxRecDepth 100000
set_option maxHeartbeats 2000000
/-! Rx, part D5: the checker of expressions, and that it is right. -/
namespace Rx
open PySem PySem.Spec PyProof.Rows L2 SeqAt
/-- a module's names: the defs, the constants -/
structure Nms where
  N : List Str
  F : List Str
  G : List Str
  Cl : List Str := []
  Hn : List (Nat × Nat) := []
structure Bk where
  sc : Scope
  fn : Str → Bool
def visB (sc : Scope) (x : Str) : Bool := match sc.names.lookup x with
  | some .local | some .cell | some .free => true
  | _ => false
def locB (bk : Bk) (x : Str) : Bool := match bk.sc.names.lookup x with
  | some .local => true
  | some .cell => bk.fn x
  | _ => false
def glB (sc : Scope) (x : Str) : Bool := match sc.names.lookup x with
  | some .globalImplicit => true
  | _ => false
def plainN (x : Str) : Bool := !(x == ("__debug__" : Str)) && !(x == ("__classdict__" : Str)) && !(decide (x = ("__name__" : Str)))
def ixB (e : Expr) : Bool := match e with
  | .Slice _ _ _ _ => false
  | _ => true
def isiT (c : String) : Option Str := match c with
  | "int" => some "int" | "str" => some "str" | "bool" => some "bool" | "tuple" => some "tuple" | "list" => some "list" | _ => none
def blkB (bk : Bk) (scope : Scope) : Bk := ⟨relS scope bk.sc, fun x => scope.names.lookup x == some .cell⟩
def ownP (N : List Str) (own : List Nat) : List (Str × Nat) := own.map fun i => (N.getD i default, i)
mutual
def tgV : Tg → List Nat
  | .name i => [i]
  | .tup ts => tgVs ts
  | .sub _ _ => []
def tgVs : Tgs → List Nat
  | .nil => []
  | .cons t ts => tgV t ++ tgVs ts
end
def Es.len : Es → Nat
  | .nil => 0
  | .cons _ es => es.len + 1
mutual
/-- a target of plain data -/
def chkT (nm : Nms) (bk : Bk) : Tg → Expr → Bool
  | .name i, e => (match e with
    | .Name x _ => decide (nm.N[i]? = some x) && locB bk x
    | _ => false)
  | .tup ts, e => (match e with
    | .Tuple es _ _ => chkTs nm bk ts es
    | _ => false)
  | .sub _ _, _ => false
def chkTs (nm : Nms) (bk : Bk) : Tgs → List Expr → Bool
  | .nil, es => (match es with
    | [] => true
    | _ => false)
  | .cons t ts, es => (match es with
    | e :: es => chkT nm bk t e && chkTs nm bk ts es
    | _ => false)
end
section
variable (nm : Nms)
mutual
def chkE (bk : Bk) : E → Expr → Bool
  | .var i, a => (match a with
    | .Name x _ => decide (nm.N[i]? = some x) && visB bk.sc x && plainN x
    | _ => false)
  | .cst c, a => litA c a
  | .gbl j, a => (match a with
    | .Name x _ => decide (nm.G[j]? = some x) && glB bk.sc x && plainN x
    | _ => false)
  | .fnv k, a => (match a with
    | .Name x _ => decide (nm.F[k]? = some x) && glB bk.sc x && plainN x
    | _ => false)
  | .bin o x y, a => (match a with
    | .BinOp l op r _ => decide (op = opA o) && chkE bk x l && chkE bk y r
    | _ => false)
  | .neg x, a => (match a with
    | .UnaryOp op l _ => decide (op = .USub) && chkE bk x l
    | _ => false)
  | .notv x, a => (match a with
    | .UnaryOp op l _ => decide (op = .Not) && chkE bk x l
    | _ => false)
  | .bop isAnd es, a => (match a with
    | .BoolOp op vs _ => decide (op = opB isAnd) && !vs.isEmpty && chkB bk es vs
    | _ => false)
  | .cmp o x y, a => (match a with
    | .Compare l [op] [r] _ => decide (op = copA o) && !behindInMarks op r && chkE bk x l && chkE bk y r
    | _ => false)
  | .chn o o' x y z, a => (match a with
    | .Compare l [op, op'] [r, r'] _ => decide (op = copA o) && decide (op' = copA o') && !lastMarks [op, op'] [r, r'] && chkE bk x l && chkE bk y r && chkE bk z r'
    | _ => false)
  | .ifx c x y, a => (match a with
    | .IfExp t l r _ => chkE bk c t && chkE bk x l && chkE bk y r
    | _ => false)
  | .tup es, a => (match a with
    | .Tuple vs _ _ => chkB bk es vs
    | _ => false)
  | .lst _ es, a => (match a with
    | .List vs _ => chkB bk es vs
    | _ => false)
  | .dnew _, a => (match a with
    | .Dict [] [] _ => true
    | _ => false)
  | .dsp ks vs, a => (match a with
    | .Dict keys vals _ => chkD bk vs ks keys vals && !ks.isEmpty && decide (ks.length ≤ 15)
    | _ => false)
  | .idx x y, a => (match a with
    | .Subscript l r _ => ixB r && chkE bk x l && chkE bk y r
    | _ => false)
  | .slc x lo hi, a => (match a with
    | .Subscript l (.Slice l1 h1 none _) _ => chkE bk x l && chkO bk lo l1 && chkO bk hi h1
    | _ => false)
  | .call k es, a => (match a with
    | .Call (.Name x _) args [] _ => decide (nm.F[k]? = some x) && glB bk.sc x && plainN x && chkB bk es args
    | _ => false)
  | .callv nf i es, a => (match a with
    | .Call (.Name x _) args [] _ => decide (nf = nm.F.length) && decide (nm.N[i]? = some x) && visB bk.sc x && plainN x && !args.isEmpty && chkB bk es args
    | _ => false)
  | .blt f es, a => (match a with
    | .Call (.Name x _) args [] _ => decide (x = bfN f) && glB bk.sc x && !args.isEmpty && chkB bk es args
    | _ => false)
  | .isi x cs, a => (match a with
    | .Call (.Name y _) [e, .Name t _] [] _ => decide (y = ("isinstance" : Str)) && glB bk.sc y && !star1 e && chkE bk x e && (match cs with
      | [c] => decide (isiT c = some t) && glB bk.sc t
      | _ => false)
    | _ => false)
  | .mth m x es, a => (match a with
    | .Call (.Attribute o name apos) args [] pos => decide (name = mtN m) && mtOk m args.length && base1 o && (apos.endLine == pos.line) && !args.isEmpty && chkE bk x o && chkB bk es args
    | _ => false)
  | .lc _ own elt tg it ifs, a => (match a with
    | .ListComp e [⟨t, iter, ifs1, k⟩] scope _ => decide (k = 0) && blkC nm.N bk.sc scope (ownP nm.N own) && chkE (blkB bk scope) elt e && chkT nm (blkB bk scope) tg t && ((tgV tg).all fun i => own.contains i) && chkI bk it t iter && chkW (blkB bk scope) ifs ifs1
    | _ => false)
  | .fst es, a => (match a with
    | .JoinedStr (v1 :: v2 :: rest) _ => chkF bk es (v1 :: v2 :: rest)
    | _ => false)
/-- arguments, members, terms -/
def chkB (bk : Bk) : Es → List Expr → Bool
  | .nil, vs => (match vs with
    | [] => true
    | _ => false)
  | .cons e es, vs => (match vs with
    | v :: vs => !star1 v && chkE bk e v && chkB bk es vs
    | _ => false)
def chkD (bk : Bk) : Es → List Lit → List (Option Expr) → List Expr → Bool
  | .nil, ks, keys, vs => (match ks, keys, vs with
    | [], [], [] => true
    | _, _, _ => false)
  | .cons e es, ks, keys, vs => (match ks, keys, vs with
    | c :: ks, some k :: keys, v :: vs => litA c k && chkE bk e v && chkD bk es ks keys vs
    | _, _, _ => false)
def chkO (bk : Bk) : Eo → Option Expr → Bool
  | .none, a => (match a with
    | none => true
    | _ => false)
  | .some e, a => (match a with
    | some a => chkE bk e a
    | _ => false)
/-- a clause's tests: none, one -/
def chkW (bk : Bk) : Es → List Expr → Bool
  | .nil, vs => (match vs with
    | [] => true
    | _ => false)
  | .cons e es, vs => (match vs, es with
    | [v], .nil => chkE bk e v
    | _, _ => false)
def chkF (bk : Bk) : Es → List Expr → Bool
  | .nil, vs => (match vs with
    | [] => true
    | _ => false)
  | .cons e es, vs => (match vs with
    | v :: vs => (match v with
      | .FormattedValue x c none _ => decide (c = -1) && chkE bk e x
      | v => (match e with
        | .cst (.str l) => litA (.str l) v
        | _ => false)) && chkF bk es vs
    | _ => false)
def chkI (bk : Bk) : It → Expr → Expr → Bool
  | .val e, _, a => chkE bk e a && (match a with
    | .Set _ _ _ => false
    | _ => true)
  | .rng x, _, a => (match a with
    | .Call (.Name f _) [e] [] _ => decide (f = ("range" : Str)) && glB bk.sc f && !star1 e && chkE bk x e
    | _ => false)
  | .rng2 x y, _, a => (match a with
    | .Call (.Name f _) [e, e2] [] _ => decide (f = ("range" : Str)) && glB bk.sc f && !star1 e && !star1 e2 && chkE bk x e && chkE bk y e2
    | _ => false)
  | .enum x, t, a => (match a, t with
    | .Call (.Name f _) [e] [] _, .Tuple _ _ _ => decide (f = ("enumerate" : Str)) && glB bk.sc f && !star1 e && chkE bk x e
    | _, _ => false)
end
end
/-- the built-in names that are used -/
def bltNames : List Str := ["len", "all", "any", "int", "str", "bool", "tuple", "list", "sorted", "min", "max", "abs", "sum", "isinstance", "range", "enumerate"]
structure Good (X : Cx) (I : Ins) (C : List D) (W : WX) (call : Mean) (n : Nat) (nm : Nms) (bk : Bk) : Prop where
  hN : X.N = nm.N
  nd : nm.N.Nodup
  sc : X.env.scope = bk.sc
  cm : X.calm = true
  rm : Room n X.A
  tk : Takes X W
  fn : ∀ x, bk.fn x = true → X.fn x = true
  cl : ∀ k x, nm.F[k]? = some x → Callee X I C call n k x
  kon : ∀ j x, nm.G[j]? = some x → KonOk X C j x
  bl : ∀ x ∈ bltNames, X.mg x = none
section
variable {X : Cx} {I : Ins} {C : List D} {W : WX} {call : Mean} {n : Nat} {nm : Nms} {bk : Bk}
theorem Good.un (G : Good X I C W call n nm bk) : X.A.units + 64 < cLine := G.rm.units
theorem Good.vis (G : Good X I C W call n nm bk) {x : Str} (h : visB bk.sc x = true) : Vis X.env.scope x := by
  unfold visB at h
  unfold Vis
  rw [G.sc]
  split at h
  · rename_i e; exact .inl e
  · rename_i e; exact .inr (.inl e)
  · rename_i e; exact .inr (.inr e)
  · cases h
theorem Good.gl (G : Good X I C W call n nm bk) {x : Str} (h : glB bk.sc x = true) : Gl X x := by
  unfold glB at h
  show X.env.scope.names.lookup x = _
  rw [G.sc]
  split at h
  · rename_i e; exact e
  · cases h
theorem Good.loc (G : Good X I C W call n nm bk) {x : Str} (h : locB bk x = true) : L2.Loc X.env.scope x ∧ (X.fn x = true ∨ X.env.scope.names.lookup x = some .local) := by
  unfold locB at h
  unfold L2.Loc
  rw [G.sc]
  split at h
  · rename_i e; exact ⟨.inl e, .inr e⟩
  · rename_i e; exact ⟨.inr e, .inl (G.fn x h)⟩
  · cases h
theorem plainN_d {x : Str} (h : plainN x = true) : (x == ("__debug__" : Str)) = false ∧ (x == ("__classdict__" : Str)) = false ∧ x ≠ "__name__" := by
  unfold plainN at h
  simp only [Bool.and_eq_true, Bool.not_eq_true', decide_eq_false_iff_not] at h
  exact ⟨h.1.1, h.1.2, h.2⟩
theorem ixB_ok {e : Expr} (h : ixB e = true) : PlainIx e := by
  intro o i
  cases e <;> first | rfl | cases h
/-- into a block -/
theorem Good.blk (G : Good X I C W call n nm bk) (s : Shared) (H : Hp) (scope : Scope) (C0 : Addr) (cl : List (Str × Addr)) (fp : List Addr) :
    Good (X.blk s H scope (compEnvC scope cl C0 X.env) fp) I C WF call n nm (blkB bk scope) := by
  refine ⟨G.hN, G.nd, ?_, G.cm, G.rm, ?_, fun x h => h, fun k x h => ?_, G.kon, G.bl⟩
  · show relS scope X.env.scope = relS scope bk.sc
    rw [G.sc]
  · rintro u s' ⟨a, B, sI, pins, σ, H, cls, d, _, _, _, _, _, _, _, _, w⟩
    exact w.elim
  · obtain ⟨h1, h2, h3⟩ := G.cl k x h
    exact ⟨h1, h2, h3⟩
end
end Rx


set_option linter.all false
set_option maxRecDepth 100000
set_option maxHeartbeats 4000000
/-! Rx, part D6: the checker of expressions is right. -/
namespace Rx
open PySem PySem.Spec PyProof.Rows L2 SeqAt
section
variable {X : Cx} {I : Ins} {C : List D} {W : WX} {call : Mean} {n : Nat} {nm : Nms} {bk : Bk}
theorem chkTs_len : ∀ (ts : Tgs) (es : List Expr), chkTs nm bk ts es = true → es.length = ts.len
  | .nil, es, h => by
    unfold chkTs at h
    split at h
    · rfl
    · cases h
  | .cons t ts, es, h => by
    unfold chkTs at h
    split at h
    · rename_i e es
      simp only [Bool.and_eq_true] at h
      unfold Tgs.len
      rw [List.length_cons, chkTs_len ts es h.2]
    · cases h
mutual
theorem okT (vs : List Nat) : ∀ (t : Tg) (a : Expr), (∀ i ∈ tgV t, i ∈ vs) → chkT nm bk t a = true → Good X I C W call n nm bk → PG X a (rG I X.K C W vs (denG t))
  | .name i, a, hv, h, G => by
    unfold chkT at h
    split at h
    · rename_i x pos
      simp only [Bool.and_eq_true, decide_eq_true_eq] at h
      have e : denG (.name i) = fun x env s => .ok (env.set i (some (.pd x))) s := by funext x env s; rfl
      rw [e]
      exact g_name (by rw [G.hN]; exact G.nd) (by rw [G.hN]; exact h.1) (G.loc h.2).1 (G.loc h.2).2 (hv i (by simp [tgV]))
    · cases h
  | .tup ts, a, hv, h, G => by
    unfold chkT at h
    split at h
    · rename_i es k pos
      obtain ⟨h1, h2, h3⟩ := okTs vs ts es (fun i hi => hv i (by simpa [tgV] using hi)) h G
      refine pg_imp (pg_tup G.cm h1 h2 h3) fun v σ H Q ⟨g, S, env, x, w, r, q⟩ => ?_
      cases x with
      | tuple xs =>
        obtain ⟨a, us, rfl, k1, k2, k3⟩ := r.seq_len
        have q : Post I X.K (RG I X.K vs σ) W σ g H S (denGs ts xs env S) Q := q
        refine ⟨a, us, rfl, k1, ?_, g, S, env, xs, w, k3, q⟩
        rw [k2]
        rw [denGs_len ts xs env S (fun e => by rw [e] at q; exact q.elim)]
        exact (chkTs_len ts es h).symm
      | _ => exact q.elim
    · cases h
  | .sub _ _, a, hv, h, G => by cases h
theorem okTs (vs : List Nat) : ∀ (ts : Tgs) (es : List Expr), (∀ i ∈ tgVs ts, i ∈ vs) → chkTs nm bk ts es = true → Good X I C W call n nm bk →
    PGs X es (rGs I X.K C W vs (denGs ts)) ∧ (assignEach es X.env).length = es.length ∧ (assignEach es X.env).findIdx? (·.1) = none
  | .nil, es, hv, h, G => by
    unfold chkTs at h
    split at h
    · exact ⟨gs_nil, rfl, rfl⟩
    · cases h
  | .cons t ts, es, hv, h, G => by
    unfold chkTs at h
    split at h
    · rename_i e es
      simp only [Bool.and_eq_true] at h
      have h1 := okT vs t e (fun i hi => hv i (by simp [tgVs, hi])) h.1 G
      obtain ⟨h2, h3, h4⟩ := okTs vs ts es (fun i hi => hv i (by simp [tgVs, hi])) h.2 G
      have ea : assignEach (e :: es) X.env = (false, assign e X.env) :: assignEach es X.env := by
        have := h.1
        unfold chkT at this
        cases t <;> cases e <;> first | rfl | cases this
      refine ⟨gs_cons h1 h2 (by rw [ea]; rfl), by rw [ea, List.length_cons, List.length_cons, h3], ?_⟩
      rw [ea, List.findIdx?_cons, h4]
      rfl
    · cases h
end
end
end Rx


set_option linter.all false
set_option maxRecDepth 100000
set_option maxHeartbeats 4000000
/-! Rx, part D7: the checker of expressions is right. -/
namespace Rx
open PySem PySem.Spec PyProof.Rows L2 SeqAt
/-- an expression is what it denotes, as a value and as a test -/
abbrev OkX (X : Cx) (I : Ins) (C : List D) (W : WX) (a : Expr) (d : DE × DT) : Prop := PE X a (rE I X.K C W d.1) ∧ PT X a (rT I X.K C W d.2)
theorem pt_stuck {X : Cx} {I : Ins} {K : PySem.W.Frag} {C : List D} {W : WX} {a : Expr} : PT X a (rT I K C W fun _ _ => .stuck) := ⟨fun pins s σ H Q Iv ⟨g, S, env, w, h⟩ => h.elim⟩
theorem nm_in {X : Cx} {I : Ins} {C : List D} {W : WX} {call : Mean} {n : Nat} {nm : Nms} {bk : Bk} (G : Good X I C W call n nm bk) (f : Bf) : X.mg (bfN f) = none := by
  refine G.bl _ ?_
  unfold bltNames
  cases f <;> simp [bfN]
theorem isiT_ok {X : Cx} {I : Ins} {C : List D} {W : WX} {call : Mean} {n : Nat} {nm : Nms} {bk : Bk} (G : Good X I C W call n nm bk) {c : String} {t : Str} (h : isiT c = some t) : X.mg t = none ∧ bootBuiltins t = some (.type c) ∧ t ≠ "__name__" ∧ (t == ("__debug__" : Str)) = false := by
  unfold isiT at h
  split at h <;> cases h
  · exact ⟨G.bl _ (by simp [bltNames]), boot_int, by decide, by decide⟩
  · exact ⟨G.bl _ (by simp [bltNames]), boot_str, by decide, by decide⟩
  · exact ⟨G.bl _ (by simp [bltNames]), boot_bool, by decide, by decide⟩
  · exact ⟨G.bl _ (by simp [bltNames]), boot_tuple, by decide, by decide⟩
  · exact ⟨G.bl _ (by simp [bltNames]), boot_list, by decide, by decide⟩
theorem lit_str {l : List Nat} {v : Expr} (h : litA (.str l) v = true) : ∃ x j pos, v = .Constant (.str x) j pos ∧ x = ⟨l.toArray⟩ := by
  cases v with
  | Constant c k p =>
    cases c with
    | str x => exact ⟨x, k, p, rfl, of_decide_eq_true h⟩
    | _ => cases h
  | _ => cases h
theorem ownP_map (N : List Str) (own : List Nat) : (ownP N own).map (·.2) = own := by
  unfold ownP
  rw [List.map_map]
  exact List.map_id' own
theorem notSet {e : Expr} {env : PySem.Env} (h : (match e with
    | .Set _ _ _ => false
    | _ => true) = true) : ∀ x, foldedSetIterable e env x = pure x := by
  intro x
  cases e <;> first | rfl | cases h
section
variable {I : Ins} {C : List D} {call : Mean} {n : Nat} {nm : Nms}
mutual
theorem okE : ∀ (e : E) (a : Expr) (bk : Bk) (X : Cx) (W : WX), chkE nm bk e a = true → Good X I C W call n nm bk → OkX X I C W a (den C call e)
  | .var i, a, bk, X, W, h, G => by
    unfold chkE at h
    split at h
    · simp only [Bool.and_eq_true, decide_eq_true_eq] at h
      obtain ⟨p1, p2, _⟩ := plainN_d h.2
      exact k_both (k_var (by rw [G.hN]; exact h.1.1) (G.vis h.1.2) p1 p2) (fun _ => rfl)
    · cases h
  | .cst c, a, bk, X, W, h, G => by
    unfold chkE litA at h
    split at h
    · exact k_both k_non (fun _ => rfl)
    · rw [beq_iff_eq] at h; subst h; exact k_both k_bl (fun _ => rfl)
    · rw [beq_iff_eq] at h; subst h; exact k_both k_int (fun _ => rfl)
    · rw [decide_eq_true_eq] at h; exact k_both (k_str h) (fun _ => rfl)
    · cases h
  | .gbl j, a, bk, X, W, h, G => by
    unfold chkE at h
    split at h
    · simp only [Bool.and_eq_true, decide_eq_true_eq] at h
      obtain ⟨p1, p2, _⟩ := plainN_d h.2
      exact k_both (k_gbl (G.gl h.1.2) (G.kon _ _ h.1.1) p1) (fun _ => rfl)
    · cases h
  | .fnv k, a, bk, X, W, h, G => by
    unfold chkE at h
    split at h
    · simp only [Bool.and_eq_true, decide_eq_true_eq] at h
      obtain ⟨p1, p2, _⟩ := plainN_d h.2
      exact k_both (k_fnv (G.gl h.1.2) (G.cl _ _ h.1.1).mg p1) (fun _ => rfl)
    · cases h
  | .bin o x y, a, bk, X, W, h, G => by
    unfold chkE at h
    split at h
    · simp only [Bool.and_eq_true, decide_eq_true_eq] at h
      obtain ⟨⟨rfl, h1⟩, h2⟩ := h
      exact k_both (k_bin o (okE x _ bk X W h1 G).1 (okE y _ bk X W h2 G).1) (fun _ => rfl)
    · cases h
  | .neg x, a, bk, X, W, h, G => by
    unfold chkE at h
    split at h
    · simp only [Bool.and_eq_true, decide_eq_true_eq] at h
      obtain ⟨rfl, h1⟩ := h
      exact k_both (k_neg (okE x _ bk X W h1 G).1) (fun _ => rfl)
    · cases h
  | .notv x, a, bk, X, W, h, G => by
    unfold chkE at h
    split at h
    · simp only [Bool.and_eq_true, decide_eq_true_eq] at h
      obtain ⟨rfl, h1⟩ := h
      have q := okE x _ bk X W h1 G
      exact ⟨k_notE q.1, k_notT q.2⟩
    · cases h
  | .bop isAnd es, a, bk, X, W, h, G => by
    unfold chkE at h
    split at h
    · rename_i op vs pos
      simp only [Bool.and_eq_true, decide_eq_true_eq] at h
      obtain ⟨⟨rfl, h1⟩, h2⟩ := h
      cases vs with
      | nil => cases h1
      | cons v vs =>
        have q := okB es isAnd pos v vs bk X W h2 G
        exact ⟨q.1, q.2.pt⟩
    · cases h
  | .cmp o x y, a, bk, X, W, h, G => by
    unfold chkE at h
    split at h
    · simp only [Bool.and_eq_true, decide_eq_true_eq, Bool.not_eq_true'] at h
      obtain ⟨⟨⟨rfl, h0⟩, h1⟩, h2⟩ := h
      exact k_cmp o G.un (okE x _ bk X W h1 G).1 (okE y _ bk X W h2 G).1 h0
    · cases h
  | .chn o o' x y z, a, bk, X, W, h, G => by
    unfold chkE at h
    split at h
    · simp only [Bool.and_eq_true, decide_eq_true_eq, Bool.not_eq_true'] at h
      obtain ⟨⟨⟨⟨⟨rfl, rfl⟩, h0⟩, h1⟩, h2⟩, h3⟩ := h
      exact k_chn o o' G.un (okE x _ bk X W h1 G).1 (okE y _ bk X W h2 G).1 (okE z _ bk X W h3 G).1 h0
    · cases h
  | .ifx c x y, a, bk, X, W, h, G => by
    unfold chkE at h
    split at h
    · simp only [Bool.and_eq_true] at h
      obtain ⟨⟨h0, h1⟩, h2⟩ := h
      exact ⟨k_ifx (okE c _ bk X W h0 G).2 (okE x _ bk X W h1 G).1 (okE y _ bk X W h2 G).1, pt_stuck⟩
    · cases h
  | .tup es, a, bk, X, W, h, G => by
    unfold chkE at h
    split at h
    · exact k_both (k_tup (okEs es _ bk X W h G).2.1) (fun _ => rfl)
    · cases h
  | .lst mu es, a, bk, X, W, h, G => by
    unfold chkE at h
    split at h
    · exact k_both (k_lst (okEs es _ bk X W h G).2.1) (fun _ => rfl)
    · cases h
  | .dnew tk, a, bk, X, W, h, G => by
    unfold chkE at h
    split at h
    · exact k_both (k_dnew tk) (fun _ => rfl)
    · cases h
  | .dsp ks vs, a, bk, X, W, h, G => by
    unfold chkE at h
    split at h
    · simp only [Bool.and_eq_true, decide_eq_true_eq] at h
      obtain ⟨⟨h1, h2⟩, h3⟩ := h
      exact k_both (k_dsp (okD vs ks _ _ bk X W h1 G) (by rintro rfl; cases h2) h3) (fun _ => rfl)
    · cases h
  | .idx x y, a, bk, X, W, h, G => by
    unfold chkE at h
    split at h
    · simp only [Bool.and_eq_true] at h
      exact k_both (k_idx G.un (okE x _ bk X W h.1.2 G).1 (okE y _ bk X W h.2 G).1 (ixB_ok h.1.1)) (fun _ => rfl)
    · cases h
  | .slc x lo hi, a, bk, X, W, h, G => by
    unfold chkE at h
    split at h
    · simp only [Bool.and_eq_true] at h
      exact k_both (k_slc (okE x _ bk X W h.1.1 G).1 (okO lo _ bk X W h.1.2 G) (okO hi _ bk X W h.2 G)) (fun _ => rfl)
    · cases h
  | .call k es, a, bk, X, W, h, G => by
    unfold chkE at h
    split at h
    · rename_i x p args pos
      simp only [Bool.and_eq_true, decide_eq_true_eq] at h
      obtain ⟨⟨⟨h0, h1⟩, h2⟩, h3⟩ := h
      obtain ⟨p1, p2, _⟩ := plainN_d h2
      obtain ⟨k1, k2, k3⟩ := okEs es args bk X W h3 G
      cases args with
      | nil =>
        cases es with
        | nil => exact k_both (k_call0 (G.cl _ _ h0) G.rm G.tk (G.gl h1) p1) (fun _ => rfl)
        | cons _ _ => cases h3
      | cons b bs => exact k_both (k_call (G.cl _ _ h0) G.rm G.tk (G.gl h1) p1 k3 k1) (fun _ => rfl)
    · cases h
  | .callv nf i es, a, bk, X, W, h, G => by
    unfold chkE at h
    split at h
    · rename_i x p args pos
      simp only [Bool.and_eq_true, decide_eq_true_eq] at h
      obtain ⟨⟨⟨⟨⟨rfl, h0⟩, h1⟩, h2⟩, hne⟩, h3⟩ := h
      obtain ⟨p1, p2, _⟩ := plainN_d h2
      obtain ⟨k1, k2, k3⟩ := okEs es args bk X W h3 G
      cases args with
      | nil => cases hne
      | cons b bs =>
        exact k_both (k_callv (fun k hk => ⟨_, G.cl k (nm.F[k]'hk) (List.getElem?_eq_getElem hk)⟩) G.rm G.tk (by rw [G.hN]; exact h0) (G.vis h1) p1 p2 k3 k1) (fun _ => rfl)
    · cases h
  | .blt f es, a, bk, X, W, h, G => by
    unfold chkE at h
    split at h
    · rename_i x p args pos
      simp only [Bool.and_eq_true, decide_eq_true_eq] at h
      obtain ⟨⟨⟨rfl, h1⟩, hne⟩, h3⟩ := h
      obtain ⟨k1, k2, k3⟩ := okEs es args bk X W h3 G
      cases args with
      | nil => cases hne
      | cons b bs => exact k_both (k_blt f (blt_ok G.cm (c_sorted (by have := G.rm.un; omega)) f) (G.gl h1) (nm_in G f) k3 k1) (fun _ => rfl)
    · cases h
  | .isi x cs, a, bk, X, W, h, G => by
    unfold chkE at h
    split at h
    · rename_i y p e t p2 pos
      simp only [Bool.and_eq_true, decide_eq_true_eq, Bool.not_eq_true'] at h
      obtain ⟨⟨⟨⟨rfl, h1⟩, h2⟩, h3⟩, h4⟩ := h
      split at h4
      · rename_i c
        simp only [Bool.and_eq_true, decide_eq_true_eq] at h4
        obtain ⟨q1, q2, q3, q4⟩ := isiT_ok G h4.1
        exact k_both (k_isi (G.gl h1) (G.bl _ (by simp [bltNames])) (G.gl h4.2) q1 q2 q3 q4 h2 (okE x _ bk X W h3 G).1) (fun _ => rfl)
      · cases h4
    · cases h
  | .mth m x es, a, bk, X, W, h, G => by
    unfold chkE at h
    split at h
    · rename_i o name apos args pos
      simp only [Bool.and_eq_true, decide_eq_true_eq] at h
      obtain ⟨⟨⟨⟨⟨⟨rfl, h1⟩, h2⟩, h3⟩, hne⟩, h4⟩, h5⟩ := h
      obtain ⟨k1, k2, k3⟩ := okEs es args bk X W h5 G
      cases args with
      | nil => cases hne
      | cons b bs => exact k_both (k_mth m G.un h1 h2 h3 k3 (okE x _ bk X W h4 G).1 k1) (fun _ => rfl)
    · cases h
  | .lc mu own elt tg it ifs, a, bk, X, W, h, G => by
    unfold chkE at h
    split at h
    · rename_i e t iter ifs1 k scope pos
      simp only [Bool.and_eq_true, decide_eq_true_eq] at h
      obtain ⟨⟨⟨⟨⟨⟨rfl, h1⟩, h2⟩, h3⟩, h4⟩, h5⟩, h6⟩ := h
      have blk : BlkOk X.N X.env.scope scope (ownP nm.N own) := by rw [G.hN, G.sc]; exact blkOk_by h1
      have hv : ∀ i ∈ tgV tg, i ∈ own := fun i hi => by
        have := List.all_eq_true.mp h4 i hi
        simpa using this
      obtain ⟨q1, q2⟩ := okI it t iter bk X W h5 G
      have key := pe_lc (pos := pos) (g := rG I X.K C WF own (denG tg)) (tt := rT I X.K C WF fun env s => tests (denTs C call ifs env) s) (te := rE I X.K C WF (den C call elt).1) G.cm (by rw [G.hN]; exact G.nd) q1 blk
        (fun s H C0 cl fp => okT own tg t hv h3 (G.blk s H scope C0 cl fp))
        (fun s H C0 cl fp => okW ifs ifs1 _ _ _ h6 (G.blk s H scope C0 cl fp))
        (fun s H C0 cl fp => (okE elt e _ _ _ h2 (G.blk s H scope C0 cl fp)).1) q2
      rw [ownP_map] at key
      exact k_both (pe_imp key fun σ H Q q => lc_t (mu := mu) q) (fun _ => rfl)
    · cases h
  | .fst es, a, bk, X, W, h, G => by
    unfold chkE at h
    split at h
    · exact k_both (k_fst (okF es _ bk X W h G)) (fun _ => rfl)
    · cases h
theorem okEs : ∀ (es : Es) (as : List Expr) (bk : Bk) (X : Cx) (W : WX), chkB nm bk es as = true → Good X I C W call n nm bk →
    PA X as (rV I X.K C W (denV C call es)) ∧ PA X as (rP I X.K C W (denP C call es)) ∧ as.any star1 = false
  | .nil, as, bk, X, W, h, G => by
    unfold chkB at h
    split at h
    · exact ⟨k_vnil, k_pnil, rfl⟩
    · cases h
  | .cons e es, as, bk, X, W, h, G => by
    unfold chkB at h
    split at h
    · rename_i v vs
      simp only [Bool.and_eq_true, Bool.not_eq_true'] at h
      obtain ⟨⟨h1, h2⟩, h3⟩ := h
      have q := okE e v bk X W h2 G
      obtain ⟨k1, k2, k3⟩ := okEs es vs bk X W h3 G
      exact ⟨k_vcons h1 q.1 k1, k_pcons h1 q.1 k2, by rw [List.any_cons, h1, k3]; rfl⟩
    · cases h
theorem okB : ∀ (es : Es) (isAnd : Bool) (pos : Pos) (v : Expr) (vs : List Expr) (bk : Bk) (X : Cx) (W : WX), chkB nm bk es (v :: vs) = true → Good X I C W call n nm bk →
    PE X (.BoolOp (opB isAnd) (v :: vs) pos) (rE I X.K C W (denB C call isAnd es).1) ∧ PW X (.BoolOp (opB isAnd) (v :: vs) pos) (rT I X.K C W (denB C call isAnd es).2)
  | .nil, isAnd, pos, v, vs, bk, X, W, h, G => by cases h
  | .cons e .nil, isAnd, pos, v, vs, bk, X, W, h, G => by
    unfold chkB at h
    simp only [Bool.and_eq_true] at h
    cases vs with
    | nil => exact k_bop1 (okE e v bk X W h.1.2 G)
    | cons _ _ => cases h.2
  | .cons e (.cons e2 es), isAnd, pos, v, vs, bk, X, W, h, G => by
    unfold chkB at h
    simp only [Bool.and_eq_true] at h
    cases vs with
    | nil => cases h.2
    | cons v2 vs => exact k_bop (okE e v bk X W h.1.2 G) (okB (.cons e2 es) isAnd pos v2 vs bk X W h.2 G)
theorem okD : ∀ (vs : Es) (ks : List Lit) (keys : List (Option Expr)) (vals : List Expr) (bk : Bk) (X : Cx) (W : WX) {pos : Pos}, chkD nm bk vs ks keys vals = true → Good X I C W call n nm bk → KP X I C W pos keys vals ks (denP C call vs)
  | .nil, ks, keys, vals, bk, X, W, pos, h, G => by
    unfold chkD at h
    split at h
    · exact kp_nil
    · cases h
  | .cons e es, ks, keys, vals, bk, X, W, pos, h, G => by
    unfold chkD at h
    split at h
    · simp only [Bool.and_eq_true] at h
      exact kp_cons h.1.1 (okE e _ bk X W h.1.2 G).1 (okD es _ _ _ bk X W h.2 G)
    · cases h
theorem okO : ∀ (o : Eo) (a : Option Expr) (bk : Bk) (X : Cx) (W : WX), chkO nm bk o a = true → Good X I C W call n nm bk → PO X a (rO I X.K C W (denO C call o))
  | .none, a, bk, X, W, h, G => by
    unfold chkO at h
    split at h
    · exact k_onone
    · cases h
  | .some e, a, bk, X, W, h, G => by
    unfold chkO at h
    split at h
    · exact k_osome (okE e _ bk X W h G).1
    · cases h
theorem okW : ∀ (es : Es) (as : List Expr) (bk : Bk) (X : Cx) (W : WX), chkW nm bk es as = true → Good X I C W call n nm bk → PTs X as (rT I X.K C W fun env s => tests (denTs C call es env) s)
  | .nil, as, bk, X, W, h, G => by
    unfold chkW at h
    split at h
    · exact pts_imp pts_nil fun σ H Q ⟨g, S, env, w, q⟩ => Post.here (R1 := RT) q w.sr rfl
    · cases h
  | .cons e es, as, bk, X, W, h, G => by
    unfold chkW at h
    split at h
    · exact pts_one (okE e _ bk X W h G).2
    · cases h
theorem okF : ∀ (es : Es) (as : List Expr) (bk : Bk) (X : Cx) (W : WX), chkF nm bk es as = true → Good X I C W call n nm bk → KJ X I C W as (denF C call es)
  | .nil, as, bk, X, W, h, G => by
    unfold chkF at h
    split at h
    · exact kj_nil
    · cases h
  | .cons e es, as, bk, X, W, h, G => by
    unfold chkF at h
    split at h
    · rename_i v vs
      rw [Bool.and_eq_true] at h
      have r := okF es vs bk X W h.2 G
      have h1 := h.1
      split at h1
      · simp only [Bool.and_eq_true, decide_eq_true_eq] at h1
        obtain ⟨rfl, h1⟩ := h1
        exact kj_cons (k_fmt (okE e _ bk X W h1 G).1) r
      · split at h1
        · rename_i l
          obtain ⟨x, j, pos, rfl, e⟩ := lit_str h1
          exact kj_cons (kj_str e) r
        · cases h1
    · cases h
theorem okI : ∀ (it : It) (t a : Expr) (bk : Bk) (X : Cx) (W : WX), chkI nm bk it t a = true → Good X I C W call n nm bk → PI X t a (rI I X.K C W (denI C call it)) ∧ ∀ x, foldedSetIterable a X.env x = pure x
  | .val e, t, a, bk, X, W, h, G => by
    unfold chkI at h
    rw [Bool.and_eq_true] at h
    exact ⟨k_val (okE e a bk X W h.1 G).1, notSet h.2⟩
  | .rng x, t, a, bk, X, W, h, G => by
    unfold chkI at h
    split at h
    · simp only [Bool.and_eq_true, decide_eq_true_eq, Bool.not_eq_true'] at h
      obtain ⟨⟨⟨rfl, h1⟩, h2⟩, h3⟩ := h
      exact ⟨k_rng (G.gl h1) (G.bl _ (by simp [bltNames])) h2 (okE x _ bk X W h3 G).1, fun _ => rfl⟩
    · cases h
  | .rng2 x y, t, a, bk, X, W, h, G => by
    unfold chkI at h
    split at h
    · simp only [Bool.and_eq_true, decide_eq_true_eq, Bool.not_eq_true'] at h
      obtain ⟨⟨⟨⟨⟨rfl, h1⟩, h2⟩, h3⟩, h4⟩, h5⟩ := h
      exact ⟨k_rng2 (G.gl h1) (G.bl _ (by simp [bltNames])) h2 h3 (okE x _ bk X W h4 G).1 (okE y _ bk X W h5 G).1, fun _ => rfl⟩
    · cases h
  | .enum x, t, a, bk, X, W, h, G => by
    unfold chkI at h
    split at h
    · simp only [Bool.and_eq_true, decide_eq_true_eq, Bool.not_eq_true'] at h
      obtain ⟨⟨⟨rfl, h1⟩, h2⟩, h3⟩ := h
      exact ⟨k_enum (G.gl h1) (G.bl _ (by simp [bltNames])) h2 (okE x _ bk X W h3 G).1, fun _ => rfl⟩
    · cases h
end
end
end Rx


set_option linter.all false
set_option maxRecDepth 100000
set_option maxHeartbeats 2000000
/-! Rx, part D8: statements. -/
namespace Rx
open PySem PySem.Spec PyProof.Rows L2 SeqAt
/-- what is wanted behind a statement -/
def PostS (I : Ins) (K : PySem.W.Frag) (C : List D) (W : WX) (De : Ends) (g : Gh) (H : Hp) (S : Sto) (r : RS) : Prop := match r with
  | .out (.nx env) S' => ∀ g' H' σ', Stp g H S g' H' S' → Wld I K C g' H' S' env σ' → De.nx σ' H'
  | .out (.rt v) S' => ∀ g' H' x, Stp g H S g' H' S' → SR K g' H' S' → RpV I K g' H' v x → De.rt x H'
  | .out (.bk env) S' => ∀ g' H' σ', Stp g H S g' H' S' → Wld I K C g' H' S' env σ' → De.bk σ' H'
  | .out (.ct env) S' => ∀ g' H' σ', Stp g H S g' H' S' → Wld I K C g' H' S' env σ' → De.ct σ' H'
  | .exc e env S' => ∀ g' H' cls d σ', Stp g H S g' H' S' → Wld I K C g' H' S' env σ' → ExR I K g' H' e cls d → W cls d σ' H'
  | .stuck => False
def rS (I : Ins) (K : PySem.W.Frag) (C : List D) (W : WX) (d : Env → Sto → RS) : TS := fun De σ H => ∃ g S env, Wld I K C g H S env σ ∧ PostS I K C W De g H S (d env S)
section
variable {I : Ins} {K : PySem.W.Frag} {C : List D} {W : WX} {g g1 : Gh} {H H1 : Hp} {S S1 : Sto} {env : Env} {σ : L2.St} {De : Ends}
theorem PostS.from {r : RS} (h : PostS I K C W De g H S r) (st : Stp g H S g1 H1 S1) : PostS I K C W De g1 H1 S1 r := by
  cases r with
  | out o S' =>
    cases o with
    | nx env => exact fun g' H' σ' st' w => h g' H' σ' (st.trans st') w
    | rt v => exact fun g' H' x st' R r => h g' H' x (st.trans st') R r
    | bk env => exact fun g' H' σ' st' w => h g' H' σ' (st.trans st') w
    | ct env => exact fun g' H' σ' st' w => h g' H' σ' (st.trans st') w
  | exc e env S' => exact fun g' H' cls d σ' st' w x => h g' H' cls d σ' (st.trans st') w x
  | stuck => exact h
theorem goS {α β : Type} {R1 : Gh → Hp → α → β → Prop} {r : Res α} {f : α → Sto → RS} {Q : β → Hp → Prop} (w : Wld I K C g H S env σ) (h : PostS I K C W De g H S (r.go env f))
    (k : ∀ a S1 g1 H1 b, Stp g H S g1 H1 S1 → Wld I K C g1 H1 S1 env σ → R1 g1 H1 a b → PostS I K C W De g1 H1 S1 (f a S1) → Q b H1) : Post I K R1 W σ g H S r Q := by
  cases r with
  | ok a S' => exact fun g' H' b st R q => k a S' g' H' b st (w.st st R) q (PostS.from (r := f a S') h st)
  | exc e S' => exact fun g' H' cls d st R x => h g' H' cls d σ st (w.st st R) x
  | stuck => exact h
theorem goSE {d : DE} {f : Dv → Sto → RS} {Q : VK} (w : Wld I K C g H S env σ) (h : PostS I K C W De g H S ((d env S).go env f))
    (k : ∀ a S1 g1 H1 b, Stp g H S g1 H1 S1 → Wld I K C g1 H1 S1 env σ → RpV I K g1 H1 a b → PostS I K C W De g1 H1 S1 (f a S1) → Q b H1) : rE I K C W d σ H Q :=
  ⟨g, S, env, w, goS w h k⟩
theorem nxtS {r : RS} {f : Env → Sto → RS} (h : PostS I K C W De g H S (r.nxt f)) : PostS I K C W { De with nx := rS I K C W f De } g H S r := by
  cases r with
  | out o S' =>
    cases o with
    | nx env => exact fun g' H' σ' st w => ⟨g', S', env, w, PostS.from (r := f env S') h st⟩
    | rt v => exact h
    | bk env => exact h
    | ct env => exact h
  | exc e env S' => exact h
  | stuck => exact h
theorem nxS (w : Wld I K C g H S env σ) (h : PostS I K C W De g H S (.out (.nx env) S)) : De.nx σ H := h g H σ .refl w
end
theorem ps_imp {X : Cx} {st : Stmt} {t t' : TS} (h : PS X st t) (f : ∀ D σ H, t' D σ H → t D σ H) : PS X st t' := ⟨fun pins s σ H D I q => h.run pins s σ H D I (f D σ H q)⟩
theorem pss_imp {X : Cx} {st : List Stmt} {t t' : TS} (h : PSs X st t) (f : ∀ D σ H, t' D σ H → t D σ H) : PSs X st t' := ⟨fun pins s σ H D I q => h.run pins s σ H D I (f D σ H q)⟩
section
variable {X : Cx} {I : Ins} {C : List D} {W : WX} {pos : Pos} {e c : Expr} {de dc : DE} {tc : DT} {a b : List Stmt} {da db : Env → Sto → RS}
theorem s_nil : PSs X [] (rS I X.K C W fun env s => .out (.nx env) s) := pss_imp pss_nil fun De σ H ⟨g, S, env, w, h⟩ => nxS w h
theorem s_cons {st : Stmt} {rest : List Stmt} {d1 d2 : Env → Sto → RS} (h1 : PS X st (rS I X.K C W d1)) (h2 : PSs X rest (rS I X.K C W d2)) : PSs X (st :: rest) (rS I X.K C W fun env s => (d1 env s).nxt fun env s => d2 env s) :=
  pss_imp (pss_cons h1 h2) fun De σ H ⟨g, S, env, w, h⟩ => ⟨g, S, env, w, nxtS h⟩
def compE (e : Expr) : Bool := match e with
  | .ListComp _ _ _ _ | .SetComp _ _ _ _ | .DictComp _ _ _ _ _ => true
  | _ => false
theorem noswap {t : Option Expr} {l : Nat} {env : PySem.Env} (h : compE e = false) : swapsWith e t l env = pure false := by
  cases e <;> first | rfl | cases h
theorem s_exp (he : PE X e (rE I X.K C W de)) (hc : compE e = false) : PS X (.Expr e pos) (rS I X.K C W fun env s => (de env s).go env fun _ s => .out (.nx env) s) :=
  ps_imp (ps_expr he (noswap hc)) fun De σ H ⟨g, S, env, w, h⟩ => goSE w h fun v S1 g1 H1 x st1 w1 r h1 => nxS w1 h1
theorem s_ret (he : PE X e (rE I X.K C W de)) : PS X (.Return (some e) pos) (rS I X.K C W fun env s => (de env s).go env fun v s => .out (.rt v) s) :=
  ps_imp (ps_ret he) fun De σ H ⟨g, S, env, w, h⟩ => goSE w h fun v S1 g1 H1 x st1 w1 r h1 => h1 g1 H1 x .refl w1.sr r
theorem s_retN : PS X (.Return none pos) (rS I X.K C W fun _ s => .out (.rt (.pd .none)) s) := ps_imp ps_retN fun De σ H ⟨g, S, env, w, h⟩ => h g H .non .refl w.sr .non
theorem s_pass : PS X (.Pass pos) (rS I X.K C W fun env s => .out (.nx env) s) := ps_imp ps_pass fun De σ H ⟨g, S, env, w, h⟩ => nxS w h
theorem s_brk : PS X (.Break pos) (rS I X.K C W fun env s => .out (.bk env) s) := ps_imp ps_break fun De σ H ⟨g, S, env, w, h⟩ => h g H σ .refl w
theorem s_cnt : PS X (.Continue pos) (rS I X.K C W fun env s => .out (.ct env) s) := ps_imp ps_continue fun De σ H ⟨g, S, env, w, h⟩ => h g H σ .refl w
theorem s_ite (hc : PT X c (rT I X.K C W tc)) (ha : PSs X a (rS I X.K C W da)) (hb : PSs X b (rS I X.K C W db)) :
    PS X (.If c a b pos) (rS I X.K C W fun env s => (tc env s).go env fun k s => if k then da env s else db env s) := by
  refine ps_imp (ps_if hc ha hb) fun De σ H ⟨g, S, env, w, h⟩ => ⟨g, S, env, w, goS w h fun k S1 g1 H1 k' st1 w1 e h1 => ?_⟩
  cases e
  cases k with
  | true => exact ⟨g1, S1, env, w1, h1⟩
  | false => exact ⟨g1, S1, env, w1, h1⟩
/-! ### stores -/
/-- name = e -/
theorem s_set {i : Nat} {x : Str} {p : Pos} (hN : X.N.Nodup) (hi : X.N[i]? = some x) (hx : L2.Loc X.env.scope x ∧ (X.fn x = true ∨ X.env.scope.names.lookup x = some .local)) (he : PE X e (rE I X.K C W de)) (hs : swapsWith e (some (.Name x p)) pos.line X.env = pure false) :
    PS X (.Assign [.Name x p] e pos) (rS I X.K C W fun env s => (de env s).go env fun v s => .out (.nx (env.set i (some v))) s) :=
  ps_imp (ps_set hN hi hx.1 he hs hx.2) fun De σ H ⟨g, S, env, w, h⟩ => goSE w h fun v S1 g1 H1 y st1 w1 r h1 => h1 g1 H1 _ .refl ⟨w1.sr, w1.er.set i r, w1.kc⟩
/-- a, b = e -/
theorem s_unp {t : Expr} {ts : Tgs} {vs : List Nat} (he : PE X e (rE I X.K C W de)) (hg : PG X t (rG I X.K C W vs (denG (.tup ts)))) (hs : swapsWithSole [t] e pos.line X.env = pure false) (hw : swappedStores [t] e X.env = pure none)
    (h1 : (assignEach [t] X.env).map (·.2) = [assign t X.env]) :
    PS X (.Assign [t] e pos) (rS I X.K C W fun env s => (de env s).go env fun v s => (match view v s with
      | some (.tuple xs) => denGs ts xs env s
      | _ => .stuck : Res Env).go env fun env' s => .out (.nx env') s) := by
  refine ps_imp (ps_asg he hg hs hw h1) fun De σ H ⟨g, S, env, w, h⟩ => goSE w h fun v S1 g1 H1 y st1 w1 r h1 => ?_
  cases hv : view v S1 with
  | none => rw [hv] at h1; exact h1.elim
  | some d =>
    rw [hv] at h1
    cases d with
    | tuple xs =>
      have h1 : PostS I X.K C W De g1 H1 S1 ((denGs ts xs env S1).go env fun env' s => .out (.nx env') s) := h1
      refine ⟨g1, S1, env, .tuple xs, w1, view_rp w1.sr r hv, ?_⟩
      show Post I X.K (RG I X.K vs σ) W σ g1 H1 S1 (denGs ts xs env S1) De.nx
      refine goS w1 h1 fun env' S2 g2 H2 σ2 st2 w2 ⟨er, so⟩ h2 => ?_
      exact h2 g2 H2 σ2 .refl ⟨w2.sr, er, w2.kc⟩
    | _ => exact h1.elim
/-- o[i] = e -/
theorem s_sub {o i : Expr} {do' di : DE} {p : Pos} (hu : X.A.units + 64 < cLine) (he : PE X e (rE I X.K C W de)) (ho : PE X o (rE I X.K C W do')) (hi : PE X i (rE I X.K C W di))
    (hs : swapsWithSole [.Subscript o i p] e pos.line X.env = pure false) (hsl : ixB i = true) :
    PS X (.Assign [.Subscript o i p] e pos) (rS I X.K C W fun env s => (de env s).go env fun v s => ((toP v s).bind fun d s => (do' env s).bind fun x s => (di env s).bind fun y s => (setV C x y d s).bind fun _ s => .ok env s).go env fun env' s => .out (.nx env') s) := by
  have hg := pg_sub (pos := p) ho hi (set_ok C hu) (by intro v; cases i <;> first | rfl | cases hsl)
  refine ps_imp (ps_asg he hg hs) fun De σ H ⟨g, S, env, w, h⟩ => goSE w h fun v S1 g1 H1 y st1 w1 r h1 => ?_
  have h1 : Post I X.K (fun _ _ (a : Env) (_ : Unit) => a = env) W σ g1 H1 S1 ((toP v S1).bind fun d s => (do' env s).bind fun x s => (di env s).bind fun y s => (setV C x y d s).bind fun _ s => .ok env s) (fun _ H' => De.nx σ H') := by
    refine goS w1 h1 fun env' S2 g2 H2 _ st2 w2 e2 h2 => ?_
    subst e2
    exact nxS w2 h2
  obtain ⟨d, S2, g2, st2, R2, rd, h2⟩ := post_toP w1.sr r h1
  refine goE (w1.st st2 R2) h2 fun x S3 g3 H3 ox w3 st3 rx h3 => goE w3 h3 fun z S4 g4 H4 iz w4 st4 rz h4 => ?_
  refine ⟨I, W, σ, g4, S4, x, z, d, w4.kc, w4.sr, rx.st st4 w3.sr, rz, (rd.fw (st3.fw R2)).fw (st4.fw w3.sr), ?_⟩
  exact Post.bind h4 fun _ S5 g5 H5 _ st5 R5 _ h5 => Post.here (R1 := fun _ _ (a : Env) (_ : Unit) => a = env) (b := ()) h5 R5 rfl
/-- name = [..] on one line, the name a local -/
theorem s_setLc {mu : Bool} {i : Nat} {k : Int} {y : Str} {py : Pos} {elt tg iter : Expr} {ifs : List Expr} {scope : Scope} {own : List (Str × Nat)} {p : Pos} {di : Env → M (List D)} {t : Tg} {dts : Env → List (M Bool)} {vs : List Nat} (hk : k = 0) (hv : own.map (·.2) = vs)
    (hc : X.calm = true) (hN : X.N.Nodup) (hy : X.N[i]? = some y) (hyl : X.env.scope.names.lookup y = some .local)
    (hsw : swapsWith (.ListComp elt [⟨tg, iter, ifs, 0⟩] scope p) (some (.Name y py)) pos.line X.env = pure true) (hi : PI X tg iter (rI I X.K C W di)) (ok : BlkOk X.N X.env.scope scope own)
    (hg : ∀ (s : Shared) (H : Hp) (C0 : Addr) (cl : List (Str × Addr)) (fp : List Addr), PG (X.blk s H scope (compEnvC scope cl C0 X.env) fp) tg (rG I X.K C WF vs (denG t)))
    (ht : ∀ (s : Shared) (H : Hp) (C0 : Addr) (cl : List (Str × Addr)) (fp : List Addr), PTs (X.blk s H scope (compEnvC scope cl C0 X.env) fp) ifs (rT I X.K C WF fun env s => tests (dts env) s))
    (he : ∀ (s : Shared) (H : Hp) (C0 : Addr) (cl : List (Str × Addr)) (fp : List Addr), PE (X.blk s H scope (compEnvC scope cl C0 X.env) fp) elt (rE I X.K C WF de)) (hs : ∀ x, foldedSetIterable iter X.env x = pure x) :
    PS X (.Assign [.Name y py] (.ListComp elt [⟨tg, iter, ifs, k⟩] scope p) pos) (rS I X.K C W fun env s => (dLc mu vs di t dts de env s).go env fun v s => .out (.nx (env.set i (some v))) s) := by
  subst hk hv
  refine ps_imp (ps_setLc hc hN hy hyl hsw hi ok hg ht he hs) fun De σ H ⟨g, S, env, w, h⟩ => ?_
  refine lc_t (mu := mu) (goSE w h fun v S1 g1 H1 y st1 w1 r h1 => ?_)
  exact h1 g1 H1 _ .refl ⟨w1.sr, w1.er.set i r, w1.kc⟩
/-- name op= e -/
def rIp (K : PySem.W.Frag) (o : BOp) : TIp := fun x y H Q => ∃ (I : Ins) (W : WX) (σ : L2.St) (g : Gh) (S : Sto) (dx dy : Dv), SR K g H S ∧ RpV I K g H dx x ∧ RpV I K g H dy y ∧ Post I K (RpV I K) W σ g H S (augV o dx dy S) Q
theorem ip_ok (o : BOp) : PIp X (opA o) (rIp X.K o) := by
  intro pins s σ H x y v u Q Iv r1 r2 h
  obtain ⟨I, W, σ', g, S, dx, dy, R, q1, q2, h⟩ := h
  unfold augV at h
  split at h
  · rename_i a b
    exact ip_add pins s σ H x y v u Q Iv r1 r2 ⟨a, b, Rp.int_inv (show Rp X.K g H (.int a) x from q1), Rp.int_inv (show Rp X.K g H (.int b) y from q2), Post.here (R1 := RpV I X.K) h R (.int _)⟩
  · rename_i a b
    split at h
    · rename_i hl
      exact iop_add_str pins s σ H x y v u Q Iv r1 r2 ⟨a, b, Rp.str_inv (show Rp X.K g H (.str a) x from q1), Rp.str_inv (show Rp X.K g H (.str b) y from q2), by rw [← line_eq]; exact hl, Post.here (R1 := RpV I X.K) h R (.str _)⟩
    · exact h.elim
  · rename_i a b
    exact ip_sub pins s σ H x y v u Q Iv r1 r2 ⟨a, b, Rp.int_inv (show Rp X.K g H (.int a) x from q1), Rp.int_inv (show Rp X.K g H (.int b) y from q2), Post.here (R1 := RpV I X.K) h R (.int _)⟩
  · exact h.elim
theorem s_aug {i : Nat} {x : Str} {p : Pos} (o : BOp) (hN : X.N.Nodup) (hi : X.N[i]? = some x) (hx : L2.Loc X.env.scope x ∧ (X.fn x = true ∨ X.env.scope.names.lookup x = some .local)) (he : PE X e (rE I X.K C W de)) :
    PS X (.AugAssign (.Name x p) (opA o) e pos) (rS I X.K C W fun env s => match env[i]? with
    | some (some x) => (de env s).go env fun v s => (augV o x v s).go env fun z s => .out (.nx (env.set i (some z))) s
    | _ => .stuck) := by
  refine ps_imp (ps_aug hN hi hx.1 he (ip_ok o) hx.2) fun De σ H ⟨g, S, env, w, h⟩ => ?_
  dsimp only at h
  split at h
  · rename_i xv e1
    obtain ⟨v, k1, k2⟩ := w.er.2 i xv e1
    refine ⟨v, k1, goSE w h fun yv S1 g1 H1 y st1 w1 ry h1 => ⟨I, W, σ, g1, S1, xv, yv, w1.sr, k2.st st1 w.sr, ry, ?_⟩⟩
    refine goS w1 h1 fun z S2 g2 H2 zv st2 w2 rz h2 => ?_
    exact h2 g2 H2 _ .refl ⟨w2.sr, w2.er.set i rz, w2.kc⟩
  · exact h.elim
theorem get_ok : PGet X (r2 X.K getL) := by
  intro pins s σ H o i ov iv Q Iv ro ri h
  obtain ⟨I, W, σ', g, S, dx, dy, R, r1, r2, h⟩ := h
  unfold getL at h
  split at h
  · rename_i n k
    split at h
    · rename_i xs hc
      split at h
      · rename_i h0
        split at h
        · rename_i d hd
          obtain ⟨a, ha, rfl⟩ := r1
          obtain rfl := Rp.int_inv (show Rp X.K g H (.int k) i from r2)
          obtain ⟨vs, hq, ra⟩ := R.lst hc ha
          have hlt : k.toNat < xs.length := (List.getElem?_eq_some_iff.mp hd).1
          have e1 : ixN xs.length k = some k.toNat := by
            unfold ixN
            rw [if_pos h0, if_pos (by omega)]
          obtain ⟨z, e3, e4⟩ := at_rp ra e1 hd
          cases ro
          obtain ⟨t, rfl⟩ := ri
          obtain ⟨its, r, pl, hz⟩ := Iv.list (.inl (.inl hq))
          obtain ⟨j, h1, h2, h3, h4, h5⟩ := atI_get e3
          obtain ⟨w, ew, rw'⟩ := r.get h2
          have hl := r.length
          have hn := line63
          have hj : k.toNat = j := by
            rw [seqIndex_of h0 h5] at h1
            exact Option.some.inj h1
          exact getItem_listL pl.isList h0 (by omega) (by rw [hj]; exact ew) ⟨z, H, Iv, rw', fin_d R h e4⟩
        · exact h.elim
      · exact h.elim
    · exact h.elim
  · exact h.elim
/-- o[i] op= e -/
theorem s_augs {o i : Expr} {do' di : DE} {p : Pos} (op : BOp) (hu : X.A.units + 64 < cLine) (ho : PE X o (rE I X.K C W do')) (hi : PE X i (rE I X.K C W di)) (he : PE X e (rE I X.K C W de)) (hsl : ixB i = true) :
    PS X (.AugAssign (.Subscript o i p) (opA op) e pos) (rS I X.K C W fun env s => (do' env s).go env fun x s => (di env s).go env fun y s => (getL x y s).go env fun old s => (de env s).go env fun v s => (augV op old v s).go env fun z s => (pdOf z s).go env fun d s => (setV C x y d s).go env fun _ s => .out (.nx env) s) := by
  refine ps_imp (ps_augS ho hi get_ok he (ip_ok op) (set_ok C hu) (by intro _ _ _; cases i <;> first | rfl | cases hsl)) fun De σ H ⟨g, S, env, w, h⟩ => ?_
  refine goSE w h fun x S1 g1 H1 xo st1 w1 rx h1 => goSE w1 h1 fun y S2 g2 H2 yi st2 w2 ry h2 => ?_
  refine ⟨I, W, σ, g2, S2, x, y, w2.sr, rx.st st2 w1.sr, ry, ?_⟩
  refine goS w2 h2 fun old S3 g3 H3 ov st3 w3 ro h3 => ?_
  refine goSE w3 h3 fun v S4 g4 H4 vv st4 w4 rv h4 => ?_
  refine ⟨I, W, σ, g4, S4, old, v, w4.sr, ro.st st4 w3.sr, rv, ?_⟩
  refine goS w4 h4 fun z S5 g5 H5 zv st5 w5 rz h5 => ?_
  cases z with
  | pd d =>
    have h5 : PostS I X.K C W De g5 H5 S5 ((setV C x y d S5).go env fun _ s => .out (.nx env) s) := h5
    have q := (st3.trans st4).trans st5
    refine ⟨I, W, σ, g5, S5, x, y, d, w5.kc, w5.sr, (rx.st (st2.trans q) w1.sr), ry.st q w2.sr, rz, ?_⟩
    exact goS w5 h5 fun _ S6 g6 H6 _ st6 w6 _ h6 => nxS w6 h6
  | _ => exact h5.elim
/-! ### loops -/
theorem s_wh {fl : Nat} (hp : PassesOwn (model X.prog X.w) X.A X.env X.xe) (hc : PT X c (rT I X.K C W tc)) (hb : PSs X b (rS I X.K C W db)) :
    PS X (.While c b [] pos) (rS I X.K C W fun env s => whL tc db fl env s) := by
  refine ps_imp (ps_while hp hc hb) fun De σ H ⟨g, S, env, w, h⟩ => ?_
  refine ⟨fun m σ H => ∃ g S env, Wld I X.K C g H S env σ ∧ PostS I X.K C W De g H S (whL tc db m env S), ⟨fl, g, S, env, w, h⟩, ?_⟩
  rintro m σ H ⟨g, S, env, w, h⟩
  cases m with
  | zero => exact h.elim
  | succ m =>
    have h : PostS I X.K C W De g H S ((tc env S).go env fun k s => if k then (match db env s with
      | .out (.nx env') s' => whL tc db m env' s'
      | .out (.ct env') s' => whL tc db m env' s'
      | .out (.bk env') s' => .out (.nx env') s'
      | r => r) else .out (.nx env) s) := h
    refine ⟨g, S, env, w, goS w h fun k S1 g1 H1 k' st1 w1 e h1 => ?_⟩
    cases e
    cases k with
    | false => exact nxS w1 h1
    | true =>
      refine ⟨fun σ' H' => ∃ g S env, Wld I X.K C g H' S env σ' ∧ PostS I X.K C W De g H' S (whL tc db m env S), fun σ' H' q => ⟨m, Nat.lt_succ_self m, q⟩, g1, S1, env, w1, ?_⟩
      simp only [if_true] at h1
      cases hr : db env S1 with
      | out o S2 =>
        rw [hr] at h1
        cases o with
        | nx env' => exact fun g' H' σ' st' w' => ⟨g', S2, env', w', PostS.from (r := whL tc db m env' S2) h1 st'⟩
        | ct env' => exact fun g' H' σ' st' w' => ⟨g', S2, env', w', PostS.from (r := whL tc db m env' S2) h1 st'⟩
        | bk env' => exact h1
        | rt v => exact h1
      | exc e env' S2 => rw [hr] at h1; exact h1
      | stuck => rw [hr] at h1; exact h1
theorem s_fo {tg iter : Expr} {t : Tg} {vs : List Nat} {di : Env → M (List D)} (hp : PassesOwn (model X.prog X.w) X.A X.env X.xe) (hc : X.calm = true) (hi : PI X tg iter (rI I X.K C W di)) (hg : PG X tg (rG I X.K C W vs (denG t))) (hb : PSs X b (rS I X.K C W db))
    (hs : ∀ x, foldedSetIterable iter X.env x = pure x) :
    PS X (.For tg iter b [] pos) (rS I X.K C W fun env s => (di env s).go env fun xs s => forL (fun x env s => (denG t x env s).go env fun env' s => db env' s) xs env s) := by
  refine ps_imp (ps_for hp hc hi hg hb hs) fun De σ H ⟨g, S, env, w, h⟩ => ?_
  refine ⟨g, S, env, w, goS w h fun xs S1 g1 H1 J st1 w1 wk h1 => ?_⟩
  have wk : Wk X.K g1 H1 xs J := wk
  generalize hF : (fun (x : D) (env : Env) (s : Sto) => (denG t x env s).go env fun env' s => db env' s) = F at h1
  refine ⟨fun i m σ H => ∃ g S env, Wld I X.K C g H S env σ ∧ Fw g1 H1 g H ∧ PostS I X.K C W De g H S (forL F (xs.drop i) env S) ∧ m = xs.length - i, ⟨xs.length, g1, S1, env, w1, .refl, by rw [List.drop_zero]; exact h1, by omega⟩, ?_⟩
  rintro i m σ H ⟨g, S, env, w, f, h, rfl⟩
  obtain ⟨wk1, wk2⟩ := wk g H S f w.sr i
  cases hx : xs[i]? with
  | none =>
    have hle : xs.length ≤ i := List.getElem?_eq_none_iff.mp hx
    rw [List.drop_eq_nil_of_le hle] at h
    exact .inl ⟨wk1 hle, nxS w h⟩
  | some d =>
    obtain ⟨hgo, hy⟩ := wk2 d hx
    have hi : i < xs.length := (List.getElem?_eq_some_iff.mp hx).1
    refine .inr ⟨hgo, fun σ' H' => ∃ g S env, Wld I X.K C g H' S env σ' ∧ Fw g1 H1 g H' ∧ PostS I X.K C W De g H' S (forL F (xs.drop (i + 1)) env S), fun σ' H' ⟨g', S', env', q1, q2, q3⟩ => ⟨xs.length - (i + 1), by omega, g', S', env', q1, q2, q3, rfl⟩, fun x H2 y => ?_⟩
    obtain ⟨g2, st2, R2, rp⟩ := hy x H2 y
    have hd : xs.drop i = d :: xs.drop (i + 1) := by
      rw [List.drop_eq_getElem_cons hi]
      congr 1
      rw [List.getElem?_eq_getElem hi] at hx
      exact Option.some.inj hx
    rw [hd] at h
    have h : PostS I X.K C W De g H S (match F d env S with
      | .out (.nx env') s' => forL F (xs.drop (i + 1)) env' s'
      | .out (.ct env') s' => forL F (xs.drop (i + 1)) env' s'
      | .out (.bk env') s' => .out (.nx env') s'
      | r => r) := h
    have hF' : F d env S = (denG t d env S).go env fun env' s => db env' s := by rw [← hF]
    rw [hF'] at h
    have w2 := w.st st2 R2
    have f2 := f.trans (st2.fw w.sr)
    refine ⟨g2, S, env, d, w2, rp, ?_⟩
    cases hg : denG t d env S with
    | exc e S2 => exact absurd hg ((denG_noexc t d env S).1 e S2)
    | stuck => rw [hg] at h; exact h
    | ok env1 S2 =>
      rw [hg] at h
      intro g3 H3 σ3 st3 R3 ⟨er, so⟩
      have w3 : Wld I X.K C g3 H3 S2 env1 σ3 := ⟨R3, er, st3.kc.trans w2.kc⟩
      have f3 := f2.trans (st3.fw R2)
      refine ⟨g3, S2, env1, w3, ?_⟩
      have stt := st2.trans st3
      have h : PostS I X.K C W De g H S (match db env1 S2 with
        | .out (.nx env') s' => forL F (xs.drop (i + 1)) env' s'
        | .out (.ct env') s' => forL F (xs.drop (i + 1)) env' s'
        | .out (.bk env') s' => .out (.nx env') s'
        | r => r) := h
      cases hr : db env1 S2 with
      | out o S3 =>
        rw [hr] at h
        cases o with
        | nx env' => exact fun g' H' σ' st' w' => ⟨g', S3, env', w', f3.trans (st'.fw R3), PostS.from (r := forL F _ env' S3) h (stt.trans st')⟩
        | ct env' => exact fun g' H' σ' st' w' => ⟨g', S3, env', w', f3.trans (st'.fw R3), PostS.from (r := forL F _ env' S3) h (stt.trans st')⟩
        | bk env' => exact fun g' H' σ' st' w' => h g' H' σ' (stt.trans st') w'
        | rt v => exact fun g' H' x st' R' r' => h g' H' x (stt.trans st') R' r'
      | exc e env' S3 => rw [hr] at h; exact fun g' H' cls d σ' st' w' x => h g' H' cls d σ' (stt.trans st') w' x
      | stuck => rw [hr] at h; exact h
end
end Rx


set_option linter.all false
set_option maxRecDepth 100000
set_option maxHeartbeats 2000000
/-! Rx, part D9: raise of an own class whose __init__ keeps its one argument. -/
namespace Rx
open PySem PySem.Spec PyProof.Rows L2 SeqAt
def spInit (C : Addr) (f : Str) : Sp := fun vs H Q _ => ∃ a v, vs = [.ref a, v] ∧ H a = some (exo a C none) ∧ ∀ dx, H dx = none → dx ≠ a → Q .non (upd (upd H dx (exd dx [(f, v)])) a (exo a C (some dx)))
/-- a class that is raised -/
structure ClsOk (X : Cx) (I : Ins) (n k : Nat) (x : Str) : Prop where
  mg : X.mg x = some (.ref (I.ca k))
  ox : OexC X.K (I.ca k)
  no : PySem.W.findIn X.K (.ref (I.ca k)) (I.cf k) = some none
  ini : ∃ fI fd ps, PySem.W.findIn X.K (.ref (I.ca k)) "__init__" = some (some (.ref fI)) ∧ PySem.W.typeIn X.K (.ref fI) = some (.type "function") ∧ FnOk X.prog X.w X.K X.mg X.base (L2.CX X.prog X.w) n fI fd ps (spInit (I.ca k) (I.cf k)) ∧ Binds X.K fd ps []
section
variable {X : Cx} {I : Ins} {C : List D} {W : WX} {pos p pos2 : Pos} {a : Expr} {n k : Nat} {x : Str} {es : List Expr} {ds : Env → M (List D)}
theorem pmk_imp {e : Expr} {t t' : L2.St → Hp → XK → Prop} (h : PMk X e t) (f : ∀ σ H Q, t' σ H Q → t σ H Q) : PMk X e t' := fun pins s σ H Q I q => h pins s σ H Q I (f σ H Q q)
theorem noPass {P : Program} {w : World} {X : Cx} : Passes (L2.CX P w) X (fun _ _ _ => False) := by
  intro pins σ H s e s' I h
  obtain ⟨_, _, _, _, _, _, _, _, _, _, _, _, z⟩ := h
  exact z.elim
theorem s_rai (F : ClsOk X I n k x) (hc : X.calm = true) (hr : Room (n + 1) X.A) (tk : Takes X W) (hg : Gl X x) (hdb : (x == ("__debug__" : Str)) = false) (hs : star1 a = false) (ha : PA X [a] (rP I X.K C W ds)) (hl : ∀ env S xs S', ds env S = .ok xs S' → xs.length = 1) :
    PS X (.Raise (some (.Call (.Name x p) [a] [] pos)) none pos2) (rS I X.K C W fun env s => (ds env s).go env fun xs s => .exc ⟨k, xs⟩ env s) := by
  obtain ⟨fI, fd, ps, i1, i2, i3, i4⟩ := F.ini
  have mk := pmk_oex (pos := pos) (p := p) F.ox i1 i2 i3 hr i4 .nil noPass hg F.mg ha hdb (star_cons hs) (star_any (by rfl))
  refine ps_imp (ps_raise (pos := pos2) hc tk mk) fun De σ H ⟨g, S, env, w, h⟩ => ?_
  dsimp only at h
  refine ⟨g, S, env, w, ?_⟩
  cases hd : ds env S with
  | stuck => rw [hd] at h; exact h.elim
  | exc e S1 => rw [hd] at h; exact fun g' H' cls d st R x => h g' H' cls d σ st (w.st st R) x
  | ok xs S1 =>
    rw [hd] at h
    have h : ∀ g' H' cls d σ', Stp g H S g' H' S1 → Wld I X.K C g' H' S1 env σ' → ExR I X.K g' H' ⟨k, xs⟩ cls d → W cls d σ' H' := h
    have h1 := hl env S xs S1 hd
    intro g1 H1 vs st1 R1 rs
    cases rs with
    | nil => cases h1
    | @cons y v ys us ry rs =>
      cases rs with
      | cons _ _ => cases h1
      | nil =>
        refine ⟨by show 1 ≤ 1000; decide, fun ad hn => ⟨ad, v, rfl, upd_same, fun dx hdx hne => ⟨rfl, dx, [(I.cf k, v)], upd_same, ?_, ?_, ?_⟩⟩⟩
        · rw [upd_ne hne, upd_same]
        · rw [upd_ne hne] at hdx; exact hdx
        · have hdx1 : H1 dx = none := by rw [upd_ne hne] at hdx; exact hdx
          have e : upd (del (upd (upd (upd H1 ad (exo ad (I.ca k) none)) dx (exd dx [(I.cf k, v)])) ad (exo ad (I.ca k) (some dx))) ad) dx (.xd [(I.cf k, v)]) = upd H1 dx (.xd [(I.cf k, v)]) := by
            funext b
            by_cases h1 : b = dx
            · subst h1; rw [upd_same, upd_same]
            · rw [upd_ne h1, upd_ne h1]
              by_cases h2 : b = ad
              · subst h2; rw [del_same, hn]
              · rw [del_ne h2, upd_ne h2, upd_ne h1, upd_ne h2]
          show W (.ref (I.ca k)) (some dx) σ (upd (del (upd (upd (upd H1 ad (exo ad (I.ca k) none)) dx (exd dx [(I.cf k, v)])) ad (exo ad (I.ca k) (some dx))) ad) dx (.xd [(I.cf k, v)]))
          rw [e]
          obtain ⟨st2, R2⟩ := new_obj (o := .xd [(I.cf k, v)]) R1 hdx1
          have w1 := w.st st1 R1
          exact h g1 _ (.ref (I.ca k)) (some dx) σ (st1.trans st2) (w1.st st2 R2) ⟨rfl, .inr ⟨y, dx, v, rfl, rfl, upd_same, ry.fw (st2.fw R1)⟩⟩
end
end Rx


set_option linter.all false
set_option maxRecDepth 100000
set_option maxHeartbeats 2000000
/-! Rx, part D10: __init__ of an own error; a def that is called with a caught error; try. -/
namespace Rx
open PySem PySem.Spec PyProof.Rows L2 SeqAt
/-- __init__: self.f = v -/
theorem init_ok {P : Program} {w : World} {K : PySem.W.Frag} {mg : Str → Option Value} {base : Heap} {qual f xs xv : Str} {st : Stmt} {fI C : Addr} {fd : FuncData} {p1 p2 p3 p4 : Pos} (F : Fun K "__init__" qual st fI fd) (S : FnScope [xs, xv] [xs, xv] (defScope st))
    (hb : defBody st = [.Assign [.Attribute (.Name xs p1) f p2] (.Name xv p3) p4]) (v1 : visB (defScope st) xs = true) (v2 : visB (defScope st) xv = true) (n1 : plainN xs = true) (n2 : plainN xv = true) (T : OexC K C) (no : PySem.W.findIn K (.ref C) f = some none) :
    FnOk P w K mg base (L2.CX P w) 1 fI fd [xs, xv] (spInit C f) := by
  refine F.okX S (fun vs H Q E h => ?_) (fun cdv A outer s H vs Q E hr h => ?_)
  · obtain ⟨a, v, rfl, _⟩ := h; rfl
  · obtain ⟨a, v, rfl, ha, hq⟩ := h
    have vis : ∀ {x : Str}, visB (defScope st) x = true → Vis (defScope st) x := fun {x} h => by
      unfold visB at h
      split at h
      · rename_i e; exact .inl e
      · rename_i e; exact .inr (.inl e)
      · rename_i e; exact .inr (.inr e)
      · cases h
    obtain ⟨a1, a2, _⟩ := plainN_d n1
    obtain ⟨b1, b2, _⟩ := plainN_d n2
    rw [hb]
    refine ⟨_, pss_one (ps_ost (pe_var (i := 0) rfl (vis v1) a1 a2) (pe_var (i := 1) rfl (vis v2) b1 b2) (noswap rfl)), ?_⟩
    refine ⟨v, rfl, .ref a, rfl, a, C, rfl, T, no, .inl ⟨ha, fun dx h1 h2 => hq dx h1 h2⟩⟩
/-! ### within an except suite -/
structure RmH (k : Nat) (A : Around) : Prop where
  dp : A.depth + 3 * k + 5 < recursionLimit
  un : A.units + 16 * k + 200 < cLine
/-- a call of a def there: its body's judgement at this very call is enough -/
theorem hot_run {CX : CXT} {P : Program} {w : World} {K : PySem.W.Frag} {mg : Str → Option Value} {base : Heap} {x qual : Str} {st : Stmt} {f : Addr} {fd : FuncData} {N ps : List Str} (F : Fun K x qual st f fd) (S : FnScope N ps (defScope st))
    {A : Around} {outer : List PySem.Env} {s : Shared} {H : Hp} {args : Args} {us : List Value} {vs : List V} {Q : VK} {E : XK} {p : Addr × Obj} (hd : A.depth < recursionLimit) (hpin : L2H.PinOk outer H s p) (e0 : Env0 P w K mg base A outer s H) (hb : BindsTo s fd args (ps.zip us)) (r : Vals vs us) (hl : vs.length = ps.length)
    (hbody : ∀ cdv, ∃ t, PSs (L2H.cxH CX P w K mg base N qual (defScope st) f cdv A outer s H E p) (defBody st) t ∧ t { nx := fun _ H' => Q .non H', rt := Q } (start N vs) H) :
    codeAny (model P w) A (.call (.ref f) args) (CR CX outer P w H s Q E) s := by
  obtain ⟨oc, od, kV, doc, pm, an, cdv, ct, osl, rfl, lk, hcd⟩ := F.ex
  have KX : K.In s.heap := e0.mod.kin.keeps fun b o e => (e0.bs b o e).1
  have lim : s.heap.NoLimit := e0.mod.nolimit.keeps fun b o e => (e0.bs b o e).1
  obtain ⟨t, ht, hq⟩ := hbody cdv
  refine codeAny_call_function hd (KX _ _ lk) rfl S.co S.gen rfl (PySem.W.codeRec_of KX hcd) (hb _ _ _ _ ?_)
  refine wpAny_newFunctionEnv_cells S.kind (fun y hy => ?_) fun env he s1 x1 => ?_
  · rcases S.par y.1 (List.of_mem_zip (show (y.1, y.2) ∈ ps.zip us from hy)).1 with q | q
    · exact .inl q
    · exact .inr ⟨q, PySem.W.cellsFrom_some _ _ _ (.inl q)⟩
  · subst he
    refine ⟨lim.keeps x1.toInCall.keep, codeAny_func ?_⟩
    have Iv := L2H.inv_startH (CX := CX) (E := E) (cd := cdv) (f := f) S hpin e0 hl r x1
    refine wpAny_mono (ht.run [] s1 _ H _ Iv hq) (fun fl s' hs => ?_) fun e s' hs => hs
    cases fl with
    | ret u =>
      obtain ⟨v, σ', H', J, rv, q⟩ := hs
      exact ⟨v, H', J.os, J.bare, J.base, J.hok, rv, q⟩
    | next =>
      obtain ⟨σ', H', J, q⟩ := hs
      exact ⟨.non, H', J.os, J.bare, J.base, J.hok, rfl, q⟩
    | brk => obtain ⟨_, _, _, q⟩ := hs; exact q.elim
    | cont => obtain ⟨_, _, _, q⟩ := hs; exact q.elim
/-- isinstance(e, (A, B, ..)) of a caught error -/
structure IsxC (K : PySem.W.Frag) (C : Addr) : Prop where
  cl : (PySem.W.clsIn K C).isSome = true
  hga : PySem.W.findIn K (.ref C) "__getattribute__" = some (some (.builtin "BaseException.__getattribute__"))
  hgt : PySem.W.findIn K (.ref C) "__getattr__" = some none
  hs : PySem.W.subIn K (.ref C) (.type "BaseException") = some true
  ha : PySem.W.findIn K (.ref C) "__class__" = some (some (.builtin "object.__class__"))
  hn : PySem.W.specialIn K (.builtin "object.__class__") "__get__" = some (some (.builtin "getset_descriptor.__get__"))
  ht : PySem.W.takesIn K (.builtin "object.__class__") = some true
  hm : PySem.W.mroIn K C (.type "object") = some true
def rIsx (K : PySem.W.Frag) (a C dd : Addr) : List V → Hp → VK → Prop := fun xs H Q =>
  ∃ (tp : Addr) (cs : List V) (us : List Value) (fs : List (Str × V)) (b : Bool), xs = [.ref a, .ref tp] ∧ H tp = some (.tup cs) ∧ H dd = some (.xd fs) ∧ Paired ClsV cs us ∧ PySem.W.kitAny K (.ref C) us = some b ∧ Q (.bl b) H
theorem call_isx {X : Cx} {a C dd : Addr} {oe : Obj} (T : IsxC X.K C) (hp : (a, oe) ∈ X.pn) (hz : Zc (.ref C) (some dd) oe) (hf : ∃ vs, oe.data = .fields vs) : CallR X (.builtin "isinstance") (rIsx X.K a C dd) := by
  intro pins s σ H xs us Q Iv rs h
  obtain ⟨tp, cs, ws, fs, b, rfl, e1, e2, e3, e4, q⟩ := h
  obtain ⟨u1, u2, rfl, r1, r2⟩ := Vals.two rs
  cases r1
  cases r2
  obtain ⟨z, its, rv, o, ho, hc, n, hd⟩ := Iv.hok tp _ e1
  have e5 := ClsV.all e3 rv
  subst e5
  obtain ⟨hget, _⟩ := Iv.pin (a, oe) (List.mem_append_left _ hp)
  have hx : ObjOk X.prog X.w H s.heap dd (.xd fs) := Iv.hok dd _ e2
  obtain ⟨mA, ⟨od, es, ep, hod, hds⟩, hr⟩ := hx
  obtain ⟨vs, hv⟩ := hf
  have J : PySem.W.InstAt s.heap a oe C (some od) := ⟨hget, hz.1, by unfold PySem.W.notCls; rw [hv] <;> rfl, by rw [hz.2]; exact hod⟩
  obtain ⟨oc, odd, oda, osl⟩ := o
  obtain rfl : oc = .type "tuple" := hc
  obtain rfl : oda = .seq its.toArray n := hd
  exact PySem.W.kia_tup (PySem.W.kitx_exc T.cl T.hga T.hgt T.hs T.ha T.hn T.ht T.hm) Iv.kIn J ho e4 (fun z => nomatch z) fun tk => ⟨.bl b, H, Iv.kept (t' := tk) fun _ _ z => z, rfl, q⟩
/-- e.f of a caught error -/
theorem pe_xf' {X : Cx} {a C dd : Addr} {oe : Obj} {e : Expr} {te : TE} {pos : Pos} {n : Str} (T : XfC X.K C) (hno : PySem.W.findIn X.K (.ref C) n = some none) (hp : (a, oe) ∈ X.pn) (hz : Zc (.ref C) (some dd) oe) (hf : ∃ vs, oe.data = .fields vs) (he : PE X e te) (hb : base1 e = true) :
    PE X (.Attribute e n pos) (fun σ H Q => te σ H fun x H1 => x = .ref a ∧ ∃ fs v, H1 dd = some (.xd fs) ∧ fs.lookup n = some v ∧ Q v H1) := by
  refine ⟨fun pins s σ H Q Iv h => ?_⟩
  refine attr_of (base_eq hb) (thn (he.run pins s σ H _ Iv h) fun u s1 hh => ?_)
  obtain ⟨x, H1, I1, rx, ex, fs, v, ea, l, q⟩ := hh
  subst ex
  obtain rfl : u = Value.ref a := rx
  obtain ⟨hget, _⟩ := I1.pin (a, oe) (List.mem_append_left _ hp)
  obtain ⟨mA, hns, hr⟩ : ObjOk X.prog X.w H1 s1.heap dd (.xd fs) := I1.hok dd _ ea
  obtain ⟨od, ho, hl⟩ := lookIn_ns hns
  obtain ⟨w, hw, rw'⟩ := RelO.some_of (v := v) (o := mA n) (by rw [← l]; exact hr n)
  obtain ⟨vs, hv⟩ := hf
  have J : PySem.W.InstAt s1.heap a oe C (some od) := ⟨hget, hz.1, by unfold PySem.W.notCls; rw [hv] <;> rfl, by rw [hz.2]; exact ho⟩
  exact HandSPX.exc_get I1.kIn J T.ga T.gg T.exC (PySem.W.findObj_own T.hdC hno rfl (by rw [hl, hw])) (handed_of rw') ⟨v, H1, I1.tok _, rw', q⟩
end Rx


set_option linter.all false
set_option maxRecDepth 100000
set_option maxHeartbeats 2000000
/-! Rx, part D11: try: .. except C as e: return number(e). -/
namespace Rx
open PySem PySem.Spec PyProof.Rows L2 SeqAt
/-- the def that tells a caught error's number: its text -/
structure NumT (st : Stmt) (x c1 c2 fl : Str) : Prop where
  ex : ∃ (p0 p1 p2 p3 p4 p5 p6 p7 p8 p9 pa pb : Pos) (k1 k2 : Nat), defBody st = [.If (.Call (.Name "isinstance" p0) [.Name x p1, .Tuple [.Name c1 p2, .Name c2 p3] k1 p4] [] p5) [.Return (some (.Constant .none k2 p6)) p7] [] p8, .Return (some (.Attribute (.Name x p9) fl pa)) pb]
  sc : FnScope [x] [x] (defScope st)
  vx : visB (defScope st) x = true
  nx : plainN x = true
  g0 : glB (defScope st) "isinstance" = true
  g1 : glB (defScope st) c1 = true
  g2 : glB (defScope st) c2 = true
  n1 : plainN c1 = true
  n2 : plainN c2 = true
/-- .. and where it stands -/
structure NumF (P : Program) (w : World) (K : PySem.W.Frag) (mg : Str → Option Value) (C : Addr) (fn fl : Str) : Prop where
  ex : ∃ (st : Stmt) (x c1 c2 : Str) (f a1 a2 : Addr) (fd : FuncData), Fun K fn fn st f fd ∧ NumT st x c1 c2 fl ∧ Binds K fd [x] [] ∧ mg fn = some (.ref f) ∧ mg c1 = some (.ref a1) ∧ mg c2 = some (.ref a2) ∧ PySem.W.kitAny K (.ref C) [.ref a1, .ref a2] = some false
  isx : IsxC K C
  xf : XfC K C
  no : PySem.W.findIn K (.ref C) fl = some none
  bi : mg "isinstance" = none
theorem gl_of {sc : Scope} {x : Str} (h : glB sc x = true) : sc.names.lookup x = some .globalImplicit := by
  unfold glB at h
  split at h
  · assumption
  · cases h
theorem vis_of {sc : Scope} {x : Str} (h : visB sc x = true) : Vis sc x := by
  unfold visB at h
  split at h
  · rename_i e; exact .inl e
  · rename_i e; exact .inr (.inl e)
  · rename_i e; exact .inr (.inr e)
  · cases h
section
variable {X : Cx}
/-- its body -/
theorem num_pss {st : Stmt} {x c1 c2 fl : Str} {a C dd a1 a2 : Addr} {oe : Obj} (T : NumT st x c1 c2 fl) (hN : X.N = [x]) (hsc : X.env.scope = defScope st) (hp : (a, oe) ∈ X.pn) (hz : Zc (.ref C) (some dd) oe) (hf : ∃ vs, oe.data = .fields vs)
    (I1 : IsxC X.K C) (I2 : XfC X.K C) (no : PySem.W.findIn X.K (.ref C) fl = some none) (bi : X.mg "isinstance" = none) (m1 : X.mg c1 = some (.ref a1)) (m2 : X.mg c2 = some (.ref a2)) (hk : PySem.W.kitAny X.K (.ref C) [.ref a1, .ref a2] = some false) :
    PSs X (defBody st) (fun De σ H => ∃ v, σ[0]? = some (some (.ref a)) ∧ H dd = some (.xd [(fl, v)]) ∧ ∀ p, H p = none → De.rt v (upd H p (.tup [.ref a1, .ref a2]))) := by
  have gl : ∀ {y : Str}, glB (defScope st) y = true → Gl X y := fun {y} h => by
    show X.env.scope.names.lookup y = _
    rw [hsc]; exact gl_of h
  have vx : Vis X.env.scope x := by rw [hsc]; exact vis_of T.vx
  obtain ⟨x1, x2, _⟩ := plainN_d T.nx
  obtain ⟨y1, y2, _⟩ := plainN_d T.n1
  obtain ⟨z1, z2, _⟩ := plainN_d T.n2
  have h0 : X.N[0]? = some x := by rw [hN]; rfl
  have key : ∀ (p0 p1 p2 p3 p4 p5 p6 p7 p8 p9 pa pb : Pos) (k1 k2 : Nat), PSs X [.If (.Call (.Name "isinstance" p0) [.Name x p1, .Tuple [.Name c1 p2, .Name c2 p3] k1 p4] [] p5) [.Return (some (.Constant .none k2 p6)) p7] [] p8, .Return (some (.Attribute (.Name x p9) fl pa)) pb]
      (fun De σ H => ∃ v, σ[0]? = some (some (.ref a)) ∧ H dd = some (.xd [(fl, v)]) ∧ ∀ p, H p = none → De.rt v (upd H p (.tup [.ref a1, .ref a2]))) := by
    intro p0 p1 p2 p3 p4 p5 p6 p7 p8 p9 pa pb k1 k2
    have e1 : PE X (.Name c1 p2) (tC (.ref a1)) := pe_glob (gl T.g1) m1 rfl y1
    have e2 : PE X (.Name c2 p3) (tC (.ref a2)) := pe_glob (gl T.g2) m2 rfl z1
    have ev : ∀ p, PE X (.Name x p) (tVar 0) := fun p => pe_var h0 vx x1 x2
    have t1 := pt_val (pe_callB (pos := p5) (p := p0) (call_isx I1 hp hz hf) (gl T.g0) bi boot_isinstance (pa_cons (ev p1) (pa_cons (pe_tup (x1 := k1) (pos := p4) (pa_cons e1 (pa_cons e2 pa_nil))) pa_nil)))
    refine pss_imp (pss_cons (ps_if t1 (pss_one (ps_ret pe_non)) pss_nil) (pss_one (ps_ret (pe_xf' I2 no hp hz hf (ev p9) rfl)))) fun De σ H ⟨v, h1, h2, h3⟩ => ?_
    refine ⟨.ref a, h1, by show 2 ≤ sizeLine; decide, fun p hn => ?_⟩
    refine ⟨p, _, [.ref a1, .ref a2], _, false, rfl, upd_same, by rw [upd_ne (ne_of_none h2 hn)]; exact h2, .cons (.own _) (.cons (.own _) .nil), hk, false, rfl, ?_⟩
    simp only [Bool.false_eq_true, if_false]
    refine ⟨.ref a, h1, rfl, _, v, by rw [upd_ne (ne_of_none h2 hn)]; exact h2, by simp [List.lookup], h3 p hn⟩
  obtain ⟨p0, p1, p2, p3, p4, p5, p6, p7, p8, p9, pa, pb, k1, k2, e⟩ := T.ex
  rw [e]
  exact key ..
/-- return number(e), in the except suite -/
theorem num_suite {C a dd : Addr} {oe : Obj} {pn : List (Addr × Obj)} {fn fl y : Str} {i : Nat} {p1 p2 p3 p4 : Pos} (F : NumF X.prog X.w X.K X.mg C fn fl) (hd : X.A.depth < recursionLimit) (hN : X.N[i]? = some y) (hy : Vis X.env.scope y) (hy1 : plainN y = true) (hg : Gl X fn) (hfn : plainN fn = true)
    (hz : Zc (.ref C) (some dd) oe) (hf : ∃ vs, oe.data = .fields vs) :
    PSs (X.suite a ((a, oe) :: pn)) [.Return (some (.Call (.Name fn p1) [.Name y p2] [] p3)) p4] (fun De σ H => ∃ v, σ[i]? = some (some (.ref a)) ∧ H dd = some (.xd [(fl, v)]) ∧ ∀ a1 a2 p, H p = none → De.rt v (upd H p (.tup [.ref a1, .ref a2]))) := by
  obtain ⟨st, x, c1, c2, f, a1, a2, fd, F1, F2, F3, F4, F5, F6, F7⟩ := F.ex
  obtain ⟨y1, y2, _⟩ := plainN_d hy1
  obtain ⟨n1, _⟩ := plainN_d hfn
  have pe : PE (X.suite a ((a, oe) :: pn)) (.Call (.Name fn p1) [.Name y p2] [] p3) (fun σ H Q => ∃ v, σ[i]? = some (some (.ref a)) ∧ H dd = some (.xd [(fl, v)]) ∧ ∀ p, H p = none → Q v (upd H p (.tup [.ref a1, .ref a2]))) := by
    refine ⟨fun pins s σ H Q Iv ⟨v, h1, h2, h3⟩ => ?_⟩
    refine wpAny_Call_Name_kw (ld_glob Iv hg F4 ?_ n1)
    have pa : PA (X.suite a ((a, oe) :: pn)) [.Name y p2] (tCons (tVar i) tNil) := pa_cons (pe_var hN hy y1 y2) pa_nil
    refine PySem.W.callWith_K (h₀ := X.base) Iv.ok.mod.kin F1.kp (thn (pa.run p3 pins s σ H (fun vs H1 => vs = [.ref a] ∧ H1 = H) Iv ⟨.ref a, h1, rfl, rfl⟩) fun us s2 ⟨vs, H2, I2, r, e1, e2⟩ => ⟨I2.kIn, ?_⟩) (by rfl) (by rfl)
    subst e1 e2
    have P1 := I2.pin (a, oe) (List.mem_append_left _ List.mem_cons_self)
    have hpin : L2H.PinOk (X.suite a ((a, oe) :: pn)).stack H2 s2 (a, oe) := ⟨P1.1, P1.2.1, fun hm => (List.mem_cons.mp (I2.stkSub a hm)).elim P1.2.2.1 P1.2.2.2.1, P1.2.2.2.2⟩
    have hl : us.length = [x].length := by rw [← r.length]; rfl
    have b := F3 s2 us I2.kIn (by rw [List.append_nil]; exact hl)
    rw [List.append_nil] at b
    refine wpAny_call (codeAny_mono (hot_run (CX := L2.CX X.prog X.w) (E := fun _ _ _ => False) (Q := Q) F1 F2.sc hd hpin I2.env0 b r rfl fun cdv => ⟨_, num_pss (a := a) (dd := dd) (oe := oe) F2 rfl rfl List.mem_cons_self hz hf F.isx F.xf F.no F.bi F5 F6 F7, v, rfl, h2, h3⟩) fun r' s' hq => ?_)
    cases r' with
    | error e =>
      obtain ⟨_, _, _, _, _, _, _, _, _, _, _, _, z⟩ := hq
      exact z.elim
    | ok fl' =>
      cases fl' with
      | ret u => exact I2.after hq
      | next => exact False.elim hq
      | brk => exact False.elim hq
      | cont => exact False.elim hq
  exact pss_imp (pss_one (ps_ret pe)) fun De σ H ⟨v, h1, h2, h3⟩ => ⟨v, h1, h2, fun p hn => h3 a1 a2 p hn⟩
end
section
variable {X : Cx} {I : Ins} {C : List D} {W : WX}
theorem s_try {cls i : Nat} {x n fn : Str} {body : List Stmt} {db : Env → Sto → RS} {np pos pos' p1 p2 p3 p4 : Pos} (hs : X.stack = X.env :: X.outer) (hf : X.env.frame = some X.env.locals) (hN : X.N.Nodup) (hi : X.N[i]? = some n) (hln : X.env.kindOf n = some .local)
    (hc : Names X x (.ref (I.ca cls))) (tk : Takes X W) (te : PySem.W.exmOne X.K (.ref (I.ca cls)) (.ref (I.ca cls)) = some true) (F : NumF X.prog X.w X.K X.mg (I.ca cls) fn (I.cf cls)) (hr : X.A.depth < recursionLimit) (hpn : plainN n = true) (hg : Gl X fn) (hfn : plainN fn = true)
    (hb : ∀ (W : WX) (pn : List (Addr × Obj)) (xe : Value → Shared → Prop), Takes (X.tr pn xe) W → PassesOwn (model X.prog X.w) X.A X.env xe → PSs (X.tr pn xe) body (rS I X.K C W db)) :
    PS X (.Try body [.ExceptHandler (some (.Name x np)) (some n) [.Return (some (.Call (.Name fn p1) [.Name n p2] [] p3)) p4] pos'] [] [] pos) (rS I X.K C W fun env s => match db env s with
    | .exc e env' s' => if e.cls = cls ∧ i < env'.length then (match e.args with
      | [x] => .out (.rt (.pd x)) s'
      | _ => .stuck) else .stuck
    | r => r) := by
  have key := ps_try_as (pos := pos) (pos' := pos') (np := np) (c := .ref (I.ca cls)) (tb := fun W => rS I X.K C W db) (ts := fun a c d => fun De σ H => ∃ dd, c = .ref (I.ca cls) ∧ d = some dd ∧ ∃ v, σ[i]? = some (some (.ref a)) ∧ H dd = some (.xd [(I.cf cls, v)]) ∧ ∀ a1 a2 p, H p = none → De.rt v (upd H p (.tup [.ref a1, .ref a2])))
    hs hf hN hi hln hc tk hb (fun a oe c d pn hz hfd => ⟨fun pins s σ H De Iv ⟨dd, e1, e2, h⟩ => by
      subst e1 e2
      exact (num_suite (p1 := p1) (p2 := p2) (p3 := p3) (p4 := p4) F hr hi (.inl hln) hpn hg hfn hz hfd).run pins s σ H De Iv h⟩)
  refine ps_imp key fun De σ H ⟨g, S, env, w, h⟩ => ⟨g, S, env, w, ?_⟩
  dsimp only at h
  cases hr : db env S with
  | out o S' =>
    rw [hr] at h
    cases o with
    | nx env' => exact h
    | rt v => exact h
    | bk env' => exact h
    | ct env' => exact h
  | stuck => rw [hr] at h; exact h
  | exc e env' S' =>
    rw [hr] at h
    simp only at h
    split at h
    · rename_i ec
      obtain ⟨ec, il⟩ := ec
      split at h
      · rename_i y ea
        intro g' H' c d σ' st w' ⟨x1, x2⟩
        rcases x2 with ⟨z, _⟩ | ⟨y', dd, v, ea', ed, eh, rv⟩
        · rw [ea] at z; cases z
        · rw [ea] at ea'
          cases ea'
          rw [ec] at x1 eh
          subst x1 ed
          refine ⟨true, te, fun _ a na => ⟨dd, rfl, rfl, v, ?_, eh, fun a1 a2 p hn => ?_⟩, fun z => by cases z⟩
          · rw [List.getElem?_set_self]
            rw [← w'.er.1]
            exact il
          · obtain ⟨st2, R2⟩ := new_obj (o := .tup [.ref a1, .ref a2]) w'.sr hn
            exact h g' _ v (st.trans st2) R2 (rv.fw (st2.fw w'.sr))
      · exact h.elim
    · exact h.elim
end
end Rx


set_option linter.all false
set_option maxRecDepth 100000
set_option maxHeartbeats 4000000
/-! Rx, part D12: the checker of statements, and that it is right. -/
namespace Rx
open PySem PySem.Spec PyProof.Rows L2 SeqAt
def isTupE (e : Expr) : Bool := match e with
  | .Tuple _ _ _ => true
  | _ => false
/-- a comprehension is stored on its own line, in a local -/
def swB (bk : Bk) (y : Str) (py p : Pos) (scope : Scope) : Bool := (match bk.sc.names.lookup y with
  | some .local => true
  | _ => false) && (py.line == p.line) && !(scope.names.any fun (n, k) => n == y && (k == .local || k == .cell))
def celB (bk : Bk) (y : Str) : Bool := match bk.sc.names.lookup y with
  | some .cell => true
  | _ => false
section
variable (nm : Nms)
def chkA (bk : Bk) (i : Nat) (e : E) (x : Str) (px : Pos) (a : Expr) : Bool := decide (nm.N[i]? = some x) && locB bk x && chkE nm bk e a && (!compE a || celB bk x || (match a with
  | .ListComp _ _ scope p => swB bk x px p scope
  | _ => false))
mutual
def chkS (bk : Bk) : St → Stmt → Bool
  | .exp e, a => (match a with
    | .Expr v _ => !compE v && chkE nm bk e v
    | _ => false)
  | .ret e, a => (match a with
    | .Return (some v) _ => chkE nm bk e v
    | _ => false)
  | .retN, a => (match a with
    | .Return none _ => true
    | _ => false)
  | .asg t e, a => (match a with
    | .Assign [tv] v _ => (match t with
      | .name i => (match tv with
        | .Name x px => chkA nm bk i e x px v
        | _ => false)
      | .tup ts => !compE v && !isTupE v && chkT nm bk (.tup ts) tv && chkE nm bk e v
      | .sub o i => (match tv with
        | .Subscript ao ai _ => !compE v && ixB ai && chkE nm bk e v && chkE nm bk o ao && chkE nm bk i ai
        | _ => false))
    | _ => false)
  | .aug i o e, a => (match a with
    | .AugAssign (.Name x _) op v _ => decide (op = opA o) && decide (nm.N[i]? = some x) && locB bk x && chkE nm bk e v
    | _ => false)
  | .augs o i op e, a => (match a with
    | .AugAssign (.Subscript ao ai _) aop v _ => decide (aop = opA op) && ixB ai && chkE nm bk o ao && chkE nm bk i ai && chkE nm bk e v
    | _ => false)
  | .ite c x y, a => (match a with
    | .If t u v _ => chkE nm bk c t && chkSs bk x u && chkSs bk y v
    | _ => false)
  | .wh c x, a => (match a with
    | .While t u [] _ => chkE nm bk c t && chkSs bk x u
    | _ => false)
  | .fo t it x, a => (match a with
    | .For tv iv u [] _ => chkT nm bk t tv && chkI nm bk it tv iv && chkSs bk x u
    | _ => false)
  | .brk, a => (match a with
    | .Break _ => true
    | _ => false)
  | .cnt, a => (match a with
    | .Continue _ => true
    | _ => false)
  | .pass, a => (match a with
    | .Pass _ => true
    | _ => false)
  | .rai k es, a => (match a with
    | .Raise (some (.Call (.Name x _) [v] [] _)) none _ => decide (nm.Cl[k]? = some x) && glB bk.sc x && plainN x && chkB nm bk es [v]
    | _ => false)
  | .tryN b cls i k, a => (match a with
    | .Try u [.ExceptHandler (some (.Name x _)) (some n) [.Return (some (.Call (.Name fn _) [.Name n2 _] [] _)) _] _] [] [] _ =>
      decide (nm.Cl[cls]? = some x) && glB bk.sc x && plainN x && decide (nm.N[i]? = some n) && decide (bk.sc.names.lookup n = some .local) && plainN n && decide (n2 = n) && decide ((cls, k) ∈ nm.Hn) && decide (nm.F[k]? = some fn) && glB bk.sc fn && plainN fn && chkSs bk b u
    | _ => false)
def chkSs (bk : Bk) : Ss → List Stmt → Bool
  | .nil, as => (match as with
    | [] => true
    | _ => false)
  | .cons s ss, as => (match as with
    | a :: as => chkS bk s a && chkSs bk ss as
    | _ => false)
end
end
structure GoodS (X : Cx) (I : Ins) (C : List D) (W : WX) (call : Mean) (n : Nat) (nm : Nms) (bk : Bk) : Prop where
  good : Good X I C W call n nm bk
  ow : PassesOwn (model X.prog X.w) X.A X.env X.xe
  st : X.stack = X.env :: X.outer
  fr : X.env.frame = some X.env.locals
  fk : X.env.scope.kind = .function
  rm2 : Room 2 X.A
  cls : ∀ k x, nm.Cl[k]? = some x → ClsOk X I 1 k x ∧ PySem.W.exmOne X.K (.ref (I.ca k)) (.ref (I.ca k)) = some true
  num : ∀ p ∈ nm.Hn, ∃ fn, nm.F[p.2]? = some fn ∧ NumF X.prog X.w X.K X.mg (I.ca p.1) fn (I.cf p.1)
section
variable {I : Ins} {C : List D} {call : Mean} {n : Nat} {nm : Nms} {bk : Bk}
theorem GoodS.tr {X : Cx} {W W' : WX} (G : GoodS X I C W call n nm bk) (pn : List (Addr × Obj)) (xe : Value → Shared → Prop) (tk : Takes (X.tr pn xe) W') (ow : PassesOwn (model X.prog X.w) X.A X.env xe) : GoodS (X.tr pn xe) I C W' call n nm bk := by
  refine ⟨⟨G.good.hN, G.good.nd, G.good.sc, G.good.cm, G.good.rm, tk, G.good.fn, fun k x h => ?_, G.good.kon, G.good.bl⟩, ow, G.st, G.fr, G.fk, G.rm2, fun k x h => ?_, G.num⟩
  · obtain ⟨h1, h2, h3⟩ := G.good.cl k x h
    exact ⟨h1, h2, h3⟩
  · obtain ⟨⟨h1, h2, h3, h4⟩, h5⟩ := G.cls k x h
    exact ⟨⟨h1, h2, h3, h4⟩, h5⟩
theorem swap_cell {env : PySem.Env} {e : Expr} {y : Str} {py : Pos} {l : Nat} (h : env.scope.names.lookup y = some .cell) : swapsWith e (some (.Name y py)) l env = pure false := by
  have hk : (env.kindOf y == some .local) = false := by
    show (env.scope.names.lookup y == some .local) = false
    rw [h]; rfl
  unfold swapsWith
  split
  · simp only [hk, Bool.and_false, Bool.false_and]
  · rfl
theorem noswapS {t e : Expr} {l : Nat} {env : PySem.Env} (h : compE e = false) : swapsWithSole [t] e l env = pure false := noswap h
theorem nostores {t e : Expr} {env : PySem.Env} (h : isTupE e = false) : swappedStores [t] e env = pure none := by
  cases e <;> first | (cases t <;> rfl) | cases h
theorem okA {X : Cx} {W : WX} {fl : Nat} {i : Nat} {e : E} {x : Str} {px pos : Pos} {a : Expr} (h : chkA nm bk i e x px a = true) (G : GoodS X I C W call n nm bk) : PS X (.Assign [.Name x px] a pos) (rS I X.K C W (denS C fl call (.asg (.name i) e))) := by
  unfold chkA at h
  simp only [Bool.and_eq_true, decide_eq_true_eq] at h
  obtain ⟨⟨⟨h1, h2⟩, h3⟩, h4⟩ := h
  have G0 := G.good
  have hNd : X.N.Nodup := by rw [G0.hN]; exact G0.nd
  have hi : X.N[i]? = some x := by rw [G0.hN]; exact h1
  have gen : swapsWith a (some (.Name x px)) pos.line X.env = pure false → PS X (.Assign [.Name x px] a pos) (rS I X.K C W (denS C fl call (.asg (.name i) e))) := fun hs =>
    s_set hNd hi (G0.loc h2) (okE e a bk X W h3 G0).1 hs
  cases hc : compE a with
  | false => exact gen (noswap hc)
  | true =>
    cases hl : celB bk x with
    | true =>
      refine gen (swap_cell ?_)
      unfold celB at hl
      rw [G0.sc]
      split at hl
      · assumption
      · cases hl
    | false =>
      rw [hc, hl] at h4
      cases a with
      | ListComp elt gs scope p =>
        have h4 : swB bk x px p scope = true := h4
        unfold swB at h4
        simp only [Bool.and_eq_true, Bool.not_eq_true'] at h4
        obtain ⟨⟨q1, q2⟩, q3⟩ := h4
        have hloc : X.env.scope.names.lookup x = some .local := by
          rw [G0.sc]
          split at q1
          · assumption
          · cases q1
        cases e with
        | lc mu own eltI tg it ifs =>
          unfold chkE at h3
          split at h3
          · rename_i e2 t iter ifs1 k scope2 pos2 heq
            cases heq
            simp only [Bool.and_eq_true, decide_eq_true_eq] at h3
            obtain ⟨⟨⟨⟨⟨⟨hk, b1⟩, b2⟩, b3⟩, b4⟩, b5⟩, b6⟩ := h3
            have blk : BlkOk X.N X.env.scope scope (ownP nm.N own) := by rw [G0.hN, G0.sc]; exact blkOk_by b1
            have hv : ∀ i ∈ tgV tg, i ∈ own := fun i hi => by
              have := List.all_eq_true.mp b4 i hi
              simpa using this
            obtain ⟨w1, w2⟩ := okI it t iter bk X W b5 G0
            exact s_setLc (mu := mu) hk (ownP_map _ _) G0.cm hNd hi hloc (by subst hk; exact sw_true G.fk hloc q2 q3) w1 blk
              (fun s H C0 cl fp => okT own tg t hv b3 (G0.blk s H scope C0 cl fp))
              (fun s H C0 cl fp => okW ifs ifs1 _ _ _ b6 (G0.blk s H scope C0 cl fp))
              (fun s H C0 cl fp => (okE eltI elt _ _ _ b2 (G0.blk s H scope C0 cl fp)).1) w2
          · cases h3
        | _ => unfold chkE at h3; first | cases h3 | (unfold litA at h3; split at h3 <;> first | (rename_i q; cases q) | cases h3)
      | _ => cases h4
mutual
theorem okS (fl : Nat) : ∀ (s : St) (a : Stmt) (X : Cx) (W : WX), chkS nm bk s a = true → GoodS X I C W call n nm bk → PS X a (rS I X.K C W (denS C fl call s))
  | .exp e, a, X, W, h, G => by
    unfold chkS at h
    split at h
    · simp only [Bool.and_eq_true, Bool.not_eq_true'] at h
      exact s_exp (okE e _ bk X W h.2 G.good).1 h.1
    · cases h
  | .ret e, a, X, W, h, G => by
    unfold chkS at h
    split at h
    · exact s_ret (okE e _ bk X W h G.good).1
    · cases h
  | .retN, a, X, W, h, G => by
    unfold chkS at h
    split at h
    · exact s_retN
    · cases h
  | .asg t e, a, X, W, h, G => by
    unfold chkS at h
    split at h
    · rename_i tv v pos
      split at h
      · rename_i i
        split at h
        · exact okA h G
        · cases h
      · rename_i ts
        simp only [Bool.and_eq_true, Bool.not_eq_true'] at h
        obtain ⟨⟨⟨h1, h2⟩, h3⟩, h4⟩ := h
        have hg := okT (tgV (.tup ts)) (.tup ts) tv (fun _ z => z) h3 G.good
        refine s_unp (okE e _ bk X W h4 G.good).1 hg (noswapS h1) (nostores h2) ?_
        unfold chkT at h3
        split at h3
        · rfl
        · cases h3
      · rename_i o i
        split at h
        · simp only [Bool.and_eq_true, Bool.not_eq_true'] at h
          obtain ⟨⟨⟨⟨h1, h2⟩, h3⟩, h4⟩, h5⟩ := h
          exact s_sub G.good.un (okE e _ bk X W h3 G.good).1 (okE o _ bk X W h4 G.good).1 (okE i _ bk X W h5 G.good).1 (noswapS h1) h2
        · cases h
    · cases h
  | .aug i o e, a, X, W, h, G => by
    unfold chkS at h
    split at h
    · simp only [Bool.and_eq_true, decide_eq_true_eq] at h
      obtain ⟨⟨⟨rfl, h1⟩, h2⟩, h3⟩ := h
      exact s_aug o (by rw [G.good.hN]; exact G.good.nd) (by rw [G.good.hN]; exact h1) (G.good.loc h2) (okE e _ bk X W h3 G.good).1
    · cases h
  | .augs o i op e, a, X, W, h, G => by
    unfold chkS at h
    split at h
    · simp only [Bool.and_eq_true, decide_eq_true_eq] at h
      obtain ⟨⟨⟨⟨rfl, h1⟩, h2⟩, h3⟩, h4⟩ := h
      exact s_augs op G.good.un (okE o _ bk X W h2 G.good).1 (okE i _ bk X W h3 G.good).1 (okE e _ bk X W h4 G.good).1 h1
    · cases h
  | .ite c x y, a, X, W, h, G => by
    unfold chkS at h
    split at h
    · simp only [Bool.and_eq_true] at h
      exact s_ite (okE c _ bk X W h.1.1 G.good).2 (okSs fl x _ X W h.1.2 G) (okSs fl y _ X W h.2 G)
    · cases h
  | .wh c x, a, X, W, h, G => by
    unfold chkS at h
    split at h
    · simp only [Bool.and_eq_true] at h
      exact s_wh G.ow (okE c _ bk X W h.1 G.good).2 (okSs fl x _ X W h.2 G)
    · cases h
  | .fo t it x, a, X, W, h, G => by
    unfold chkS at h
    split at h
    · simp only [Bool.and_eq_true] at h
      obtain ⟨q1, q2⟩ := okI it _ _ bk X W h.1.2 G.good
      exact s_fo G.ow G.good.cm q1 (okT (tgV t) t _ (fun _ z => z) h.1.1 G.good) (okSs fl x _ X W h.2 G) q2
    · cases h
  | .brk, a, X, W, h, G => by
    unfold chkS at h
    split at h
    · exact s_brk
    · cases h
  | .cnt, a, X, W, h, G => by
    unfold chkS at h
    split at h
    · exact s_cnt
    · cases h
  | .pass, a, X, W, h, G => by
    unfold chkS at h
    split at h
    · exact s_pass
    · cases h
  | .rai k es, a, X, W, h, G => by
    unfold chkS at h
    split at h
    · simp only [Bool.and_eq_true, decide_eq_true_eq] at h
      obtain ⟨⟨⟨h1, h2⟩, h3⟩, h4⟩ := h
      obtain ⟨p1, _⟩ := plainN_d h3
      obtain ⟨k1, k2, k3⟩ := okEs es _ bk X W h4 G.good
      rw [List.any_cons, Bool.or_eq_false_iff] at k3
      refine s_rai (G.cls k _ h1).1 G.good.cm G.rm2 G.good.tk (G.good.gl h2) p1 k3.1 k2 ?_
      intro env S xs S' e
      cases es with
      | nil => cases h4
      | cons e1 es =>
        cases es with
        | cons _ _ => unfold chkB at h4; simp only [Bool.and_eq_true] at h4; cases h4.2
        | nil =>
          have e : (((den C call e1).1 env S).bind fun v s => (toP v s).bind fun d s => (Res.ok ([] : List D) s).bind fun vs s => .ok (d :: vs) s) = .ok xs S' := e
          cases hd : (den C call e1).1 env S with
          | ok v S1 =>
            rw [hd] at e
            have e : ((toP v S1).bind fun d s => (Res.ok ([] : List D) s).bind fun vs s => .ok (d :: vs) s) = Res.ok xs S' := e
            cases ht : toP v S1 with
            | ok d S2 => rw [ht] at e; cases e; rfl
            | exc _ _ => rw [ht] at e; cases e
            | stuck => rw [ht] at e; cases e
          | exc _ _ => rw [hd] at e; cases e
          | stuck => rw [hd] at e; cases e
    · cases h
  | .tryN b cls i k, a, X, W, h, G => by
    unfold chkS at h
    split at h
    · simp only [Bool.and_eq_true, decide_eq_true_eq] at h
      obtain ⟨⟨⟨⟨⟨⟨⟨⟨⟨⟨⟨h1, h2⟩, h3⟩, h4⟩, h5⟩, h6⟩, rfl⟩, h8⟩, h9⟩, h10⟩, h11⟩, h12⟩ := h
      obtain ⟨p1, _⟩ := plainN_d h3
      obtain ⟨c1, c2⟩ := G.cls cls _ h1
      obtain ⟨fn', f1, f2⟩ := G.num _ h8
      have ef : fn' = _ := Option.some.inj (f1.symm.trans h9)
      subst ef
      refine s_try G.st G.fr (by rw [G.good.hN]; exact G.good.nd) (by rw [G.good.hN]; exact h4) (by show X.env.scope.names.lookup _ = _; rw [G.good.sc]; exact h5) ⟨G.good.gl h2, p1, .inl c1.mg⟩ G.good.tk c2 f2 G.good.rm.depth h6 (G.good.gl h10) h11 ?_
      intro W' pn xe tk ow
      exact okSs fl b _ (X.tr pn xe) W' h12 (G.tr pn xe tk ow)
    · cases h
theorem okSs (fl : Nat) : ∀ (s : Ss) (a : List Stmt) (X : Cx) (W : WX), chkSs nm bk s a = true → GoodS X I C W call n nm bk → PSs X a (rS I X.K C W (denSs C fl call s))
  | .nil, a, X, W, h, G => by
    unfold chkSs at h
    split at h
    · exact s_nil
    · cases h
  | .cons s ss, a, X, W, h, G => by
    unfold chkSs at h
    split at h
    · simp only [Bool.and_eq_true] at h
      exact s_cons (okS fl s _ X W h.1 G) (okSs fl ss _ X W h.2 G)
    · cases h
end
end
end Rx


set_option linter.all false
set_option maxRecDepth 100000
set_option maxHeartbeats 2000000
/-! Rx, part E: defs keep what their denotations say. -/
namespace Rx
open PySem PySem.Spec PyProof.Rows L2 SeqAt
def Gh.tk (g : Gh) (n : Nat) : Gh := ⟨g.fz, g.m.take n, g.kc⟩
section
variable {I : Ins} {K : PySem.W.Frag} {g g' : Gh} {H H' : Hp} {S S' : Sto} {n : Nat}
theorem al_tk {a : Addr} (h : Al (g.tk n) (S.take n) a) : ∃ i c, i < n ∧ S[i]? = some c ∧ c.mut ∧ g.m[i]? = some a := by
  obtain ⟨i, c, h1, h2, h3⟩ := h
  have hi : i < n := by
    have := (List.getElem?_eq_some_iff.mp h1).1
    rw [List.length_take] at this
    omega
  exact ⟨i, c, hi, by rw [List.getElem?_take_of_lt hi] at h1; exact h1, h2, by
    have h3 : (g.m.take n)[i]? = some a := h3
    rw [List.getElem?_take_of_lt hi] at h3; exact h3⟩
theorem fw_tk : Fw g H (g.tk n) H := ⟨fun _ h => h, fun _ _ _ h => h, fun _ _ _ h => h, fun _ _ h => h, rfl⟩
theorem SR.tk (R : SR K g H S) (n : Nat) : SR K (g.tk n) H (S.take n) := by
  have get : ∀ (i : Nat) (c : Cell), (S.take n)[i]? = some c → i < n ∧ S[i]? = some c := fun i c h => by
    have hi : i < n := by
      have := (List.getElem?_eq_some_iff.mp h).1
      rw [List.length_take] at this
      omega
    rw [List.getElem?_take_of_lt hi] at h
    exact ⟨hi, h⟩
  have gm : ∀ i, i < n → (g.tk n).m[i]? = g.m[i]? := fun i hi => List.getElem?_take_of_lt hi
  refine ⟨?_, fun i c h => ?_, fun i j ci cj a h1 h2 h3 h4 h5 h6 => ?_, R.frz⟩
  · show (g.m.take n).length = _
    rw [List.length_take, List.length_take, R.len]
  · obtain ⟨hi, h⟩ := get i c h
    obtain ⟨a, e, q, nf⟩ := R.cell i c h
    exact ⟨a, by rw [gm i hi]; exact e, q.fw fw_tk fun _ => rfl, nf⟩
  · obtain ⟨hi, h1⟩ := get i ci h1
    obtain ⟨hj, h3⟩ := get j cj h3
    rw [gm i hi] at h5
    rw [gm j hj] at h6
    exact R.inj i j ci cj a h1 h2 h3 h4 h5 h6
theorem Stp.tk (st : Stp g H S g' H' S') (R : SR K g H S) : Stp g H S (g'.tk S.length) H' (S'.take S.length) := by
  obtain ⟨l, e⟩ := st.m
  refine ⟨st.fz, ⟨[], ?_⟩, st.kc, st.keep, st.nfz, fun a h => ?_⟩
  · show g'.m.take S.length = g.m ++ []
    rw [e, ← R.len, List.take_left', List.append_nil]
    rfl
  · obtain ⟨i, c, _, h1, h2, h3⟩ := al_tk h
    exact st.nal a ⟨i, c, h1, h2, h3⟩
theorem Stp.push' {p : Addr} (st : Stp g H S g' H' S') {c : Cell} (n : Al g S p ∨ H p = none) (hal : ∀ a, Al (g'.push p) (S' ++ [c]) a → Al g' S' a ∨ a = p) : Stp g H S (g'.push p) H' (S' ++ [c]) := by
  refine ⟨st.fz, ?_, st.kc, st.keep, st.nfz, fun a h => ?_⟩
  · obtain ⟨l, e⟩ := st.m
    exact ⟨l ++ [p], by show g'.m ++ [p] = _; rw [e, List.append_assoc]⟩
  · rcases hal a h with q | q
    · exact st.nal a q
    · rw [q]; exact n
theorem Stp.add' {p : Addr} (st : Stp g H S g' H' S') (n : Al g S p ∨ H p = none) : Stp g H S (g'.add p) H' S' := by
  refine ⟨fun a h => .inl (st.fz a h), st.m, st.kc, st.keep, fun a h => ?_, st.nal⟩
  rcases h with h | h
  · exact st.nfz a h
  · rw [h]; exact .inr n.symm
theorem leave_rp {W : WX} {σ : L2.St} {keep : Bool} {v : Dv} {x : V} {Q : VK} (R : SR K g H S) (st : Stp g H S g' H' S') (R' : SR K g' H' S') (r : RpV I K g' H' v x) (h : Post I K (RpV I K) W σ g H S (leave keep S.length v S') Q) : Q x H' := by
  have stk := st.tk R
  have Rk := R'.tk S.length
  unfold leave at h
  cases v with
  | pd d => exact h _ _ x stk Rk (Rp.fw fw_tk (show Rp K g' H' d x from r))
  | fn k => exact h _ _ x stk Rk r
  | lck ys =>
    obtain ⟨a, vs, e, h1, h2⟩ := r
    exact h _ _ x stk Rk ⟨a, vs, e, h1.fw fw_tk, h2.fw fw_tk⟩
  | ref m =>
    obtain ⟨a, ha, rfl⟩ := r
    simp only at h
    split at h
    · rename_i hm
      exact h _ _ (.ref a) stk Rk ⟨a, by show (g'.m.take S.length)[m]? = _; rw [List.getElem?_take_of_lt hm]; exact ha, rfl⟩
    · rename_i hm
      have na : ∀ c, S'[m]? = some c → c.mut → ¬ Al (g'.tk S.length) (S'.take S.length) a := fun c hc hmu z => by
        obtain ⟨i, ci, hi, h1, h2, h3⟩ := al_tk z
        have := R'.inj i m ci c a h1 h2 hc hmu h3 ha
        omega
      have nf : ∀ c, S'[m]? = some c → c.mut → ¬ (g'.tk S.length).fz a := fun c hc hmu => R'.notfz ⟨m, c, hc, hmu, ha⟩
      -- ahead of the call a was none's
      have n0 : ∀ c, S'[m]? = some c → c.mut → Al g S a ∨ H a = none := fun c hc hmu => st.nal a ⟨m, c, hc, hmu, ha⟩
      have push : ∀ c, S'[m]? = some c → c.mut → Post I K (RpV I K) W σ g H S (.ok (.ref S.length) (S'.take S.length ++ [c])) Q → Q (.ref a) H' := fun c hc hmu q => by
        obtain ⟨a', e, cr, _⟩ := R'.cell m c hc
        rw [ha] at e; cases e
        obtain ⟨R2, hal⟩ := adopt Rk (na c hc hmu) (nf c hc hmu) (fun g2 f => cr.fw (fw_tk.trans f) fun _ => rfl) hmu
        refine q _ _ (.ref a) (stk.push' (n0 c hc hmu) hal) R2 ⟨a, ?_, rfl⟩
        show (g'.m.take S.length ++ [a])[S.length]? = some a
        have hl : (g'.m.take S.length).length = S.length := by
          obtain ⟨l, e⟩ := st.m
          rw [e, ← R.len]; simp
        rw [List.getElem?_append_right (by omega), hl]; simp
      split at h
      · rename_i xs hc
        cases keep with
        | true => exact push _ hc trivial h
        | false =>
          obtain ⟨vs, e, ra⟩ := R'.lst hc ha
          have fa : Fw g' H' ((g'.tk S.length).add a) H' := ⟨fun _ h => .inl h, fun _ _ _ h => h, fun _ _ _ h => h, fun _ _ h => h, rfl⟩
          exact h _ _ (.ref a) (stk.add' (n0 _ hc trivial)) (add_fz Rk (by rw [e]; simp) (na _ hc trivial)) (Rp.lst ⟨.inr rfl, e⟩ (ra.fw fa))
      · rename_i xs hc
        exact h _ _ (.ref a) stk Rk (Rp.fw fw_tk (R'.fzl hc ha))
      · rename_i kvs hc
        cases keep with
        | true => exact push _ hc trivial h
        | false => exact h.elim
      · rename_i kvs hc
        cases keep with
        | true => exact push _ hc trivial h
        | false => exact h.elim
      · exact h.elim
theorem ExR.tk {e : Ex} {c : Value} {d : Option Addr} (h : ExR I K g H e c d) : ExR I K (g.tk n) H e c d := by
  obtain ⟨h1, h2⟩ := h
  refine ⟨h1, ?_⟩
  rcases h2 with h2 | ⟨x, dd, v, a1, a2, a3, a4⟩
  · exact .inl h2
  · exact .inr ⟨x, dd, v, a1, a2, a3, a4.fw fw_tk⟩
/-- from a def's body to its answer -/
theorem body_rp {C : List D} {fl : Nat} {call : Mean} {d : Def} {ds : List Dv} {Q : VK} {E : XK} {env : Env} (R : SR K g H S) (he : env = ds.map some ++ List.replicate (d.names.length - ds.length) none)
    (h : Post I K (RpV I K) (fun c d _ H' => E c d H') [] g H S (body C fl call d ds S) Q) :
    ds.length = d.np ∧ PostS I K C (fun c d _ H' => E c d H') { nx := fun _ H' => Q .non H', rt := Q } g H S (denSs C fl call d.body env S) := by
  subst he
  unfold body at h
  split at h
  · rename_i hl
    refine ⟨hl, ?_⟩
    cases hr : denSs C fl call d.body (ds.map some ++ List.replicate (d.names.length - ds.length) none) S with
    | out o S' =>
      rw [hr] at h
      cases o with
      | rt v => exact fun g' H' x st R' r => leave_rp R st R' r h
      | nx env' => exact fun g' H' σ' st w => h _ _ .non (st.tk R) (w.sr.tk _) .non
      | bk env' => exact h.elim
      | ct env' => exact h.elim
    | exc e env' S' =>
      rw [hr] at h
      exact fun g' H' c d σ' st w x => h _ _ c d (st.tk R) (w.sr.tk _) x.tk
    | stuck => rw [hr] at h; exact h.elim
  · exact h.elim
end
end Rx


set_option linter.all false
set_option maxRecDepth 100000
set_option maxHeartbeats 2000000
/-! Rx, part E2: all defs at once; the law's end. -/
namespace Rx
open PySem PySem.Spec PyProof.Rows L2 SeqAt
/-- a def that is never run by its denotation -/
def dummy : Ss := .cons .brk .nil
structure ModF (P : Program) (w : World) (K : PySem.W.Frag) (mg : Str → Option Value) (I : Ins) (C : List D) (T : List Def) (nm : Nms) : Prop where
  fF : nm.F = T.map (·.name)
  fn : ∀ (k : Nat) (d : Def), T[k]? = some d → ∃ st fd, Fun K d.name d.name st (I.fa k) fd ∧ FnScope d.names (d.names.take d.np) (defScope st) ∧ (chkSs { nm with N := d.names } ⟨defScope st, fun _ => true⟩ d.body (defBody st) = true ∨ d.body = dummy) ∧
    L2.Binds K fd (d.names.take d.np) [] ∧ mg d.name = some (.ref (I.fa k)) ∧ d.np ≤ d.names.length
  kon : ∀ (j : Nat) (x : Str), nm.G[j]? = some x → ∃ v u d, C[j]? = some d ∧ mg x = some u ∧ RelV v u ∧ ∀ g H, g.kc = C → Rp K g H d v
  bl : ∀ x ∈ bltNames, mg x = none
  cls : ∀ (k : Nat) (x : Str), nm.Cl[k]? = some x → mg x = some (.ref (I.ca k)) ∧ OexC K (I.ca k) ∧ PySem.W.findIn K (.ref (I.ca k)) (I.cf k) = some none ∧
    (∃ fI fd ps, PySem.W.findIn K (.ref (I.ca k)) "__init__" = some (some (.ref fI)) ∧ PySem.W.typeIn K (.ref fI) = some (.type "function") ∧ (∀ base, FnOk P w K mg base (L2.CX P w) 1 fI fd ps (spInit (I.ca k) (I.cf k))) ∧ L2.Binds K fd ps []) ∧
    PySem.W.exmOne K (.ref (I.ca k)) (.ref (I.ca k)) = some true
  num : ∀ p ∈ nm.Hn, ∃ fn, nm.F[p.2]? = some fn ∧ NumF P w K mg (I.ca p.1) fn (I.cf p.1)
section
variable {P : Program} {w : World} {K : PySem.W.Frag} {mg : Str → Option Value} {I : Ins} {C : List D} {T : List Def} {nm : Nms} {base : Heap}
theorem stuck_fn {k : Nat} {f : Addr} {fd : FuncData} {ps : List Str} {call : Mean} {j : Nat} (h : ∀ ds S, call j ds S = .stuck) : FnOk P w K mg base (L2.CX P w) k f fd ps (SpR I K C call j) := by
  refine ⟨fun vs H Q E ⟨g, S, ds, _, _, _, z⟩ => ?_, fun A outer s H args us vs Q E p hr he hb ⟨g, S, ds, _, _, _, z⟩ => ?_⟩
  · rw [h] at z; exact z.elim
  · rw [h] at z; exact z.elim
theorem all_ok (M : ModF P w K mg I C T nm) (fl : Nat) : ∀ (n k : Nat) (d : Def), T[k]? = some d → ∃ fd, (∃ st, Fun K d.name d.name st (I.fa k) fd) ∧ FnOk P w K mg base (L2.CX P w) (n + 2) (I.fa k) fd (d.names.take d.np) (SpR I K C (run C T fl n) k) ∧ L2.Binds K fd (d.names.take d.np) []
  | 0, k, d, e => by
    obtain ⟨st, fd, F1, F2, F3, F4, F5, F6⟩ := M.fn k d e
    exact ⟨fd, ⟨st, F1⟩, stuck_fn fun _ _ => rfl, F4⟩
  | n + 1, k, d, e => by
    have ih := all_ok M fl n
    obtain ⟨st, fd, F1, F2, F3, F4, F5, F6⟩ := M.fn k d e
    refine ⟨fd, ⟨st, F1⟩, ?_, F4⟩
    have er : ∀ ds S, run C T fl (n + 1) k ds S = body C fl (run C T fl n) d ds S := fun ds S => by
      show (match T[k]? with
        | some d => body C fl (run C T fl n) d ds S
        | none => .stuck) = _
      rw [e]
    rcases F3 with F3 | F3
    · refine F1.okX F2 (fun vs H Q E ⟨g, S, ds, _, _, z1, z⟩ => ?_) (fun cdv A outer s H vs Q E hr ⟨g, S, ds, R, kc, z1, z⟩ => ?_)
      · rw [er] at z
        unfold body at z
        split at z
        · rename_i hl
          rw [← Paired.length z1, hl, List.length_take, Nat.min_eq_left F6]
        · exact z.elim
      · rw [er] at z
        obtain ⟨hl, z⟩ := body_rp R rfl z
        refine ⟨rS I K C (fun c d _ H' => E c d H') (denSs C fl (run C T fl n) d.body), okSs (n := n + 2) (nm := { nm with N := d.names }) (bk := ⟨defScope st, fun _ => true⟩) fl d.body (defBody st) _ _ F3 ?_, g, S, _, ⟨R, ?_, kc⟩, z⟩
        · refine ⟨⟨rfl, F2.nd, rfl, rfl, hr, takes_of rfl rfl rfl rfl, fun _ _ => rfl, fun j x hj => ?_, M.kon, M.bl⟩, passes_of rfl, rfl, rfl, F2.kind, hr.mono (by omega), fun j x hj => ?_, M.num⟩
          · have hj : nm.F[j]? = some x := hj
            rw [M.fF, List.getElem?_map] at hj
            cases hd : T[j]? with
            | none => rw [hd] at hj; cases hj
            | some d2 =>
              rw [hd] at hj
              cases hj
              obtain ⟨fd2, ⟨st2, G1⟩, G2, G3⟩ := ih j d2 hd
              obtain ⟨_, _, _, _, _, _, G5, _⟩ := M.fn j d2 hd
              exact ⟨⟨fd2, _, G2, G3⟩, G5, G1.kp⟩
          · obtain ⟨c1, c2, c3, ⟨fI, fd3, ps3, c4, c5, c6, c7⟩, c8⟩ := M.cls j x hj
            exact ⟨⟨c1, c2, c3, fI, fd3, ps3, c4, c5, c6 base, c7⟩, c8⟩
        · -- the slots
          have hlv : ds.length = vs.length := Paired.length z1
          refine ⟨?_, fun i dv hi => ?_⟩
          · unfold L2.start
            simp only [List.length_append, List.length_map, List.length_replicate, hlv]
          · have hi' : i < ds.length := by
              by_cases h : i < ds.length
              · exact h
              · rw [List.getElem?_append_right (by simpa using h), List.getElem?_replicate] at hi
                split at hi <;> cases hi
            rw [List.getElem?_append_left (by simpa using hi'), List.getElem?_map] at hi
            cases hd : ds[i]? with
            | none => rw [hd] at hi; cases hi
            | some d3 =>
              rw [hd] at hi
              cases hi
              obtain ⟨v, hv, rv⟩ : ∃ v, vs[i]? = some v ∧ RpV I K g H dv v := by
                have key : ∀ {l1 : List Dv} {l2 : List V} (_ : Paired (RpV I K g H) l1 l2) (i : Nat) (dv : Dv), l1[i]? = some dv → ∃ v, l2[i]? = some v ∧ RpV I K g H dv v := by
                  intro l1 l2 p
                  induction p with
                  | nil => intro i dv h; simp at h
                  | cons r t ih =>
                    intro i dv h
                    cases i with
                    | zero => simp at h; subst h; exact ⟨_, rfl, r⟩
                    | succ i => simpa using ih i dv (by simpa using h)
                exact key z1 i dv hd
              refine ⟨v, ?_, rv⟩
              unfold L2.start
              rw [List.getElem?_append_left (by simp; omega), List.getElem?_map, hv]
              rfl
    · refine stuck_fn fun ds S => ?_
      rw [er]
      unfold body
      rw [F3]
      split <;> rfl
theorem rp_ints {g : Gh} {H : Hp} : ∀ ns : List Int, RpA K g H (ns.map .int) (ns.map V.int)
  | [] => .nil
  | n :: ns => .cons (.int n) (rp_ints ns)
/-- the script: a list of ints that stands frozen, or is the module's -/
theorem law_sp {fl n k : Nat} {H : Hp} {a : Addr} {ns : List Int} (hS : SqL K H a (ns.map V.int)) (hl : run C T fl n k [.lck (ns.map .int)] [] = .ok (.pd (.bool true)) []) :
    SpR I K C (run C T fl n) k [.ref a] H (fun v _ => v = .bl true) fun _ _ _ => False := by
  refine ⟨⟨fun b => b = a ∧ H b ≠ none, [], C⟩, [], [.lck (ns.map .int)], ⟨rfl, fun n c h => by simp at h, fun i j ci cj b h => by simp at h, fun b h => h.2⟩, rfl, .cons ⟨a, _, rfl, ?_, rp_ints ns⟩ .nil, ?_⟩
  · rcases hS with h | h
    · refine .inl ⟨⟨rfl, ?_⟩, h⟩
      rcases h with h | ⟨o, h⟩ <;> (rw [h]; simp)
    · exact .inr h
  · rw [hl]
    intro g' H' b st R r
    exact Rp.bl_inv (show Rp K g' H' (.bool true) b from r)
end
end Rx


set_option linter.all false
set_option maxRecDepth 100000
set_option maxHeartbeats 2000000
/-! Rx, part E3: what the written part says, in rows; the module from them. -/
namespace Rx
open PySem PySem.Spec PyProof.Rows L2
/-- a def of the module -/
structure DefAt (K : PySem.W.Frag) (x : Str) (st : Stmt) (f : Addr) : Prop where
  at_ : PySem.W.nsIn K mainGlobals x = some (some (.ref f))
  fn : ∃ (oc : Value) (od : Option Addr) (kV dc pm : Value) (an : Option Addr) (cd ct : Value) (sl : Array (Option Value)),
    K.lookup f = some ⟨oc, od, .func (PySem.W.fnOf x x (defArgs st) (defBody st) (defScope st) .none kV dc pm an cd ct), sl⟩ ∧ PySem.W.codeIn K cd x = true
  kp : PySem.W.keepIn K (.ref f) = true
theorem DefAt.fun {K : PySem.W.Frag} {x : Str} {st : Stmt} {f : Addr} (d : DefAt K x st f) : ∃ fd, Fun K x x st f fd ∧ ∃ kV dc pm an cd ct, fd = PySem.W.fnOf x x (defArgs st) (defBody st) (defScope st) .none kV dc pm an cd ct := by
  obtain ⟨oc, od, kV, dc, pm, an, cd, ct, sl, h1, h2⟩ := d.fn
  exact ⟨_, fun_mk h1 h2 d.kp, kV, dc, pm, an, cd, ct, rfl⟩
/-- how the arguments of a def without defaults are bound -/
def BindB (st : Stmt) (ps : List Str) : Prop := ∀ (x : Str) (kV dc pm : Value) (an : Option Addr) (cd ct : Value) (us : List Value), us.length = ps.length → bindArgs (PySem.W.fnOf x x (defArgs st) (defBody st) (defScope st) .none kV dc pm an cd ct) ⟨us, []⟩ = pure (ps.zip us)
def scB (N P : List Str) (sc : Scope) : Bool := (match sc.kind with | .function => true | _ => false) && !sc.isCoroutine && !sc.isGenerator && decide N.Nodup && decide (N.take P.length = P) &&
  (P.all fun x => match sc.names.lookup x with | some .local => true | some .cell => true | _ => false) && sc.names.all fun y => match y.2 with | .free => false | _ => true
theorem scB_ok {N P : List Str} {sc : Scope} (h : scB N P sc = true) : FnScope N P sc := by
  unfold scB at h
  simp only [Bool.and_eq_true, Bool.not_eq_true', decide_eq_true_eq] at h
  obtain ⟨⟨⟨⟨⟨⟨h1, h2⟩, h3⟩, h4⟩, h5⟩, h6⟩, h7⟩ := h
  refine ⟨?_, h2, h3, h4, h5, fun x hx => ?_, fun y hy => ?_⟩
  · split at h1
    · assumption
    · cases h1
  · have := List.all_eq_true.mp h6 x hx
    split at this
    · rename_i e; exact .inl e
    · rename_i e; exact .inr e
    · cases this
  · have := List.all_eq_true.mp h7 y hy
    intro e
    rw [e] at this
    cases this
/-- an error class with one field that its own __init__ keeps -/
structure ErrAt (K : PySem.W.Frag) (x f : Str) (C : Addr) : Prop where
  at_ : PySem.W.nsIn K mainGlobals x = some (some (.ref C))
  cls : ∃ nm q N bs bm sn sub ab col dd k0 k1 k2 k3 k5, K.lookup C = some (excClassObj nm q C N bs bm true sn sub ab col dd k0 k1 k2 k3 k5 "ValueError.__new__") ∧ PySem.HandSPX.refsVE bm = true
  sa : PySem.W.findIn K (.ref C) "__setattr__" = some (some (.builtin "object.__setattr__"))
  ga : PySem.W.findIn K (.ref C) "__getattribute__" = some (some (.builtin "BaseException.__getattribute__"))
  gg : PySem.W.findIn K (.ref C) "__getattr__" = some none
  no : PySem.W.findIn K (.ref C) f = some none
  kC : PySem.W.keepIn K (.ref C) = true
  exC : PySem.W.subIn K (.ref C) (.type "BaseException") = some true
  tyC : PySem.W.typeIn K (.ref C) = some (.type "type")
  hdC : PySem.W.hasDictIn K C = true
  te : PySem.W.exmOne K (.ref C) (.ref C) = some true
  cl : (PySem.W.clsIn K C).isSome = true
  ha : PySem.W.findIn K (.ref C) "__class__" = some (some (.builtin "object.__class__"))
  hn : PySem.W.specialIn K (.builtin "object.__class__") "__get__" = some (some (.builtin "getset_descriptor.__get__"))
  ht : PySem.W.takesIn K (.builtin "object.__class__") = some true
  hm : PySem.W.mroIn K C (.type "object") = some true
structure InitAt (K : PySem.W.Frag) (C : Addr) (qual : Str) (st : Stmt) (fI : Addr) : Prop where
  at_ : PySem.W.findIn K (.ref C) "__init__" = some (some (.ref fI))
  ty : PySem.W.typeIn K (.ref fI) = some (.type "function")
  fn : ∃ (oc : Value) (od : Option Addr) (kV dc pm : Value) (an : Option Addr) (cd ct : Value) (sl : Array (Option Value)),
    K.lookup fI = some ⟨oc, od, .func (PySem.W.fnOf "__init__" qual (defArgs st) (defBody st) (defScope st) .none kV dc pm an cd ct), sl⟩ ∧ PySem.W.codeIn K cd qual = true
  kp : PySem.W.keepIn K (.ref fI) = true
theorem ErrAt.ox {K : PySem.W.Frag} {x f : Str} {C : Addr} (e : ErrAt K x f C) : OexC K C := ⟨e.cls, e.sa, e.exC, e.tyC, e.kC⟩
theorem ErrAt.xf {K : PySem.W.Frag} {x f : Str} {C : Addr} (e : ErrAt K x f C) : XfC K C := ⟨e.ga, e.gg, e.exC, e.hdC⟩
theorem ErrAt.isx {K : PySem.W.Frag} {x f : Str} {C : Addr} (e : ErrAt K x f C) : IsxC K C := ⟨e.cl, e.ga, e.gg, e.exC, e.ha, e.hn, e.ht, e.hm⟩
theorem row_ok {K : PySem.W.Frag} {h : Heap} {mg : Str → Option Value} {I : Ins} {nm : Nms} {d : Def} {st : Stmt} {f : Addr} {k : Nat} (X : K.In h) (G : h.Ns mainGlobals mg) (D : DefAt K d.name st f) (S : FnScope d.names (d.names.take d.np) (defScope st))
    (c : chkSs { nm with N := d.names } ⟨defScope st, fun _ => true⟩ d.body (defBody st) = true ∨ d.body = dummy) (b : BindB st (d.names.take d.np)) (hn : d.np ≤ d.names.length) (hf : I.fa k = f := by rfl) :
    ∃ st fd, Fun K d.name d.name st (I.fa k) fd ∧ FnScope d.names (d.names.take d.np) (defScope st) ∧ (chkSs { nm with N := d.names } ⟨defScope st, fun _ => true⟩ d.body (defBody st) = true ∨ d.body = dummy) ∧
      L2.Binds K fd (d.names.take d.np) [] ∧ mg d.name = some (.ref (I.fa k)) ∧ d.np ≤ d.names.length := by
  subst hf
  obtain ⟨fd, F, kV, dc, pm, an, cd, ct, e⟩ := D.fun
  subst e
  exact ⟨st, _, F, S, c, F.binds fun kV dc pm an cd ct us hl => b d.name kV dc pm an cd ct us hl, PySem.W.mg_of X G D.at_, hn⟩
theorem def_mk {K : PySem.W.Frag} {x : Str} {st : Stmt} {f : Addr} {od an : Option Addr} {sl : Array (Option Value)} {oc kV dc pm cd ct : Value} (a : PySem.W.nsIn K mainGlobals x = some (some (.ref f)))
    (l : K.lookup f = some ⟨oc, od, .func (PySem.W.fnOf x x (defArgs st) (defBody st) (defScope st) .none kV dc pm an cd ct), sl⟩) (c : PySem.W.codeIn K cd x = true) (k : PySem.W.keepIn K (.ref f) = true) : ∃ f, DefAt K x st f :=
  ⟨f, a, ⟨_, _, _, _, _, _, _, _, _, l, c⟩, k⟩
theorem err_mk {K : PySem.W.Frag} {x f qual : Str} {st : Stmt} {C fI : Addr} {nm q : Str} {N : Addr} {bs bm : List Value} {sn sub ab col dd k0 k1 k2 k3 k5} {od an : Option Addr} {sl : Array (Option Value)} {oc kV dc pm cd ct : Value}
    (a : PySem.W.nsIn K mainGlobals x = some (some (.ref C))) (c1 : K.lookup C = some (excClassObj nm q C N bs bm true sn sub ab col dd k0 k1 k2 k3 k5 "ValueError.__new__")) (c2 : PySem.HandSPX.refsVE bm = true)
    (sa : PySem.W.findIn K (.ref C) "__setattr__" = some (some (.builtin "object.__setattr__"))) (ga : PySem.W.findIn K (.ref C) "__getattribute__" = some (some (.builtin "BaseException.__getattribute__")))
    (gg : PySem.W.findIn K (.ref C) "__getattr__" = some none) (no : PySem.W.findIn K (.ref C) f = some none) (kC : PySem.W.keepIn K (.ref C) = true) (exC : PySem.W.subIn K (.ref C) (.type "BaseException") = some true)
    (tyC : PySem.W.typeIn K (.ref C) = some (.type "type")) (hdC : PySem.W.hasDictIn K C = true) (te : PySem.W.subIn K (.ref C) (.ref C) = some true)
    (ha : PySem.W.findIn K (.ref C) "__class__" = some (some (.builtin "object.__class__"))) (hn : PySem.W.specialIn K (.builtin "object.__class__") "__get__" = some (some (.builtin "getset_descriptor.__get__")))
    (ht : PySem.W.takesIn K (.builtin "object.__class__") = some true) (hm : PySem.W.mroIn K C (.type "object") = some true)
    (ia : PySem.W.findIn K (.ref C) "__init__" = some (some (.ref fI))) (it : PySem.W.typeIn K (.ref fI) = some (.type "function"))
    (il : K.lookup fI = some ⟨oc, od, .func (PySem.W.fnOf "__init__" qual (defArgs st) (defBody st) (defScope st) .none kV dc pm an cd ct), sl⟩) (ic : PySem.W.codeIn K cd qual = true) (ik : PySem.W.keepIn K (.ref fI) = true) :
    ∃ C, ErrAt K x f C ∧ ∃ fI, InitAt K C qual st fI :=
  ⟨C, ⟨a, ⟨_, _, _, _, _, _, _, _, _, _, _, _, _, _, _, c1, c2⟩, sa, ga, gg, no, kC, exC, tyC, hdC, PySem.W.exm_ref exC hdC tyC te, by unfold PySem.W.clsIn; rw [c1] <;> rfl, ha, hn, ht, hm⟩, fI, ia, it, ⟨_, _, _, _, _, _, _, _, _, il, ic⟩, ik⟩
theorem num_mk {K : PySem.W.Frag} {x1 x2 x3 : Str} {a1 a2 C : Addr} {cd1 cd2 : ClassData} (m1 : PySem.W.nsIn K mainGlobals x1 = some (some (.ref a1))) (m2 : PySem.W.nsIn K mainGlobals x2 = some (some (.ref a2))) (m3 : PySem.W.nsIn K mainGlobals x3 = some (some (.ref C)))
    (d1 : PySem.W.clsIn K a1 = some cd1) (d2 : PySem.W.clsIn K a2 = some cd2) (t1 : PySem.W.typeIn K (.ref a1) = some (.type "type")) (t2 : PySem.W.typeIn K (.ref a2) = some (.type "type"))
    (s1 : PySem.W.subIn K (.ref C) (.ref a1) = some false) (s2 : PySem.W.subIn K (.ref C) (.ref a2) = some false) (n1 : (Value.ref C == .ref a1) = false) (n2 : (Value.ref C == .ref a2) = false) :
    ∃ a1 a2 C, PySem.W.nsIn K mainGlobals x1 = some (some (.ref a1)) ∧ PySem.W.nsIn K mainGlobals x2 = some (some (.ref a2)) ∧ PySem.W.nsIn K mainGlobals x3 = some (some (.ref C)) ∧ PySem.W.kitAny K (.ref C) [.ref a1, .ref a2] = some false := by
  refine ⟨a1, a2, C, m1, m2, m3, ?_⟩
  have e1 : PySem.W.kitOne K (.ref C) (.ref a1) = some false := by
    unfold PySem.W.kitOne PySem.W.kitCls
    rw [n1, if_neg (by simp)]
    simp only
    rw [d1, t1]
    exact s1
  have e2 : PySem.W.kitOne K (.ref C) (.ref a2) = some false := by
    unfold PySem.W.kitOne PySem.W.kitCls
    rw [n2, if_neg (by simp)]
    simp only
    rw [d2, t2]
    exact s2
  unfold PySem.W.kitAny
  rw [e1]
  simp only
  unfold PySem.W.kitAny
  rw [e2]
  rfl
theorem int_mk {K : PySem.W.Frag} {x : Str} {i : Int} {t : Tok} (a : PySem.W.nsIn K mainGlobals x = some (some (.int i t))) : ∃ (j : Int) (t : Tok), PySem.W.nsIn K mainGlobals x = some (some (.int i t)) ∧ j = i := ⟨i, t, a, rfl⟩
end Rx


set_option linter.all false
set_option Elab.async false
set_option maxRecDepth 100000
set_option maxHeartbeats 1000000
/-! Rx, part M: rows for reckoning with denotations (simp only), in plain Lean. -/
namespace Rx
open PySem
section
variable {α β : Type} {s : Sto} {env : Rx.Env}
theorem bind_ok (a : α) (f : α → M β) : (Res.ok a s).bind f = f a s := rfl
theorem bind_stuck (f : α → M β) : (Res.stuck : Res α).bind f = .stuck := rfl
theorem bind_exc (e : Ex) (f : α → M β) : (Res.exc e s : Res α).bind f = .exc e s := rfl
theorem go_ok (a : α) (f : α → Sto → RS) : (Res.ok a s).go env f = f a s := rfl
theorem go_exc (e : Ex) (f : α → Sto → RS) : (Res.exc e s : Res α).go env f = .exc e env s := rfl
theorem go_stuck (f : α → Sto → RS) : (Res.stuck : Res α).go env f = .stuck := rfl
theorem nxt_nx (f : Rx.Env → Sto → RS) : (RS.out (.nx env) s).nxt f = f env s := rfl
theorem nxt_rt (v : Dv) (f : Rx.Env → Sto → RS) : (RS.out (.rt v) s).nxt f = .out (.rt v) s := rfl
theorem nxt_bk (f : Rx.Env → Sto → RS) : (RS.out (.bk env) s).nxt f = .out (.bk env) s := rfl
theorem nxt_ct (f : Rx.Env → Sto → RS) : (RS.out (.ct env) s).nxt f = .out (.ct env) s := rfl
theorem nxt_exc (e : Ex) (f : Rx.Env → Sto → RS) : (RS.exc e env s).nxt f = .exc e env s := rfl
theorem both_1 (f : DE) : (both f).1 = f := rfl
theorem both_2 (f : DE) : (both f).2 env s = (f env s).bind fun v s => truthR v s := rfl
theorem cmpB_1 (f : DT) : (cmpB f).1 env s = (f env s).bind fun b s => .ok (.pd (.bool b)) s := rfl
theorem cmpB_2 (f : DT) : (cmpB f).2 = f := rfl
theorem bq_ft : (false == true) = false := rfl
theorem bq_tf : (true == false) = false := rfl
theorem lv_pd (k : Bool) (n : Nat) (x : D) : leave k n (.pd x) s = .ok (.pd x) (s.take n) := rfl
theorem lv_fn (k : Bool) (n : Nat) (x : Nat) : leave k n (.fn x) s = .ok (.fn x) (s.take n) := rfl
theorem lv_old (k : Bool) {n m : Nat} (h : m < n) : leave k n (.ref m) s = .ok (.ref m) (s.take n) := by simp [leave, h]
theorem lv_lst {n m : Nat} {xs : List D} (h : ¬ m < n) (e : s[m]? = some (.lst xs)) : leave false n (.ref m) s = .ok (.pd (.list xs)) (s.take n) := by simp [leave, h, e]
theorem lv_fzl (k : Bool) {n m : Nat} {xs : List D} (h : ¬ m < n) (e : s[m]? = some (.fzl xs)) : leave k n (.ref m) s = .ok (.pd (.list xs)) (s.take n) := by simp [leave, h, e]
theorem take_self {γ : Type} (l : List γ) : l.take l.length = l := by simp
/-- the empty text -/
def S0 : Str := ⟨[].toArray⟩
/-! truth -/
theorem tr_bool (b : Bool) : truthR (.pd (.bool b)) s = .ok b s := rfl
theorem tr_none : truthR (.pd .none) s = .ok false s := rfl
theorem tr_int (i : Int) : truthR (.pd (.int i)) s = .ok (i != 0) s := rfl
theorem tr_list (xs : List D) : truthR (.pd (.list xs)) s = .ok (!xs.isEmpty) s := rfl
theorem tr_tup (xs : List D) : truthR (.pd (.tuple xs)) s = .ok (!xs.isEmpty) s := rfl
theorem tr_ref {n : Nat} {xs : List D} (h : s[n]? = some (.lst xs)) : truthR (.ref n) s = .ok (!xs.isEmpty) s := by simp [truthR, truthV, h]
theorem tr_fzl {n : Nat} {xs : List D} (h : s[n]? = some (.fzl xs)) : truthR (.ref n) s = .ok (!xs.isEmpty) s := by simp [truthR, truthV, h]
/-! comparisons -/
theorem c_lt_i (a b : Int) : cmpV .lt (.pd (.int a)) (.pd (.int b)) s = .ok (decide (a < b)) s := rfl
theorem c_le_i (a b : Int) : cmpV .le (.pd (.int a)) (.pd (.int b)) s = .ok (decide (a ≤ b)) s := rfl
theorem c_gt_i (a b : Int) : cmpV .gt (.pd (.int a)) (.pd (.int b)) s = .ok (decide (b < a)) s := rfl
theorem c_ge_i (a b : Int) : cmpV .ge (.pd (.int a)) (.pd (.int b)) s = .ok (decide (b ≤ a)) s := rfl
theorem c_eq_i (a b : Int) : cmpV .eq (.pd (.int a)) (.pd (.int b)) s = .ok (decide (a = b)) s := by
  have : PyData.eqv (.int a) (.int b) = decide (a = b) := by simp [PyData.eqv, Bool.beq_eq_decide_eq]
  simp [cmpV, view, eqR, scl, this]
theorem c_ne_i (a b : Int) : cmpV .ne (.pd (.int a)) (.pd (.int b)) s = .ok (decide (a ≠ b)) s := by
  have : PyData.eqv (.int a) (.int b) = decide (a = b) := by simp [PyData.eqv, Bool.beq_eq_decide_eq]
  simp [cmpV, view, eqR, scl, this, Res.bind]
theorem eqv_s (a b : Str) : PyData.eqv (.str a) (.str b) = decide (a = b) := by
  rw [Bool.eq_iff_iff]
  simp [PyData.eqv]
theorem c_eq_s (a b : Str) : cmpV .eq (.pd (.str a)) (.pd (.str b)) s = .ok (decide (a = b)) s := by
  simp [cmpV, view, eqR, scl, eqv_s]
theorem c_ne_s (a b : Str) : cmpV .ne (.pd (.str a)) (.pd (.str b)) s = .ok (decide (a ≠ b)) s := by
  simp [cmpV, view, eqR, scl, eqv_s, Res.bind]
theorem c_le_s (a b : Str) : cmpV .le (.pd (.str a)) (.pd (.str b)) s = .ok (!decide (b.cps.toList < a.cps.toList)) s := rfl
def isNone (x : D) : Bool := match x with
  | .none => true
  | _ => false
theorem c_is_none (x : D) : cmpV .is (.pd x) (.pd .none) s = .ok (isNone x) s := by cases x <;> simp [cmpV, isNone]
theorem c_isnot_none (x : D) : cmpV .isnot (.pd x) (.pd .none) s = .ok (!isNone x) s := by cases x <;> simp [cmpV, isNone]
theorem c_is_ref (n : Nat) : cmpV .is (.ref n) (.pd .none) s = .ok false s := by simp [cmpV]
theorem c_in_l (k : D) (xs : List D) (h : (flat k && xs.all flat) = true) : cmpV .inn (.pd k) (.pd (.list xs)) s = .ok (xs.any fun z => PyData.eqv z k) s := by
  show (match Dv.pd k, Dv.pd (.list xs) with | _, _ => _) = _
  simp [cmpV, inD, h]
/-! arithmetic -/
theorem a_add_i (a b : Int) : binV .add (.pd (.int a)) (.pd (.int b)) s = .ok (.pd (.int (a + b))) s := rfl
theorem a_sub_i (a b : Int) : binV .sub (.pd (.int a)) (.pd (.int b)) s = .ok (.pd (.int (a - b))) s := rfl
theorem a_mul_i (a b : Int) (h : a.natAbs < big ∨ b.natAbs < big) : binV .mul (.pd (.int a)) (.pd (.int b)) s = .ok (.pd (.int (a * b))) s := by simp [binV, view, binD, h]
theorem a_fdiv_i (a b : Int) (h : 0 < b ∧ b < 1073741824) : binV .fdiv (.pd (.int a)) (.pd (.int b)) s = .ok (.pd (.int (a / b))) s := by
  have : 0 < b ∧ b.natAbs < 1073741824 := ⟨h.1, by omega⟩
  simp [binV, view, binD, this]
theorem a_mod_i (a b : Int) (h : 0 < b) : binV .mod (.pd (.int a)) (.pd (.int b)) s = .ok (.pd (.int (a % b))) s := by simp [binV, view, binD, h]
theorem a_add_s (a b : Str) (h : a.length + b.length ≤ line) : binV .add (.pd (.str a)) (.pd (.str b)) s = .ok (.pd (.str (a ++ b))) s := by simp [binV, view, binD, h]
theorem a_add_l (a b : List D) (h : a.length + b.length ≤ line) : binV .add (.pd (.list a)) (.pd (.list b)) s = .ok (.pd (.list (a ++ b))) s := by simp [binV, view, binD, h]
theorem a_add_t (a b : List D) (h : a.length + b.length ≤ line) : binV .add (.pd (.tuple a)) (.pd (.tuple b)) s = .ok (.pd (.tuple (a ++ b))) s := by simp [binV, view, binD, h]
/-! a comprehension, a loop -/
/-- a comprehension whose turns are known -/
theorem lcL_all {f : D → M (Option D)} {g : D → Option D} {S : Sto} : ∀ (xs acc : List D), (∀ x ∈ xs, f x S = .ok (g x) S) → acc.length + xs.length ≤ line → lcL f xs acc S = .ok (acc ++ xs.filterMap g) S
  | [], acc, _, _ => by simp [lcL]
  | x :: xs, acc, h, hl => by
    have hx := h x (by simp)
    unfold lcL
    rw [hx]
    simp only [List.length_cons] at hl
    cases hg : g x with
    | none =>
      simp only [hg]
      rw [lcL_all xs acc (fun y hy => h y (by simp [hy])) (by omega)]
      simp [hg]
    | some d =>
      simp only [hg]
      rw [if_pos (by omega), lcL_all xs (acc ++ [d]) (fun y hy => h y (by simp [hy])) (by simp; omega)]
      simp [hg]
/-- .. every turn gives an item -/
theorem lcL_map {f : D → M (Option D)} {γ : Type} (k : γ → D) (g : γ → D) {S : Sto} : ∀ (xs : List γ) (acc : List D), (∀ x ∈ xs, f (k x) S = .ok (some (g x)) S) → acc.length + xs.length ≤ line → lcL f (xs.map k) acc S = .ok (acc ++ xs.map g) S
  | [], acc, _, _ => by simp [lcL]
  | x :: xs, acc, h, hl => by
    have hx := h x (by simp)
    rw [List.map_cons]
    unfold lcL
    rw [hx]
    simp only [List.length_cons] at hl
    simp only
    rw [if_pos (by omega), lcL_map k g xs (acc ++ [g x]) (fun y hy => h y (by simp [hy])) (by simp; omega)]
    simp
/-- a loop that keeps a word -/
theorem forL_ind {f : D → Rx.Env → Sto → RS} (P : List D → Rx.Env → Sto → Prop) (Q : RS → Prop) (hn : ∀ env s, P [] env s → Q (.out (.nx env) s))
    (hs : ∀ x xs env s, P (x :: xs) env s → match f x env s with
      | .out (.nx env') s' => P xs env' s'
      | .out (.ct env') s' => P xs env' s'
      | .out (.bk env') s' => Q (.out (.nx env') s')
      | r => Q r) : ∀ xs env s, P xs env s → Q (forL f xs env s)
  | [], env, s, h => hn env s h
  | x :: xs, env, s, h => by
    have := hs x xs env s h
    unfold forL
    cases hr : f x env s with
    | out o s' =>
      rw [hr] at this
      cases o with
      | nx env' => exact forL_ind P Q hn hs xs env' s' this
      | ct env' => exact forL_ind P Q hn hs xs env' s' this
      | bk env' => exact this
      | rt v => exact this
    | exc e env' s' => rw [hr] at this; exact this
    | stuck => rw [hr] at this; exact this
end
end Rx


set_option linter.all false
set_option Elab.async false
set_option maxRecDepth 100000
set_option maxHeartbeats 1000000
/-! Rx, part M2: comprehensions, loops, ends of defs. -/
namespace Rx
open PySem
section
variable {C : List D} {call : Mean}
/-- one turn of a comprehension -/
def lcT (C : List D) (call : Mean) (own : List Nat) (elt : E) (tg : Tg) (ifs : Es) (env : Rx.Env) : D → M (Option D) := fun x s => match denG tg x (wipeE env own) s with
  | .ok env' s => (tests (denTs C call ifs env') s).bind fun k s => if k then ((den C call elt).1 env' s).bind fun v s => (toP v s).bind fun d s => .ok (some d) s else .ok none s
  | .exc e s => .exc e s
  | .stuck => .stuck
theorem lc_den (mu : Bool) (own : List Nat) (elt : E) (tg : Tg) (it : It) (ifs : Es) (env : Rx.Env) (s : Sto) : (den C call (.lc mu own elt tg it ifs)).1 env s = (denI C call it env s).bind fun xs s => (lcL (lcT C call own elt tg ifs env) xs [] s).bind fun ys s => newL mu ys s := by
  rw [den]
  rfl
/-- a comprehension whose turns leave the store -/
theorem lc_map {own : List Nat} {elt : E} {tg : Tg} {it : It} {ifs : Es} {env : Rx.Env} {s s' : Sto} {γ : Type} {xs : List γ} (k g : γ → D) (hi : denI C call it env s = .ok (xs.map k) s')
    (ht : ∀ x ∈ xs, lcT C call own elt tg ifs env (k x) s' = .ok (some (g x)) s') (hl : xs.length ≤ line) : (den C call (.lc false own elt tg it ifs)).1 env s = .ok (.pd (.list (xs.map g))) s' := by
  rw [lc_den, hi, bind_ok, lcL_map k g xs [] ht (by simpa using hl), bind_ok]
  simp [newL, hl]
/-- .. with tests -/
theorem lc_filter {own : List Nat} {elt : E} {tg : Tg} {it : It} {ifs : Es} {env : Rx.Env} {s s' : Sto} {xs : List D} (g : D → Option D) (hi : denI C call it env s = .ok xs s')
    (ht : ∀ x ∈ xs, lcT C call own elt tg ifs env x s' = .ok (g x) s') (hl : xs.length ≤ line) : (den C call (.lc false own elt tg it ifs)).1 env s = .ok (.pd (.list (xs.filterMap g))) s' := by
  rw [lc_den, hi, bind_ok, lcL_all xs [] ht (by simpa using hl), bind_ok]
  have : (xs.filterMap g).length ≤ line := Nat.le_trans (List.length_filterMap_le ..) hl
  simp [newL, this]
/-- turns that change the store, by a word about what is gathered -/
theorem lcL_ind {f : D → M (Option D)} (P : List D → Sto → Prop) : ∀ (xs acc : List D) (s : Sto), P acc s → acc.length + xs.length ≤ line →
    (∀ x ∈ xs, ∀ acc s, P acc s → ∃ d s', f x s = .ok (some d) s' ∧ P (acc ++ [d]) s') → ∃ ys s', lcL f xs acc s = .ok ys s' ∧ P ys s' ∧ ys.length = acc.length + xs.length
  | [], acc, s, hp, _, _ => ⟨acc, s, rfl, hp, rfl⟩
  | x :: xs, acc, s, hp, hl, hs => by
    obtain ⟨d, s', e, hp'⟩ := hs x (by simp) acc s hp
    simp only [List.length_cons] at hl
    obtain ⟨ys, s'', e2, h2, h3⟩ := lcL_ind P xs (acc ++ [d]) s' hp' (by simp; omega) (fun y hy => hs y (List.mem_cons_of_mem _ hy))
    refine ⟨ys, s'', ?_, h2, by rw [h3]; simp; omega⟩
    unfold lcL
    rw [e]
    simp only
    rw [if_pos (by omega), e2]
theorem lc_ind {own : List Nat} {elt : E} {tg : Tg} {it : It} {ifs : Es} {env : Rx.Env} {s s' : Sto} {xs : List D} (P : List D → Sto → Prop) (hi : denI C call it env s = .ok xs s') (h0 : P [] s')
    (ht : ∀ x ∈ xs, ∀ acc s, P acc s → ∃ d s', lcT C call own elt tg ifs env x s = .ok (some d) s' ∧ P (acc ++ [d]) s') (hl : xs.length ≤ line) :
    ∃ ys s'', (den C call (.lc false own elt tg it ifs)).1 env s = .ok (.pd (.list ys)) s'' ∧ P ys s'' ∧ ys.length = xs.length := by
  obtain ⟨ys, s'', e, hp, hn⟩ := lcL_ind P xs [] s' h0 (by simpa using hl) ht
  refine ⟨ys, s'', ?_, hp, by simpa using hn⟩
  rw [lc_den, hi, bind_ok, e, bind_ok]
  have : ys.length ≤ line := by rw [hn]; simpa using hl
  simp [newL, this]
/-- .. that may leave an item out -/
theorem lcL_indo {f : D → M (Option D)} (P : List D → Sto → Prop) : ∀ (xs acc : List D) (s : Sto), P acc s → acc.length + xs.length ≤ line →
    (∀ x ∈ xs, ∀ acc s, P acc s → ∃ o s', f x s = .ok o s' ∧ P (acc ++ o.toList) s') → ∃ ys s', lcL f xs acc s = .ok ys s' ∧ P ys s' ∧ ys.length ≤ acc.length + xs.length
  | [], acc, s, hp, _, _ => ⟨acc, s, rfl, hp, by simp⟩
  | x :: xs, acc, s, hp, hl, hs => by
    obtain ⟨o, s', e, hp'⟩ := hs x (by simp) acc s hp
    simp only [List.length_cons] at hl
    have ho : o.toList.length ≤ 1 := by cases o <;> simp
    obtain ⟨ys, s'', e2, h2, h3⟩ := lcL_indo P xs (acc ++ o.toList) s' hp' (by rw [List.length_append]; omega) (fun y hy => hs y (List.mem_cons_of_mem _ hy))
    refine ⟨ys, s'', ?_, h2, by rw [List.length_append] at h3; simp only [List.length_cons]; omega⟩
    unfold lcL
    rw [e]
    cases o with
    | none => simpa using e2
    | some d =>
      simp only
      rw [if_pos (by omega)]
      simpa using e2
/-- one turn of a for -/
def turn (C : List D) (fl : Nat) (call : Mean) (t : Tg) (b : Ss) : D → Rx.Env → Sto → RS := fun x env s => (denG t x env s).go env fun env' s => denSs C fl call b env' s
theorem it_rng {a : E} {env : Rx.Env} {s s' : Sto} {j : Int} (h : (den C call a).1 env s = .ok (.pd (.int j)) s') (hr : rlim j = true) : denI C call (.rng a) env s = .ok (rngD 0 j.toNat) s' := by
  rw [denI, h, bind_ok]
  show (if rlim j = true then Res.ok (rngD 0 j.toNat) s' else Res.stuck) = _
  rw [if_pos hr]
theorem it_rngN {a : E} {env : Rx.Env} {s s' : Sto} {k : Nat} (h : (den C call a).1 env s = .ok (.pd (.int k)) s') (hr : k ≤ 1000000) : denI C call (.rng a) env s = .ok (rngD 0 k) s' := by
  have := it_rng h (by simp only [rlim, decide_eq_true_eq]; omega)
  rwa [Int.toNat_natCast] at this
theorem it_rng2 {a b : E} {env : Rx.Env} {s s' s'' : Sto} {i j : Int} (h : (den C call a).1 env s = .ok (.pd (.int i)) s') (h2 : (den C call b).1 env s' = .ok (.pd (.int j)) s'') (hr : rlim i = true) (hr2 : rlim j = true) : denI C call (.rng2 a b) env s = .ok (rngD i (j - i).toNat) s'' := by
  rw [denI, h, bind_ok, h2, bind_ok]
  show (if (rlim i && rlim j) = true then Res.ok (rngD i (j - i).toNat) s'' else Res.stuck) = _
  rw [if_pos (by rw [hr, hr2]; rfl)]
theorem it_val {a : E} {env : Rx.Env} {s s' : Sto} {v : Dv} {xs : List D} {s'' : Sto} (h : (den C call a).1 env s = .ok v s') (hw : walkV v s' = .ok xs s'') : denI C call (.val a) env s = .ok xs s'' := by
  rw [denI, h, bind_ok, hw]
theorem it_enum {a : E} {env : Rx.Env} {s s' : Sto} {v : Dv} {xs : List D} {s'' : Sto} (h : (den C call a).1 env s = .ok v s') (hw : walkL v s' = .ok xs s'') : denI C call (.enum a) env s = .ok (enumD 0 xs) s'' := by
  rw [denI, h, bind_ok, hw, bind_ok]
theorem fo_den (fl : Nat) (t : Tg) (it : It) (b : Ss) (env : Rx.Env) (s : Sto) : denS C fl call (.fo t it b) env s = (denI C call it env s).go env fun xs s => forL (turn C fl call t b) xs env s := by
  rw [denS]
  rfl
theorem fo_ok {fl : Nat} {t : Tg} {it : It} {b : Ss} {env : Rx.Env} {s s' : Sto} {xs : List D} {r : RS} (hi : denI C call it env s = .ok xs s') (h : forL (turn C fl call t b) xs env s' = r) : denS C fl call (.fo t it b) env s = r := by
  rw [fo_den, hi]
  exact h
theorem denSs_cons (fl : Nat) (a : St) (r : Ss) (env : Rx.Env) (s : Sto) : denSs C fl call (.cons a r) env s = (denS C fl call a env s).nxt fun env s => denSs C fl call r env s := by rw [denSs]
theorem denSs_nil (fl : Nat) (env : Rx.Env) (s : Sto) : denSs C fl call .nil env s = .out (.nx env) s := by rw [denSs]
/-- a loop that runs through, by a word -/
theorem forL_all {f : D → Rx.Env → Sto → RS} (P : List D → Rx.Env → Sto → Prop) : ∀ (xs pre : List D) (env : Rx.Env) (s : Sto), P pre env s →
    (∀ x ∈ xs, ∀ pre env s, P pre env s → ∃ env' s', (f x env s = .out (.nx env') s' ∨ f x env s = .out (.ct env') s') ∧ P (pre ++ [x]) env' s') → ∃ env' s', forL f xs env s = .out (.nx env') s' ∧ P (pre ++ xs) env' s'
  | [], pre, env, s, hp, _ => ⟨env, s, rfl, by simpa using hp⟩
  | x :: xs, pre, env, s, hp, hs => by
    obtain ⟨env', s', e, hp'⟩ := hs x (by simp) pre env s hp
    obtain ⟨env'', s'', e2, h2⟩ := forL_all P xs (pre ++ [x]) env' s' hp' (fun y hy => hs y (List.mem_cons_of_mem _ hy))
    refine ⟨env'', s'', ?_, by simpa using h2⟩
    unfold forL
    rcases e with e | e <;> rw [e] <;> exact e2
/-- .. by places -/
theorem forL_pos {f : D → Rx.Env → Sto → RS} (P : Nat → Rx.Env → Sto → Prop) (all : List D) (hs : ∀ (i : Nat) (h : i < all.length) (env : Rx.Env) (s : Sto), P i env s → ∃ env' s', (f all[i] env s = .out (.nx env') s' ∨ f all[i] env s = .out (.ct env') s') ∧ P (i + 1) env' s') :
    ∀ (k : Nat) (env : Rx.Env) (s : Sto), k ≤ all.length → P k env s → ∃ env' s', forL f (all.drop k) env s = .out (.nx env') s' ∧ P all.length env' s' := by
  intro k
  generalize hn : all.length - k = n
  induction n generalizing k with
  | zero =>
    intro env s hk hp
    have : k = all.length := by omega
    subst this
    exact ⟨env, s, by rw [List.drop_length]; rfl, hp⟩
  | succ n ih =>
    intro env s hk hp
    have hlt : k < all.length := by omega
    obtain ⟨env', s', e, hp'⟩ := hs k hlt env s hp
    obtain ⟨env'', s'', e2, h2⟩ := ih (k + 1) (by omega) env' s' (by omega) hp'
    refine ⟨env'', s'', ?_, h2⟩
    rw [List.drop_eq_getElem_cons hlt]
    unfold forL
    rcases e with e | e <;> rw [e] <;> exact e2
theorem forL_at {f : D → Rx.Env → Sto → RS} (P : Nat → Rx.Env → Sto → Prop) {all : List D} {env : Rx.Env} {s : Sto} (h0 : P 0 env s) (hs : ∀ (i : Nat) (h : i < all.length) (env : Rx.Env) (s : Sto), P i env s → ∃ env' s', (f all[i] env s = .out (.nx env') s' ∨ f all[i] env s = .out (.ct env') s') ∧ P (i + 1) env' s') :
    ∃ env' s', forL f all env s = .out (.nx env') s' ∧ P all.length env' s' := by
  have := forL_pos P all hs 0 env s (Nat.zero_le _) h0
  rwa [List.drop_zero] at this
/-- .. that may break off -/
theorem forL_bpos {f : D → Rx.Env → Sto → RS} (P : Nat → Rx.Env → Sto → Prop) (Q : Rx.Env → Sto → Prop) (all : List D) (hq : ∀ env s, P all.length env s → Q env s)
    (hs : ∀ (i : Nat) (h : i < all.length) (env : Rx.Env) (s : Sto), P i env s → (∃ env' s', (f all[i] env s = .out (.nx env') s' ∨ f all[i] env s = .out (.ct env') s') ∧ P (i + 1) env' s') ∨ (∃ env' s', f all[i] env s = .out (.bk env') s' ∧ Q env' s')) :
    ∀ (k : Nat) (env : Rx.Env) (s : Sto), k ≤ all.length → P k env s → ∃ env' s', forL f (all.drop k) env s = .out (.nx env') s' ∧ Q env' s' := by
  intro k
  generalize hn : all.length - k = n
  induction n generalizing k with
  | zero =>
    intro env s hk hp
    have : k = all.length := by omega
    subst this
    exact ⟨env, s, by rw [List.drop_length]; rfl, hq _ _ hp⟩
  | succ n ih =>
    intro env s hk hp
    have hlt : k < all.length := by omega
    rw [List.drop_eq_getElem_cons hlt]
    rcases hs k hlt env s hp with ⟨env', s', e, hp'⟩ | ⟨env', s', e, hq'⟩
    · obtain ⟨env'', s'', e2, h2⟩ := ih (k + 1) (by omega) env' s' (by omega) hp'
      refine ⟨env'', s'', ?_, h2⟩
      unfold forL
      rcases e with e | e <;> rw [e] <;> exact e2
    · refine ⟨env', s', ?_, hq'⟩
      unfold forL
      rw [e]
theorem forL_brk {f : D → Rx.Env → Sto → RS} (P : Nat → Rx.Env → Sto → Prop) (Q : Rx.Env → Sto → Prop) {all : List D} {env : Rx.Env} {s : Sto} (h0 : P 0 env s) (hq : ∀ env s, P all.length env s → Q env s)
    (hs : ∀ (i : Nat) (h : i < all.length) (env : Rx.Env) (s : Sto), P i env s → (∃ env' s', (f all[i] env s = .out (.nx env') s' ∨ f all[i] env s = .out (.ct env') s') ∧ P (i + 1) env' s') ∨ (∃ env' s', f all[i] env s = .out (.bk env') s' ∧ Q env' s')) :
    ∃ env' s', forL f all env s = .out (.nx env') s' ∧ Q env' s' := by
  have := forL_bpos P Q all hq hs 0 env s (Nat.zero_le _) h0
  rwa [List.drop_zero] at this
theorem rng_len (lo : Int) (n : Nat) : (rngD lo n).length = n := by simp [rngD]
theorem rng_get (lo : Int) (n i : Nat) (h : i < (rngD lo n).length) : (rngD lo n)[i] = .int (lo + (i : Nat)) := by simp [rngD]
def foB : Ss → Ss
  | .cons (.fo _ _ b) _ => b
  | _ => .nil
def foR : Ss → Ss
  | .cons _ r => r
  | _ => .nil
/-- how a def ends -/
def done (keep : Bool) (n : Nat) (r : RS) : Res Dv := match r with
  | .out (.rt v) s' => leave keep n v s'
  | .out (.nx _) s' => .ok (.pd .none) (s'.take n)
  | .exc e _ s' => .exc e (s'.take n)
  | _ => .stuck
theorem body_done {fl : Nat} {d : Def} {vs : List Dv} {s : Sto} (h : vs.length = d.np) : body C fl call d vs s = done d.keep s.length (denSs C fl call d.body (vs.map some ++ List.replicate (d.names.length - vs.length) none) s) := by
  unfold body
  rw [if_pos h]
  rfl
theorem set_same {γ : Type} {S : List γ} {m : Nat} {c : γ} (hm : S[m]? = some c) : S.set m c = S := List.ext_getElem? fun j => by
  rw [List.getElem?_set]
  split
  · rename_i h
    subst h
    rw [if_pos (List.getElem?_eq_some_iff.mp hm).1]
    exact hm.symm
  · rfl
end
end Rx


set_option linter.all false
set_option Elab.async false
set_option maxRecDepth 100000
set_option maxHeartbeats 1000000
/-! Rx, part W: texts as lists of codes: split and join by one sign. -/
namespace Rx
open PySem
theorem pre_one (s c : Nat) (r : List Nat) : TL.pre [s] (c :: r) = decide (c = s) := by
  by_cases h : c = s
  · subst h; simp [TL.pre]
  · simp [TL.pre, h]
theorem spl_nil1 (s : Nat) (acc : List Nat) : TL.spl [s] 0 acc [] = [acc] := TL.spl_nil ..
theorem spl_cons (s c : Nat) (acc r : List Nat) : TL.spl [s] 0 acc (c :: r) = if c = s then acc :: TL.spl [s] 0 [] r else TL.spl [s] 0 (acc ++ [c]) r := by
  by_cases h : c = s
  · rw [if_pos h, TL.spl_hit (by rw [pre_one]; exact decide_eq_true h)]
    rfl
  · rw [if_neg h, TL.spl_miss (by rw [pre_one]; exact decide_eq_false h)]
theorem spl_ne (s : Nat) : ∀ (l acc : List Nat), TL.spl [s] 0 acc l ≠ []
  | [], acc => by rw [spl_nil1]; simp
  | c :: r, acc => by
    rw [spl_cons]
    split
    · simp
    · exact spl_ne s r _
theorem joinL_cons (s : Nat) (p : List Nat) {r : List (List Nat)} (h : r ≠ []) : TL.joinL [s] (p :: r) = p ++ s :: TL.joinL [s] r := by
  cases r with
  | nil => exact absurd rfl h
  | cons q r => rfl
theorem join_spl_acc (s : Nat) : ∀ (l acc : List Nat), TL.joinL [s] (TL.spl [s] 0 acc l) = acc ++ l
  | [], acc => by rw [spl_nil1, List.append_nil]; rfl
  | c :: r, acc => by
    rw [spl_cons]
    split
    · rename_i h
      rw [joinL_cons s acc (spl_ne s r []), join_spl_acc s r [], h]
      rfl
    · rw [join_spl_acc s r (acc ++ [c])]
      simp
theorem join_spl (s : Nat) (l : List Nat) : TL.joinL [s] (TL.spl [s] 0 [] l) = l := join_spl_acc s l []
theorem spl_free (s : Nat) : ∀ (l acc : List Nat), s ∉ acc → ∀ p ∈ TL.spl [s] 0 acc l, s ∉ p
  | [], acc, ha, p, hp => by
    rw [spl_nil1, List.mem_singleton] at hp
    rw [hp]; exact ha
  | c :: r, acc, ha, p, hp => by
    rw [spl_cons] at hp
    split at hp
    · rcases List.mem_cons.mp hp with hp | hp
      · rw [hp]; exact ha
      · exact spl_free s r [] (by simp) p hp
    · rename_i h
      refine spl_free s r (acc ++ [c]) ?_ p hp
      intro q
      rcases List.mem_append.mp q with q | q
      · exact ha q
      · rw [List.mem_singleton] at q
        exact h q.symm
theorem spl_sum (s : Nat) : ∀ (l acc : List Nat), ((TL.spl [s] 0 acc l).map List.length).sum + (TL.spl [s] 0 acc l).length = acc.length + l.length + 1
  | [], acc => by rw [spl_nil1]; simp
  | c :: r, acc => by
    rw [spl_cons]
    split
    · have := spl_sum s r []
      simp only [List.map_cons, List.sum_cons, List.length_cons, List.length_nil] at this ⊢
      omega
    · have := spl_sum s r (acc ++ [c])
      simp only [List.length_append, List.length_cons, List.length_nil] at this ⊢
      omega
theorem sum_mem : ∀ {l : List Nat} {n : Nat}, n ∈ l → n ≤ l.sum
  | a :: l, n, h => by
    rw [List.sum_cons]
    rcases List.mem_cons.mp h with h | h
    · omega
    · have := sum_mem h
      omega
theorem spl_len (s : Nat) (l : List Nat) : (TL.spl [s] 0 [] l).length ≤ l.length + 1 := by
  have := spl_sum s l []
  simp only [List.length_nil] at this
  omega
theorem spl_len_mem {s : Nat} {l p : List Nat} (h : p ∈ TL.spl [s] 0 [] l) : p.length ≤ l.length := by
  have h1 := spl_sum s l []
  have h2 := sum_mem (List.mem_map_of_mem (f := List.length) h)
  have h3 : 0 < (TL.spl [s] 0 [] l).length := List.length_pos_iff.mpr (spl_ne s l [])
  simp only [List.length_nil] at h1
  omega
theorem joinL_len (s : Nat) : ∀ ps : List (List Nat), ps ≠ [] → (TL.joinL [s] ps).length + 1 = (ps.map List.length).sum + ps.length
  | [], h => absurd rfl h
  | [p], _ => by simp [TL.joinL]
  | p :: q :: r, _ => by
    have := joinL_len s (q :: r) (by simp)
    rw [joinL_cons s p (by simp)]
    simp only [List.length_append, List.length_cons, List.map_cons, List.sum_cons] at this ⊢
    omega
/-- a sign of a joined text is the sign or one of a part -/
theorem joinL_mem (s : Nat) : ∀ {ps : List (List Nat)} {c : Nat}, c ∈ TL.joinL [s] ps → c = s ∨ ∃ p ∈ ps, c ∈ p
  | [], c, h => absurd h (by simp [TL.joinL])
  | [p], c, h => .inr ⟨p, by simp, h⟩
  | p :: q :: r, c, h => by
    rw [joinL_cons s p (by simp)] at h
    rcases List.mem_append.mp h with h | h
    · exact .inr ⟨p, by simp, h⟩
    · rcases List.mem_cons.mp h with h | h
      · exact .inl h
      · rcases joinL_mem s h with h | ⟨z, hz, hc⟩
        · exact .inl h
        · exact .inr ⟨z, List.mem_cons_of_mem _ hz, hc⟩
theorem spl_joinL {s : Nat} {ps : List (List Nat)} (h : ps ≠ []) (hp : ∀ p ∈ ps, s ∉ p) : TL.spl [s] 0 [] (TL.joinL [s] ps) = ps := TL.spl_join h hp
theorem strsD_S : ∀ ws : List (List Nat), strsD (ws.map S) = some (ws.map fun w => (⟨w.toArray⟩ : Str))
  | [] => rfl
  | w :: ws => by
    show (strsD (ws.map S)).map _ = _
    rw [strsD_S ws]
    rfl
theorem sumLen_S (n : Nat) (ws : List (List Nat)) : sumLen n (ws.map fun w => (⟨w.toArray⟩ : Str)) = (ws.map List.length).sum + ws.length * n := by
  unfold sumLen
  rw [List.map_map, List.length_map]
  have e : (List.length ∘ fun w : List Nat => w) = List.length := rfl
  have e2 : ((fun x : Str => x.length) ∘ fun w : List Nat => (⟨w.toArray⟩ : Str)) = List.length := by
    funext w
    simp [Str.length]
  rw [e2]
/-- joined texts -/
theorem m_join_l (a : List Nat) (ws : List (List Nat)) (s : Sto) (h : (ws.map List.length).sum + ws.length * a.length ≤ line) : joinV ⟨a.toArray⟩ (.pd (.list (ws.map S))) s = .ok (.pd (.str ⟨(TL.joinL a ws).toArray⟩)) s := by
  have e : (⟨a.toArray⟩ : Str).length = a.length := by simp [Str.length]
  simp only [joinV, view, strsD_S, sumLen_S, e, h, if_true]
  exact congrArg (fun z => Res.ok (Dv.pd (.str z)) s) (SX.join_S a ws)
theorem m_join_t (a : List Nat) (ws : List (List Nat)) (s : Sto) (h : (ws.map List.length).sum + ws.length * a.length ≤ line) : joinV ⟨a.toArray⟩ (.pd (.tuple (ws.map S))) s = .ok (.pd (.str ⟨(TL.joinL a ws).toArray⟩)) s := by
  have e : (⟨a.toArray⟩ : Str).length = a.length := by simp [Str.length]
  simp only [joinV, view, strsD_S, sumLen_S, e, h, if_true]
  exact congrArg (fun z => Res.ok (Dv.pd (.str z)) s) (SX.join_S a ws)
theorem m_join_r (a : List Nat) (ws : List (List Nat)) {n : Nat} {s : Sto} (hn : s[n]? = some (.lst (ws.map S))) (h : (ws.map List.length).sum + ws.length * a.length ≤ line) : joinV ⟨a.toArray⟩ (.ref n) s = .ok (.pd (.str ⟨(TL.joinL a ws).toArray⟩)) s := by
  have e : (⟨a.toArray⟩ : Str).length = a.length := by simp [Str.length]
  simp only [joinV, view, hn, strsD_S, sumLen_S, e, h, if_true]
  exact congrArg (fun z => Res.ok (Dv.pd (.str z)) s) (SX.join_S a ws)
end Rx


set_option linter.all false
set_option Elab.async false
set_option maxRecDepth 100000
set_option maxHeartbeats 1000000
/-! Rx, part W2: equality of plain data. -/
namespace Rx
open PySem
mutual
/-- numbers, texts of plain signs, None, and rows of such, so deep at most -/
def lay : Nat → D → Bool
  | _, .none => true
  | _, .int _ => true
  | _, .str x => x.cps.toList.all fun c => decide (c < 128)
  | k + 1, .list xs => lays k xs
  | k + 1, .tuple xs => lays k xs
  | _, _ => false
def lays : Nat → List D → Bool
  | _, [] => true
  | k, x :: xs => lay k x && lays k xs
end
mutual
theorem lay_can : ∀ (k : Nat) (x : D), lay k x = true → x.canLay0 = true ∧ x.depth ≤ k
  | _, .none, _ => ⟨rfl, Nat.zero_le _⟩
  | _, .int _, _ => ⟨rfl, Nat.zero_le _⟩
  | _, .str x, h => by
    refine ⟨?_, Nat.zero_le _⟩
    show PyData.strOk x = true
    simp only [lay, List.all_eq_true, decide_eq_true_eq] at h
    unfold PyData.strOk
    rw [← Array.all_toList, List.all_eq_true]
    intro c hc
    have := h c hc
    exact decide_eq_true (by omega)
  | 0, .list xs, h => by simp [lay] at h
  | 0, .tuple xs, h => by simp [lay] at h
  | k + 1, .list xs, h => by
    obtain ⟨h1, h2⟩ := lays_can k xs (by simpa [lay] using h)
    exact ⟨h1, Nat.succ_le_succ h2⟩
  | k + 1, .tuple xs, h => by
    obtain ⟨h1, h2⟩ := lays_can k xs (by simpa [lay] using h)
    exact ⟨h1, Nat.succ_le_succ h2⟩
  | k, .bool _, h => by cases k <;> simp [lay] at h
  | k, .dict _, h => by cases k <;> simp [lay] at h
theorem lays_can : ∀ (k : Nat) (xs : List D), lays k xs = true → PyData.canLayAll0 xs = true ∧ PyData.depthAll xs ≤ k
  | _, [], _ => ⟨rfl, Nat.zero_le _⟩
  | k, x :: xs, h => by
    simp only [lays, Bool.and_eq_true] at h
    obtain ⟨h1, h2⟩ := lay_can k x h.1
    obtain ⟨h3, h4⟩ := lays_can k xs h.2
    exact ⟨by simp [PyData.canLayAll0, h1, h3], by simp [PyData.depthAll]; omega⟩
end
theorem lay_shp {k : Nat} {x : D} (h : lay k x = true) (hk : k ≤ 64) : shp x = true := by
  obtain ⟨h1, h2⟩ := lay_can k x h
  simp [shp, h1]
  omega
theorem lays_all {k : Nat} : ∀ {xs : List D}, (lays k xs = true ↔ ∀ x ∈ xs, lay k x = true)
  | [] => by simp [lays]
  | x :: xs => by simp [lays, lays_all (xs := xs)]
mutual
theorem lay_mono {k : Nat} : ∀ {x : D}, lay k x = true → lay (k + 1) x = true
  | .none, _ => by simp [lay]
  | .int _, _ => by simp [lay]
  | .str x, h => by
    simp only [lay] at h ⊢
    exact h
  | .list xs, h => by
    cases k with
    | zero => simp [lay] at h
    | succ k =>
      simp only [lay] at h ⊢
      exact lays_mono h
  | .tuple xs, h => by
    cases k with
    | zero => simp [lay] at h
    | succ k =>
      simp only [lay] at h ⊢
      exact lays_mono h
  | .bool _, h => by cases k <;> simp [lay] at h
  | .dict _, h => by cases k <;> simp [lay] at h
theorem lays_mono {k : Nat} : ∀ {xs : List D}, lays k xs = true → lays (k + 1) xs = true
  | [], _ => by simp [lays]
  | x :: xs, h => by
    simp only [lays, Bool.and_eq_true] at h ⊢
    exact ⟨lay_mono h.1, lays_mono h.2⟩
end
theorem lay_le {k m : Nat} {x : D} (h : lay k x = true) (hm : k ≤ m) : lay m x = true := by
  induction m with
  | zero => have : k = 0 := by omega
            subst this; exact h
  | succ m ih =>
    by_cases e : k = m + 1
    · subst e; exact h
    · exact lay_mono (ih (by omega))
mutual
/-- equality, where no truth values and dicts stand on the left -/
theorem eqv_lay {k : Nat} : ∀ {x y : D}, lay k x = true → lay k y = true → (PyData.eqv x y = true ↔ x = y)
  | .none, y, _, hy => by cases y <;> simp [PyData.eqv]
  | .int i, y, _, hy => by
    cases y with
    | bool b => cases k <;> simp [lay] at hy
    | _ => simp [PyData.eqv]
  | .str s, y, _, hy => by cases y <;> simp [PyData.eqv]
  | .list xs, y, hx, hy => by
    cases y with
    | list ys =>
      cases k with
      | zero => simp [lay] at hx
      | succ k =>
        simp only [lay] at hx hy
        rw [PyData.eqv]
        rw [eqvs_iff hx hy]
        simp
    | _ => simp [PyData.eqv]
  | .tuple xs, y, hx, hy => by
    cases y with
    | tuple ys =>
      cases k with
      | zero => simp [lay] at hx
      | succ k =>
        simp only [lay] at hx hy
        rw [PyData.eqv]
        rw [eqvs_iff hx hy]
        simp
    | _ => simp [PyData.eqv]
  | .bool _, _, h, _ => by cases k <;> simp [lay] at h
  | .dict _, _, h, _ => by cases k <;> simp [lay] at h
theorem eqvs_iff {k : Nat} : ∀ {xs ys : List D}, lays k xs = true → lays k ys = true → (PyData.eqvAll xs ys = true ↔ xs = ys)
  | [], [], _, _ => by simp [PyData.eqvAll]
  | [], _ :: _, _, _ => by simp [PyData.eqvAll]
  | _ :: _, [], _, _ => by simp [PyData.eqvAll]
  | x :: xs, y :: ys, hx, hy => by
    simp only [lays, Bool.and_eq_true] at hx hy
    simp only [PyData.eqvAll, Bool.and_eq_true, List.cons.injEq]
    rw [eqv_lay hx.1 hy.1, eqvs_iff hx.2 hy.2]
end
theorem eqv_dec {k : Nat} {x y : D} (hx : lay k x = true) (hy : lay k y = true) [Decidable (x = y)] : PyData.eqv x y = decide (x = y) := by
  rw [Bool.eq_iff_iff, decide_eq_true_eq]
  exact eqv_lay hx hy
theorem eqv_ne {k : Nat} {x y : D} (hx : lay k x = true) (hy : lay k y = true) (h : x ≠ y) : PyData.eqv x y = false := by
  cases e : PyData.eqv x y with
  | false => rfl
  | true => exact absurd ((eqv_lay hx hy).mp e) h
theorem eqv_self {k : Nat} {x : D} (hx : lay k x = true) : PyData.eqv x x = true := (eqv_lay hx hx).mpr rfl
/-- x == y, of data -/
theorem c_eq_lay {k : Nat} {x y : D} (hx : lay k x = true) (hy : lay k y = true) (hk : k ≤ 64) [Decidable (x = y)] (s : Sto) : cmpV .eq (.pd x) (.pd y) s = .ok (decide (x = y)) s := by
  simp only [cmpV, view, eqR, lay_shp hx hk, lay_shp hy hk, Bool.and_self, Bool.or_true, if_true, eqv_dec hx hy]
theorem c_ne_lay {k : Nat} {x y : D} (hx : lay k x = true) (hy : lay k y = true) (hk : k ≤ 64) [Decidable (x = y)] (s : Sto) : cmpV .ne (.pd x) (.pd y) s = .ok (!decide (x = y)) s := by
  simp only [cmpV, view, eqR, lay_shp hx hk, lay_shp hy hk, Bool.and_self, Bool.or_true, if_true, eqv_dec hx hy, bind_ok]
theorem S_injD {a b : List Nat} : (S a = S b) = (a = b) := propext ⟨fun h => by
  have h : (⟨a.toArray⟩ : Str) = ⟨b.toArray⟩ := PyData.str.inj h
  exact SX.S_inj h, fun h => by rw [h]⟩
theorem mapS_inj : ∀ {a b : List (List Nat)}, a.map S = b.map S → a = b
  | [], [], _ => rfl
  | [], _ :: _, h => by simp at h
  | _ :: _, [], h => by simp at h
  | x :: a, y :: b, h => by
    simp only [List.map_cons, List.cons.injEq, S_injD] at h
    rw [h.1, mapS_inj h.2]
theorem lay_S {w : List Nat} (h : ∀ c ∈ w, c < 128) (k : Nat) : lay k (S w) = true := by
  simp only [S, lay, List.all_eq_true, decide_eq_true_eq]
  exact h
theorem lays_S {ws : List (List Nat)} (h : ∀ w ∈ ws, ∀ c ∈ w, c < 128) (k : Nat) : lays k (ws.map S) = true := by
  rw [lays_all]
  intro x hx
  obtain ⟨w, hw, rfl⟩ := List.mem_map.mp hx
  exact lay_S (h w hw) k
end Rx


set_option linter.all false
set_option Elab.async false
set_option maxRecDepth 100000
set_option maxHeartbeats 1000000
/-! Rx, part W3: builtins and methods on texts told by their codes (S w), lists and numbers; S stays folded. -/
namespace Rx
open PySem
section
variable {s : Sto}
theorem len_S (w : List Nat) : (⟨w.toArray⟩ : Str).length = w.length := by simp [Str.length]
theorem str_inj (a b : List Nat) : ((⟨a.toArray⟩ : Str) = ⟨b.toArray⟩) = (a = b) := propext ⟨fun h => SX.S_inj h, fun h => by rw [h]⟩
/-! methods: the receiver -/
theorem t_spl (w : List Nat) : mthT .split (.pd (S w)) s = true := rfl
theorem t_par (w : List Nat) : mthT .partition (.pd (S w)) s = true := rfl
theorem t_sta (w : List Nat) : mthT .startswith (.pd (S w)) s = true := rfl
theorem t_joi (w : List Nat) : mthT .join (.pd (S w)) s = true := rfl
theorem t_app {n : Nat} {xs : List D} (h : s[n]? = some (.lst xs)) : mthT .append (.ref n) s = true := by simp only [mthT, h]
theorem t_ext {n : Nat} {xs : List D} (h : s[n]? = some (.lst xs)) : mthT .extend (.ref n) s = true := by simp only [mthT, h]
/-! methods: what they tell -/
theorem v_spl (c : Nat) (hc : c < 256) (w : List Nat) (h : w.length + 2 ≤ line) : mthV .split (.pd (S w)) [.pd (S [c])] s = .ok (.pd (.list ((TL.spl [c] 0 [] w).map S))) s := by
  have h2 : ([c].length == 0) = false := by simp
  have e2 := SX.split_S (a := w) (b := [c]) (by simp) (by simp [hc])
  have e2 : Txt.split ⟨w.toArray⟩ ⟨[c].toArray⟩ = (TL.spl [c] 0 [] w).map fun z => (⟨z.toArray⟩ : Str) := e2
  have e : ((TL.spl [c] 0 [] w).map fun w => (⟨w.toArray⟩ : Str)).map PyData.str = (TL.spl [c] 0 [] w).map S := by rw [List.map_map]; rfl
  simp only [S, mthV, mth1, str1V, len_S, h, h2, and_self, if_true, e2, e]
theorem v_joi_l (a : List Nat) (ws : List (List Nat)) (h : (ws.map List.length).sum + ws.length * a.length ≤ line) : mthV .join (.pd (S a)) [.pd (.list (ws.map S))] s = .ok (.pd (S (TL.joinL a ws))) s := m_join_l a ws s h
theorem v_joi_t (a : List Nat) (ws : List (List Nat)) (h : (ws.map List.length).sum + ws.length * a.length ≤ line) : mthV .join (.pd (S a)) [.pd (.tuple (ws.map S))] s = .ok (.pd (S (TL.joinL a ws))) s := m_join_t a ws s h
theorem v_joi_r (a : List Nat) (ws : List (List Nat)) {n : Nat} (hn : s[n]? = some (.lst (ws.map S))) (h : (ws.map List.length).sum + ws.length * a.length ≤ line) : mthV .join (.pd (S a)) [.ref n] s = .ok (.pd (S (TL.joinL a ws))) s := m_join_r a ws hn h
theorem v_app {n : Nat} {xs : List D} (x : D) (h : s[n]? = some (.lst xs)) (hl : xs.length < line) : mthV .append (.ref n) [.pd x] s = .ok (.pd .none) (s.set n (.lst (xs ++ [x]))) := by
  simp only [mthV, mth1, toP, bind_ok, appC, h, hl, if_true]
/-! builtins -/
theorem f_len_s {w : List Nat} (h : w.length ≤ line) : bltV .len [.pd (S w)] s = .ok (.pd (.int w.length)) s := by
  simp only [S, bltV, blt1, lenV, view, len_S, h, if_true]
theorem f_len_l (xs : List D) : bltV .len [.pd (.list xs)] s = .ok (.pd (.int xs.length)) s := rfl
theorem f_len_t (xs : List D) : bltV .len [.pd (.tuple xs)] s = .ok (.pd (.int xs.length)) s := rfl
theorem f_len_r {n : Nat} {xs : List D} (h : s[n]? = some (.lst xs)) : bltV .len [.ref n] s = .ok (.pd (.int xs.length)) s := by simp only [bltV, blt1, lenV, view, h]
theorem f_len_z {n : Nat} {xs : List D} (h : s[n]? = some (.fzl xs)) : bltV .len [.ref n] s = .ok (.pd (.int xs.length)) s := by simp only [bltV, blt1, lenV, view, h]
theorem f_int_i (i : Int) : bltV .int [.pd (.int i)] s = .ok (.pd (.int i)) s := rfl
theorem f_int_b (b : Bool) : bltV .int [.pd (.bool b)] s = .ok (.pd (.int (if b then 1 else 0))) s := rfl
theorem f_str_s (w : List Nat) : bltV .str [.pd (S w)] s = .ok (.pd (S w)) s := rfl
theorem f_tup_l (xs : List D) : bltV .tuple [.pd (.list xs)] s = .ok (.pd (.tuple xs)) s := rfl
theorem f_tup_t (xs : List D) : bltV .tuple [.pd (.tuple xs)] s = .ok (.pd (.tuple xs)) s := rfl
theorem f_tup_r {n : Nat} {xs : List D} (h : s[n]? = some (.lst xs)) : bltV .tuple [.ref n] s = .ok (.pd (.tuple xs)) s := by simp only [bltV, blt1, tupleV, view, h]
theorem f_lst_l (xs : List D) : bltV .list [.pd (.list xs)] s = .ok (.pd (.list xs)) s := rfl
theorem f_lst_t (xs : List D) : bltV .list [.pd (.tuple xs)] s = .ok (.pd (.list xs)) s := rfl
theorem f_lst_k (xs : List D) : bltV .list [.lck xs] s = .ok (.pd (.list xs)) s := rfl
theorem f_abs (i : Int) : bltV .abs [.pd (.int i)] s = .ok (.pd (.int (if i < 0 then -i else i))) s := rfl
theorem f_max2 (i j : Int) : bltV .max2 [.pd (.int i), .pd (.int j)] s = .ok (.pd (.int (if j > i then j else i))) s := rfl
theorem f_min2 (i j : Int) : bltV .min2 [.pd (.int i), .pd (.int j)] s = .ok (.pd (.int (if j < i then j else i))) s := rfl
/-! operators -/
theorem a_add_S (a b : List Nat) (h : a.length + b.length ≤ line) : binV .add (.pd (S a)) (.pd (S b)) s = .ok (.pd (S (a ++ b))) s := by
  have e : (⟨a.toArray⟩ : Str) ++ ⟨b.toArray⟩ = ⟨(a ++ b).toArray⟩ := SX.S_cat a b
  simp only [S, binV, view, binD, len_S, h, if_true, e]
theorem a_mul_S (a : List Nat) (k : Int) (h : 0 ≤ k ∧ k.natAbs < half ∧ a.length * k.toNat ≤ line) : binV .mul (.pd (S a)) (.pd (.int k)) s = .ok (.pd (S (rep a k))) s := by
  simp only [S, binV, view, binD, len_S, h, and_self, if_true]
theorem a_add_rl {n : Nat} {xs : List D} (ys : List D) (h : s[n]? = some (.lst xs)) (hl : xs.length + ys.length ≤ line) : binV .add (.ref n) (.pd (.list ys)) s = .ok (.pd (.list (xs ++ ys))) s := by
  simp only [binV, view, h, binD, hl, if_true]
theorem a_add_lr {n : Nat} {ys : List D} (xs : List D) (h : s[n]? = some (.lst ys)) (hl : xs.length + ys.length ≤ line) : binV .add (.pd (.list xs)) (.ref n) s = .ok (.pd (.list (xs ++ ys))) s := by
  simp only [binV, view, h, binD, hl, if_true]
theorem c_eq_S (a b : List Nat) : cmpV .eq (.pd (S a)) (.pd (S b)) s = .ok (decide (a = b)) s := by
  simp only [S, cmpV, view, eqR, scl, Bool.true_or, if_true, eqv_s, str_inj]
theorem c_ne_S (a b : List Nat) : cmpV .ne (.pd (S a)) (.pd (S b)) s = .ok (!decide (a = b)) s := by
  simp only [S, cmpV, view, eqR, scl, Bool.true_or, if_true, eqv_s, str_inj, bind_ok]
theorem c_eq_yes {k : Nat} {x : D} (h : lay k x = true) (hk : k ≤ 64) (s : Sto) : cmpV .eq (.pd x) (.pd x) s = .ok true s := by
  simp only [cmpV, view, eqR, lay_shp h hk, Bool.and_self, Bool.or_true, if_true, eqv_self h]
theorem c_eq_no {k : Nat} {x y : D} (h : lay k x = true) (h2 : lay k y = true) (hk : k ≤ 64) (e : x ≠ y) (s : Sto) : cmpV .eq (.pd x) (.pd y) s = .ok false s := by
  simp only [cmpV, view, eqR, lay_shp h hk, lay_shp h2 hk, Bool.and_self, Bool.or_true, if_true, eqv_ne h h2 e]
theorem c_ne_yes {k : Nat} {x : D} (h : lay k x = true) (hk : k ≤ 64) (s : Sto) : cmpV .ne (.pd x) (.pd x) s = .ok false s := by
  simp only [cmpV, view, eqR, lay_shp h hk, Bool.and_self, Bool.or_true, if_true, eqv_self h, bind_ok, Bool.not_true]
theorem c_ne_no {k : Nat} {x y : D} (h : lay k x = true) (h2 : lay k y = true) (hk : k ≤ 64) (e : x ≠ y) (s : Sto) : cmpV .ne (.pd x) (.pd y) s = .ok true s := by
  simp only [cmpV, view, eqR, lay_shp h hk, lay_shp h2 hk, Bool.and_self, Bool.or_true, if_true, eqv_ne h h2 e, bind_ok, Bool.not_false]
/-! items -/
theorem i_t {xs : List D} {i : Int} {v : D} (h0 : 0 ≤ i) (h : xs[i.toNat]? = some v) : idxV (.pd (.tuple xs)) (.pd (.int i)) s = .ok (.pd v) s := by
  have hl : i.toNat < xs.length := (List.getElem?_eq_some_iff.mp h).1
  simp only [idxV, atL, L2.ixN, h0, if_true, show i < (xs.length : Int) by omega, Option.bind_some, h]
theorem i_l {xs : List D} {i : Int} {v : D} (h0 : 0 ≤ i) (h : xs[i.toNat]? = some v) : idxV (.pd (.list xs)) (.pd (.int i)) s = .ok (.pd v) s := by
  have hl : i.toNat < xs.length := (List.getElem?_eq_some_iff.mp h).1
  simp only [idxV, atL, L2.ixN, h0, if_true, show i < (xs.length : Int) by omega, Option.bind_some, h]
theorem i_r {n : Nat} {xs : List D} {i : Int} {v : D} (hn : s[n]? = some (.lst xs)) (h0 : 0 ≤ i) (h : xs[i.toNat]? = some v) : idxV (.ref n) (.pd (.int i)) s = .ok (.pd v) s := by
  have hl : i.toNat < xs.length := (List.getElem?_eq_some_iff.mp h).1
  simp only [idxV, hn, atC, atL, L2.ixN, h0, if_true, show i < (xs.length : Int) by omega, Option.bind_some, h]
theorem i_s {w : List Nat} {i : Int} {c : Nat} (hw : w.length ≤ line) (h0 : 0 ≤ i) (h : w[i.toNat]? = some c) : idxV (.pd (S w)) (.pd (.int i)) s = .ok (.pd (S [c])) s := by
  have hl : i.toNat < w.length := (List.getElem?_eq_some_iff.mp h).1
  simp only [S, idxV, atS, len_S, hw, if_true, L2.ixN, h0, show i < (w.length : Int) by omega, Option.bind_some, h]
theorem cut_from {α : Type} (xs : List α) {k : Int} (h : 0 ≤ k) : cut xs (some k) none = xs.drop k.toNat := by
  obtain ⟨k, rfl⟩ := Int.eq_ofNat_of_zero_le h
  unfold cut
  rw [HT.sIx_nat, HT.sIx_none]
  show _ = xs.drop k
  by_cases h : k ≤ xs.length
  · rw [Nat.min_eq_left h, List.take_of_length_le (by rw [List.length_drop]; omega)]
  · rw [Nat.min_eq_right (by omega), List.drop_length, List.drop_eq_nil_of_le (by omega)]
    simp
theorem cut_to {α : Type} (xs : List α) {k : Int} (h : 0 ≤ k) : cut xs none (some k) = xs.take k.toNat := by
  obtain ⟨k, rfl⟩ := Int.eq_ofNat_of_zero_le h
  unfold cut
  rw [HT.sIx_nat, HT.sIx_none, List.drop_zero, Nat.sub_zero]
  show _ = xs.take k
  by_cases h : k ≤ xs.length
  · rw [Nat.min_eq_left h]
  · rw [Nat.min_eq_right (by omega), List.take_of_length_le (by omega), List.take_of_length_le (by omega)]
theorem z_s {w : List Nat} (l h : Option Int) (hl : w.length ≤ line) : slcI (.pd (S w)) l h s = .ok (.pd (S (cut w l h))) s := by
  simp only [S, slcI, view, len_S, hl, if_true]
theorem z_l (xs : List D) (l h : Option Int) : slcI (.pd (.list xs)) l h s = .ok (.pd (.list (cut xs l h))) s := rfl
theorem z_t (xs : List D) (l h : Option Int) : slcI (.pd (.tuple xs)) l h s = .ok (.pd (.tuple (cut xs l h))) s := rfl
theorem z_r {n : Nat} {xs : List D} (hn : s[n]? = some (.lst xs)) (l h : Option Int) : slcI (.ref n) l h s = .ok (.pd (.list (cut xs l h))) s := by simp only [slcI, view, hn]
end
theorem cut_map {α β : Type} (f : α → β) (xs : List α) (l h : Option Int) : cut (xs.map f) l h = (cut xs l h).map f := by
  unfold cut
  rw [List.length_map, List.map_take, List.map_drop]
end Rx


set_option linter.all false
set_option Elab.async false
set_option maxRecDepth 100000
set_option maxHeartbeats 1000000
/-! Rx, part W4: lists of texts: slices and sums. -/
namespace Rx
open PySem
section
variable {s : Sto}
theorem zt (ws : List (List Nat)) (k : Nat) : slcI (.pd (.list (ws.map S))) none (some (k : Int)) s = .ok (.pd (.list ((ws.take k).map S))) s := by
  rw [z_l, cut_map, cut_to _ (by omega), Int.toNat_natCast]
theorem zt1 (ws : List (List Nat)) (k : Nat) : slcI (.pd (.list (ws.map S))) none (some ((k : Int) + 1)) s = .ok (.pd (.list ((ws.take (k + 1)).map S))) s := zt ws (k + 1)
theorem zd (ws : List (List Nat)) (k : Nat) : slcI (.pd (.list (ws.map S))) (some (k : Int)) none s = .ok (.pd (.list ((ws.drop k).map S))) s := by
  rw [z_l, cut_map, cut_from _ (by omega), Int.toNat_natCast]
theorem zd1 (ws : List (List Nat)) (k : Nat) : slcI (.pd (.list (ws.map S))) (some ((k : Int) + 1)) none s = .ok (.pd (.list ((ws.drop (k + 1)).map S))) s := zd ws (k + 1)
theorem zd3 (ws : List (List Nat)) (k : Nat) : slcI (.pd (.list (ws.map S))) (some ((k : Int) + 3)) none s = .ok (.pd (.list ((ws.drop (k + 3)).map S))) s := zd ws (k + 3)
theorem ll (a b : List (List Nat)) (h : a.length + b.length ≤ line) : binV .add (.pd (.list (a.map S))) (.pd (.list (b.map S))) s = .ok (.pd (.list ((a ++ b).map S))) s := by
  rw [a_add_l _ _ (by simpa using h), List.map_append]
theorem ll1 (a : List (List Nat)) (x : List Nat) (h : a.length + 1 ≤ line) : binV .add (.pd (.list (a.map S))) (.pd (.list [S x])) s = .ok (.pd (.list ((a ++ [x]).map S))) s := ll a [x] (by simpa using h)
theorem ll2 (a : List (List Nat)) (x y : List Nat) (h : a.length + 2 ≤ line) : binV .add (.pd (.list (a.map S))) (.pd (.list [S x, S y])) s = .ok (.pd (.list ((a ++ [x, y]).map S))) s := ll a [x, y] (by simpa using h)
theorem il {ws : List (List Nat)} {i : Nat} (h : i < ws.length) : idxV (.pd (.list (ws.map S))) (.pd (.int i)) s = .ok (.pd (S ws[i])) s := i_l (by omega) (by rw [Int.toNat_natCast, List.getElem?_map, List.getElem?_eq_getElem h]; rfl)
theorem len_ll (ws : List (List Nat)) : bltV .len [.pd (.list (ws.map S))] s = .ok (.pd (.int ws.length)) s := by rw [f_len_l, List.length_map]
theorem sum_bnd (k : Nat) (ws : List (List Nat)) (h : ∀ w ∈ ws, w.length ≤ k) : (ws.map List.length).sum ≤ k * ws.length := by
  induction ws with
  | nil => simp
  | cons w ws ih =>
    have h1 := h w (by simp)
    have h2 := ih fun x hx => h x (List.mem_cons_of_mem _ hx)
    rw [List.map_cons, List.sum_cons, List.length_cons, Nat.mul_succ]
    omega
theorem joinL_bnd (c k : Nat) (ws : List (List Nat)) (h : ∀ w ∈ ws, w.length ≤ k) : (TL.joinL [c] ws).length ≤ (k + 1) * ws.length := by
  cases ws with
  | nil => simp [TL.joinL]
  | cons w ws =>
    have h1 := sum_bnd k (w :: ws) h
    have h2 := joinL_len c (w :: ws) (by simp)
    rw [Nat.add_mul, Nat.one_mul]
    omega
theorem jj {c k m : Nat} (ws : List (List Nat)) (h : ∀ w ∈ ws, w.length ≤ k) (hm : ws.length ≤ m) (hl : (k + 1) * m ≤ line) : mthV .join (.pd (S [c])) [.pd (.list (ws.map S))] s = .ok (.pd (S (TL.joinL [c] ws))) s := by
  refine v_joi_l [c] ws ?_
  have h1 := sum_bnd k ws h
  have h2 : (k + 1) * ws.length ≤ (k + 1) * m := Nat.mul_le_mul_left _ hm
  rw [Nat.add_mul, Nat.one_mul] at h2
  simp only [List.length_cons, List.length_nil]
  omega
theorem joinL_free {c d : Nat} (hd : d ≠ c) {ws : List (List Nat)} (h : ∀ w ∈ ws, d ∉ w) : d ∉ TL.joinL [c] ws := fun hm => by
  rcases joinL_mem c hm with e | ⟨w, hw, e⟩
  · exact hd e
  · exact h w hw e
end
end Rx


set_option linter.all false
set_option maxRecDepth 100000
/-! printed by gen.py from the law's module -/
namespace K61
open PySem Rx
def b0 : Ss := (.cons (.ret (.bop true (.cons (.isi (.var 0) ["int"]) (.cons (.notv (.isi (.var 0) ["bool"])) .nil))))
  .nil)
def d0 : Def := ⟨"is_integer", (["value"] : List String).map Str.ofString, 1, false, b0⟩
def b1 : Ss := (.cons (.ret (.bop true (.cons (.call 0 (.cons (.var 0) .nil)) (.cons (.cmp .le (.var 1) (.var 0)) (.cons (.bop false (.cons (.cmp .is (.var 2) (.cst .non)) (.cons (.cmp .le (.var 0) (.var 2)) .nil))) .nil)))))
  .nil)
def d1 : Def := ⟨"is_between", (["value", "low", "high"] : List String).map Str.ofString, 3, false, b1⟩
def b2 : Ss := (.cons (.ite (.bop false (.cons (.notv (.isi (.var 0) ["str"])) (.cons (.notv (.chn .le .le (.cst (.int (1))) (.blt .len (.cons (.var 0) .nil)) (.cst (.int (12))))) .nil))) (.cons (.ret (.cst (.bl false)))
  .nil) .nil)
  (.cons (.ret (.blt .all (.cons (.lc false [1] (.chn .le .le (.cst (.str [97])) (.var 1) (.cst (.str [122]))) (.name 1) (.val (.var 0)) .nil) .nil)))
  .nil))
def d2 : Def := ⟨"is_name", (["value", "sign"] : List String).map Str.ofString, 1, false, b2⟩
def b3 : Ss := (.cons (.ret (.bop true (.cons (.cmp .ne (.var 0) (.cst (.str []))) (.cons (.blt .all (.cons (.lc false [1] (.chn .le .le (.cst (.str [48])) (.var 1) (.cst (.str [57]))) (.name 1) (.val (.var 0)) .nil) .nil)) .nil))))
  .nil)
def d3 : Def := ⟨"is_figures", (["text", "sign"] : List String).map Str.ofString, 1, false, b3⟩
def b4 : Ss := (.cons (.ret (.blt .all (.cons (.lc false [1] (.cmp .lt (.idx (.var 0) (.var 1)) (.idx (.var 0) (.bin .add (.var 1) (.cst (.int (1)))))) (.name 1) (.rng (.bin .sub (.blt .len (.cons (.var 0) .nil)) (.cst (.int (1))))) .nil) .nil)))
  .nil)
def d4 : Def := ⟨"is_ascending", (["row", "at"] : List String).map Str.ofString, 1, false, b4⟩
def b5 : Ss := (.cons (.ret (.bop false (.cons (.cmp .is (.var 0) (.cst .non)) (.cons (.call 0 (.cons (.var 0) .nil)) .nil))))
  .nil)
def d5 : Def := ⟨"is_bound", (["value"] : List String).map Str.ofString, 1, false, b5⟩
def b6 : Ss := (.cons (.ite (.bop false (.cons (.notv (.isi (.var 0) ["tuple"])) (.cons (.cmp .ne (.blt .len (.cons (.var 0) .nil)) (.cst (.int (2)))) .nil))) (.cons (.ret (.cst (.bl false)))
  .nil) .nil)
  (.cons (.asg (.tup (.cons (.name 1) (.cons (.name 2) .nil))) (.var 0))
  (.cons (.ite (.cmp .is (.var 1) (.cst .non)) (.cons (.ret (.bop true (.cons (.call 0 (.cons (.var 2) .nil)) (.cons (.cmp .eq (.var 2) (.cst (.int (0)))) .nil))))
  .nil) .nil)
  (.cons (.ret (.bop true (.cons (.call 0 (.cons (.var 1) .nil)) (.cons (.call 0 (.cons (.var 2) .nil)) .nil))))
  .nil))))
def d6 : Def := ⟨"_is_pair", (["pair", "value", "step"] : List String).map Str.ofString, 1, false, b6⟩
def b7 : Ss := (.cons (.ite (.bop false (.cons (.notv (.isi (.var 0) ["tuple"])) (.cons (.cmp .ne (.blt .len (.cons (.var 0) .nil)) (.cst (.int (2)))) .nil))) (.cons (.ret (.cst (.str [102, 111, 114, 109])))
  .nil) .nil)
  (.cons (.asg (.tup (.cons (.name 1) (.cons (.name 2) .nil))) (.var 0))
  (.cons (.ite (.bop false (.cons (.notv (.isi (.var 1) ["tuple"])) (.cons (.notv (.isi (.var 2) ["tuple"])) .nil))) (.cons (.ret (.cst (.str [102, 111, 114, 109])))
  .nil) .nil)
  (.cons (.ite (.bop false (.cons (.cmp .gt (.blt .len (.cons (.var 1) .nil)) (.gbl 0)) (.cons (.notv (.blt .all (.cons (.lc false [3] (.call 5 (.cons (.var 3) .nil)) (.name 3) (.val (.var 1)) .nil) .nil))) .nil))) (.cons (.ret (.cst (.str [104, 101, 97, 100])))
  .nil) .nil)
  (.cons (.ite (.bop false (.cons (.notv (.chn .le .le (.cst (.int (1))) (.blt .len (.cons (.var 2) .nil)) (.gbl 1))) (.cons (.notv (.blt .all (.cons (.lc false [4] (.call 6 (.cons (.var 4) .nil)) (.name 4) (.val (.var 2)) .nil) .nil))) .nil))) (.cons (.ret (.cst (.str [116, 97, 105, 108])))
  .nil) .nil)
  (.cons (.ret (.cst .non))
  .nil))))))
def d7 : Def := ⟨"form_fault", (["form", "head", "tail", "value", "pair"] : List String).map Str.ofString, 1, false, b7⟩
def b8 : Ss := (.cons (.ite (.bop false (.cons (.notv (.isi (.var 0) ["tuple"])) (.cons (.notv (.chn .le .le (.cst (.int (1))) (.blt .len (.cons (.var 0) .nil)) (.cst (.int (12))))) .nil))) (.cons (.ret (.cst (.bl false)))
  .nil) .nil)
  (.cons (.ret (.bop true (.cons (.blt .all (.cons (.lc false [1] (.call 1 (.cons (.var 1) (.cons (.cst (.int (1))) (.cons (.cst (.int (1000))) .nil)))) (.name 1) (.val (.var 0)) .nil) .nil)) (.cons (.call 4 (.cons (.var 0) .nil)) .nil))))
  .nil))
def d8 : Def := ⟨"is_values", (["values", "value"] : List String).map Str.ofString, 1, false, b8⟩
def b9 : Ss := (.cons (.ite (.cmp .eq (.idx (.var 0) (.cst (.int (0)))) (.cst (.str [102, 111, 114, 109]))) (.cons (.ret (.cmp .is (.call 7 (.cons (.idx (.var 0) (.cst (.int (1)))) .nil)) (.cst .non)))
  .nil) .nil)
  (.cons (.ite (.cmp .eq (.idx (.var 0) (.cst (.int (0)))) (.cst (.str [110, 97, 109, 101]))) (.cons (.ret (.call 2 (.cons (.idx (.var 0) (.cst (.int (1)))) .nil)))
  .nil) .nil)
  (.cons (.ret (.bop true (.cons (.cmp .eq (.idx (.var 0) (.cst (.int (0)))) (.cst (.str [102, 101, 119, 101, 115, 116]))) (.cons (.call 8 (.cons (.idx (.var 0) (.cst (.int (1)))) .nil)) .nil))))
  .nil)))
def d9 : Def := ⟨"_is_leaf", (["row"] : List String).map Str.ofString, 1, false, b9⟩
def b10 : Ss := (.cons (.ite (.bop false (.cons (.notv (.isi (.var 0) ["tuple"])) (.cons (.cmp .lt (.blt .len (.cons (.var 0) .nil)) (.cst (.int (2)))) .nil))) (.cons (.ret (.cst (.bl false)))
  .nil) .nil)
  (.cons (.ite (.cmp .eq (.blt .len (.cons (.var 0) .nil)) (.cst (.int (2)))) (.cons (.ret (.bop false (.cons (.cmp .eq (.idx (.var 0) (.cst (.int (0)))) (.cst (.str [102, 114, 111, 109]))) (.cons (.call 9 (.cons (.var 0) .nil)) .nil))))
  .nil) .nil)
  (.cons (.ite (.cmp .eq (.blt .len (.cons (.var 0) .nil)) (.cst (.int (4)))) (.cons (.ret (.bop true (.cons (.cmp .eq (.idx (.var 0) (.cst (.int (0)))) (.cst (.str [119, 104, 101, 114, 101]))) (.cons (.call 5 (.cons (.idx (.var 0) (.cst (.int (2)))) .nil)) (.cons (.call 5 (.cons (.idx (.var 0) (.cst (.int (3)))) .nil)) .nil)))))
  .nil) .nil)
  (.cons (.ite (.cmp .ne (.blt .len (.cons (.var 0) .nil)) (.cst (.int (3)))) (.cons (.ret (.cst (.bl false)))
  .nil) .nil)
  (.cons (.ite (.cmp .eq (.idx (.var 0) (.cst (.int (0)))) (.cst (.str [100, 105, 118, 105, 100, 101, 100]))) (.cons (.ret (.call 1 (.cons (.idx (.var 0) (.cst (.int (2)))) (.cons (.cst (.int (1))) (.cons (.cst (.int (1000))) .nil)))))
  .nil) .nil)
  (.cons (.ite (.cmp .inn (.idx (.var 0) (.cst (.int (0)))) (.tup (.cons (.cst (.str [116, 105, 109, 101, 115])) (.cons (.cst (.str [109, 111, 118, 101, 100])) .nil)))) (.cons (.ret (.call 0 (.cons (.idx (.var 0) (.cst (.int (2)))) .nil)))
  .nil) .nil)
  (.cons (.ret (.cmp .inn (.idx (.var 0) (.cst (.int (0)))) (.gbl 2)))
  .nil)))))))
def d10 : Def := ⟨"is_right_row", (["row"] : List String).map Str.ofString, 1, false, b10⟩
def b11 : Ss := (.cons (.ite (.cmp .inn (.idx (.var 0) (.cst (.int (0)))) (.gbl 2)) (.cons (.ret (.slc (.var 0) (.some (.cst (.int (1)))) (.some (.cst (.int (3))))))
  .nil) .nil)
  (.cons (.ite (.cmp .inn (.idx (.var 0) (.cst (.int (0)))) (.gbl 3)) (.cons (.ret (.slc (.var 0) (.some (.cst (.int (1)))) (.some (.cst (.int (2))))))
  .nil) .nil)
  (.cons (.ret (.tup .nil))
  .nil)))
def d11 : Def := ⟨"inner_of", (["row"] : List String).map Str.ofString, 1, false, b11⟩
def b12 : Ss := (.cons (.asg (.name 1) (.lst true (.cons (.var 0) .nil)))
  (.cons (.fo (.name 2) (.val (.call 11 (.cons (.var 0) .nil))) (.cons (.exp (.mth .extend (.var 1) (.cons (.call 12 (.cons (.var 2) .nil)) .nil)))
  .nil))
  (.cons (.ret (.blt .tuple (.cons (.var 1) .nil)))
  .nil)))
def d12 : Def := ⟨"tuples_of", (["formula", "found", "inner"] : List String).map Str.ofString, 1, false, b12⟩
def b13 : Ss := (.cons (.ite (.notv (.blt .all (.cons (.lc false [2] (.chn .le .le (.cst (.str [32])) (.var 2) (.cst (.str [126]))) (.name 2) (.val (.var 0)) .nil) .nil))) (.cons (.ret (.cst .non))
  .nil) .nil)
  (.cons (.asg (.name 1) (.mth .split (.var 0) (.cons (.cst (.str [32])) .nil)))
  (.cons (.ite (.cmp .inn (.cst (.str [])) (.var 1)) (.cons (.ret (.cst .non))
  .nil) .nil)
  (.cons (.ret (.var 1))
  .nil))))
def d13 : Def := ⟨"words_of", (["line", "words", "sign"] : List String).map Str.ofString, 1, false, b13⟩
def b14 : Ss := (.cons (.asg (.name 1) (.ifx (.mth .startswith (.var 0) (.cons (.cst (.str [45])) .nil)) (.slc (.var 0) (.some (.cst (.int (1)))) .none) (.var 0)))
  (.cons (.ite (.bop false (.cons (.cmp .gt (.blt .len (.cons (.var 0) .nil)) (.gbl 4)) (.cons (.notv (.call 3 (.cons (.var 1) .nil))) .nil))) (.cons (.ret (.cst .non))
  .nil) .nil)
  (.cons (.ite (.cmp .ne (.blt .str (.cons (.blt .int (.cons (.var 0) .nil)) .nil)) (.var 0)) (.cons (.ret (.cst .non))
  .nil) .nil)
  (.cons (.ret (.blt .int (.cons (.var 0) .nil)))
  .nil))))
def d14 : Def := ⟨"integer_of", (["word", "figures"] : List String).map Str.ofString, 1, false, b14⟩
def b15 : Ss := (.cons (.ite (.cmp .eq (.var 0) (.var 1)) (.cons (.ret (.cst .non))
  .nil) .nil)
  (.cons (.asg (.name 2) (.call 14 (.cons (.var 0) .nil)))
  (.cons (.ret (.ifx (.cmp .is (.var 2) (.cst .non)) (.var 0) (.var 2)))
  .nil)))
def d15 : Def := ⟨"optional_of", (["word", "none", "number"] : List String).map Str.ofString, 2, false, b15⟩
def b16 : Ss := (.cons (.ite (.cmp .is (.var 0) (.cst .non)) (.cons (.ret (.var 1))
  .nil) .nil)
  (.cons (.ret (.blt .str (.cons (.var 0) .nil)))
  .nil))
def d16 : Def := ⟨"optional_word", (["number", "none"] : List String).map Str.ofString, 2, false, b16⟩
def b17 : Ss := (.cons (.asg (.name 2) (.ifx (.cmp .lt (.var 1) (.blt .len (.cons (.var 0) .nil))) (.call 13 (.cons (.idx (.var 0) (.var 1)) .nil)) (.cst .non)))
  (.cons (.ite (.cmp .is (.var 2) (.cst .non)) (.cons (.rai 0 (.cons (.var 1) .nil))
  .nil) .nil)
  (.cons (.ret (.var 2))
  .nil)))
def d17 : Def := ⟨"words_at", (["lines", "at", "words"] : List String).map Str.ofString, 2, false, b17⟩
def b18 : Ss := (.cons (.asg (.name 2) (.mth .split (.var 0) (.cons (.cst (.str [10])) .nil)))
  (.cons (.ite (.cmp .ne (.call 17 (.cons (.var 2) (.cons (.cst (.int (0))) .nil))) (.var 1)) (.cons (.rai 0 (.cons (.cst (.int (0))) .nil))
  .nil) .nil)
  (.cons (.ret (.var 2))
  .nil)))
def d18 : Def := ⟨"begin", (["text", "first", "lines"] : List String).map Str.ofString, 2, false, b18⟩
def b19 : Ss := (.cons (.ite (.cmp .ne (.call 17 (.cons (.var 0) (.cons (.var 1) .nil))) (.lst false (.cons (.cst (.str [101, 110, 100])) .nil))) (.cons (.rai 0 (.cons (.var 1) .nil))
  .nil) .nil)
  (.cons (.ite (.cmp .lt (.bin .add (.var 1) (.cst (.int (1)))) (.blt .len (.cons (.var 0) .nil))) (.cons (.rai 0 (.cons (.bin .add (.var 1) (.cst (.int (1)))) .nil))
  .nil) .nil)
  .nil))
def d19 : Def := ⟨"finish", (["lines", "at"] : List String).map Str.ofString, 2, false, b19⟩
def b20 : Ss := (.cons (.asg (.tup (.cons (.name 1) (.cons (.name 2) .nil))) (.var 0))
  (.cons (.ret (.ifx (.cmp .is (.var 1) (.cst .non)) (.cst (.str [110, 111, 110, 101])) (.fst (.cons (.var 1) (.cons (.cst (.str [47])) (.cons (.var 2) .nil))))))
  .nil))
def d20 : Def := ⟨"_pair_word", (["pair", "value", "step"] : List String).map Str.ofString, 1, false, b20⟩
def b21 : Ss := (.cons (.asg (.name 1) (.bin .add (.lst false (.cons (.cst (.str [104, 101, 97, 100])) .nil)) (.lc false [3] (.call 16 (.cons (.var 3) (.cons (.cst (.str [110, 111, 110, 101])) .nil))) (.name 3) (.val (.idx (.var 0) (.cst (.int (0))))) .nil)))
  (.cons (.asg (.name 2) (.bin .add (.lst false (.cons (.cst (.str [116, 97, 105, 108])) .nil)) (.lc false [4] (.call 20 (.cons (.var 4) .nil)) (.name 4) (.val (.idx (.var 0) (.cst (.int (1))))) .nil)))
  (.cons (.ret (.lst false (.cons (.mth .join (.cst (.str [32])) (.cons (.var 1) .nil)) (.cons (.mth .join (.cst (.str [32])) (.cons (.var 2) .nil)) .nil))))
  .nil)))
def d21 : Def := ⟨"form_lines", (["form", "head", "tail", "value", "pair"] : List String).map Str.ofString, 1, false, b21⟩
def b22 : Ss := (.cons (.ite (.cmp .eq (.var 0) (.cst (.str [110, 111, 110, 101]))) (.cons (.ret (.tup (.cons (.cst .non) (.cons (.cst (.int (0))) .nil))))
  .nil) .nil)
  (.cons (.asg (.name 1) (.mth .split (.var 0) (.cons (.cst (.str [47])) .nil)))
  (.cons (.ite (.cmp .ne (.blt .len (.cons (.var 1) .nil)) (.cst (.int (2)))) (.cons (.ret (.cst .non))
  .nil) .nil)
  (.cons (.asg (.name 2) (.call 14 (.cons (.idx (.var 1) (.cst (.int (0)))) .nil)))
  (.cons (.asg (.name 3) (.call 14 (.cons (.idx (.var 1) (.cst (.int (1)))) .nil)))
  (.cons (.ret (.ifx (.bop false (.cons (.cmp .is (.var 2) (.cst .non)) (.cons (.cmp .is (.var 3) (.cst .non)) .nil))) (.cst .non) (.tup (.cons (.var 2) (.cons (.var 3) .nil)))))
  .nil))))))
def d22 : Def := ⟨"_pair_of", (["word", "parts", "value", "step"] : List String).map Str.ofString, 1, false, b22⟩
def b23 : Ss := (.cons (.asg (.name 2) (.call 17 (.cons (.var 0) (.cons (.var 1) .nil))))
  (.cons (.asg (.name 3) (.blt .tuple (.cons (.lc false [5] (.call 15 (.cons (.var 5) (.cons (.cst (.str [110, 111, 110, 101])) .nil))) (.name 5) (.val (.slc (.var 2) (.some (.cst (.int (1)))) .none)) .nil) .nil)))
  (.cons (.ite (.bop false (.cons (.cmp .ne (.idx (.var 2) (.cst (.int (0)))) (.cst (.str [104, 101, 97, 100]))) (.cons (.cmp .isnot (.call 7 (.cons (.tup (.cons (.var 3) (.cons (.tup (.cons (.tup (.cons (.cst .non) (.cons (.cst (.int (0))) .nil))) .nil)) .nil))) .nil)) (.cst .non)) .nil))) (.cons (.rai 0 (.cons (.var 1) .nil))
  .nil) .nil)
  (.cons (.asg (.name 2) (.call 17 (.cons (.var 0) (.cons (.bin .add (.var 1) (.cst (.int (1)))) .nil))))
  (.cons (.asg (.name 4) (.tup (.cons (.var 3) (.cons (.blt .tuple (.cons (.lc false [5] (.call 22 (.cons (.var 5) .nil)) (.name 5) (.val (.slc (.var 2) (.some (.cst (.int (1)))) .none)) .nil) .nil)) .nil))))
  (.cons (.ite (.bop false (.cons (.cmp .ne (.idx (.var 2) (.cst (.int (0)))) (.cst (.str [116, 97, 105, 108]))) (.cons (.cmp .isnot (.call 7 (.cons (.var 4) .nil)) (.cst .non)) .nil))) (.cons (.rai 0 (.cons (.bin .add (.var 1) (.cst (.int (1)))) .nil))
  .nil) .nil)
  (.cons (.ret (.var 4))
  .nil)))))))
def d23 : Def := ⟨"read_form", (["lines", "at", "words", "head", "form", "word"] : List String).map Str.ofString, 2, false, b23⟩
def b24 : Ss := (.cons (.ret (.mth .join (.cst (.str [10])) (.cons (.bin .add (.bin .add (.lst false (.cons (.cst (.str [102, 111, 114, 109])) .nil)) (.call 21 (.cons (.var 0) .nil))) (.lst false (.cons (.cst (.str [101, 110, 100])) .nil))) .nil)))
  .nil)
def d24 : Def := ⟨"format_form", (["form"] : List String).map Str.ofString, 1, false, b24⟩
def b25 : Ss := (.cons (.asg (.name 1) (.call 18 (.cons (.var 0) (.cons (.lst false (.cons (.cst (.str [102, 111, 114, 109])) .nil)) .nil))))
  (.cons (.asg (.name 2) (.call 23 (.cons (.var 1) (.cons (.cst (.int (1))) .nil))))
  (.cons (.exp (.call 19 (.cons (.var 1) (.cons (.cst (.int (3))) .nil))))
  (.cons (.ret (.var 2))
  .nil))))
def d25 : Def := ⟨"parse_form", (["text", "lines", "form"] : List String).map Str.ofString, 1, false, b25⟩
def b26 : Ss := (.cons (.ite (.cmp .eq (.idx (.var 0) (.cst (.int (0)))) (.cst (.str [102, 111, 114, 109]))) (.cons (.ret (.call 21 (.cons (.idx (.var 0) (.cst (.int (1)))) .nil)))
  .nil) .nil)
  (.cons (.ite (.cmp .eq (.idx (.var 0) (.cst (.int (0)))) (.cst (.str [102, 101, 119, 101, 115, 116]))) (.cons (.ret (.lst false (.cons (.mth .join (.cst (.str [32])) (.cons (.bin .add (.lst false (.cons (.cst (.str [102, 101, 119, 101, 115, 116])) .nil)) (.lc false [3] (.blt .str (.cons (.var 3) .nil)) (.name 3) (.val (.idx (.var 0) (.cst (.int (1))))) .nil)) .nil)) .nil)))
  .nil) .nil)
  (.cons (.asg (.name 1) (.slc (.var 0) (.some (.bin .add (.cst (.int (1))) (.blt .len (.cons (.call 11 (.cons (.var 0) .nil)) .nil)))) .none))
  (.cons (.ret (.lst false (.cons (.mth .join (.cst (.str [32])) (.cons (.bin .add (.lst false (.cons (.idx (.var 0) (.cst (.int (0)))) .nil)) (.lc false [2] (.call 27 (.cons (.var 2) .nil)) (.name 2) (.val (.var 1)) .nil)) .nil)) .nil)))
  .nil))))
def d26 : Def := ⟨"_row_lines", (["row", "numbers", "number", "value"] : List String).map Str.ofString, 1, false, b26⟩
def b27 : Ss := (.cons (.ret (.ifx (.isi (.var 0) ["str"]) (.var 0) (.call 16 (.cons (.var 0) (.cons (.cst (.str [110, 111, 110, 101])) .nil)))))
  .nil)
def d27 : Def := ⟨"_member_word", (["member"] : List String).map Str.ofString, 1, false, b27⟩
def b28 : Ss := (.cons (.asg (.name 1) (.lst true .nil))
  (.cons (.fo (.name 2) (.val (.call 12 (.cons (.var 0) .nil))) (.cons (.exp (.mth .extend (.var 1) (.cons (.call 26 (.cons (.var 2) .nil)) .nil)))
  .nil))
  (.cons (.ret (.var 1))
  .nil)))
def d28 : Def := ⟨"formula_lines", (["formula", "found", "row"] : List String).map Str.ofString, 1, false, b28⟩
def b29 : Ss := (.cons (.asg (.name 1) (.idx (.var 0) (.cst (.int (0)))))
  (.cons (.ite (.cmp .inn (.var 1) (.gbl 2)) (.cons (.asg (.name 2) (.ifx (.cmp .eq (.blt .len (.cons (.var 0) .nil)) (.cst (.int (1)))) (.tup (.cons (.var 1) (.cons (.gbl 5) (.cons (.gbl 5) .nil)))) (.cst .non)))
  .nil) (.cons (.ite (.cmp .eq (.var 1) (.cst (.str [102, 114, 111, 109]))) (.cons (.asg (.name 2) (.ifx (.cmp .eq (.blt .len (.cons (.var 0) .nil)) (.cst (.int (1)))) (.tup (.cons (.var 1) (.cons (.gbl 5) .nil))) (.cst .non)))
  .nil) (.cons (.ite (.cmp .eq (.var 1) (.cst (.str [110, 97, 109, 101]))) (.cons (.asg (.name 2) (.blt .tuple (.cons (.var 0) .nil)))
  .nil) (.cons (.ite (.cmp .eq (.var 1) (.cst (.str [102, 101, 119, 101, 115, 116]))) (.cons (.asg (.name 2) (.tup (.cons (.var 1) (.cons (.blt .tuple (.cons (.lc false [3] (.call 14 (.cons (.var 3) .nil)) (.name 3) (.val (.slc (.var 0) (.some (.cst (.int (1)))) .none)) .nil) .nil)) .nil))))
  .nil) (.cons (.asg (.name 2) (.bin .add (.tup (.cons (.var 1) (.cons (.gbl 5) .nil))) (.blt .tuple (.cons (.lc false [3] (.call 15 (.cons (.var 3) (.cons (.cst (.str [110, 111, 110, 101])) .nil))) (.name 3) (.val (.slc (.var 0) (.some (.cst (.int (1)))) .none)) .nil) .nil))))
  .nil))
  .nil))
  .nil))
  .nil))
  (.cons (.ret (.ifx (.bop true (.cons (.cmp .isnot (.var 2) (.cst .non)) (.cons (.cmp .ne (.idx (.var 2) (.cst (.int (0)))) (.cst (.str [102, 111, 114, 109]))) (.cons (.call 10 (.cons (.var 2) .nil)) .nil)))) (.var 2) (.cst .non)))
  .nil)))
def d29 : Def := ⟨"_row_of", (["words", "word", "row", "other"] : List String).map Str.ofString, 1, false, b29⟩
def b30 : Ss := (.cons (.asg (.name 4) (.call 17 (.cons (.var 0) (.cons (.var 1) .nil))))
  (.cons (.ite (.cmp .eq (.idx (.var 4) (.cst (.int (0)))) (.cst (.str [104, 101, 97, 100]))) (.cons (.augs (.var 3) (.cst (.int (0))) .add (.cst (.int (1))))
  (.cons (.augs (.var 3) (.cst (.int (1))) .sub (.cst (.int (1))))
  (.cons (.ret (.tup (.cons (.tup (.cons (.cst (.str [102, 111, 114, 109])) (.cons (.call 23 (.cons (.var 0) (.cons (.var 1) .nil))) .nil))) (.cons (.bin .add (.var 1) (.cst (.int (2)))) .nil))))
  .nil))) .nil)
  (.cons (.asg (.name 5) (.call 29 (.cons (.var 4) .nil)))
  (.cons (.ite (.cmp .is (.var 5) (.cst .non)) (.cons (.rai 0 (.cons (.var 1) .nil))
  .nil) .nil)
  (.cons (.asg (.name 6) (.blt .len (.cons (.call 11 (.cons (.var 5) .nil)) .nil)))
  (.cons (.augs (.var 3) (.cst (.int (0))) .add (.cst (.int (1))))
  (.cons (.augs (.var 3) (.cst (.int (1))) .add (.bin .sub (.var 6) (.cst (.int (1)))))
  (.cons (.ite (.bop false (.cons (.cmp .gt (.bin .add (.idx (.var 3) (.cst (.int (0)))) (.idx (.var 3) (.cst (.int (1))))) (.gbl 6)) (.cons (.bop true (.cons (.cmp .gt (.var 6) (.cst (.int (0)))) (.cons (.cmp .eq (.var 2) (.gbl 7)) .nil))) .nil))) (.cons (.rai 0 (.cons (.var 1) .nil))
  .nil) .nil)
  (.cons (.aug 1 .add (.cst (.int (1))))
  (.cons (.asg (.name 7) (.lst true .nil))
  (.cons (.fo (.name 8) (.rng (.var 6)) (.cons (.asg (.tup (.cons (.name 9) (.cons (.name 1) .nil))) (.call 30 (.cons (.var 0) (.cons (.var 1) (.cons (.bin .add (.var 2) (.cst (.int (1)))) (.cons (.var 3) .nil))))))
  (.cons (.exp (.mth .append (.var 7) (.cons (.var 9) .nil)))
  .nil)))
  (.cons (.ret (.tup (.cons (.bin .add (.bin .add (.slc (.var 5) .none (.some (.cst (.int (1))))) (.blt .tuple (.cons (.var 7) .nil))) (.slc (.var 5) (.some (.bin .add (.cst (.int (1))) (.var 6))) .none)) (.cons (.var 1) .nil))))
  .nil))))))))))))
def d30 : Def := ⟨"read_formula", (["lines", "at", "depth", "counts", "words", "row", "size", "found", "_", "inner"] : List String).map Str.ofString, 4, false, b30⟩
def b31 : Ss := (.cons (.ret (.mth .join (.cst (.str [10])) (.cons (.bin .add (.bin .add (.lst false (.cons (.cst (.str [102, 111, 114, 109, 117, 108, 97])) .nil)) (.call 28 (.cons (.var 0) .nil))) (.lst false (.cons (.cst (.str [101, 110, 100])) .nil))) .nil)))
  .nil)
def d31 : Def := ⟨"format_formula", (["formula"] : List String).map Str.ofString, 1, false, b31⟩
def b32 : Ss := (.cons (.asg (.name 1) (.call 18 (.cons (.var 0) (.cons (.lst false (.cons (.cst (.str [102, 111, 114, 109, 117, 108, 97])) .nil)) .nil))))
  (.cons (.asg (.tup (.cons (.name 2) (.cons (.name 3) .nil))) (.call 30 (.cons (.var 1) (.cons (.cst (.int (1))) (.cons (.cst (.int (1))) (.cons (.lst true (.cons (.cst (.int (0))) (.cons (.cst (.int (1))) .nil))) .nil))))))
  (.cons (.exp (.call 19 (.cons (.var 1) (.cons (.var 3) .nil))))
  (.cons (.ret (.var 2))
  .nil))))
def d32 : Def := ⟨"parse_formula", (["text", "lines", "formula", "at"] : List String).map Str.ofString, 1, false, b32⟩
def b33 : Ss := (.cons (.ret (.lst true (.cons (.blt .list (.cons (.var 0) .nil)) (.cons (.cst (.int (0))) (.cons (.cst (.int (0))) (.cons (.cst (.int (0))) (.cons (.cst (.bl false)) .nil)))))))
  .nil)
def d33 : Def := ⟨"_law_state", (["script"] : List String).map Str.ofString, 1, true, b33⟩
def b34 : Ss := (.cons (.ite (.cmp .eq (.idx (.var 0) (.cst (.int (3)))) (.cst (.int (0)))) (.cons (.ite (.cmp .ge (.idx (.var 0) (.cst (.int (1)))) (.blt .len (.cons (.idx (.var 0) (.cst (.int (0)))) .nil))) (.cons (.ret (.cst (.int (0))))
  .nil) .nil)
  (.cons (.asg (.name 3) (.idx (.idx (.var 0) (.cst (.int (0)))) (.idx (.var 0) (.cst (.int (1))))))
  (.cons (.ite (.cmp .lt (.var 3) (.cst (.int (0)))) (.cons (.asg (.name 3) (.bin .sub (.neg (.cst (.int (1)))) (.var 3)))
  .nil) .nil)
  (.cons (.asg (.sub (.var 0) (.cst (.int (1)))) (.bin .add (.idx (.var 0) (.cst (.int (1)))) (.cst (.int (1)))))
  (.cons (.asg (.sub (.var 0) (.cst (.int (2)))) (.var 3))
  (.cons (.asg (.sub (.var 0) (.cst (.int (4)))) (.cmp .ge (.var 3) (.bin .pow (.cst (.int (10))) (.cst (.int (18))))))
  (.cons (.asg (.sub (.var 0) (.cst (.int (3)))) (.cst (.int (6))))
  (.cons (.ite (.idx (.var 0) (.cst (.int (4)))) (.cons (.asg (.sub (.var 0) (.cst (.int (3)))) (.cst (.int (60))))
  .nil) .nil)
  .nil)))))))) .nil)
  (.cons (.asg (.sub (.var 0) (.cst (.int (3)))) (.bin .sub (.idx (.var 0) (.cst (.int (3)))) (.cst (.int (1)))))
  (.cons (.ite (.idx (.var 0) (.cst (.int (4)))) (.cons (.asg (.name 4) (.bin .mod (.blt .int (.cons (.idx (.var 0) (.cst (.int (2)))) .nil)) (.var 1)))
  (.cons (.asg (.sub (.var 0) (.cst (.int (2)))) (.bin .fdiv (.idx (.var 0) (.cst (.int (2)))) (.var 1)))
  (.cons (.ite (.cmp .eq (.idx (.var 0) (.cst (.int (2)))) (.cst (.int (0)))) (.cons (.asg (.sub (.var 0) (.cst (.int (3)))) (.cst (.int (0))))
  .nil) .nil)
  (.cons (.ret (.var 4))
  .nil)))) .nil)
  (.cons (.asg (.name 2) (.bin .mod (.blt .int (.cons (.bin .add (.bin .add (.bin .mul (.idx (.var 0) (.cst (.int (2)))) (.cst (.int (48271)))) (.bin .mul (.idx (.var 0) (.cst (.int (3)))) (.cst (.int (69621))))) (.cst (.int (7)))) .nil)) (.cst (.int (2147483647)))))
  (.cons (.asg (.name 2) (.bin .mod (.blt .int (.cons (.bin .add (.bin .add (.bin .mul (.var 2) (.var 2)) (.bin .mul (.idx (.var 0) (.cst (.int (2)))) (.cst (.int (31))))) (.idx (.var 0) (.cst (.int (3))))) .nil)) (.cst (.int (1000003)))))
  (.cons (.ret (.bin .mod (.blt .int (.cons (.var 2) .nil)) (.var 1)))
  .nil))))))
def d34 : Def := ⟨"_law_draw", (["state", "limit", "mixed", "cell", "digit"] : List String).map Str.ofString, 2, false, b34⟩
def b35 : Ss := (.cons (.asg (.name 1) (.call 34 (.cons (.var 0) (.cons (.cst (.int (8))) .nil))))
  (.cons (.ite (.cmp .lt (.var 1) (.cst (.int (5)))) (.cons (.ret (.bin .sub (.call 34 (.cons (.var 0) (.cons (.cst (.int (9))) .nil))) (.cst (.int (3)))))
  .nil) .nil)
  (.cons (.ite (.cmp .lt (.var 1) (.cst (.int (7)))) (.cons (.ret (.bin .sub (.call 34 (.cons (.var 0) (.cons (.cst (.int (241))) .nil))) (.cst (.int (120)))))
  .nil) .nil)
  (.cons (.ret (.bin .add (.bin .mul (.bin .sub (.call 34 (.cons (.var 0) (.cons (.cst (.int (2001))) .nil))) (.cst (.int (1000)))) (.bin .pow (.cst (.int (10))) (.cst (.int (24))))) (.call 34 (.cons (.var 0) (.cons (.cst (.int (1000))) .nil)))))
  .nil))))
def d35 : Def := ⟨"_law_number", (["state", "kind"] : List String).map Str.ofString, 1, false, b35⟩
def b36 : Ss := (.cons (.asg (.name 1) (.cst (.str [97, 98, 99, 100, 101, 102, 103, 104, 105, 106, 107, 108, 109, 110, 111, 112, 113, 114, 115, 116, 117, 118, 119, 120, 121, 122])))
  (.cons (.asg (.name 2) (.bin .add (.cst (.int (1))) (.idx (.lst false (.cons (.call 34 (.cons (.var 0) (.cons (.cst (.int (3))) .nil))) (.cons (.call 34 (.cons (.var 0) (.cons (.cst (.int (12))) .nil))) .nil))) (.call 34 (.cons (.var 0) (.cons (.cst (.int (2))) .nil))))))
  (.cons (.asg (.name 3) (.cst (.str [])))
  (.cons (.fo (.name 4) (.rng (.var 2)) (.cons (.asg (.name 3) (.bin .add (.var 3) (.idx (.var 1) (.call 34 (.cons (.var 0) (.cons (.cst (.int (26))) .nil))))))
  .nil))
  (.cons (.ret (.var 3))
  .nil)))))
def d36 : Def := ⟨"_law_name", (["state", "letters", "size", "name", "k"] : List String).map Str.ofString, 1, false, b36⟩
def b37 : Ss := (.cons (.ite (.bop false (.cons (.notv (.isi (.var 0) ["tuple"])) (.cons (.cmp .lt (.blt .len (.cons (.var 0) .nil)) (.cst (.int (2)))) (.cons (.cmp .inn (.idx (.var 0) (.cst (.int (0)))) (.lst false (.cons (.cst (.str [102, 111, 114, 109])) (.cons (.cst (.str [110, 97, 109, 101])) (.cons (.cst (.str [102, 101, 119, 101, 115, 116])) .nil))))) .nil)))) (.cons (.ret (.lst false .nil))
  .nil) .nil)
  (.cons (.ite (.cmp .inn (.idx (.var 0) (.cst (.int (0)))) (.lst false (.cons (.cst (.str [116, 105, 109, 101, 115])) (.cons (.cst (.str [100, 105, 118, 105, 100, 101, 100])) (.cons (.cst (.str [119, 104, 101, 114, 101])) (.cons (.cst (.str [109, 111, 118, 101, 100])) (.cons (.cst (.str [102, 114, 111, 109])) .nil))))))) (.cons (.ret (.lst false (.cons (.idx (.var 0) (.cst (.int (1)))) .nil)))
  .nil) .nil)
  (.cons (.ite (.cmp .ne (.blt .len (.cons (.var 0) .nil)) (.cst (.int (3)))) (.cons (.ret (.lst false .nil))
  .nil) .nil)
  (.cons (.ret (.lst false (.cons (.idx (.var 0) (.cst (.int (1)))) (.cons (.idx (.var 0) (.cst (.int (2)))) .nil))))
  .nil))))
def d37 : Def := ⟨"_law_inner", (["row"] : List String).map Str.ofString, 1, false, b37⟩
def b38 : Ss := (.cons (.asg (.name 1) (.lst false (.cons (.var 0) .nil)))
  (.cons (.fo (.name 2) (.val (.call 37 (.cons (.var 0) .nil))) (.cons (.asg (.name 1) (.bin .add (.var 1) (.call 38 (.cons (.var 2) .nil))))
  .nil))
  (.cons (.ret (.var 1))
  .nil)))
def d38 : Def := ⟨"_law_rows", (["formula", "found", "inner"] : List String).map Str.ofString, 1, false, b38⟩
def b39 : Ss := (.cons (.ite (.cmp .is (.var 0) (.cst .non)) (.cons (.ret (.cst (.str [110, 111, 110, 101])))
  .nil) .nil)
  (.cons (.ret (.blt .str (.cons (.var 0) .nil)))
  .nil))
def d39 : Def := ⟨"_law_word", (["value"] : List String).map Str.ofString, 1, false, b39⟩
def b40 : Ss := (.cons (.asg (.name 1) (.cst (.str [104, 101, 97, 100])))
  (.cons (.fo (.name 2) (.val (.idx (.var 0) (.cst (.int (0))))) (.cons (.asg (.name 1) (.bin .add (.bin .add (.var 1) (.cst (.str [32]))) (.call 39 (.cons (.var 2) .nil))))
  .nil))
  (.cons (.asg (.name 3) (.cst (.str [116, 97, 105, 108])))
  (.cons (.fo (.tup (.cons (.name 2) (.cons (.name 4) .nil))) (.val (.idx (.var 0) (.cst (.int (1))))) (.cons (.asg (.name 3) (.bin .add (.bin .add (.var 3) (.cst (.str [32]))) (.idx (.lst false (.cons (.cst (.str [110, 111, 110, 101])) (.cons (.bin .add (.bin .add (.call 39 (.cons (.var 2) .nil)) (.cst (.str [47]))) (.blt .str (.cons (.var 4) .nil))) .nil))) (.blt .int (.cons (.cmp .isnot (.var 2) (.cst .non)) .nil)))))
  .nil))
  (.cons (.ret (.lst false (.cons (.var 1) (.cons (.var 3) .nil))))
  .nil)))))
def d40 : Def := ⟨"_law_form_lines", (["form", "head", "value", "tail", "step"] : List String).map Str.ofString, 1, false, b40⟩
def b41 : Ss := (.cons (.ite (.cmp .eq (.idx (.var 0) (.cst (.int (0)))) (.cst (.str [102, 111, 114, 109]))) (.cons (.ret (.call 40 (.cons (.idx (.var 0) (.cst (.int (1)))) .nil)))
  .nil) .nil)
  (.cons (.ite (.cmp .eq (.idx (.var 0) (.cst (.int (0)))) (.cst (.str [102, 101, 119, 101, 115, 116]))) (.cons (.ret (.lst false (.cons (.bin .add (.cst (.str [102, 101, 119, 101, 115, 116, 32])) (.mth .join (.cst (.str [32])) (.cons (.lc false [3] (.blt .str (.cons (.var 3) .nil)) (.name 3) (.val (.idx (.var 0) (.cst (.int (1))))) .nil) .nil))) .nil)))
  .nil) .nil)
  (.cons (.ite (.cmp .eq (.idx (.var 0) (.cst (.int (0)))) (.cst (.str [110, 97, 109, 101]))) (.cons (.ret (.lst false (.cons (.bin .add (.cst (.str [110, 97, 109, 101, 32])) (.idx (.var 0) (.cst (.int (1))))) .nil)))
  .nil) .nil)
  (.cons (.asg (.name 1) (.lst true (.cons (.idx (.var 0) (.cst (.int (0)))) .nil)))
  (.cons (.fo (.name 2) (.val (.slc (.var 0) (.some (.bin .add (.cst (.int (1))) (.blt .len (.cons (.call 37 (.cons (.var 0) .nil)) .nil)))) .none)) (.cons (.exp (.mth .append (.var 1) (.cons (.call 39 (.cons (.var 2) .nil)) .nil)))
  .nil))
  (.cons (.ret (.lst false (.cons (.mth .join (.cst (.str [32])) (.cons (.var 1) .nil)) .nil)))
  .nil))))))
def d41 : Def := ⟨"_law_row_lines", (["row", "words", "number", "value"] : List String).map Str.ofString, 1, false, b41⟩
def b42 : Ss := (.cons (.asg (.name 1) (.lst false .nil))
  (.cons (.fo (.name 2) (.val (.call 38 (.cons (.var 0) .nil))) (.cons (.asg (.name 1) (.bin .add (.var 1) (.call 41 (.cons (.var 2) .nil))))
  .nil))
  (.cons (.ret (.var 1))
  .nil)))
def d42 : Def := ⟨"_law_lines", (["formula", "found", "row"] : List String).map Str.ofString, 1, false, b42⟩
def b43 : Ss := (.cons (.asg (.name 1) (.call 34 (.cons (.var 0) (.cons (.cst (.int (12))) .nil))))
  (.cons (.ite (.cmp .eq (.var 1) (.cst (.int (0)))) (.cons (.ret (.bin .add (.bin .pow (.cst (.int (10))) (.cst (.int (39)))) (.call 34 (.cons (.var 0) (.cons (.cst (.int (9))) .nil)))))
  .nil) .nil)
  (.cons (.ite (.cmp .eq (.var 1) (.cst (.int (1)))) (.cons (.ret (.bin .sub (.bin .sub (.cst (.int (0))) (.bin .pow (.cst (.int (10))) (.cst (.int (38))))) (.call 34 (.cons (.var 0) (.cons (.cst (.int (9))) .nil)))))
  .nil) .nil)
  (.cons (.ret (.call 35 (.cons (.var 0) .nil)))
  .nil))))
def d43 : Def := ⟨"_law_long", (["state", "kind"] : List String).map Str.ofString, 1, false, b43⟩
def b44 : Ss := (.cons (.asg (.name 1) (.lc false [3] (.idx (.lst false (.cons (.cst .non) (.cons (.call 43 (.cons (.var 0) .nil)) .nil))) (.blt .int (.cons (.cmp .gt (.call 34 (.cons (.var 0) (.cons (.cst (.int (4))) .nil))) (.cst (.int (0)))) .nil))) (.name 3) (.rng (.call 34 (.cons (.var 0) (.cons (.cst (.int (6))) .nil)))) .nil))
  (.cons (.asg (.name 2) (.lc false [3] (.idx (.lst false (.cons (.tup (.cons (.cst .non) (.cons (.cst (.int (0))) .nil))) (.cons (.tup (.cons (.call 43 (.cons (.var 0) .nil)) (.cons (.call 43 (.cons (.var 0) .nil)) .nil))) .nil))) (.blt .int (.cons (.cmp .gt (.call 34 (.cons (.var 0) (.cons (.cst (.int (4))) .nil))) (.cst (.int (0)))) .nil))) (.name 3) (.rng (.bin .add (.cst (.int (1))) (.call 34 (.cons (.var 0) (.cons (.cst (.int (4))) .nil))))) .nil))
  (.cons (.ret (.tup (.cons (.blt .tuple (.cons (.var 1) .nil)) (.cons (.blt .tuple (.cons (.var 2) .nil)) .nil))))
  .nil)))
def d44 : Def := ⟨"_law_text_form", (["state", "head", "tail", "k"] : List String).map Str.ofString, 1, false, b44⟩
def b45 : Ss := (.cons (.asg (.name 2) (.call 34 (.cons (.var 0) (.cons (.cst (.int (15))) .nil))))
  (.cons (.ite (.bop false (.cons (.cmp .eq (.var 1) (.cst (.int (0)))) (.cons (.cmp .lt (.var 2) (.cst (.int (3)))) .nil))) (.cons (.asg (.name 5) (.blt .sorted (.cons (.lst false (.cons (.bin .add (.cst (.int (1))) (.call 34 (.cons (.var 0) (.cons (.cst (.int (1000))) .nil)))) (.cons (.bin .sub (.bin .sub (.cst (.int (1001))) (.cst (.int (1)))) (.call 34 (.cons (.var 0) (.cons (.cst (.int (3))) .nil)))) .nil))) .nil)))
  (.cons (.ite (.cmp .eq (.idx (.var 5) (.cst (.int (0)))) (.idx (.var 5) (.cst (.int (1))))) (.cons (.asg (.name 5) (.slc (.var 5) .none (.some (.cst (.int (1))))))
  .nil) .nil)
  (.cons (.ret (.idx (.lst false (.cons (.tup (.cons (.cst (.str [102, 111, 114, 109])) (.cons (.call 44 (.cons (.var 0) .nil)) .nil))) (.cons (.tup (.cons (.cst (.str [110, 97, 109, 101])) (.cons (.call 36 (.cons (.var 0) .nil)) .nil))) (.cons (.tup (.cons (.cst (.str [102, 101, 119, 101, 115, 116])) (.cons (.blt .tuple (.cons (.var 5) .nil)) .nil))) .nil)))) (.bin .mod (.blt .int (.cons (.var 2) .nil)) (.cst (.int (3))))))
  .nil))) .nil)
  (.cons (.asg (.name 3) (.call 45 (.cons (.var 0) (.cons (.bin .sub (.var 1) (.cst (.int (1)))) .nil))))
  (.cons (.ite (.cmp .eq (.var 2) (.cst (.int (3)))) (.cons (.ret (.tup (.cons (.cst (.str [116, 105, 109, 101, 115])) (.cons (.var 3) (.cons (.call 43 (.cons (.var 0) .nil)) .nil)))))
  .nil) .nil)
  (.cons (.ite (.cmp .eq (.var 2) (.cst (.int (4)))) (.cons (.ret (.tup (.cons (.cst (.str [100, 105, 118, 105, 100, 101, 100])) (.cons (.var 3) (.cons (.idx (.lst false (.cons (.bin .add (.cst (.int (1))) (.call 34 (.cons (.var 0) (.cons (.cst (.int (1000))) .nil)))) (.cons (.cst (.int (1000))) .nil))) (.call 34 (.cons (.var 0) (.cons (.cst (.int (2))) .nil)))) .nil)))))
  .nil) .nil)
  (.cons (.ite (.cmp .eq (.var 2) (.cst (.int (5)))) (.cons (.ret (.tup (.cons (.cst (.str [119, 104, 101, 114, 101])) (.cons (.var 3) (.cons (.idx (.lst false (.cons (.cst .non) (.cons (.call 43 (.cons (.var 0) .nil)) .nil))) (.call 34 (.cons (.var 0) (.cons (.cst (.int (2))) .nil)))) (.cons (.idx (.lst false (.cons (.cst .non) (.cons (.call 43 (.cons (.var 0) .nil)) .nil))) (.call 34 (.cons (.var 0) (.cons (.cst (.int (2))) .nil)))) .nil))))))
  .nil) .nil)
  (.cons (.ite (.cmp .eq (.var 2) (.cst (.int (6)))) (.cons (.ret (.tup (.cons (.cst (.str [109, 111, 118, 101, 100])) (.cons (.var 3) (.cons (.call 43 (.cons (.var 0) .nil)) .nil)))))
  .nil) .nil)
  (.cons (.ite (.cmp .eq (.var 2) (.cst (.int (7)))) (.cons (.ret (.tup (.cons (.cst (.str [102, 114, 111, 109])) (.cons (.var 3) .nil))))
  .nil) .nil)
  (.cons (.asg (.name 4) (.idx (.lst false (.cons (.cst (.str [115, 117, 109])) (.cons (.cst (.str [100, 105, 102, 102, 101, 114, 101, 110, 99, 101])) (.cons (.cst (.str [108, 101, 115, 115, 101, 114])) (.cons (.cst (.str [103, 114, 101, 97, 116, 101, 114])) (.cons (.cst (.str [111, 116, 104, 101, 114, 119, 105, 115, 101])) (.cons (.cst (.str [97, 102, 116, 101, 114])) (.cons (.cst (.str [115, 112, 108, 105, 116])) .nil)))))))) (.bin .sub (.var 2) (.cst (.int (8))))))
  (.cons (.ret (.tup (.cons (.var 4) (.cons (.var 3) (.cons (.call 45 (.cons (.var 0) (.cons (.bin .sub (.var 1) (.cst (.int (1)))) .nil))) .nil)))))
  .nil))))))))))
def d45 : Def := ⟨"_law_text_row", (["state", "depth", "kind", "one", "word", "values"] : List String).map Str.ofString, 2, false, b45⟩
def b46 : Ss := (.cons (.ret (.mth .join (.cst (.str [10])) (.cons (.bin .add (.bin .add (.lst false (.cons (.var 0) .nil)) (.var 1)) (.lst false (.cons (.cst (.str [101, 110, 100])) .nil))) .nil)))
  .nil)
def d46 : Def := ⟨"_law_text", (["word", "lines"] : List String).map Str.ofString, 2, false, b46⟩
def b47 : Ss := (.cons (.asg (.name 1) (.call 46 (.cons (.cst (.str [102, 111, 114, 109, 117, 108, 97])) (.cons (.call 42 (.cons (.var 0) .nil)) .nil))))
  (.cons (.ite (.cmp .ne (.call 32 (.cons (.var 1) .nil)) (.var 0)) (.cons (.ret (.cst (.bl false)))
  .nil) .nil)
  (.cons (.asg (.name 2) (.call 31 (.cons (.var 0) .nil)))
  (.cons (.ret (.bop true (.cons (.isi (.var 2) ["str"]) (.cons (.cmp .eq (.var 2) (.var 1)) .nil))))
  .nil))))
def d47 : Def := ⟨"_law_formula_holds", (["formula", "text", "told"] : List String).map Str.ofString, 1, false, b47⟩
def b48 : Ss := (.cons (.asg (.name 1) (.call 46 (.cons (.cst (.str [102, 111, 114, 109])) (.cons (.call 40 (.cons (.var 0) .nil)) .nil))))
  (.cons (.ite (.cmp .ne (.call 25 (.cons (.var 1) .nil)) (.var 0)) (.cons (.ret (.cst (.bl false)))
  .nil) .nil)
  (.cons (.asg (.name 2) (.call 24 (.cons (.var 0) .nil)))
  (.cons (.ret (.bop true (.cons (.isi (.var 2) ["str"]) (.cons (.cmp .eq (.var 2) (.var 1)) .nil))))
  .nil))))
def d48 : Def := ⟨"_law_form_holds", (["form", "text", "told"] : List String).map Str.ofString, 1, false, b48⟩
def b49 : Ss := (.cons (.fo (.name 1) (.val (.idx (.var 0) (.cst (.int (0))))) (.cons (.ite (.bop true (.cons (.cmp .isnot (.var 1) (.cst .non)) (.cons (.bop false (.cons (.notv (.isi (.var 1) ["int"])) (.cons (.isi (.var 1) ["bool"]) .nil))) .nil))) (.cons (.ret (.cst (.bl false)))
  .nil) .nil)
  .nil))
  (.cons (.fo (.tup (.cons (.name 1) (.cons (.name 2) .nil))) (.val (.idx (.var 0) (.cst (.int (1))))) (.cons (.ite (.bop false (.cons (.isi (.var 2) ["bool"]) (.cons (.notv (.isi (.var 2) ["int"])) .nil))) (.cons (.ret (.cst (.bl false)))
  .nil) .nil)
  (.cons (.ite (.bop true (.cons (.cmp .isnot (.var 1) (.cst .non)) (.cons (.bop false (.cons (.notv (.isi (.var 1) ["int"])) (.cons (.isi (.var 1) ["bool"]) .nil))) .nil))) (.cons (.ret (.cst (.bl false)))
  .nil) .nil)
  .nil)))
  (.cons (.ret (.bop true (.cons (.isi (.idx (.var 0) (.cst (.int (0)))) ["tuple"]) (.cons (.isi (.idx (.var 0) (.cst (.int (1)))) ["tuple"]) .nil))))
  .nil)))
def d49 : Def := ⟨"_law_ints", (["form", "value", "step"] : List String).map Str.ofString, 1, false, b49⟩
def b50 : Ss := (.cons (.asg (.name 1) (.call 33 (.cons (.var 0) .nil)))
  (.cons (.asg (.name 2) (.call 44 (.cons (.var 1) .nil)))
  (.cons (.asg (.name 3) (.call 46 (.cons (.cst (.str [102, 111, 114, 109])) (.cons (.call 40 (.cons (.var 2) .nil)) .nil))))
  (.cons (.ite (.bop false (.cons (.notv (.call 48 (.cons (.var 2) .nil))) (.cons (.notv (.call 49 (.cons (.call 25 (.cons (.var 3) .nil)) .nil))) .nil))) (.cons (.ret (.cst (.bl false)))
  .nil) .nil)
  (.cons (.ite (.cmp .eq (.call 34 (.cons (.var 1) (.cons (.cst (.int (9))) .nil))) (.cst (.int (0)))) (.cons (.asg (.name 10) (.tup (.cons (.bin .mul (.blt .tuple (.cons (.lst false (.cons (.idx (.idx (.idx (.var 2) (.cst (.int (1)))) (.cst (.int (0)))) (.cst (.int (0)))) .nil)) .nil)) (.bin .add (.cst (.int (3998))) (.call 34 (.cons (.var 1) (.cons (.cst (.int (3))) .nil))))) (.cons (.bin .mul (.slc (.idx (.var 2) (.cst (.int (1)))) .none (.some (.cst (.int (1))))) (.bin .add (.cst (.int (998))) (.call 34 (.cons (.var 1) (.cons (.cst (.int (3))) .nil))))) .nil))))
  (.cons (.ite (.notv (.call 48 (.cons (.var 10) .nil))) (.cons (.ret (.cst (.bl false)))
  .nil) .nil)
  .nil)) .nil)
  (.cons (.asg (.name 4) (.call 45 (.cons (.var 1) (.cons (.call 34 (.cons (.var 1) (.cons (.cst (.int (4))) .nil))) .nil))))
  (.cons (.ite (.notv (.call 47 (.cons (.var 4) .nil))) (.cons (.ret (.cst (.bl false)))
  .nil) .nil)
  (.cons (.asg (.name 5) (.tup (.cons (.cst (.str [110, 97, 109, 101])) (.cons (.call 36 (.cons (.var 1) .nil)) .nil))))
  (.cons (.asg (.name 6) (.call 45 (.cons (.var 1) (.cons (.cst (.int (0))) .nil))))
  (.cons (.fo (.name 7) (.rng (.cst (.int (9)))) (.cons (.asg (.name 6) (.idx (.lst false (.cons (.tup (.cons (.cst (.str [102, 114, 111, 109])) (.cons (.var 6) .nil))) (.cons (.tup (.cons (.cst (.str [116, 105, 109, 101, 115])) (.cons (.var 6) (.cons (.var 7) .nil)))) (.cons (.tup (.cons (.cst (.str [115, 117, 109])) (.cons (.var 6) (.cons (.var 5) .nil)))) (.cons (.tup (.cons (.cst (.str [115, 112, 108, 105, 116])) (.cons (.var 5) (.cons (.var 6) .nil)))) .nil))))) (.call 34 (.cons (.var 1) (.cons (.cst (.int (4))) .nil)))))
  .nil))
  (.cons (.ite (.notv (.call 47 (.cons (.var 6) .nil))) (.cons (.ret (.cst (.bl false)))
  .nil) .nil)
  (.cons (.asg (.name 8) (.tup (.cons (.cst (.str [115, 117, 109])) (.cons (.var 5) (.cons (.var 5) .nil)))))
  (.cons (.fo (.name 7) (.rng (.cst (.int (4)))) (.cons (.asg (.name 8) (.tup (.cons (.cst (.str [108, 101, 115, 115, 101, 114])) (.cons (.var 8) (.cons (.tup (.cons (.cst (.str [97, 102, 116, 101, 114])) (.cons (.var 5) (.cons (.var 5) .nil)))) .nil)))))
  .nil))
  (.cons (.ite (.notv (.call 47 (.cons (.tup (.cons (.cst (.str [115, 117, 109])) (.cons (.var 8) (.cons (.tup (.cons (.cst (.str [102, 114, 111, 109])) (.cons (.var 8) .nil))) .nil)))) .nil))) (.cons (.ret (.cst (.bl false)))
  .nil) .nil)
  (.cons (.asg (.name 9) (.call 44 (.cons (.var 1) .nil)))
  (.cons (.ret (.bop true (.cons (.call 48 (.cons (.var 9) .nil)) (.cons (.cmp .eq (.call 25 (.cons (.var 3) .nil)) (.var 2)) (.cons (.call 47 (.cons (.var 4) .nil)) .nil)))))
  .nil))))))))))))))))
def d50 : Def := ⟨"law", (["script", "state", "form", "text", "formula", "leaf", "deep", "k", "wide", "other", "long"] : List String).map Str.ofString, 1, false, b50⟩
def tab : List Def := [d0, d1, d2, d3, d4, d5, d6, d7, d8, d9, d10, d11, d12, d13, d14, d15, d16, d17, d18, d19, d20, d21, d22, d23, d24, d25, d26, d27, d28, d29, d30, d31, d32, d33, d34, d35, d36, d37, d38, d39, d40, d41, d42, d43, d44, d45, d46, d47, d48, d49, d50]
def kons : List D := [.int (4000), .int (1000), .tuple [(S [115, 117, 109]), (S [100, 105, 102, 102, 101, 114, 101, 110, 99, 101]), (S [108, 101, 115, 115, 101, 114]), (S [103, 114, 101, 97, 116, 101, 114]), (S [111, 116, 104, 101, 114, 119, 105, 115, 101]), (S [97, 102, 116, 101, 114]), (S [115, 112, 108, 105, 116])], .tuple [(S [116, 105, 109, 101, 115]), (S [100, 105, 118, 105, 100, 101, 100]), (S [119, 104, 101, 114, 101]), (S [109, 111, 118, 101, 100]), (S [102, 114, 111, 109])], .int (40), .tuple [(S [102, 111, 114, 109]), (.tuple [(.tuple []), (.tuple [(.tuple [.none, (.int (0))])])])], .int (40), .int (10), .tuple [], .tuple [.none, (.int (0))], .tuple [(.tuple [.none, (.int (0))])], .tuple [(.tuple []), (.tuple [(.tuple [.none, (.int (0))])])]]
def nms : Nms := { N := [], F := (["is_integer", "is_between", "is_name", "is_figures", "is_ascending", "is_bound", "_is_pair", "form_fault", "is_values", "_is_leaf", "is_right_row", "inner_of", "tuples_of", "words_of", "integer_of", "optional_of", "optional_word", "words_at", "begin", "finish", "_pair_word", "form_lines", "_pair_of", "read_form", "format_form", "parse_form", "_row_lines", "_member_word", "formula_lines", "_row_of", "read_formula", "format_formula", "parse_formula", "_law_state", "_law_draw", "_law_number", "_law_name", "_law_inner", "_law_rows", "_law_word", "_law_form_lines", "_law_row_lines", "_law_lines", "_law_long", "_law_text_form", "_law_text_row", "_law_text", "_law_formula_holds", "_law_form_holds", "_law_ints", "law"] : List String).map Str.ofString, G := (["MAX_HEAD", "MAX_PERIOD", "PAIRS", "SINGLES", "MAX_SIGNS", "NO_FORM", "MAX_TUPLES", "MAX_DEPTH"] : List String).map Str.ofString, Cl := (["InvalidLine"] : List String).map Str.ofString, Hn := [] }
def top (i : Nat) : Stmt := PySem.Challenge.pw_postsooth_k61_whole_texts_of_forms_and_f.main.body.getD i (.Pass ⟨0, 0, 0, 0⟩)
abbrev s0 : Stmt := top 4
abbrev s1 : Stmt := top 5
abbrev s2 : Stmt := top 6
abbrev s3 : Stmt := top 7
abbrev s4 : Stmt := top 8
abbrev s5 : Stmt := top 12
abbrev s6 : Stmt := top 13
abbrev s7 : Stmt := top 14
abbrev s8 : Stmt := top 20
abbrev s9 : Stmt := top 21
abbrev s10 : Stmt := top 22
abbrev s11 : Stmt := top 23
abbrev s12 : Stmt := top 24
abbrev s13 : Stmt := top 27
abbrev s14 : Stmt := top 28
abbrev s15 : Stmt := top 29
abbrev s16 : Stmt := top 30
abbrev s17 : Stmt := top 33
abbrev s18 : Stmt := top 34
abbrev s19 : Stmt := top 35
abbrev s20 : Stmt := top 36
abbrev s21 : Stmt := top 37
abbrev s22 : Stmt := top 38
abbrev s23 : Stmt := top 39
abbrev s24 : Stmt := top 40
abbrev s25 : Stmt := top 41
abbrev s26 : Stmt := top 42
abbrev s27 : Stmt := top 43
abbrev s28 : Stmt := top 44
abbrev s29 : Stmt := top 45
abbrev s30 : Stmt := top 46
abbrev s31 : Stmt := top 47
abbrev s32 : Stmt := top 48
abbrev s33 : Stmt := top 50
abbrev s34 : Stmt := top 51
abbrev s35 : Stmt := top 52
abbrev s36 : Stmt := top 53
abbrev s37 : Stmt := top 54
abbrev s38 : Stmt := top 55
abbrev s39 : Stmt := top 56
abbrev s40 : Stmt := top 57
abbrev s41 : Stmt := top 58
abbrev s42 : Stmt := top 59
abbrev s43 : Stmt := top 60
abbrev s44 : Stmt := top 61
abbrev s45 : Stmt := top 62
abbrev s46 : Stmt := top 63
abbrev s47 : Stmt := top 64
abbrev s48 : Stmt := top 65
abbrev s49 : Stmt := top 66
abbrev s50 : Stmt := top 67
end K61


set_option linter.all false
set_option Elab.async false
set_option maxRecDepth 100000
set_option maxHeartbeats 2000000
namespace K61
open PySem PySem.Spec PyProof.Rows L2 Rx
theorem c0 : chkSs { nms with N := d0.names } ⟨defScope s0, fun _ => true⟩ d0.body (defBody s0) = true := by decide +kernel
theorem sc0 : scB d0.names (d0.names.take d0.np) (defScope s0) = true := by decide +kernel
theorem bi0 : BindB s0 (d0.names.take d0.np) := fun _ _ _ _ _ _ _ us hl => match us, hl with | [_], _ => rfl
theorem c1 : chkSs { nms with N := d1.names } ⟨defScope s1, fun _ => true⟩ d1.body (defBody s1) = true := by decide +kernel
theorem sc1 : scB d1.names (d1.names.take d1.np) (defScope s1) = true := by decide +kernel
theorem bi1 : BindB s1 (d1.names.take d1.np) := fun _ _ _ _ _ _ _ us hl => match us, hl with | [_, _, _], _ => rfl
theorem c2 : chkSs { nms with N := d2.names } ⟨defScope s2, fun _ => true⟩ d2.body (defBody s2) = true := by decide +kernel
theorem sc2 : scB d2.names (d2.names.take d2.np) (defScope s2) = true := by decide +kernel
theorem bi2 : BindB s2 (d2.names.take d2.np) := fun _ _ _ _ _ _ _ us hl => match us, hl with | [_], _ => rfl
theorem c3 : chkSs { nms with N := d3.names } ⟨defScope s3, fun _ => true⟩ d3.body (defBody s3) = true := by decide +kernel
theorem sc3 : scB d3.names (d3.names.take d3.np) (defScope s3) = true := by decide +kernel
theorem bi3 : BindB s3 (d3.names.take d3.np) := fun _ _ _ _ _ _ _ us hl => match us, hl with | [_], _ => rfl
theorem c4 : chkSs { nms with N := d4.names } ⟨defScope s4, fun _ => true⟩ d4.body (defBody s4) = true := by decide +kernel
theorem sc4 : scB d4.names (d4.names.take d4.np) (defScope s4) = true := by decide +kernel
theorem bi4 : BindB s4 (d4.names.take d4.np) := fun _ _ _ _ _ _ _ us hl => match us, hl with | [_], _ => rfl
theorem c5 : chkSs { nms with N := d5.names } ⟨defScope s5, fun _ => true⟩ d5.body (defBody s5) = true := by decide +kernel
theorem sc5 : scB d5.names (d5.names.take d5.np) (defScope s5) = true := by decide +kernel
theorem bi5 : BindB s5 (d5.names.take d5.np) := fun _ _ _ _ _ _ _ us hl => match us, hl with | [_], _ => rfl
theorem c6 : chkSs { nms with N := d6.names } ⟨defScope s6, fun _ => true⟩ d6.body (defBody s6) = true := by decide +kernel
theorem sc6 : scB d6.names (d6.names.take d6.np) (defScope s6) = true := by decide +kernel
theorem bi6 : BindB s6 (d6.names.take d6.np) := fun _ _ _ _ _ _ _ us hl => match us, hl with | [_], _ => rfl
theorem c7 : chkSs { nms with N := d7.names } ⟨defScope s7, fun _ => true⟩ d7.body (defBody s7) = true := by decide +kernel
theorem sc7 : scB d7.names (d7.names.take d7.np) (defScope s7) = true := by decide +kernel
theorem bi7 : BindB s7 (d7.names.take d7.np) := fun _ _ _ _ _ _ _ us hl => match us, hl with | [_], _ => rfl
theorem c8 : chkSs { nms with N := d8.names } ⟨defScope s8, fun _ => true⟩ d8.body (defBody s8) = true := by decide +kernel
theorem sc8 : scB d8.names (d8.names.take d8.np) (defScope s8) = true := by decide +kernel
theorem bi8 : BindB s8 (d8.names.take d8.np) := fun _ _ _ _ _ _ _ us hl => match us, hl with | [_], _ => rfl
theorem c9 : chkSs { nms with N := d9.names } ⟨defScope s9, fun _ => true⟩ d9.body (defBody s9) = true := by decide +kernel
theorem sc9 : scB d9.names (d9.names.take d9.np) (defScope s9) = true := by decide +kernel
theorem bi9 : BindB s9 (d9.names.take d9.np) := fun _ _ _ _ _ _ _ us hl => match us, hl with | [_], _ => rfl
theorem c10 : chkSs { nms with N := d10.names } ⟨defScope s10, fun _ => true⟩ d10.body (defBody s10) = true := by decide +kernel
theorem sc10 : scB d10.names (d10.names.take d10.np) (defScope s10) = true := by decide +kernel
theorem bi10 : BindB s10 (d10.names.take d10.np) := fun _ _ _ _ _ _ _ us hl => match us, hl with | [_], _ => rfl
theorem c11 : chkSs { nms with N := d11.names } ⟨defScope s11, fun _ => true⟩ d11.body (defBody s11) = true := by decide +kernel
theorem sc11 : scB d11.names (d11.names.take d11.np) (defScope s11) = true := by decide +kernel
theorem bi11 : BindB s11 (d11.names.take d11.np) := fun _ _ _ _ _ _ _ us hl => match us, hl with | [_], _ => rfl
theorem c12 : chkSs { nms with N := d12.names } ⟨defScope s12, fun _ => true⟩ d12.body (defBody s12) = true := by decide +kernel
theorem sc12 : scB d12.names (d12.names.take d12.np) (defScope s12) = true := by decide +kernel
theorem bi12 : BindB s12 (d12.names.take d12.np) := fun _ _ _ _ _ _ _ us hl => match us, hl with | [_], _ => rfl
theorem c13 : chkSs { nms with N := d13.names } ⟨defScope s13, fun _ => true⟩ d13.body (defBody s13) = true := by decide +kernel
theorem sc13 : scB d13.names (d13.names.take d13.np) (defScope s13) = true := by decide +kernel
theorem bi13 : BindB s13 (d13.names.take d13.np) := fun _ _ _ _ _ _ _ us hl => match us, hl with | [_], _ => rfl
theorem c14 : chkSs { nms with N := d14.names } ⟨defScope s14, fun _ => true⟩ d14.body (defBody s14) = true := by decide +kernel
theorem sc14 : scB d14.names (d14.names.take d14.np) (defScope s14) = true := by decide +kernel
theorem bi14 : BindB s14 (d14.names.take d14.np) := fun _ _ _ _ _ _ _ us hl => match us, hl with | [_], _ => rfl
theorem c15 : chkSs { nms with N := d15.names } ⟨defScope s15, fun _ => true⟩ d15.body (defBody s15) = true := by decide +kernel
theorem sc15 : scB d15.names (d15.names.take d15.np) (defScope s15) = true := by decide +kernel
theorem bi15 : BindB s15 (d15.names.take d15.np) := fun _ _ _ _ _ _ _ us hl => match us, hl with | [_, _], _ => rfl
theorem c16 : chkSs { nms with N := d16.names } ⟨defScope s16, fun _ => true⟩ d16.body (defBody s16) = true := by decide +kernel
theorem sc16 : scB d16.names (d16.names.take d16.np) (defScope s16) = true := by decide +kernel
theorem bi16 : BindB s16 (d16.names.take d16.np) := fun _ _ _ _ _ _ _ us hl => match us, hl with | [_, _], _ => rfl
theorem c17 : chkSs { nms with N := d17.names } ⟨defScope s17, fun _ => true⟩ d17.body (defBody s17) = true := by decide +kernel
theorem sc17 : scB d17.names (d17.names.take d17.np) (defScope s17) = true := by decide +kernel
theorem bi17 : BindB s17 (d17.names.take d17.np) := fun _ _ _ _ _ _ _ us hl => match us, hl with | [_, _], _ => rfl
theorem c18 : chkSs { nms with N := d18.names } ⟨defScope s18, fun _ => true⟩ d18.body (defBody s18) = true := by decide +kernel
theorem sc18 : scB d18.names (d18.names.take d18.np) (defScope s18) = true := by decide +kernel
theorem bi18 : BindB s18 (d18.names.take d18.np) := fun _ _ _ _ _ _ _ us hl => match us, hl with | [_, _], _ => rfl
theorem c19 : chkSs { nms with N := d19.names } ⟨defScope s19, fun _ => true⟩ d19.body (defBody s19) = true := by decide +kernel
theorem sc19 : scB d19.names (d19.names.take d19.np) (defScope s19) = true := by decide +kernel
theorem bi19 : BindB s19 (d19.names.take d19.np) := fun _ _ _ _ _ _ _ us hl => match us, hl with | [_, _], _ => rfl
theorem c20 : chkSs { nms with N := d20.names } ⟨defScope s20, fun _ => true⟩ d20.body (defBody s20) = true := by decide +kernel
theorem sc20 : scB d20.names (d20.names.take d20.np) (defScope s20) = true := by decide +kernel
theorem bi20 : BindB s20 (d20.names.take d20.np) := fun _ _ _ _ _ _ _ us hl => match us, hl with | [_], _ => rfl
theorem c21 : chkSs { nms with N := d21.names } ⟨defScope s21, fun _ => true⟩ d21.body (defBody s21) = true := by decide +kernel
theorem sc21 : scB d21.names (d21.names.take d21.np) (defScope s21) = true := by decide +kernel
theorem bi21 : BindB s21 (d21.names.take d21.np) := fun _ _ _ _ _ _ _ us hl => match us, hl with | [_], _ => rfl
theorem c22 : chkSs { nms with N := d22.names } ⟨defScope s22, fun _ => true⟩ d22.body (defBody s22) = true := by decide +kernel
theorem sc22 : scB d22.names (d22.names.take d22.np) (defScope s22) = true := by decide +kernel
theorem bi22 : BindB s22 (d22.names.take d22.np) := fun _ _ _ _ _ _ _ us hl => match us, hl with | [_], _ => rfl
theorem c23 : chkSs { nms with N := d23.names } ⟨defScope s23, fun _ => true⟩ d23.body (defBody s23) = true := by decide +kernel
theorem sc23 : scB d23.names (d23.names.take d23.np) (defScope s23) = true := by decide +kernel
theorem bi23 : BindB s23 (d23.names.take d23.np) := fun _ _ _ _ _ _ _ us hl => match us, hl with | [_, _], _ => rfl
theorem c24 : chkSs { nms with N := d24.names } ⟨defScope s24, fun _ => true⟩ d24.body (defBody s24) = true := by decide +kernel
theorem sc24 : scB d24.names (d24.names.take d24.np) (defScope s24) = true := by decide +kernel
theorem bi24 : BindB s24 (d24.names.take d24.np) := fun _ _ _ _ _ _ _ us hl => match us, hl with | [_], _ => rfl
theorem c25 : chkSs { nms with N := d25.names } ⟨defScope s25, fun _ => true⟩ d25.body (defBody s25) = true := by decide +kernel
theorem sc25 : scB d25.names (d25.names.take d25.np) (defScope s25) = true := by decide +kernel
theorem bi25 : BindB s25 (d25.names.take d25.np) := fun _ _ _ _ _ _ _ us hl => match us, hl with | [_], _ => rfl
theorem c26 : chkSs { nms with N := d26.names } ⟨defScope s26, fun _ => true⟩ d26.body (defBody s26) = true := by decide +kernel
theorem sc26 : scB d26.names (d26.names.take d26.np) (defScope s26) = true := by decide +kernel
theorem bi26 : BindB s26 (d26.names.take d26.np) := fun _ _ _ _ _ _ _ us hl => match us, hl with | [_], _ => rfl
theorem c27 : chkSs { nms with N := d27.names } ⟨defScope s27, fun _ => true⟩ d27.body (defBody s27) = true := by decide +kernel
theorem sc27 : scB d27.names (d27.names.take d27.np) (defScope s27) = true := by decide +kernel
theorem bi27 : BindB s27 (d27.names.take d27.np) := fun _ _ _ _ _ _ _ us hl => match us, hl with | [_], _ => rfl
theorem c28 : chkSs { nms with N := d28.names } ⟨defScope s28, fun _ => true⟩ d28.body (defBody s28) = true := by decide +kernel
theorem sc28 : scB d28.names (d28.names.take d28.np) (defScope s28) = true := by decide +kernel
theorem bi28 : BindB s28 (d28.names.take d28.np) := fun _ _ _ _ _ _ _ us hl => match us, hl with | [_], _ => rfl
theorem c29 : chkSs { nms with N := d29.names } ⟨defScope s29, fun _ => true⟩ d29.body (defBody s29) = true := by decide +kernel
theorem sc29 : scB d29.names (d29.names.take d29.np) (defScope s29) = true := by decide +kernel
theorem bi29 : BindB s29 (d29.names.take d29.np) := fun _ _ _ _ _ _ _ us hl => match us, hl with | [_], _ => rfl
theorem c30 : chkSs { nms with N := d30.names } ⟨defScope s30, fun _ => true⟩ d30.body (defBody s30) = true := by decide +kernel
theorem sc30 : scB d30.names (d30.names.take d30.np) (defScope s30) = true := by decide +kernel
theorem bi30 : BindB s30 (d30.names.take d30.np) := fun _ _ _ _ _ _ _ us hl => match us, hl with | [_, _, _, _], _ => rfl
theorem c31 : chkSs { nms with N := d31.names } ⟨defScope s31, fun _ => true⟩ d31.body (defBody s31) = true := by decide +kernel
theorem sc31 : scB d31.names (d31.names.take d31.np) (defScope s31) = true := by decide +kernel
theorem bi31 : BindB s31 (d31.names.take d31.np) := fun _ _ _ _ _ _ _ us hl => match us, hl with | [_], _ => rfl
theorem c32 : chkSs { nms with N := d32.names } ⟨defScope s32, fun _ => true⟩ d32.body (defBody s32) = true := by decide +kernel
theorem sc32 : scB d32.names (d32.names.take d32.np) (defScope s32) = true := by decide +kernel
theorem bi32 : BindB s32 (d32.names.take d32.np) := fun _ _ _ _ _ _ _ us hl => match us, hl with | [_], _ => rfl
theorem c33 : chkSs { nms with N := d33.names } ⟨defScope s33, fun _ => true⟩ d33.body (defBody s33) = true := by decide +kernel
theorem sc33 : scB d33.names (d33.names.take d33.np) (defScope s33) = true := by decide +kernel
theorem bi33 : BindB s33 (d33.names.take d33.np) := fun _ _ _ _ _ _ _ us hl => match us, hl with | [_], _ => rfl
theorem c34 : chkSs { nms with N := d34.names } ⟨defScope s34, fun _ => true⟩ d34.body (defBody s34) = true := by decide +kernel
theorem sc34 : scB d34.names (d34.names.take d34.np) (defScope s34) = true := by decide +kernel
theorem bi34 : BindB s34 (d34.names.take d34.np) := fun _ _ _ _ _ _ _ us hl => match us, hl with | [_, _], _ => rfl
theorem c35 : chkSs { nms with N := d35.names } ⟨defScope s35, fun _ => true⟩ d35.body (defBody s35) = true := by decide +kernel
theorem sc35 : scB d35.names (d35.names.take d35.np) (defScope s35) = true := by decide +kernel
theorem bi35 : BindB s35 (d35.names.take d35.np) := fun _ _ _ _ _ _ _ us hl => match us, hl with | [_], _ => rfl
theorem c36 : chkSs { nms with N := d36.names } ⟨defScope s36, fun _ => true⟩ d36.body (defBody s36) = true := by decide +kernel
theorem sc36 : scB d36.names (d36.names.take d36.np) (defScope s36) = true := by decide +kernel
theorem bi36 : BindB s36 (d36.names.take d36.np) := fun _ _ _ _ _ _ _ us hl => match us, hl with | [_], _ => rfl
theorem c37 : chkSs { nms with N := d37.names } ⟨defScope s37, fun _ => true⟩ d37.body (defBody s37) = true := by decide +kernel
theorem sc37 : scB d37.names (d37.names.take d37.np) (defScope s37) = true := by decide +kernel
theorem bi37 : BindB s37 (d37.names.take d37.np) := fun _ _ _ _ _ _ _ us hl => match us, hl with | [_], _ => rfl
theorem c38 : chkSs { nms with N := d38.names } ⟨defScope s38, fun _ => true⟩ d38.body (defBody s38) = true := by decide +kernel
theorem sc38 : scB d38.names (d38.names.take d38.np) (defScope s38) = true := by decide +kernel
theorem bi38 : BindB s38 (d38.names.take d38.np) := fun _ _ _ _ _ _ _ us hl => match us, hl with | [_], _ => rfl
theorem c39 : chkSs { nms with N := d39.names } ⟨defScope s39, fun _ => true⟩ d39.body (defBody s39) = true := by decide +kernel
theorem sc39 : scB d39.names (d39.names.take d39.np) (defScope s39) = true := by decide +kernel
theorem bi39 : BindB s39 (d39.names.take d39.np) := fun _ _ _ _ _ _ _ us hl => match us, hl with | [_], _ => rfl
theorem c40 : chkSs { nms with N := d40.names } ⟨defScope s40, fun _ => true⟩ d40.body (defBody s40) = true := by decide +kernel
theorem sc40 : scB d40.names (d40.names.take d40.np) (defScope s40) = true := by decide +kernel
theorem bi40 : BindB s40 (d40.names.take d40.np) := fun _ _ _ _ _ _ _ us hl => match us, hl with | [_], _ => rfl
theorem c41 : chkSs { nms with N := d41.names } ⟨defScope s41, fun _ => true⟩ d41.body (defBody s41) = true := by decide +kernel
theorem sc41 : scB d41.names (d41.names.take d41.np) (defScope s41) = true := by decide +kernel
theorem bi41 : BindB s41 (d41.names.take d41.np) := fun _ _ _ _ _ _ _ us hl => match us, hl with | [_], _ => rfl
theorem c42 : chkSs { nms with N := d42.names } ⟨defScope s42, fun _ => true⟩ d42.body (defBody s42) = true := by decide +kernel
theorem sc42 : scB d42.names (d42.names.take d42.np) (defScope s42) = true := by decide +kernel
theorem bi42 : BindB s42 (d42.names.take d42.np) := fun _ _ _ _ _ _ _ us hl => match us, hl with | [_], _ => rfl
theorem c43 : chkSs { nms with N := d43.names } ⟨defScope s43, fun _ => true⟩ d43.body (defBody s43) = true := by decide +kernel
theorem sc43 : scB d43.names (d43.names.take d43.np) (defScope s43) = true := by decide +kernel
theorem bi43 : BindB s43 (d43.names.take d43.np) := fun _ _ _ _ _ _ _ us hl => match us, hl with | [_], _ => rfl
theorem c44 : chkSs { nms with N := d44.names } ⟨defScope s44, fun _ => true⟩ d44.body (defBody s44) = true := by decide +kernel
theorem sc44 : scB d44.names (d44.names.take d44.np) (defScope s44) = true := by decide +kernel
theorem bi44 : BindB s44 (d44.names.take d44.np) := fun _ _ _ _ _ _ _ us hl => match us, hl with | [_], _ => rfl
theorem c45 : chkSs { nms with N := d45.names } ⟨defScope s45, fun _ => true⟩ d45.body (defBody s45) = true := by decide +kernel
theorem sc45 : scB d45.names (d45.names.take d45.np) (defScope s45) = true := by decide +kernel
theorem bi45 : BindB s45 (d45.names.take d45.np) := fun _ _ _ _ _ _ _ us hl => match us, hl with | [_, _], _ => rfl
theorem c46 : chkSs { nms with N := d46.names } ⟨defScope s46, fun _ => true⟩ d46.body (defBody s46) = true := by decide +kernel
theorem sc46 : scB d46.names (d46.names.take d46.np) (defScope s46) = true := by decide +kernel
theorem bi46 : BindB s46 (d46.names.take d46.np) := fun _ _ _ _ _ _ _ us hl => match us, hl with | [_, _], _ => rfl
theorem c47 : chkSs { nms with N := d47.names } ⟨defScope s47, fun _ => true⟩ d47.body (defBody s47) = true := by decide +kernel
theorem sc47 : scB d47.names (d47.names.take d47.np) (defScope s47) = true := by decide +kernel
theorem bi47 : BindB s47 (d47.names.take d47.np) := fun _ _ _ _ _ _ _ us hl => match us, hl with | [_], _ => rfl
theorem c48 : chkSs { nms with N := d48.names } ⟨defScope s48, fun _ => true⟩ d48.body (defBody s48) = true := by decide +kernel
theorem sc48 : scB d48.names (d48.names.take d48.np) (defScope s48) = true := by decide +kernel
theorem bi48 : BindB s48 (d48.names.take d48.np) := fun _ _ _ _ _ _ _ us hl => match us, hl with | [_], _ => rfl
theorem c49 : chkSs { nms with N := d49.names } ⟨defScope s49, fun _ => true⟩ d49.body (defBody s49) = true := by decide +kernel
theorem sc49 : scB d49.names (d49.names.take d49.np) (defScope s49) = true := by decide +kernel
theorem bi49 : BindB s49 (d49.names.take d49.np) := fun _ _ _ _ _ _ _ us hl => match us, hl with | [_], _ => rfl
theorem c50 : chkSs { nms with N := d50.names } ⟨defScope s50, fun _ => true⟩ d50.body (defBody s50) = true := by decide +kernel
theorem sc50 : scB d50.names (d50.names.take d50.np) (defScope s50) = true := by decide +kernel
theorem bi50 : BindB s50 (d50.names.take d50.np) := fun _ _ _ _ _ _ _ us hl => match us, hl with | [_], _ => rfl
theorem tup2_mk {K : PySem.W.Frag} {a0 : Addr} {dd0 : Option Addr} {n0 : Nat} {sl0 : Array (Option Value)} {t0_0 : Tok} {t0_1 : Tok} {t0_2 : Tok} {t0_3 : Tok} {t0_4 : Tok} {t0_5 : Tok} {t0_6 : Tok} (h1 : PySem.W.nsIn K mainGlobals "PAIRS" = some (some (.ref a0))) (l0 : K.lookup a0 = some ⟨.type "tuple", dd0, .seq #[.str "sum" t0_0, .str "difference" t0_1, .str "lesser" t0_2, .str "greater" t0_3, .str "otherwise" t0_4, .str "after" t0_5, .str "split" t0_6] n0, sl0⟩) : ∃ a, PySem.W.nsIn K mainGlobals "PAIRS" = some (some (.ref a)) ∧ ∀ (g : Gh) (H : Hp), g.kc = kons → Rp K g H (.tuple [(S [115, 117, 109]), (S [100, 105, 102, 102, 101, 114, 101, 110, 99, 101]), (S [108, 101, 115, 115, 101, 114]), (S [103, 114, 101, 97, 116, 101, 114]), (S [111, 116, 104, 101, 114, 119, 105, 115, 101]), (S [97, 102, 116, 101, 114]), (S [115, 112, 108, 105, 116])]) (.ref a) := ⟨a0, h1, fun g H hk => Rp.tup (vs := [.str "sum", .str "difference", .str "lesser", .str "greater", .str "otherwise", .str "after", .str "split"]) (.inr ⟨⟨_, _, _, l0, rfl, rfl, by rw [sizeLine_eq]; exact (by decide : 7 ≤ 16777216), (.cons ⟨_, rfl⟩ (.cons ⟨_, rfl⟩ (.cons ⟨_, rfl⟩ (.cons ⟨_, rfl⟩ (.cons ⟨_, rfl⟩ (.cons ⟨_, rfl⟩ (.cons ⟨_, rfl⟩ .nil)))))))⟩, by rw [hk]; exact List.mem_of_getElem? (i := 2) rfl⟩) (.cons (.str _) (.cons (.str _) (.cons (.str _) (.cons (.str _) (.cons (.str _) (.cons (.str _) (.cons (.str _) .nil)))))))⟩
theorem tup3_mk {K : PySem.W.Frag} {a0 : Addr} {dd0 : Option Addr} {n0 : Nat} {sl0 : Array (Option Value)} {t0_0 : Tok} {t0_1 : Tok} {t0_2 : Tok} {t0_3 : Tok} {t0_4 : Tok} (h1 : PySem.W.nsIn K mainGlobals "SINGLES" = some (some (.ref a0))) (l0 : K.lookup a0 = some ⟨.type "tuple", dd0, .seq #[.str "times" t0_0, .str "divided" t0_1, .str "where" t0_2, .str "moved" t0_3, .str "from" t0_4] n0, sl0⟩) : ∃ a, PySem.W.nsIn K mainGlobals "SINGLES" = some (some (.ref a)) ∧ ∀ (g : Gh) (H : Hp), g.kc = kons → Rp K g H (.tuple [(S [116, 105, 109, 101, 115]), (S [100, 105, 118, 105, 100, 101, 100]), (S [119, 104, 101, 114, 101]), (S [109, 111, 118, 101, 100]), (S [102, 114, 111, 109])]) (.ref a) := ⟨a0, h1, fun g H hk => Rp.tup (vs := [.str "times", .str "divided", .str "where", .str "moved", .str "from"]) (.inr ⟨⟨_, _, _, l0, rfl, rfl, by rw [sizeLine_eq]; exact (by decide : 5 ≤ 16777216), (.cons ⟨_, rfl⟩ (.cons ⟨_, rfl⟩ (.cons ⟨_, rfl⟩ (.cons ⟨_, rfl⟩ (.cons ⟨_, rfl⟩ .nil)))))⟩, by rw [hk]; exact List.mem_of_getElem? (i := 3) rfl⟩) (.cons (.str _) (.cons (.str _) (.cons (.str _) (.cons (.str _) (.cons (.str _) .nil)))))⟩
theorem tup5_mk {K : PySem.W.Frag} {a0 : Addr} {dd0 : Option Addr} {n0 : Nat} {sl0 : Array (Option Value)} {t0_0 : Tok} {a1 : Addr} {dd1 : Option Addr} {n1 : Nat} {sl1 : Array (Option Value)} {a2 : Addr} {dd2 : Option Addr} {n2 : Nat} {sl2 : Array (Option Value)} {a3 : Addr} {dd3 : Option Addr} {n3 : Nat} {sl3 : Array (Option Value)} {a4 : Addr} {dd4 : Option Addr} {n4 : Nat} {sl4 : Array (Option Value)} {t4_1 : Tok} (h1 : PySem.W.nsIn K mainGlobals "NO_FORM" = some (some (.ref a0))) (l0 : K.lookup a0 = some ⟨.type "tuple", dd0, .seq #[.str "form" t0_0, .ref a1] n0, sl0⟩) (l1 : K.lookup a1 = some ⟨.type "tuple", dd1, .seq #[.ref a2, .ref a3] n1, sl1⟩) (l2 : K.lookup a2 = some ⟨.type "tuple", dd2, .seq #[] n2, sl2⟩) (l3 : K.lookup a3 = some ⟨.type "tuple", dd3, .seq #[.ref a4] n3, sl3⟩) (l4 : K.lookup a4 = some ⟨.type "tuple", dd4, .seq #[.none, .int (0) t4_1] n4, sl4⟩) : ∃ a, PySem.W.nsIn K mainGlobals "NO_FORM" = some (some (.ref a)) ∧ ∀ (g : Gh) (H : Hp), g.kc = kons → Rp K g H (.tuple [(S [102, 111, 114, 109]), (.tuple [(.tuple []), (.tuple [(.tuple [(.none), (.int (0))])])])]) (.ref a) := ⟨a0, h1, fun g H hk => Rp.tup (vs := [.str "form", .ref a1]) (.inr ⟨⟨_, _, _, l0, rfl, rfl, by rw [sizeLine_eq]; exact (by decide : 2 ≤ 16777216), (.cons ⟨_, rfl⟩ (.cons rfl .nil))⟩, by rw [hk]; exact List.mem_of_getElem? (i := 5) rfl⟩) (.cons (.str _) (.cons (Rp.tup (vs := [.ref a2, .ref a3]) (.inr ⟨⟨_, _, _, l1, rfl, rfl, by rw [sizeLine_eq]; exact (by decide : 2 ≤ 16777216), (.cons rfl (.cons rfl .nil))⟩, by rw [hk]; exact List.mem_of_getElem? (i := 11) rfl⟩) (.cons (Rp.tup (vs := []) (.inr ⟨⟨_, _, _, l2, rfl, rfl, by rw [sizeLine_eq]; exact (by decide : 0 ≤ 16777216), .nil⟩, by rw [hk]; exact List.mem_of_getElem? (i := 8) rfl⟩) .nil) (.cons (Rp.tup (vs := [.ref a4]) (.inr ⟨⟨_, _, _, l3, rfl, rfl, by rw [sizeLine_eq]; exact (by decide : 1 ≤ 16777216), (.cons rfl .nil)⟩, by rw [hk]; exact List.mem_of_getElem? (i := 10) rfl⟩) (.cons (Rp.tup (vs := [.non, .int (0)]) (.inr ⟨⟨_, _, _, l4, rfl, rfl, by rw [sizeLine_eq]; exact (by decide : 2 ≤ 16777216), (.cons rfl (.cons ⟨_, rfl⟩ .nil))⟩, by rw [hk]; exact List.mem_of_getElem? (i := 9) rfl⟩) (.cons .non (.cons (.int _) .nil))) .nil)) .nil))) .nil))⟩
theorem mod_ok {P : Program} {w : World} {K : PySem.W.Frag} {h : Heap} {mg : Str → Option Value} {fa : Addr} (X : K.In h) (G : h.Ns mainGlobals mg) (hfa : mg "law" = some (.ref fa))
    (h0 : ∃ f, DefAt K "is_integer" s0 f)
    (h1 : ∃ f, DefAt K "is_between" s1 f)
    (h2 : ∃ f, DefAt K "is_name" s2 f)
    (h3 : ∃ f, DefAt K "is_figures" s3 f)
    (h4 : ∃ f, DefAt K "is_ascending" s4 f)
    (h5 : ∃ f, DefAt K "is_bound" s5 f)
    (h6 : ∃ f, DefAt K "_is_pair" s6 f)
    (h7 : ∃ f, DefAt K "form_fault" s7 f)
    (h8 : ∃ f, DefAt K "is_values" s8 f)
    (h9 : ∃ f, DefAt K "_is_leaf" s9 f)
    (h10 : ∃ f, DefAt K "is_right_row" s10 f)
    (h11 : ∃ f, DefAt K "inner_of" s11 f)
    (h12 : ∃ f, DefAt K "tuples_of" s12 f)
    (h13 : ∃ f, DefAt K "words_of" s13 f)
    (h14 : ∃ f, DefAt K "integer_of" s14 f)
    (h15 : ∃ f, DefAt K "optional_of" s15 f)
    (h16 : ∃ f, DefAt K "optional_word" s16 f)
    (h17 : ∃ f, DefAt K "words_at" s17 f)
    (h18 : ∃ f, DefAt K "begin" s18 f)
    (h19 : ∃ f, DefAt K "finish" s19 f)
    (h20 : ∃ f, DefAt K "_pair_word" s20 f)
    (h21 : ∃ f, DefAt K "form_lines" s21 f)
    (h22 : ∃ f, DefAt K "_pair_of" s22 f)
    (h23 : ∃ f, DefAt K "read_form" s23 f)
    (h24 : ∃ f, DefAt K "format_form" s24 f)
    (h25 : ∃ f, DefAt K "parse_form" s25 f)
    (h26 : ∃ f, DefAt K "_row_lines" s26 f)
    (h27 : ∃ f, DefAt K "_member_word" s27 f)
    (h28 : ∃ f, DefAt K "formula_lines" s28 f)
    (h29 : ∃ f, DefAt K "_row_of" s29 f)
    (h30 : ∃ f, DefAt K "read_formula" s30 f)
    (h31 : ∃ f, DefAt K "format_formula" s31 f)
    (h32 : ∃ f, DefAt K "parse_formula" s32 f)
    (h33 : ∃ f, DefAt K "_law_state" s33 f)
    (h34 : ∃ f, DefAt K "_law_draw" s34 f)
    (h35 : ∃ f, DefAt K "_law_number" s35 f)
    (h36 : ∃ f, DefAt K "_law_name" s36 f)
    (h37 : ∃ f, DefAt K "_law_inner" s37 f)
    (h38 : ∃ f, DefAt K "_law_rows" s38 f)
    (h39 : ∃ f, DefAt K "_law_word" s39 f)
    (h40 : ∃ f, DefAt K "_law_form_lines" s40 f)
    (h41 : ∃ f, DefAt K "_law_row_lines" s41 f)
    (h42 : ∃ f, DefAt K "_law_lines" s42 f)
    (h43 : ∃ f, DefAt K "_law_long" s43 f)
    (h44 : ∃ f, DefAt K "_law_text_form" s44 f)
    (h45 : ∃ f, DefAt K "_law_text_row" s45 f)
    (h46 : ∃ f, DefAt K "_law_text" s46 f)
    (h47 : ∃ f, DefAt K "_law_formula_holds" s47 f)
    (h48 : ∃ f, DefAt K "_law_form_holds" s48 f)
    (h49 : ∃ f, DefAt K "_law_ints" s49 f)
    (h50 : ∃ f, DefAt K "law" s50 f)
    (z0 : PySem.W.nsIn K mainGlobals "len" = some none)
    (z1 : PySem.W.nsIn K mainGlobals "all" = some none)
    (z2 : PySem.W.nsIn K mainGlobals "any" = some none)
    (z3 : PySem.W.nsIn K mainGlobals "int" = some none)
    (z4 : PySem.W.nsIn K mainGlobals "str" = some none)
    (z5 : PySem.W.nsIn K mainGlobals "bool" = some none)
    (z6 : PySem.W.nsIn K mainGlobals "tuple" = some none)
    (z7 : PySem.W.nsIn K mainGlobals "list" = some none)
    (z8 : PySem.W.nsIn K mainGlobals "sorted" = some none)
    (z9 : PySem.W.nsIn K mainGlobals "min" = some none)
    (z10 : PySem.W.nsIn K mainGlobals "max" = some none)
    (z11 : PySem.W.nsIn K mainGlobals "abs" = some none)
    (z12 : PySem.W.nsIn K mainGlobals "sum" = some none)
    (z13 : PySem.W.nsIn K mainGlobals "isinstance" = some none)
    (z14 : PySem.W.nsIn K mainGlobals "range" = some none)
    (z15 : PySem.W.nsIn K mainGlobals "enumerate" = some none)
    (q0 : ∃ (i : Int) (t : Tok), PySem.W.nsIn K mainGlobals "MAX_HEAD" = some (some (.int (4000) t)) ∧ i = (4000))
    (q1 : ∃ (i : Int) (t : Tok), PySem.W.nsIn K mainGlobals "MAX_PERIOD" = some (some (.int (1000) t)) ∧ i = (1000))
    (q2 : ∃ a, PySem.W.nsIn K mainGlobals "PAIRS" = some (some (.ref a)) ∧ ∀ (g : Gh) (H : Hp), g.kc = kons → Rp K g H (.tuple [(S [115, 117, 109]), (S [100, 105, 102, 102, 101, 114, 101, 110, 99, 101]), (S [108, 101, 115, 115, 101, 114]), (S [103, 114, 101, 97, 116, 101, 114]), (S [111, 116, 104, 101, 114, 119, 105, 115, 101]), (S [97, 102, 116, 101, 114]), (S [115, 112, 108, 105, 116])]) (.ref a))
    (q3 : ∃ a, PySem.W.nsIn K mainGlobals "SINGLES" = some (some (.ref a)) ∧ ∀ (g : Gh) (H : Hp), g.kc = kons → Rp K g H (.tuple [(S [116, 105, 109, 101, 115]), (S [100, 105, 118, 105, 100, 101, 100]), (S [119, 104, 101, 114, 101]), (S [109, 111, 118, 101, 100]), (S [102, 114, 111, 109])]) (.ref a))
    (q4 : ∃ (i : Int) (t : Tok), PySem.W.nsIn K mainGlobals "MAX_SIGNS" = some (some (.int (40) t)) ∧ i = (40))
    (q5 : ∃ a, PySem.W.nsIn K mainGlobals "NO_FORM" = some (some (.ref a)) ∧ ∀ (g : Gh) (H : Hp), g.kc = kons → Rp K g H (.tuple [(S [102, 111, 114, 109]), (.tuple [(.tuple []), (.tuple [(.tuple [(.none), (.int (0))])])])]) (.ref a))
    (q6 : ∃ (i : Int) (t : Tok), PySem.W.nsIn K mainGlobals "MAX_TUPLES" = some (some (.int (40) t)) ∧ i = (40))
    (q7 : ∃ (i : Int) (t : Tok), PySem.W.nsIn K mainGlobals "MAX_DEPTH" = some (some (.int (10) t)) ∧ i = (10))
    (e0 : ∃ C, ErrAt K "InvalidLine" "number" C ∧ ∃ fI, InitAt K C "InvalidLine.__init__" (inClass (top 2) 0) fI)
    : ∃ fd : FuncData, (∀ (s : Shared) (u : Value), BindsTo s fd ⟨[u], []⟩ [("script", u)]) ∧ ∀ base : Heap, K.In base → base.Ns mainGlobals mg → L2.FnOk P w K mg base (L2.CX P w) 62 fa fd ["script"] (fun vs H Q E => ∀ I, SpR I K kons (Rx.run kons tab 0 60) 50 vs H Q E) := by
  obtain ⟨f0, D0⟩ := h0
  obtain ⟨f1, D1⟩ := h1
  obtain ⟨f2, D2⟩ := h2
  obtain ⟨f3, D3⟩ := h3
  obtain ⟨f4, D4⟩ := h4
  obtain ⟨f5, D5⟩ := h5
  obtain ⟨f6, D6⟩ := h6
  obtain ⟨f7, D7⟩ := h7
  obtain ⟨f8, D8⟩ := h8
  obtain ⟨f9, D9⟩ := h9
  obtain ⟨f10, D10⟩ := h10
  obtain ⟨f11, D11⟩ := h11
  obtain ⟨f12, D12⟩ := h12
  obtain ⟨f13, D13⟩ := h13
  obtain ⟨f14, D14⟩ := h14
  obtain ⟨f15, D15⟩ := h15
  obtain ⟨f16, D16⟩ := h16
  obtain ⟨f17, D17⟩ := h17
  obtain ⟨f18, D18⟩ := h18
  obtain ⟨f19, D19⟩ := h19
  obtain ⟨f20, D20⟩ := h20
  obtain ⟨f21, D21⟩ := h21
  obtain ⟨f22, D22⟩ := h22
  obtain ⟨f23, D23⟩ := h23
  obtain ⟨f24, D24⟩ := h24
  obtain ⟨f25, D25⟩ := h25
  obtain ⟨f26, D26⟩ := h26
  obtain ⟨f27, D27⟩ := h27
  obtain ⟨f28, D28⟩ := h28
  obtain ⟨f29, D29⟩ := h29
  obtain ⟨f30, D30⟩ := h30
  obtain ⟨f31, D31⟩ := h31
  obtain ⟨f32, D32⟩ := h32
  obtain ⟨f33, D33⟩ := h33
  obtain ⟨f34, D34⟩ := h34
  obtain ⟨f35, D35⟩ := h35
  obtain ⟨f36, D36⟩ := h36
  obtain ⟨f37, D37⟩ := h37
  obtain ⟨f38, D38⟩ := h38
  obtain ⟨f39, D39⟩ := h39
  obtain ⟨f40, D40⟩ := h40
  obtain ⟨f41, D41⟩ := h41
  obtain ⟨f42, D42⟩ := h42
  obtain ⟨f43, D43⟩ := h43
  obtain ⟨f44, D44⟩ := h44
  obtain ⟨f45, D45⟩ := h45
  obtain ⟨f46, D46⟩ := h46
  obtain ⟨f47, D47⟩ := h47
  obtain ⟨f48, D48⟩ := h48
  obtain ⟨f49, D49⟩ := h49
  obtain ⟨f50, D50⟩ := h50
  obtain ⟨C0, E0, fI0, J0⟩ := e0
  let I : Ins := ⟨fun k => [f0, f1, f2, f3, f4, f5, f6, f7, f8, f9, f10, f11, f12, f13, f14, f15, f16, f17, f18, f19, f20, f21, f22, f23, f24, f25, f26, f27, f28, f29, f30, f31, f32, f33, f34, f35, f36, f37, f38, f39, f40, f41, f42, f43, f44, f45, f46, f47, f48, f49, f50].getD k 0, fun k => [C0].getD k 0, fun k => (["number"] : List Str).getD k default⟩
  have M : ModF P w K mg I kons tab nms := by
    refine ⟨by decide +kernel, ?fn, ?kon, ?bl, ?cls, ?num⟩
    case fn =>
      intro k d e
      match k, e with
      | 0, e =>
        obtain rfl : d0 = d := Option.some.inj e
        exact row_ok X G D0 (scB_ok sc0) (.inl c0) bi0 (by decide)
      | 1, e =>
        obtain rfl : d1 = d := Option.some.inj e
        exact row_ok X G D1 (scB_ok sc1) (.inl c1) bi1 (by decide)
      | 2, e =>
        obtain rfl : d2 = d := Option.some.inj e
        exact row_ok X G D2 (scB_ok sc2) (.inl c2) bi2 (by decide)
      | 3, e =>
        obtain rfl : d3 = d := Option.some.inj e
        exact row_ok X G D3 (scB_ok sc3) (.inl c3) bi3 (by decide)
      | 4, e =>
        obtain rfl : d4 = d := Option.some.inj e
        exact row_ok X G D4 (scB_ok sc4) (.inl c4) bi4 (by decide)
      | 5, e =>
        obtain rfl : d5 = d := Option.some.inj e
        exact row_ok X G D5 (scB_ok sc5) (.inl c5) bi5 (by decide)
      | 6, e =>
        obtain rfl : d6 = d := Option.some.inj e
        exact row_ok X G D6 (scB_ok sc6) (.inl c6) bi6 (by decide)
      | 7, e =>
        obtain rfl : d7 = d := Option.some.inj e
        exact row_ok X G D7 (scB_ok sc7) (.inl c7) bi7 (by decide)
      | 8, e =>
        obtain rfl : d8 = d := Option.some.inj e
        exact row_ok X G D8 (scB_ok sc8) (.inl c8) bi8 (by decide)
      | 9, e =>
        obtain rfl : d9 = d := Option.some.inj e
        exact row_ok X G D9 (scB_ok sc9) (.inl c9) bi9 (by decide)
      | 10, e =>
        obtain rfl : d10 = d := Option.some.inj e
        exact row_ok X G D10 (scB_ok sc10) (.inl c10) bi10 (by decide)
      | 11, e =>
        obtain rfl : d11 = d := Option.some.inj e
        exact row_ok X G D11 (scB_ok sc11) (.inl c11) bi11 (by decide)
      | 12, e =>
        obtain rfl : d12 = d := Option.some.inj e
        exact row_ok X G D12 (scB_ok sc12) (.inl c12) bi12 (by decide)
      | 13, e =>
        obtain rfl : d13 = d := Option.some.inj e
        exact row_ok X G D13 (scB_ok sc13) (.inl c13) bi13 (by decide)
      | 14, e =>
        obtain rfl : d14 = d := Option.some.inj e
        exact row_ok X G D14 (scB_ok sc14) (.inl c14) bi14 (by decide)
      | 15, e =>
        obtain rfl : d15 = d := Option.some.inj e
        exact row_ok X G D15 (scB_ok sc15) (.inl c15) bi15 (by decide)
      | 16, e =>
        obtain rfl : d16 = d := Option.some.inj e
        exact row_ok X G D16 (scB_ok sc16) (.inl c16) bi16 (by decide)
      | 17, e =>
        obtain rfl : d17 = d := Option.some.inj e
        exact row_ok X G D17 (scB_ok sc17) (.inl c17) bi17 (by decide)
      | 18, e =>
        obtain rfl : d18 = d := Option.some.inj e
        exact row_ok X G D18 (scB_ok sc18) (.inl c18) bi18 (by decide)
      | 19, e =>
        obtain rfl : d19 = d := Option.some.inj e
        exact row_ok X G D19 (scB_ok sc19) (.inl c19) bi19 (by decide)
      | 20, e =>
        obtain rfl : d20 = d := Option.some.inj e
        exact row_ok X G D20 (scB_ok sc20) (.inl c20) bi20 (by decide)
      | 21, e =>
        obtain rfl : d21 = d := Option.some.inj e
        exact row_ok X G D21 (scB_ok sc21) (.inl c21) bi21 (by decide)
      | 22, e =>
        obtain rfl : d22 = d := Option.some.inj e
        exact row_ok X G D22 (scB_ok sc22) (.inl c22) bi22 (by decide)
      | 23, e =>
        obtain rfl : d23 = d := Option.some.inj e
        exact row_ok X G D23 (scB_ok sc23) (.inl c23) bi23 (by decide)
      | 24, e =>
        obtain rfl : d24 = d := Option.some.inj e
        exact row_ok X G D24 (scB_ok sc24) (.inl c24) bi24 (by decide)
      | 25, e =>
        obtain rfl : d25 = d := Option.some.inj e
        exact row_ok X G D25 (scB_ok sc25) (.inl c25) bi25 (by decide)
      | 26, e =>
        obtain rfl : d26 = d := Option.some.inj e
        exact row_ok X G D26 (scB_ok sc26) (.inl c26) bi26 (by decide)
      | 27, e =>
        obtain rfl : d27 = d := Option.some.inj e
        exact row_ok X G D27 (scB_ok sc27) (.inl c27) bi27 (by decide)
      | 28, e =>
        obtain rfl : d28 = d := Option.some.inj e
        exact row_ok X G D28 (scB_ok sc28) (.inl c28) bi28 (by decide)
      | 29, e =>
        obtain rfl : d29 = d := Option.some.inj e
        exact row_ok X G D29 (scB_ok sc29) (.inl c29) bi29 (by decide)
      | 30, e =>
        obtain rfl : d30 = d := Option.some.inj e
        exact row_ok X G D30 (scB_ok sc30) (.inl c30) bi30 (by decide)
      | 31, e =>
        obtain rfl : d31 = d := Option.some.inj e
        exact row_ok X G D31 (scB_ok sc31) (.inl c31) bi31 (by decide)
      | 32, e =>
        obtain rfl : d32 = d := Option.some.inj e
        exact row_ok X G D32 (scB_ok sc32) (.inl c32) bi32 (by decide)
      | 33, e =>
        obtain rfl : d33 = d := Option.some.inj e
        exact row_ok X G D33 (scB_ok sc33) (.inl c33) bi33 (by decide)
      | 34, e =>
        obtain rfl : d34 = d := Option.some.inj e
        exact row_ok X G D34 (scB_ok sc34) (.inl c34) bi34 (by decide)
      | 35, e =>
        obtain rfl : d35 = d := Option.some.inj e
        exact row_ok X G D35 (scB_ok sc35) (.inl c35) bi35 (by decide)
      | 36, e =>
        obtain rfl : d36 = d := Option.some.inj e
        exact row_ok X G D36 (scB_ok sc36) (.inl c36) bi36 (by decide)
      | 37, e =>
        obtain rfl : d37 = d := Option.some.inj e
        exact row_ok X G D37 (scB_ok sc37) (.inl c37) bi37 (by decide)
      | 38, e =>
        obtain rfl : d38 = d := Option.some.inj e
        exact row_ok X G D38 (scB_ok sc38) (.inl c38) bi38 (by decide)
      | 39, e =>
        obtain rfl : d39 = d := Option.some.inj e
        exact row_ok X G D39 (scB_ok sc39) (.inl c39) bi39 (by decide)
      | 40, e =>
        obtain rfl : d40 = d := Option.some.inj e
        exact row_ok X G D40 (scB_ok sc40) (.inl c40) bi40 (by decide)
      | 41, e =>
        obtain rfl : d41 = d := Option.some.inj e
        exact row_ok X G D41 (scB_ok sc41) (.inl c41) bi41 (by decide)
      | 42, e =>
        obtain rfl : d42 = d := Option.some.inj e
        exact row_ok X G D42 (scB_ok sc42) (.inl c42) bi42 (by decide)
      | 43, e =>
        obtain rfl : d43 = d := Option.some.inj e
        exact row_ok X G D43 (scB_ok sc43) (.inl c43) bi43 (by decide)
      | 44, e =>
        obtain rfl : d44 = d := Option.some.inj e
        exact row_ok X G D44 (scB_ok sc44) (.inl c44) bi44 (by decide)
      | 45, e =>
        obtain rfl : d45 = d := Option.some.inj e
        exact row_ok X G D45 (scB_ok sc45) (.inl c45) bi45 (by decide)
      | 46, e =>
        obtain rfl : d46 = d := Option.some.inj e
        exact row_ok X G D46 (scB_ok sc46) (.inl c46) bi46 (by decide)
      | 47, e =>
        obtain rfl : d47 = d := Option.some.inj e
        exact row_ok X G D47 (scB_ok sc47) (.inl c47) bi47 (by decide)
      | 48, e =>
        obtain rfl : d48 = d := Option.some.inj e
        exact row_ok X G D48 (scB_ok sc48) (.inl c48) bi48 (by decide)
      | 49, e =>
        obtain rfl : d49 = d := Option.some.inj e
        exact row_ok X G D49 (scB_ok sc49) (.inl c49) bi49 (by decide)
      | 50, e =>
        obtain rfl : d50 = d := Option.some.inj e
        exact row_ok X G D50 (scB_ok sc50) (.inl c50) bi50 (by decide)
      | n + 51, e => exact absurd (show (none : Option Def) = some d from e) (by simp)
    case kon =>
      intro j x e
      match j, e with
      | 0, e =>
        obtain rfl : ("MAX_HEAD" : Str) = x := Option.some.inj e
        obtain ⟨_, t, hq, _⟩ := q0
        exact ⟨.int (4000), .int (4000) t, .int (4000), rfl, PySem.W.mg_of X G hq, ⟨t, rfl⟩, fun _ _ _ => .int _⟩
      | 1, e =>
        obtain rfl : ("MAX_PERIOD" : Str) = x := Option.some.inj e
        obtain ⟨_, t, hq, _⟩ := q1
        exact ⟨.int (1000), .int (1000) t, .int (1000), rfl, PySem.W.mg_of X G hq, ⟨t, rfl⟩, fun _ _ _ => .int _⟩
      | 2, e =>
        obtain rfl : ("PAIRS" : Str) = x := Option.some.inj e
        obtain ⟨a, hq, hR⟩ := q2
        exact ⟨.ref a, .ref a, _, rfl, PySem.W.mg_of X G hq, rfl, fun g H hk => hR g H hk⟩
      | 3, e =>
        obtain rfl : ("SINGLES" : Str) = x := Option.some.inj e
        obtain ⟨a, hq, hR⟩ := q3
        exact ⟨.ref a, .ref a, _, rfl, PySem.W.mg_of X G hq, rfl, fun g H hk => hR g H hk⟩
      | 4, e =>
        obtain rfl : ("MAX_SIGNS" : Str) = x := Option.some.inj e
        obtain ⟨_, t, hq, _⟩ := q4
        exact ⟨.int (40), .int (40) t, .int (40), rfl, PySem.W.mg_of X G hq, ⟨t, rfl⟩, fun _ _ _ => .int _⟩
      | 5, e =>
        obtain rfl : ("NO_FORM" : Str) = x := Option.some.inj e
        obtain ⟨a, hq, hR⟩ := q5
        exact ⟨.ref a, .ref a, _, rfl, PySem.W.mg_of X G hq, rfl, fun g H hk => hR g H hk⟩
      | 6, e =>
        obtain rfl : ("MAX_TUPLES" : Str) = x := Option.some.inj e
        obtain ⟨_, t, hq, _⟩ := q6
        exact ⟨.int (40), .int (40) t, .int (40), rfl, PySem.W.mg_of X G hq, ⟨t, rfl⟩, fun _ _ _ => .int _⟩
      | 7, e =>
        obtain rfl : ("MAX_DEPTH" : Str) = x := Option.some.inj e
        obtain ⟨_, t, hq, _⟩ := q7
        exact ⟨.int (10), .int (10) t, .int (10), rfl, PySem.W.mg_of X G hq, ⟨t, rfl⟩, fun _ _ _ => .int _⟩
      | n + 8, e => exact absurd (show (none : Option Str) = some x from e) (by simp)
    case bl =>
      intro x hx
      simp only [bltNames, List.mem_cons, List.not_mem_nil, or_false] at hx
      rcases hx with rfl | rfl | rfl | rfl | rfl | rfl | rfl | rfl | rfl | rfl | rfl | rfl | rfl | rfl | rfl | rfl
      · exact PySem.W.mg_none_of X G z0
      · exact PySem.W.mg_none_of X G z1
      · exact PySem.W.mg_none_of X G z2
      · exact PySem.W.mg_none_of X G z3
      · exact PySem.W.mg_none_of X G z4
      · exact PySem.W.mg_none_of X G z5
      · exact PySem.W.mg_none_of X G z6
      · exact PySem.W.mg_none_of X G z7
      · exact PySem.W.mg_none_of X G z8
      · exact PySem.W.mg_none_of X G z9
      · exact PySem.W.mg_none_of X G z10
      · exact PySem.W.mg_none_of X G z11
      · exact PySem.W.mg_none_of X G z12
      · exact PySem.W.mg_none_of X G z13
      · exact PySem.W.mg_none_of X G z14
      · exact PySem.W.mg_none_of X G z15
    case cls =>
      intro j x e
      match j, e with
      | 0, e =>
        obtain rfl : ("InvalidLine" : Str) = x := Option.some.inj e
        obtain ⟨oc, od, kV, dc, pm, an, cd, ct, sl, il, ic⟩ := J0.fn
        have Fi := fun_mk (st := inClass (top 2) 0) il ic J0.kp
        exact ⟨PySem.W.mg_of X G E0.at_, E0.ox, E0.no, ⟨fI0, _, ["self", "number"], J0.at_, J0.ty, fun base => init_ok Fi (scB_ok (by decide +kernel)) rfl (by decide +kernel) (by decide +kernel) (by decide +kernel) (by decide +kernel) E0.ox E0.no, Fi.binds (ps := ["self", "number"]) fun _ _ _ _ _ _ us hl => match us, hl with | [_, _], _ => rfl⟩, E0.te⟩
      | n + 1, e => exact absurd (show (none : Option Str) = some x from e) (by simp)
    case num =>
      intro p hp
      exact absurd hp (by simp [nms])
  obtain ⟨fd, ⟨st, F1⟩, _, _⟩ := all_ok (base := default) M 0 60 50 d50 rfl
  have efa : fa = f50 := by
    have := hfa.symm.trans (PySem.W.mg_of X G D50.at_)
    cases this; rfl
  subst efa
  obtain ⟨oc, od, kV, dc, pm, an, cd, ct, sl, il, ic⟩ := D50.fn
  refine ⟨PySem.W.fnOf "law" "law" (defArgs s50) (defBody s50) (defScope s50) .none kV dc pm an cd ct, fun s v => .of_eq rfl, fun base _ _ => ?_⟩
  obtain ⟨fd', ⟨st', F1'⟩, F2', _⟩ := all_ok (base := base) M 0 60 50 d50 rfl
  have e2 : fd' = PySem.W.fnOf "law" "law" (defArgs s50) (defBody s50) (defScope s50) .none kV dc pm an cd ct := by
    obtain ⟨_, _, _, _, _, _, _, _, _, _, lk, _⟩ := F1'.ex
    have := lk.symm.trans il
    cases this; rfl
  rw [← e2]
  exact F2'.imp fun vs H Q E h => h I
end K61


set_option linter.all false
set_option Elab.async false
set_option maxRecDepth 100000
set_option maxHeartbeats 2000000
namespace K61
open PySem Rx
abbrev R (n k : Nat) (vs : List Dv) (S : Sto) : Res Dv := Rx.run kons tab 0 n k vs S
theorem R_eq {n k : Nat} {d : Def} (h : tab[k]? = some d) (vs : List Dv) (S : Sto) : R (n + 1) k vs S = body kons 0 (R n) d vs S := by
  show (match tab[k]? with
    | some d => body kons 0 (Rx.run kons tab 0 n) d vs S
    | none => .stuck) = _
  rw [h]
theorem le_chr (a c : Nat) : (!decide ([c] < [a] : Prop)) = decide (a ≤ c) := by
  by_cases h : a ≤ c
  · have : ¬ ([c] < [a]) := by
      intro q
      rcases (List.cons_lt_cons_iff.mp q) with q | ⟨_, q⟩
      · omega
      · exact absurd q (List.not_lt_nil _)
    simp [h, this]
  · have : [c] < [a] := List.cons_lt_cons_iff.mpr (.inl (by omega))
    simp [h, this]
theorem len_s {x : Str} {s : Sto} (h : x.length ≤ line) : lenV (.pd (.str x)) s = .ok (.pd (.int x.length)) s := by simp [lenV, view, h]
theorem boolsD_map {α : Type} (f : α → Bool) : ∀ l : List α, boolsD (l.map fun c => .bool (f c)) = some (l.map f)
  | [] => rfl
  | x :: l => by simp [boolsD, boolsD_map f l]
theorem all_bools {α : Type} (f : α → Bool) (l : List α) (S : Sto) : allV (.pd (.list (l.map fun c => .bool (f c)))) S = .ok (.pd (.bool (l.all f))) S := by
  unfold allV view
  simp only [boolsD_map]
  congr 3
  rw [List.all_map]
  rfl
/-! ### small defs -/
def isInt (x : D) : Bool := match x with
  | .int _ => true
  | _ => false
def notDict (x : D) : Prop := match x with
  | .dict _ => False
  | _ => True
theorem r_is_integer (n : Nat) (x : D) (S : Sto) (h : notDict x) : R (n + 1) 0 [.pd x] S = .ok (.pd (.bool (isInt x))) S := by
  rw [R_eq (d := d0) rfl]
  cases x <;> first | exact h.elim | simp only [d0, b0, body, denSs, denS, den, denB, denV, denP, denI, denO, denT, denTs, denF, denG, denGs, both_1, both_2, cmpB_1, cmpB_2, bind_ok, bind_exc, bind_stuck, go_ok, go_exc, go_stuck, nxt_nx, nxt_rt, nxt_bk, nxt_ct, nxt_exc, litD, List.length_cons, List.length_nil, List.map_cons, List.map_nil, List.getElem?_cons_zero, List.getElem?_cons_succ, List.cons_append, List.nil_append, List.replicate, List.set_cons_zero, List.set_cons_succ, wipeE, Nat.reduceAdd, Nat.reduceSub, Nat.reduceEqDiff, Nat.reduceLT, Nat.zero_add, if_true, if_false, Bool.false_eq_true, Bool.not_true, Bool.not_false, beq_self_eq_true, lv_pd, lv_fn, take_self, bq_ft, bq_tf, tests, toP, tr_bool, tr_none, tr_int, tr_list, tr_tup, bltV, blt1, isiV, isOf, view, walkV, walkL, c_lt_i, c_le_i, c_gt_i, c_ge_i, c_eq_i, c_ne_i, c_eq_s, c_ne_s, c_le_s, c_is_none, c_isnot_none, c_is_ref, isNone, a_add_i, a_sub_i, mthT, mthV, mth1, fmtV, isInt]
def betw (x : D) (lo hi : Int) : Bool := match x with
  | .int i => decide (lo ≤ i) && decide (i ≤ hi)
  | _ => false
theorem r_is_between (n : Nat) (x : D) (lo hi : Int) (S : Sto) (h : notDict x) : R (n + 2) 1 [.pd x, .pd (.int lo), .pd (.int hi)] S = .ok (.pd (.bool (betw x lo hi))) S := by
  rw [R_eq (d := d1) rfl]
  have e := r_is_integer n x S h
  cases x with
  | int i =>
    by_cases h1 : lo ≤ i <;> by_cases h2 : i ≤ hi <;> simp only [d1, b1, body, denSs, denS, den, denB, denV, denP, denI, denO, denT, denTs, denF, denG, denGs, both_1, both_2, cmpB_1, cmpB_2, bind_ok, bind_exc, bind_stuck, go_ok, go_exc, go_stuck, nxt_nx, nxt_rt, nxt_bk, nxt_ct, nxt_exc, litD, List.length_cons, List.length_nil, List.map_cons, List.map_nil, List.getElem?_cons_zero, List.getElem?_cons_succ, List.cons_append, List.nil_append, List.replicate, List.set_cons_zero, List.set_cons_succ, wipeE, Nat.reduceAdd, Nat.reduceSub, Nat.reduceEqDiff, Nat.reduceLT, Nat.zero_add, if_true, if_false, Bool.false_eq_true, Bool.not_true, Bool.not_false, beq_self_eq_true, lv_pd, lv_fn, take_self, bq_ft, bq_tf, tests, toP, tr_bool, tr_none, tr_int, tr_list, tr_tup, bltV, blt1, isiV, isOf, view, walkV, walkL, c_lt_i, c_le_i, c_gt_i, c_ge_i, c_eq_i, c_ne_i, c_eq_s, c_ne_s, c_le_s, c_is_none, c_isnot_none, c_is_ref, isNone, a_add_i, a_sub_i, mthT, mthV, mth1, fmtV, e, isInt, betw, h1, h2, decide_true, decide_false, Bool.true_and, Bool.false_and, Bool.and_true, Bool.and_false, beq_iff_eq, reduceCtorEq]
  | dict kvs => exact h.elim
  | _ => simp only [d1, b1, body, denSs, denS, den, denB, denV, denP, denI, denO, denT, denTs, denF, denG, denGs, both_1, both_2, cmpB_1, cmpB_2, bind_ok, bind_exc, bind_stuck, go_ok, go_exc, go_stuck, nxt_nx, nxt_rt, nxt_bk, nxt_ct, nxt_exc, litD, List.length_cons, List.length_nil, List.map_cons, List.map_nil, List.getElem?_cons_zero, List.getElem?_cons_succ, List.cons_append, List.nil_append, List.replicate, List.set_cons_zero, List.set_cons_succ, wipeE, Nat.reduceAdd, Nat.reduceSub, Nat.reduceEqDiff, Nat.reduceLT, Nat.zero_add, if_true, if_false, Bool.false_eq_true, Bool.not_true, Bool.not_false, beq_self_eq_true, lv_pd, lv_fn, take_self, bq_ft, bq_tf, tests, toP, tr_bool, tr_none, tr_int, tr_list, tr_tup, bltV, blt1, isiV, isOf, view, walkV, walkL, c_lt_i, c_le_i, c_gt_i, c_ge_i, c_eq_i, c_ne_i, c_eq_s, c_ne_s, c_le_s, c_is_none, c_isnot_none, c_is_ref, isNone, a_add_i, a_sub_i, mthT, mthV, mth1, fmtV, e, isInt, betw, beq_iff_eq, reduceCtorEq]
/-- signs from a to b, each of them -/
theorem lc_signs (call : Mean) (a b : Nat) (x : Str) (S : Sto) (e1 : Option Dv) (h : x.length ≤ line) :
    (den kons call (.lc false [1] (.chn .le .le (.cst (.str [a])) (.var 1) (.cst (.str [b]))) (.name 1) (.val (.var 0)) .nil)).1 [some (.pd (.str x)), e1] S = .ok (.pd (.list (x.cps.toList.map fun c => .bool (decide (a ≤ c) && decide (c ≤ b))))) S := by
  have hz : x.cps.toList.length ≤ line := by simpa [Str.length] using h
  simp only [body, denSs, denS, den, denB, denV, denP, denI, denO, denT, denTs, denF, denG, denGs, both_1, both_2, cmpB_1, cmpB_2, bind_ok, bind_exc, bind_stuck, go_ok, go_exc, go_stuck, nxt_nx, nxt_rt, nxt_bk, nxt_ct, nxt_exc, litD, List.length_cons, List.length_nil, List.map_cons, List.map_nil, List.getElem?_cons_zero, List.getElem?_cons_succ, List.cons_append, List.nil_append, List.replicate, List.set_cons_zero, List.set_cons_succ, wipeE, Nat.reduceAdd, Nat.reduceSub, Nat.reduceEqDiff, Nat.reduceLT, Nat.zero_add, if_true, if_false, Bool.false_eq_true, Bool.not_true, Bool.not_false, beq_self_eq_true, lv_pd, lv_fn, take_self, bq_ft, bq_tf, tests, toP, tr_bool, tr_none, tr_int, tr_list, tr_tup, bltV, blt1, isiV, isOf, view, walkV, walkL, c_lt_i, c_le_i, c_gt_i, c_ge_i, c_eq_i, c_ne_i, c_eq_s, c_ne_s, c_le_s, c_is_none, c_isnot_none, c_is_ref, isNone, a_add_i, a_sub_i, mthT, mthV, mth1, fmtV]
  rw [lcL_map (fun c => .str ⟨#[c]⟩) (fun c => .bool (decide (a ≤ c) && decide (c ≤ b))) x.cps.toList [] (fun c _ => ?_) (by simpa using hz)]
  · simp only [bind_ok, List.nil_append, newL, List.length_map, hz, if_true, Bool.false_eq_true, if_false]
  · simp only [body, denSs, denS, den, denB, denV, denP, denI, denO, denT, denTs, denF, denG, denGs, both_1, both_2, cmpB_1, cmpB_2, bind_ok, bind_exc, bind_stuck, go_ok, go_exc, go_stuck, nxt_nx, nxt_rt, nxt_bk, nxt_ct, nxt_exc, litD, List.length_cons, List.length_nil, List.map_cons, List.map_nil, List.getElem?_cons_zero, List.getElem?_cons_succ, List.cons_append, List.nil_append, List.replicate, List.set_cons_zero, List.set_cons_succ, wipeE, Nat.reduceAdd, Nat.reduceSub, Nat.reduceEqDiff, Nat.reduceLT, Nat.zero_add, if_true, if_false, Bool.false_eq_true, Bool.not_true, Bool.not_false, beq_self_eq_true, lv_pd, lv_fn, take_self, bq_ft, bq_tf, tests, toP, tr_bool, tr_none, tr_int, tr_list, tr_tup, bltV, blt1, isiV, isOf, view, walkV, walkL, c_lt_i, c_le_i, c_gt_i, c_ge_i, c_eq_i, c_ne_i, c_eq_s, c_ne_s, c_le_s, c_is_none, c_isnot_none, c_is_ref, isNone, a_add_i, a_sub_i, mthT, mthV, mth1, fmtV, Rx.S, le_chr]
    cases decide (a ≤ c) <;> simp only [body, denSs, denS, den, denB, denV, denP, denI, denO, denT, denTs, denF, denG, denGs, both_1, both_2, cmpB_1, cmpB_2, bind_ok, bind_exc, bind_stuck, go_ok, go_exc, go_stuck, nxt_nx, nxt_rt, nxt_bk, nxt_ct, nxt_exc, litD, List.length_cons, List.length_nil, List.map_cons, List.map_nil, List.getElem?_cons_zero, List.getElem?_cons_succ, List.cons_append, List.nil_append, List.replicate, List.set_cons_zero, List.set_cons_succ, wipeE, Nat.reduceAdd, Nat.reduceSub, Nat.reduceEqDiff, Nat.reduceLT, Nat.zero_add, if_true, if_false, Bool.false_eq_true, Bool.not_true, Bool.not_false, beq_self_eq_true, lv_pd, lv_fn, take_self, bq_ft, bq_tf, tests, toP, tr_bool, tr_none, tr_int, tr_list, tr_tup, bltV, blt1, isiV, isOf, view, walkV, walkL, c_lt_i, c_le_i, c_gt_i, c_ge_i, c_eq_i, c_ne_i, c_eq_s, c_ne_s, c_le_s, c_is_none, c_isnot_none, c_is_ref, isNone, a_add_i, a_sub_i, mthT, mthV, mth1, fmtV, Rx.S, le_chr, Bool.true_and, Bool.false_and]
def isName (x : Str) : Bool := decide (1 ≤ (x.length : Int)) && decide ((x.length : Int) ≤ 12) && x.cps.toList.all fun c => decide (97 ≤ c) && decide (c ≤ 122)
def okD (x : D) : Prop := match x with
  | .dict _ => False
  | .str s => s.length ≤ line
  | _ => True
def isNameD (x : D) : Bool := match x with
  | .str s => isName s
  | _ => false
theorem r_is_name (n : Nat) (x : D) (S : Sto) (h : okD x) : R (n + 1) 2 [.pd x] S = .ok (.pd (.bool (isNameD x))) S := by
  rw [R_eq (d := d2) rfl]
  cases x with
  | str x =>
    have h : x.length ≤ line := h
    have e1 := lc_signs (R n) 97 122 x S none h
    simp only [d2, b2]
    generalize (E.lc false [1] (.chn .le .le (.cst (.str [97])) (.var 1) (.cst (.str [122]))) (.name 1) (.val (.var 0)) .nil) = L at e1 ⊢
    by_cases h1 : (1 : Int) ≤ x.length
    · by_cases h2 : (x.length : Int) ≤ 12
      · simp only [body, denSs, denS, den, denB, denV, denP, denI, denO, denT, denTs, denF, denG, denGs, both_1, both_2, cmpB_1, cmpB_2, bind_ok, bind_exc, bind_stuck, go_ok, go_exc, go_stuck, nxt_nx, nxt_rt, nxt_bk, nxt_ct, nxt_exc, litD, List.length_cons, List.length_nil, List.map_cons, List.map_nil, List.getElem?_cons_zero, List.getElem?_cons_succ, List.cons_append, List.nil_append, List.replicate, List.set_cons_zero, List.set_cons_succ, wipeE, Nat.reduceAdd, Nat.reduceSub, Nat.reduceEqDiff, Nat.reduceLT, Nat.zero_add, if_true, if_false, Bool.false_eq_true, Bool.not_true, Bool.not_false, beq_self_eq_true, lv_pd, lv_fn, take_self, bq_ft, bq_tf, tests, toP, tr_bool, tr_none, tr_int, tr_list, tr_tup, bltV, blt1, isiV, isOf, view, walkV, walkL, c_lt_i, c_le_i, c_gt_i, c_ge_i, c_eq_i, c_ne_i, c_eq_s, c_ne_s, c_le_s, c_is_none, c_isnot_none, c_is_ref, isNone, a_add_i, a_sub_i, mthT, mthV, mth1, fmtV, len_s h, h1, h2, decide_true, e1, all_bools, isNameD, isName, Bool.true_and]
      · simp only [body, denSs, denS, den, denB, denV, denP, denI, denO, denT, denTs, denF, denG, denGs, both_1, both_2, cmpB_1, cmpB_2, bind_ok, bind_exc, bind_stuck, go_ok, go_exc, go_stuck, nxt_nx, nxt_rt, nxt_bk, nxt_ct, nxt_exc, litD, List.length_cons, List.length_nil, List.map_cons, List.map_nil, List.getElem?_cons_zero, List.getElem?_cons_succ, List.cons_append, List.nil_append, List.replicate, List.set_cons_zero, List.set_cons_succ, wipeE, Nat.reduceAdd, Nat.reduceSub, Nat.reduceEqDiff, Nat.reduceLT, Nat.zero_add, if_true, if_false, Bool.false_eq_true, Bool.not_true, Bool.not_false, beq_self_eq_true, lv_pd, lv_fn, take_self, bq_ft, bq_tf, tests, toP, tr_bool, tr_none, tr_int, tr_list, tr_tup, bltV, blt1, isiV, isOf, view, walkV, walkL, c_lt_i, c_le_i, c_gt_i, c_ge_i, c_eq_i, c_ne_i, c_eq_s, c_ne_s, c_le_s, c_is_none, c_isnot_none, c_is_ref, isNone, a_add_i, a_sub_i, mthT, mthV, mth1, fmtV, len_s h, h1, h2, decide_true, decide_false, isNameD, isName, Bool.true_and, Bool.false_and]
    · simp only [body, denSs, denS, den, denB, denV, denP, denI, denO, denT, denTs, denF, denG, denGs, both_1, both_2, cmpB_1, cmpB_2, bind_ok, bind_exc, bind_stuck, go_ok, go_exc, go_stuck, nxt_nx, nxt_rt, nxt_bk, nxt_ct, nxt_exc, litD, List.length_cons, List.length_nil, List.map_cons, List.map_nil, List.getElem?_cons_zero, List.getElem?_cons_succ, List.cons_append, List.nil_append, List.replicate, List.set_cons_zero, List.set_cons_succ, wipeE, Nat.reduceAdd, Nat.reduceSub, Nat.reduceEqDiff, Nat.reduceLT, Nat.zero_add, if_true, if_false, Bool.false_eq_true, Bool.not_true, Bool.not_false, beq_self_eq_true, lv_pd, lv_fn, take_self, bq_ft, bq_tf, tests, toP, tr_bool, tr_none, tr_int, tr_list, tr_tup, bltV, blt1, isiV, isOf, view, walkV, walkL, c_lt_i, c_le_i, c_gt_i, c_ge_i, c_eq_i, c_ne_i, c_eq_s, c_ne_s, c_le_s, c_is_none, c_isnot_none, c_is_ref, isNone, a_add_i, a_sub_i, mthT, mthV, mth1, fmtV, len_s h, h1, decide_false, isNameD, isName, Bool.false_and]
  | dict kvs => exact h.elim
  | _ => simp only [d2, b2, body, denSs, denS, den, denB, denV, denP, denI, denO, denT, denTs, denF, denG, denGs, both_1, both_2, cmpB_1, cmpB_2, bind_ok, bind_exc, bind_stuck, go_ok, go_exc, go_stuck, nxt_nx, nxt_rt, nxt_bk, nxt_ct, nxt_exc, litD, List.length_cons, List.length_nil, List.map_cons, List.map_nil, List.getElem?_cons_zero, List.getElem?_cons_succ, List.cons_append, List.nil_append, List.replicate, List.set_cons_zero, List.set_cons_succ, wipeE, Nat.reduceAdd, Nat.reduceSub, Nat.reduceEqDiff, Nat.reduceLT, Nat.zero_add, if_true, if_false, Bool.false_eq_true, Bool.not_true, Bool.not_false, beq_self_eq_true, lv_pd, lv_fn, take_self, bq_ft, bq_tf, tests, toP, tr_bool, tr_none, tr_int, tr_list, tr_tup, bltV, blt1, isiV, isOf, view, walkV, walkL, c_lt_i, c_le_i, c_gt_i, c_ge_i, c_eq_i, c_ne_i, c_eq_s, c_ne_s, c_le_s, c_is_none, c_isnot_none, c_is_ref, isNone, a_add_i, a_sub_i, mthT, mthV, mth1, fmtV, isNameD]
/-- figures, one at least -/
def isFig (x : Str) : Bool := decide (x ≠ Rx.S0) && x.cps.toList.all fun c => decide (48 ≤ c) && decide (c ≤ 57)
theorem r_is_figures (n : Nat) (x : Str) (S : Sto) (h : x.length ≤ line) : R (n + 1) 3 [.pd (.str x)] S = .ok (.pd (.bool (isFig x))) S := by
  rw [R_eq (d := d3) rfl]
  have e1 := lc_signs (R n) 48 57 x S none h
  simp only [d3, b3]
  generalize (E.lc false [1] (.chn .le .le (.cst (.str [48])) (.var 1) (.cst (.str [57]))) (.name 1) (.val (.var 0)) .nil) = L at e1 ⊢
  by_cases h1 : x = Rx.S0
  · subst h1
    simp only [body, denSs, denS, den, denB, denV, denP, denI, denO, denT, denTs, denF, denG, denGs, both_1, both_2, cmpB_1, cmpB_2, bind_ok, bind_exc, bind_stuck, go_ok, go_exc, go_stuck, nxt_nx, nxt_rt, nxt_bk, nxt_ct, nxt_exc, litD, List.length_cons, List.length_nil, List.map_cons, List.map_nil, List.getElem?_cons_zero, List.getElem?_cons_succ, List.cons_append, List.nil_append, List.replicate, List.set_cons_zero, List.set_cons_succ, wipeE, Nat.reduceAdd, Nat.reduceSub, Nat.reduceEqDiff, Nat.reduceLT, Nat.zero_add, if_true, if_false, Bool.false_eq_true, Bool.not_true, Bool.not_false, beq_self_eq_true, lv_pd, lv_fn, take_self, bq_ft, bq_tf, tests, toP, tr_bool, tr_none, tr_int, tr_list, tr_tup, bltV, blt1, isiV, isOf, view, walkV, walkL, c_lt_i, c_le_i, c_gt_i, c_ge_i, c_eq_i, c_ne_i, c_eq_s, c_ne_s, c_le_s, c_is_none, c_isnot_none, c_is_ref, isNone, a_add_i, a_sub_i, mthT, mthV, mth1, fmtV, Rx.S, isFig, Rx.S0, ne_eq, not_true_eq_false, decide_false, Bool.false_and]
  · have h2 : x ≠ ⟨[].toArray⟩ := h1
    simp only [body, denSs, denS, den, denB, denV, denP, denI, denO, denT, denTs, denF, denG, denGs, both_1, both_2, cmpB_1, cmpB_2, bind_ok, bind_exc, bind_stuck, go_ok, go_exc, go_stuck, nxt_nx, nxt_rt, nxt_bk, nxt_ct, nxt_exc, litD, List.length_cons, List.length_nil, List.map_cons, List.map_nil, List.getElem?_cons_zero, List.getElem?_cons_succ, List.cons_append, List.nil_append, List.replicate, List.set_cons_zero, List.set_cons_succ, wipeE, Nat.reduceAdd, Nat.reduceSub, Nat.reduceEqDiff, Nat.reduceLT, Nat.zero_add, if_true, if_false, Bool.false_eq_true, Bool.not_true, Bool.not_false, beq_self_eq_true, lv_pd, lv_fn, take_self, bq_ft, bq_tf, tests, toP, tr_bool, tr_none, tr_int, tr_list, tr_tup, bltV, blt1, isiV, isOf, view, walkV, walkL, c_lt_i, c_le_i, c_gt_i, c_ge_i, c_eq_i, c_ne_i, c_eq_s, c_ne_s, c_le_s, c_is_none, c_isnot_none, c_is_ref, isNone, a_add_i, a_sub_i, mthT, mthV, mth1, fmtV, Rx.S, e1, all_bools, isFig, h1, h2, ne_eq, not_false_eq_true, decide_true, Bool.true_and]
/-! texts by their codes -/
abbrev W := List Nat
theorem S_len (w : W) : (⟨w.toArray⟩ : Str).length = w.length := by simp [Str.length]
def nameW (w : W) : Bool := decide (1 ≤ w.length) && decide (w.length ≤ 12) && w.all fun c => decide (97 ≤ c) && decide (c ≤ 122)
theorem nameW_eq (w : W) : isName ⟨w.toArray⟩ = nameW w := by
  have e1 : decide ((1 : Int) ≤ w.length) = decide (1 ≤ w.length) := by rw [decide_eq_decide]; omega
  have e2 : decide ((w.length : Int) ≤ 12) = decide (w.length ≤ 12) := by rw [decide_eq_decide]; omega
  simp only [isName, nameW, S_len, e1, e2]
def figW (w : W) : Bool := !w.isEmpty && w.all fun c => decide (48 ≤ c) && decide (c ≤ 57)
theorem figW_eq (w : W) : isFig ⟨w.toArray⟩ = figW w := by
  have : decide ((⟨w.toArray⟩ : Str) ≠ Rx.S0) = !w.isEmpty := by
    cases w with
    | nil => simp [Rx.S0]
    | cons c r => simp [Rx.S0]
  simp only [isFig, figW, this]
def printW (w : W) : Bool := w.all fun c => decide (32 ≤ c) && decide (c ≤ 126)
abbrev cutW (s : Nat) (w : W) : List W := TL.spl [s] 0 [] w
def wordsW (l : W) : Option (List W) := if printW l = true then (if (cutW 32 l).any (·.isEmpty) = true then none else some (cutW 32 l)) else none
def wsD : Option (List W) → D
  | some ws => .list (ws.map Rx.S)
  | none => .none
theorem lc_signs2 (call : Mean) (a b : Nat) (x : Str) (S : Sto) (e1 e2 : Option Dv) (h : x.length ≤ line) :
    (den kons call (.lc false [2] (.chn .le .le (.cst (.str [a])) (.var 2) (.cst (.str [b]))) (.name 2) (.val (.var 0)) .nil)).1 [some (.pd (.str x)), e1, e2] S = .ok (.pd (.list (x.cps.toList.map fun c => .bool (decide (a ≤ c) && decide (c ≤ b))))) S := by
  have hz : x.cps.toList.length ≤ line := by simpa [Str.length] using h
  simp only [body, denSs, denS, den, denB, denV, denP, denI, denO, denT, denTs, denF, denG, denGs, both_1, both_2, cmpB_1, cmpB_2, bind_ok, bind_exc, bind_stuck, go_ok, go_exc, go_stuck, nxt_nx, nxt_rt, nxt_bk, nxt_ct, nxt_exc, litD, List.length_cons, List.length_nil, List.map_cons, List.map_nil, List.getElem?_cons_zero, List.getElem?_cons_succ, List.cons_append, List.nil_append, List.replicate, List.set_cons_zero, List.set_cons_succ, wipeE, Nat.reduceAdd, Nat.reduceSub, Nat.reduceEqDiff, Nat.reduceLT, Nat.zero_add, if_true, if_false, Bool.false_eq_true, Bool.not_true, Bool.not_false, beq_self_eq_true, lv_pd, lv_fn, take_self, bq_ft, bq_tf, tests, toP, tr_bool, tr_none, tr_int, tr_list, tr_tup, bltV, blt1, isiV, isOf, view, walkV, walkL, c_lt_i, c_le_i, c_gt_i, c_ge_i, c_eq_i, c_ne_i, c_eq_s, c_ne_s, c_le_s, c_is_none, c_isnot_none, c_is_ref, isNone, a_add_i, a_sub_i, mthT, mthV, mth1, fmtV]
  rw [lcL_map (fun c => .str ⟨#[c]⟩) (fun c => .bool (decide (a ≤ c) && decide (c ≤ b))) x.cps.toList [] (fun c _ => ?_) (by simpa using hz)]
  · simp only [bind_ok, List.nil_append, newL, List.length_map, hz, if_true, Bool.false_eq_true, if_false]
  · simp only [body, denSs, denS, den, denB, denV, denP, denI, denO, denT, denTs, denF, denG, denGs, both_1, both_2, cmpB_1, cmpB_2, bind_ok, bind_exc, bind_stuck, go_ok, go_exc, go_stuck, nxt_nx, nxt_rt, nxt_bk, nxt_ct, nxt_exc, litD, List.length_cons, List.length_nil, List.map_cons, List.map_nil, List.getElem?_cons_zero, List.getElem?_cons_succ, List.cons_append, List.nil_append, List.replicate, List.set_cons_zero, List.set_cons_succ, wipeE, Nat.reduceAdd, Nat.reduceSub, Nat.reduceEqDiff, Nat.reduceLT, Nat.zero_add, if_true, if_false, Bool.false_eq_true, Bool.not_true, Bool.not_false, beq_self_eq_true, lv_pd, lv_fn, take_self, bq_ft, bq_tf, tests, toP, tr_bool, tr_none, tr_int, tr_list, tr_tup, bltV, blt1, isiV, isOf, view, walkV, walkL, c_lt_i, c_le_i, c_gt_i, c_ge_i, c_eq_i, c_ne_i, c_eq_s, c_ne_s, c_le_s, c_is_none, c_isnot_none, c_is_ref, isNone, a_add_i, a_sub_i, mthT, mthV, mth1, fmtV, Rx.S, le_chr]
    cases decide (a ≤ c) <;> simp only [body, denSs, denS, den, denB, denV, denP, denI, denO, denT, denTs, denF, denG, denGs, both_1, both_2, cmpB_1, cmpB_2, bind_ok, bind_exc, bind_stuck, go_ok, go_exc, go_stuck, nxt_nx, nxt_rt, nxt_bk, nxt_ct, nxt_exc, litD, List.length_cons, List.length_nil, List.map_cons, List.map_nil, List.getElem?_cons_zero, List.getElem?_cons_succ, List.cons_append, List.nil_append, List.replicate, List.set_cons_zero, List.set_cons_succ, wipeE, Nat.reduceAdd, Nat.reduceSub, Nat.reduceEqDiff, Nat.reduceLT, Nat.zero_add, if_true, if_false, Bool.false_eq_true, Bool.not_true, Bool.not_false, beq_self_eq_true, lv_pd, lv_fn, take_self, bq_ft, bq_tf, tests, toP, tr_bool, tr_none, tr_int, tr_list, tr_tup, bltV, blt1, isiV, isOf, view, walkV, walkL, c_lt_i, c_le_i, c_gt_i, c_ge_i, c_eq_i, c_ne_i, c_eq_s, c_ne_s, c_le_s, c_is_none, c_isnot_none, c_is_ref, isNone, a_add_i, a_sub_i, mthT, mthV, mth1, fmtV, Rx.S, le_chr, Bool.true_and, Bool.false_and]
theorem split_W (s : Nat) (hs : s < 256) (l : W) : Txt.split ⟨l.toArray⟩ ⟨[s].toArray⟩ = (cutW s l).map fun w => ⟨w.toArray⟩ :=
  SX.split_S (a := l) (b := [s]) (by simp) (by simp [hs])
theorem m_split (s : Nat) (hs : s < 256) (l : W) (S : Sto) (h : l.length + 2 ≤ line) : str1V .split ⟨l.toArray⟩ ⟨[s].toArray⟩ S = .ok (.pd (.list ((cutW s l).map Rx.S))) S := by
  have h2 : ([s].length == 0) = false := by simp
  have e : ((cutW s l).map fun w => (⟨w.toArray⟩ : Str)).map PyData.str = (cutW s l).map Rx.S := by rw [List.map_map]; rfl
  simp only [str1V, S_len, h, h2, and_self, if_true, split_W s hs, e]
theorem eqv_S (a b : W) : PyData.eqv (Rx.S a) (Rx.S b) = decide (a = b) := by
  show PyData.eqv (.str ⟨a.toArray⟩) (.str ⟨b.toArray⟩) = _
  rw [eqv_s, decide_eq_decide]
  exact ⟨fun h => SX.S_inj h, fun h => by rw [h]⟩
theorem flat_Ss (ws : List W) : (ws.map Rx.S).all flat = true := by simp [Rx.S, flat]
theorem c_in_Ss (a : W) (ws : List W) (S : Sto) : cmpV .inn (.pd (.str ⟨a.toArray⟩)) (.pd (.list (ws.map Rx.S))) S = .ok (ws.any fun w => decide (w = a)) S := by
  rw [c_in_l (.str ⟨a.toArray⟩) _ (by rw [flat_Ss]; rfl), List.any_map]
  congr 2
  funext w
  exact eqv_S w a
theorem r_words_of (n : Nat) (l : W) (S : Sto) (h : l.length + 2 ≤ line) : R (n + 1) 13 [.pd (Rx.S l)] S = .ok (.pd (wsD (wordsW l))) S := by
  rw [R_eq (d := d13) rfl]
  have e1 := lc_signs2 (R n) 32 126 ⟨l.toArray⟩ S none none (by rw [S_len]; omega)
  have e2 : ((cutW 32 l).any fun w => decide (w = [])) = (cutW 32 l).any (·.isEmpty) := by
    congr 1
    funext w
    cases w <;> simp
  have e3 := m_split 32 (by decide) l S h
  simp only [d13, b13, Rx.S]
  generalize (E.lc false [2] (.chn .le .le (.cst (.str [32])) (.var 2) (.cst (.str [126]))) (.name 2) (.val (.var 0)) .nil) = L at e1 ⊢
  cases hp : printW l with
  | false =>
    have hp2 : (l.all fun c => decide (32 ≤ c) && decide (c ≤ 126)) = false := hp
    simp only [body, denSs, denS, den, denB, denV, denP, denI, denO, denT, denTs, denF, denG, denGs, both_1, both_2, cmpB_1, cmpB_2, bind_ok, bind_exc, bind_stuck, go_ok, go_exc, go_stuck, nxt_nx, nxt_rt, nxt_bk, nxt_ct, nxt_exc, litD, List.length_cons, List.length_nil, List.map_cons, List.map_nil, List.getElem?_cons_zero, List.getElem?_cons_succ, List.cons_append, List.nil_append, List.replicate, List.set_cons_zero, List.set_cons_succ, wipeE, Nat.reduceAdd, Nat.reduceSub, Nat.reduceEqDiff, Nat.reduceLT, Nat.zero_add, if_true, if_false, Bool.false_eq_true, Bool.not_true, Bool.not_false, beq_self_eq_true, lv_pd, lv_fn, take_self, bq_ft, bq_tf, tests, toP, tr_bool, tr_none, tr_int, tr_list, tr_tup, bltV, blt1, isiV, isOf, view, walkV, walkL, c_lt_i, c_le_i, c_gt_i, c_ge_i, c_eq_i, c_ne_i, c_eq_s, c_ne_s, c_le_s, c_is_none, c_isnot_none, c_is_ref, isNone, a_add_i, a_sub_i, mthT, mthV, mth1, fmtV, Rx.S, e1, all_bools, hp2, wordsW, hp, wsD]
  | true =>
    have hp2 : (l.all fun c => decide (32 ≤ c) && decide (c ≤ 126)) = true := hp
    cases hc : (cutW 32 l).any (·.isEmpty) with
    | false => simp only [body, denSs, denS, den, denB, denV, denP, denI, denO, denT, denTs, denF, denG, denGs, both_1, both_2, cmpB_1, cmpB_2, bind_ok, bind_exc, bind_stuck, go_ok, go_exc, go_stuck, nxt_nx, nxt_rt, nxt_bk, nxt_ct, nxt_exc, litD, List.length_cons, List.length_nil, List.map_cons, List.map_nil, List.getElem?_cons_zero, List.getElem?_cons_succ, List.cons_append, List.nil_append, List.replicate, List.set_cons_zero, List.set_cons_succ, wipeE, Nat.reduceAdd, Nat.reduceSub, Nat.reduceEqDiff, Nat.reduceLT, Nat.zero_add, if_true, if_false, Bool.false_eq_true, Bool.not_true, Bool.not_false, beq_self_eq_true, lv_pd, lv_fn, take_self, bq_ft, bq_tf, tests, toP, tr_bool, tr_none, tr_int, tr_list, tr_tup, bltV, blt1, isiV, isOf, view, walkV, walkL, c_lt_i, c_le_i, c_gt_i, c_ge_i, c_eq_i, c_ne_i, c_eq_s, c_ne_s, c_le_s, c_is_none, c_isnot_none, c_is_ref, isNone, a_add_i, a_sub_i, mthT, mthV, mth1, fmtV, Rx.S, e1, all_bools, hp2, wordsW, hp, wsD, e3, hc, c_in_Ss, e2]
    | true => simp only [body, denSs, denS, den, denB, denV, denP, denI, denO, denT, denTs, denF, denG, denGs, both_1, both_2, cmpB_1, cmpB_2, bind_ok, bind_exc, bind_stuck, go_ok, go_exc, go_stuck, nxt_nx, nxt_rt, nxt_bk, nxt_ct, nxt_exc, litD, List.length_cons, List.length_nil, List.map_cons, List.map_nil, List.getElem?_cons_zero, List.getElem?_cons_succ, List.cons_append, List.nil_append, List.replicate, List.set_cons_zero, List.set_cons_succ, wipeE, Nat.reduceAdd, Nat.reduceSub, Nat.reduceEqDiff, Nat.reduceLT, Nat.zero_add, if_true, if_false, Bool.false_eq_true, Bool.not_true, Bool.not_false, beq_self_eq_true, lv_pd, lv_fn, take_self, bq_ft, bq_tf, tests, toP, tr_bool, tr_none, tr_int, tr_list, tr_tup, bltV, blt1, isiV, isOf, view, walkV, walkL, c_lt_i, c_le_i, c_gt_i, c_ge_i, c_eq_i, c_ne_i, c_eq_s, c_ne_s, c_le_s, c_is_none, c_isnot_none, c_is_ref, isNone, a_add_i, a_sub_i, mthT, mthV, mth1, fmtV, Rx.S, e1, all_bools, hp2, wordsW, hp, wsD, e3, hc, c_in_Ss, e2]
/-! whole numbers and their texts -/
def strI (i : Int) : W := if 0 ≤ i then TL.numL i.natAbs else 45 :: TL.numL i.natAbs
theorem ofStr_int (i : Int) : Str.ofString (toString i) = ⟨(strI i).toArray⟩ := by
  refine TL.ext_tl ?_
  rw [TL.tl_ofString, TL.tl_mk, Int.toString_eq_repr, Int.repr_eq_if]
  by_cases h : 0 ≤ i
  · have e : i.toNat = i.natAbs := by omega
    rw [if_pos h, strI, if_pos h, Nat.toList_repr, TL.numL, e]
  · have e : (-i).toNat = i.natAbs := by omega
    rw [if_neg h, strI, if_neg h, String.toList_append, Nat.toList_repr, TL.numL, e, List.map_append]
    rfl
/-- a word's number, when it is the text of one -/
def figs (w : W) : W := if w.head? = some 45 then w.drop 1 else w
def valW (w : W) : Int := if w.head? = some 45 then -(NumText.digitsVal (w.drop 1) : Nat) else (NumText.digitsVal w : Nat)
def intW (w : W) : Option Int := if w.length ≤ 40 ∧ figW (figs w) = true then (if strI (valW w) = w then some (valW w) else none) else none
theorem intW_eq {w : W} {i : Int} (h : intW w = some i) : w = strI i := by
  unfold intW at h
  split at h
  · split at h
    · rename_i e
      injection h with h
      subst h
      exact e.symm
    · exact absurd h (by simp)
  · exact absurd h (by simp)
theorem fig_digits {w : W} (h : figW w = true) : NumText.AllDigits w ∧ w ≠ [] := by
  simp only [figW, Bool.and_eq_true, List.all_eq_true, decide_eq_true_eq] at h
  refine ⟨fun c hc => h.2 c hc, ?_⟩
  rintro rfl
  simp at h
theorem int_text {w : W} (h : figW (figs w) = true) (hl : w.length ≤ 640) : intText? ⟨w.toArray⟩ = some (valW w) := by
  obtain ⟨h1, h2⟩ := fig_digits h
  unfold figs at h1 h2
  unfold valW
  by_cases hw : w.head? = some 45
  · rw [if_pos hw] at h1 h2 ⊢
    cases w with
    | nil => simp at hw
    | cons c r =>
      simp only [List.head?_cons, Option.some.injEq] at hw
      subst hw
      exact PySem.intText_neg (x := ⟨(45 :: r).toArray⟩) (cs := r) rfl h1 h2 (by rw [S_len]; omega)
  · rw [if_neg hw] at h1 h2 ⊢
    exact PySem.intText_digits (x := ⟨w.toArray⟩) h1 h2 (by rw [S_len]; omega)
theorem figs_strI (i : Int) : figW (figs (strI i)) = true ∧ valW (strI i) = i := by
  have hd := TL.numL_digits i.natAbs
  have hn := TL.numL_ne i.natAbs
  have hf : figW (TL.numL i.natAbs) = true := by
    simp only [figW, Bool.and_eq_true, List.all_eq_true, decide_eq_true_eq]
    refine ⟨?_, fun c hc => hd c hc⟩
    cases h : TL.numL i.natAbs with
    | nil => exact absurd h hn
    | cons c r => rfl
  unfold strI
  by_cases h : 0 ≤ i
  · have h0 : (TL.numL i.natAbs).head? ≠ some 45 := by
      cases e : TL.numL i.natAbs with
      | nil => simp
      | cons c r =>
        have := hd c (by rw [e]; simp)
        simp only [List.head?_cons, ne_eq, Option.some.injEq]
        omega
    rw [if_pos h, figs, if_neg h0, valW, if_neg h0, TL.numL_val]
    exact ⟨hf, by omega⟩
  · have h0 : (45 :: TL.numL i.natAbs).head? = some 45 := rfl
    rw [if_neg h, figs, if_pos h0, valW, if_pos h0, List.drop_succ_cons, List.drop_zero, TL.numL_val]
    exact ⟨hf, by omega⟩
theorem intW_strI {i : Int} (h : (strI i).length ≤ 40) : intW (strI i) = some i := by
  obtain ⟨h1, h2⟩ := figs_strI i
  rw [intW, if_pos ⟨h, h1⟩, h2, if_pos rfl]
theorem cut_from {α : Type} (xs : List α) (k : Nat) : cut xs (some (k : Int)) none = xs.drop k := by
  unfold cut
  rw [HT.sIx_nat, HT.sIx_none]
  by_cases h : k ≤ xs.length
  · rw [Nat.min_eq_left h, List.take_of_length_le (by rw [List.length_drop]; omega)]
  · rw [Nat.min_eq_right (by omega), List.drop_length, List.drop_eq_nil_of_le (by omega)]
    simp
theorem cut_to {α : Type} (xs : List α) (k : Nat) : cut xs none (some (k : Int)) = xs.take k := by
  unfold cut
  rw [HT.sIx_nat, HT.sIx_none, List.drop_zero, Nat.sub_zero]
  by_cases h : k ≤ xs.length
  · rw [Nat.min_eq_left h]
  · rw [Nat.min_eq_right (by omega), List.take_of_length_le (by omega), List.take_of_length_le (by omega)]
theorem cut_most {α : Type} (xs : List α) : cut xs none (some (-1)) = xs.dropLast := by
  have e : HT.sIx xs.length xs.length (some (-1)) = xs.length - 1 := by
    show (if (-1 : Int) < 0 then ((-1 : Int) + (xs.length : Int)).toNat else min (-1 : Int).toNat xs.length) = _
    rw [if_pos (by decide)]
    omega
  unfold cut
  rw [e, HT.sIx_none, List.drop_zero, Nat.sub_zero, List.dropLast_eq_take]
theorem m_starts (c : Nat) (w : W) (S : Sto) : str1V .startswith ⟨w.toArray⟩ ⟨[c].toArray⟩ S = .ok (.pd (.bool (decide (w.head? = some c)))) S := by
  have e : Txt.startswith ⟨w.toArray⟩ ⟨[c].toArray⟩ = decide (w.head? = some c) := by
    unfold Txt.startswith
    rw [PySem.StrLaws.subAt_eq]
    cases w with
    | nil => simp [Str.length]
    | cons d r =>
      rw [Bool.eq_iff_iff]
      simp [Str.length]
  simp only [str1V, e]
theorem s_str (w : W) (l h : Option Int) (S : Sto) (hl : w.length ≤ line) : slcI (.pd (.str ⟨w.toArray⟩)) l h S = .ok (.pd (.str ⟨(cut w l h).toArray⟩)) S := by
  simp only [slcI, view, S_len, hl, if_true]
theorem r_figsW (n : Nat) (w : W) (S : Sto) (h : w.length ≤ line) : R (n + 1) 3 [.pd (.str ⟨w.toArray⟩)] S = .ok (.pd (.bool (figW w))) S := by
  rw [r_is_figures n ⟨w.toArray⟩ S (by rw [S_len]; exact h), figW_eq]
theorem eq_S (a b : W) : ((⟨a.toArray⟩ : Str) = ⟨b.toArray⟩) = (a = b) := propext ⟨fun h => SX.S_inj h, fun h => by rw [h]⟩
def intD : Option Int → D
  | some i => .int i
  | none => .none
theorem figs_len (w : W) : (figs w).length ≤ w.length := by
  unfold figs
  split
  · rw [List.length_drop]; omega
  · omega
theorem b_len (w : W) (S : Sto) (h : w.length ≤ line) : lenV (.pd (.str ⟨w.toArray⟩)) S = .ok (.pd (.int w.length)) S := by
  have := len_s (x := ⟨w.toArray⟩) (s := S) (by rw [S_len]; exact h)
  rw [S_len] at this
  exact this
theorem b_int (w : W) (S : Sto) (h1 : figW (figs w) = true) (h : w.length ≤ 640) : intV (.pd (.str ⟨w.toArray⟩)) S = .ok (.pd (.int (valW w))) S := by
  simp only [intV, int_text h1 h, S_len, h, if_true]
theorem b_str (i : Int) (S : Sto) (h : i.natAbs.log2 < 1920) : strV (.pd (.int i)) S = .ok (.pd (.str ⟨(strI i).toArray⟩)) S := by
  simp only [strV, h, if_true, ofStr_int]
theorem val_lt : ∀ (w : W) (a : Nat), NumText.AllDigits w → w.foldl (fun acc c => acc * 10 + (c - 48)) a < (a + 1) * 10 ^ w.length
  | [], a, _ => by simp
  | c :: r, a, h => by
    have hc := h.head
    have ih := val_lt r (a * 10 + (c - 48)) h.tail
    rw [List.foldl_cons, List.length_cons, Nat.pow_succ]
    refine Nat.lt_of_lt_of_le ih ?_
    have : a * 10 + (c - 48) + 1 ≤ (a + 1) * 10 := by omega
    calc (a * 10 + (c - 48) + 1) * 10 ^ r.length ≤ (a + 1) * 10 * 10 ^ r.length := Nat.mul_le_mul_right _ this
      _ = (a + 1) * (10 ^ r.length * 10) := by rw [Nat.mul_assoc, Nat.mul_comm 10]
theorem val_small {w : W} (h : figW (figs w) = true) (hl : w.length ≤ 40) : (valW w).natAbs < 10 ^ 40 := by
  obtain ⟨h1, h2⟩ := fig_digits h
  have h3 := figs_len w
  have key : NumText.digitsVal (figs w) < 10 ^ 40 := by
    have := val_lt (figs w) 0 h1
    rw [Nat.zero_add, Nat.one_mul] at this
    exact Nat.lt_of_lt_of_le this (Nat.pow_le_pow_right (by decide) (by omega))
  unfold valW
  unfold figs at key
  split
  · rename_i e
    rw [if_pos e] at key
    omega
  · rename_i e
    rw [if_neg e] at key
    omega
theorem log_small {n : Nat} (h : n < 10 ^ 40) : n.log2 < 1920 := by
  by_cases h0 : n = 0
  · subst h0; decide
  · rw [Nat.log2_lt h0]
    refine Nat.lt_trans h ?_
    decide +kernel
theorem r_integer_of (n : Nat) (w : W) (S : Sto) (h : w.length ≤ line) : R (n + 2) 14 [.pd (.str ⟨w.toArray⟩)] S = .ok (.pd (intD (intW w))) S := by
  rw [R_eq (d := d14) rfl]
  have e1 := r_figsW n (figs w) S (by have := figs_len w; omega)
  have ek : kons[4]? = some (.int 40) := rfl
  have ec : w.head? = some 45 → (⟨(cut w (some 1) none).toArray⟩ : Str) = ⟨(figs w).toArray⟩ := fun hw => by
    rw [figs, if_pos hw]
    exact congrArg (fun z : W => (⟨z.toArray⟩ : Str)) (cut_from w 1)
  have ec2 : w.head? ≠ some 45 → figs w = w := fun hw => by rw [figs, if_neg hw]
  have e2 := ec2
  by_cases hl : w.length ≤ 40
  · have hl2 : ¬ ((40 : Int) < w.length) := by omega
    have hl3 : w.length ≤ 640 := by omega
    cases hf : figW (figs w) with
    | false =>
      by_cases hw : w.head? = some 45
      · simp only [d14, b14, body, denSs, denS, den, denB, denV, denP, denI, denO, denT, denTs, denF, denG, denGs, both_1, both_2, cmpB_1, cmpB_2, bind_ok, bind_exc, bind_stuck, go_ok, go_exc, go_stuck, nxt_nx, nxt_rt, nxt_bk, nxt_ct, nxt_exc, litD, List.length_cons, List.length_nil, List.map_cons, List.map_nil, List.getElem?_cons_zero, List.getElem?_cons_succ, List.cons_append, List.nil_append, List.replicate, List.set_cons_zero, List.set_cons_succ, wipeE, Nat.reduceAdd, Nat.reduceSub, Nat.reduceEqDiff, Nat.reduceLT, Nat.zero_add, if_true, if_false, Bool.false_eq_true, Bool.not_true, Bool.not_false, beq_self_eq_true, lv_pd, lv_fn, take_self, bq_ft, bq_tf, tests, toP, tr_bool, tr_none, tr_int, tr_list, tr_tup, bltV, blt1, isiV, isOf, view, walkV, walkL, c_lt_i, c_le_i, c_gt_i, c_ge_i, c_eq_i, c_ne_i, c_eq_s, c_ne_s, c_le_s, c_is_none, c_isnot_none, c_is_ref, isNone, a_add_i, a_sub_i, mthT, mthV, mth1, fmtV, Rx.S, m_starts, hw, decide_true, s_str w _ _ S h, ec hw, b_len w S h, ek, hl2, decide_false, e1, hf, intW, hl, and_false, intD]
      · have e3 := e1
        rw [ec2 hw] at e3
        have hf2 := hf
        rw [ec2 hw] at hf2
        simp only [d14, b14, body, denSs, denS, den, denB, denV, denP, denI, denO, denT, denTs, denF, denG, denGs, both_1, both_2, cmpB_1, cmpB_2, bind_ok, bind_exc, bind_stuck, go_ok, go_exc, go_stuck, nxt_nx, nxt_rt, nxt_bk, nxt_ct, nxt_exc, litD, List.length_cons, List.length_nil, List.map_cons, List.map_nil, List.getElem?_cons_zero, List.getElem?_cons_succ, List.cons_append, List.nil_append, List.replicate, List.set_cons_zero, List.set_cons_succ, wipeE, Nat.reduceAdd, Nat.reduceSub, Nat.reduceEqDiff, Nat.reduceLT, Nat.zero_add, if_true, if_false, Bool.false_eq_true, Bool.not_true, Bool.not_false, beq_self_eq_true, lv_pd, lv_fn, take_self, bq_ft, bq_tf, tests, toP, tr_bool, tr_none, tr_int, tr_list, tr_tup, bltV, blt1, isiV, isOf, view, walkV, walkL, c_lt_i, c_le_i, c_gt_i, c_ge_i, c_eq_i, c_ne_i, c_eq_s, c_ne_s, c_le_s, c_is_none, c_isnot_none, c_is_ref, isNone, a_add_i, a_sub_i, mthT, mthV, mth1, fmtV, Rx.S, m_starts, hw, decide_false, b_len w S h, ek, hl2, e3, hf, hf2, intW, hl, and_false, intD]
    | true =>
      have e4 := b_int w S hf hl3
      have e5 := b_str (valW w) S (log_small (val_small hf hl))
      by_cases hv : strI (valW w) = w
      · by_cases hw : w.head? = some 45
        · simp only [d14, b14, body, denSs, denS, den, denB, denV, denP, denI, denO, denT, denTs, denF, denG, denGs, both_1, both_2, cmpB_1, cmpB_2, bind_ok, bind_exc, bind_stuck, go_ok, go_exc, go_stuck, nxt_nx, nxt_rt, nxt_bk, nxt_ct, nxt_exc, litD, List.length_cons, List.length_nil, List.map_cons, List.map_nil, List.getElem?_cons_zero, List.getElem?_cons_succ, List.cons_append, List.nil_append, List.replicate, List.set_cons_zero, List.set_cons_succ, wipeE, Nat.reduceAdd, Nat.reduceSub, Nat.reduceEqDiff, Nat.reduceLT, Nat.zero_add, if_true, if_false, Bool.false_eq_true, Bool.not_true, Bool.not_false, beq_self_eq_true, lv_pd, lv_fn, take_self, bq_ft, bq_tf, tests, toP, tr_bool, tr_none, tr_int, tr_list, tr_tup, bltV, blt1, isiV, isOf, view, walkV, walkL, c_lt_i, c_le_i, c_gt_i, c_ge_i, c_eq_i, c_ne_i, c_eq_s, c_ne_s, c_le_s, c_is_none, c_isnot_none, c_is_ref, isNone, a_add_i, a_sub_i, mthT, mthV, mth1, fmtV, Rx.S, m_starts, hw, decide_true, s_str w _ _ S h, ec hw, b_len w S h, ek, hl2, decide_false, e1, hf, intW, hl, and_true, intD, e4, e5, eq_S, hv, ne_eq, not_true_eq_false]
        · have e3 := e1
          rw [ec2 hw] at e3
          have hf2 := hf
          rw [ec2 hw] at hf2
          simp only [d14, b14, body, denSs, denS, den, denB, denV, denP, denI, denO, denT, denTs, denF, denG, denGs, both_1, both_2, cmpB_1, cmpB_2, bind_ok, bind_exc, bind_stuck, go_ok, go_exc, go_stuck, nxt_nx, nxt_rt, nxt_bk, nxt_ct, nxt_exc, litD, List.length_cons, List.length_nil, List.map_cons, List.map_nil, List.getElem?_cons_zero, List.getElem?_cons_succ, List.cons_append, List.nil_append, List.replicate, List.set_cons_zero, List.set_cons_succ, wipeE, Nat.reduceAdd, Nat.reduceSub, Nat.reduceEqDiff, Nat.reduceLT, Nat.zero_add, if_true, if_false, Bool.false_eq_true, Bool.not_true, Bool.not_false, beq_self_eq_true, lv_pd, lv_fn, take_self, bq_ft, bq_tf, tests, toP, tr_bool, tr_none, tr_int, tr_list, tr_tup, bltV, blt1, isiV, isOf, view, walkV, walkL, c_lt_i, c_le_i, c_gt_i, c_ge_i, c_eq_i, c_ne_i, c_eq_s, c_ne_s, c_le_s, c_is_none, c_isnot_none, c_is_ref, isNone, a_add_i, a_sub_i, mthT, mthV, mth1, fmtV, Rx.S, m_starts, hw, decide_false, b_len w S h, ek, hl2, e3, hf, hf2, intW, hl, and_true, intD, e4, e5, eq_S, hv, ne_eq, not_true_eq_false]
      · by_cases hw : w.head? = some 45
        · simp only [d14, b14, body, denSs, denS, den, denB, denV, denP, denI, denO, denT, denTs, denF, denG, denGs, both_1, both_2, cmpB_1, cmpB_2, bind_ok, bind_exc, bind_stuck, go_ok, go_exc, go_stuck, nxt_nx, nxt_rt, nxt_bk, nxt_ct, nxt_exc, litD, List.length_cons, List.length_nil, List.map_cons, List.map_nil, List.getElem?_cons_zero, List.getElem?_cons_succ, List.cons_append, List.nil_append, List.replicate, List.set_cons_zero, List.set_cons_succ, wipeE, Nat.reduceAdd, Nat.reduceSub, Nat.reduceEqDiff, Nat.reduceLT, Nat.zero_add, if_true, if_false, Bool.false_eq_true, Bool.not_true, Bool.not_false, beq_self_eq_true, lv_pd, lv_fn, take_self, bq_ft, bq_tf, tests, toP, tr_bool, tr_none, tr_int, tr_list, tr_tup, bltV, blt1, isiV, isOf, view, walkV, walkL, c_lt_i, c_le_i, c_gt_i, c_ge_i, c_eq_i, c_ne_i, c_eq_s, c_ne_s, c_le_s, c_is_none, c_isnot_none, c_is_ref, isNone, a_add_i, a_sub_i, mthT, mthV, mth1, fmtV, Rx.S, m_starts, hw, decide_true, s_str w _ _ S h, ec hw, b_len w S h, ek, hl2, decide_false, e1, hf, intW, hl, and_true, intD, e4, e5, eq_S, hv, ne_eq, not_false_eq_true]
        · have e3 := e1
          rw [ec2 hw] at e3
          have hf2 := hf
          rw [ec2 hw] at hf2
          simp only [d14, b14, body, denSs, denS, den, denB, denV, denP, denI, denO, denT, denTs, denF, denG, denGs, both_1, both_2, cmpB_1, cmpB_2, bind_ok, bind_exc, bind_stuck, go_ok, go_exc, go_stuck, nxt_nx, nxt_rt, nxt_bk, nxt_ct, nxt_exc, litD, List.length_cons, List.length_nil, List.map_cons, List.map_nil, List.getElem?_cons_zero, List.getElem?_cons_succ, List.cons_append, List.nil_append, List.replicate, List.set_cons_zero, List.set_cons_succ, wipeE, Nat.reduceAdd, Nat.reduceSub, Nat.reduceEqDiff, Nat.reduceLT, Nat.zero_add, if_true, if_false, Bool.false_eq_true, Bool.not_true, Bool.not_false, beq_self_eq_true, lv_pd, lv_fn, take_self, bq_ft, bq_tf, tests, toP, tr_bool, tr_none, tr_int, tr_list, tr_tup, bltV, blt1, isiV, isOf, view, walkV, walkL, c_lt_i, c_le_i, c_gt_i, c_ge_i, c_eq_i, c_ne_i, c_eq_s, c_ne_s, c_le_s, c_is_none, c_isnot_none, c_is_ref, isNone, a_add_i, a_sub_i, mthT, mthV, mth1, fmtV, Rx.S, m_starts, hw, decide_false, decide_true, b_len w S h, ek, hl2, e3, hf, hf2, intW, hl, and_true, intD, e4, e5, eq_S, hv, ne_eq, not_false_eq_true]
  · have hl2 : (40 : Int) < w.length := by omega
    by_cases hw : w.head? = some 45
    · simp only [d14, b14, body, denSs, denS, den, denB, denV, denP, denI, denO, denT, denTs, denF, denG, denGs, both_1, both_2, cmpB_1, cmpB_2, bind_ok, bind_exc, bind_stuck, go_ok, go_exc, go_stuck, nxt_nx, nxt_rt, nxt_bk, nxt_ct, nxt_exc, litD, List.length_cons, List.length_nil, List.map_cons, List.map_nil, List.getElem?_cons_zero, List.getElem?_cons_succ, List.cons_append, List.nil_append, List.replicate, List.set_cons_zero, List.set_cons_succ, wipeE, Nat.reduceAdd, Nat.reduceSub, Nat.reduceEqDiff, Nat.reduceLT, Nat.zero_add, if_true, if_false, Bool.false_eq_true, Bool.not_true, Bool.not_false, beq_self_eq_true, lv_pd, lv_fn, take_self, bq_ft, bq_tf, tests, toP, tr_bool, tr_none, tr_int, tr_list, tr_tup, bltV, blt1, isiV, isOf, view, walkV, walkL, c_lt_i, c_le_i, c_gt_i, c_ge_i, c_eq_i, c_ne_i, c_eq_s, c_ne_s, c_le_s, c_is_none, c_isnot_none, c_is_ref, isNone, a_add_i, a_sub_i, mthT, mthV, mth1, fmtV, Rx.S, m_starts, hw, decide_true, s_str w _ _ S h, ec hw, b_len w S h, ek, hl2, intW, hl, false_and, intD]
    · simp only [d14, b14, body, denSs, denS, den, denB, denV, denP, denI, denO, denT, denTs, denF, denG, denGs, both_1, both_2, cmpB_1, cmpB_2, bind_ok, bind_exc, bind_stuck, go_ok, go_exc, go_stuck, nxt_nx, nxt_rt, nxt_bk, nxt_ct, nxt_exc, litD, List.length_cons, List.length_nil, List.map_cons, List.map_nil, List.getElem?_cons_zero, List.getElem?_cons_succ, List.cons_append, List.nil_append, List.replicate, List.set_cons_zero, List.set_cons_succ, wipeE, Nat.reduceAdd, Nat.reduceSub, Nat.reduceEqDiff, Nat.reduceLT, Nat.zero_add, if_true, if_false, Bool.false_eq_true, Bool.not_true, Bool.not_false, beq_self_eq_true, lv_pd, lv_fn, take_self, bq_ft, bq_tf, tests, toP, tr_bool, tr_none, tr_int, tr_list, tr_tup, bltV, blt1, isiV, isOf, view, walkV, walkL, c_lt_i, c_le_i, c_gt_i, c_ge_i, c_eq_i, c_ne_i, c_eq_s, c_ne_s, c_le_s, c_is_none, c_isnot_none, c_is_ref, isNone, a_add_i, a_sub_i, mthT, mthV, mth1, fmtV, Rx.S, m_starts, hw, decide_false, decide_true, b_len w S h, ek, hl2, intW, hl, false_and, intD]
end K61


set_option linter.all false
set_option maxRecDepth 100000
/-! printed by names.py: names for loops and comprehensions -/
namespace K61
open PySem Rx
theorem b0_eq : b0 = (.cons (.ret (.bop true (.cons (.isi (.var 0) ["int"]) (.cons (.notv (.isi (.var 0) ["bool"])) .nil)))) .nil) := rfl
theorem b1_eq : b1 = (.cons (.ret (.bop true (.cons (.call 0 (.cons (.var 0) .nil)) (.cons (.cmp .le (.var 1) (.var 0)) (.cons (.bop false (.cons (.cmp .is (.var 2) (.cst .non)) (.cons (.cmp .le (.var 0) (.var 2)) .nil))) .nil))))) .nil) := rfl
def l2_1 : E := (.lc false [1] (.chn .le .le (.cst (.str [97])) (.var 1) (.cst (.str [122]))) (.name 1) (.val (.var 0)) .nil)
theorem b2_eq : b2 = (.cons (.ite (.bop false (.cons (.notv (.isi (.var 0) ["str"])) (.cons (.notv (.chn .le .le (.cst (.int (1))) (.blt .len (.cons (.var 0) .nil)) (.cst (.int (12))))) .nil))) (.cons (.ret (.cst (.bl false))) .nil) .nil) (.cons (.ret (.blt .all (.cons l2_1 .nil))) .nil)) := rfl
def l3_1 : E := (.lc false [1] (.chn .le .le (.cst (.str [48])) (.var 1) (.cst (.str [57]))) (.name 1) (.val (.var 0)) .nil)
theorem b3_eq : b3 = (.cons (.ret (.bop true (.cons (.cmp .ne (.var 0) (.cst (.str []))) (.cons (.blt .all (.cons l3_1 .nil)) .nil)))) .nil) := rfl
def l4_1 : E := (.lc false [1] (.cmp .lt (.idx (.var 0) (.var 1)) (.idx (.var 0) (.bin .add (.var 1) (.cst (.int (1)))))) (.name 1) (.rng (.bin .sub (.blt .len (.cons (.var 0) .nil)) (.cst (.int (1))))) .nil)
theorem b4_eq : b4 = (.cons (.ret (.blt .all (.cons l4_1 .nil))) .nil) := rfl
theorem b5_eq : b5 = (.cons (.ret (.bop false (.cons (.cmp .is (.var 0) (.cst .non)) (.cons (.call 0 (.cons (.var 0) .nil)) .nil)))) .nil) := rfl
theorem b6_eq : b6 = (.cons (.ite (.bop false (.cons (.notv (.isi (.var 0) ["tuple"])) (.cons (.cmp .ne (.blt .len (.cons (.var 0) .nil)) (.cst (.int (2)))) .nil))) (.cons (.ret (.cst (.bl false))) .nil) .nil) (.cons (.asg (.tup (.cons (.name 1) (.cons (.name 2) .nil))) (.var 0)) (.cons (.ite (.cmp .is (.var 1) (.cst .non)) (.cons (.ret (.bop true (.cons (.call 0 (.cons (.var 2) .nil)) (.cons (.cmp .eq (.var 2) (.cst (.int (0)))) .nil)))) .nil) .nil) (.cons (.ret (.bop true (.cons (.call 0 (.cons (.var 1) .nil)) (.cons (.call 0 (.cons (.var 2) .nil)) .nil)))) .nil)))) := rfl
def l7_1 : E := (.lc false [3] (.call 5 (.cons (.var 3) .nil)) (.name 3) (.val (.var 1)) .nil)
def l7_2 : E := (.lc false [4] (.call 6 (.cons (.var 4) .nil)) (.name 4) (.val (.var 2)) .nil)
theorem b7_eq : b7 = (.cons (.ite (.bop false (.cons (.notv (.isi (.var 0) ["tuple"])) (.cons (.cmp .ne (.blt .len (.cons (.var 0) .nil)) (.cst (.int (2)))) .nil))) (.cons (.ret (.cst (.str [102, 111, 114, 109]))) .nil) .nil) (.cons (.asg (.tup (.cons (.name 1) (.cons (.name 2) .nil))) (.var 0)) (.cons (.ite (.bop false (.cons (.notv (.isi (.var 1) ["tuple"])) (.cons (.notv (.isi (.var 2) ["tuple"])) .nil))) (.cons (.ret (.cst (.str [102, 111, 114, 109]))) .nil) .nil) (.cons (.ite (.bop false (.cons (.cmp .gt (.blt .len (.cons (.var 1) .nil)) (.gbl 0)) (.cons (.notv (.blt .all (.cons l7_1 .nil))) .nil))) (.cons (.ret (.cst (.str [104, 101, 97, 100]))) .nil) .nil) (.cons (.ite (.bop false (.cons (.notv (.chn .le .le (.cst (.int (1))) (.blt .len (.cons (.var 2) .nil)) (.gbl 1))) (.cons (.notv (.blt .all (.cons l7_2 .nil))) .nil))) (.cons (.ret (.cst (.str [116, 97, 105, 108]))) .nil) .nil) (.cons (.ret (.cst .non)) .nil)))))) := rfl
def l8_1 : E := (.lc false [1] (.call 1 (.cons (.var 1) (.cons (.cst (.int (1))) (.cons (.cst (.int (1000))) .nil)))) (.name 1) (.val (.var 0)) .nil)
theorem b8_eq : b8 = (.cons (.ite (.bop false (.cons (.notv (.isi (.var 0) ["tuple"])) (.cons (.notv (.chn .le .le (.cst (.int (1))) (.blt .len (.cons (.var 0) .nil)) (.cst (.int (12))))) .nil))) (.cons (.ret (.cst (.bl false))) .nil) .nil) (.cons (.ret (.bop true (.cons (.blt .all (.cons l8_1 .nil)) (.cons (.call 4 (.cons (.var 0) .nil)) .nil)))) .nil)) := rfl
theorem b9_eq : b9 = (.cons (.ite (.cmp .eq (.idx (.var 0) (.cst (.int (0)))) (.cst (.str [102, 111, 114, 109]))) (.cons (.ret (.cmp .is (.call 7 (.cons (.idx (.var 0) (.cst (.int (1)))) .nil)) (.cst .non))) .nil) .nil) (.cons (.ite (.cmp .eq (.idx (.var 0) (.cst (.int (0)))) (.cst (.str [110, 97, 109, 101]))) (.cons (.ret (.call 2 (.cons (.idx (.var 0) (.cst (.int (1)))) .nil))) .nil) .nil) (.cons (.ret (.bop true (.cons (.cmp .eq (.idx (.var 0) (.cst (.int (0)))) (.cst (.str [102, 101, 119, 101, 115, 116]))) (.cons (.call 8 (.cons (.idx (.var 0) (.cst (.int (1)))) .nil)) .nil)))) .nil))) := rfl
theorem b10_eq : b10 = (.cons (.ite (.bop false (.cons (.notv (.isi (.var 0) ["tuple"])) (.cons (.cmp .lt (.blt .len (.cons (.var 0) .nil)) (.cst (.int (2)))) .nil))) (.cons (.ret (.cst (.bl false))) .nil) .nil) (.cons (.ite (.cmp .eq (.blt .len (.cons (.var 0) .nil)) (.cst (.int (2)))) (.cons (.ret (.bop false (.cons (.cmp .eq (.idx (.var 0) (.cst (.int (0)))) (.cst (.str [102, 114, 111, 109]))) (.cons (.call 9 (.cons (.var 0) .nil)) .nil)))) .nil) .nil) (.cons (.ite (.cmp .eq (.blt .len (.cons (.var 0) .nil)) (.cst (.int (4)))) (.cons (.ret (.bop true (.cons (.cmp .eq (.idx (.var 0) (.cst (.int (0)))) (.cst (.str [119, 104, 101, 114, 101]))) (.cons (.call 5 (.cons (.idx (.var 0) (.cst (.int (2)))) .nil)) (.cons (.call 5 (.cons (.idx (.var 0) (.cst (.int (3)))) .nil)) .nil))))) .nil) .nil) (.cons (.ite (.cmp .ne (.blt .len (.cons (.var 0) .nil)) (.cst (.int (3)))) (.cons (.ret (.cst (.bl false))) .nil) .nil) (.cons (.ite (.cmp .eq (.idx (.var 0) (.cst (.int (0)))) (.cst (.str [100, 105, 118, 105, 100, 101, 100]))) (.cons (.ret (.call 1 (.cons (.idx (.var 0) (.cst (.int (2)))) (.cons (.cst (.int (1))) (.cons (.cst (.int (1000))) .nil))))) .nil) .nil) (.cons (.ite (.cmp .inn (.idx (.var 0) (.cst (.int (0)))) (.tup (.cons (.cst (.str [116, 105, 109, 101, 115])) (.cons (.cst (.str [109, 111, 118, 101, 100])) .nil)))) (.cons (.ret (.call 0 (.cons (.idx (.var 0) (.cst (.int (2)))) .nil))) .nil) .nil) (.cons (.ret (.cmp .inn (.idx (.var 0) (.cst (.int (0)))) (.gbl 2))) .nil))))))) := rfl
theorem b11_eq : b11 = (.cons (.ite (.cmp .inn (.idx (.var 0) (.cst (.int (0)))) (.gbl 2)) (.cons (.ret (.slc (.var 0) (.some (.cst (.int (1)))) (.some (.cst (.int (3)))))) .nil) .nil) (.cons (.ite (.cmp .inn (.idx (.var 0) (.cst (.int (0)))) (.gbl 3)) (.cons (.ret (.slc (.var 0) (.some (.cst (.int (1)))) (.some (.cst (.int (2)))))) .nil) .nil) (.cons (.ret (.tup .nil)) .nil))) := rfl
def t12_1 : Ss := (.cons (.exp (.mth .extend (.var 1) (.cons (.call 12 (.cons (.var 2) .nil)) .nil))) .nil)
def s12_1 : St := .fo (.name 2) (.val (.call 11 (.cons (.var 0) .nil))) t12_1
theorem b12_eq : b12 = (.cons (.asg (.name 1) (.lst true (.cons (.var 0) .nil))) (.cons s12_1 (.cons (.ret (.blt .tuple (.cons (.var 1) .nil))) .nil))) := rfl
def l13_1 : E := (.lc false [2] (.chn .le .le (.cst (.str [32])) (.var 2) (.cst (.str [126]))) (.name 2) (.val (.var 0)) .nil)
theorem b13_eq : b13 = (.cons (.ite (.notv (.blt .all (.cons l13_1 .nil))) (.cons (.ret (.cst .non)) .nil) .nil) (.cons (.asg (.name 1) (.mth .split (.var 0) (.cons (.cst (.str [32])) .nil))) (.cons (.ite (.cmp .inn (.cst (.str [])) (.var 1)) (.cons (.ret (.cst .non)) .nil) .nil) (.cons (.ret (.var 1)) .nil)))) := rfl
theorem b14_eq : b14 = (.cons (.asg (.name 1) (.ifx (.mth .startswith (.var 0) (.cons (.cst (.str [45])) .nil)) (.slc (.var 0) (.some (.cst (.int (1)))) .none) (.var 0))) (.cons (.ite (.bop false (.cons (.cmp .gt (.blt .len (.cons (.var 0) .nil)) (.gbl 4)) (.cons (.notv (.call 3 (.cons (.var 1) .nil))) .nil))) (.cons (.ret (.cst .non)) .nil) .nil) (.cons (.ite (.cmp .ne (.blt .str (.cons (.blt .int (.cons (.var 0) .nil)) .nil)) (.var 0)) (.cons (.ret (.cst .non)) .nil) .nil) (.cons (.ret (.blt .int (.cons (.var 0) .nil))) .nil)))) := rfl
theorem b15_eq : b15 = (.cons (.ite (.cmp .eq (.var 0) (.var 1)) (.cons (.ret (.cst .non)) .nil) .nil) (.cons (.asg (.name 2) (.call 14 (.cons (.var 0) .nil))) (.cons (.ret (.ifx (.cmp .is (.var 2) (.cst .non)) (.var 0) (.var 2))) .nil))) := rfl
theorem b16_eq : b16 = (.cons (.ite (.cmp .is (.var 0) (.cst .non)) (.cons (.ret (.var 1)) .nil) .nil) (.cons (.ret (.blt .str (.cons (.var 0) .nil))) .nil)) := rfl
theorem b17_eq : b17 = (.cons (.asg (.name 2) (.ifx (.cmp .lt (.var 1) (.blt .len (.cons (.var 0) .nil))) (.call 13 (.cons (.idx (.var 0) (.var 1)) .nil)) (.cst .non))) (.cons (.ite (.cmp .is (.var 2) (.cst .non)) (.cons (.rai 0 (.cons (.var 1) .nil)) .nil) .nil) (.cons (.ret (.var 2)) .nil))) := rfl
theorem b18_eq : b18 = (.cons (.asg (.name 2) (.mth .split (.var 0) (.cons (.cst (.str [10])) .nil))) (.cons (.ite (.cmp .ne (.call 17 (.cons (.var 2) (.cons (.cst (.int (0))) .nil))) (.var 1)) (.cons (.rai 0 (.cons (.cst (.int (0))) .nil)) .nil) .nil) (.cons (.ret (.var 2)) .nil))) := rfl
theorem b19_eq : b19 = (.cons (.ite (.cmp .ne (.call 17 (.cons (.var 0) (.cons (.var 1) .nil))) (.lst false (.cons (.cst (.str [101, 110, 100])) .nil))) (.cons (.rai 0 (.cons (.var 1) .nil)) .nil) .nil) (.cons (.ite (.cmp .lt (.bin .add (.var 1) (.cst (.int (1)))) (.blt .len (.cons (.var 0) .nil))) (.cons (.rai 0 (.cons (.bin .add (.var 1) (.cst (.int (1)))) .nil)) .nil) .nil) .nil)) := rfl
theorem b20_eq : b20 = (.cons (.asg (.tup (.cons (.name 1) (.cons (.name 2) .nil))) (.var 0)) (.cons (.ret (.ifx (.cmp .is (.var 1) (.cst .non)) (.cst (.str [110, 111, 110, 101])) (.fst (.cons (.var 1) (.cons (.cst (.str [47])) (.cons (.var 2) .nil)))))) .nil)) := rfl
def l21_1 : E := (.lc false [3] (.call 16 (.cons (.var 3) (.cons (.cst (.str [110, 111, 110, 101])) .nil))) (.name 3) (.val (.idx (.var 0) (.cst (.int (0))))) .nil)
def l21_2 : E := (.lc false [4] (.call 20 (.cons (.var 4) .nil)) (.name 4) (.val (.idx (.var 0) (.cst (.int (1))))) .nil)
theorem b21_eq : b21 = (.cons (.asg (.name 1) (.bin .add (.lst false (.cons (.cst (.str [104, 101, 97, 100])) .nil)) l21_1)) (.cons (.asg (.name 2) (.bin .add (.lst false (.cons (.cst (.str [116, 97, 105, 108])) .nil)) l21_2)) (.cons (.ret (.lst false (.cons (.mth .join (.cst (.str [32])) (.cons (.var 1) .nil)) (.cons (.mth .join (.cst (.str [32])) (.cons (.var 2) .nil)) .nil)))) .nil))) := rfl
theorem b22_eq : b22 = (.cons (.ite (.cmp .eq (.var 0) (.cst (.str [110, 111, 110, 101]))) (.cons (.ret (.tup (.cons (.cst .non) (.cons (.cst (.int (0))) .nil)))) .nil) .nil) (.cons (.asg (.name 1) (.mth .split (.var 0) (.cons (.cst (.str [47])) .nil))) (.cons (.ite (.cmp .ne (.blt .len (.cons (.var 1) .nil)) (.cst (.int (2)))) (.cons (.ret (.cst .non)) .nil) .nil) (.cons (.asg (.name 2) (.call 14 (.cons (.idx (.var 1) (.cst (.int (0)))) .nil))) (.cons (.asg (.name 3) (.call 14 (.cons (.idx (.var 1) (.cst (.int (1)))) .nil))) (.cons (.ret (.ifx (.bop false (.cons (.cmp .is (.var 2) (.cst .non)) (.cons (.cmp .is (.var 3) (.cst .non)) .nil))) (.cst .non) (.tup (.cons (.var 2) (.cons (.var 3) .nil))))) .nil)))))) := rfl
def l23_1 : E := (.lc false [5] (.call 15 (.cons (.var 5) (.cons (.cst (.str [110, 111, 110, 101])) .nil))) (.name 5) (.val (.slc (.var 2) (.some (.cst (.int (1)))) .none)) .nil)
def l23_2 : E := (.lc false [5] (.call 22 (.cons (.var 5) .nil)) (.name 5) (.val (.slc (.var 2) (.some (.cst (.int (1)))) .none)) .nil)
theorem b23_eq : b23 = (.cons (.asg (.name 2) (.call 17 (.cons (.var 0) (.cons (.var 1) .nil)))) (.cons (.asg (.name 3) (.blt .tuple (.cons l23_1 .nil))) (.cons (.ite (.bop false (.cons (.cmp .ne (.idx (.var 2) (.cst (.int (0)))) (.cst (.str [104, 101, 97, 100]))) (.cons (.cmp .isnot (.call 7 (.cons (.tup (.cons (.var 3) (.cons (.tup (.cons (.tup (.cons (.cst .non) (.cons (.cst (.int (0))) .nil))) .nil)) .nil))) .nil)) (.cst .non)) .nil))) (.cons (.rai 0 (.cons (.var 1) .nil)) .nil) .nil) (.cons (.asg (.name 2) (.call 17 (.cons (.var 0) (.cons (.bin .add (.var 1) (.cst (.int (1)))) .nil)))) (.cons (.asg (.name 4) (.tup (.cons (.var 3) (.cons (.blt .tuple (.cons l23_2 .nil)) .nil)))) (.cons (.ite (.bop false (.cons (.cmp .ne (.idx (.var 2) (.cst (.int (0)))) (.cst (.str [116, 97, 105, 108]))) (.cons (.cmp .isnot (.call 7 (.cons (.var 4) .nil)) (.cst .non)) .nil))) (.cons (.rai 0 (.cons (.bin .add (.var 1) (.cst (.int (1)))) .nil)) .nil) .nil) (.cons (.ret (.var 4)) .nil))))))) := rfl
theorem b24_eq : b24 = (.cons (.ret (.mth .join (.cst (.str [10])) (.cons (.bin .add (.bin .add (.lst false (.cons (.cst (.str [102, 111, 114, 109])) .nil)) (.call 21 (.cons (.var 0) .nil))) (.lst false (.cons (.cst (.str [101, 110, 100])) .nil))) .nil))) .nil) := rfl
theorem b25_eq : b25 = (.cons (.asg (.name 1) (.call 18 (.cons (.var 0) (.cons (.lst false (.cons (.cst (.str [102, 111, 114, 109])) .nil)) .nil)))) (.cons (.asg (.name 2) (.call 23 (.cons (.var 1) (.cons (.cst (.int (1))) .nil)))) (.cons (.exp (.call 19 (.cons (.var 1) (.cons (.cst (.int (3))) .nil)))) (.cons (.ret (.var 2)) .nil)))) := rfl
def l26_1 : E := (.lc false [3] (.blt .str (.cons (.var 3) .nil)) (.name 3) (.val (.idx (.var 0) (.cst (.int (1))))) .nil)
def l26_2 : E := (.lc false [2] (.call 27 (.cons (.var 2) .nil)) (.name 2) (.val (.var 1)) .nil)
theorem b26_eq : b26 = (.cons (.ite (.cmp .eq (.idx (.var 0) (.cst (.int (0)))) (.cst (.str [102, 111, 114, 109]))) (.cons (.ret (.call 21 (.cons (.idx (.var 0) (.cst (.int (1)))) .nil))) .nil) .nil) (.cons (.ite (.cmp .eq (.idx (.var 0) (.cst (.int (0)))) (.cst (.str [102, 101, 119, 101, 115, 116]))) (.cons (.ret (.lst false (.cons (.mth .join (.cst (.str [32])) (.cons (.bin .add (.lst false (.cons (.cst (.str [102, 101, 119, 101, 115, 116])) .nil)) l26_1) .nil)) .nil))) .nil) .nil) (.cons (.asg (.name 1) (.slc (.var 0) (.some (.bin .add (.cst (.int (1))) (.blt .len (.cons (.call 11 (.cons (.var 0) .nil)) .nil)))) .none)) (.cons (.ret (.lst false (.cons (.mth .join (.cst (.str [32])) (.cons (.bin .add (.lst false (.cons (.idx (.var 0) (.cst (.int (0)))) .nil)) l26_2) .nil)) .nil))) .nil)))) := rfl
theorem b27_eq : b27 = (.cons (.ret (.ifx (.isi (.var 0) ["str"]) (.var 0) (.call 16 (.cons (.var 0) (.cons (.cst (.str [110, 111, 110, 101])) .nil))))) .nil) := rfl
def t28_1 : Ss := (.cons (.exp (.mth .extend (.var 1) (.cons (.call 26 (.cons (.var 2) .nil)) .nil))) .nil)
def s28_1 : St := .fo (.name 2) (.val (.call 12 (.cons (.var 0) .nil))) t28_1
theorem b28_eq : b28 = (.cons (.asg (.name 1) (.lst true .nil)) (.cons s28_1 (.cons (.ret (.var 1)) .nil))) := rfl
def l29_1 : E := (.lc false [3] (.call 14 (.cons (.var 3) .nil)) (.name 3) (.val (.slc (.var 0) (.some (.cst (.int (1)))) .none)) .nil)
def l29_2 : E := (.lc false [3] (.call 15 (.cons (.var 3) (.cons (.cst (.str [110, 111, 110, 101])) .nil))) (.name 3) (.val (.slc (.var 0) (.some (.cst (.int (1)))) .none)) .nil)
theorem b29_eq : b29 = (.cons (.asg (.name 1) (.idx (.var 0) (.cst (.int (0))))) (.cons (.ite (.cmp .inn (.var 1) (.gbl 2)) (.cons (.asg (.name 2) (.ifx (.cmp .eq (.blt .len (.cons (.var 0) .nil)) (.cst (.int (1)))) (.tup (.cons (.var 1) (.cons (.gbl 5) (.cons (.gbl 5) .nil)))) (.cst .non))) .nil) (.cons (.ite (.cmp .eq (.var 1) (.cst (.str [102, 114, 111, 109]))) (.cons (.asg (.name 2) (.ifx (.cmp .eq (.blt .len (.cons (.var 0) .nil)) (.cst (.int (1)))) (.tup (.cons (.var 1) (.cons (.gbl 5) .nil))) (.cst .non))) .nil) (.cons (.ite (.cmp .eq (.var 1) (.cst (.str [110, 97, 109, 101]))) (.cons (.asg (.name 2) (.blt .tuple (.cons (.var 0) .nil))) .nil) (.cons (.ite (.cmp .eq (.var 1) (.cst (.str [102, 101, 119, 101, 115, 116]))) (.cons (.asg (.name 2) (.tup (.cons (.var 1) (.cons (.blt .tuple (.cons l29_1 .nil)) .nil)))) .nil) (.cons (.asg (.name 2) (.bin .add (.tup (.cons (.var 1) (.cons (.gbl 5) .nil))) (.blt .tuple (.cons l29_2 .nil)))) .nil)) .nil)) .nil)) .nil)) (.cons (.ret (.ifx (.bop true (.cons (.cmp .isnot (.var 2) (.cst .non)) (.cons (.cmp .ne (.idx (.var 2) (.cst (.int (0)))) (.cst (.str [102, 111, 114, 109]))) (.cons (.call 10 (.cons (.var 2) .nil)) .nil)))) (.var 2) (.cst .non))) .nil))) := rfl
def t30_1 : Ss := (.cons (.asg (.tup (.cons (.name 9) (.cons (.name 1) .nil))) (.call 30 (.cons (.var 0) (.cons (.var 1) (.cons (.bin .add (.var 2) (.cst (.int (1)))) (.cons (.var 3) .nil)))))) (.cons (.exp (.mth .append (.var 7) (.cons (.var 9) .nil))) .nil))
def s30_1 : St := .fo (.name 8) (.rng (.var 6)) t30_1
theorem b30_eq : b30 = (.cons (.asg (.name 4) (.call 17 (.cons (.var 0) (.cons (.var 1) .nil)))) (.cons (.ite (.cmp .eq (.idx (.var 4) (.cst (.int (0)))) (.cst (.str [104, 101, 97, 100]))) (.cons (.augs (.var 3) (.cst (.int (0))) .add (.cst (.int (1)))) (.cons (.augs (.var 3) (.cst (.int (1))) .sub (.cst (.int (1)))) (.cons (.ret (.tup (.cons (.tup (.cons (.cst (.str [102, 111, 114, 109])) (.cons (.call 23 (.cons (.var 0) (.cons (.var 1) .nil))) .nil))) (.cons (.bin .add (.var 1) (.cst (.int (2)))) .nil)))) .nil))) .nil) (.cons (.asg (.name 5) (.call 29 (.cons (.var 4) .nil))) (.cons (.ite (.cmp .is (.var 5) (.cst .non)) (.cons (.rai 0 (.cons (.var 1) .nil)) .nil) .nil) (.cons (.asg (.name 6) (.blt .len (.cons (.call 11 (.cons (.var 5) .nil)) .nil))) (.cons (.augs (.var 3) (.cst (.int (0))) .add (.cst (.int (1)))) (.cons (.augs (.var 3) (.cst (.int (1))) .add (.bin .sub (.var 6) (.cst (.int (1))))) (.cons (.ite (.bop false (.cons (.cmp .gt (.bin .add (.idx (.var 3) (.cst (.int (0)))) (.idx (.var 3) (.cst (.int (1))))) (.gbl 6)) (.cons (.bop true (.cons (.cmp .gt (.var 6) (.cst (.int (0)))) (.cons (.cmp .eq (.var 2) (.gbl 7)) .nil))) .nil))) (.cons (.rai 0 (.cons (.var 1) .nil)) .nil) .nil) (.cons (.aug 1 .add (.cst (.int (1)))) (.cons (.asg (.name 7) (.lst true .nil)) (.cons s30_1 (.cons (.ret (.tup (.cons (.bin .add (.bin .add (.slc (.var 5) .none (.some (.cst (.int (1))))) (.blt .tuple (.cons (.var 7) .nil))) (.slc (.var 5) (.some (.bin .add (.cst (.int (1))) (.var 6))) .none)) (.cons (.var 1) .nil)))) .nil)))))))))))) := rfl
theorem b31_eq : b31 = (.cons (.ret (.mth .join (.cst (.str [10])) (.cons (.bin .add (.bin .add (.lst false (.cons (.cst (.str [102, 111, 114, 109, 117, 108, 97])) .nil)) (.call 28 (.cons (.var 0) .nil))) (.lst false (.cons (.cst (.str [101, 110, 100])) .nil))) .nil))) .nil) := rfl
theorem b32_eq : b32 = (.cons (.asg (.name 1) (.call 18 (.cons (.var 0) (.cons (.lst false (.cons (.cst (.str [102, 111, 114, 109, 117, 108, 97])) .nil)) .nil)))) (.cons (.asg (.tup (.cons (.name 2) (.cons (.name 3) .nil))) (.call 30 (.cons (.var 1) (.cons (.cst (.int (1))) (.cons (.cst (.int (1))) (.cons (.lst true (.cons (.cst (.int (0))) (.cons (.cst (.int (1))) .nil))) .nil)))))) (.cons (.exp (.call 19 (.cons (.var 1) (.cons (.var 3) .nil)))) (.cons (.ret (.var 2)) .nil)))) := rfl
theorem b33_eq : b33 = (.cons (.ret (.lst true (.cons (.blt .list (.cons (.var 0) .nil)) (.cons (.cst (.int (0))) (.cons (.cst (.int (0))) (.cons (.cst (.int (0))) (.cons (.cst (.bl false)) .nil))))))) .nil) := rfl
theorem b34_eq : b34 = (.cons (.ite (.cmp .eq (.idx (.var 0) (.cst (.int (3)))) (.cst (.int (0)))) (.cons (.ite (.cmp .ge (.idx (.var 0) (.cst (.int (1)))) (.blt .len (.cons (.idx (.var 0) (.cst (.int (0)))) .nil))) (.cons (.ret (.cst (.int (0)))) .nil) .nil) (.cons (.asg (.name 3) (.idx (.idx (.var 0) (.cst (.int (0)))) (.idx (.var 0) (.cst (.int (1)))))) (.cons (.ite (.cmp .lt (.var 3) (.cst (.int (0)))) (.cons (.asg (.name 3) (.bin .sub (.neg (.cst (.int (1)))) (.var 3))) .nil) .nil) (.cons (.asg (.sub (.var 0) (.cst (.int (1)))) (.bin .add (.idx (.var 0) (.cst (.int (1)))) (.cst (.int (1))))) (.cons (.asg (.sub (.var 0) (.cst (.int (2)))) (.var 3)) (.cons (.asg (.sub (.var 0) (.cst (.int (4)))) (.cmp .ge (.var 3) (.bin .pow (.cst (.int (10))) (.cst (.int (18)))))) (.cons (.asg (.sub (.var 0) (.cst (.int (3)))) (.cst (.int (6)))) (.cons (.ite (.idx (.var 0) (.cst (.int (4)))) (.cons (.asg (.sub (.var 0) (.cst (.int (3)))) (.cst (.int (60)))) .nil) .nil) .nil)))))))) .nil) (.cons (.asg (.sub (.var 0) (.cst (.int (3)))) (.bin .sub (.idx (.var 0) (.cst (.int (3)))) (.cst (.int (1))))) (.cons (.ite (.idx (.var 0) (.cst (.int (4)))) (.cons (.asg (.name 4) (.bin .mod (.blt .int (.cons (.idx (.var 0) (.cst (.int (2)))) .nil)) (.var 1))) (.cons (.asg (.sub (.var 0) (.cst (.int (2)))) (.bin .fdiv (.idx (.var 0) (.cst (.int (2)))) (.var 1))) (.cons (.ite (.cmp .eq (.idx (.var 0) (.cst (.int (2)))) (.cst (.int (0)))) (.cons (.asg (.sub (.var 0) (.cst (.int (3)))) (.cst (.int (0)))) .nil) .nil) (.cons (.ret (.var 4)) .nil)))) .nil) (.cons (.asg (.name 2) (.bin .mod (.blt .int (.cons (.bin .add (.bin .add (.bin .mul (.idx (.var 0) (.cst (.int (2)))) (.cst (.int (48271)))) (.bin .mul (.idx (.var 0) (.cst (.int (3)))) (.cst (.int (69621))))) (.cst (.int (7)))) .nil)) (.cst (.int (2147483647))))) (.cons (.asg (.name 2) (.bin .mod (.blt .int (.cons (.bin .add (.bin .add (.bin .mul (.var 2) (.var 2)) (.bin .mul (.idx (.var 0) (.cst (.int (2)))) (.cst (.int (31))))) (.idx (.var 0) (.cst (.int (3))))) .nil)) (.cst (.int (1000003))))) (.cons (.ret (.bin .mod (.blt .int (.cons (.var 2) .nil)) (.var 1))) .nil)))))) := rfl
theorem b35_eq : b35 = (.cons (.asg (.name 1) (.call 34 (.cons (.var 0) (.cons (.cst (.int (8))) .nil)))) (.cons (.ite (.cmp .lt (.var 1) (.cst (.int (5)))) (.cons (.ret (.bin .sub (.call 34 (.cons (.var 0) (.cons (.cst (.int (9))) .nil))) (.cst (.int (3))))) .nil) .nil) (.cons (.ite (.cmp .lt (.var 1) (.cst (.int (7)))) (.cons (.ret (.bin .sub (.call 34 (.cons (.var 0) (.cons (.cst (.int (241))) .nil))) (.cst (.int (120))))) .nil) .nil) (.cons (.ret (.bin .add (.bin .mul (.bin .sub (.call 34 (.cons (.var 0) (.cons (.cst (.int (2001))) .nil))) (.cst (.int (1000)))) (.bin .pow (.cst (.int (10))) (.cst (.int (24))))) (.call 34 (.cons (.var 0) (.cons (.cst (.int (1000))) .nil))))) .nil)))) := rfl
def t36_1 : Ss := (.cons (.asg (.name 3) (.bin .add (.var 3) (.idx (.var 1) (.call 34 (.cons (.var 0) (.cons (.cst (.int (26))) .nil)))))) .nil)
def s36_1 : St := .fo (.name 4) (.rng (.var 2)) t36_1
theorem b36_eq : b36 = (.cons (.asg (.name 1) (.cst (.str [97, 98, 99, 100, 101, 102, 103, 104, 105, 106, 107, 108, 109, 110, 111, 112, 113, 114, 115, 116, 117, 118, 119, 120, 121, 122]))) (.cons (.asg (.name 2) (.bin .add (.cst (.int (1))) (.idx (.lst false (.cons (.call 34 (.cons (.var 0) (.cons (.cst (.int (3))) .nil))) (.cons (.call 34 (.cons (.var 0) (.cons (.cst (.int (12))) .nil))) .nil))) (.call 34 (.cons (.var 0) (.cons (.cst (.int (2))) .nil)))))) (.cons (.asg (.name 3) (.cst (.str []))) (.cons s36_1 (.cons (.ret (.var 3)) .nil))))) := rfl
theorem b37_eq : b37 = (.cons (.ite (.bop false (.cons (.notv (.isi (.var 0) ["tuple"])) (.cons (.cmp .lt (.blt .len (.cons (.var 0) .nil)) (.cst (.int (2)))) (.cons (.cmp .inn (.idx (.var 0) (.cst (.int (0)))) (.lst false (.cons (.cst (.str [102, 111, 114, 109])) (.cons (.cst (.str [110, 97, 109, 101])) (.cons (.cst (.str [102, 101, 119, 101, 115, 116])) .nil))))) .nil)))) (.cons (.ret (.lst false .nil)) .nil) .nil) (.cons (.ite (.cmp .inn (.idx (.var 0) (.cst (.int (0)))) (.lst false (.cons (.cst (.str [116, 105, 109, 101, 115])) (.cons (.cst (.str [100, 105, 118, 105, 100, 101, 100])) (.cons (.cst (.str [119, 104, 101, 114, 101])) (.cons (.cst (.str [109, 111, 118, 101, 100])) (.cons (.cst (.str [102, 114, 111, 109])) .nil))))))) (.cons (.ret (.lst false (.cons (.idx (.var 0) (.cst (.int (1)))) .nil))) .nil) .nil) (.cons (.ite (.cmp .ne (.blt .len (.cons (.var 0) .nil)) (.cst (.int (3)))) (.cons (.ret (.lst false .nil)) .nil) .nil) (.cons (.ret (.lst false (.cons (.idx (.var 0) (.cst (.int (1)))) (.cons (.idx (.var 0) (.cst (.int (2)))) .nil)))) .nil)))) := rfl
def t38_1 : Ss := (.cons (.asg (.name 1) (.bin .add (.var 1) (.call 38 (.cons (.var 2) .nil)))) .nil)
def s38_1 : St := .fo (.name 2) (.val (.call 37 (.cons (.var 0) .nil))) t38_1
theorem b38_eq : b38 = (.cons (.asg (.name 1) (.lst false (.cons (.var 0) .nil))) (.cons s38_1 (.cons (.ret (.var 1)) .nil))) := rfl
theorem b39_eq : b39 = (.cons (.ite (.cmp .is (.var 0) (.cst .non)) (.cons (.ret (.cst (.str [110, 111, 110, 101]))) .nil) .nil) (.cons (.ret (.blt .str (.cons (.var 0) .nil))) .nil)) := rfl
def t40_1 : Ss := (.cons (.asg (.name 1) (.bin .add (.bin .add (.var 1) (.cst (.str [32]))) (.call 39 (.cons (.var 2) .nil)))) .nil)
def s40_1 : St := .fo (.name 2) (.val (.idx (.var 0) (.cst (.int (0))))) t40_1
def t40_2 : Ss := (.cons (.asg (.name 3) (.bin .add (.bin .add (.var 3) (.cst (.str [32]))) (.idx (.lst false (.cons (.cst (.str [110, 111, 110, 101])) (.cons (.bin .add (.bin .add (.call 39 (.cons (.var 2) .nil)) (.cst (.str [47]))) (.blt .str (.cons (.var 4) .nil))) .nil))) (.blt .int (.cons (.cmp .isnot (.var 2) (.cst .non)) .nil))))) .nil)
def s40_2 : St := .fo (.tup (.cons (.name 2) (.cons (.name 4) .nil))) (.val (.idx (.var 0) (.cst (.int (1))))) t40_2
theorem b40_eq : b40 = (.cons (.asg (.name 1) (.cst (.str [104, 101, 97, 100]))) (.cons s40_1 (.cons (.asg (.name 3) (.cst (.str [116, 97, 105, 108]))) (.cons s40_2 (.cons (.ret (.lst false (.cons (.var 1) (.cons (.var 3) .nil)))) .nil))))) := rfl
def l41_1 : E := (.lc false [3] (.blt .str (.cons (.var 3) .nil)) (.name 3) (.val (.idx (.var 0) (.cst (.int (1))))) .nil)
def t41_1 : Ss := (.cons (.exp (.mth .append (.var 1) (.cons (.call 39 (.cons (.var 2) .nil)) .nil))) .nil)
def s41_1 : St := .fo (.name 2) (.val (.slc (.var 0) (.some (.bin .add (.cst (.int (1))) (.blt .len (.cons (.call 37 (.cons (.var 0) .nil)) .nil)))) .none)) t41_1
theorem b41_eq : b41 = (.cons (.ite (.cmp .eq (.idx (.var 0) (.cst (.int (0)))) (.cst (.str [102, 111, 114, 109]))) (.cons (.ret (.call 40 (.cons (.idx (.var 0) (.cst (.int (1)))) .nil))) .nil) .nil) (.cons (.ite (.cmp .eq (.idx (.var 0) (.cst (.int (0)))) (.cst (.str [102, 101, 119, 101, 115, 116]))) (.cons (.ret (.lst false (.cons (.bin .add (.cst (.str [102, 101, 119, 101, 115, 116, 32])) (.mth .join (.cst (.str [32])) (.cons l41_1 .nil))) .nil))) .nil) .nil) (.cons (.ite (.cmp .eq (.idx (.var 0) (.cst (.int (0)))) (.cst (.str [110, 97, 109, 101]))) (.cons (.ret (.lst false (.cons (.bin .add (.cst (.str [110, 97, 109, 101, 32])) (.idx (.var 0) (.cst (.int (1))))) .nil))) .nil) .nil) (.cons (.asg (.name 1) (.lst true (.cons (.idx (.var 0) (.cst (.int (0)))) .nil))) (.cons s41_1 (.cons (.ret (.lst false (.cons (.mth .join (.cst (.str [32])) (.cons (.var 1) .nil)) .nil))) .nil)))))) := rfl
def t42_1 : Ss := (.cons (.asg (.name 1) (.bin .add (.var 1) (.call 41 (.cons (.var 2) .nil)))) .nil)
def s42_1 : St := .fo (.name 2) (.val (.call 38 (.cons (.var 0) .nil))) t42_1
theorem b42_eq : b42 = (.cons (.asg (.name 1) (.lst false .nil)) (.cons s42_1 (.cons (.ret (.var 1)) .nil))) := rfl
theorem b43_eq : b43 = (.cons (.asg (.name 1) (.call 34 (.cons (.var 0) (.cons (.cst (.int (12))) .nil)))) (.cons (.ite (.cmp .eq (.var 1) (.cst (.int (0)))) (.cons (.ret (.bin .add (.bin .pow (.cst (.int (10))) (.cst (.int (39)))) (.call 34 (.cons (.var 0) (.cons (.cst (.int (9))) .nil))))) .nil) .nil) (.cons (.ite (.cmp .eq (.var 1) (.cst (.int (1)))) (.cons (.ret (.bin .sub (.bin .sub (.cst (.int (0))) (.bin .pow (.cst (.int (10))) (.cst (.int (38))))) (.call 34 (.cons (.var 0) (.cons (.cst (.int (9))) .nil))))) .nil) .nil) (.cons (.ret (.call 35 (.cons (.var 0) .nil))) .nil)))) := rfl
def l44_1 : E := (.lc false [3] (.idx (.lst false (.cons (.cst .non) (.cons (.call 43 (.cons (.var 0) .nil)) .nil))) (.blt .int (.cons (.cmp .gt (.call 34 (.cons (.var 0) (.cons (.cst (.int (4))) .nil))) (.cst (.int (0)))) .nil))) (.name 3) (.rng (.call 34 (.cons (.var 0) (.cons (.cst (.int (6))) .nil)))) .nil)
def l44_2 : E := (.lc false [3] (.idx (.lst false (.cons (.tup (.cons (.cst .non) (.cons (.cst (.int (0))) .nil))) (.cons (.tup (.cons (.call 43 (.cons (.var 0) .nil)) (.cons (.call 43 (.cons (.var 0) .nil)) .nil))) .nil))) (.blt .int (.cons (.cmp .gt (.call 34 (.cons (.var 0) (.cons (.cst (.int (4))) .nil))) (.cst (.int (0)))) .nil))) (.name 3) (.rng (.bin .add (.cst (.int (1))) (.call 34 (.cons (.var 0) (.cons (.cst (.int (4))) .nil))))) .nil)
theorem b44_eq : b44 = (.cons (.asg (.name 1) l44_1) (.cons (.asg (.name 2) l44_2) (.cons (.ret (.tup (.cons (.blt .tuple (.cons (.var 1) .nil)) (.cons (.blt .tuple (.cons (.var 2) .nil)) .nil)))) .nil))) := rfl
theorem b45_eq : b45 = (.cons (.asg (.name 2) (.call 34 (.cons (.var 0) (.cons (.cst (.int (15))) .nil)))) (.cons (.ite (.bop false (.cons (.cmp .eq (.var 1) (.cst (.int (0)))) (.cons (.cmp .lt (.var 2) (.cst (.int (3)))) .nil))) (.cons (.asg (.name 5) (.blt .sorted (.cons (.lst false (.cons (.bin .add (.cst (.int (1))) (.call 34 (.cons (.var 0) (.cons (.cst (.int (1000))) .nil)))) (.cons (.bin .sub (.bin .sub (.cst (.int (1001))) (.cst (.int (1)))) (.call 34 (.cons (.var 0) (.cons (.cst (.int (3))) .nil)))) .nil))) .nil))) (.cons (.ite (.cmp .eq (.idx (.var 5) (.cst (.int (0)))) (.idx (.var 5) (.cst (.int (1))))) (.cons (.asg (.name 5) (.slc (.var 5) .none (.some (.cst (.int (1)))))) .nil) .nil) (.cons (.ret (.idx (.lst false (.cons (.tup (.cons (.cst (.str [102, 111, 114, 109])) (.cons (.call 44 (.cons (.var 0) .nil)) .nil))) (.cons (.tup (.cons (.cst (.str [110, 97, 109, 101])) (.cons (.call 36 (.cons (.var 0) .nil)) .nil))) (.cons (.tup (.cons (.cst (.str [102, 101, 119, 101, 115, 116])) (.cons (.blt .tuple (.cons (.var 5) .nil)) .nil))) .nil)))) (.bin .mod (.blt .int (.cons (.var 2) .nil)) (.cst (.int (3)))))) .nil))) .nil) (.cons (.asg (.name 3) (.call 45 (.cons (.var 0) (.cons (.bin .sub (.var 1) (.cst (.int (1)))) .nil)))) (.cons (.ite (.cmp .eq (.var 2) (.cst (.int (3)))) (.cons (.ret (.tup (.cons (.cst (.str [116, 105, 109, 101, 115])) (.cons (.var 3) (.cons (.call 43 (.cons (.var 0) .nil)) .nil))))) .nil) .nil) (.cons (.ite (.cmp .eq (.var 2) (.cst (.int (4)))) (.cons (.ret (.tup (.cons (.cst (.str [100, 105, 118, 105, 100, 101, 100])) (.cons (.var 3) (.cons (.idx (.lst false (.cons (.bin .add (.cst (.int (1))) (.call 34 (.cons (.var 0) (.cons (.cst (.int (1000))) .nil)))) (.cons (.cst (.int (1000))) .nil))) (.call 34 (.cons (.var 0) (.cons (.cst (.int (2))) .nil)))) .nil))))) .nil) .nil) (.cons (.ite (.cmp .eq (.var 2) (.cst (.int (5)))) (.cons (.ret (.tup (.cons (.cst (.str [119, 104, 101, 114, 101])) (.cons (.var 3) (.cons (.idx (.lst false (.cons (.cst .non) (.cons (.call 43 (.cons (.var 0) .nil)) .nil))) (.call 34 (.cons (.var 0) (.cons (.cst (.int (2))) .nil)))) (.cons (.idx (.lst false (.cons (.cst .non) (.cons (.call 43 (.cons (.var 0) .nil)) .nil))) (.call 34 (.cons (.var 0) (.cons (.cst (.int (2))) .nil)))) .nil)))))) .nil) .nil) (.cons (.ite (.cmp .eq (.var 2) (.cst (.int (6)))) (.cons (.ret (.tup (.cons (.cst (.str [109, 111, 118, 101, 100])) (.cons (.var 3) (.cons (.call 43 (.cons (.var 0) .nil)) .nil))))) .nil) .nil) (.cons (.ite (.cmp .eq (.var 2) (.cst (.int (7)))) (.cons (.ret (.tup (.cons (.cst (.str [102, 114, 111, 109])) (.cons (.var 3) .nil)))) .nil) .nil) (.cons (.asg (.name 4) (.idx (.lst false (.cons (.cst (.str [115, 117, 109])) (.cons (.cst (.str [100, 105, 102, 102, 101, 114, 101, 110, 99, 101])) (.cons (.cst (.str [108, 101, 115, 115, 101, 114])) (.cons (.cst (.str [103, 114, 101, 97, 116, 101, 114])) (.cons (.cst (.str [111, 116, 104, 101, 114, 119, 105, 115, 101])) (.cons (.cst (.str [97, 102, 116, 101, 114])) (.cons (.cst (.str [115, 112, 108, 105, 116])) .nil)))))))) (.bin .sub (.var 2) (.cst (.int (8)))))) (.cons (.ret (.tup (.cons (.var 4) (.cons (.var 3) (.cons (.call 45 (.cons (.var 0) (.cons (.bin .sub (.var 1) (.cst (.int (1)))) .nil))) .nil))))) .nil)))))))))) := rfl
theorem b46_eq : b46 = (.cons (.ret (.mth .join (.cst (.str [10])) (.cons (.bin .add (.bin .add (.lst false (.cons (.var 0) .nil)) (.var 1)) (.lst false (.cons (.cst (.str [101, 110, 100])) .nil))) .nil))) .nil) := rfl
theorem b47_eq : b47 = (.cons (.asg (.name 1) (.call 46 (.cons (.cst (.str [102, 111, 114, 109, 117, 108, 97])) (.cons (.call 42 (.cons (.var 0) .nil)) .nil)))) (.cons (.ite (.cmp .ne (.call 32 (.cons (.var 1) .nil)) (.var 0)) (.cons (.ret (.cst (.bl false))) .nil) .nil) (.cons (.asg (.name 2) (.call 31 (.cons (.var 0) .nil))) (.cons (.ret (.bop true (.cons (.isi (.var 2) ["str"]) (.cons (.cmp .eq (.var 2) (.var 1)) .nil)))) .nil)))) := rfl
theorem b48_eq : b48 = (.cons (.asg (.name 1) (.call 46 (.cons (.cst (.str [102, 111, 114, 109])) (.cons (.call 40 (.cons (.var 0) .nil)) .nil)))) (.cons (.ite (.cmp .ne (.call 25 (.cons (.var 1) .nil)) (.var 0)) (.cons (.ret (.cst (.bl false))) .nil) .nil) (.cons (.asg (.name 2) (.call 24 (.cons (.var 0) .nil))) (.cons (.ret (.bop true (.cons (.isi (.var 2) ["str"]) (.cons (.cmp .eq (.var 2) (.var 1)) .nil)))) .nil)))) := rfl
def t49_1 : Ss := (.cons (.ite (.bop true (.cons (.cmp .isnot (.var 1) (.cst .non)) (.cons (.bop false (.cons (.notv (.isi (.var 1) ["int"])) (.cons (.isi (.var 1) ["bool"]) .nil))) .nil))) (.cons (.ret (.cst (.bl false))) .nil) .nil) .nil)
def s49_1 : St := .fo (.name 1) (.val (.idx (.var 0) (.cst (.int (0))))) t49_1
def t49_2 : Ss := (.cons (.ite (.bop false (.cons (.isi (.var 2) ["bool"]) (.cons (.notv (.isi (.var 2) ["int"])) .nil))) (.cons (.ret (.cst (.bl false))) .nil) .nil) (.cons (.ite (.bop true (.cons (.cmp .isnot (.var 1) (.cst .non)) (.cons (.bop false (.cons (.notv (.isi (.var 1) ["int"])) (.cons (.isi (.var 1) ["bool"]) .nil))) .nil))) (.cons (.ret (.cst (.bl false))) .nil) .nil) .nil))
def s49_2 : St := .fo (.tup (.cons (.name 1) (.cons (.name 2) .nil))) (.val (.idx (.var 0) (.cst (.int (1))))) t49_2
theorem b49_eq : b49 = (.cons s49_1 (.cons s49_2 (.cons (.ret (.bop true (.cons (.isi (.idx (.var 0) (.cst (.int (0)))) ["tuple"]) (.cons (.isi (.idx (.var 0) (.cst (.int (1)))) ["tuple"]) .nil)))) .nil))) := rfl
def t50_1 : Ss := (.cons (.asg (.name 6) (.idx (.lst false (.cons (.tup (.cons (.cst (.str [102, 114, 111, 109])) (.cons (.var 6) .nil))) (.cons (.tup (.cons (.cst (.str [116, 105, 109, 101, 115])) (.cons (.var 6) (.cons (.var 7) .nil)))) (.cons (.tup (.cons (.cst (.str [115, 117, 109])) (.cons (.var 6) (.cons (.var 5) .nil)))) (.cons (.tup (.cons (.cst (.str [115, 112, 108, 105, 116])) (.cons (.var 5) (.cons (.var 6) .nil)))) .nil))))) (.call 34 (.cons (.var 1) (.cons (.cst (.int (4))) .nil))))) .nil)
def s50_1 : St := .fo (.name 7) (.rng (.cst (.int (9)))) t50_1
def t50_2 : Ss := (.cons (.asg (.name 8) (.tup (.cons (.cst (.str [108, 101, 115, 115, 101, 114])) (.cons (.var 8) (.cons (.tup (.cons (.cst (.str [97, 102, 116, 101, 114])) (.cons (.var 5) (.cons (.var 5) .nil)))) .nil))))) .nil)
def s50_2 : St := .fo (.name 7) (.rng (.cst (.int (4)))) t50_2
theorem b50_eq : b50 = (.cons (.asg (.name 1) (.call 33 (.cons (.var 0) .nil))) (.cons (.asg (.name 2) (.call 44 (.cons (.var 1) .nil))) (.cons (.asg (.name 3) (.call 46 (.cons (.cst (.str [102, 111, 114, 109])) (.cons (.call 40 (.cons (.var 2) .nil)) .nil)))) (.cons (.ite (.bop false (.cons (.notv (.call 48 (.cons (.var 2) .nil))) (.cons (.notv (.call 49 (.cons (.call 25 (.cons (.var 3) .nil)) .nil))) .nil))) (.cons (.ret (.cst (.bl false))) .nil) .nil) (.cons (.ite (.cmp .eq (.call 34 (.cons (.var 1) (.cons (.cst (.int (9))) .nil))) (.cst (.int (0)))) (.cons (.asg (.name 10) (.tup (.cons (.bin .mul (.blt .tuple (.cons (.lst false (.cons (.idx (.idx (.idx (.var 2) (.cst (.int (1)))) (.cst (.int (0)))) (.cst (.int (0)))) .nil)) .nil)) (.bin .add (.cst (.int (3998))) (.call 34 (.cons (.var 1) (.cons (.cst (.int (3))) .nil))))) (.cons (.bin .mul (.slc (.idx (.var 2) (.cst (.int (1)))) .none (.some (.cst (.int (1))))) (.bin .add (.cst (.int (998))) (.call 34 (.cons (.var 1) (.cons (.cst (.int (3))) .nil))))) .nil)))) (.cons (.ite (.notv (.call 48 (.cons (.var 10) .nil))) (.cons (.ret (.cst (.bl false))) .nil) .nil) .nil)) .nil) (.cons (.asg (.name 4) (.call 45 (.cons (.var 1) (.cons (.call 34 (.cons (.var 1) (.cons (.cst (.int (4))) .nil))) .nil)))) (.cons (.ite (.notv (.call 47 (.cons (.var 4) .nil))) (.cons (.ret (.cst (.bl false))) .nil) .nil) (.cons (.asg (.name 5) (.tup (.cons (.cst (.str [110, 97, 109, 101])) (.cons (.call 36 (.cons (.var 1) .nil)) .nil)))) (.cons (.asg (.name 6) (.call 45 (.cons (.var 1) (.cons (.cst (.int (0))) .nil)))) (.cons s50_1 (.cons (.ite (.notv (.call 47 (.cons (.var 6) .nil))) (.cons (.ret (.cst (.bl false))) .nil) .nil) (.cons (.asg (.name 8) (.tup (.cons (.cst (.str [115, 117, 109])) (.cons (.var 5) (.cons (.var 5) .nil))))) (.cons s50_2 (.cons (.ite (.notv (.call 47 (.cons (.tup (.cons (.cst (.str [115, 117, 109])) (.cons (.var 8) (.cons (.tup (.cons (.cst (.str [102, 114, 111, 109])) (.cons (.var 8) .nil))) .nil)))) .nil))) (.cons (.ret (.cst (.bl false))) .nil) .nil) (.cons (.asg (.name 9) (.call 44 (.cons (.var 1) .nil))) (.cons (.ret (.bop true (.cons (.call 48 (.cons (.var 9) .nil)) (.cons (.cmp .eq (.call 25 (.cons (.var 3) .nil)) (.var 2)) (.cons (.call 47 (.cons (.var 4) .nil)) .nil))))) .nil)))))))))))))))) := rfl
end K61


set_option linter.all false
set_option Elab.async false
set_option maxRecDepth 100000
set_option maxHeartbeats 2000000
namespace K61
open PySem Rx
/-! forms, looked at -/
theorem line_val : line = 16777216 := rfl
theorem le_line (n : Nat) (h : n ≤ 1000) : n ≤ line := Nat.le_trans h (by decide)
theorem wInteger {n : Nat} (hn : 1 ≤ n) (x : D) (S : Sto) (h : notDict x) : R n 0 [.pd x] S = .ok (.pd (.bool (isInt x))) S := by
  obtain ⟨n, rfl⟩ : ∃ m, n = m + 1 := ⟨n - 1, by omega⟩
  exact r_is_integer n x S h
theorem wBetween {n : Nat} (hn : 2 ≤ n) (x : D) (lo hi : Int) (S : Sto) (h : notDict x) : R n 1 [.pd x, .pd (.int lo), .pd (.int hi)] S = .ok (.pd (.bool (betw x lo hi))) S := by
  obtain ⟨n, rfl⟩ : ∃ m, n = m + 2 := ⟨n - 2, by omega⟩
  exact r_is_between n x lo hi S h
theorem wName {n : Nat} (hn : 1 ≤ n) (x : D) (S : Sto) (h : okD x) : R n 2 [.pd x] S = .ok (.pd (.bool (isNameD x))) S := by
  obtain ⟨n, rfl⟩ : ∃ m, n = m + 1 := ⟨n - 1, by omega⟩
  exact r_is_name n x S h
theorem wWords {n : Nat} (hn : 1 ≤ n) (l : W) (S : Sto) (h : l.length + 2 ≤ line) : R n 13 [.pd (Rx.S l)] S = .ok (.pd (wsD (wordsW l))) S := by
  obtain ⟨n, rfl⟩ : ∃ m, n = m + 1 := ⟨n - 1, by omega⟩
  exact r_words_of n l S h
theorem wInt {n : Nat} (hn : 2 ≤ n) (w : W) (S : Sto) (h : w.length ≤ line) : R n 14 [.pd (Rx.S w)] S = .ok (.pd (intD (intW w))) S := by
  obtain ⟨n, rfl⟩ : ∃ m, n = m + 2 := ⟨n - 2, by omega⟩
  exact r_integer_of n w S h
/-- a member: None, a number or a text -/
def okI (x : D) : Prop := match x with
  | .none => True
  | .int _ => True
  | .str s => s.length ≤ line
  | _ => False
theorem okI.d {x : D} (h : okI x) : okD x := by cases x <;> first | exact h | trivial | exact h.elim
theorem okI.n {x : D} (h : okI x) : notDict x := by cases x <;> first | trivial | exact h.elim
theorem okI_S {w : W} (h : w.length ≤ line) : okI (Rx.S w) := by
  show Str.length _ ≤ line
  rw [S_len]; exact h
def bndD (x : D) : Bool := Rx.isNone x || isInt x
theorem wBound {n : Nat} (hn : 2 ≤ n) (x : D) (S : Sto) (h : notDict x) : R n 5 [.pd x] S = .ok (.pd (.bool (bndD x))) S := by
  obtain ⟨n, rfl⟩ : ∃ m, n = m + 1 := ⟨n - 1, by omega⟩
  have e := wInteger (by omega : 1 ≤ n) x S h
  have ec := c_is_none (s := S) x
  rw [R_eq (d := d5) rfl]
  generalize R n = call at *
  unfold bndD
  cases hx : Rx.isNone x <;> rw [hx] at ec <;> simp only [d5, b5_eq, body, denSs, denS, den, denB, denV, denP, denI, denO, denT, denTs, denF, denG, denGs, both_1, both_2, cmpB_1, cmpB_2, bind_ok, bind_exc, bind_stuck, go_ok, go_exc, go_stuck, nxt_nx, nxt_rt, nxt_bk, nxt_ct, nxt_exc, litD, List.length_cons, List.length_nil, List.map_cons, List.map_nil, List.getElem?_cons_zero, List.getElem?_cons_succ, List.cons_append, List.nil_append, List.replicate, List.set_cons_zero, List.set_cons_succ, wipeE, Nat.reduceAdd, Nat.reduceSub, Nat.reduceEqDiff, Nat.reduceLT, Nat.zero_add, if_true, if_false, Bool.false_eq_true, Bool.not_true, Bool.not_false, beq_self_eq_true, lv_pd, lv_fn, take_self, bq_ft, bq_tf, tests, toP, ec, e, tr_bool, Bool.true_or, Bool.false_or]
/-- a pair of a tail, or None -/
def okPr (x : D) : Prop := x = .none ∨ ∃ a b, x = .tuple [a, b] ∧ okI a ∧ okI b
def eq0 (x : D) : Bool := match x with
  | .int i => decide (i = 0)
  | _ => false
def pairB (x : D) : Bool := match x with
  | .tuple [a, b] => if Rx.isNone a = true then isInt b && eq0 b else isInt a && isInt b
  | _ => false
theorem wPair {n : Nat} (hn : 2 ≤ n) (x : D) (S : Sto) (h : okPr x) : R n 6 [.pd x] S = .ok (.pd (.bool (pairB x))) S := by
  obtain ⟨n, rfl⟩ : ∃ m, n = m + 1 := ⟨n - 1, by omega⟩
  rw [R_eq (d := d6) rfl]
  rcases h with rfl | ⟨a, b, rfl, ha, hb⟩
  · generalize R n = call at *
    simp only [d6, b6_eq, body, denSs, denS, den, denB, denV, denP, denI, denO, denT, denTs, denF, denG, denGs, both_1, both_2, cmpB_1, cmpB_2, bind_ok, bind_exc, bind_stuck, go_ok, go_exc, go_stuck, nxt_nx, nxt_rt, nxt_bk, nxt_ct, nxt_exc, litD, List.length_cons, List.length_nil, List.map_cons, List.map_nil, List.getElem?_cons_zero, List.getElem?_cons_succ, List.cons_append, List.nil_append, List.replicate, List.set_cons_zero, List.set_cons_succ, wipeE, Nat.reduceAdd, Nat.reduceSub, Nat.reduceEqDiff, Nat.reduceLT, Nat.zero_add, if_true, if_false, Bool.false_eq_true, Bool.not_true, Bool.not_false, beq_self_eq_true, lv_pd, lv_fn, take_self, bq_ft, bq_tf, tests, toP, isiV, isOf, view, tr_bool, pairB]
  · have ea := wInteger (by omega : 1 ≤ n) a S ha.n
    have eb := wInteger (by omega : 1 ≤ n) b S hb.n
    have ec := c_is_none (s := S) a
    have hl0 : bltV .len [.pd (.tuple [a, b])] S = .ok (.pd (.int 2)) S := rfl
    have n2 : decide ((2 : Int) ≠ 2) = false := by decide
    generalize R n = call at *
    unfold pairB
    cases hx : Rx.isNone a with
    | true =>
      rw [hx] at ec
      cases hb2 : isInt b with
      | false =>
        rw [hb2] at eb
        simp only [d6, b6_eq, body, denSs, denS, den, denB, denV, denP, denI, denO, denT, denTs, denF, denG, denGs, both_1, both_2, cmpB_1, cmpB_2, bind_ok, bind_exc, bind_stuck, go_ok, go_exc, go_stuck, nxt_nx, nxt_rt, nxt_bk, nxt_ct, nxt_exc, litD, List.length_cons, List.length_nil, List.map_cons, List.map_nil, List.getElem?_cons_zero, List.getElem?_cons_succ, List.cons_append, List.nil_append, List.replicate, List.set_cons_zero, List.set_cons_succ, wipeE, Nat.reduceAdd, Nat.reduceSub, Nat.reduceEqDiff, Nat.reduceLT, Nat.zero_add, if_true, if_false, Bool.false_eq_true, Bool.not_true, Bool.not_false, beq_self_eq_true, lv_pd, lv_fn, take_self, bq_ft, bq_tf, tests, toP, isiV, isOf, view, tr_bool, hl0, n2, hx, hb2, c_ne_i, ec, eb, Bool.false_and, Bool.and_false]
      | true =>
        rw [hb2] at eb
        cases b with
        | int i =>
          simp only [d6, b6_eq, body, denSs, denS, den, denB, denV, denP, denI, denO, denT, denTs, denF, denG, denGs, both_1, both_2, cmpB_1, cmpB_2, bind_ok, bind_exc, bind_stuck, go_ok, go_exc, go_stuck, nxt_nx, nxt_rt, nxt_bk, nxt_ct, nxt_exc, litD, List.length_cons, List.length_nil, List.map_cons, List.map_nil, List.getElem?_cons_zero, List.getElem?_cons_succ, List.cons_append, List.nil_append, List.replicate, List.set_cons_zero, List.set_cons_succ, wipeE, Nat.reduceAdd, Nat.reduceSub, Nat.reduceEqDiff, Nat.reduceLT, Nat.zero_add, if_true, if_false, Bool.false_eq_true, Bool.not_true, Bool.not_false, beq_self_eq_true, lv_pd, lv_fn, take_self, bq_ft, bq_tf, tests, toP, isiV, isOf, view, tr_bool, hl0, n2, hx, hb2, c_ne_i, c_eq_i, ec, eb, Bool.true_and, eq0]
          | _ => exact absurd hb2 (by simp [isInt])
    | false =>
      rw [hx] at ec
      cases ha2 : isInt a <;> rw [ha2] at ea <;> simp only [d6, b6_eq, body, denSs, denS, den, denB, denV, denP, denI, denO, denT, denTs, denF, denG, denGs, both_1, both_2, cmpB_1, cmpB_2, bind_ok, bind_exc, bind_stuck, go_ok, go_exc, go_stuck, nxt_nx, nxt_rt, nxt_bk, nxt_ct, nxt_exc, litD, List.length_cons, List.length_nil, List.map_cons, List.map_nil, List.getElem?_cons_zero, List.getElem?_cons_succ, List.cons_append, List.nil_append, List.replicate, List.set_cons_zero, List.set_cons_succ, wipeE, Nat.reduceAdd, Nat.reduceSub, Nat.reduceEqDiff, Nat.reduceLT, Nat.zero_add, if_true, if_false, Bool.false_eq_true, Bool.not_true, Bool.not_false, beq_self_eq_true, lv_pd, lv_fn, take_self, bq_ft, bq_tf, tests, toP, isiV, isOf, view, tr_bool, hl0, n2, hx, ha2, c_ne_i, ec, ea, eb, Bool.false_and, Bool.true_and]
def headOk (hs : List D) : Bool := decide (hs.length ≤ 4000) && hs.all bndD
def tailOk (ts : List D) : Bool := (decide (1 ≤ ts.length) && decide (ts.length ≤ 1000)) && ts.all pairB
def faultD (hs ts : List D) : D := if headOk hs = true then (if tailOk ts = true then .none else Rx.S [116, 97, 105, 108]) else Rx.S [104, 101, 97, 100]
theorem wFault {n : Nat} (hn : 3 ≤ n) (hs ts : List D) (S : Sto) (h1 : ∀ x ∈ hs, okI x) (h2 : ∀ x ∈ ts, okPr x) (l1 : hs.length ≤ line) (l2 : ts.length ≤ line) : R n 7 [.pd (.tuple [.tuple hs, .tuple ts])] S = .ok (.pd (faultD hs ts)) S := by
  obtain ⟨n, rfl⟩ : ∃ m, n = m + 1 := ⟨n - 1, by omega⟩
  have e1 : (den kons (R n) l7_1).1 [some (.pd (.tuple [.tuple hs, .tuple ts])), some (.pd (.tuple hs)), some (.pd (.tuple ts)), none, none] S = .ok (.pd (.list (hs.map fun x => .bool (bndD x)))) S := by
    refine Rx.lc_map (xs := hs) id (fun x => .bool (bndD x)) (by rw [List.map_id]; rfl) (fun x hx => ?_) l1
    have e := wBound (by omega : 2 ≤ n) x S (h1 x hx).n
    generalize R n = call at *
    simp only [Rx.lcT, id, body, denSs, denS, den, denB, denV, denP, denI, denO, denT, denTs, denF, denG, denGs, both_1, both_2, cmpB_1, cmpB_2, bind_ok, bind_exc, bind_stuck, go_ok, go_exc, go_stuck, nxt_nx, nxt_rt, nxt_bk, nxt_ct, nxt_exc, litD, List.length_cons, List.length_nil, List.map_cons, List.map_nil, List.getElem?_cons_zero, List.getElem?_cons_succ, List.cons_append, List.nil_append, List.replicate, List.set_cons_zero, List.set_cons_succ, wipeE, Nat.reduceAdd, Nat.reduceSub, Nat.reduceEqDiff, Nat.reduceLT, Nat.zero_add, if_true, if_false, Bool.false_eq_true, Bool.not_true, Bool.not_false, beq_self_eq_true, lv_pd, lv_fn, take_self, bq_ft, bq_tf, tests, toP, e]
  have e2 : (den kons (R n) l7_2).1 [some (.pd (.tuple [.tuple hs, .tuple ts])), some (.pd (.tuple hs)), some (.pd (.tuple ts)), none, none] S = .ok (.pd (.list (ts.map fun x => .bool (pairB x)))) S := by
    refine Rx.lc_map (xs := ts) id (fun x => .bool (pairB x)) (by rw [List.map_id]; rfl) (fun x hx => ?_) l2
    have e := wPair (by omega : 2 ≤ n) x S (h2 x hx)
    generalize R n = call at *
    simp only [Rx.lcT, id, body, denSs, denS, den, denB, denV, denP, denI, denO, denT, denTs, denF, denG, denGs, both_1, both_2, cmpB_1, cmpB_2, bind_ok, bind_exc, bind_stuck, go_ok, go_exc, go_stuck, nxt_nx, nxt_rt, nxt_bk, nxt_ct, nxt_exc, litD, List.length_cons, List.length_nil, List.map_cons, List.map_nil, List.getElem?_cons_zero, List.getElem?_cons_succ, List.cons_append, List.nil_append, List.replicate, List.set_cons_zero, List.set_cons_succ, wipeE, Nat.reduceAdd, Nat.reduceSub, Nat.reduceEqDiff, Nat.reduceLT, Nat.zero_add, if_true, if_false, Bool.false_eq_true, Bool.not_true, Bool.not_false, beq_self_eq_true, lv_pd, lv_fn, take_self, bq_ft, bq_tf, tests, toP, e]
  have a1 : bltV .all [.pd (.list (hs.map fun x => .bool (bndD x)))] S = _ := all_bools bndD hs S
  have a2 : bltV .all [.pd (.list (ts.map fun x => .bool (pairB x)))] S = _ := all_bools pairB ts S
  have k1 : kons[0]? = some (.int 4000) := rfl
  have k2 : kons[1]? = some (.int 1000) := rfl
  have g1 : decide ((4000 : Int) < hs.length) = !decide (hs.length ≤ 4000) := by
    by_cases q : hs.length ≤ 4000
    · simp [q]; omega
    · simp [q]; omega
  have g2 : decide ((1 : Int) ≤ ts.length) = decide (1 ≤ ts.length) := by rw [decide_eq_decide]; omega
  have g3 : decide ((ts.length : Int) ≤ 1000) = decide (ts.length ≤ 1000) := by rw [decide_eq_decide]; omega
  have f1 := Rx.f_len_t (s := S) hs
  have f2 := Rx.f_len_t (s := S) ts
  rw [R_eq (d := d7) rfl]
  have hf : faultD hs ts = if (decide (hs.length ≤ 4000) && hs.all bndD) = true then (if ((decide (1 ≤ ts.length) && decide (ts.length ≤ 1000)) && ts.all pairB) = true then .none else Rx.S [116, 97, 105, 108]) else Rx.S [104, 101, 97, 100] := rfl
  rw [hf]
  generalize hs.map (fun x => PyData.bool (bndD x)) = bs1 at *
  generalize ts.map (fun x => PyData.bool (pairB x)) = bs2 at *
  have hl0 : bltV .len [.pd (.tuple [.tuple hs, .tuple ts])] S = .ok (.pd (.int 2)) S := rfl
  generalize hs.all bndD = q1 at *
  generalize ts.all pairB = q2 at *
  generalize decide (hs.length ≤ 4000) = q3 at *
  generalize decide (1 ≤ ts.length) = q4 at *
  generalize decide (ts.length ≤ 1000) = q5 at *
  have n2 : decide ((2 : Int) ≠ 2) = false := by decide
  generalize R n = call at *
  cases q3 <;> cases q1 <;> simp only [d7, b7_eq, body, denSs, denS, den, denB, denV, denP, denI, denO, denT, denTs, denF, denG, denGs, both_1, both_2, cmpB_1, cmpB_2, bind_ok, bind_exc, bind_stuck, go_ok, go_exc, go_stuck, nxt_nx, nxt_rt, nxt_bk, nxt_ct, nxt_exc, litD, List.length_cons, List.length_nil, List.map_cons, List.map_nil, List.getElem?_cons_zero, List.getElem?_cons_succ, List.cons_append, List.nil_append, List.replicate, List.set_cons_zero, List.set_cons_succ, wipeE, Nat.reduceAdd, Nat.reduceSub, Nat.reduceEqDiff, Nat.reduceLT, Nat.zero_add, if_true, if_false, Bool.false_eq_true, Bool.not_true, Bool.not_false, beq_self_eq_true, lv_pd, lv_fn, take_self, bq_ft, bq_tf, tests, toP, isiV, isOf, view, tr_bool, hl0, n2, c_ne_i, c_gt_i, c_le_i, k1, k2, f1, f2, e1, e2, a1, a2, g1, g2, g3, Bool.and_true, Bool.and_false, Bool.true_and, Bool.false_and]
  cases q4 <;> cases q5 <;> cases q2 <;> simp only [Bool.and_true, Bool.and_false, Bool.true_and, Bool.false_and, body, denSs, denS, den, denB, denV, denP, denI, denO, denT, denTs, denF, denG, denGs, both_1, both_2, cmpB_1, cmpB_2, bind_ok, bind_exc, bind_stuck, go_ok, go_exc, go_stuck, nxt_nx, nxt_rt, nxt_bk, nxt_ct, nxt_exc, litD, List.length_cons, List.length_nil, List.map_cons, List.map_nil, List.getElem?_cons_zero, List.getElem?_cons_succ, List.cons_append, List.nil_append, List.replicate, List.set_cons_zero, List.set_cons_succ, wipeE, Nat.reduceAdd, Nat.reduceSub, Nat.reduceEqDiff, Nat.reduceLT, Nat.zero_add, if_true, if_false, Bool.false_eq_true, Bool.not_true, Bool.not_false, beq_self_eq_true, lv_pd, lv_fn, take_self, bq_ft, bq_tf, tests, toP, isiV, isOf, view, tr_bool, f1, f2, e1, e2, a1, a2, g1, g2, g3, k2, c_le_i]
end K61


set_option linter.all false
set_option Elab.async false
set_option maxRecDepth 100000
set_option maxHeartbeats 2000000
namespace K61
open PySem Rx
/-! forms, written -/
abbrev OI := Option Int
abbrev OP := Option (Int × Int)
structure Fm where
  head : List OI
  tail : List OP
def pD (p : OP) : D := match p with
  | none => .tuple [.none, .int 0]
  | some (v, s) => .tuple [.int v, .int s]
def fmD (f : Fm) : D := .tuple [.tuple (f.head.map intD), .tuple (f.tail.map pD)]
/-- a number of at most 40 signs -/
def sm (i : Int) : Prop := (strI i).length ≤ 40
theorem sm_nat {i : Int} (h : sm i) : i.natAbs < 10 ^ 40 := by
  have e := intW_strI h
  unfold intW at e
  split at e
  · rename_i hc
    split at e
    · injection e with e
      have := val_small hc.2 hc.1
      rw [e] at this
      exact this
    · exact absurd e (by simp)
  · exact absurd e (by simp)
theorem sm_log {i : Int} (h : sm i) : i.natAbs.log2 < 1920 := log_small (sm_nat h)
def smO (o : OI) : Prop := ∀ i, o = some i → sm i
def smP (p : OP) : Prop := ∀ v s, p = some (v, s) → sm v ∧ sm s
def goodF (f : Fm) : Prop := (f.head.length ≤ 4000 ∧ 1 ≤ f.tail.length ∧ f.tail.length ≤ 1000) ∧ (∀ o ∈ f.head, smO o) ∧ ∀ p ∈ f.tail, smP p
def wNone : W := [110, 111, 110, 101]
def wordO (o : OI) : W := match o with
  | none => wNone
  | some i => strI i
def pairW (p : OP) : W := match p with
  | none => wNone
  | some (v, s) => strI v ++ 47 :: strI s
theorem wordO_len {o : OI} (h : smO o) : (wordO o).length ≤ 40 := by
  cases o with
  | none => decide
  | some i => exact h i rfl
theorem pairW_len {p : OP} (h : smP p) : (pairW p).length ≤ 81 := by
  cases p with
  | none => decide
  | some q =>
    obtain ⟨v, s⟩ := q
    obtain ⟨h1, h2⟩ := h v s rfl
    unfold sm at h1 h2
    simp only [pairW, List.length_append, List.length_cons]
    omega
theorem f_str_i {i : Int} (h : sm i) (S : Sto) : bltV .str [.pd (.int i)] S = .ok (.pd (Rx.S (strI i))) S := b_str i S (sm_log h)
theorem wOptWord {n : Nat} (hn : 1 ≤ n) (o : OI) (S : Sto) (h : smO o) : R n 16 [.pd (intD o), .pd (Rx.S wNone)] S = .ok (.pd (Rx.S (wordO o))) S := by
  obtain ⟨n, rfl⟩ : ∃ m, n = m + 1 := ⟨n - 1, by omega⟩
  rw [R_eq (d := d16) rfl]
  cases o with
  | none => simp only [d16, b16_eq, body, denSs, denS, den, denB, denV, denP, denI, denO, denT, denTs, denF, denG, denGs, both_1, both_2, cmpB_1, cmpB_2, bind_ok, bind_exc, bind_stuck, go_ok, go_exc, go_stuck, nxt_nx, nxt_rt, nxt_bk, nxt_ct, nxt_exc, litD, List.length_cons, List.length_nil, List.map_cons, List.map_nil, List.getElem?_cons_zero, List.getElem?_cons_succ, List.cons_append, List.nil_append, List.replicate, List.set_cons_zero, List.set_cons_succ, wipeE, Nat.reduceAdd, Nat.reduceSub, Nat.reduceEqDiff, Nat.reduceLT, Nat.zero_add, if_true, if_false, Bool.false_eq_true, Bool.not_true, Bool.not_false, beq_self_eq_true, lv_pd, lv_fn, take_self, bq_ft, bq_tf, tests, toP, intD, c_is_none, Rx.isNone, wordO]
  | some i =>
    have e := f_str_i (h i rfl) S
    simp only [d16, b16_eq, body, denSs, denS, den, denB, denV, denP, denI, denO, denT, denTs, denF, denG, denGs, both_1, both_2, cmpB_1, cmpB_2, bind_ok, bind_exc, bind_stuck, go_ok, go_exc, go_stuck, nxt_nx, nxt_rt, nxt_bk, nxt_ct, nxt_exc, litD, List.length_cons, List.length_nil, List.map_cons, List.map_nil, List.getElem?_cons_zero, List.getElem?_cons_succ, List.cons_append, List.nil_append, List.replicate, List.set_cons_zero, List.set_cons_succ, wipeE, Nat.reduceAdd, Nat.reduceSub, Nat.reduceEqDiff, Nat.reduceLT, Nat.zero_add, if_true, if_false, Bool.false_eq_true, Bool.not_true, Bool.not_false, beq_self_eq_true, lv_pd, lv_fn, take_self, bq_ft, bq_tf, tests, toP, intD, c_is_none, Rx.isNone, wordO, e]
theorem fmt_int {i : Int} (h : sm i) (S : Sto) : fmtV (.pd (.int i)) S = .ok ⟨(strI i).toArray⟩ S := by
  simp only [fmtV, sm_log h, if_true, ofStr_int]
theorem cat_S (a b : W) : (⟨a.toArray⟩ : Str) ++ ⟨b.toArray⟩ = ⟨(a ++ b).toArray⟩ := SX.S_cat a b
theorem wPairWord {n : Nat} (hn : 1 ≤ n) (p : OP) (S : Sto) (h : smP p) : R n 20 [.pd (pD p)] S = .ok (.pd (Rx.S (pairW p))) S := by
  obtain ⟨n, rfl⟩ : ∃ m, n = m + 1 := ⟨n - 1, by omega⟩
  rw [R_eq (d := d20) rfl]
  cases p with
  | none =>
    have e := c_is_none (s := S) .none
    generalize R n = call at *
    simp only [d20, b20_eq, body, denSs, denS, den, denB, denV, denP, denI, denO, denT, denTs, denF, denG, denGs, both_1, both_2, cmpB_1, cmpB_2, bind_ok, bind_exc, bind_stuck, go_ok, go_exc, go_stuck, nxt_nx, nxt_rt, nxt_bk, nxt_ct, nxt_exc, litD, List.length_cons, List.length_nil, List.map_cons, List.map_nil, List.getElem?_cons_zero, List.getElem?_cons_succ, List.cons_append, List.nil_append, List.replicate, List.set_cons_zero, List.set_cons_succ, wipeE, Nat.reduceAdd, Nat.reduceSub, Nat.reduceEqDiff, Nat.reduceLT, Nat.zero_add, if_true, if_false, Bool.false_eq_true, Bool.not_true, Bool.not_false, beq_self_eq_true, lv_pd, lv_fn, take_self, bq_ft, bq_tf, tests, toP, pD, view, e, Rx.isNone, pairW]
    rfl
  | some q =>
    obtain ⟨v, s⟩ := q
    obtain ⟨h1, h2⟩ := h v s rfl
    have e := c_is_none (s := S) (.int v)
    have f1 := fmt_int h1 S
    have f2 := fmt_int h2 S
    have f3 : fmtV (.pd (Rx.S [47])) S = .ok ⟨[47].toArray⟩ S := rfl
    have ln := line_val
    have g0 : Str.empty.length = 0 := rfl
    have g1 : Str.empty ++ (⟨(strI v).toArray⟩ : Str) = ⟨(strI v).toArray⟩ := cat_S [] _
    have q1 : (⟨(strI v).toArray⟩ : Str).length = (strI v).length := S_len _
    have q2 : (⟨[47].toArray⟩ : Str).length = 1 := S_len _
    have q3 : (⟨(strI v ++ [47]).toArray⟩ : Str).length = (strI v).length + 1 := by rw [S_len]; simp
    have q4 : (⟨(strI s).toArray⟩ : Str).length = (strI s).length := S_len _
    unfold sm at h1 h2
    have l1 : (strI v).length ≤ line := by omega
    have l2 : (strI v).length + 1 ≤ line := by omega
    have l3 : (strI v).length + 1 + (strI s).length ≤ line := by omega
    have c1 := cat_S (strI v) [47]
    have c2 := cat_S (strI v ++ [47]) (strI s)
    have fin : strI v ++ [47] ++ strI s = pairW (some (v, s)) := by simp [pairW]
    rw [fin] at c2
    generalize pairW (some (v, s)) = res at *
    generalize strI v ++ [47] = m1 at *
    generalize R n = call at *
    simp only [d20, b20_eq, body, denSs, denS, den, denB, denV, denP, denI, denO, denT, denTs, denF, denG, denGs, both_1, both_2, cmpB_1, cmpB_2, bind_ok, bind_exc, bind_stuck, go_ok, go_exc, go_stuck, nxt_nx, nxt_rt, nxt_bk, nxt_ct, nxt_exc, litD, List.length_cons, List.length_nil, List.map_cons, List.map_nil, List.getElem?_cons_zero, List.getElem?_cons_succ, List.cons_append, List.nil_append, List.replicate, List.set_cons_zero, List.set_cons_succ, wipeE, Nat.reduceAdd, Nat.reduceSub, Nat.reduceEqDiff, Nat.reduceLT, Nat.zero_add, if_true, if_false, Bool.false_eq_true, Bool.not_true, Bool.not_false, beq_self_eq_true, lv_pd, lv_fn, take_self, bq_ft, bq_tf, tests, toP, pD, view, e, Rx.isNone, joinF, f1, f2, f3, g0, g1, q1, q2, q3, q4, l1, l2, l3, c1, c2]
    rfl
def wHead : W := [104, 101, 97, 100]
def wTail : W := [116, 97, 105, 108]
def headW (f : Fm) : W := TL.joinL [32] (wHead :: f.head.map wordO)
def tailW (f : Fm) : W := TL.joinL [32] (wTail :: f.tail.map pairW)
theorem head_bnd {f : Fm} (h : goodF f) : ∀ w ∈ wHead :: f.head.map wordO, w.length ≤ 81 := fun w hw => by
  rcases List.mem_cons.mp hw with e | hw
  · rw [e]; decide
  · obtain ⟨o, ho, rfl⟩ := List.mem_map.mp hw
    have := wordO_len (h.2.1 o ho); omega
theorem tail_bnd {f : Fm} (h : goodF f) : ∀ w ∈ wTail :: f.tail.map pairW, w.length ≤ 81 := fun w hw => by
  rcases List.mem_cons.mp hw with e | hw
  · rw [e]; decide
  · obtain ⟨p, hp, rfl⟩ := List.mem_map.mp hw
    exact pairW_len (h.2.2 p hp)
theorem headW_len {f : Fm} (h : goodF f) : (headW f).length ≤ 400000 := by
  have := Rx.joinL_bnd 32 81 _ (head_bnd h)
  have := h.1.1
  simp only [List.length_cons, List.length_map] at *
  unfold headW
  omega
theorem tailW_len {f : Fm} (h : goodF f) : (tailW f).length ≤ 400000 := by
  have := Rx.joinL_bnd 32 81 _ (tail_bnd h)
  have := h.1.2.2
  simp only [List.length_cons, List.length_map] at *
  unfold tailW
  omega
theorem wFormLines {n : Nat} (hn : 2 ≤ n) (f : Fm) (S : Sto) (h : goodF f) : R n 21 [.pd (fmD f)] S = .ok (.pd (.list [Rx.S (headW f), Rx.S (tailW f)])) S := by
  obtain ⟨n, rfl⟩ : ∃ m, n = m + 1 := ⟨n - 1, by omega⟩
  rw [R_eq (d := d21) rfl]
  have ln := line_val
  have l1 := le_line 1 (by decide)
  have l2 := le_line 2 (by decide)
  have i0 : ∀ s, idxV (.pd (fmD f)) (.pd (.int 0)) s = .ok (.pd (.tuple (f.head.map intD))) s := fun s => Rx.i_t (s := s) (by decide) rfl
  have i1 : ∀ s, idxV (.pd (fmD f)) (.pd (.int 1)) s = .ok (.pd (.tuple (f.tail.map pD))) s := fun s => Rx.i_t (s := s) (by decide) rfl
  have e1 : (den kons (R n) l21_1).1 [some (.pd (fmD f)), none, none, none, none] S = .ok (.pd (.list (f.head.map fun o => Rx.S (wordO o)))) S := by
    refine Rx.lc_map (xs := f.head) intD (fun o => Rx.S (wordO o)) ?_ (fun o ho => ?_) (by have := h.1.1; omega)
    · refine Rx.it_val (v := .pd (.tuple (f.head.map intD))) (s' := S) ?_ rfl
      generalize R n = call
      simp only [body, denSs, denS, den, denB, denV, denP, denI, denO, denT, denTs, denF, denG, denGs, both_1, both_2, cmpB_1, cmpB_2, bind_ok, bind_exc, bind_stuck, go_ok, go_exc, go_stuck, nxt_nx, nxt_rt, nxt_bk, nxt_ct, nxt_exc, litD, List.length_cons, List.length_nil, List.map_cons, List.map_nil, List.getElem?_cons_zero, List.getElem?_cons_succ, List.cons_append, List.nil_append, List.replicate, List.set_cons_zero, List.set_cons_succ, wipeE, Nat.reduceAdd, Nat.reduceSub, Nat.reduceEqDiff, Nat.reduceLT, Nat.zero_add, if_true, if_false, Bool.false_eq_true, Bool.not_true, Bool.not_false, beq_self_eq_true, lv_pd, lv_fn, take_self, bq_ft, bq_tf, tests, toP, i0]
    · have e := wOptWord (by omega : 1 ≤ n) o S (h.2.1 o ho)
      have e : R n 16 [.pd (intD o), .pd (Rx.S [110, 111, 110, 101])] S = _ := e
      generalize R n = call at *
      simp only [Rx.lcT, body, denSs, denS, den, denB, denV, denP, denI, denO, denT, denTs, denF, denG, denGs, both_1, both_2, cmpB_1, cmpB_2, bind_ok, bind_exc, bind_stuck, go_ok, go_exc, go_stuck, nxt_nx, nxt_rt, nxt_bk, nxt_ct, nxt_exc, litD, List.length_cons, List.length_nil, List.map_cons, List.map_nil, List.getElem?_cons_zero, List.getElem?_cons_succ, List.cons_append, List.nil_append, List.replicate, List.set_cons_zero, List.set_cons_succ, wipeE, Nat.reduceAdd, Nat.reduceSub, Nat.reduceEqDiff, Nat.reduceLT, Nat.zero_add, if_true, if_false, Bool.false_eq_true, Bool.not_true, Bool.not_false, beq_self_eq_true, lv_pd, lv_fn, take_self, bq_ft, bq_tf, tests, toP, e]
  have m1 : (f.head.map fun o => Rx.S (wordO o)) = (f.head.map wordO).map Rx.S := by rw [List.map_map]; rfl
  have e2 : (den kons (R n) l21_2).1 [some (.pd (fmD f)), some (.pd (.list ((wHead :: f.head.map wordO).map Rx.S))), none, none, none] S = .ok (.pd (.list (f.tail.map fun o => Rx.S (pairW o)))) S := by
    refine Rx.lc_map (xs := f.tail) pD (fun o => Rx.S (pairW o)) ?_ (fun o ho => ?_) (by have := h.1.2.2; omega)
    · refine Rx.it_val (v := .pd (.tuple (f.tail.map pD))) (s' := S) ?_ rfl
      generalize R n = call
      simp only [body, denSs, denS, den, denB, denV, denP, denI, denO, denT, denTs, denF, denG, denGs, both_1, both_2, cmpB_1, cmpB_2, bind_ok, bind_exc, bind_stuck, go_ok, go_exc, go_stuck, nxt_nx, nxt_rt, nxt_bk, nxt_ct, nxt_exc, litD, List.length_cons, List.length_nil, List.map_cons, List.map_nil, List.getElem?_cons_zero, List.getElem?_cons_succ, List.cons_append, List.nil_append, List.replicate, List.set_cons_zero, List.set_cons_succ, wipeE, Nat.reduceAdd, Nat.reduceSub, Nat.reduceEqDiff, Nat.reduceLT, Nat.zero_add, if_true, if_false, Bool.false_eq_true, Bool.not_true, Bool.not_false, beq_self_eq_true, lv_pd, lv_fn, take_self, bq_ft, bq_tf, tests, toP, i1]
    · have e := wPairWord (by omega : 1 ≤ n) o S (h.2.2 o ho)
      generalize R n = call at *
      simp only [Rx.lcT, body, denSs, denS, den, denB, denV, denP, denI, denO, denT, denTs, denF, denG, denGs, both_1, both_2, cmpB_1, cmpB_2, bind_ok, bind_exc, bind_stuck, go_ok, go_exc, go_stuck, nxt_nx, nxt_rt, nxt_bk, nxt_ct, nxt_exc, litD, List.length_cons, List.length_nil, List.map_cons, List.map_nil, List.getElem?_cons_zero, List.getElem?_cons_succ, List.cons_append, List.nil_append, List.replicate, List.set_cons_zero, List.set_cons_succ, wipeE, Nat.reduceAdd, Nat.reduceSub, Nat.reduceEqDiff, Nat.reduceLT, Nat.zero_add, if_true, if_false, Bool.false_eq_true, Bool.not_true, Bool.not_false, beq_self_eq_true, lv_pd, lv_fn, take_self, bq_ft, bq_tf, tests, toP, e]
  have m2 : (f.tail.map fun o => Rx.S (pairW o)) = (f.tail.map pairW).map Rx.S := by rw [List.map_map]; rfl
  rw [m1] at e1
  rw [m2] at e2
  have a1 : binV .add (.pd (.list [Rx.S [104, 101, 97, 100]])) (.pd (.list ((f.head.map wordO).map Rx.S))) S = .ok (.pd (.list ((wHead :: f.head.map wordO).map Rx.S))) S := a_add_l (s := S) _ _ (by have := h.1.1; simp only [List.length_map, List.length_cons, List.length_nil]; omega)
  have a2 : binV .add (.pd (.list [Rx.S [116, 97, 105, 108]])) (.pd (.list ((f.tail.map pairW).map Rx.S))) S = .ok (.pd (.list ((wTail :: f.tail.map pairW).map Rx.S))) S := a_add_l (s := S) _ _ (by have := h.1.2.2; simp only [List.length_map, List.length_cons, List.length_nil]; omega)
  have j1 : mthV .join (.pd (Rx.S [32])) [.pd (.list ((wHead :: f.head.map wordO).map Rx.S))] S = .ok (.pd (Rx.S (headW f))) S := Rx.jj (k := 81) (m := 4001) _ (head_bnd h) (by have := h.1.1; simp only [List.length_map, List.length_cons]; omega) (by decide)
  have j2 : mthV .join (.pd (Rx.S [32])) [.pd (.list ((wTail :: f.tail.map pairW).map Rx.S))] S = .ok (.pd (Rx.S (tailW f))) S := Rx.jj (k := 81) (m := 4001) _ (tail_bnd h) (by have := h.1.2.2; simp only [List.length_map, List.length_cons]; omega) (by decide)
  generalize (wHead :: f.head.map wordO).map Rx.S = x1 at *
  generalize (wTail :: f.tail.map pairW).map Rx.S = x2 at *
  generalize (f.head.map wordO).map Rx.S = x3 at *
  generalize (f.tail.map pairW).map Rx.S = x4 at *
  generalize fmD f = ff at *
  generalize R n = call at *
  simp only [d21, b21_eq, body, denSs, denS, den, denB, denV, denP, denI, denO, denT, denTs, denF, denG, denGs, both_1, both_2, cmpB_1, cmpB_2, bind_ok, bind_exc, bind_stuck, go_ok, go_exc, go_stuck, nxt_nx, nxt_rt, nxt_bk, nxt_ct, nxt_exc, litD, List.length_cons, List.length_nil, List.map_cons, List.map_nil, List.getElem?_cons_zero, List.getElem?_cons_succ, List.cons_append, List.nil_append, List.replicate, List.set_cons_zero, List.set_cons_succ, wipeE, Nat.reduceAdd, Nat.reduceSub, Nat.reduceEqDiff, Nat.reduceLT, Nat.zero_add, if_true, if_false, Bool.false_eq_true, Bool.not_true, Bool.not_false, beq_self_eq_true, lv_pd, lv_fn, take_self, bq_ft, bq_tf, tests, toP, newL, l1, l2, e1, e2, a1, a2, Rx.t_joi, j1, j2]
end K61


set_option linter.all false
set_option Elab.async false
set_option maxRecDepth 100000
set_option maxHeartbeats 2000000
namespace K61
open PySem Rx
/-! the law's own lines of a form -/
theorem joinL_snoc (c : Nat) (x : W) : ∀ ps : List W, ps ≠ [] → TL.joinL [c] (ps ++ [x]) = TL.joinL [c] ps ++ [c] ++ x
  | [], h => absurd rfl h
  | [p], _ => by simp [TL.joinL]
  | p :: q :: r, _ => by
    have := joinL_snoc c x (q :: r) (by simp)
    rw [List.cons_append, Rx.joinL_cons c p (by simp), this, Rx.joinL_cons c p (by simp)]
    simp
theorem wLawWord {n : Nat} (hn : 1 ≤ n) (o : OI) (S : Sto) (h : smO o) : R n 39 [.pd (intD o)] S = .ok (.pd (Rx.S (wordO o))) S := by
  obtain ⟨n, rfl⟩ : ∃ m, n = m + 1 := ⟨n - 1, by omega⟩
  rw [R_eq (d := d39) rfl]
  cases o with
  | none => simp only [d39, b39_eq, body, denSs, denS, den, denB, denV, denP, denI, denO, denT, denTs, denF, denG, denGs, both_1, both_2, cmpB_1, cmpB_2, bind_ok, bind_exc, bind_stuck, go_ok, go_exc, go_stuck, nxt_nx, nxt_rt, nxt_bk, nxt_ct, nxt_exc, litD, List.length_cons, List.length_nil, List.map_cons, List.map_nil, List.getElem?_cons_zero, List.getElem?_cons_succ, List.cons_append, List.nil_append, List.replicate, List.set_cons_zero, List.set_cons_succ, wipeE, Nat.reduceAdd, Nat.reduceSub, Nat.reduceEqDiff, Nat.reduceLT, Nat.zero_add, if_true, if_false, Bool.false_eq_true, Bool.not_true, Bool.not_false, beq_self_eq_true, lv_pd, lv_fn, take_self, bq_ft, bq_tf, tests, toP, intD, c_is_none, Rx.isNone, wordO, wNone]
  | some i =>
    have e := f_str_i (h i rfl) S
    simp only [d39, b39_eq, body, denSs, denS, den, denB, denV, denP, denI, denO, denT, denTs, denF, denG, denGs, both_1, both_2, cmpB_1, cmpB_2, bind_ok, bind_exc, bind_stuck, go_ok, go_exc, go_stuck, nxt_nx, nxt_rt, nxt_bk, nxt_ct, nxt_exc, litD, List.length_cons, List.length_nil, List.map_cons, List.map_nil, List.getElem?_cons_zero, List.getElem?_cons_succ, List.cons_append, List.nil_append, List.replicate, List.set_cons_zero, List.set_cons_succ, wipeE, Nat.reduceAdd, Nat.reduceSub, Nat.reduceEqDiff, Nat.reduceLT, Nat.zero_add, if_true, if_false, Bool.false_eq_true, Bool.not_true, Bool.not_false, beq_self_eq_true, lv_pd, lv_fn, take_self, bq_ft, bq_tf, tests, toP, intD, c_is_none, Rx.isNone, wordO, e]
theorem take_snoc {α : Type} {l : List α} {i : Nat} (h : i < l.length) : l.take (i + 1) = l.take i ++ [l[i]] := by
  rw [List.take_add_one, List.getElem?_eq_getElem h]
  rfl
theorem part_len {c k : Nat} {ws : List W} {w : W} (h : ∀ x ∈ w :: ws, x.length ≤ k) (i : Nat) : (TL.joinL [c] (w :: ws.take i)).length ≤ (k + 1) * (ws.length + 1) := by
  have := Rx.joinL_bnd c k (w :: ws.take i) fun x hx => by
    rcases List.mem_cons.mp hx with e | e
    · exact h x (by rw [e]; simp)
    · exact h x (List.mem_cons_of_mem _ (List.take_subset _ _ e))
  refine Nat.le_trans this (Nat.mul_le_mul_left _ ?_)
  simp only [List.length_cons, List.length_take]; omega
theorem lf_head {n : Nat} (hn : 1 ≤ n) (f : Fm) (S : Sto) (h : goodF f) (v2 v3 v4 : Option Dv) : ∃ o2, denS kons 0 (R n) s40_1 [some (.pd (fmD f)), some (.pd (Rx.S wHead)), v2, v3, v4] S
    = .out (.nx [some (.pd (fmD f)), some (.pd (Rx.S (headW f))), o2, v3, v4]) S := by
  have ln := line_val
  have hb := head_bnd h
  obtain ⟨env', s', ef, o2, he, hs⟩ := Rx.forL_at (f := Rx.turn kons 0 (R n) (.name 2) t40_1) (all := f.head.map intD)
    (fun i env s => ∃ o2 : Option Dv, env = [some (.pd (fmD f)), some (.pd (Rx.S (TL.joinL [32] (wHead :: (f.head.map wordO).take i)))), o2, v3, v4] ∧ s = S)
    (env := [some (.pd (fmD f)), some (.pd (Rx.S wHead)), v2, v3, v4]) (s := S) ⟨v2, by rw [List.take_zero]; rfl, rfl⟩
    (fun i hi env s ⟨o2, he, hs⟩ => by
      rw [List.length_map] at hi
      have hi2 : i < (f.head.map wordO).length := by rw [List.length_map]; exact hi
      have e := wLawWord hn f.head[i] S (h.2.1 _ (List.getElem_mem hi))
      have hp := part_len (c := 32) hb i
      have hq := part_len (c := 32) hb (i + 1)
      have h1 := h.1.1
      rw [List.length_map] at hp hq
      have hj := joinL_snoc 32 ((f.head.map wordO)[i]) (wHead :: (f.head.map wordO).take i) (by simp)
      rw [List.cons_append, ← take_snoc hi2] at hj
      have hm : (f.head.map wordO)[i] = wordO f.head[i] := List.getElem_map ..
      rw [hm] at hj
      have a1 : binV .add (.pd (Rx.S (TL.joinL [32] (wHead :: (f.head.map wordO).take i)))) (.pd (Rx.S [32])) S = _ := Rx.a_add_S (s := S) _ _ (by simp only [List.length_cons, List.length_nil]; omega)
      have a2 : binV .add (.pd (Rx.S (TL.joinL [32] (wHead :: (f.head.map wordO).take i) ++ [32]))) (.pd (Rx.S (wordO f.head[i]))) S = _ := Rx.a_add_S (s := S) _ _ (by have := wordO_len (h.2.1 _ (List.getElem_mem hi)); simp only [List.length_append, List.length_cons, List.length_nil]; omega)
      rw [← hj] at a2
      rw [he, hs, List.getElem_map]
      refine ⟨_, _, .inl ?_, some (.pd (intD f.head[i])), rfl, rfl⟩
      generalize TL.joinL [32] (wHead :: (f.head.map wordO).take (i + 1)) = r2 at *
      generalize TL.joinL [32] (wHead :: (f.head.map wordO).take i) ++ [32] = r1 at *
      generalize TL.joinL [32] (wHead :: (f.head.map wordO).take i) = r0 at *
      generalize R n = call at *
      simp only [Rx.turn, t40_1, body, denSs, denS, den, denB, denV, denP, denI, denO, denT, denTs, denF, denG, denGs, both_1, both_2, cmpB_1, cmpB_2, bind_ok, bind_exc, bind_stuck, go_ok, go_exc, go_stuck, nxt_nx, nxt_rt, nxt_bk, nxt_ct, nxt_exc, litD, List.length_cons, List.length_nil, List.map_cons, List.map_nil, List.getElem?_cons_zero, List.getElem?_cons_succ, List.cons_append, List.nil_append, List.replicate, List.set_cons_zero, List.set_cons_succ, wipeE, Nat.reduceAdd, Nat.reduceSub, Nat.reduceEqDiff, Nat.reduceLT, Nat.zero_add, if_true, if_false, Bool.false_eq_true, Bool.not_true, Bool.not_false, beq_self_eq_true, lv_pd, lv_fn, take_self, bq_ft, bq_tf, tests, toP, e, a1, a2])
  refine ⟨o2, Rx.fo_ok (xs := f.head.map intD) (s' := S) (Rx.it_val (v := .pd (.tuple (f.head.map intD))) (s' := S) ?_ rfl) ?_⟩
  · have i0 : ∀ s, idxV (.pd (fmD f)) (.pd (.int 0)) s = .ok (.pd (.tuple (f.head.map intD))) s := fun s => Rx.i_t (s := s) (by decide) rfl
    generalize R n = call
    simp only [body, denSs, denS, den, denB, denV, denP, denI, denO, denT, denTs, denF, denG, denGs, both_1, both_2, cmpB_1, cmpB_2, bind_ok, bind_exc, bind_stuck, go_ok, go_exc, go_stuck, nxt_nx, nxt_rt, nxt_bk, nxt_ct, nxt_exc, litD, List.length_cons, List.length_nil, List.map_cons, List.map_nil, List.getElem?_cons_zero, List.getElem?_cons_succ, List.cons_append, List.nil_append, List.replicate, List.set_cons_zero, List.set_cons_succ, wipeE, Nat.reduceAdd, Nat.reduceSub, Nat.reduceEqDiff, Nat.reduceLT, Nat.zero_add, if_true, if_false, Bool.false_eq_true, Bool.not_true, Bool.not_false, beq_self_eq_true, lv_pd, lv_fn, take_self, bq_ft, bq_tf, tests, toP, i0]
  · rw [ef, he, hs, List.length_map]
    have : (f.head.map wordO).take f.head.length = f.head.map wordO := List.take_of_length_le (by rw [List.length_map]; exact Nat.le_refl _)
    rw [this]
    rfl
theorem law_pair_word {n : Nat} (hn : 1 ≤ n) (p : OP) (S : Sto) (h : smP p) : ∀ (v0 v1 v3 : Option Dv), (den kons (R n) (.idx (.lst false (.cons (.cst (.str [110, 111, 110, 101])) (.cons (.bin .add (.bin .add (.call 39 (.cons (.var 2) .nil)) (.cst (.str [47]))) (.blt .str (.cons (.var 4) .nil))) .nil))) (.blt .int (.cons (.cmp .isnot (.var 2) (.cst .non)) .nil)))).1 [v0, v1, some (.pd (intD (p.map (·.1)))), v3, some (.pd (.int ((p.map (·.2)).getD 0)))] S = .ok (.pd (Rx.S (pairW p))) S := by
  intro v0 v1 v3
  have ln := line_val
  have l2 := le_line 2 (by decide)
  cases p with
  | none =>
    have e := wLawWord hn none S (by intro i hi; cases hi)
    have e : R n 39 [.pd .none] S = .ok (.pd (Rx.S wNone)) S := e
    have z := f_str_i (i := 0) (by unfold sm; decide) S
    have a1 : binV .add (.pd (Rx.S wNone)) (.pd (Rx.S [47])) S = _ := Rx.a_add_S (s := S) _ _ (by decide)
    have a2 : binV .add (.pd (Rx.S (wNone ++ [47]))) (.pd (Rx.S (strI 0))) S = _ := Rx.a_add_S (s := S) _ _ (by decide)
    have ec := c_isnot_none (s := S) .none
    have ix : ∀ x : D, idxV (.pd (.list [Rx.S [110, 111, 110, 101], x])) (.pd (.int (if (!Rx.isNone .none) = true then 1 else 0))) S = .ok (.pd (Rx.S [110, 111, 110, 101])) S := fun x => Rx.i_l (s := S) (by decide) rfl
    generalize wNone ++ [47] = y at *
    generalize R n = call at *
    simp only [body, denSs, denS, den, denB, denV, denP, denI, denO, denT, denTs, denF, denG, denGs, both_1, both_2, cmpB_1, cmpB_2, bind_ok, bind_exc, bind_stuck, go_ok, go_exc, go_stuck, nxt_nx, nxt_rt, nxt_bk, nxt_ct, nxt_exc, litD, List.length_cons, List.length_nil, List.map_cons, List.map_nil, List.getElem?_cons_zero, List.getElem?_cons_succ, List.cons_append, List.nil_append, List.replicate, List.set_cons_zero, List.set_cons_succ, wipeE, Nat.reduceAdd, Nat.reduceSub, Nat.reduceEqDiff, Nat.reduceLT, Nat.zero_add, if_true, if_false, Bool.false_eq_true, Bool.not_true, Bool.not_false, beq_self_eq_true, lv_pd, lv_fn, take_self, bq_ft, bq_tf, tests, toP, newL, Option.map_none, intD, Option.getD_none, e, a1, z, a2, l2, ec, Rx.f_int_b, ix, pairW]
    rfl
  | some q =>
    obtain ⟨v, s⟩ := q
    obtain ⟨h1, h2⟩ := h v s rfl
    have e := wLawWord hn (some v) S (by intro i hi; cases hi; exact h1)
    have e : R n 39 [.pd (.int v)] S = .ok (.pd (Rx.S (strI v))) S := e
    have z := f_str_i h2 S
    unfold sm at h1 h2
    have a1 : binV .add (.pd (Rx.S (strI v))) (.pd (Rx.S [47])) S = _ := Rx.a_add_S (s := S) _ _ (by simp only [List.length_cons, List.length_nil]; omega)
    have a2 : binV .add (.pd (Rx.S (strI v ++ [47]))) (.pd (Rx.S (strI s))) S = _ := Rx.a_add_S (s := S) _ _ (by simp only [List.length_append, List.length_cons, List.length_nil]; omega)
    have ec := c_isnot_none (s := S) (.int v)
    have ix : ∀ x y : D, idxV (.pd (.list [x, y])) (.pd (.int (if (!Rx.isNone (.int v)) = true then 1 else 0))) S = .ok (.pd y) S := fun x y => Rx.i_l (s := S) (i := 1) (by decide) rfl
    have hw : strI v ++ [47] ++ strI s = pairW (some (v, s)) := by simp [pairW]
    rw [hw] at a2
    generalize pairW (some (v, s)) = res at *
    generalize strI v ++ [47] = y at *
    generalize R n = call at *
    simp only [body, denSs, denS, den, denB, denV, denP, denI, denO, denT, denTs, denF, denG, denGs, both_1, both_2, cmpB_1, cmpB_2, bind_ok, bind_exc, bind_stuck, go_ok, go_exc, go_stuck, nxt_nx, nxt_rt, nxt_bk, nxt_ct, nxt_exc, litD, List.length_cons, List.length_nil, List.map_cons, List.map_nil, List.getElem?_cons_zero, List.getElem?_cons_succ, List.cons_append, List.nil_append, List.replicate, List.set_cons_zero, List.set_cons_succ, wipeE, Nat.reduceAdd, Nat.reduceSub, Nat.reduceEqDiff, Nat.reduceLT, Nat.zero_add, if_true, if_false, Bool.false_eq_true, Bool.not_true, Bool.not_false, beq_self_eq_true, lv_pd, lv_fn, take_self, bq_ft, bq_tf, tests, toP, newL, Option.map_some, intD, Option.getD_some, e, a1, z, a2, l2, ec, Rx.f_int_b, ix]
theorem pD_eq (p : OP) : pD p = .tuple [intD (p.map (·.1)), .int ((p.map (·.2)).getD 0)] := by cases p <;> rfl
theorem lf_tail {n : Nat} (hn : 1 ≤ n) (f : Fm) (S : Sto) (h : goodF f) (v1 v2 v4 : Option Dv) : ∃ o2 o4, denS kons 0 (R n) s40_2 [some (.pd (fmD f)), v1, v2, some (.pd (Rx.S wTail)), v4] S
    = .out (.nx [some (.pd (fmD f)), v1, o2, some (.pd (Rx.S (tailW f))), o4]) S := by
  have ln := line_val
  have hb := tail_bnd h
  obtain ⟨env', s', ef, o2, o4, he, hs⟩ := Rx.forL_at (f := Rx.turn kons 0 (R n) (.tup (.cons (.name 2) (.cons (.name 4) .nil))) t40_2) (all := f.tail.map pD)
    (fun i env s => ∃ o2 o4 : Option Dv, env = [some (.pd (fmD f)), v1, o2, some (.pd (Rx.S (TL.joinL [32] (wTail :: (f.tail.map pairW).take i)))), o4] ∧ s = S)
    (env := [some (.pd (fmD f)), v1, v2, some (.pd (Rx.S wTail)), v4]) (s := S) ⟨v2, v4, by rw [List.take_zero]; rfl, rfl⟩
    (fun i hi env s ⟨o2, o4, he, hs⟩ => by
      rw [List.length_map] at hi
      have hi2 : i < (f.tail.map pairW).length := by rw [List.length_map]; exact hi
      have hsm := h.2.2 _ (List.getElem_mem hi)
      have e := law_pair_word hn f.tail[i] S hsm (some (.pd (fmD f))) v1 (some (.pd (Rx.S (TL.joinL [32] (wTail :: (f.tail.map pairW).take i)))))
      have hp := part_len (c := 32) hb i
      have hq := part_len (c := 32) hb (i + 1)
      have h1 := h.1.2.2
      rw [List.length_map] at hp hq
      have hj := joinL_snoc 32 ((f.tail.map pairW)[i]) (wTail :: (f.tail.map pairW).take i) (by simp)
      rw [List.cons_append, ← take_snoc hi2] at hj
      have hm : (f.tail.map pairW)[i] = pairW f.tail[i] := List.getElem_map ..
      rw [hm] at hj
      have a1 : binV .add (.pd (Rx.S (TL.joinL [32] (wTail :: (f.tail.map pairW).take i)))) (.pd (Rx.S [32])) S = _ := Rx.a_add_S (s := S) _ _ (by simp only [List.length_cons, List.length_nil]; omega)
      have a2 : binV .add (.pd (Rx.S (TL.joinL [32] (wTail :: (f.tail.map pairW).take i) ++ [32]))) (.pd (Rx.S (pairW f.tail[i]))) S = _ := Rx.a_add_S (s := S) _ _ (by have := pairW_len hsm; simp only [List.length_append, List.length_cons, List.length_nil]; omega)
      rw [← hj] at a2
      rw [he, hs, List.getElem_map, pD_eq]
      refine ⟨_, _, .inl ?_, some (.pd (intD (f.tail[i].map (·.1)))), some (.pd (.int ((f.tail[i].map (·.2)).getD 0))), rfl, rfl⟩
      generalize TL.joinL [32] (wTail :: (f.tail.map pairW).take (i + 1)) = r2 at *
      generalize TL.joinL [32] (wTail :: (f.tail.map pairW).take i) ++ [32] = r1 at *
      generalize TL.joinL [32] (wTail :: (f.tail.map pairW).take i) = r0 at *
      generalize R n = call at *
      unfold Rx.turn t40_2
      generalize (E.idx (.lst false (.cons (.cst (.str [110, 111, 110, 101])) (.cons (.bin .add (.bin .add (.call 39 (.cons (.var 2) .nil)) (.cst (.str [47]))) (.blt .str (.cons (.var 4) .nil))) .nil))) (.blt .int (.cons (.cmp .isnot (.var 2) (.cst .non)) .nil))) = E at *
      simp only [body, denSs, denS, den, denB, denV, denP, denI, denO, denT, denTs, denF, denG, denGs, both_1, both_2, cmpB_1, cmpB_2, bind_ok, bind_exc, bind_stuck, go_ok, go_exc, go_stuck, nxt_nx, nxt_rt, nxt_bk, nxt_ct, nxt_exc, litD, List.length_cons, List.length_nil, List.map_cons, List.map_nil, List.getElem?_cons_zero, List.getElem?_cons_succ, List.cons_append, List.nil_append, List.replicate, List.set_cons_zero, List.set_cons_succ, wipeE, Nat.reduceAdd, Nat.reduceSub, Nat.reduceEqDiff, Nat.reduceLT, Nat.zero_add, if_true, if_false, Bool.false_eq_true, Bool.not_true, Bool.not_false, beq_self_eq_true, lv_pd, lv_fn, take_self, bq_ft, bq_tf, tests, toP, e, a1, a2])
  refine ⟨o2, o4, Rx.fo_ok (xs := f.tail.map pD) (s' := S) (Rx.it_val (v := .pd (.tuple (f.tail.map pD))) (s' := S) ?_ rfl) ?_⟩
  · have i0 : ∀ s, idxV (.pd (fmD f)) (.pd (.int 1)) s = .ok (.pd (.tuple (f.tail.map pD))) s := fun s => Rx.i_t (s := s) (by decide) rfl
    generalize R n = call
    simp only [body, denSs, denS, den, denB, denV, denP, denI, denO, denT, denTs, denF, denG, denGs, both_1, both_2, cmpB_1, cmpB_2, bind_ok, bind_exc, bind_stuck, go_ok, go_exc, go_stuck, nxt_nx, nxt_rt, nxt_bk, nxt_ct, nxt_exc, litD, List.length_cons, List.length_nil, List.map_cons, List.map_nil, List.getElem?_cons_zero, List.getElem?_cons_succ, List.cons_append, List.nil_append, List.replicate, List.set_cons_zero, List.set_cons_succ, wipeE, Nat.reduceAdd, Nat.reduceSub, Nat.reduceEqDiff, Nat.reduceLT, Nat.zero_add, if_true, if_false, Bool.false_eq_true, Bool.not_true, Bool.not_false, beq_self_eq_true, lv_pd, lv_fn, take_self, bq_ft, bq_tf, tests, toP, i0]
  · rw [ef, he, hs, List.length_map]
    have : (f.tail.map pairW).take f.tail.length = f.tail.map pairW := List.take_of_length_le (by rw [List.length_map]; exact Nat.le_refl _)
    rw [this]
    rfl
theorem wLawForm {n : Nat} (hn : 2 ≤ n) (f : Fm) (S : Sto) (h : goodF f) : R n 40 [.pd (fmD f)] S = .ok (.pd (.list [Rx.S (headW f), Rx.S (tailW f)])) S := by
  obtain ⟨n, rfl⟩ : ∃ m, n = m + 1 := ⟨n - 1, by omega⟩
  have l2 := le_line 2 (by decide)
  rw [R_eq (d := d40) rfl]
  obtain ⟨o2, e1⟩ := lf_head (by omega : 1 ≤ n) f S h none none none
  obtain ⟨p2, p4, e2⟩ := lf_tail (by omega : 1 ≤ n) f S h (some (.pd (Rx.S (headW f)))) o2 none
  have e1 : denS kons 0 (R n) s40_1 [some (.pd (fmD f)), some (.pd (Rx.S [104, 101, 97, 100])), none, none, none] S = _ := e1
  have e2 : denS kons 0 (R n) s40_2 [some (.pd (fmD f)), some (.pd (Rx.S (headW f))), o2, some (.pd (Rx.S [116, 97, 105, 108])), none] S = _ := e2
  generalize fmD f = ff at *
  generalize R n = call at *
  simp only [d40, b40_eq, body, denSs, denS, den, denB, denV, denP, denI, denO, denT, denTs, denF, denG, denGs, both_1, both_2, cmpB_1, cmpB_2, bind_ok, bind_exc, bind_stuck, go_ok, go_exc, go_stuck, nxt_nx, nxt_rt, nxt_bk, nxt_ct, nxt_exc, litD, List.length_cons, List.length_nil, List.map_cons, List.map_nil, List.getElem?_cons_zero, List.getElem?_cons_succ, List.cons_append, List.nil_append, List.replicate, List.set_cons_zero, List.set_cons_succ, wipeE, Nat.reduceAdd, Nat.reduceSub, Nat.reduceEqDiff, Nat.reduceLT, Nat.zero_add, if_true, if_false, Bool.false_eq_true, Bool.not_true, Bool.not_false, beq_self_eq_true, lv_pd, lv_fn, take_self, bq_ft, bq_tf, tests, toP, newL, l2, e1, e2]
end K61


set_option linter.all false
set_option Elab.async false
set_option maxRecDepth 100000
set_option maxHeartbeats 2000000
namespace K61
open PySem Rx
/-! lines of forms, read -/
def optD (w : W) : D := if w = wNone then .none else match intW w with
  | some i => .int i
  | none => Rx.S w
theorem optD_ok {w : W} (h : w.length ≤ line) : okI (optD w) := by
  unfold optD
  split
  · trivial
  · cases intW w with
    | some i => trivial
    | none => exact okI_S h
theorem wOptOf {n : Nat} (hn : 3 ≤ n) (w : W) (S : Sto) (h : w.length ≤ line) : R n 15 [.pd (Rx.S w), .pd (Rx.S wNone)] S = .ok (.pd (optD w)) S := by
  obtain ⟨n, rfl⟩ : ∃ m, n = m + 1 := ⟨n - 1, by omega⟩
  have e1 := wInt (by omega : 2 ≤ n) w S h
  have c1 := Rx.c_eq_S (s := S) w wNone
  rw [R_eq (d := d15) rfl]
  unfold optD
  generalize R n = call at *
  by_cases hw : w = wNone
  · rw [decide_eq_true hw] at c1
    rw [if_pos hw]
    simp only [d15, b15_eq, body, denSs, denS, den, denB, denV, denP, denI, denO, denT, denTs, denF, denG, denGs, both_1, both_2, cmpB_1, cmpB_2, bind_ok, bind_exc, bind_stuck, go_ok, go_exc, go_stuck, nxt_nx, nxt_rt, nxt_bk, nxt_ct, nxt_exc, litD, List.length_cons, List.length_nil, List.map_cons, List.map_nil, List.getElem?_cons_zero, List.getElem?_cons_succ, List.cons_append, List.nil_append, List.replicate, List.set_cons_zero, List.set_cons_succ, wipeE, Nat.reduceAdd, Nat.reduceSub, Nat.reduceEqDiff, Nat.reduceLT, Nat.zero_add, if_true, if_false, Bool.false_eq_true, Bool.not_true, Bool.not_false, beq_self_eq_true, lv_pd, lv_fn, take_self, bq_ft, bq_tf, tests, toP, c1]
  · rw [decide_eq_false hw] at c1
    rw [if_neg hw]
    cases hi : intW w with
    | none =>
      rw [hi] at e1
      simp only [d15, b15_eq, body, denSs, denS, den, denB, denV, denP, denI, denO, denT, denTs, denF, denG, denGs, both_1, both_2, cmpB_1, cmpB_2, bind_ok, bind_exc, bind_stuck, go_ok, go_exc, go_stuck, nxt_nx, nxt_rt, nxt_bk, nxt_ct, nxt_exc, litD, List.length_cons, List.length_nil, List.map_cons, List.map_nil, List.getElem?_cons_zero, List.getElem?_cons_succ, List.cons_append, List.nil_append, List.replicate, List.set_cons_zero, List.set_cons_succ, wipeE, Nat.reduceAdd, Nat.reduceSub, Nat.reduceEqDiff, Nat.reduceLT, Nat.zero_add, if_true, if_false, Bool.false_eq_true, Bool.not_true, Bool.not_false, beq_self_eq_true, lv_pd, lv_fn, take_self, bq_ft, bq_tf, tests, toP, c1, e1, intD, c_is_none, Rx.isNone]
    | some i =>
      rw [hi] at e1
      simp only [d15, b15_eq, body, denSs, denS, den, denB, denV, denP, denI, denO, denT, denTs, denF, denG, denGs, both_1, both_2, cmpB_1, cmpB_2, bind_ok, bind_exc, bind_stuck, go_ok, go_exc, go_stuck, nxt_nx, nxt_rt, nxt_bk, nxt_ct, nxt_exc, litD, List.length_cons, List.length_nil, List.map_cons, List.map_nil, List.getElem?_cons_zero, List.getElem?_cons_succ, List.cons_append, List.nil_append, List.replicate, List.set_cons_zero, List.set_cons_succ, wipeE, Nat.reduceAdd, Nat.reduceSub, Nat.reduceEqDiff, Nat.reduceLT, Nat.zero_add, if_true, if_false, Bool.false_eq_true, Bool.not_true, Bool.not_false, beq_self_eq_true, lv_pd, lv_fn, take_self, bq_ft, bq_tf, tests, toP, c1, e1, intD, c_is_none, Rx.isNone]
/-- what the errors and answers of a reader are -/
def exR (S : Sto) (r : Except Nat D) : Res Dv := match r with
  | .ok d => .ok (.pd d) S
  | .error e => .exc ⟨0, [.int e]⟩ S
def wAt (ls : List W) (i : Nat) : Option (List W) := match ls[i]? with
  | none => none
  | some l => wordsW l
def wAtR (S : Sto) (i : Nat) (r : Option (List W)) : Res Dv := match r with
  | some ws => .ok (.pd (.list (ws.map Rx.S))) S
  | none => .exc ⟨0, [.int i]⟩ S
def lsOk (ls : List W) : Prop := ls.length ≤ line ∧ ∀ l ∈ ls, l.length + 2 ≤ line
theorem wWordsAt {n : Nat} (hn : 2 ≤ n) (ls : List W) (i : Nat) (S : Sto) (h : lsOk ls) : R n 17 [.pd (.list (ls.map Rx.S)), .pd (.int i)] S = wAtR S i (wAt ls i) := by
  obtain ⟨n, rfl⟩ : ∃ m, n = m + 1 := ⟨n - 1, by omega⟩
  have el := Rx.len_ll (s := S) ls
  rw [R_eq (d := d17) rfl]
  unfold wAt
  by_cases hi : i < ls.length
  · have hlt : decide ((i : Int) < ls.length) = true := by rw [decide_eq_true_eq]; omega
    have ei := Rx.il (s := S) hi
    have e1 := wWords (by omega : 1 ≤ n) ls[i] S (h.2 _ (List.getElem_mem hi))
    rw [List.getElem?_eq_getElem hi]
    show _ = wAtR S i (wordsW ls[i])
    generalize ls.map Rx.S = xs at *
    generalize ls[i] = l at *
    generalize R n = call at *
    cases hw : wordsW l with
    | none =>
      rw [hw] at e1
      simp only [d17, b17_eq, body, denSs, denS, den, denB, denV, denP, denI, denO, denT, denTs, denF, denG, denGs, both_1, both_2, cmpB_1, cmpB_2, bind_ok, bind_exc, bind_stuck, go_ok, go_exc, go_stuck, nxt_nx, nxt_rt, nxt_bk, nxt_ct, nxt_exc, litD, List.length_cons, List.length_nil, List.map_cons, List.map_nil, List.getElem?_cons_zero, List.getElem?_cons_succ, List.cons_append, List.nil_append, List.replicate, List.set_cons_zero, List.set_cons_succ, wipeE, Nat.reduceAdd, Nat.reduceSub, Nat.reduceEqDiff, Nat.reduceLT, Nat.zero_add, if_true, if_false, Bool.false_eq_true, Bool.not_true, Bool.not_false, beq_self_eq_true, lv_pd, lv_fn, take_self, bq_ft, bq_tf, tests, toP, el, c_lt_i, hlt, ei, e1, wsD, c_is_none, Rx.isNone, wAtR]
    | some ws =>
      rw [hw] at e1
      simp only [d17, b17_eq, body, denSs, denS, den, denB, denV, denP, denI, denO, denT, denTs, denF, denG, denGs, both_1, both_2, cmpB_1, cmpB_2, bind_ok, bind_exc, bind_stuck, go_ok, go_exc, go_stuck, nxt_nx, nxt_rt, nxt_bk, nxt_ct, nxt_exc, litD, List.length_cons, List.length_nil, List.map_cons, List.map_nil, List.getElem?_cons_zero, List.getElem?_cons_succ, List.cons_append, List.nil_append, List.replicate, List.set_cons_zero, List.set_cons_succ, wipeE, Nat.reduceAdd, Nat.reduceSub, Nat.reduceEqDiff, Nat.reduceLT, Nat.zero_add, if_true, if_false, Bool.false_eq_true, Bool.not_true, Bool.not_false, beq_self_eq_true, lv_pd, lv_fn, take_self, bq_ft, bq_tf, tests, toP, el, c_lt_i, hlt, ei, e1, wsD, c_is_none, Rx.isNone, wAtR]
  · have hlt : decide ((i : Int) < ls.length) = false := by rw [decide_eq_false_iff_not]; omega
    rw [List.getElem?_eq_none (by omega)]
    generalize ls.map Rx.S = xs at *
    generalize R n = call at *
    simp only [d17, b17_eq, body, denSs, denS, den, denB, denV, denP, denI, denO, denT, denTs, denF, denG, denGs, both_1, both_2, cmpB_1, cmpB_2, bind_ok, bind_exc, bind_stuck, go_ok, go_exc, go_stuck, nxt_nx, nxt_rt, nxt_bk, nxt_ct, nxt_exc, litD, List.length_cons, List.length_nil, List.map_cons, List.map_nil, List.getElem?_cons_zero, List.getElem?_cons_succ, List.cons_append, List.nil_append, List.replicate, List.set_cons_zero, List.set_cons_succ, wipeE, Nat.reduceAdd, Nat.reduceSub, Nat.reduceEqDiff, Nat.reduceLT, Nat.zero_add, if_true, if_false, Bool.false_eq_true, Bool.not_true, Bool.not_false, beq_self_eq_true, lv_pd, lv_fn, take_self, bq_ft, bq_tf, tests, toP, el, c_lt_i, hlt, c_is_none, Rx.isNone, wAtR]
theorem wAt_words {ls : List W} {i : Nat} {ws : List W} (h : wAt ls i = some ws) : ∃ l ∈ ls, wordsW l = some ws := by
  unfold wAt at h
  cases hl : ls[i]? with
  | none => rw [hl] at h; exact absurd h (by simp)
  | some l => rw [hl] at h; exact ⟨l, List.mem_of_getElem? hl, h⟩
theorem wordsW_some {l : W} {ws : List W} (h : wordsW l = some ws) : ws = cutW 32 l ∧ printW l = true ∧ ∀ w ∈ ws, w ≠ [] := by
  unfold wordsW at h
  split at h
  · rename_i hp
    split at h
    · exact absurd h (by simp)
    · rename_i hc
      injection h with h
      subst h
      refine ⟨rfl, hp, fun w hw e => hc ?_⟩
      subst e
      exact List.any_eq_true.mpr ⟨[], hw, rfl⟩
  · exact absurd h (by simp)
theorem wordsW_asc {l : W} {ws : List W} (h : wordsW l = some ws) : ∀ w ∈ ws, ∀ c ∈ w, c < 128 := by
  obtain ⟨e, hp, _⟩ := wordsW_some h
  intro w hw c hc
  have hl : c ∈ l := by
    rw [← Rx.join_spl 32 l]
    have hw : w ∈ TL.spl [32] 0 [] l := by rw [e] at hw; exact hw
    clear e h hp
    revert hw
    generalize TL.spl [32] 0 [] l = ps
    intro hw
    induction ps with
    | nil => exact absurd hw (by simp)
    | cons p ps ih =>
      cases ps with
      | nil =>
        rw [List.mem_singleton] at hw
        subst hw
        exact hc
      | cons q qs =>
        rw [Rx.joinL_cons 32 p (by simp)]
        rcases List.mem_cons.mp hw with e | e
        · subst e
          exact List.mem_append_left _ hc
        · exact List.mem_append_right _ (List.mem_cons_of_mem _ (ih e))
  have := List.all_eq_true.mp hp c hl
  simp only [Bool.and_eq_true, decide_eq_true_eq] at this
  omega
theorem wAt_facts {ls : List W} {i : Nat} {ws : List W} (h : wAt ls i = some ws) (hl : lsOk ls) : (∃ w r, ws = w :: r) ∧ ws.length + 1 ≤ line ∧ (∀ w ∈ ws, w.length ≤ line) ∧ ∀ w ∈ ws, ∀ c ∈ w, c < 128 := by
  obtain ⟨l, hm, hw⟩ := wAt_words h
  obtain ⟨e, _, _⟩ := wordsW_some hw
  have h1 : (cutW 32 l).length ≤ l.length + 1 := Rx.spl_len 32 l
  have h2 := hl.2 l hm
  refine ⟨?_, by rw [e]; omega, fun w hww => ?_, wordsW_asc hw⟩
  · cases hc : ws with
    | nil => rw [hc] at e; exact absurd e.symm (Rx.spl_ne _ _ _)
    | cons w r => exact ⟨w, r, rfl⟩
  · rw [e] at hww
    have := Rx.spl_len_mem hww
    omega
theorem c_ne_ws {ws : List W} (h : ∀ w ∈ ws, ∀ c ∈ w, c < 128) (w : W) (hw : ∀ c ∈ w, c < 128) (S : Sto) : cmpV .ne (.pd (.list (ws.map Rx.S))) (.pd (.list [Rx.S w])) S = .ok (!decide (ws = [w])) S := by
  have h1 : lay 1 (.list (ws.map Rx.S)) = true := by simp only [lay]; exact Rx.lays_S h 0
  have h2 : lay 1 (.list [Rx.S w]) = true := by
    simp only [lay]
    exact Rx.lays_S (ws := [w]) (by intro z hz; rw [List.mem_singleton] at hz; rw [hz]; exact hw) 0
  by_cases e : ws = [w]
  · subst e
    rw [decide_eq_true rfl]
    exact Rx.c_ne_yes h2 (by decide) S
  · rw [decide_eq_false e]
    exact Rx.c_ne_no h1 h2 (by decide) (fun q => e (Rx.mapS_inj (b := [w]) (PyData.list.inj q))) S
theorem wBegin {n : Nat} (hn : 3 ≤ n) (t w : W) (S : Sto) (ht : t.length + 2 ≤ line) (hw : ∀ c ∈ w, c < 128) : R n 18 [.pd (Rx.S t), .pd (.list [Rx.S w])] S = if wAt (cutW 10 t) 0 = some [w] then .ok (.pd (.list ((cutW 10 t).map Rx.S))) S else .exc ⟨0, [.int 0]⟩ S := by
  obtain ⟨n, rfl⟩ : ∃ m, n = m + 1 := ⟨n - 1, by omega⟩
  have hlen : (cutW 10 t).length ≤ t.length + 1 := Rx.spl_len 10 t
  have hls : lsOk (cutW 10 t) := ⟨by omega, fun l hl => by have := Rx.spl_len_mem hl; omega⟩
  have es : mthV .split (.pd (Rx.S t)) [.pd (Rx.S [10])] S = .ok (.pd (.list ((cutW 10 t).map Rx.S))) S := Rx.v_spl 10 (by decide) t ht
  have e1 := wWordsAt (by omega : 2 ≤ n) (cutW 10 t) 0 S hls
  have e1 : R n 17 [.pd (.list ((cutW 10 t).map Rx.S)), .pd (.int 0)] S = _ := e1
  rw [R_eq (d := d18) rfl]
  cases hq : wAt (cutW 10 t) 0 with
  | none =>
    rw [hq] at e1
    simp only [wAtR] at e1
    rw [if_neg (by simp)]
    generalize (cutW 10 t).map Rx.S = xs at *
    generalize R n = call at *
    simp only [d18, b18_eq, body, denSs, denS, den, denB, denV, denP, denI, denO, denT, denTs, denF, denG, denGs, both_1, both_2, cmpB_1, cmpB_2, bind_ok, bind_exc, bind_stuck, go_ok, go_exc, go_stuck, nxt_nx, nxt_rt, nxt_bk, nxt_ct, nxt_exc, litD, List.length_cons, List.length_nil, List.map_cons, List.map_nil, List.getElem?_cons_zero, List.getElem?_cons_succ, List.cons_append, List.nil_append, List.replicate, List.set_cons_zero, List.set_cons_succ, wipeE, Nat.reduceAdd, Nat.reduceSub, Nat.reduceEqDiff, Nat.reduceLT, Nat.zero_add, if_true, if_false, Bool.false_eq_true, Bool.not_true, Bool.not_false, beq_self_eq_true, lv_pd, lv_fn, take_self, bq_ft, bq_tf, tests, toP, Rx.t_spl, es, e1]
    rfl
  | some ws =>
    rw [hq] at e1
    simp only [wAtR] at e1
    have c1 := c_ne_ws (wAt_facts hq hls).2.2.2 w hw S
    by_cases hww : ws = [w]
    · rw [decide_eq_true hww] at c1
      rw [if_pos (by rw [hww])]
      generalize (cutW 10 t).map Rx.S = xs at *
      generalize ws.map Rx.S = ys at *
      generalize R n = call at *
      simp only [d18, b18_eq, body, denSs, denS, den, denB, denV, denP, denI, denO, denT, denTs, denF, denG, denGs, both_1, both_2, cmpB_1, cmpB_2, bind_ok, bind_exc, bind_stuck, go_ok, go_exc, go_stuck, nxt_nx, nxt_rt, nxt_bk, nxt_ct, nxt_exc, litD, List.length_cons, List.length_nil, List.map_cons, List.map_nil, List.getElem?_cons_zero, List.getElem?_cons_succ, List.cons_append, List.nil_append, List.replicate, List.set_cons_zero, List.set_cons_succ, wipeE, Nat.reduceAdd, Nat.reduceSub, Nat.reduceEqDiff, Nat.reduceLT, Nat.zero_add, if_true, if_false, Bool.false_eq_true, Bool.not_true, Bool.not_false, beq_self_eq_true, lv_pd, lv_fn, take_self, bq_ft, bq_tf, tests, toP, Rx.t_spl, es, e1, c1]
    · rw [decide_eq_false hww] at c1
      rw [if_neg (by simpa using hww)]
      generalize (cutW 10 t).map Rx.S = xs at *
      generalize ws.map Rx.S = ys at *
      generalize R n = call at *
      simp only [d18, b18_eq, body, denSs, denS, den, denB, denV, denP, denI, denO, denT, denTs, denF, denG, denGs, both_1, both_2, cmpB_1, cmpB_2, bind_ok, bind_exc, bind_stuck, go_ok, go_exc, go_stuck, nxt_nx, nxt_rt, nxt_bk, nxt_ct, nxt_exc, litD, List.length_cons, List.length_nil, List.map_cons, List.map_nil, List.getElem?_cons_zero, List.getElem?_cons_succ, List.cons_append, List.nil_append, List.replicate, List.set_cons_zero, List.set_cons_succ, wipeE, Nat.reduceAdd, Nat.reduceSub, Nat.reduceEqDiff, Nat.reduceLT, Nat.zero_add, if_true, if_false, Bool.false_eq_true, Bool.not_true, Bool.not_false, beq_self_eq_true, lv_pd, lv_fn, take_self, bq_ft, bq_tf, tests, toP, Rx.t_spl, es, e1, c1]
def finI (ls : List W) (i : Nat) : Option Nat := if wAt ls i = some [[101, 110, 100]] then (if i + 1 < ls.length then some (i + 1) else none) else some i
theorem wFinish {n : Nat} (hn : 3 ≤ n) (ls : List W) (i : Nat) (S : Sto) (h : lsOk ls) : R n 19 [.pd (.list (ls.map Rx.S)), .pd (.int i)] S = match finI ls i with
    | some e => .exc ⟨0, [.int e]⟩ S
    | none => .ok (.pd .none) S := by
  obtain ⟨n, rfl⟩ : ∃ m, n = m + 1 := ⟨n - 1, by omega⟩
  have l1 := le_line 1 (by decide)
  have e1 := wWordsAt (by omega : 2 ≤ n) ls i S h
  have el := Rx.len_ll (s := S) ls
  rw [R_eq (d := d19) rfl]
  unfold finI
  cases hq : wAt ls i with
  | none =>
    rw [hq] at e1
    simp only [wAtR] at e1
    rw [if_neg (by simp)]
    generalize ls.map Rx.S = xs at *
    generalize R n = call at *
    simp only [d19, b19_eq, body, denSs, denS, den, denB, denV, denP, denI, denO, denT, denTs, denF, denG, denGs, both_1, both_2, cmpB_1, cmpB_2, bind_ok, bind_exc, bind_stuck, go_ok, go_exc, go_stuck, nxt_nx, nxt_rt, nxt_bk, nxt_ct, nxt_exc, litD, List.length_cons, List.length_nil, List.map_cons, List.map_nil, List.getElem?_cons_zero, List.getElem?_cons_succ, List.cons_append, List.nil_append, List.replicate, List.set_cons_zero, List.set_cons_succ, wipeE, Nat.reduceAdd, Nat.reduceSub, Nat.reduceEqDiff, Nat.reduceLT, Nat.zero_add, if_true, if_false, Bool.false_eq_true, Bool.not_true, Bool.not_false, beq_self_eq_true, lv_pd, lv_fn, take_self, bq_ft, bq_tf, tests, toP, e1]
  | some ws =>
    rw [hq] at e1
    simp only [wAtR] at e1
    have c1 := c_ne_ws (wAt_facts hq h).2.2.2 [101, 110, 100] (by decide) S
    by_cases hww : ws = [[101, 110, 100]]
    · rw [decide_eq_true hww] at c1
      rw [if_pos (by rw [hww])]
      by_cases hlt : i + 1 < ls.length
      · have g1 : decide (((i : Int) + 1) < ls.length) = true := by rw [decide_eq_true_eq]; omega
        rw [if_pos hlt]
        generalize ls.map Rx.S = xs at *
        generalize ws.map Rx.S = ys at *
        generalize R n = call at *
        simp only [d19, b19_eq, body, denSs, denS, den, denB, denV, denP, denI, denO, denT, denTs, denF, denG, denGs, both_1, both_2, cmpB_1, cmpB_2, bind_ok, bind_exc, bind_stuck, go_ok, go_exc, go_stuck, nxt_nx, nxt_rt, nxt_bk, nxt_ct, nxt_exc, litD, List.length_cons, List.length_nil, List.map_cons, List.map_nil, List.getElem?_cons_zero, List.getElem?_cons_succ, List.cons_append, List.nil_append, List.replicate, List.set_cons_zero, List.set_cons_succ, wipeE, Nat.reduceAdd, Nat.reduceSub, Nat.reduceEqDiff, Nat.reduceLT, Nat.zero_add, if_true, if_false, Bool.false_eq_true, Bool.not_true, Bool.not_false, beq_self_eq_true, lv_pd, lv_fn, take_self, bq_ft, bq_tf, tests, toP, newL, l1, e1, c1, el, a_add_i, c_lt_i, g1]
        rfl
      · have g1 : decide (((i : Int) + 1) < ls.length) = false := by rw [decide_eq_false_iff_not]; omega
        rw [if_neg hlt]
        generalize ls.map Rx.S = xs at *
        generalize ws.map Rx.S = ys at *
        generalize R n = call at *
        simp only [d19, b19_eq, body, denSs, denS, den, denB, denV, denP, denI, denO, denT, denTs, denF, denG, denGs, both_1, both_2, cmpB_1, cmpB_2, bind_ok, bind_exc, bind_stuck, go_ok, go_exc, go_stuck, nxt_nx, nxt_rt, nxt_bk, nxt_ct, nxt_exc, litD, List.length_cons, List.length_nil, List.map_cons, List.map_nil, List.getElem?_cons_zero, List.getElem?_cons_succ, List.cons_append, List.nil_append, List.replicate, List.set_cons_zero, List.set_cons_succ, wipeE, Nat.reduceAdd, Nat.reduceSub, Nat.reduceEqDiff, Nat.reduceLT, Nat.zero_add, if_true, if_false, Bool.false_eq_true, Bool.not_true, Bool.not_false, beq_self_eq_true, lv_pd, lv_fn, take_self, bq_ft, bq_tf, tests, toP, newL, l1, e1, c1, el, a_add_i, c_lt_i, g1]
    · rw [decide_eq_false hww] at c1
      rw [if_neg (by simpa using hww)]
      generalize ls.map Rx.S = xs at *
      generalize ws.map Rx.S = ys at *
      generalize R n = call at *
      simp only [d19, b19_eq, body, denSs, denS, den, denB, denV, denP, denI, denO, denT, denTs, denF, denG, denGs, both_1, both_2, cmpB_1, cmpB_2, bind_ok, bind_exc, bind_stuck, go_ok, go_exc, go_stuck, nxt_nx, nxt_rt, nxt_bk, nxt_ct, nxt_exc, litD, List.length_cons, List.length_nil, List.map_cons, List.map_nil, List.getElem?_cons_zero, List.getElem?_cons_succ, List.cons_append, List.nil_append, List.replicate, List.set_cons_zero, List.set_cons_succ, wipeE, Nat.reduceAdd, Nat.reduceSub, Nat.reduceEqDiff, Nat.reduceLT, Nat.zero_add, if_true, if_false, Bool.false_eq_true, Bool.not_true, Bool.not_false, beq_self_eq_true, lv_pd, lv_fn, take_self, bq_ft, bq_tf, tests, toP, newL, l1, e1, c1]
def pairO (a b : Option Int) : D := match a, b with
  | some v, some s => .tuple [.int v, .int s]
  | _, _ => .none
def pairOfD (w : W) : D := if w = wNone then .tuple [.none, .int 0] else match cutW 47 w with
  | [a, b] => pairO (intW a) (intW b)
  | _ => .none
theorem pairOfD_ok (w : W) : okPr (pairOfD w) := by
  unfold pairOfD
  split
  · exact .inr ⟨_, _, rfl, trivial, trivial⟩
  · split
    · unfold pairO
      split
      · exact .inr ⟨_, _, rfl, trivial, trivial⟩
      · exact .inl rfl
    · exact .inl rfl
theorem wPairOf {n : Nat} (hn : 3 ≤ n) (w : W) (S : Sto) (h : w.length + 2 ≤ line) : R n 22 [.pd (Rx.S w)] S = .ok (.pd (pairOfD w)) S := by
  obtain ⟨n, rfl⟩ : ∃ m, n = m + 1 := ⟨n - 1, by omega⟩
  have l2 := le_line 2 (by decide)
  have c1 : cmpV .eq (.pd (Rx.S w)) (.pd (Rx.S [110, 111, 110, 101])) S = .ok (decide (w = wNone)) S := Rx.c_eq_S w wNone
  have es : mthV .split (.pd (Rx.S w)) [.pd (Rx.S [47])] S = .ok (.pd (.list ((cutW 47 w).map Rx.S))) S := Rx.v_spl 47 (by decide) w h
  have el := Rx.len_ll (s := S) (cutW 47 w)
  rw [R_eq (d := d22) rfl]
  unfold pairOfD
  by_cases hw : w = wNone
  · rw [decide_eq_true hw] at c1
    rw [if_pos hw]
    generalize R n = call at *
    simp only [d22, b22_eq, body, denSs, denS, den, denB, denV, denP, denI, denO, denT, denTs, denF, denG, denGs, both_1, both_2, cmpB_1, cmpB_2, bind_ok, bind_exc, bind_stuck, go_ok, go_exc, go_stuck, nxt_nx, nxt_rt, nxt_bk, nxt_ct, nxt_exc, litD, List.length_cons, List.length_nil, List.map_cons, List.map_nil, List.getElem?_cons_zero, List.getElem?_cons_succ, List.cons_append, List.nil_append, List.replicate, List.set_cons_zero, List.set_cons_succ, wipeE, Nat.reduceAdd, Nat.reduceSub, Nat.reduceEqDiff, Nat.reduceLT, Nat.zero_add, if_true, if_false, Bool.false_eq_true, Bool.not_true, Bool.not_false, beq_self_eq_true, lv_pd, lv_fn, take_self, bq_ft, bq_tf, tests, toP, c1, l2]
  · rw [decide_eq_false hw] at c1
    rw [if_neg hw]
    have hmem : ∀ z ∈ cutW 47 w, z.length ≤ line := fun z hz => by have := Rx.spl_len_mem hz; omega
    by_cases hl : (cutW 47 w).length = 2
    · obtain ⟨a, b, hab⟩ : ∃ a b, cutW 47 w = [a, b] := by
        match hc : cutW 47 w, hl with
        | [a, b], _ => exact ⟨a, b, rfl⟩
      rw [hab] at es el hmem ⊢
      have n2 : decide (((([a, b] : List W).length : Nat) : Int) ≠ 2) = false := by simp
      have i0 : idxV (.pd (.list ([a, b].map Rx.S))) (.pd (.int 0)) S = .ok (.pd (Rx.S a)) S := Rx.i_l (s := S) (by decide) rfl
      have i1 : idxV (.pd (.list ([a, b].map Rx.S))) (.pd (.int 1)) S = .ok (.pd (Rx.S b)) S := Rx.i_l (s := S) (by decide) rfl
      have ea := wInt (by omega : 2 ≤ n) a S (hmem a (by simp))
      have eb := wInt (by omega : 2 ≤ n) b S (hmem b (by simp))
      show _ = Res.ok (Dv.pd (pairO (intW a) (intW b))) S
      generalize ([a, b] : List W).map Rx.S = xs at *
      generalize ([a, b] : List W).length = len at *
      generalize R n = call at *
      cases ha : intW a with
      | none =>
        rw [ha] at ea
        simp only [d22, b22_eq, body, denSs, denS, den, denB, denV, denP, denI, denO, denT, denTs, denF, denG, denGs, both_1, both_2, cmpB_1, cmpB_2, bind_ok, bind_exc, bind_stuck, go_ok, go_exc, go_stuck, nxt_nx, nxt_rt, nxt_bk, nxt_ct, nxt_exc, litD, List.length_cons, List.length_nil, List.map_cons, List.map_nil, List.getElem?_cons_zero, List.getElem?_cons_succ, List.cons_append, List.nil_append, List.replicate, List.set_cons_zero, List.set_cons_succ, wipeE, Nat.reduceAdd, Nat.reduceSub, Nat.reduceEqDiff, Nat.reduceLT, Nat.zero_add, if_true, if_false, Bool.false_eq_true, Bool.not_true, Bool.not_false, beq_self_eq_true, lv_pd, lv_fn, take_self, bq_ft, bq_tf, tests, toP, c1, Rx.t_spl, es, el, n2, c_ne_i, i0, i1, ea, eb, intD, c_is_none, Rx.isNone, pairO]
      | some v =>
        rw [ha] at ea
        cases hb : intW b with
        | none =>
          rw [hb] at eb
          simp only [d22, b22_eq, body, denSs, denS, den, denB, denV, denP, denI, denO, denT, denTs, denF, denG, denGs, both_1, both_2, cmpB_1, cmpB_2, bind_ok, bind_exc, bind_stuck, go_ok, go_exc, go_stuck, nxt_nx, nxt_rt, nxt_bk, nxt_ct, nxt_exc, litD, List.length_cons, List.length_nil, List.map_cons, List.map_nil, List.getElem?_cons_zero, List.getElem?_cons_succ, List.cons_append, List.nil_append, List.replicate, List.set_cons_zero, List.set_cons_succ, wipeE, Nat.reduceAdd, Nat.reduceSub, Nat.reduceEqDiff, Nat.reduceLT, Nat.zero_add, if_true, if_false, Bool.false_eq_true, Bool.not_true, Bool.not_false, beq_self_eq_true, lv_pd, lv_fn, take_self, bq_ft, bq_tf, tests, toP, c1, Rx.t_spl, es, el, n2, c_ne_i, i0, i1, ea, eb, intD, c_is_none, Rx.isNone, pairO]
        | some s =>
          rw [hb] at eb
          simp only [d22, b22_eq, body, denSs, denS, den, denB, denV, denP, denI, denO, denT, denTs, denF, denG, denGs, both_1, both_2, cmpB_1, cmpB_2, bind_ok, bind_exc, bind_stuck, go_ok, go_exc, go_stuck, nxt_nx, nxt_rt, nxt_bk, nxt_ct, nxt_exc, litD, List.length_cons, List.length_nil, List.map_cons, List.map_nil, List.getElem?_cons_zero, List.getElem?_cons_succ, List.cons_append, List.nil_append, List.replicate, List.set_cons_zero, List.set_cons_succ, wipeE, Nat.reduceAdd, Nat.reduceSub, Nat.reduceEqDiff, Nat.reduceLT, Nat.zero_add, if_true, if_false, Bool.false_eq_true, Bool.not_true, Bool.not_false, beq_self_eq_true, lv_pd, lv_fn, take_self, bq_ft, bq_tf, tests, toP, c1, Rx.t_spl, es, el, n2, c_ne_i, i0, i1, ea, eb, intD, c_is_none, Rx.isNone, pairO, l2]
    · have n2 : decide ((((cutW 47 w).length : Nat) : Int) ≠ 2) = true := by rw [decide_eq_true_eq]; omega
      have hr : (match cutW 47 w with
        | [a, b] => pairO (intW a) (intW b)
        | _ => PyData.none) = .none := by
        match hc : cutW 47 w, hl with
        | [], _ => rfl
        | [_], _ => rfl
        | [_, _], hl => exact absurd rfl hl
        | _ :: _ :: _ :: _, _ => rfl
      rw [hr]
      generalize (cutW 47 w).map Rx.S = xs at *
      generalize (cutW 47 w).length = len at *
      generalize R n = call at *
      simp only [d22, b22_eq, body, denSs, denS, den, denB, denV, denP, denI, denO, denT, denTs, denF, denG, denGs, both_1, both_2, cmpB_1, cmpB_2, bind_ok, bind_exc, bind_stuck, go_ok, go_exc, go_stuck, nxt_nx, nxt_rt, nxt_bk, nxt_ct, nxt_exc, litD, List.length_cons, List.length_nil, List.map_cons, List.map_nil, List.getElem?_cons_zero, List.getElem?_cons_succ, List.cons_append, List.nil_append, List.replicate, List.set_cons_zero, List.set_cons_succ, wipeE, Nat.reduceAdd, Nat.reduceSub, Nat.reduceEqDiff, Nat.reduceLT, Nat.zero_add, if_true, if_false, Bool.false_eq_true, Bool.not_true, Bool.not_false, beq_self_eq_true, lv_pd, lv_fn, take_self, bq_ft, bq_tf, tests, toP, c1, Rx.t_spl, es, el, n2, c_ne_i]
end K61


set_option linter.all false
set_option Elab.async false
set_option maxRecDepth 100000
set_option maxHeartbeats 2000000
namespace K61
open PySem Rx
/-! forms, read -/
def rowHead (ws : List W) : Option (List D) := match ws with
  | w :: r => if w = wHead ∧ headOk (r.map optD) = true then some (r.map optD) else none
  | [] => none
def rowTail (ws : List W) : Option (List D) := match ws with
  | w :: r => if w = wTail ∧ tailOk (r.map pairOfD) = true then some (r.map pairOfD) else none
  | [] => none
def readF (ls : List W) (i : Nat) : Except Nat D := match (wAt ls i).bind rowHead with
  | none => .error i
  | some hs => match (wAt ls (i + 1)).bind rowTail with
    | none => .error (i + 1)
    | some ts => .ok (.tuple [.tuple hs, .tuple ts])
theorem isnot_fault (hs ts : List D) (S : Sto) : cmpV .isnot (.pd (faultD hs ts)) (.pd .none) S = .ok (!(headOk hs && tailOk ts)) S := by
  rw [c_isnot_none]
  unfold faultD
  cases headOk hs <;> cases tailOk ts <;> rfl
theorem tail0 : tailOk [.tuple [.none, .int 0]] = true := by decide
theorem wReadForm {n : Nat} (hn : 4 ≤ n) (ls : List W) (i : Nat) (S : Sto) (h : lsOk ls) : R n 23 [.pd (.list (ls.map Rx.S)), .pd (.int i)] S = exR S (readF ls i) := by
  obtain ⟨n, rfl⟩ : ∃ m, n = m + 1 := ⟨n - 1, by omega⟩
  have ln := line_val
  have l1 := le_line 1 (by decide)
  have l2 := le_line 2 (by decide)
  have e1 := wWordsAt (by omega : 2 ≤ n) ls i S h
  have e2 := wWordsAt (by omega : 2 ≤ n) ls (i + 1) S h
  have e2 : R n 17 [.pd (.list (ls.map Rx.S)), .pd (.int ((i : Int) + 1))] S = _ := e2
  rw [R_eq (d := d23) rfl]
  unfold readF
  cases hq : wAt ls i with
  | none =>
    rw [hq] at e1
    simp only [wAtR] at e1
    generalize ls.map Rx.S = xs at *
    generalize R n = call at *
    simp only [d23, b23_eq, body, denSs, denS, den, denB, denV, denP, denI, denO, denT, denTs, denF, denG, denGs, both_1, both_2, cmpB_1, cmpB_2, bind_ok, bind_exc, bind_stuck, go_ok, go_exc, go_stuck, nxt_nx, nxt_rt, nxt_bk, nxt_ct, nxt_exc, litD, List.length_cons, List.length_nil, List.map_cons, List.map_nil, List.getElem?_cons_zero, List.getElem?_cons_succ, List.cons_append, List.nil_append, List.replicate, List.set_cons_zero, List.set_cons_succ, wipeE, Nat.reduceAdd, Nat.reduceSub, Nat.reduceEqDiff, Nat.reduceLT, Nat.zero_add, if_true, if_false, Bool.false_eq_true, Bool.not_true, Bool.not_false, beq_self_eq_true, lv_pd, lv_fn, take_self, bq_ft, bq_tf, tests, toP, e1, Option.bind_none, exR]
  | some ws =>
    obtain ⟨⟨w, r, rfl⟩, f1, f2, f3⟩ := wAt_facts hq h
    rw [hq] at e1
    simp only [wAtR] at e1
    simp only [List.length_cons] at f1
    have i0 : idxV (.pd (.list ((w :: r).map Rx.S))) (.pd (.int 0)) S = .ok (.pd (Rx.S w)) S := Rx.i_l (s := S) (by decide) rfl
    have z1 : slcI (.pd (.list ((w :: r).map Rx.S))) (some 1) none S = .ok (.pd (.list (r.map Rx.S))) S := by
      rw [Rx.z_l, Rx.cut_map, Rx.cut_from _ (by decide)]
      rfl
    have lc1 : ∀ v3 v4 v5, (den kons (R n) l23_1).1 [some (.pd (.list (ls.map Rx.S))), some (.pd (.int i)), some (.pd (.list ((w :: r).map Rx.S))), v3, v4, v5] S = .ok (.pd (.list (r.map optD))) S := fun v3 v4 v5 => by
      refine Rx.lc_map (xs := r) Rx.S optD ?_ (fun z hz => ?_) (by omega)
      · refine Rx.it_val (v := .pd (.list (r.map Rx.S))) (s' := S) ?_ rfl
        generalize R n = call
        generalize (w :: r).map Rx.S = ys at *
        simp only [body, denSs, denS, den, denB, denV, denP, denI, denO, denT, denTs, denF, denG, denGs, both_1, both_2, cmpB_1, cmpB_2, bind_ok, bind_exc, bind_stuck, go_ok, go_exc, go_stuck, nxt_nx, nxt_rt, nxt_bk, nxt_ct, nxt_exc, litD, List.length_cons, List.length_nil, List.map_cons, List.map_nil, List.getElem?_cons_zero, List.getElem?_cons_succ, List.cons_append, List.nil_append, List.replicate, List.set_cons_zero, List.set_cons_succ, wipeE, Nat.reduceAdd, Nat.reduceSub, Nat.reduceEqDiff, Nat.reduceLT, Nat.zero_add, if_true, if_false, Bool.false_eq_true, Bool.not_true, Bool.not_false, beq_self_eq_true, lv_pd, lv_fn, take_self, bq_ft, bq_tf, tests, toP, z1]
      · have e : R n 15 [.pd (Rx.S z), .pd (Rx.S [110, 111, 110, 101])] S = _ := wOptOf (by omega : 3 ≤ n) z S (f2 z (List.mem_cons_of_mem _ hz))
        generalize R n = call at *
        simp only [Rx.lcT, body, denSs, denS, den, denB, denV, denP, denI, denO, denT, denTs, denF, denG, denGs, both_1, both_2, cmpB_1, cmpB_2, bind_ok, bind_exc, bind_stuck, go_ok, go_exc, go_stuck, nxt_nx, nxt_rt, nxt_bk, nxt_ct, nxt_exc, litD, List.length_cons, List.length_nil, List.map_cons, List.map_nil, List.getElem?_cons_zero, List.getElem?_cons_succ, List.cons_append, List.nil_append, List.replicate, List.set_cons_zero, List.set_cons_succ, wipeE, Nat.reduceAdd, Nat.reduceSub, Nat.reduceEqDiff, Nat.reduceLT, Nat.zero_add, if_true, if_false, Bool.false_eq_true, Bool.not_true, Bool.not_false, beq_self_eq_true, lv_pd, lv_fn, take_self, bq_ft, bq_tf, tests, toP, e]
    have ef : R n 7 [.pd (.tuple [.tuple (r.map optD), .tuple [.tuple [.none, .int 0]]])] S = _ := wFault (by omega : 3 ≤ n) (r.map optD) [.tuple [.none, .int 0]] S (fun x hx => by
      obtain ⟨z, hz, rfl⟩ := List.mem_map.mp hx
      exact optD_ok (f2 z (List.mem_cons_of_mem _ hz))) (fun x hx => by
      rw [List.mem_singleton] at hx
      exact .inr ⟨_, _, hx, trivial, trivial⟩) (by rw [List.length_map]; omega) (by decide)
    have cf := isnot_fault (r.map optD) [.tuple [.none, .int 0]] S
    rw [tail0, Bool.and_true] at cf
    have cw : cmpV .ne (.pd (Rx.S w)) (.pd (Rx.S [104, 101, 97, 100])) S = .ok (!decide (w = wHead)) S := Rx.c_ne_S w wHead
    have hb : (some (w :: r)).bind rowHead = if w = wHead ∧ headOk (r.map optD) = true then some (r.map optD) else none := rfl
    rw [hb]
    have t2 : bltV .tuple [.pd (.list (r.map optD))] S = .ok (.pd (.tuple (r.map optD))) S := rfl
    generalize (w :: r).map Rx.S = ys at *
    generalize faultD (r.map optD) [.tuple [.none, .int 0]] = fd at *
    by_cases hw : w = wHead
    · rw [decide_eq_true hw] at cw
      cases hh : headOk (r.map optD) with
      | false =>
        rw [hh] at cf
        rw [if_neg (by simp)]
        generalize r.map optD = hs at *
        generalize ls.map Rx.S = xs at *
        generalize R n = call at *
        simp only [d23, b23_eq, body, denSs, denS, den, denB, denV, denP, denI, denO, denT, denTs, denF, denG, denGs, both_1, both_2, cmpB_1, cmpB_2, bind_ok, bind_exc, bind_stuck, go_ok, go_exc, go_stuck, nxt_nx, nxt_rt, nxt_bk, nxt_ct, nxt_exc, litD, List.length_cons, List.length_nil, List.map_cons, List.map_nil, List.getElem?_cons_zero, List.getElem?_cons_succ, List.cons_append, List.nil_append, List.replicate, List.set_cons_zero, List.set_cons_succ, wipeE, Nat.reduceAdd, Nat.reduceSub, Nat.reduceEqDiff, Nat.reduceLT, Nat.zero_add, if_true, if_false, Bool.false_eq_true, Bool.not_true, Bool.not_false, beq_self_eq_true, lv_pd, lv_fn, take_self, bq_ft, bq_tf, tests, toP, newL, l1, l2, e1, lc1, t2, i0, cw, ef, cf, exR]
      | true =>
        rw [hh] at cf
        rw [if_pos ⟨hw, rfl⟩]
        have hok : ∀ x ∈ r.map optD, okI x := fun x hx => by
          obtain ⟨z, hz, rfl⟩ := List.mem_map.mp hx
          exact optD_ok (f2 z (List.mem_cons_of_mem _ hz))
        have hlh : (r.map optD).length ≤ line := by rw [List.length_map]; omega
        clear f2 f3 hb
        cases hq2 : wAt ls (i + 1) with
        | none =>
          rw [hq2] at e2
          simp only [wAtR] at e2
          generalize r.map optD = hs at *
          generalize ls.map Rx.S = xs at *
          generalize R n = call at *
          simp only [d23, b23_eq, body, denSs, denS, den, denB, denV, denP, denI, denO, denT, denTs, denF, denG, denGs, both_1, both_2, cmpB_1, cmpB_2, bind_ok, bind_exc, bind_stuck, go_ok, go_exc, go_stuck, nxt_nx, nxt_rt, nxt_bk, nxt_ct, nxt_exc, litD, List.length_cons, List.length_nil, List.map_cons, List.map_nil, List.getElem?_cons_zero, List.getElem?_cons_succ, List.cons_append, List.nil_append, List.replicate, List.set_cons_zero, List.set_cons_succ, wipeE, Nat.reduceAdd, Nat.reduceSub, Nat.reduceEqDiff, Nat.reduceLT, Nat.zero_add, if_true, if_false, Bool.false_eq_true, Bool.not_true, Bool.not_false, beq_self_eq_true, lv_pd, lv_fn, take_self, bq_ft, bq_tf, tests, toP, newL, l1, l2, e1, lc1, t2, i0, cw, ef, cf, a_add_i, e2, Option.bind_none, exR]
        | some us =>
          obtain ⟨⟨v, q, rfl⟩, g1, g2, g3⟩ := wAt_facts hq2 h
          rw [hq2] at e2
          simp only [wAtR] at e2
          simp only [List.length_cons] at g1
          have j0 : idxV (.pd (.list ((v :: q).map Rx.S))) (.pd (.int 0)) S = .ok (.pd (Rx.S v)) S := Rx.i_l (s := S) (by decide) rfl
          have z2 : slcI (.pd (.list ((v :: q).map Rx.S))) (some 1) none S = .ok (.pd (.list (q.map Rx.S))) S := by
            rw [Rx.z_l, Rx.cut_map, Rx.cut_from _ (by decide)]
            rfl
          have hz2 : ∀ z ∈ q, z.length + 2 ≤ line := fun z hz => by
            obtain ⟨l, hm, hwl⟩ := wAt_words hq2
            obtain ⟨e, _, _⟩ := wordsW_some hwl
            have : z ∈ cutW 32 l := by rw [← e]; exact List.mem_cons_of_mem _ hz
            have := Rx.spl_len_mem this
            have := h.2 l hm
            omega
          have lc2 : ∀ v3 v4 v5, (den kons (R n) l23_2).1 [some (.pd (.list (ls.map Rx.S))), some (.pd (.int i)), some (.pd (.list ((v :: q).map Rx.S))), v3, v4, v5] S = .ok (.pd (.list (q.map pairOfD))) S := fun v3 v4 v5 => by
            refine Rx.lc_map (xs := q) Rx.S pairOfD ?_ (fun z hz => ?_) (by omega)
            · refine Rx.it_val (v := .pd (.list (q.map Rx.S))) (s' := S) ?_ rfl
              generalize R n = call
              generalize (v :: q).map Rx.S = ys at *
              simp only [body, denSs, denS, den, denB, denV, denP, denI, denO, denT, denTs, denF, denG, denGs, both_1, both_2, cmpB_1, cmpB_2, bind_ok, bind_exc, bind_stuck, go_ok, go_exc, go_stuck, nxt_nx, nxt_rt, nxt_bk, nxt_ct, nxt_exc, litD, List.length_cons, List.length_nil, List.map_cons, List.map_nil, List.getElem?_cons_zero, List.getElem?_cons_succ, List.cons_append, List.nil_append, List.replicate, List.set_cons_zero, List.set_cons_succ, wipeE, Nat.reduceAdd, Nat.reduceSub, Nat.reduceEqDiff, Nat.reduceLT, Nat.zero_add, if_true, if_false, Bool.false_eq_true, Bool.not_true, Bool.not_false, beq_self_eq_true, lv_pd, lv_fn, take_self, bq_ft, bq_tf, tests, toP, z2]
            · have e := wPairOf (by omega : 3 ≤ n) z S (hz2 z hz)
              generalize R n = call at *
              simp only [Rx.lcT, body, denSs, denS, den, denB, denV, denP, denI, denO, denT, denTs, denF, denG, denGs, both_1, both_2, cmpB_1, cmpB_2, bind_ok, bind_exc, bind_stuck, go_ok, go_exc, go_stuck, nxt_nx, nxt_rt, nxt_bk, nxt_ct, nxt_exc, litD, List.length_cons, List.length_nil, List.map_cons, List.map_nil, List.getElem?_cons_zero, List.getElem?_cons_succ, List.cons_append, List.nil_append, List.replicate, List.set_cons_zero, List.set_cons_succ, wipeE, Nat.reduceAdd, Nat.reduceSub, Nat.reduceEqDiff, Nat.reduceLT, Nat.zero_add, if_true, if_false, Bool.false_eq_true, Bool.not_true, Bool.not_false, beq_self_eq_true, lv_pd, lv_fn, take_self, bq_ft, bq_tf, tests, toP, e]
          have eg : R n 7 [.pd (.tuple [.tuple (r.map optD), .tuple (q.map pairOfD)])] S = _ := wFault (by omega : 3 ≤ n) (r.map optD) (q.map pairOfD) S hok (fun x hx => by
            obtain ⟨z, hz, rfl⟩ := List.mem_map.mp hx
            exact pairOfD_ok z) hlh (by rw [List.length_map]; omega)
          have cg := isnot_fault (r.map optD) (q.map pairOfD) S
          rw [hh, Bool.true_and] at cg
          have cv : cmpV .ne (.pd (Rx.S v)) (.pd (Rx.S [116, 97, 105, 108])) S = .ok (!decide (v = wTail)) S := Rx.c_ne_S v wTail
          have t3 : bltV .tuple [.pd (.list (q.map pairOfD))] S = .ok (.pd (.tuple (q.map pairOfD))) S := rfl
          have hb2 : (some (v :: q)).bind rowTail = if v = wTail ∧ tailOk (q.map pairOfD) = true then some (q.map pairOfD) else none := rfl
          rw [hb2]
          clear hb2 g2 g3 hok
          generalize (v :: q).map Rx.S = us at *
          generalize faultD (r.map optD) (q.map pairOfD) = fd2 at *
          by_cases hv : v = wTail
          · rw [decide_eq_true hv] at cv
            cases ht : tailOk (q.map pairOfD) with
            | false =>
              rw [ht] at cg
              simp only [hv, Bool.false_eq_true, and_false, if_false]
              generalize q.map pairOfD = ts at *
              generalize r.map optD = hs at *
              generalize ls.map Rx.S = xs at *
              generalize R n = call at *
              simp only [d23, b23_eq, body, denSs, denS, den, denB, denV, denP, denI, denO, denT, denTs, denF, denG, denGs, both_1, both_2, cmpB_1, cmpB_2, bind_ok, bind_exc, bind_stuck, go_ok, go_exc, go_stuck, nxt_nx, nxt_rt, nxt_bk, nxt_ct, nxt_exc, litD, List.length_cons, List.length_nil, List.map_cons, List.map_nil, List.getElem?_cons_zero, List.getElem?_cons_succ, List.cons_append, List.nil_append, List.replicate, List.set_cons_zero, List.set_cons_succ, wipeE, Nat.reduceAdd, Nat.reduceSub, Nat.reduceEqDiff, Nat.reduceLT, Nat.zero_add, if_true, if_false, Bool.false_eq_true, Bool.not_true, Bool.not_false, beq_self_eq_true, lv_pd, lv_fn, take_self, bq_ft, bq_tf, tests, toP, newL, l1, l2, e1, lc1, t2, i0, cw, ef, cf, a_add_i, e2, lc2, t3, j0, cv, eg, cg, exR]
              rfl
            | true =>
              rw [ht] at cg
              simp only [hv, and_self, if_true]
              generalize q.map pairOfD = ts at *
              generalize r.map optD = hs at *
              generalize ls.map Rx.S = xs at *
              generalize R n = call at *
              simp only [d23, b23_eq, body, denSs, denS, den, denB, denV, denP, denI, denO, denT, denTs, denF, denG, denGs, both_1, both_2, cmpB_1, cmpB_2, bind_ok, bind_exc, bind_stuck, go_ok, go_exc, go_stuck, nxt_nx, nxt_rt, nxt_bk, nxt_ct, nxt_exc, litD, List.length_cons, List.length_nil, List.map_cons, List.map_nil, List.getElem?_cons_zero, List.getElem?_cons_succ, List.cons_append, List.nil_append, List.replicate, List.set_cons_zero, List.set_cons_succ, wipeE, Nat.reduceAdd, Nat.reduceSub, Nat.reduceEqDiff, Nat.reduceLT, Nat.zero_add, if_true, if_false, Bool.false_eq_true, Bool.not_true, Bool.not_false, beq_self_eq_true, lv_pd, lv_fn, take_self, bq_ft, bq_tf, tests, toP, newL, l1, l2, e1, lc1, t2, i0, cw, ef, cf, a_add_i, e2, lc2, t3, j0, cv, eg, cg, exR]
          · rw [decide_eq_false hv] at cv
            simp only [hv, false_and, if_false]
            generalize q.map pairOfD = ts at *
            generalize r.map optD = hs at *
            generalize ls.map Rx.S = xs at *
            generalize R n = call at *
            simp only [d23, b23_eq, body, denSs, denS, den, denB, denV, denP, denI, denO, denT, denTs, denF, denG, denGs, both_1, both_2, cmpB_1, cmpB_2, bind_ok, bind_exc, bind_stuck, go_ok, go_exc, go_stuck, nxt_nx, nxt_rt, nxt_bk, nxt_ct, nxt_exc, litD, List.length_cons, List.length_nil, List.map_cons, List.map_nil, List.getElem?_cons_zero, List.getElem?_cons_succ, List.cons_append, List.nil_append, List.replicate, List.set_cons_zero, List.set_cons_succ, wipeE, Nat.reduceAdd, Nat.reduceSub, Nat.reduceEqDiff, Nat.reduceLT, Nat.zero_add, if_true, if_false, Bool.false_eq_true, Bool.not_true, Bool.not_false, beq_self_eq_true, lv_pd, lv_fn, take_self, bq_ft, bq_tf, tests, toP, newL, l1, l2, e1, lc1, t2, i0, cw, ef, cf, a_add_i, e2, lc2, t3, j0, cv, exR]
            rfl
    · rw [decide_eq_false hw] at cw
      rw [if_neg (by simp [hw])]
      generalize r.map optD = hs at *
      generalize ls.map Rx.S = xs at *
      generalize R n = call at *
      simp only [d23, b23_eq, body, denSs, denS, den, denB, denV, denP, denI, denO, denT, denTs, denF, denG, denGs, both_1, both_2, cmpB_1, cmpB_2, bind_ok, bind_exc, bind_stuck, go_ok, go_exc, go_stuck, nxt_nx, nxt_rt, nxt_bk, nxt_ct, nxt_exc, litD, List.length_cons, List.length_nil, List.map_cons, List.map_nil, List.getElem?_cons_zero, List.getElem?_cons_succ, List.cons_append, List.nil_append, List.replicate, List.set_cons_zero, List.set_cons_succ, wipeE, Nat.reduceAdd, Nat.reduceSub, Nat.reduceEqDiff, Nat.reduceLT, Nat.zero_add, if_true, if_false, Bool.false_eq_true, Bool.not_true, Bool.not_false, beq_self_eq_true, lv_pd, lv_fn, take_self, bq_ft, bq_tf, tests, toP, newL, l1, l2, e1, lc1, t2, i0, cw, exR]
end K61


set_option linter.all false
set_option Elab.async false
set_option maxRecDepth 100000
set_option maxHeartbeats 2000000
namespace K61
open PySem Rx
/-! right forms are read back -/
def wordOk (w : W) : Prop := w ≠ [] ∧ ∀ c ∈ w, 33 ≤ c ∧ c ≤ 126
theorem wordsW_join {ws : List W} (hne : ws ≠ []) (h : ∀ w ∈ ws, wordOk w) : wordsW (TL.joinL [32] ws) = some ws := by
  have e := Rx.spl_joinL (s := 32) hne (fun w hw hc => by have := (h w hw).2 32 hc; omega)
  have hp : printW (TL.joinL [32] ws) = true := by
    unfold printW
    rw [List.all_eq_true]
    intro c hc
    rw [Bool.and_eq_true, decide_eq_true_eq, decide_eq_true_eq]
    rcases Rx.joinL_mem 32 hc with e | ⟨w, hw, hcw⟩
    · omega
    · have := (h w hw).2 c hcw; omega
  have hn : ws.any (·.isEmpty) = false := by
    cases hq : ws.any (·.isEmpty) with
    | false => rfl
    | true =>
      obtain ⟨w, hw, he⟩ := List.any_eq_true.mp hq
      cases w with
      | nil => exact absurd rfl (h [] hw).1
      | cons a b => simp at he
  unfold wordsW cutW
  rw [e, if_pos hp, hn, if_neg (by decide)]
theorem strI_ok (i : Int) : wordOk (strI i) ∧ ∀ c ∈ strI i, c = 45 ∨ (48 ≤ c ∧ c ≤ 57) := by
  have hd := TL.numL_digits i.natAbs
  have hn := TL.numL_ne i.natAbs
  unfold strI
  split
  · exact ⟨⟨hn, fun c hc => by have := hd c hc; omega⟩, fun c hc => .inr (hd c hc)⟩
  · refine ⟨⟨by simp, fun c hc => ?_⟩, fun c hc => ?_⟩
    · rcases List.mem_cons.mp hc with e | e
      · omega
      · have := hd c e; omega
    · rcases List.mem_cons.mp hc with e | e
      · exact .inl e
      · exact .inr (hd c e)
theorem strI_none (i : Int) : strI i ≠ wNone := fun e => by
  have := (strI_ok i).2 110 (by rw [e]; decide)
  omega
theorem strI_47 (i : Int) : 47 ∉ strI i := fun h => by
  have := (strI_ok i).2 47 h
  omega
theorem wordO_ok (o : OI) : wordOk (wordO o) := by
  cases o with
  | none => exact ⟨by decide, by decide⟩
  | some i => exact (strI_ok i).1
theorem pairW_ok (p : OP) : wordOk (pairW p) := by
  cases p with
  | none => exact ⟨by decide, by decide⟩
  | some q =>
    obtain ⟨v, s⟩ := q
    refine ⟨by simp [pairW], fun c hc => ?_⟩
    simp only [pairW, List.mem_append, List.mem_cons] at hc
    rcases hc with hc | hc | hc
    · exact (strI_ok v).1.2 c hc
    · omega
    · exact (strI_ok s).1.2 c hc
theorem optD_back {o : OI} (h : smO o) : optD (wordO o) = intD o := by
  cases o with
  | none => rfl
  | some i =>
    unfold optD wordO
    rw [if_neg (strI_none i), intW_strI (h i rfl)]
    rfl
theorem pairOfD_back {p : OP} (h : smP p) : pairOfD (pairW p) = pD p := by
  cases p with
  | none => rfl
  | some q =>
    obtain ⟨v, s⟩ := q
    obtain ⟨h1, h2⟩ := h v s rfl
    have hne : pairW (some (v, s)) ≠ wNone := fun e => by
      have : 47 ∈ wNone := by rw [← e]; simp [pairW]
      exact absurd this (by decide)
    have hc : cutW 47 (pairW (some (v, s))) = [strI v, strI s] := by
      have := Rx.spl_joinL (s := 47) (ps := [strI v, strI s]) (by simp) (fun w hw => by
        simp only [List.mem_cons, List.not_mem_nil, or_false] at hw
        rcases hw with e | e <;> rw [e] <;> exact strI_47 _)
      exact this
    unfold pairOfD
    rw [if_neg hne, hc]
    simp only [intW_strI h1, intW_strI h2, pairO]
    rfl
theorem headW_words (f : Fm) : wordsW (headW f) = some (wHead :: f.head.map wordO) := wordsW_join (by simp) fun w hw => by
  rcases List.mem_cons.mp hw with e | hw
  · rw [e]; exact ⟨by decide, by decide⟩
  · obtain ⟨o, _, rfl⟩ := List.mem_map.mp hw
    exact wordO_ok o
theorem tailW_words (f : Fm) : wordsW (tailW f) = some (wTail :: f.tail.map pairW) := wordsW_join (by simp) fun w hw => by
  rcases List.mem_cons.mp hw with e | hw
  · rw [e]; exact ⟨by decide, by decide⟩
  · obtain ⟨o, _, rfl⟩ := List.mem_map.mp hw
    exact pairW_ok o
theorem head_back {f : Fm} (h : goodF f) : (f.head.map wordO).map optD = f.head.map intD := by
  rw [List.map_map]
  exact List.map_congr_left fun o ho => optD_back (h.2.1 o ho)
theorem tail_back {f : Fm} (h : goodF f) : (f.tail.map pairW).map pairOfD = f.tail.map pD := by
  rw [List.map_map]
  exact List.map_congr_left fun p hp => pairOfD_back (h.2.2 p hp)
theorem headOk_good {f : Fm} (h : goodF f) : headOk (f.head.map intD) = true := by
  unfold headOk
  rw [Bool.and_eq_true, decide_eq_true_eq, List.all_eq_true]
  refine ⟨by rw [List.length_map]; exact h.1.1, fun x hx => ?_⟩
  obtain ⟨o, _, rfl⟩ := List.mem_map.mp hx
  cases o <;> rfl
theorem tailOk_good {f : Fm} (h : goodF f) : tailOk (f.tail.map pD) = true := by
  unfold tailOk
  rw [Bool.and_eq_true, Bool.and_eq_true, decide_eq_true_eq, decide_eq_true_eq, List.all_eq_true]
  refine ⟨⟨by rw [List.length_map]; exact h.1.2.1, by rw [List.length_map]; exact h.1.2.2⟩, fun x hx => ?_⟩
  obtain ⟨p, _, rfl⟩ := List.mem_map.mp hx
  cases p <;> rfl
theorem readF_good {f : Fm} (h : goodF f) {ls : List W} {i : Nat} (h1 : ls[i]? = some (headW f)) (h2 : ls[i + 1]? = some (tailW f)) : readF ls i = .ok (fmD f) := by
  have e1 : wAt ls i = some (wHead :: f.head.map wordO) := by unfold wAt; rw [h1]; exact headW_words f
  have e2 : wAt ls (i + 1) = some (wTail :: f.tail.map pairW) := by unfold wAt; rw [h2]; exact tailW_words f
  have e3 : rowHead (wHead :: f.head.map wordO) = some (f.head.map intD) := by
    simp only [rowHead, head_back h, headOk_good h, and_self, if_true]
  have e4 : rowTail (wTail :: f.tail.map pairW) = some (f.tail.map pD) := by
    simp only [rowTail, tail_back h, tailOk_good h, and_self, if_true]
  unfold readF
  rw [e1, e2, Option.bind_some, e3, Option.bind_some, e4]
  rfl
/-! texts of forms -/
def wForm : W := [102, 111, 114, 109]
def wEnd : W := [101, 110, 100]
def formLs (f : Fm) : List W := [wForm, headW f, tailW f, wEnd]
def formT (f : Fm) : W := TL.joinL [10] (formLs f)
theorem small_bnd {f : Fm} (h : goodF f) : ∀ l ∈ formLs f, l.length ≤ 400000 := fun l hl => by
  simp only [formLs, List.mem_cons, List.not_mem_nil, or_false] at hl
  rcases hl with e | e | e | e <;> rw [e]
  · decide
  · exact headW_len h
  · exact tailW_len h
  · decide
theorem no10 {ws : List W} (h : ∀ w ∈ ws, wordOk w) : 10 ∉ TL.joinL [32] ws := Rx.joinL_free (by decide) fun w hw h10 => by
  have := (h w hw).2 10 h10; omega
theorem headW_10 (f : Fm) : 10 ∉ headW f := no10 fun w hw => by
  rcases List.mem_cons.mp hw with e | hw
  · rw [e]; exact ⟨by decide, by decide⟩
  · obtain ⟨o, _, rfl⟩ := List.mem_map.mp hw
    exact wordO_ok o
theorem tailW_10 (f : Fm) : 10 ∉ tailW f := no10 fun w hw => by
  rcases List.mem_cons.mp hw with e | hw
  · rw [e]; exact ⟨by decide, by decide⟩
  · obtain ⟨o, _, rfl⟩ := List.mem_map.mp hw
    exact pairW_ok o
theorem formT_cut (f : Fm) : cutW 10 (formT f) = formLs f := Rx.spl_joinL (by simp [formLs]) fun w hw => by
  simp only [formLs, List.mem_cons, List.not_mem_nil, or_false] at hw
  rcases hw with e | e | e | e <;> rw [e]
  · decide
  · exact headW_10 f
  · exact tailW_10 f
  · decide
theorem formT_len {f : Fm} (h : goodF f) : (formT f).length ≤ 1700000 := by
  have := Rx.joinL_bnd 10 400000 (formLs f) (small_bnd h)
  have e : (formLs f).length = 4 := rfl
  unfold formT
  omega
theorem wFormatForm {n : Nat} (hn : 3 ≤ n) (f : Fm) (S : Sto) (h : goodF f) : R n 24 [.pd (fmD f)] S = .ok (.pd (Rx.S (formT f))) S := by
  obtain ⟨n, rfl⟩ : ∃ m, n = m + 1 := ⟨n - 1, by omega⟩
  have l1 := le_line 1 (by decide)
  have e1 := wFormLines (by omega : 2 ≤ n) f S h
  have a1 : binV .add (.pd (.list [Rx.S [102, 111, 114, 109]])) (.pd (.list [Rx.S (headW f), Rx.S (tailW f)])) S = .ok (.pd (.list [Rx.S [102, 111, 114, 109], Rx.S (headW f), Rx.S (tailW f)])) S := a_add_l (s := S) _ _ (le_line _ (by simp only [List.length_cons, List.length_nil]; omega))
  have a2 : binV .add (.pd (.list [Rx.S [102, 111, 114, 109], Rx.S (headW f), Rx.S (tailW f)])) (.pd (.list [Rx.S [101, 110, 100]])) S = .ok (.pd (.list ((formLs f).map Rx.S))) S := a_add_l (s := S) _ _ (le_line _ (by simp only [List.length_cons, List.length_nil]; omega))
  have ej : mthV .join (.pd (Rx.S [10])) [.pd (.list ((formLs f).map Rx.S))] S = .ok (.pd (Rx.S (formT f))) S := Rx.jj (k := 400000) (m := 4) _ (small_bnd h) (Nat.le_refl 4) (by decide)
  rw [R_eq (d := d24) rfl]
  generalize (formLs f).map Rx.S = xs at *
  generalize fmD f = ff at *
  generalize R n = call at *
  simp only [d24, b24_eq, body, denSs, denS, den, denB, denV, denP, denI, denO, denT, denTs, denF, denG, denGs, both_1, both_2, cmpB_1, cmpB_2, bind_ok, bind_exc, bind_stuck, go_ok, go_exc, go_stuck, nxt_nx, nxt_rt, nxt_bk, nxt_ct, nxt_exc, litD, List.length_cons, List.length_nil, List.map_cons, List.map_nil, List.getElem?_cons_zero, List.getElem?_cons_succ, List.cons_append, List.nil_append, List.replicate, List.set_cons_zero, List.set_cons_succ, wipeE, Nat.reduceAdd, Nat.reduceSub, Nat.reduceEqDiff, Nat.reduceLT, Nat.zero_add, if_true, if_false, Bool.false_eq_true, Bool.not_true, Bool.not_false, beq_self_eq_true, lv_pd, lv_fn, take_self, bq_ft, bq_tf, tests, toP, newL, l1, e1, a1, a2, Rx.t_joi, ej]
/-- what parse_form tells of lines -/
def parseF (ls : List W) : Except Nat D := if wAt ls 0 = some [wForm] then (match readF ls 1 with
  | .error e => .error e
  | .ok d => match finI ls 3 with
    | some e => .error e
    | none => .ok d) else .error 0
theorem cut_ok {t : W} (ht : t.length + 2 ≤ line) : lsOk (cutW 10 t) := by
  have hlen : (cutW 10 t).length ≤ t.length + 1 := Rx.spl_len 10 t
  exact ⟨by omega, fun l hl => by have := Rx.spl_len_mem hl; omega⟩
theorem wParseForm {n : Nat} (hn : 5 ≤ n) (t : W) (S : Sto) (ht : t.length + 2 ≤ line) : R n 25 [.pd (Rx.S t)] S = exR S (parseF (cutW 10 t)) := by
  obtain ⟨n, rfl⟩ : ∃ m, n = m + 1 := ⟨n - 1, by omega⟩
  have l1 := le_line 1 (by decide)
  have hls := cut_ok ht
  have e1 := wBegin (by omega : 3 ≤ n) t wForm S ht (by decide)
  replace e1 : R n 18 [.pd (Rx.S t), .pd (.list [Rx.S [102, 111, 114, 109]])] S = _ := e1
  have e2 := wReadForm (by omega : 4 ≤ n) (cutW 10 t) 1 S hls
  replace e2 : R n 23 [.pd (.list ((cutW 10 t).map Rx.S)), .pd (.int 1)] S = _ := e2
  have e3 := wFinish (by omega : 3 ≤ n) (cutW 10 t) 3 S hls
  replace e3 : R n 19 [.pd (.list ((cutW 10 t).map Rx.S)), .pd (.int 3)] S = _ := e3
  rw [R_eq (d := d25) rfl]
  unfold parseF
  by_cases h0 : wAt (cutW 10 t) 0 = some [wForm]
  · rw [if_pos h0] at e1 ⊢
    cases hr : readF (cutW 10 t) 1 with
    | error e =>
      rw [hr] at e2
      simp only [exR] at e2
      generalize (cutW 10 t).map Rx.S = xs at *
      generalize R n = call at *
      simp only [d25, b25_eq, body, denSs, denS, den, denB, denV, denP, denI, denO, denT, denTs, denF, denG, denGs, both_1, both_2, cmpB_1, cmpB_2, bind_ok, bind_exc, bind_stuck, go_ok, go_exc, go_stuck, nxt_nx, nxt_rt, nxt_bk, nxt_ct, nxt_exc, litD, List.length_cons, List.length_nil, List.map_cons, List.map_nil, List.getElem?_cons_zero, List.getElem?_cons_succ, List.cons_append, List.nil_append, List.replicate, List.set_cons_zero, List.set_cons_succ, wipeE, Nat.reduceAdd, Nat.reduceSub, Nat.reduceEqDiff, Nat.reduceLT, Nat.zero_add, if_true, if_false, Bool.false_eq_true, Bool.not_true, Bool.not_false, beq_self_eq_true, lv_pd, lv_fn, take_self, bq_ft, bq_tf, tests, toP, newL, l1, e1, e2, exR]
    | ok d =>
      rw [hr] at e2
      simp only [exR] at e2
      cases hf : finI (cutW 10 t) 3 with
      | some e =>
        rw [hf] at e3
        simp only at e3
        generalize (cutW 10 t).map Rx.S = xs at *
        generalize R n = call at *
        simp only [d25, b25_eq, body, denSs, denS, den, denB, denV, denP, denI, denO, denT, denTs, denF, denG, denGs, both_1, both_2, cmpB_1, cmpB_2, bind_ok, bind_exc, bind_stuck, go_ok, go_exc, go_stuck, nxt_nx, nxt_rt, nxt_bk, nxt_ct, nxt_exc, litD, List.length_cons, List.length_nil, List.map_cons, List.map_nil, List.getElem?_cons_zero, List.getElem?_cons_succ, List.cons_append, List.nil_append, List.replicate, List.set_cons_zero, List.set_cons_succ, wipeE, Nat.reduceAdd, Nat.reduceSub, Nat.reduceEqDiff, Nat.reduceLT, Nat.zero_add, if_true, if_false, Bool.false_eq_true, Bool.not_true, Bool.not_false, beq_self_eq_true, lv_pd, lv_fn, take_self, bq_ft, bq_tf, tests, toP, newL, l1, e1, e2, e3, exR]
      | none =>
        rw [hf] at e3
        simp only at e3
        generalize (cutW 10 t).map Rx.S = xs at *
        generalize R n = call at *
        simp only [d25, b25_eq, body, denSs, denS, den, denB, denV, denP, denI, denO, denT, denTs, denF, denG, denGs, both_1, both_2, cmpB_1, cmpB_2, bind_ok, bind_exc, bind_stuck, go_ok, go_exc, go_stuck, nxt_nx, nxt_rt, nxt_bk, nxt_ct, nxt_exc, litD, List.length_cons, List.length_nil, List.map_cons, List.map_nil, List.getElem?_cons_zero, List.getElem?_cons_succ, List.cons_append, List.nil_append, List.replicate, List.set_cons_zero, List.set_cons_succ, wipeE, Nat.reduceAdd, Nat.reduceSub, Nat.reduceEqDiff, Nat.reduceLT, Nat.zero_add, if_true, if_false, Bool.false_eq_true, Bool.not_true, Bool.not_false, beq_self_eq_true, lv_pd, lv_fn, take_self, bq_ft, bq_tf, tests, toP, newL, l1, e1, e2, e3, exR]
  · rw [if_neg h0] at e1 ⊢
    generalize (cutW 10 t).map Rx.S = xs at *
    generalize R n = call at *
    simp only [d25, b25_eq, body, denSs, denS, den, denB, denV, denP, denI, denO, denT, denTs, denF, denG, denGs, both_1, both_2, cmpB_1, cmpB_2, bind_ok, bind_exc, bind_stuck, go_ok, go_exc, go_stuck, nxt_nx, nxt_rt, nxt_bk, nxt_ct, nxt_exc, litD, List.length_cons, List.length_nil, List.map_cons, List.map_nil, List.getElem?_cons_zero, List.getElem?_cons_succ, List.cons_append, List.nil_append, List.replicate, List.set_cons_zero, List.set_cons_succ, wipeE, Nat.reduceAdd, Nat.reduceSub, Nat.reduceEqDiff, Nat.reduceLT, Nat.zero_add, if_true, if_false, Bool.false_eq_true, Bool.not_true, Bool.not_false, beq_self_eq_true, lv_pd, lv_fn, take_self, bq_ft, bq_tf, tests, toP, newL, l1, e1, exR]
    rfl
theorem parseF_good {f : Fm} (h : goodF f) : parseF (formLs f) = .ok (fmD f) := by
  have e0 : wAt (formLs f) 0 = some [wForm] := by show wordsW wForm = _; decide
  have e3 : finI (formLs f) 3 = none := by
    unfold finI
    have : wAt (formLs f) 3 = some [[101, 110, 100]] := by show wordsW wEnd = _; decide
    rw [if_pos this, if_neg (show ¬ 3 + 1 < (formLs f).length from Nat.lt_irrefl 4)]
  unfold parseF
  rw [if_pos e0, readF_good h (ls := formLs f) (i := 1) rfl rfl]
  simp only [e3]
end K61


set_option linter.all false
set_option Elab.async false
set_option maxRecDepth 100000
set_option maxHeartbeats 2000000
namespace K61
open PySem Rx
/-! formulas -/
inductive Fo where
  | form (f : Fm) | name (w : W) | few (vs : List Int) | pair (k : Nat) (a b : Fo)
  | times (a : Fo) (k : Int) | divided (a : Fo) (k : Int) | wher (a : Fo) (lo hi : OI) | moved (a : Fo) (k : Int) | frm (a : Fo)
def pairWs : List W := [[115, 117, 109], [100, 105, 102, 102, 101, 114, 101, 110, 99, 101], [108, 101, 115, 115, 101, 114], [103, 114, 101, 97, 116, 101, 114], [111, 116, 104, 101, 114, 119, 105, 115, 101], [97, 102, 116, 101, 114], [115, 112, 108, 105, 116]]
def singWs : List W := [[116, 105, 109, 101, 115], [100, 105, 118, 105, 100, 101, 100], [119, 104, 101, 114, 101], [109, 111, 118, 101, 100], [102, 114, 111, 109]]
def pw (k : Nat) : W := pairWs[k]?.getD []
def wNam : W := [110, 97, 109, 101]
def wFew : W := [102, 101, 119, 101, 115, 116]
def wTimes : W := [116, 105, 109, 101, 115]
def wDivided : W := [100, 105, 118, 105, 100, 101, 100]
def wWhere : W := [119, 104, 101, 114, 101]
def wMoved : W := [109, 111, 118, 101, 100]
def wFrom : W := [102, 114, 111, 109]
def toD : Fo → D
  | .form f => .tuple [Rx.S wForm, fmD f]
  | .name w => .tuple [Rx.S wNam, Rx.S w]
  | .few vs => .tuple [Rx.S wFew, .tuple (vs.map .int)]
  | .pair k a b => .tuple [Rx.S (pw k), toD a, toD b]
  | .times a k => .tuple [Rx.S wTimes, toD a, .int k]
  | .divided a k => .tuple [Rx.S wDivided, toD a, .int k]
  | .wher a lo hi => .tuple [Rx.S wWhere, toD a, intD lo, intD hi]
  | .moved a k => .tuple [Rx.S wMoved, toD a, .int k]
  | .frm a => .tuple [Rx.S wFrom, toD a]
def inner : Fo → List Fo
  | .form _ => []
  | .name _ => []
  | .few _ => []
  | .pair _ a b => [a, b]
  | .times a _ => [a]
  | .divided a _ => [a]
  | .wher a _ _ => [a]
  | .moved a _ => [a]
  | .frm a => [a]
def asc : List Int → Bool
  | a :: b :: r => decide (a < b) && asc (b :: r)
  | _ => true
/-- the own part of a tuple is right -/
def goodR : Fo → Prop
  | .form f => goodF f
  | .name w => nameW w = true
  | .few vs => (1 ≤ vs.length ∧ vs.length ≤ 12) ∧ (∀ v ∈ vs, 1 ≤ v ∧ v ≤ 1000) ∧ asc vs = true
  | .pair k _ _ => k < 7
  | .times _ k => sm k
  | .divided _ k => 1 ≤ k ∧ k ≤ 1000
  | .wher _ lo hi => smO lo ∧ smO hi
  | .moved _ k => sm k
  | .frm _ => True
def rows : Fo → List Fo
  | .form f => [.form f]
  | .name w => [.name w]
  | .few vs => [.few vs]
  | .pair k a b => .pair k a b :: (rows a ++ rows b)
  | .times a k => .times a k :: rows a
  | .divided a k => .divided a k :: rows a
  | .wher a lo hi => .wher a lo hi :: rows a
  | .moved a k => .moved a k :: rows a
  | .frm a => .frm a :: rows a
def height : Fo → Nat
  | .form _ => 1
  | .name _ => 1
  | .few _ => 1
  | .pair _ a b => max (height a) (height b) + 1
  | .times a _ => height a + 1
  | .divided a _ => height a + 1
  | .wher a _ _ => height a + 1
  | .moved a _ => height a + 1
  | .frm a => height a + 1
def rowWs : Fo → List W
  | .form _ => []
  | .name w => [wNam, w]
  | .few vs => wFew :: vs.map strI
  | .pair k _ _ => [pw k]
  | .times _ k => [wTimes, strI k]
  | .divided _ k => [wDivided, strI k]
  | .wher _ lo hi => [wWhere, wordO lo, wordO hi]
  | .moved _ k => [wMoved, strI k]
  | .frm _ => [wFrom]
def rowLs (φ : Fo) : List W := match φ with
  | .form f => [headW f, tailW f]
  | φ => [TL.joinL [32] (rowWs φ)]
def lines (φ : Fo) : List W := (rows φ).flatMap rowLs
theorem rows_cons (φ : Fo) : rows φ = φ :: (inner φ).flatMap rows := by
  cases φ <;> simp [rows, inner]
theorem pw_lt : ∀ k < 7, pw k ∈ pairWs ∧ (pw k).length ≤ 10 ∧ (pw k ≠ [] ∧ ∀ c ∈ pw k, 33 ≤ c ∧ c ≤ 126) := by decide
theorem isW_S2 (a b : W) : PyData.eqv (Rx.S a) (Rx.S b) = decide (a = b) := eqv_S a b
theorem in_ws_t (w : W) (ws : List W) (S : Sto) : cmpV .inn (.pd (Rx.S w)) (.pd (.tuple (ws.map Rx.S))) S = .ok (ws.any fun z => decide (z = w)) S := by
  have hf : (flat (Rx.S w) && (ws.map Rx.S).all flat) = true := by rw [flat_Ss]; rfl
  show inD (.pd (Rx.S w)) (.pd (.tuple (ws.map Rx.S))) S = _
  have e : inD (.pd (Rx.S w)) (.pd (.tuple (ws.map Rx.S))) S = .ok ((ws.map Rx.S).any fun z => PyData.eqv z (Rx.S w)) S := by
    unfold Rx.S at hf ⊢
    simp only [inD, hf, if_true]
  rw [e, List.any_map]
  congr 2
  funext z
  exact eqv_S z w
theorem in_ws_l (w : W) (ws : List W) (S : Sto) : cmpV .inn (.pd (Rx.S w)) (.pd (.list (ws.map Rx.S))) S = .ok (ws.any fun z => decide (z = w)) S := c_in_Ss w ws S
def fstW : Fo → W
  | .form _ => wForm
  | .name _ => wNam
  | .few _ => wFew
  | .pair k _ _ => pw k
  | .times _ _ => wTimes
  | .divided _ _ => wDivided
  | .wher _ _ _ => wWhere
  | .moved _ _ => wMoved
  | .frm _ => wFrom
def args : Fo → List D
  | .form f => [fmD f]
  | .name w => [Rx.S w]
  | .few vs => [.tuple (vs.map .int)]
  | .pair _ a b => [toD a, toD b]
  | .times a k => [toD a, .int k]
  | .divided a k => [toD a, .int k]
  | .wher a lo hi => [toD a, intD lo, intD hi]
  | .moved a k => [toD a, .int k]
  | .frm a => [toD a]
theorem toD_eq (φ : Fo) : toD φ = .tuple (Rx.S (fstW φ) :: args φ) := by cases φ <;> rfl
def isPair : Fo → Bool
  | .pair _ _ _ => true
  | _ => false
def isSing : Fo → Bool
  | .times _ _ => true
  | .divided _ _ => true
  | .wher _ _ _ => true
  | .moved _ _ => true
  | .frm _ => true
  | _ => false
theorem any_pair {φ : Fo} (h : goodR φ) : (pairWs.any fun z => decide (z = fstW φ)) = isPair φ := by
  cases φ with
  | pair k a b =>
    have : ∀ k < 7, (pairWs.any fun z => decide (z = pw k)) = true := by decide
    exact this k h
  | _ => rfl
theorem any_sing {φ : Fo} (h : goodR φ) : (singWs.any fun z => decide (z = fstW φ)) = isSing φ := by
  cases φ with
  | pair k a b =>
    have : ∀ k < 7, (singWs.any fun z => decide (z = pw k)) = false := by decide
    exact this k h
  | _ => rfl
theorem wInner {n : Nat} (hn : 1 ≤ n) (φ : Fo) (S : Sto) (h : goodR φ) : R n 11 [.pd (toD φ)] S = .ok (.pd (.tuple ((inner φ).map toD))) S := by
  obtain ⟨n, rfl⟩ : ∃ m, n = m + 1 := ⟨n - 1, by omega⟩
  have k1 : kons[2]? = some (.tuple (pairWs.map Rx.S)) := rfl
  have k2 : kons[3]? = some (.tuple (singWs.map Rx.S)) := rfl
  have i0 : idxV (.pd (toD φ)) (.pd (.int 0)) S = .ok (.pd (Rx.S (fstW φ))) S := by rw [toD_eq]; exact Rx.i_t (s := S) (by decide) rfl
  have c1 := in_ws_t (fstW φ) pairWs S
  have c2 := in_ws_t (fstW φ) singWs S
  rw [any_pair h] at c1
  rw [any_sing h] at c2
  have z1 : isPair φ = true → slcI (.pd (toD φ)) (some 1) (some 3) S = .ok (.pd (.tuple ((inner φ).map toD))) S := fun hp => by
    cases φ <;> first | rfl | (simp [isPair] at hp; done)
  have z2 : isSing φ = true → slcI (.pd (toD φ)) (some 1) (some 2) S = .ok (.pd (.tuple ((inner φ).map toD))) S := fun hp => by
    cases φ <;> first | rfl | (simp [isSing] at hp; done)
  have z3 : isPair φ = false → isSing φ = false → inner φ = [] := fun h1 h2 => by
    cases φ <;> first | rfl | (simp [isPair] at h1; done) | (simp [isSing] at h2; done)
  rw [R_eq (d := d11) rfl]
  have l0 : 0 ≤ line := Nat.zero_le _
  generalize pairWs.map Rx.S = ps at *
  generalize singWs.map Rx.S = ss at *
  generalize Rx.S (fstW φ) = f0 at *
  generalize R n = call at *
  cases hp : isPair φ with
  | true =>
    rw [hp] at c1
    have z := z1 hp
    generalize toD φ = d at *
    simp only [d11, b11_eq, body, denSs, denS, den, denB, denV, denP, denI, denO, denT, denTs, denF, denG, denGs, both_1, both_2, cmpB_1, cmpB_2, bind_ok, bind_exc, bind_stuck, go_ok, go_exc, go_stuck, nxt_nx, nxt_rt, nxt_bk, nxt_ct, nxt_exc, litD, List.length_cons, List.length_nil, List.map_cons, List.map_nil, List.getElem?_cons_zero, List.getElem?_cons_succ, List.cons_append, List.nil_append, List.replicate, List.set_cons_zero, List.set_cons_succ, wipeE, Nat.reduceAdd, Nat.reduceSub, Nat.reduceEqDiff, Nat.reduceLT, Nat.zero_add, if_true, if_false, Bool.false_eq_true, Bool.not_true, Bool.not_false, beq_self_eq_true, lv_pd, lv_fn, take_self, bq_ft, bq_tf, tests, toP, k1, k2, i0, c1, z]
  | false =>
    rw [hp] at c1
    cases hs : isSing φ with
    | true =>
      rw [hs] at c2
      have z := z2 hs
      generalize toD φ = d at *
      simp only [d11, b11_eq, body, denSs, denS, den, denB, denV, denP, denI, denO, denT, denTs, denF, denG, denGs, both_1, both_2, cmpB_1, cmpB_2, bind_ok, bind_exc, bind_stuck, go_ok, go_exc, go_stuck, nxt_nx, nxt_rt, nxt_bk, nxt_ct, nxt_exc, litD, List.length_cons, List.length_nil, List.map_cons, List.map_nil, List.getElem?_cons_zero, List.getElem?_cons_succ, List.cons_append, List.nil_append, List.replicate, List.set_cons_zero, List.set_cons_succ, wipeE, Nat.reduceAdd, Nat.reduceSub, Nat.reduceEqDiff, Nat.reduceLT, Nat.zero_add, if_true, if_false, Bool.false_eq_true, Bool.not_true, Bool.not_false, beq_self_eq_true, lv_pd, lv_fn, take_self, bq_ft, bq_tf, tests, toP, k1, k2, i0, c1, c2, z]
    | false =>
      rw [hs] at c2
      rw [z3 hp hs]
      generalize toD φ = d at *
      simp only [d11, b11_eq, body, denSs, denS, den, denB, denV, denP, denI, denO, denT, denTs, denF, denG, denGs, both_1, both_2, cmpB_1, cmpB_2, bind_ok, bind_exc, bind_stuck, go_ok, go_exc, go_stuck, nxt_nx, nxt_rt, nxt_bk, nxt_ct, nxt_exc, litD, List.length_cons, List.length_nil, List.map_cons, List.map_nil, List.getElem?_cons_zero, List.getElem?_cons_succ, List.cons_append, List.nil_append, List.replicate, List.set_cons_zero, List.set_cons_succ, wipeE, Nat.reduceAdd, Nat.reduceSub, Nat.reduceEqDiff, Nat.reduceLT, Nat.zero_add, if_true, if_false, Bool.false_eq_true, Bool.not_true, Bool.not_false, beq_self_eq_true, lv_pd, lv_fn, take_self, bq_ft, bq_tf, tests, toP, k1, k2, i0, c1, c2, l0]
end K61


set_option linter.all false
set_option Elab.async false
set_option maxRecDepth 100000
set_option maxHeartbeats 2000000
namespace K61
open PySem Rx
/-! the tuples of a formula, and their lines -/
theorem app_set {S : Sto} {xs ys : List D} : (S ++ [Cell.lst xs]).set S.length (.lst ys) = S ++ [.lst ys] := by
  rw [List.set_append_right _ _ (Nat.le_refl _), Nat.sub_self]
  rfl
theorem app_get (S : Sto) (c : Cell) : (S ++ [c])[S.length]? = some c := by simp
theorem v_ext_t {n : Nat} {s : Sto} {xs ys : List D} (h : s[n]? = some (.lst xs)) (hl : xs.length + ys.length ≤ line) : mthV .extend (.ref n) [.pd (.tuple ys)] s = .ok (.pd .none) (s.set n (.lst (xs ++ ys))) := by
  simp only [mthV, mth1, extC, view, h, hl, if_true]
theorem v_ext_l {n : Nat} {s : Sto} {xs ys : List D} (h : s[n]? = some (.lst xs)) (hl : xs.length + ys.length ≤ line) : mthV .extend (.ref n) [.pd (.list ys)] s = .ok (.pd .none) (s.set n (.lst (xs ++ ys))) := by
  simp only [mthV, mth1, extC, view, h, hl, if_true]
theorem height_inner {φ a : Fo} (h : a ∈ inner φ) : height a + 1 ≤ height φ := by
  cases φ <;> simp only [inner, List.mem_cons, List.not_mem_nil, or_false] at h
  case pair k x y =>
    rcases h with e | e <;> subst e <;> simp only [height] <;> omega
  all_goals (subst h; simp only [height]; omega)
theorem rows_inner {φ a : Fo} (h : a ∈ inner φ) : (rows a).length + 1 ≤ (rows φ).length ∧ ∀ ψ ∈ rows a, ψ ∈ rows φ := by
  cases φ <;> simp only [inner, List.mem_cons, List.not_mem_nil, or_false] at h
  case pair k x y =>
    rcases h with e | e <;> subst e <;> refine ⟨by simp only [rows, List.length_cons, List.length_append]; omega, fun ψ hψ => ?_⟩ <;> simp [rows, hψ]
  all_goals (subst h; refine ⟨by simp only [rows, List.length_cons]; omega, fun ψ hψ => ?_⟩; simp [rows, hψ])
theorem self_rows (φ : Fo) : φ ∈ rows φ := by rw [rows_cons]; simp
theorem inner_len (φ : Fo) : (inner φ).length ≤ 2 := by cases φ <;> simp [inner]
theorem rows_len_eq (φ : Fo) : (rows φ).length = ((inner φ).map fun a => (rows a).length).sum + 1 := by
  cases φ <;> simp [rows, inner]
/-- every tuple is right -/
def goodA (φ : Fo) : Prop := ∀ ψ ∈ rows φ, goodR ψ
theorem goodA.inner {φ a : Fo} (h : goodA φ) (ha : a ∈ inner φ) : goodA a := fun ψ hψ => h ψ ((rows_inner ha).2 ψ hψ)
theorem part_rows {φ : Fo} {i : Nat} (hi : i ≤ (inner φ).length) : (φ :: ((inner φ).take i).flatMap rows).length ≤ (rows φ).length := by
  rw [rows_cons φ, List.length_cons, List.length_cons]
  have h : (((inner φ).take i).flatMap rows).length ≤ ((inner φ).flatMap rows).length := by
    have : ((inner φ).take i).flatMap rows ++ ((inner φ).drop i).flatMap rows = (inner φ).flatMap rows := by rw [← List.flatMap_append, List.take_append_drop]
    rw [← this, List.length_append]; omega
  omega
theorem take_flat {α β : Type} (f : α → List β) {l : List α} {i : Nat} (h : i < l.length) : (l.take (i + 1)).flatMap f = (l.take i).flatMap f ++ f l[i] := by
  rw [take_snoc h, List.flatMap_append]
  simp
theorem take_snoc' {α : Type} {l : List α} {i : Nat} (h : i < l.length) : l.take (i + 1) = l.take i ++ [l[i]] := take_snoc h
theorem wTuples : ∀ (h : Nat) (φ : Fo), height φ ≤ h → goodA φ → (rows φ).length ≤ 1000 → ∀ (n : Nat) (S : Sto), h + 2 ≤ n → R n 12 [.pd (toD φ)] S = .ok (.pd (.tuple ((rows φ).map toD))) S := by
  intro h
  induction h with
  | zero => intro φ hh; cases φ <;> simp [height] at hh
  | succ h ih =>
    intro φ hh hg hr n S hn
    obtain ⟨n, rfl⟩ : ∃ m, n = m + 1 := ⟨n - 1, by omega⟩
    have ln := line_val
    have l1 := le_line 1 (by decide)
    have e0 := fun s => wInner (by omega : 1 ≤ n) φ s (hg φ (self_rows φ))
    obtain ⟨env', s', ef, o2, rfl, rfl⟩ := Rx.forL_at (f := Rx.turn kons 0 (R n) (.name 2) t12_1) (all := (inner φ).map toD)
      (fun i env s => ∃ o2 : Option Dv, env = [some (.pd (toD φ)), some (.ref S.length), o2] ∧ s = S ++ [.lst ((φ :: ((inner φ).take i).flatMap rows).map toD)])
      (env := [some (.pd (toD φ)), some (.ref S.length), none]) (s := S ++ [.lst [toD φ]]) ⟨none, rfl, by simp⟩
      (fun i hi env s ⟨o2, he, hs⟩ => by
        rw [List.length_map] at hi
        have hm : (inner φ)[i] ∈ inner φ := List.getElem_mem hi
        have hp := part_rows (φ := φ) (i := i + 1) (by omega)
        have hin := height_inner hm
        have hr1 := rows_inner hm
        have e1 := ih (inner φ)[i] (by omega) (hg.inner hm) (by omega) n s (by omega)
        have hget : s[S.length]? = some (.lst ((φ :: ((inner φ).take i).flatMap rows).map toD)) := by rw [hs]; simp
        have e2 := v_ext_t (ys := (rows (inner φ)[i]).map toD) hget (by
          rw [take_flat rows hi] at hp
          simp only [List.length_map, List.length_cons, List.length_append] at hp ⊢
          omega)
        have tp := Rx.t_ext hget
        rw [List.getElem_map]
        refine ⟨[some (.pd (toD φ)), some (.ref S.length), some (.pd (toD (inner φ)[i]))], s.set S.length (.lst ((φ :: ((inner φ).take i).flatMap rows).map toD ++ (rows (inner φ)[i]).map toD)), .inl ?_, _, rfl, ?_⟩
        · rw [he]
          generalize toD (inner φ)[i] = d1 at *
          generalize (rows (inner φ)[i]).map toD = ds at *
          generalize R n = call at *
          generalize toD φ = d0 at *
          simp only [Rx.turn, t12_1, body, denSs, denS, den, denB, denV, denP, denI, denO, denT, denTs, denF, denG, denGs, both_1, both_2, cmpB_1, cmpB_2, bind_ok, bind_exc, bind_stuck, go_ok, go_exc, go_stuck, nxt_nx, nxt_rt, nxt_bk, nxt_ct, nxt_exc, litD, List.length_cons, List.length_nil, List.map_cons, List.map_nil, List.getElem?_cons_zero, List.getElem?_cons_succ, List.cons_append, List.nil_append, List.replicate, List.set_cons_zero, List.set_cons_succ, wipeE, Nat.reduceAdd, Nat.reduceSub, Nat.reduceEqDiff, Nat.reduceLT, Nat.zero_add, if_true, if_false, Bool.false_eq_true, Bool.not_true, Bool.not_false, beq_self_eq_true, lv_pd, lv_fn, take_self, bq_ft, bq_tf, tests, toP, tp, e1, e2]
        · rw [hs, app_set, take_flat rows hi]
          simp)
    rw [List.length_map, List.take_length, ← rows_cons φ] at *
    have efo := Rx.fo_ok (C := kons) (call := R n) (t := .name 2) (b := t12_1) (it := .val (.call 11 (.cons (.var 0) .nil))) (env := [some (.pd (toD φ)), some (.ref S.length), none]) (s := S ++ [.lst [toD φ]]) (s' := S ++ [.lst [toD φ]]) (xs := (inner φ).map toD) (Rx.it_val (v := .pd (.tuple ((inner φ).map toD))) (s' := S ++ [.lst [toD φ]]) (by
      have e := e0 (S ++ [.lst [toD φ]])
      generalize R n = call at *
      generalize (inner φ).map toD = ds at *
      generalize toD φ = d0 at *
      simp only [body, denSs, denS, den, denB, denV, denP, denI, denO, denT, denTs, denF, denG, denGs, both_1, both_2, cmpB_1, cmpB_2, bind_ok, bind_exc, bind_stuck, go_ok, go_exc, go_stuck, nxt_nx, nxt_rt, nxt_bk, nxt_ct, nxt_exc, litD, List.length_cons, List.length_nil, List.map_cons, List.map_nil, List.getElem?_cons_zero, List.getElem?_cons_succ, List.cons_append, List.nil_append, List.replicate, List.set_cons_zero, List.set_cons_succ, wipeE, Nat.reduceAdd, Nat.reduceSub, Nat.reduceEqDiff, Nat.reduceLT, Nat.zero_add, if_true, if_false, Bool.false_eq_true, Bool.not_true, Bool.not_false, beq_self_eq_true, lv_pd, lv_fn, take_self, bq_ft, bq_tf, tests, toP, e]) rfl) ef
    have efo : denS kons 0 (R n) s12_1 [some (.pd (toD φ)), some (.ref S.length), none] (S ++ [.lst [toD φ]]) = _ := efo
    rw [R_eq (d := d12) rfl]
    have ft := Rx.f_tup_r (app_get S (.lst ((rows φ).map toD)))
    generalize (rows φ).map toD = ds at *
    generalize toD φ = d0 at *
    generalize R n = call at *
    clear e0 ef ih
    simp only [d12, b12_eq, body, denSs, denS, den, denB, denV, denP, denI, denO, denT, denTs, denF, denG, denGs, both_1, both_2, cmpB_1, cmpB_2, bind_ok, bind_exc, bind_stuck, go_ok, go_exc, go_stuck, nxt_nx, nxt_rt, nxt_bk, nxt_ct, nxt_exc, litD, List.length_cons, List.length_nil, List.map_cons, List.map_nil, List.getElem?_cons_zero, List.getElem?_cons_succ, List.cons_append, List.nil_append, List.replicate, List.set_cons_zero, List.set_cons_succ, wipeE, Nat.reduceAdd, Nat.reduceSub, Nat.reduceEqDiff, Nat.reduceLT, Nat.zero_add, if_true, if_false, Bool.false_eq_true, Bool.not_true, Bool.not_false, beq_self_eq_true, lv_pd, lv_fn, take_self, bq_ft, bq_tf, tests, toP, newL, l1, efo, ft]
    simp
end K61


set_option linter.all false
set_option Elab.async false
set_option maxRecDepth 100000
set_option maxHeartbeats 2000000
namespace K61
open PySem Rx
/-! lines of formulas, as the program writes them -/
/-- the members behind the formulas of a tuple -/
def nums : Fo → List D
  | .name w => [Rx.S w]
  | .times _ k => [.int k]
  | .divided _ k => [.int k]
  | .wher _ lo hi => [intD lo, intD hi]
  | .moved _ k => [.int k]
  | _ => []
def okM (x : D) : Prop := match x with
  | .none => True
  | .int i => sm i
  | .str s => s.length ≤ line
  | _ => False
def txM (x : D) : W := match x with
  | .int i => strI i
  | .str s => s.cps.toList
  | _ => wNone
theorem wMember {n : Nat} (hn : 2 ≤ n) (x : D) (S : Sto) (h : okM x) : R n 27 [.pd x] S = .ok (.pd (Rx.S (txM x))) S := by
  obtain ⟨n, rfl⟩ : ∃ m, n = m + 1 := ⟨n - 1, by omega⟩
  rw [R_eq (d := d27) rfl]
  cases x with
  | none =>
    have e := wOptWord (by omega : 1 ≤ n) none S (by intro i hi; cases hi)
    have e : R n 16 [.pd .none, .pd (Rx.S [110, 111, 110, 101])] S = _ := e
    generalize R n = call at *
    simp only [d27, b27_eq, body, denSs, denS, den, denB, denV, denP, denI, denO, denT, denTs, denF, denG, denGs, both_1, both_2, cmpB_1, cmpB_2, bind_ok, bind_exc, bind_stuck, go_ok, go_exc, go_stuck, nxt_nx, nxt_rt, nxt_bk, nxt_ct, nxt_exc, litD, List.length_cons, List.length_nil, List.map_cons, List.map_nil, List.getElem?_cons_zero, List.getElem?_cons_succ, List.cons_append, List.nil_append, List.replicate, List.set_cons_zero, List.set_cons_succ, wipeE, Nat.reduceAdd, Nat.reduceSub, Nat.reduceEqDiff, Nat.reduceLT, Nat.zero_add, if_true, if_false, Bool.false_eq_true, Bool.not_true, Bool.not_false, beq_self_eq_true, lv_pd, lv_fn, take_self, bq_ft, bq_tf, tests, toP, isiV, isOf, view, tr_bool, e, txM, wordO]
  | int i =>
    have e := wOptWord (by omega : 1 ≤ n) (some i) S (by intro j hj; cases hj; exact h)
    have e : R n 16 [.pd (.int i), .pd (Rx.S [110, 111, 110, 101])] S = _ := e
    generalize R n = call at *
    simp only [d27, b27_eq, body, denSs, denS, den, denB, denV, denP, denI, denO, denT, denTs, denF, denG, denGs, both_1, both_2, cmpB_1, cmpB_2, bind_ok, bind_exc, bind_stuck, go_ok, go_exc, go_stuck, nxt_nx, nxt_rt, nxt_bk, nxt_ct, nxt_exc, litD, List.length_cons, List.length_nil, List.map_cons, List.map_nil, List.getElem?_cons_zero, List.getElem?_cons_succ, List.cons_append, List.nil_append, List.replicate, List.set_cons_zero, List.set_cons_succ, wipeE, Nat.reduceAdd, Nat.reduceSub, Nat.reduceEqDiff, Nat.reduceLT, Nat.zero_add, if_true, if_false, Bool.false_eq_true, Bool.not_true, Bool.not_false, beq_self_eq_true, lv_pd, lv_fn, take_self, bq_ft, bq_tf, tests, toP, isiV, isOf, view, tr_bool, e, txM, wordO]
  | str s =>
    generalize R n = call at *
    simp only [d27, b27_eq, body, denSs, denS, den, denB, denV, denP, denI, denO, denT, denTs, denF, denG, denGs, both_1, both_2, cmpB_1, cmpB_2, bind_ok, bind_exc, bind_stuck, go_ok, go_exc, go_stuck, nxt_nx, nxt_rt, nxt_bk, nxt_ct, nxt_exc, litD, List.length_cons, List.length_nil, List.map_cons, List.map_nil, List.getElem?_cons_zero, List.getElem?_cons_succ, List.cons_append, List.nil_append, List.replicate, List.set_cons_zero, List.set_cons_succ, wipeE, Nat.reduceAdd, Nat.reduceSub, Nat.reduceEqDiff, Nat.reduceLT, Nat.zero_add, if_true, if_false, Bool.false_eq_true, Bool.not_true, Bool.not_false, beq_self_eq_true, lv_pd, lv_fn, take_self, bq_ft, bq_tf, tests, toP, isiV, isOf, view, tr_bool, txM]
    rfl
  | _ => exact h.elim
theorem nameW_len {w : W} (h : nameW w = true) : w.length ≤ 12 := by
  simp only [nameW, Bool.and_eq_true, decide_eq_true_eq] at h
  exact h.1.2
theorem sm_1000 {k : Int} (h : 1 ≤ k ∧ k ≤ 1000) : sm k := by
  have : (TL.numL k.natAbs).length ≤ 4 := by
    have : ∀ m, m ≤ 1000 → (TL.numL m).length ≤ 4 := by decide +kernel
    exact this k.natAbs (by omega)
  unfold sm strI
  rw [if_pos (by omega)]
  omega
theorem nums_ok {φ : Fo} (h : goodR φ) : ∀ x ∈ nums φ, okM x := by
  have o : ∀ {o : OI}, smO o → okM (intD o) := fun {o} q => by
    cases o with
    | none => trivial
    | some i => exact q i rfl
  cases φ with
  | name w =>
    intro x hx
    simp only [nums, List.mem_cons, List.not_mem_nil, or_false] at hx
    subst hx
    show Str.length _ ≤ line
    rw [S_len]
    have := nameW_len h
    exact le_line _ (by omega)
  | times a k => intro x hx; simp only [nums, List.mem_cons, List.not_mem_nil, or_false] at hx; subst hx; exact h
  | divided a k => intro x hx; simp only [nums, List.mem_cons, List.not_mem_nil, or_false] at hx; subst hx; exact sm_1000 h
  | wher a lo hi =>
    intro x hx
    simp only [nums, List.mem_cons, List.not_mem_nil, or_false] at hx
    rcases hx with e | e <;> subst e
    · exact o h.1
    · exact o h.2
  | moved a k => intro x hx; simp only [nums, List.mem_cons, List.not_mem_nil, or_false] at hx; subst hx; exact h
  | _ => intro x hx; simp [nums] at hx
theorem row_words {φ : Fo} (h1 : ∀ f, φ ≠ .form f) (h2 : ∀ vs, φ ≠ .few vs) : rowWs φ = fstW φ :: (nums φ).map txM := by
  cases φ with
  | form f => exact absurd rfl (h1 f)
  | few vs => exact absurd rfl (h2 vs)
  | wher a lo hi => cases lo <;> cases hi <;> rfl
  | _ => rfl
theorem rowWs_ok {φ : Fo} (h : goodR φ) : ∀ w ∈ rowWs φ, wordOk w ∧ w.length ≤ 40 := by
  have fix : ∀ {w : W}, (w ≠ [] ∧ ∀ c ∈ w, 33 ≤ c ∧ c ≤ 126) → w.length ≤ 40 → wordOk w ∧ w.length ≤ 40 := fun a b => ⟨a, b⟩
  have nw : ∀ {w : W}, nameW w = true → wordOk w ∧ w.length ≤ 40 := fun {w} q => by
    have q2 := q
    simp only [nameW, Bool.and_eq_true, decide_eq_true_eq, List.all_eq_true] at q2
    exact ⟨⟨by rintro rfl; simp at q2, fun c hc => by have := q2.2 c hc; omega⟩, by omega⟩
  cases φ with
  | form f => intro w hw; simp [rowWs] at hw
  | name v =>
    intro w hw
    simp only [rowWs, List.mem_cons, List.not_mem_nil, or_false] at hw
    rcases hw with e | e <;> subst e
    · exact ⟨⟨by decide, by decide⟩, by decide⟩
    · exact nw h
  | few vs =>
    intro w hw
    rcases List.mem_cons.mp hw with e | hw
    · subst e; exact ⟨⟨by decide, by decide⟩, by decide⟩
    · obtain ⟨v, hv, rfl⟩ := List.mem_map.mp hw
      exact ⟨(strI_ok v).1, sm_1000 (h.2.1 v hv)⟩
  | pair k a b =>
    intro w hw
    simp only [rowWs, List.mem_cons, List.not_mem_nil, or_false] at hw
    subst hw
    have := pw_lt k h
    exact ⟨this.2.2, by omega⟩
  | times a k =>
    intro w hw
    simp only [rowWs, List.mem_cons, List.not_mem_nil, or_false] at hw
    rcases hw with e | e <;> subst e
    · exact ⟨⟨by decide, by decide⟩, by decide⟩
    · exact ⟨(strI_ok k).1, h⟩
  | divided a k =>
    intro w hw
    simp only [rowWs, List.mem_cons, List.not_mem_nil, or_false] at hw
    rcases hw with e | e <;> subst e
    · exact ⟨⟨by decide, by decide⟩, by decide⟩
    · exact ⟨(strI_ok k).1, sm_1000 h⟩
  | wher a lo hi =>
    intro w hw
    simp only [rowWs, List.mem_cons, List.not_mem_nil, or_false] at hw
    rcases hw with e | e | e <;> subst e
    · exact ⟨⟨by decide, by decide⟩, by decide⟩
    · exact ⟨wordO_ok lo, wordO_len h.1⟩
    · exact ⟨wordO_ok hi, wordO_len h.2⟩
  | moved a k =>
    intro w hw
    simp only [rowWs, List.mem_cons, List.not_mem_nil, or_false] at hw
    rcases hw with e | e <;> subst e
    · exact ⟨⟨by decide, by decide⟩, by decide⟩
    · exact ⟨(strI_ok k).1, h⟩
  | frm a =>
    intro w hw
    simp only [rowWs, List.mem_cons, List.not_mem_nil, or_false] at hw
    subst hw
    exact ⟨⟨by decide, by decide⟩, by decide⟩
theorem rowWs_len {φ : Fo} (h : goodR φ) : (rowWs φ).length ≤ 13 := by
  cases φ <;> simp only [rowWs, List.length_cons, List.length_nil, List.length_map] <;> try omega
  have := h.1.2
  omega
theorem rowJ {φ : Fo} (h : goodR φ) (S : Sto) : mthV .join (.pd (Rx.S [32])) [.pd (.list ((rowWs φ).map Rx.S))] S = .ok (.pd (Rx.S (TL.joinL [32] (rowWs φ)))) S :=
  Rx.jj (k := 40) (m := 13) _ (fun w hw => (rowWs_ok h w hw).2) (rowWs_len h) (by decide)
/-- the part of the tuple behind its formulas -/
theorem slc_nums {φ : Fo} (h1 : ∀ f, φ ≠ .form f) (h2 : ∀ vs, φ ≠ .few vs) (S : Sto) : slcI (.pd (toD φ)) (some (1 + (((inner φ).map toD).length : Int))) none S = .ok (.pd (.tuple (nums φ))) S := by
  rw [toD_eq, Rx.z_t, Rx.cut_from _ (by omega), List.length_map]
  have : (1 + ((inner φ).length : Int)).toNat = (inner φ).length + 1 := by omega
  rw [this, List.drop_succ_cons]
  cases φ with
  | form f => exact absurd rfl (h1 f)
  | few vs => exact absurd rfl (h2 vs)
  | _ => rfl
theorem wRowLines {n : Nat} (hn : 3 ≤ n) (φ : Fo) (S : Sto) (h : goodR φ) : R n 26 [.pd (toD φ)] S = .ok (.pd (.list ((rowLs φ).map Rx.S))) S := by
  obtain ⟨n, rfl⟩ : ∃ m, n = m + 1 := ⟨n - 1, by omega⟩
  have ln := line_val
  have l1 := le_line 1 (by decide)
  have i0 : ∀ s, idxV (.pd (toD φ)) (.pd (.int 0)) s = .ok (.pd (Rx.S (fstW φ))) s := fun s => by rw [toD_eq]; exact Rx.i_t (s := s) (by decide) rfl
  have c1 : ∀ s, cmpV .eq (.pd (Rx.S (fstW φ))) (.pd (Rx.S [102, 111, 114, 109])) s = .ok (decide (fstW φ = wForm)) s := fun s => Rx.c_eq_S _ _
  have c2 : ∀ s, cmpV .eq (.pd (Rx.S (fstW φ))) (.pd (Rx.S [102, 101, 119, 101, 115, 116])) s = .ok (decide (fstW φ = wFew)) s := fun s => Rx.c_eq_S _ _
  rw [R_eq (d := d26) rfl]
  by_cases hf : ∃ f, φ = .form f
  · obtain ⟨f, rfl⟩ := hf
    have e := wFormLines (by omega : 2 ≤ n) f S h
    have i1 : idxV (.pd (toD (.form f))) (.pd (.int 1)) S = .ok (.pd (fmD f)) S := Rx.i_t (s := S) (by decide) rfl
    have q : decide (fstW (.form f) = wForm) = true := rfl
    rw [q] at c1
    show _ = Res.ok (Dv.pd (.list [Rx.S (headW f), Rx.S (tailW f)])) S
    generalize Rx.S (fstW (.form f)) = f0 at *
    generalize toD (.form f) = d0 at *
    generalize R n = call at *
    simp only [d26, b26_eq, body, denSs, denS, den, denB, denV, denP, denI, denO, denT, denTs, denF, denG, denGs, both_1, both_2, cmpB_1, cmpB_2, bind_ok, bind_exc, bind_stuck, go_ok, go_exc, go_stuck, nxt_nx, nxt_rt, nxt_bk, nxt_ct, nxt_exc, litD, List.length_cons, List.length_nil, List.map_cons, List.map_nil, List.getElem?_cons_zero, List.getElem?_cons_succ, List.cons_append, List.nil_append, List.replicate, List.set_cons_zero, List.set_cons_succ, wipeE, Nat.reduceAdd, Nat.reduceSub, Nat.reduceEqDiff, Nat.reduceLT, Nat.zero_add, if_true, if_false, Bool.false_eq_true, Bool.not_true, Bool.not_false, beq_self_eq_true, lv_pd, lv_fn, take_self, bq_ft, bq_tf, tests, toP, i0, i1, c1, e]
  · by_cases hv : ∃ vs, φ = .few vs
    · obtain ⟨vs, rfl⟩ := hv
      have i1 : idxV (.pd (toD (.few vs))) (.pd (.int 1)) S = .ok (.pd (.tuple (vs.map .int))) S := Rx.i_t (s := S) (by decide) rfl
      have q1 : decide (fstW (.few vs) = wForm) = false := rfl
      have q2 : decide (fstW (.few vs) = wFew) = true := rfl
      rw [q1] at c1
      rw [q2] at c2
      have lc : ∀ v1 v2 v3, (den kons (R n) l26_1).1 [some (.pd (toD (.few vs))), v1, v2, v3] S = .ok (.pd (.list (vs.map fun v => Rx.S (strI v)))) S := fun v1 v2 v3 => by
        refine Rx.lc_map (xs := vs) .int (fun v => Rx.S (strI v)) ?_ (fun v hv => ?_) (by have := h.1.2; omega)
        · refine Rx.it_val (v := .pd (.tuple (vs.map .int))) (s' := S) ?_ rfl
          generalize toD (.few vs) = d0 at *
          generalize R n = call
          simp only [body, denSs, denS, den, denB, denV, denP, denI, denO, denT, denTs, denF, denG, denGs, both_1, both_2, cmpB_1, cmpB_2, bind_ok, bind_exc, bind_stuck, go_ok, go_exc, go_stuck, nxt_nx, nxt_rt, nxt_bk, nxt_ct, nxt_exc, litD, List.length_cons, List.length_nil, List.map_cons, List.map_nil, List.getElem?_cons_zero, List.getElem?_cons_succ, List.cons_append, List.nil_append, List.replicate, List.set_cons_zero, List.set_cons_succ, wipeE, Nat.reduceAdd, Nat.reduceSub, Nat.reduceEqDiff, Nat.reduceLT, Nat.zero_add, if_true, if_false, Bool.false_eq_true, Bool.not_true, Bool.not_false, beq_self_eq_true, lv_pd, lv_fn, take_self, bq_ft, bq_tf, tests, toP, i1]
        · have e := f_str_i (sm_1000 (h.2.1 v hv)) S
          generalize R n = call
          simp only [Rx.lcT, body, denSs, denS, den, denB, denV, denP, denI, denO, denT, denTs, denF, denG, denGs, both_1, both_2, cmpB_1, cmpB_2, bind_ok, bind_exc, bind_stuck, go_ok, go_exc, go_stuck, nxt_nx, nxt_rt, nxt_bk, nxt_ct, nxt_exc, litD, List.length_cons, List.length_nil, List.map_cons, List.map_nil, List.getElem?_cons_zero, List.getElem?_cons_succ, List.cons_append, List.nil_append, List.replicate, List.set_cons_zero, List.set_cons_succ, wipeE, Nat.reduceAdd, Nat.reduceSub, Nat.reduceEqDiff, Nat.reduceLT, Nat.zero_add, if_true, if_false, Bool.false_eq_true, Bool.not_true, Bool.not_false, beq_self_eq_true, lv_pd, lv_fn, take_self, bq_ft, bq_tf, tests, toP, e]
      have hm : (vs.map fun v => Rx.S (strI v)) = (vs.map strI).map Rx.S := by rw [List.map_map]; rfl
      rw [hm] at lc
      have a1 : binV .add (.pd (.list [Rx.S [102, 101, 119, 101, 115, 116]])) (.pd (.list ((vs.map strI).map Rx.S))) S = .ok (.pd (.list ((rowWs (.few vs)).map Rx.S))) S := a_add_l (s := S) _ _ (by have := h.1.2; simp only [List.length_map, List.length_cons, List.length_nil]; omega)
      have j1 := rowJ h S
      show _ = Res.ok (Dv.pd (.list [Rx.S (TL.joinL [32] (rowWs (.few vs)))])) S
      generalize (rowWs (.few vs)).map Rx.S = xs at *
      generalize (vs.map strI).map Rx.S = ys at *
      generalize TL.joinL [32] (rowWs (.few vs)) = tx at *
      generalize Rx.S (fstW (.few vs)) = f0 at *
      generalize toD (.few vs) = d0 at *
      generalize R n = call at *
      simp only [d26, b26_eq, body, denSs, denS, den, denB, denV, denP, denI, denO, denT, denTs, denF, denG, denGs, both_1, both_2, cmpB_1, cmpB_2, bind_ok, bind_exc, bind_stuck, go_ok, go_exc, go_stuck, nxt_nx, nxt_rt, nxt_bk, nxt_ct, nxt_exc, litD, List.length_cons, List.length_nil, List.map_cons, List.map_nil, List.getElem?_cons_zero, List.getElem?_cons_succ, List.cons_append, List.nil_append, List.replicate, List.set_cons_zero, List.set_cons_succ, wipeE, Nat.reduceAdd, Nat.reduceSub, Nat.reduceEqDiff, Nat.reduceLT, Nat.zero_add, if_true, if_false, Bool.false_eq_true, Bool.not_true, Bool.not_false, beq_self_eq_true, lv_pd, lv_fn, take_self, bq_ft, bq_tf, tests, toP, newL, l1, i0, c1, c2, lc, a1, Rx.t_joi, j1]
    · have q1 : decide (fstW φ = wForm) = false := by
        cases φ with
        | form f => exact absurd ⟨f, rfl⟩ hf
        | pair k a b => exact (show ∀ k < 7, decide (pw k = wForm) = false by decide) k h
        | _ => rfl
      have q2 : decide (fstW φ = wFew) = false := by
        cases φ with
        | few f => exact absurd ⟨f, rfl⟩ hv
        | pair k a b => exact (show ∀ k < 7, decide (pw k = wFew) = false by decide) k h
        | _ => rfl
      rw [q1] at c1
      rw [q2] at c2
      have e1 := wInner (by omega : 1 ≤ n) φ S h
      have z1 := slc_nums (fun f e => hf ⟨f, e⟩) (fun vs e => hv ⟨vs, e⟩) S
      have hnm := nums_ok h
      have hnl : (nums φ).length ≤ 2 := by cases φ <;> simp [nums]
      have lc : ∀ v2 v3, (den kons (R n) l26_2).1 [some (.pd (toD φ)), some (.pd (.tuple (nums φ))), v2, v3] S = .ok (.pd (.list ((nums φ).map fun x => Rx.S (txM x)))) S := fun v2 v3 => by
        refine Rx.lc_map (xs := nums φ) id (fun x => Rx.S (txM x)) (by rw [List.map_id]; rfl) (fun x hx => ?_) (by omega)
        have e := wMember (by omega : 2 ≤ n) x S (hnm x hx)
        generalize R n = call at *
        simp only [Rx.lcT, id, body, denSs, denS, den, denB, denV, denP, denI, denO, denT, denTs, denF, denG, denGs, both_1, both_2, cmpB_1, cmpB_2, bind_ok, bind_exc, bind_stuck, go_ok, go_exc, go_stuck, nxt_nx, nxt_rt, nxt_bk, nxt_ct, nxt_exc, litD, List.length_cons, List.length_nil, List.map_cons, List.map_nil, List.getElem?_cons_zero, List.getElem?_cons_succ, List.cons_append, List.nil_append, List.replicate, List.set_cons_zero, List.set_cons_succ, wipeE, Nat.reduceAdd, Nat.reduceSub, Nat.reduceEqDiff, Nat.reduceLT, Nat.zero_add, if_true, if_false, Bool.false_eq_true, Bool.not_true, Bool.not_false, beq_self_eq_true, lv_pd, lv_fn, take_self, bq_ft, bq_tf, tests, toP, e]
      have hm : ((nums φ).map fun x => Rx.S (txM x)) = ((nums φ).map txM).map Rx.S := by rw [List.map_map]; rfl
      rw [hm] at lc
      have a1 : binV .add (.pd (.list [Rx.S (fstW φ)])) (.pd (.list (((nums φ).map txM).map Rx.S))) S = .ok (.pd (.list ((rowWs φ).map Rx.S))) S := by
        rw [row_words (fun f e => hf ⟨f, e⟩) (fun vs e => hv ⟨vs, e⟩)]
        exact a_add_l (s := S) _ _ (by simp only [List.length_map, List.length_cons, List.length_nil]; omega)
      have j1 := rowJ h S
      have hr : rowLs φ = [TL.joinL [32] (rowWs φ)] := by
        cases φ with
        | form f => exact absurd ⟨f, rfl⟩ hf
        | _ => rfl
      rw [hr, List.map_cons, List.map_nil]
      have fl := Rx.f_len_t (s := S) ((inner φ).map toD)
      generalize (rowWs φ).map Rx.S = xs at *
      generalize ((nums φ).map txM).map Rx.S = ys at *
      generalize TL.joinL [32] (rowWs φ) = tx at *
      generalize Rx.S (fstW φ) = f0 at *
      generalize (inner φ).map toD = ins at *
      generalize nums φ = nm at *
      generalize toD φ = d0 at *
      generalize R n = call at *
      simp only [d26, b26_eq, body, denSs, denS, den, denB, denV, denP, denI, denO, denT, denTs, denF, denG, denGs, both_1, both_2, cmpB_1, cmpB_2, bind_ok, bind_exc, bind_stuck, go_ok, go_exc, go_stuck, nxt_nx, nxt_rt, nxt_bk, nxt_ct, nxt_exc, litD, List.length_cons, List.length_nil, List.map_cons, List.map_nil, List.getElem?_cons_zero, List.getElem?_cons_succ, List.cons_append, List.nil_append, List.replicate, List.set_cons_zero, List.set_cons_succ, wipeE, Nat.reduceAdd, Nat.reduceSub, Nat.reduceEqDiff, Nat.reduceLT, Nat.zero_add, if_true, if_false, Bool.false_eq_true, Bool.not_true, Bool.not_false, beq_self_eq_true, lv_pd, lv_fn, take_self, bq_ft, bq_tf, tests, toP, newL, l1, i0, c1, c2, e1, fl, a_add_i, z1, lc, a1, Rx.t_joi, j1]
end K61


set_option linter.all false
set_option Elab.async false
set_option maxRecDepth 100000
set_option maxHeartbeats 2000000
namespace K61
open PySem Rx
/-! texts of formulas -/
theorem rowLs_len (φ : Fo) : (rowLs φ).length ≤ 2 := by cases φ <;> simp [rowLs]
theorem flat_len : ∀ l : List Fo, (l.flatMap rowLs).length ≤ 2 * l.length
  | [] => by simp
  | a :: l => by
    have h1 := rowLs_len a
    have h2 := flat_len l
    rw [List.flatMap_cons, List.length_append, List.length_cons]
    omega
theorem wFormulaLines {n : Nat} (φ : Fo) (S : Sto) (hg : goodA φ) (hr : (rows φ).length ≤ 1000) (hn : height φ + 4 ≤ n) : R n 28 [.pd (toD φ)] S = .ok (.pd (.list ((lines φ).map Rx.S))) S := by
  obtain ⟨n, rfl⟩ : ∃ m, n = m + 1 := ⟨n - 1, by omega⟩
  have ln := line_val
  have l0 : 0 ≤ line := Nat.zero_le _
  have e0 := fun s => wTuples (height φ) φ (Nat.le_refl _) hg hr n s (by omega)
  obtain ⟨env', s', ef, o2, rfl, rfl⟩ := Rx.forL_at (f := Rx.turn kons 0 (R n) (.name 2) t28_1) (all := (rows φ).map toD)
    (fun i env s => ∃ o2 : Option Dv, env = [some (.pd (toD φ)), some (.ref S.length), o2] ∧ s = S ++ [.lst ((((rows φ).take i).flatMap rowLs).map Rx.S)])
    (env := [some (.pd (toD φ)), some (.ref S.length), none]) (s := S ++ [.lst []]) ⟨none, rfl, by simp⟩
    (fun i hi env s ⟨o2, he, hs⟩ => by
      rw [List.length_map] at hi
      have hm : (rows φ)[i] ∈ rows φ := List.getElem_mem hi
      have e1 := wRowLines (by omega : 3 ≤ n) (rows φ)[i] s (hg _ hm)
      have hget : s[S.length]? = some (.lst ((((rows φ).take i).flatMap rowLs).map Rx.S)) := by rw [hs]; simp
      have hp := flat_len ((rows φ).take i)
      have hq := rowLs_len (rows φ)[i]
      have e2 := v_ext_l (ys := (rowLs (rows φ)[i]).map Rx.S) hget (by
        rw [List.length_take] at hp
        rw [List.length_map, List.length_map]
        omega)
      have tp := Rx.t_ext hget
      rw [List.getElem_map]
      refine ⟨[some (.pd (toD φ)), some (.ref S.length), some (.pd (toD (rows φ)[i]))], s.set S.length (.lst ((((rows φ).take i).flatMap rowLs).map Rx.S ++ (rowLs (rows φ)[i]).map Rx.S)), .inl ?_, _, rfl, ?_⟩
      · rw [he]
        generalize toD (rows φ)[i] = d1 at *
        generalize (rowLs (rows φ)[i]).map Rx.S = ds at *
        generalize R n = call at *
        generalize toD φ = d0 at *
        simp only [Rx.turn, t28_1, body, denSs, denS, den, denB, denV, denP, denI, denO, denT, denTs, denF, denG, denGs, both_1, both_2, cmpB_1, cmpB_2, bind_ok, bind_exc, bind_stuck, go_ok, go_exc, go_stuck, nxt_nx, nxt_rt, nxt_bk, nxt_ct, nxt_exc, litD, List.length_cons, List.length_nil, List.map_cons, List.map_nil, List.getElem?_cons_zero, List.getElem?_cons_succ, List.cons_append, List.nil_append, List.replicate, List.set_cons_zero, List.set_cons_succ, wipeE, Nat.reduceAdd, Nat.reduceSub, Nat.reduceEqDiff, Nat.reduceLT, Nat.zero_add, if_true, if_false, Bool.false_eq_true, Bool.not_true, Bool.not_false, beq_self_eq_true, lv_pd, lv_fn, take_self, bq_ft, bq_tf, tests, toP, tp, e1, e2]
      · rw [hs, app_set, take_flat rowLs hi, List.map_append])
  rw [List.length_map, List.take_length] at *
  have efo := Rx.fo_ok (C := kons) (call := R n) (t := .name 2) (b := t28_1) (it := .val (.call 12 (.cons (.var 0) .nil))) (env := [some (.pd (toD φ)), some (.ref S.length), none]) (s := S ++ [.lst []]) (s' := S ++ [.lst []]) (xs := (rows φ).map toD) (Rx.it_val (v := .pd (.tuple ((rows φ).map toD))) (s' := S ++ [.lst []]) (by
    have e := e0 (S ++ [.lst []])
    generalize R n = call at *
    generalize (rows φ).map toD = ds at *
    generalize toD φ = d0 at *
    simp only [body, denSs, denS, den, denB, denV, denP, denI, denO, denT, denTs, denF, denG, denGs, both_1, both_2, cmpB_1, cmpB_2, bind_ok, bind_exc, bind_stuck, go_ok, go_exc, go_stuck, nxt_nx, nxt_rt, nxt_bk, nxt_ct, nxt_exc, litD, List.length_cons, List.length_nil, List.map_cons, List.map_nil, List.getElem?_cons_zero, List.getElem?_cons_succ, List.cons_append, List.nil_append, List.replicate, List.set_cons_zero, List.set_cons_succ, wipeE, Nat.reduceAdd, Nat.reduceSub, Nat.reduceEqDiff, Nat.reduceLT, Nat.zero_add, if_true, if_false, Bool.false_eq_true, Bool.not_true, Bool.not_false, beq_self_eq_true, lv_pd, lv_fn, take_self, bq_ft, bq_tf, tests, toP, e]) rfl) ef
  replace efo : denS kons 0 (R n) s28_1 [some (.pd (toD φ)), some (.ref S.length), none] (S ++ [.lst []]) = _ := efo
  rw [R_eq (d := d28) rfl]
  have hl : ((rows φ).flatMap rowLs).map Rx.S = (lines φ).map Rx.S := rfl
  rw [hl] at efo
  generalize (lines φ).map Rx.S = ds at *
  generalize toD φ = d0 at *
  generalize R n = call at *
  clear e0 ef
  simp only [d28, b28_eq, body, denSs, denS, den, denB, denV, denP, denI, denO, denT, denTs, denF, denG, denGs, both_1, both_2, cmpB_1, cmpB_2, bind_ok, bind_exc, bind_stuck, go_ok, go_exc, go_stuck, nxt_nx, nxt_rt, nxt_bk, nxt_ct, nxt_exc, litD, List.length_cons, List.length_nil, List.map_cons, List.map_nil, List.getElem?_cons_zero, List.getElem?_cons_succ, List.cons_append, List.nil_append, List.replicate, List.set_cons_zero, List.set_cons_succ, wipeE, Nat.reduceAdd, Nat.reduceSub, Nat.reduceEqDiff, Nat.reduceLT, Nat.zero_add, if_true, if_false, Bool.false_eq_true, Bool.not_true, Bool.not_false, beq_self_eq_true, lv_pd, lv_fn, take_self, bq_ft, bq_tf, tests, toP, newL, l0, efo]
  simp [leave]
def wFormula : W := [102, 111, 114, 109, 117, 108, 97]
def foLs (φ : Fo) : List W := wFormula :: (lines φ ++ [wEnd])
def foT (φ : Fo) : W := TL.joinL [10] (foLs φ)
/-- small enough for a text -/
def fits (φ : Fo) : Prop := (rows φ).length ≤ 40 ∧ ∀ l ∈ lines φ, l.length ≤ 100000
theorem lines_len (φ : Fo) : (lines φ).length ≤ 2 * (rows φ).length := flat_len _
theorem foLs_bnd {φ : Fo} (h : fits φ) : (∀ l ∈ foLs φ, l.length ≤ 100000) ∧ (foLs φ).length ≤ 82 := by
  refine ⟨fun l hl => ?_, ?_⟩
  · rcases List.mem_cons.mp hl with e | hl
    · rw [e]; decide
    · rcases List.mem_append.mp hl with hl | hl
      · exact h.2 l hl
      · rw [List.mem_singleton] at hl; rw [hl]; decide
  · have := lines_len φ
    have := h.1
    simp only [foLs, List.length_cons, List.length_append, List.length_nil]
    omega
theorem foT_len {φ : Fo} (h : fits φ) : (foT φ).length ≤ 8300000 := by
  have h1 := Rx.joinL_bnd 10 100000 (foLs φ) (foLs_bnd h).1
  have h2 := (foLs_bnd h).2
  unfold foT
  omega
theorem rowLs_10 {φ : Fo} (h : goodR φ) : ∀ l ∈ rowLs φ, 10 ∉ l := by
  cases φ with
  | form f =>
    intro l hl
    simp only [rowLs, List.mem_cons, List.not_mem_nil, or_false] at hl
    rcases hl with e | e <;> rw [e]
    · exact headW_10 f
    · exact tailW_10 f
  | _ =>
    intro l hl
    simp only [rowLs, List.mem_cons, List.not_mem_nil, or_false] at hl
    rw [hl]
    exact no10 fun w hw => (rowWs_ok h w hw).1
theorem foT_cut {φ : Fo} (h : goodA φ) : cutW 10 (foT φ) = foLs φ := Rx.spl_joinL (by simp [foLs]) fun w hw => by
  rcases List.mem_cons.mp hw with e | hl
  · rw [e]; decide
  · rcases List.mem_append.mp hl with hl | hl
    · obtain ⟨ψ, hψ, hl⟩ := List.mem_flatMap.mp hl
      exact rowLs_10 (h ψ hψ) w hl
    · rw [List.mem_singleton] at hl; rw [hl]; decide
theorem wFormatFormula {n : Nat} (φ : Fo) (S : Sto) (hg : goodA φ) (hf : fits φ) (hn : height φ + 5 ≤ n) : R n 31 [.pd (toD φ)] S = .ok (.pd (Rx.S (foT φ))) S := by
  obtain ⟨n, rfl⟩ : ∃ m, n = m + 1 := ⟨n - 1, by omega⟩
  have ln := line_val
  have l1 := le_line 1 (by decide)
  have e1 := wFormulaLines (n := n) φ S hg (by have := hf.1; omega) (by omega)
  have hll := lines_len φ
  have h40 := hf.1
  have a1 : binV .add (.pd (.list [Rx.S [102, 111, 114, 109, 117, 108, 97]])) (.pd (.list ((lines φ).map Rx.S))) S = .ok (.pd (.list ((wFormula :: lines φ).map Rx.S))) S := a_add_l (s := S) _ _ (by simp only [List.length_map, List.length_cons, List.length_nil]; omega)
  have a2 : binV .add (.pd (.list ((wFormula :: lines φ).map Rx.S))) (.pd (.list [Rx.S [101, 110, 100]])) S = .ok (.pd (.list ((foLs φ).map Rx.S))) S := by
    have := Rx.ll1 (s := S) (wFormula :: lines φ) wEnd (by simp only [List.length_cons]; omega)
    exact this
  have ej : mthV .join (.pd (Rx.S [10])) [.pd (.list ((foLs φ).map Rx.S))] S = .ok (.pd (Rx.S (foT φ))) S := Rx.jj (k := 100000) (m := 82) _ (foLs_bnd hf).1 (foLs_bnd hf).2 (by decide)
  rw [R_eq (d := d31) rfl]
  generalize (foLs φ).map Rx.S = xs at *
  generalize (wFormula :: lines φ).map Rx.S = ys at *
  generalize (lines φ).map Rx.S = zs at *
  generalize foT φ = tx at *
  generalize toD φ = d0 at *
  generalize R n = call at *
  clear hg hf
  simp only [d31, b31_eq, body, denSs, denS, den, denB, denV, denP, denI, denO, denT, denTs, denF, denG, denGs, both_1, both_2, cmpB_1, cmpB_2, bind_ok, bind_exc, bind_stuck, go_ok, go_exc, go_stuck, nxt_nx, nxt_rt, nxt_bk, nxt_ct, nxt_exc, litD, List.length_cons, List.length_nil, List.map_cons, List.map_nil, List.getElem?_cons_zero, List.getElem?_cons_succ, List.cons_append, List.nil_append, List.replicate, List.set_cons_zero, List.set_cons_succ, wipeE, Nat.reduceAdd, Nat.reduceSub, Nat.reduceEqDiff, Nat.reduceLT, Nat.zero_add, if_true, if_false, Bool.false_eq_true, Bool.not_true, Bool.not_false, beq_self_eq_true, lv_pd, lv_fn, take_self, bq_ft, bq_tf, tests, toP, newL, l1, e1, a1, a2, Rx.t_joi, ej]
end K61


set_option linter.all false
set_option Elab.async false
set_option maxRecDepth 100000
set_option maxHeartbeats 2000000
namespace K61
open PySem Rx
/-! the law's own lines of formulas -/
def leafWs : List W := [[102, 111, 114, 109], [110, 97, 109, 101], [102, 101, 119, 101, 115, 116]]
def isLeaf : Fo → Bool
  | .form _ => true
  | .name _ => true
  | .few _ => true
  | _ => false
theorem any_leaf {φ : Fo} (h : goodR φ) : (leafWs.any fun z => decide (z = fstW φ)) = isLeaf φ := by
  cases φ with
  | pair k a b =>
    have : ∀ k < 7, (leafWs.any fun z => decide (z = pw k)) = false := by decide
    exact this k h
  | _ => rfl
theorem args_len (φ : Fo) : (args φ).length ≤ 3 ∧ 1 ≤ (args φ).length := by cases φ <;> simp [args]
theorem wLawInner {n : Nat} (hn : 1 ≤ n) (φ : Fo) (S : Sto) (h : goodR φ) : R n 37 [.pd (toD φ)] S = .ok (.pd (.list ((inner φ).map toD))) S := by
  obtain ⟨n, rfl⟩ : ∃ m, n = m + 1 := ⟨n - 1, by omega⟩
  have l0 : 0 ≤ line := Nat.zero_le _
  have l1 := le_line 1 (by decide)
  have l2 := le_line 2 (by decide)
  have l3 := le_line 3 (by decide)
  have l5 := le_line 5 (by decide)
  have i0 : idxV (.pd (toD φ)) (.pd (.int 0)) S = .ok (.pd (Rx.S (fstW φ))) S := by rw [toD_eq]; exact Rx.i_t (s := S) (by decide) rfl
  have t0 : isiV (.pd (toD φ)) ["tuple"] S = .ok (.pd (.bool true)) S := by rw [toD_eq]; rfl
  have el : bltV .len [.pd (toD φ)] S = .ok (.pd (.int ((args φ).length + 1 : Nat))) S := by rw [toD_eq, Rx.f_len_t]; rfl
  have hlt : decide ((((args φ).length + 1 : Nat) : Int) < 2) = false := by have := (args_len φ).2; rw [decide_eq_false_iff_not]; omega
  have c1 : cmpV .inn (.pd (Rx.S (fstW φ))) (.pd (.list [Rx.S [102, 111, 114, 109], Rx.S [110, 97, 109, 101], Rx.S [102, 101, 119, 101, 115, 116]])) S = _ := in_ws_l (fstW φ) leafWs S
  have c2 : cmpV .inn (.pd (Rx.S (fstW φ))) (.pd (.list [Rx.S [116, 105, 109, 101, 115], Rx.S [100, 105, 118, 105, 100, 101, 100], Rx.S [119, 104, 101, 114, 101], Rx.S [109, 111, 118, 101, 100], Rx.S [102, 114, 111, 109]])) S = _ := in_ws_l (fstW φ) singWs S
  rw [any_leaf h] at c1
  rw [any_sing h] at c2
  rw [R_eq (d := d37) rfl]
  cases hl : isLeaf φ with
  | true =>
    rw [hl] at c1
    have : inner φ = [] := by cases φ <;> first | rfl | (simp [isLeaf] at hl; done)
    rw [this]
    generalize Rx.S (fstW φ) = f0 at *
    generalize toD φ = d at *
    generalize ((args φ).length + 1 : Nat) = len at *
    generalize R n = call at *
    simp only [d37, b37_eq, body, denSs, denS, den, denB, denV, denP, denI, denO, denT, denTs, denF, denG, denGs, both_1, both_2, cmpB_1, cmpB_2, bind_ok, bind_exc, bind_stuck, go_ok, go_exc, go_stuck, nxt_nx, nxt_rt, nxt_bk, nxt_ct, nxt_exc, litD, List.length_cons, List.length_nil, List.map_cons, List.map_nil, List.getElem?_cons_zero, List.getElem?_cons_succ, List.cons_append, List.nil_append, List.replicate, List.set_cons_zero, List.set_cons_succ, wipeE, Nat.reduceAdd, Nat.reduceSub, Nat.reduceEqDiff, Nat.reduceLT, Nat.zero_add, if_true, if_false, Bool.false_eq_true, Bool.not_true, Bool.not_false, beq_self_eq_true, lv_pd, lv_fn, take_self, bq_ft, bq_tf, tests, toP, newL, l0, l3, tr_bool, t0, el, c_lt_i, hlt, i0, c1]
  | false =>
    rw [hl] at c1
    cases hs : isSing φ with
    | true =>
      rw [hs] at c2
      obtain ⟨a, ha, hi1⟩ : ∃ a, inner φ = [a] ∧ idxV (.pd (toD φ)) (.pd (.int 1)) S = .ok (.pd (toD a)) S := by
        cases φ with
        | times a k => exact ⟨a, rfl, Rx.i_t (s := S) (by decide) rfl⟩
        | divided a k => exact ⟨a, rfl, Rx.i_t (s := S) (by decide) rfl⟩
        | wher a lo hi => exact ⟨a, rfl, Rx.i_t (s := S) (by decide) rfl⟩
        | moved a k => exact ⟨a, rfl, Rx.i_t (s := S) (by decide) rfl⟩
        | frm a => exact ⟨a, rfl, Rx.i_t (s := S) (by decide) rfl⟩
        | _ => simp [isSing] at hs
      rw [ha, List.map_cons, List.map_nil]
      generalize Rx.S (fstW φ) = f0 at *
      generalize toD φ = d at *
      generalize ((args φ).length + 1 : Nat) = len at *
      generalize R n = call at *
      simp only [d37, b37_eq, body, denSs, denS, den, denB, denV, denP, denI, denO, denT, denTs, denF, denG, denGs, both_1, both_2, cmpB_1, cmpB_2, bind_ok, bind_exc, bind_stuck, go_ok, go_exc, go_stuck, nxt_nx, nxt_rt, nxt_bk, nxt_ct, nxt_exc, litD, List.length_cons, List.length_nil, List.map_cons, List.map_nil, List.getElem?_cons_zero, List.getElem?_cons_succ, List.cons_append, List.nil_append, List.replicate, List.set_cons_zero, List.set_cons_succ, wipeE, Nat.reduceAdd, Nat.reduceSub, Nat.reduceEqDiff, Nat.reduceLT, Nat.zero_add, if_true, if_false, Bool.false_eq_true, Bool.not_true, Bool.not_false, beq_self_eq_true, lv_pd, lv_fn, take_self, bq_ft, bq_tf, tests, toP, newL, l1, l3, l5, tr_bool, t0, el, c_lt_i, hlt, i0, c1, c2, hi1]
    | false =>
      rw [hs] at c2
      obtain ⟨a, b, ha, hi1, hi2, hl3⟩ : ∃ a b, inner φ = [a, b] ∧ idxV (.pd (toD φ)) (.pd (.int 1)) S = .ok (.pd (toD a)) S ∧ idxV (.pd (toD φ)) (.pd (.int 2)) S = .ok (.pd (toD b)) S ∧ (args φ).length + 1 = 3 := by
        cases φ with
        | pair k a b => exact ⟨a, b, rfl, Rx.i_t (s := S) (by decide) rfl, Rx.i_t (s := S) (by decide) rfl, rfl⟩
        | _ => first | (simp [isSing] at hs; done) | (simp [isLeaf] at hl; done)
      have n3 : decide ((((args φ).length + 1 : Nat) : Int) ≠ 3) = false := by rw [hl3]; decide
      rw [ha, List.map_cons, List.map_cons, List.map_nil]
      clear hl3
      generalize Rx.S (fstW φ) = f0 at *
      generalize toD φ = d at *
      generalize ((args φ).length + 1 : Nat) = len at *
      generalize R n = call at *
      simp only [d37, b37_eq, body, denSs, denS, den, denB, denV, denP, denI, denO, denT, denTs, denF, denG, denGs, both_1, both_2, cmpB_1, cmpB_2, bind_ok, bind_exc, bind_stuck, go_ok, go_exc, go_stuck, nxt_nx, nxt_rt, nxt_bk, nxt_ct, nxt_exc, litD, List.length_cons, List.length_nil, List.map_cons, List.map_nil, List.getElem?_cons_zero, List.getElem?_cons_succ, List.cons_append, List.nil_append, List.replicate, List.set_cons_zero, List.set_cons_succ, wipeE, Nat.reduceAdd, Nat.reduceSub, Nat.reduceEqDiff, Nat.reduceLT, Nat.zero_add, if_true, if_false, Bool.false_eq_true, Bool.not_true, Bool.not_false, beq_self_eq_true, lv_pd, lv_fn, take_self, bq_ft, bq_tf, tests, toP, newL, l2, l3, l5, tr_bool, t0, el, c_lt_i, c_ne_i, n3, hlt, i0, c1, c2, hi1, hi2]
theorem wLawRows : ∀ (h : Nat) (φ : Fo), height φ ≤ h → goodA φ → (rows φ).length ≤ 1000 → ∀ (n : Nat) (S : Sto), h + 2 ≤ n → R n 38 [.pd (toD φ)] S = .ok (.pd (.list ((rows φ).map toD))) S := by
  intro h
  induction h with
  | zero => intro φ hh; cases φ <;> simp [height] at hh
  | succ h ih =>
    intro φ hh hg hr n S hn
    obtain ⟨n, rfl⟩ : ∃ m, n = m + 1 := ⟨n - 1, by omega⟩
    have ln := line_val
    have l1 := le_line 1 (by decide)
    have e0 := wLawInner (by omega : 1 ≤ n) φ S (hg φ (self_rows φ))
    obtain ⟨env', s', ef, o2, rfl, hs'⟩ := Rx.forL_at (f := Rx.turn kons 0 (R n) (.name 2) t38_1) (all := (inner φ).map toD)
      (fun i env s => ∃ o2 : Option Dv, env = [some (.pd (toD φ)), some (.pd (.list ((φ :: ((inner φ).take i).flatMap rows).map toD))), o2] ∧ s = S)
      (env := [some (.pd (toD φ)), some (.pd (.list [toD φ])), none]) (s := S) ⟨none, by simp, rfl⟩
      (fun i hi env s ⟨o2, he, hs⟩ => by
        rw [List.length_map] at hi
        have hm : (inner φ)[i] ∈ inner φ := List.getElem_mem hi
        have hp := part_rows (φ := φ) (i := i + 1) (by omega)
        have hin := height_inner hm
        have hr1 := rows_inner hm
        have e1 := ih (inner φ)[i] (by omega) (hg.inner hm) (by omega) n S (by omega)
        have e2 : binV .add (.pd (.list ((φ :: ((inner φ).take i).flatMap rows).map toD))) (.pd (.list ((rows (inner φ)[i]).map toD))) S = .ok (.pd (.list ((φ :: ((inner φ).take (i + 1)).flatMap rows).map toD))) S := by
          rw [a_add_l (s := S) _ _ (by
            rw [take_flat rows hi] at hp
            simp only [List.length_map, List.length_cons, List.length_append] at hp ⊢
            omega), take_flat rows hi]
          simp
        rw [List.getElem_map]
        refine ⟨[some (.pd (toD φ)), some (.pd (.list ((φ :: ((inner φ).take (i + 1)).flatMap rows).map toD))), some (.pd (toD (inner φ)[i]))], S, .inl ?_, _, rfl, rfl⟩
        rw [he, hs]
        generalize toD (inner φ)[i] = d1 at *
        generalize (rows (inner φ)[i]).map toD = ds at *
        generalize (φ :: ((inner φ).take (i + 1)).flatMap rows).map toD = x1 at *
        generalize (φ :: ((inner φ).take i).flatMap rows).map toD = x2 at *
        generalize R n = call at *
        generalize toD φ = d0 at *
        clear ih
        simp only [Rx.turn, t38_1, body, denSs, denS, den, denB, denV, denP, denI, denO, denT, denTs, denF, denG, denGs, both_1, both_2, cmpB_1, cmpB_2, bind_ok, bind_exc, bind_stuck, go_ok, go_exc, go_stuck, nxt_nx, nxt_rt, nxt_bk, nxt_ct, nxt_exc, litD, List.length_cons, List.length_nil, List.map_cons, List.map_nil, List.getElem?_cons_zero, List.getElem?_cons_succ, List.cons_append, List.nil_append, List.replicate, List.set_cons_zero, List.set_cons_succ, wipeE, Nat.reduceAdd, Nat.reduceSub, Nat.reduceEqDiff, Nat.reduceLT, Nat.zero_add, if_true, if_false, Bool.false_eq_true, Bool.not_true, Bool.not_false, beq_self_eq_true, lv_pd, lv_fn, take_self, bq_ft, bq_tf, tests, toP, e1, e2])
    rw [List.length_map, List.take_length, ← rows_cons φ] at ef
    have efo := Rx.fo_ok (C := kons) (call := R n) (t := .name 2) (b := t38_1) (it := .val (.call 37 (.cons (.var 0) .nil))) (env := [some (.pd (toD φ)), some (.pd (.list [toD φ])), none]) (s := S) (s' := S) (xs := (inner φ).map toD) (Rx.it_val (v := .pd (.list ((inner φ).map toD))) (s' := S) (by
      generalize R n = call at *
      generalize (inner φ).map toD = ds at *
      generalize toD φ = d0 at *
      clear ef ih
      simp only [body, denSs, denS, den, denB, denV, denP, denI, denO, denT, denTs, denF, denG, denGs, both_1, both_2, cmpB_1, cmpB_2, bind_ok, bind_exc, bind_stuck, go_ok, go_exc, go_stuck, nxt_nx, nxt_rt, nxt_bk, nxt_ct, nxt_exc, litD, List.length_cons, List.length_nil, List.map_cons, List.map_nil, List.getElem?_cons_zero, List.getElem?_cons_succ, List.cons_append, List.nil_append, List.replicate, List.set_cons_zero, List.set_cons_succ, wipeE, Nat.reduceAdd, Nat.reduceSub, Nat.reduceEqDiff, Nat.reduceLT, Nat.zero_add, if_true, if_false, Bool.false_eq_true, Bool.not_true, Bool.not_false, beq_self_eq_true, lv_pd, lv_fn, take_self, bq_ft, bq_tf, tests, toP, e0]) rfl) ef
    replace efo : denS kons 0 (R n) s38_1 [some (.pd (toD φ)), some (.pd (.list [toD φ])), none] S = _ := efo
    rw [R_eq (d := d38) rfl]
    subst hs'
    generalize (rows φ).map toD = ds at *
    generalize toD φ = d0 at *
    generalize R n = call at *
    clear e0 ef ih
    simp only [d38, b38_eq, body, denSs, denS, den, denB, denV, denP, denI, denO, denT, denTs, denF, denG, denGs, both_1, both_2, cmpB_1, cmpB_2, bind_ok, bind_exc, bind_stuck, go_ok, go_exc, go_stuck, nxt_nx, nxt_rt, nxt_bk, nxt_ct, nxt_exc, litD, List.length_cons, List.length_nil, List.map_cons, List.map_nil, List.getElem?_cons_zero, List.getElem?_cons_succ, List.cons_append, List.nil_append, List.replicate, List.set_cons_zero, List.set_cons_succ, wipeE, Nat.reduceAdd, Nat.reduceSub, Nat.reduceEqDiff, Nat.reduceLT, Nat.zero_add, if_true, if_false, Bool.false_eq_true, Bool.not_true, Bool.not_false, beq_self_eq_true, lv_pd, lv_fn, take_self, bq_ft, bq_tf, tests, toP, newL, l1, efo]
theorem joinL_cons2 (w : W) {ws : List W} (h : ws ≠ []) : TL.joinL [32] (w :: ws) = w ++ [32] ++ TL.joinL [32] ws := by
  rw [Rx.joinL_cons 32 w h]
  simp
theorem wLawRowLines {n : Nat} (hn : 3 ≤ n) (φ : Fo) (S : Sto) (h : goodR φ) : R n 41 [.pd (toD φ)] S = .ok (.pd (.list ((rowLs φ).map Rx.S))) S := by
  obtain ⟨n, rfl⟩ : ∃ m, n = m + 1 := ⟨n - 1, by omega⟩
  have ln := line_val
  have l1 := le_line 1 (by decide)
  have i0 : ∀ s, idxV (.pd (toD φ)) (.pd (.int 0)) s = .ok (.pd (Rx.S (fstW φ))) s := fun s => by rw [toD_eq]; exact Rx.i_t (s := s) (by decide) rfl
  have c1 : ∀ s, cmpV .eq (.pd (Rx.S (fstW φ))) (.pd (Rx.S [102, 111, 114, 109])) s = .ok (decide (fstW φ = wForm)) s := fun s => Rx.c_eq_S _ _
  have c2 : ∀ s, cmpV .eq (.pd (Rx.S (fstW φ))) (.pd (Rx.S [102, 101, 119, 101, 115, 116])) s = .ok (decide (fstW φ = wFew)) s := fun s => Rx.c_eq_S _ _
  have c3 : ∀ s, cmpV .eq (.pd (Rx.S (fstW φ))) (.pd (Rx.S [110, 97, 109, 101])) s = .ok (decide (fstW φ = wNam)) s := fun s => Rx.c_eq_S _ _
  rw [R_eq (d := d41) rfl]
  by_cases hf : ∃ f, φ = .form f
  · obtain ⟨f, rfl⟩ := hf
    have e := wLawForm (by omega : 2 ≤ n) f S h
    have i1 : idxV (.pd (toD (.form f))) (.pd (.int 1)) S = .ok (.pd (fmD f)) S := Rx.i_t (s := S) (by decide) rfl
    have q : decide (fstW (.form f) = wForm) = true := rfl
    rw [q] at c1
    show _ = Res.ok (Dv.pd (.list [Rx.S (headW f), Rx.S (tailW f)])) S
    generalize Rx.S (fstW (.form f)) = f0 at *
    generalize toD (.form f) = d0 at *
    generalize R n = call at *
    simp only [d41, b41_eq, body, denSs, denS, den, denB, denV, denP, denI, denO, denT, denTs, denF, denG, denGs, both_1, both_2, cmpB_1, cmpB_2, bind_ok, bind_exc, bind_stuck, go_ok, go_exc, go_stuck, nxt_nx, nxt_rt, nxt_bk, nxt_ct, nxt_exc, litD, List.length_cons, List.length_nil, List.map_cons, List.map_nil, List.getElem?_cons_zero, List.getElem?_cons_succ, List.cons_append, List.nil_append, List.replicate, List.set_cons_zero, List.set_cons_succ, wipeE, Nat.reduceAdd, Nat.reduceSub, Nat.reduceEqDiff, Nat.reduceLT, Nat.zero_add, if_true, if_false, Bool.false_eq_true, Bool.not_true, Bool.not_false, beq_self_eq_true, lv_pd, lv_fn, take_self, bq_ft, bq_tf, tests, toP, i0, i1, c1, e]
  · by_cases hv : ∃ vs, φ = .few vs
    · obtain ⟨vs, rfl⟩ := hv
      have i1 : idxV (.pd (toD (.few vs))) (.pd (.int 1)) S = .ok (.pd (.tuple (vs.map .int))) S := Rx.i_t (s := S) (by decide) rfl
      have q1 : decide (fstW (.few vs) = wForm) = false := rfl
      have q2 : decide (fstW (.few vs) = wFew) = true := rfl
      rw [q1] at c1
      rw [q2] at c2
      have lc : ∀ v1 v2 v3, (den kons (R n) l41_1).1 [some (.pd (toD (.few vs))), v1, v2, v3] S = .ok (.pd (.list (vs.map fun v => Rx.S (strI v)))) S := fun v1 v2 v3 => by
        refine Rx.lc_map (xs := vs) .int (fun v => Rx.S (strI v)) ?_ (fun v hv => ?_) (by have := h.1.2; omega)
        · refine Rx.it_val (v := .pd (.tuple (vs.map .int))) (s' := S) ?_ rfl
          generalize toD (.few vs) = d0 at *
          generalize R n = call
          simp only [body, denSs, denS, den, denB, denV, denP, denI, denO, denT, denTs, denF, denG, denGs, both_1, both_2, cmpB_1, cmpB_2, bind_ok, bind_exc, bind_stuck, go_ok, go_exc, go_stuck, nxt_nx, nxt_rt, nxt_bk, nxt_ct, nxt_exc, litD, List.length_cons, List.length_nil, List.map_cons, List.map_nil, List.getElem?_cons_zero, List.getElem?_cons_succ, List.cons_append, List.nil_append, List.replicate, List.set_cons_zero, List.set_cons_succ, wipeE, Nat.reduceAdd, Nat.reduceSub, Nat.reduceEqDiff, Nat.reduceLT, Nat.zero_add, if_true, if_false, Bool.false_eq_true, Bool.not_true, Bool.not_false, beq_self_eq_true, lv_pd, lv_fn, take_self, bq_ft, bq_tf, tests, toP, i1]
        · have e := f_str_i (sm_1000 (h.2.1 v hv)) S
          generalize R n = call
          simp only [Rx.lcT, body, denSs, denS, den, denB, denV, denP, denI, denO, denT, denTs, denF, denG, denGs, both_1, both_2, cmpB_1, cmpB_2, bind_ok, bind_exc, bind_stuck, go_ok, go_exc, go_stuck, nxt_nx, nxt_rt, nxt_bk, nxt_ct, nxt_exc, litD, List.length_cons, List.length_nil, List.map_cons, List.map_nil, List.getElem?_cons_zero, List.getElem?_cons_succ, List.cons_append, List.nil_append, List.replicate, List.set_cons_zero, List.set_cons_succ, wipeE, Nat.reduceAdd, Nat.reduceSub, Nat.reduceEqDiff, Nat.reduceLT, Nat.zero_add, if_true, if_false, Bool.false_eq_true, Bool.not_true, Bool.not_false, beq_self_eq_true, lv_pd, lv_fn, take_self, bq_ft, bq_tf, tests, toP, e]
      have hm : (vs.map fun v => Rx.S (strI v)) = (vs.map strI).map Rx.S := by rw [List.map_map]; rfl
      rw [hm] at lc
      have hne : vs.map strI ≠ [] := by
        intro e
        have := congrArg List.length e
        have := h.1.1
        simp only [List.length_map, List.length_nil] at *
        omega
      have hb : ∀ w ∈ vs.map strI, w.length ≤ 40 := fun w hw => by
        obtain ⟨v, hv, rfl⟩ := List.mem_map.mp hw
        exact sm_1000 (h.2.1 v hv)
      have j1 : mthV .join (.pd (Rx.S [32])) [.pd (.list ((vs.map strI).map Rx.S))] S = .ok (.pd (Rx.S (TL.joinL [32] (vs.map strI)))) S := Rx.jj (k := 40) (m := 12) _ hb (by rw [List.length_map]; exact h.1.2) (by decide)
      have hjl := Rx.joinL_bnd 32 40 _ hb
      rw [List.length_map] at hjl
      have a1 : binV .add (.pd (Rx.S [102, 101, 119, 101, 115, 116, 32])) (.pd (Rx.S (TL.joinL [32] (vs.map strI)))) S = .ok (.pd (Rx.S (TL.joinL [32] (rowWs (.few vs))))) S := by
        rw [Rx.a_add_S _ _ (by have := h.1.2; simp only [List.length_cons, List.length_nil]; omega)]
        show _ = Res.ok (Dv.pd (Rx.S (TL.joinL [32] (wFew :: vs.map strI)))) S
        rw [joinL_cons2 wFew hne]
        rfl
      show _ = Res.ok (Dv.pd (.list [Rx.S (TL.joinL [32] (rowWs (.few vs)))])) S
      generalize (vs.map strI).map Rx.S = ys at *
      generalize TL.joinL [32] (vs.map strI) = ty at *
      generalize TL.joinL [32] (rowWs (.few vs)) = tx at *
      generalize Rx.S (fstW (.few vs)) = f0 at *
      generalize toD (.few vs) = d0 at *
      generalize R n = call at *
      simp only [d41, b41_eq, body, denSs, denS, den, denB, denV, denP, denI, denO, denT, denTs, denF, denG, denGs, both_1, both_2, cmpB_1, cmpB_2, bind_ok, bind_exc, bind_stuck, go_ok, go_exc, go_stuck, nxt_nx, nxt_rt, nxt_bk, nxt_ct, nxt_exc, litD, List.length_cons, List.length_nil, List.map_cons, List.map_nil, List.getElem?_cons_zero, List.getElem?_cons_succ, List.cons_append, List.nil_append, List.replicate, List.set_cons_zero, List.set_cons_succ, wipeE, Nat.reduceAdd, Nat.reduceSub, Nat.reduceEqDiff, Nat.reduceLT, Nat.zero_add, if_true, if_false, Bool.false_eq_true, Bool.not_true, Bool.not_false, beq_self_eq_true, lv_pd, lv_fn, take_self, bq_ft, bq_tf, tests, toP, newL, l1, i0, c1, c2, lc, a1, Rx.t_joi, j1]
    · by_cases hw : ∃ w, φ = .name w
      · obtain ⟨w, rfl⟩ := hw
        have i1 : idxV (.pd (toD (.name w))) (.pd (.int 1)) S = .ok (.pd (Rx.S w)) S := Rx.i_t (s := S) (by decide) rfl
        have q1 : decide (fstW (.name w) = wForm) = false := rfl
        have q2 : decide (fstW (.name w) = wFew) = false := rfl
        have q3 : decide (fstW (.name w) = wNam) = true := rfl
        rw [q1] at c1
        rw [q2] at c2
        rw [q3] at c3
        have hwl := nameW_len h
        have a1 : binV .add (.pd (Rx.S [110, 97, 109, 101, 32])) (.pd (Rx.S w)) S = .ok (.pd (Rx.S (TL.joinL [32] (rowWs (.name w))))) S := by
          rw [Rx.a_add_S _ _ (by simp only [List.length_cons, List.length_nil]; omega)]
          rfl
        show _ = Res.ok (Dv.pd (.list [Rx.S (TL.joinL [32] (rowWs (.name w)))])) S
        generalize TL.joinL [32] (rowWs (.name w)) = tx at *
        generalize Rx.S (fstW (.name w)) = f0 at *
        generalize toD (.name w) = d0 at *
        generalize R n = call at *
        simp only [d41, b41_eq, body, denSs, denS, den, denB, denV, denP, denI, denO, denT, denTs, denF, denG, denGs, both_1, both_2, cmpB_1, cmpB_2, bind_ok, bind_exc, bind_stuck, go_ok, go_exc, go_stuck, nxt_nx, nxt_rt, nxt_bk, nxt_ct, nxt_exc, litD, List.length_cons, List.length_nil, List.map_cons, List.map_nil, List.getElem?_cons_zero, List.getElem?_cons_succ, List.cons_append, List.nil_append, List.replicate, List.set_cons_zero, List.set_cons_succ, wipeE, Nat.reduceAdd, Nat.reduceSub, Nat.reduceEqDiff, Nat.reduceLT, Nat.zero_add, if_true, if_false, Bool.false_eq_true, Bool.not_true, Bool.not_false, beq_self_eq_true, lv_pd, lv_fn, take_self, bq_ft, bq_tf, tests, toP, newL, l1, i0, i1, c1, c2, c3, a1]
      · have q1 : decide (fstW φ = wForm) = false := by
          cases φ with
          | form f => exact absurd ⟨f, rfl⟩ hf
          | pair k a b => exact (show ∀ k < 7, decide (pw k = wForm) = false by decide) k h
          | _ => rfl
        have q2 : decide (fstW φ = wFew) = false := by
          cases φ with
          | few f => exact absurd ⟨f, rfl⟩ hv
          | pair k a b => exact (show ∀ k < 7, decide (pw k = wFew) = false by decide) k h
          | _ => rfl
        have q3 : decide (fstW φ = wNam) = false := by
          cases φ with
          | name f => exact absurd ⟨f, rfl⟩ hw
          | pair k a b => exact (show ∀ k < 7, decide (pw k = wNam) = false by decide) k h
          | _ => rfl
        rw [q1] at c1
        rw [q2] at c2
        rw [q3] at c3
        have e1 := fun s => wLawInner (by omega : 1 ≤ n) φ s h
        have z1 := fun s => slc_nums (fun f e => hf ⟨f, e⟩) (fun vs e => hv ⟨vs, e⟩) s
        have hnn : ∀ x ∈ nums φ, ∃ o, x = intD o ∧ smO o := by
          have so : ∀ k : Int, sm k → ∃ o, PyData.int k = intD o ∧ smO o := fun k hk => ⟨some k, rfl, fun i hi => by cases hi; exact hk⟩
          cases φ with
          | name w => exact absurd ⟨w, rfl⟩ hw
          | times a k => intro x hx; simp only [nums, List.mem_cons, List.not_mem_nil, or_false] at hx; subst hx; exact so k h
          | divided a k => intro x hx; simp only [nums, List.mem_cons, List.not_mem_nil, or_false] at hx; subst hx; exact so k (sm_1000 h)
          | wher a lo hi =>
            intro x hx
            simp only [nums, List.mem_cons, List.not_mem_nil, or_false] at hx
            rcases hx with e | e <;> subst e
            · exact ⟨lo, rfl, h.1⟩
            · exact ⟨hi, rfl, h.2⟩
          | moved a k => intro x hx; simp only [nums, List.mem_cons, List.not_mem_nil, or_false] at hx; subst hx; exact so k h
          | _ => intro x hx; simp [nums] at hx
        have hnl : (nums φ).length ≤ 2 := by cases φ <;> simp [nums]
        obtain ⟨env', s', ef, o2, he', hs'⟩ := Rx.forL_at (f := Rx.turn kons 0 (R n) (.name 2) t41_1) (all := nums φ)
          (fun i env s => ∃ o2 : Option Dv, env = [some (.pd (toD φ)), some (.ref S.length), o2, none] ∧ s = S ++ [.lst ((fstW φ :: ((nums φ).take i).map txM).map Rx.S)])
          (env := [some (.pd (toD φ)), some (.ref S.length), none, none]) (s := S ++ [.lst [Rx.S (fstW φ)]]) ⟨none, rfl, rfl⟩
          (fun i hi env s ⟨o2, he, hs⟩ => by
            obtain ⟨o, ho, hso⟩ := hnn (nums φ)[i] (List.getElem_mem hi)
            have e2 := wLawWord (by omega : 1 ≤ n) o s hso
            rw [← ho] at e2
            have hget : s[S.length]? = some (.lst ((fstW φ :: ((nums φ).take i).map txM).map Rx.S)) := by rw [hs]; simp
            have e3 := Rx.v_app (Rx.S (wordO o)) hget (by simp only [List.length_map, List.length_cons, List.length_take]; omega)
            have tp := Rx.t_app hget
            have htx : txM (nums φ)[i] = wordO o := by rw [ho]; cases o <;> rfl
            refine ⟨[some (.pd (toD φ)), some (.ref S.length), some (.pd (nums φ)[i]), none], s.set S.length (.lst ((fstW φ :: ((nums φ).take i).map txM).map Rx.S ++ [Rx.S (wordO o)])), .inl ?_, _, rfl, ?_⟩
            · rw [he]
              generalize (nums φ)[i] = nx at *
              generalize toD φ = d0 at *
              generalize R n = call at *
              simp only [Rx.turn, t41_1, body, denSs, denS, den, denB, denV, denP, denI, denO, denT, denTs, denF, denG, denGs, both_1, both_2, cmpB_1, cmpB_2, bind_ok, bind_exc, bind_stuck, go_ok, go_exc, go_stuck, nxt_nx, nxt_rt, nxt_bk, nxt_ct, nxt_exc, litD, List.length_cons, List.length_nil, List.map_cons, List.map_nil, List.getElem?_cons_zero, List.getElem?_cons_succ, List.cons_append, List.nil_append, List.replicate, List.set_cons_zero, List.set_cons_succ, wipeE, Nat.reduceAdd, Nat.reduceSub, Nat.reduceEqDiff, Nat.reduceLT, Nat.zero_add, if_true, if_false, Bool.false_eq_true, Bool.not_true, Bool.not_false, beq_self_eq_true, lv_pd, lv_fn, take_self, bq_ft, bq_tf, tests, toP, tp, e2, e3]
            · rw [hs, app_set, take_snoc hi, ← htx]
              simp only [List.map_cons, List.map_append, List.map_nil, List.cons_append])
        rw [List.take_length, ← row_words (fun f e => hf ⟨f, e⟩) (fun vs e => hv ⟨vs, e⟩)] at hs'
        have efo := Rx.fo_ok (C := kons) (call := R n) (t := .name 2) (b := t41_1) (it := .val (.slc (.var 0) (.some (.bin .add (.cst (.int (1))) (.blt .len (.cons (.call 37 (.cons (.var 0) .nil)) .nil)))) .none)) (env := [some (.pd (toD φ)), some (.ref S.length), none, none]) (s := S ++ [.lst [Rx.S (fstW φ)]]) (s' := S ++ [.lst [Rx.S (fstW φ)]]) (xs := nums φ) (Rx.it_val (v := .pd (.tuple (nums φ))) (s' := S ++ [.lst [Rx.S (fstW φ)]]) (by
          have e := e1 (S ++ [.lst [Rx.S (fstW φ)]])
          have z := z1 (S ++ [.lst [Rx.S (fstW φ)]])
          have fl := Rx.f_len_l (s := S ++ [.lst [Rx.S (fstW φ)]]) ((inner φ).map toD)
          generalize R n = call at *
          generalize (inner φ).map toD = ds at *
          generalize toD φ = d0 at *
          clear ef
          simp only [body, denSs, denS, den, denB, denV, denP, denI, denO, denT, denTs, denF, denG, denGs, both_1, both_2, cmpB_1, cmpB_2, bind_ok, bind_exc, bind_stuck, go_ok, go_exc, go_stuck, nxt_nx, nxt_rt, nxt_bk, nxt_ct, nxt_exc, litD, List.length_cons, List.length_nil, List.map_cons, List.map_nil, List.getElem?_cons_zero, List.getElem?_cons_succ, List.cons_append, List.nil_append, List.replicate, List.set_cons_zero, List.set_cons_succ, wipeE, Nat.reduceAdd, Nat.reduceSub, Nat.reduceEqDiff, Nat.reduceLT, Nat.zero_add, if_true, if_false, Bool.false_eq_true, Bool.not_true, Bool.not_false, beq_self_eq_true, lv_pd, lv_fn, take_self, bq_ft, bq_tf, tests, toP, e, fl, a_add_i, z]) rfl) ef
        rw [he', hs'] at efo
        replace efo : denS kons 0 (R n) s41_1 [some (.pd (toD φ)), some (.ref S.length), none, none] (S ++ [.lst [Rx.S (fstW φ)]]) = _ := efo
        have j1 : mthV .join (.pd (Rx.S [32])) [.ref S.length] (S ++ [.lst ((rowWs φ).map Rx.S)]) = .ok (.pd (Rx.S (TL.joinL [32] (rowWs φ)))) (S ++ [.lst ((rowWs φ).map Rx.S)]) := by
          refine Rx.v_joi_r [32] (rowWs φ) (app_get S _) ?_
          have h1 := Rx.sum_bnd 40 (rowWs φ) (fun w hw => (rowWs_ok h w hw).2)
          have h2 := rowWs_len h
          simp only [List.length_cons, List.length_nil]
          omega
        have hr : rowLs φ = [TL.joinL [32] (rowWs φ)] := by
          cases φ with
          | form f => exact absurd ⟨f, rfl⟩ hf
          | _ => rfl
        rw [hr, List.map_cons, List.map_nil]
        generalize (rowWs φ).map Rx.S = xs at *
        generalize TL.joinL [32] (rowWs φ) = tx at *
        generalize Rx.S (fstW φ) = f0 at *
        generalize toD φ = d0 at *
        generalize R n = call at *
        clear e1 z1 ef
        simp only [d41, b41_eq, body, denSs, denS, den, denB, denV, denP, denI, denO, denT, denTs, denF, denG, denGs, both_1, both_2, cmpB_1, cmpB_2, bind_ok, bind_exc, bind_stuck, go_ok, go_exc, go_stuck, nxt_nx, nxt_rt, nxt_bk, nxt_ct, nxt_exc, litD, List.length_cons, List.length_nil, List.map_cons, List.map_nil, List.getElem?_cons_zero, List.getElem?_cons_succ, List.cons_append, List.nil_append, List.replicate, List.set_cons_zero, List.set_cons_succ, wipeE, Nat.reduceAdd, Nat.reduceSub, Nat.reduceEqDiff, Nat.reduceLT, Nat.zero_add, if_true, if_false, Bool.false_eq_true, Bool.not_true, Bool.not_false, beq_self_eq_true, lv_pd, lv_fn, take_self, bq_ft, bq_tf, tests, toP, newL, l1, i0, c1, c2, c3, efo, Rx.t_joi, j1]
        simp
end K61


set_option linter.all false
set_option Elab.async false
set_option maxRecDepth 100000
set_option maxHeartbeats 2000000
namespace K61
open PySem Rx
/-! the law's own texts -/
theorem wLawLines {n : Nat} (φ : Fo) (S : Sto) (hg : goodA φ) (hr : (rows φ).length ≤ 1000) (hn : height φ + 4 ≤ n) : R n 42 [.pd (toD φ)] S = .ok (.pd (.list ((lines φ).map Rx.S))) S := by
  obtain ⟨n, rfl⟩ : ∃ m, n = m + 1 := ⟨n - 1, by omega⟩
  have ln := line_val
  have l0 : 0 ≤ line := Nat.zero_le _
  have e0 := wLawRows (height φ) φ (Nat.le_refl _) hg hr n S (by omega)
  obtain ⟨env', s', ef, o2, rfl, hs'⟩ := Rx.forL_at (f := Rx.turn kons 0 (R n) (.name 2) t42_1) (all := (rows φ).map toD)
    (fun i env s => ∃ o2 : Option Dv, env = [some (.pd (toD φ)), some (.pd (.list ((((rows φ).take i).flatMap rowLs).map Rx.S))), o2] ∧ s = S)
    (env := [some (.pd (toD φ)), some (.pd (.list [])), none]) (s := S) ⟨none, by simp, rfl⟩
    (fun i hi env s ⟨o2, he, hs⟩ => by
      rw [List.length_map] at hi
      have hm : (rows φ)[i] ∈ rows φ := List.getElem_mem hi
      have e1 := wLawRowLines (by omega : 3 ≤ n) (rows φ)[i] S (hg _ hm)
      have hp := flat_len ((rows φ).take i)
      have hq := rowLs_len (rows φ)[i]
      have e2 : binV .add (.pd (.list ((((rows φ).take i).flatMap rowLs).map Rx.S))) (.pd (.list ((rowLs (rows φ)[i]).map Rx.S))) S = .ok (.pd (.list ((((rows φ).take (i + 1)).flatMap rowLs).map Rx.S))) S := by
        rw [a_add_l (s := S) _ _ (by
          rw [List.length_take] at hp
          rw [List.length_map, List.length_map]
          omega), take_flat rowLs hi, List.map_append]
      rw [List.getElem_map]
      refine ⟨[some (.pd (toD φ)), some (.pd (.list ((((rows φ).take (i + 1)).flatMap rowLs).map Rx.S))), some (.pd (toD (rows φ)[i]))], S, .inl ?_, _, rfl, rfl⟩
      rw [he, hs]
      generalize toD (rows φ)[i] = d1 at *
      generalize (rowLs (rows φ)[i]).map Rx.S = ds at *
      generalize (((rows φ).take (i + 1)).flatMap rowLs).map Rx.S = x1 at *
      generalize (((rows φ).take i).flatMap rowLs).map Rx.S = x2 at *
      generalize R n = call at *
      generalize toD φ = d0 at *
      simp only [Rx.turn, t42_1, body, denSs, denS, den, denB, denV, denP, denI, denO, denT, denTs, denF, denG, denGs, both_1, both_2, cmpB_1, cmpB_2, bind_ok, bind_exc, bind_stuck, go_ok, go_exc, go_stuck, nxt_nx, nxt_rt, nxt_bk, nxt_ct, nxt_exc, litD, List.length_cons, List.length_nil, List.map_cons, List.map_nil, List.getElem?_cons_zero, List.getElem?_cons_succ, List.cons_append, List.nil_append, List.replicate, List.set_cons_zero, List.set_cons_succ, wipeE, Nat.reduceAdd, Nat.reduceSub, Nat.reduceEqDiff, Nat.reduceLT, Nat.zero_add, if_true, if_false, Bool.false_eq_true, Bool.not_true, Bool.not_false, beq_self_eq_true, lv_pd, lv_fn, take_self, bq_ft, bq_tf, tests, toP, e1, e2])
  rw [List.length_map, List.take_length] at ef
  have efo := Rx.fo_ok (C := kons) (call := R n) (t := .name 2) (b := t42_1) (it := .val (.call 38 (.cons (.var 0) .nil))) (env := [some (.pd (toD φ)), some (.pd (.list [])), none]) (s := S) (s' := S) (xs := (rows φ).map toD) (Rx.it_val (v := .pd (.list ((rows φ).map toD))) (s' := S) (by
    generalize R n = call at *
    generalize (rows φ).map toD = ds at *
    generalize toD φ = d0 at *
    clear ef
    simp only [body, denSs, denS, den, denB, denV, denP, denI, denO, denT, denTs, denF, denG, denGs, both_1, both_2, cmpB_1, cmpB_2, bind_ok, bind_exc, bind_stuck, go_ok, go_exc, go_stuck, nxt_nx, nxt_rt, nxt_bk, nxt_ct, nxt_exc, litD, List.length_cons, List.length_nil, List.map_cons, List.map_nil, List.getElem?_cons_zero, List.getElem?_cons_succ, List.cons_append, List.nil_append, List.replicate, List.set_cons_zero, List.set_cons_succ, wipeE, Nat.reduceAdd, Nat.reduceSub, Nat.reduceEqDiff, Nat.reduceLT, Nat.zero_add, if_true, if_false, Bool.false_eq_true, Bool.not_true, Bool.not_false, beq_self_eq_true, lv_pd, lv_fn, take_self, bq_ft, bq_tf, tests, toP, e0]) rfl) ef
  replace efo : denS kons 0 (R n) s42_1 [some (.pd (toD φ)), some (.pd (.list [])), none] S = _ := efo
  rw [R_eq (d := d42) rfl]
  subst hs'
  have hl : ((rows φ).flatMap rowLs).map Rx.S = (lines φ).map Rx.S := rfl
  rw [hl] at efo
  generalize (lines φ).map Rx.S = ds at *
  generalize toD φ = d0 at *
  generalize R n = call at *
  clear e0 ef
  simp only [d42, b42_eq, body, denSs, denS, den, denB, denV, denP, denI, denO, denT, denTs, denF, denG, denGs, both_1, both_2, cmpB_1, cmpB_2, bind_ok, bind_exc, bind_stuck, go_ok, go_exc, go_stuck, nxt_nx, nxt_rt, nxt_bk, nxt_ct, nxt_exc, litD, List.length_cons, List.length_nil, List.map_cons, List.map_nil, List.getElem?_cons_zero, List.getElem?_cons_succ, List.cons_append, List.nil_append, List.replicate, List.set_cons_zero, List.set_cons_succ, wipeE, Nat.reduceAdd, Nat.reduceSub, Nat.reduceEqDiff, Nat.reduceLT, Nat.zero_add, if_true, if_false, Bool.false_eq_true, Bool.not_true, Bool.not_false, beq_self_eq_true, lv_pd, lv_fn, take_self, bq_ft, bq_tf, tests, toP, newL, l0, efo]
theorem wLawText {n : Nat} (hn : 1 ≤ n) (w : W) (ls : List W) (S : Sto) {k m : Nat} (h1 : ∀ l ∈ w :: (ls ++ [wEnd]), l.length ≤ k) (h2 : (w :: (ls ++ [wEnd])).length ≤ m) (hm : m ≤ 1000) (h3 : (k + 1) * m ≤ line) : R n 46 [.pd (Rx.S w), .pd (.list (ls.map Rx.S))] S = .ok (.pd (Rx.S (TL.joinL [10] (w :: (ls ++ [wEnd]))))) S := by
  obtain ⟨n, rfl⟩ : ∃ m, n = m + 1 := ⟨n - 1, by omega⟩
  have ln := line_val
  have l1 := le_line 1 (by decide)
  simp only [List.length_cons, List.length_append, List.length_nil] at h2
  have a1 : binV .add (.pd (.list [Rx.S w])) (.pd (.list (ls.map Rx.S))) S = .ok (.pd (.list ((w :: ls).map Rx.S))) S := a_add_l (s := S) _ _ (by simp only [List.length_map, List.length_cons, List.length_nil]; omega)
  have a2 : binV .add (.pd (.list ((w :: ls).map Rx.S))) (.pd (.list [Rx.S [101, 110, 100]])) S = .ok (.pd (.list ((w :: (ls ++ [wEnd])).map Rx.S))) S := by
    have := Rx.ll1 (s := S) (w :: ls) wEnd (by simp only [List.length_cons]; omega)
    exact this
  have ej : mthV .join (.pd (Rx.S [10])) [.pd (.list ((w :: (ls ++ [wEnd])).map Rx.S))] S = .ok (.pd (Rx.S (TL.joinL [10] (w :: (ls ++ [wEnd]))))) S := Rx.jj (k := k) (m := m) _ h1 (by simp only [List.length_cons, List.length_append, List.length_nil]; omega) h3
  rw [R_eq (d := d46) rfl]
  generalize (w :: (ls ++ [wEnd])).map Rx.S = xs at *
  generalize (w :: ls).map Rx.S = ys at *
  generalize ls.map Rx.S = zs at *
  generalize TL.joinL [10] (w :: (ls ++ [wEnd])) = tx at *
  generalize R n = call at *
  simp only [d46, b46_eq, body, denSs, denS, den, denB, denV, denP, denI, denO, denT, denTs, denF, denG, denGs, both_1, both_2, cmpB_1, cmpB_2, bind_ok, bind_exc, bind_stuck, go_ok, go_exc, go_stuck, nxt_nx, nxt_rt, nxt_bk, nxt_ct, nxt_exc, litD, List.length_cons, List.length_nil, List.map_cons, List.map_nil, List.getElem?_cons_zero, List.getElem?_cons_succ, List.cons_append, List.nil_append, List.replicate, List.set_cons_zero, List.set_cons_succ, wipeE, Nat.reduceAdd, Nat.reduceSub, Nat.reduceEqDiff, Nat.reduceLT, Nat.zero_add, if_true, if_false, Bool.false_eq_true, Bool.not_true, Bool.not_false, beq_self_eq_true, lv_pd, lv_fn, take_self, bq_ft, bq_tf, tests, toP, newL, l1, a1, a2, Rx.t_joi, ej]
end K61


set_option linter.all false
set_option Elab.async false
set_option maxRecDepth 100000
set_option maxHeartbeats 2000000
namespace K61
open PySem Rx
/-! right tuples -/
theorem rngD_map (k : Nat) : rngD 0 k = (List.range k).map fun i : Nat => PyData.int (i : Int) := by
  unfold rngD
  refine List.map_congr_left fun i _ => ?_
  rw [Int.zero_add]
theorem asc_all : ∀ vs : List Int, ((List.range (vs.length - 1)).all fun i => decide (vs[i]?.getD 0 < vs[i + 1]?.getD 0)) = asc vs
  | [] => rfl
  | [a] => rfl
  | a :: b :: r => by
    have ih := asc_all (b :: r)
    have e : (a :: b :: r).length - 1 = ((b :: r).length - 1) + 1 := by simp
    rw [e, List.range_succ_eq_map, List.all_cons, List.all_map, asc, ← ih]
    rfl
theorem wAscending {n : Nat} (hn : 1 ≤ n) (vs : List Int) (S : Sto) (h1 : 1 ≤ vs.length) (h2 : vs.length ≤ 1000) : R n 4 [.pd (.tuple (vs.map .int))] S = .ok (.pd (.bool (asc vs))) S := by
  obtain ⟨n, rfl⟩ : ∃ m, n = m + 1 := ⟨n - 1, by omega⟩
  have ln := line_val
  have fl := Rx.f_len_t (s := S) (vs.map PyData.int)
  have e1 : (den kons (R n) l4_1).1 [some (.pd (.tuple (vs.map .int))), none] S = .ok (.pd (.list ((List.range (vs.length - 1)).map fun i => .bool (decide (vs[i]?.getD 0 < vs[i + 1]?.getD 0))))) S := by
    refine Rx.lc_map (xs := List.range (vs.length - 1)) (fun i : Nat => PyData.int (i : Int)) (fun i => .bool (decide (vs[i]?.getD 0 < vs[i + 1]?.getD 0))) ?_ (fun i hi => ?_) (by rw [List.length_range]; omega)
    · rw [← rngD_map]
      refine Rx.it_rngN ?_ (by omega)
      generalize R n = call at *
      have : ((vs.length - 1 : Nat) : Int) = (vs.length : Int) - 1 := by omega
      rw [this]
      rw [List.length_map] at fl
      simp only [body, denSs, denS, den, denB, denV, denP, denI, denO, denT, denTs, denF, denG, denGs, both_1, both_2, cmpB_1, cmpB_2, bind_ok, bind_exc, bind_stuck, go_ok, go_exc, go_stuck, nxt_nx, nxt_rt, nxt_bk, nxt_ct, nxt_exc, litD, List.length_cons, List.length_nil, List.map_cons, List.map_nil, List.getElem?_cons_zero, List.getElem?_cons_succ, List.cons_append, List.nil_append, List.replicate, List.set_cons_zero, List.set_cons_succ, wipeE, Nat.reduceAdd, Nat.reduceSub, Nat.reduceEqDiff, Nat.reduceLT, Nat.zero_add, if_true, if_false, Bool.false_eq_true, Bool.not_true, Bool.not_false, beq_self_eq_true, lv_pd, lv_fn, take_self, bq_ft, bq_tf, tests, toP, fl, a_sub_i]
    · have hi2 := List.mem_range.mp hi
      have g1 : idxV (.pd (.tuple (vs.map .int))) (.pd (.int (i : Int))) S = .ok (.pd (.int (vs[i]?.getD 0))) S := Rx.i_t (s := S) (by omega) (by rw [Int.toNat_natCast, List.getElem?_map, List.getElem?_eq_getElem (by omega : i < vs.length)]; rfl)
      have g2 : idxV (.pd (.tuple (vs.map .int))) (.pd (.int ((i : Int) + 1))) S = .ok (.pd (.int (vs[i + 1]?.getD 0))) S := Rx.i_t (s := S) (by omega) (by rw [show ((i : Int) + 1).toNat = i + 1 by omega, List.getElem?_map, List.getElem?_eq_getElem (by omega : i + 1 < vs.length)]; rfl)
      generalize vs[i]?.getD 0 = p at *
      generalize vs[i + 1]?.getD 0 = q at *
      generalize R n = call at *
      simp only [Rx.lcT, body, denSs, denS, den, denB, denV, denP, denI, denO, denT, denTs, denF, denG, denGs, both_1, both_2, cmpB_1, cmpB_2, bind_ok, bind_exc, bind_stuck, go_ok, go_exc, go_stuck, nxt_nx, nxt_rt, nxt_bk, nxt_ct, nxt_exc, litD, List.length_cons, List.length_nil, List.map_cons, List.map_nil, List.getElem?_cons_zero, List.getElem?_cons_succ, List.cons_append, List.nil_append, List.replicate, List.set_cons_zero, List.set_cons_succ, wipeE, Nat.reduceAdd, Nat.reduceSub, Nat.reduceEqDiff, Nat.reduceLT, Nat.zero_add, if_true, if_false, Bool.false_eq_true, Bool.not_true, Bool.not_false, beq_self_eq_true, lv_pd, lv_fn, take_self, bq_ft, bq_tf, tests, toP, g1, g2, a_add_i, c_lt_i]
  have e2 : bltV .all [.pd (.list ((List.range (vs.length - 1)).map fun i => .bool (decide (vs[i]?.getD 0 < vs[i + 1]?.getD 0))))] S = .ok (.pd (.bool (asc vs))) S := by
    have := all_bools (fun i => decide (vs[i]?.getD 0 < vs[i + 1]?.getD 0)) (List.range (vs.length - 1)) S
    rw [asc_all vs] at this
    exact this
  rw [R_eq (d := d4) rfl]
  generalize ((List.range (vs.length - 1)).map fun i => PyData.bool (decide (vs[i]?.getD 0 < vs[i + 1]?.getD 0))) = bs at *
  generalize R n = call at *
  simp only [d4, b4_eq, body, denSs, denS, den, denB, denV, denP, denI, denO, denT, denTs, denF, denG, denGs, both_1, both_2, cmpB_1, cmpB_2, bind_ok, bind_exc, bind_stuck, go_ok, go_exc, go_stuck, nxt_nx, nxt_rt, nxt_bk, nxt_ct, nxt_exc, litD, List.length_cons, List.length_nil, List.map_cons, List.map_nil, List.getElem?_cons_zero, List.getElem?_cons_succ, List.cons_append, List.nil_append, List.replicate, List.set_cons_zero, List.set_cons_succ, wipeE, Nat.reduceAdd, Nat.reduceSub, Nat.reduceEqDiff, Nat.reduceLT, Nat.zero_add, if_true, if_false, Bool.false_eq_true, Bool.not_true, Bool.not_false, beq_self_eq_true, lv_pd, lv_fn, take_self, bq_ft, bq_tf, tests, toP, e1, e2]
theorem wValues {n : Nat} (hn : 3 ≤ n) (vs : List Int) (S : Sto) (h1 : 1 ≤ vs.length ∧ vs.length ≤ 12) (h2 : ∀ v ∈ vs, 1 ≤ v ∧ v ≤ 1000) (h3 : asc vs = true) : R n 8 [.pd (.tuple (vs.map .int))] S = .ok (.pd (.bool true)) S := by
  obtain ⟨n, rfl⟩ : ∃ m, n = m + 1 := ⟨n - 1, by omega⟩
  have ln := line_val
  have fl := Rx.f_len_t (s := S) (vs.map PyData.int)
  rw [List.length_map] at fl
  have g1 : decide ((1 : Int) ≤ vs.length) = true := by rw [decide_eq_true_eq]; omega
  have g2 : decide ((vs.length : Int) ≤ 12) = true := by rw [decide_eq_true_eq]; omega
  have e1 : (den kons (R n) l8_1).1 [some (.pd (.tuple (vs.map .int))), none] S = .ok (.pd (.list (vs.map fun v => .bool (betw (.int v) 1 1000)))) S := by
    refine Rx.lc_map (xs := vs) PyData.int (fun v => .bool (betw (.int v) 1 1000)) rfl (fun v hv => ?_) (by omega)
    have e := wBetween (by omega : 2 ≤ n) (.int v) 1 1000 S trivial
    generalize R n = call at *
    simp only [Rx.lcT, body, denSs, denS, den, denB, denV, denP, denI, denO, denT, denTs, denF, denG, denGs, both_1, both_2, cmpB_1, cmpB_2, bind_ok, bind_exc, bind_stuck, go_ok, go_exc, go_stuck, nxt_nx, nxt_rt, nxt_bk, nxt_ct, nxt_exc, litD, List.length_cons, List.length_nil, List.map_cons, List.map_nil, List.getElem?_cons_zero, List.getElem?_cons_succ, List.cons_append, List.nil_append, List.replicate, List.set_cons_zero, List.set_cons_succ, wipeE, Nat.reduceAdd, Nat.reduceSub, Nat.reduceEqDiff, Nat.reduceLT, Nat.zero_add, if_true, if_false, Bool.false_eq_true, Bool.not_true, Bool.not_false, beq_self_eq_true, lv_pd, lv_fn, take_self, bq_ft, bq_tf, tests, toP, e]
  have hb : (vs.all fun v => betw (.int v) 1 1000) = true := List.all_eq_true.mpr fun v hv => by
    have := h2 v hv
    simp only [betw, Bool.and_eq_true, decide_eq_true_eq]
    exact this
  have e2 : bltV .all [.pd (.list (vs.map fun v => .bool (betw (.int v) 1 1000)))] S = .ok (.pd (.bool true)) S := by
    have := all_bools (fun v => betw (.int v) 1 1000) vs S
    rw [hb] at this
    exact this
  have e3 := wAscending (by omega : 1 ≤ n) vs S h1.1 (by omega)
  rw [h3] at e3
  have t0 : isiV (.pd (.tuple (vs.map .int))) ["tuple"] S = .ok (.pd (.bool true)) S := rfl
  rw [R_eq (d := d8) rfl]
  generalize (vs.map fun v => PyData.bool (betw (.int v) 1 1000)) = bs at *
  generalize (vs.length : Int) = len at *
  generalize vs.map PyData.int = ds at *
  generalize R n = call at *
  simp only [d8, b8_eq, body, denSs, denS, den, denB, denV, denP, denI, denO, denT, denTs, denF, denG, denGs, both_1, both_2, cmpB_1, cmpB_2, bind_ok, bind_exc, bind_stuck, go_ok, go_exc, go_stuck, nxt_nx, nxt_rt, nxt_bk, nxt_ct, nxt_exc, litD, List.length_cons, List.length_nil, List.map_cons, List.map_nil, List.getElem?_cons_zero, List.getElem?_cons_succ, List.cons_append, List.nil_append, List.replicate, List.set_cons_zero, List.set_cons_succ, wipeE, Nat.reduceAdd, Nat.reduceSub, Nat.reduceEqDiff, Nat.reduceLT, Nat.zero_add, if_true, if_false, Bool.false_eq_true, Bool.not_true, Bool.not_false, beq_self_eq_true, lv_pd, lv_fn, take_self, bq_ft, bq_tf, tests, toP, t0, tr_bool, fl, c_le_i, g1, g2, e1, e2, e3]
theorem faultD_good {f : Fm} (h : goodF f) : faultD (f.head.map intD) (f.tail.map pD) = .none := by
  unfold faultD
  rw [headOk_good h, tailOk_good h, if_pos rfl, if_pos rfl]
theorem okI_intD (o : OI) : okI (intD o) := by cases o <;> trivial
theorem okPr_pD (p : OP) : okPr (pD p) := by
  cases p with
  | none => exact .inr ⟨_, _, rfl, trivial, trivial⟩
  | some q => exact .inr ⟨_, _, rfl, trivial, trivial⟩
theorem wFaultGood {n : Nat} (hn : 3 ≤ n) (f : Fm) (S : Sto) (h : goodF f) : R n 7 [.pd (fmD f)] S = .ok (.pd .none) S := by
  have ln := line_val
  have e := wFault hn (f.head.map intD) (f.tail.map pD) S (fun x hx => by
    obtain ⟨o, _, rfl⟩ := List.mem_map.mp hx
    exact okI_intD o) (fun x hx => by
    obtain ⟨o, _, rfl⟩ := List.mem_map.mp hx
    exact okPr_pD o) (by rw [List.length_map]; have := h.1; omega) (by rw [List.length_map]; have := h.1; omega)
  rw [faultD_good h] at e
  exact e
theorem wRight {n : Nat} (hn : 5 ≤ n) (φ : Fo) (S : Sto) (h : goodR φ) : R n 10 [.pd (toD φ)] S = .ok (.pd (.bool true)) S := by
  obtain ⟨n, rfl⟩ : ∃ m, n = m + 2 := ⟨n - 2, by omega⟩
  have ln := line_val
  have l1 := le_line 1 (by decide)
  have l2 := le_line 2 (by decide)
  have k1 : kons[2]? = some (.tuple (pairWs.map Rx.S)) := rfl
  have i0 : idxV (.pd (toD φ)) (.pd (.int 0)) S = .ok (.pd (Rx.S (fstW φ))) S := by rw [toD_eq]; exact Rx.i_t (s := S) (by decide) rfl
  have t0 : isiV (.pd (toD φ)) ["tuple"] S = .ok (.pd (.bool true)) S := by rw [toD_eq]; rfl
  have n2 : decide ((2 : Int) < 2) = false := by decide
  have n3 : decide ((3 : Int) < 2) = false := by decide
  have n4 : decide ((4 : Int) < 2) = false := by decide
  have m3 : decide ((3 : Int) = 2) = false := by decide
  have m4 : decide ((4 : Int) = 2) = false := by decide
  have p3 : decide ((3 : Int) = 4) = false := by decide
  have q3 : decide ((3 : Int) ≠ 3) = false := by decide
  have m2 : decide ((2 : Int) = 2) = true := by decide
  have p4 : decide ((4 : Int) = 4) = true := by decide
  have ceq := fun w => Rx.c_eq_S (s := S) (fstW φ) w
  have cin : cmpV .inn (.pd (Rx.S (fstW φ))) (.pd (.tuple [Rx.S [116, 105, 109, 101, 115], Rx.S [109, 111, 118, 101, 100]])) S = _ := in_ws_t (fstW φ) [[116, 105, 109, 101, 115], [109, 111, 118, 101, 100]] S
  have cp := in_ws_t (fstW φ) pairWs S
  rw [any_pair h] at cp
  cases φ with
  | form f =>
    have i1 : idxV (.pd (toD (.form f))) (.pd (.int 1)) S = .ok (.pd (fmD f)) S := Rx.i_t (s := S) (by decide) rfl
    have fl : bltV .len [.pd (toD (.form f))] S = .ok (.pd (.int 2)) S := rfl
    have ef := wFaultGood (by omega : 3 ≤ n) f S h
    have c1 : cmpV .eq (.pd (Rx.S (fstW (.form f)))) (.pd (Rx.S [102, 114, 111, 109])) S = .ok false S := ceq _
    have c2 : cmpV .eq (.pd (Rx.S (fstW (.form f)))) (.pd (Rx.S [102, 111, 114, 109])) S = .ok true S := ceq _
    have e1 : R (n + 1) 9 [.pd (toD (.form f))] S = .ok (.pd (.bool true)) S := by
      rw [R_eq (d := d9) rfl]
      generalize toD (.form f) = d0 at *
      generalize R n = call at *
      generalize fmD f = ff at *
      clear ceq cin cp
      generalize Rx.S (fstW (.form f)) = f0 at *
      simp only [d9, b9_eq, body, denSs, denS, den, denB, denV, denP, denI, denO, denT, denTs, denF, denG, denGs, both_1, both_2, cmpB_1, cmpB_2, bind_ok, bind_exc, bind_stuck, go_ok, go_exc, go_stuck, nxt_nx, nxt_rt, nxt_bk, nxt_ct, nxt_exc, litD, List.length_cons, List.length_nil, List.map_cons, List.map_nil, List.getElem?_cons_zero, List.getElem?_cons_succ, List.cons_append, List.nil_append, List.replicate, List.set_cons_zero, List.set_cons_succ, wipeE, Nat.reduceAdd, Nat.reduceSub, Nat.reduceEqDiff, Nat.reduceLT, Nat.zero_add, if_true, if_false, Bool.false_eq_true, Bool.not_true, Bool.not_false, beq_self_eq_true, lv_pd, lv_fn, take_self, bq_ft, bq_tf, tests, toP, i0, c2, i1, ef, c_is_none, Rx.isNone]
    rw [R_eq (d := d10) rfl]
    generalize toD (.form f) = d0 at *
    generalize R (n + 1) = call at *
    clear ceq cin cp
    generalize Rx.S (fstW (.form f)) = f0 at *
    simp only [d10, b10_eq, body, denSs, denS, den, denB, denV, denP, denI, denO, denT, denTs, denF, denG, denGs, both_1, both_2, cmpB_1, cmpB_2, bind_ok, bind_exc, bind_stuck, go_ok, go_exc, go_stuck, nxt_nx, nxt_rt, nxt_bk, nxt_ct, nxt_exc, litD, List.length_cons, List.length_nil, List.map_cons, List.map_nil, List.getElem?_cons_zero, List.getElem?_cons_succ, List.cons_append, List.nil_append, List.replicate, List.set_cons_zero, List.set_cons_succ, wipeE, Nat.reduceAdd, Nat.reduceSub, Nat.reduceEqDiff, Nat.reduceLT, Nat.zero_add, if_true, if_false, Bool.false_eq_true, Bool.not_true, Bool.not_false, beq_self_eq_true, lv_pd, lv_fn, take_self, bq_ft, bq_tf, tests, toP, t0, tr_bool, fl, c_lt_i, n2, c_eq_i, m2, decide_true, i0, c1, e1]
  | name w =>
    have hw : w.length ≤ line := by have := nameW_len h; omega
    have i1 : idxV (.pd (toD (.name w))) (.pd (.int 1)) S = .ok (.pd (Rx.S w)) S := Rx.i_t (s := S) (by decide) rfl
    have fl : bltV .len [.pd (toD (.name w))] S = .ok (.pd (.int 2)) S := rfl
    have ef := wName (by omega : 1 ≤ n) (Rx.S w) S (okI_S hw).d
    have hq : isNameD (Rx.S w) = true := (nameW_eq w).trans h
    rw [hq] at ef
    have c1 : cmpV .eq (.pd (Rx.S (fstW (.name w)))) (.pd (Rx.S [102, 114, 111, 109])) S = .ok false S := ceq _
    have c2 : cmpV .eq (.pd (Rx.S (fstW (.name w)))) (.pd (Rx.S [102, 111, 114, 109])) S = .ok false S := ceq _
    have c3 : cmpV .eq (.pd (Rx.S (fstW (.name w)))) (.pd (Rx.S [110, 97, 109, 101])) S = .ok true S := ceq _
    have e1 : R (n + 1) 9 [.pd (toD (.name w))] S = .ok (.pd (.bool true)) S := by
      rw [R_eq (d := d9) rfl]
      generalize toD (.name w) = d0 at *
      generalize R n = call at *
      clear ceq cin cp
      generalize Rx.S (fstW (.name w)) = f0 at *
      simp only [d9, b9_eq, body, denSs, denS, den, denB, denV, denP, denI, denO, denT, denTs, denF, denG, denGs, both_1, both_2, cmpB_1, cmpB_2, bind_ok, bind_exc, bind_stuck, go_ok, go_exc, go_stuck, nxt_nx, nxt_rt, nxt_bk, nxt_ct, nxt_exc, litD, List.length_cons, List.length_nil, List.map_cons, List.map_nil, List.getElem?_cons_zero, List.getElem?_cons_succ, List.cons_append, List.nil_append, List.replicate, List.set_cons_zero, List.set_cons_succ, wipeE, Nat.reduceAdd, Nat.reduceSub, Nat.reduceEqDiff, Nat.reduceLT, Nat.zero_add, if_true, if_false, Bool.false_eq_true, Bool.not_true, Bool.not_false, beq_self_eq_true, lv_pd, lv_fn, take_self, bq_ft, bq_tf, tests, toP, i0, c2, c3, i1, ef]
    rw [R_eq (d := d10) rfl]
    generalize toD (.name w) = d0 at *
    generalize R (n + 1) = call at *
    clear ceq cin cp
    generalize Rx.S (fstW (.name w)) = f0 at *
    simp only [d10, b10_eq, body, denSs, denS, den, denB, denV, denP, denI, denO, denT, denTs, denF, denG, denGs, both_1, both_2, cmpB_1, cmpB_2, bind_ok, bind_exc, bind_stuck, go_ok, go_exc, go_stuck, nxt_nx, nxt_rt, nxt_bk, nxt_ct, nxt_exc, litD, List.length_cons, List.length_nil, List.map_cons, List.map_nil, List.getElem?_cons_zero, List.getElem?_cons_succ, List.cons_append, List.nil_append, List.replicate, List.set_cons_zero, List.set_cons_succ, wipeE, Nat.reduceAdd, Nat.reduceSub, Nat.reduceEqDiff, Nat.reduceLT, Nat.zero_add, if_true, if_false, Bool.false_eq_true, Bool.not_true, Bool.not_false, beq_self_eq_true, lv_pd, lv_fn, take_self, bq_ft, bq_tf, tests, toP, t0, tr_bool, fl, c_lt_i, n2, c_eq_i, m2, decide_true, i0, c1, e1]
  | few vs =>
    have i1 : idxV (.pd (toD (.few vs))) (.pd (.int 1)) S = .ok (.pd (.tuple (vs.map .int))) S := Rx.i_t (s := S) (by decide) rfl
    have fl : bltV .len [.pd (toD (.few vs))] S = .ok (.pd (.int 2)) S := rfl
    have ef := wValues (by omega : 3 ≤ n) vs S h.1 h.2.1 h.2.2
    have c1 : cmpV .eq (.pd (Rx.S (fstW (.few vs)))) (.pd (Rx.S [102, 114, 111, 109])) S = .ok false S := ceq _
    have c2 : cmpV .eq (.pd (Rx.S (fstW (.few vs)))) (.pd (Rx.S [102, 111, 114, 109])) S = .ok false S := ceq _
    have c3 : cmpV .eq (.pd (Rx.S (fstW (.few vs)))) (.pd (Rx.S [110, 97, 109, 101])) S = .ok false S := ceq _
    have c4 : cmpV .eq (.pd (Rx.S (fstW (.few vs)))) (.pd (Rx.S [102, 101, 119, 101, 115, 116])) S = .ok true S := ceq _
    have e1 : R (n + 1) 9 [.pd (toD (.few vs))] S = .ok (.pd (.bool true)) S := by
      rw [R_eq (d := d9) rfl]
      generalize toD (.few vs) = d0 at *
      generalize R n = call at *
      clear ceq cin cp
      generalize Rx.S (fstW (.few vs)) = f0 at *
      simp only [d9, b9_eq, body, denSs, denS, den, denB, denV, denP, denI, denO, denT, denTs, denF, denG, denGs, both_1, both_2, cmpB_1, cmpB_2, bind_ok, bind_exc, bind_stuck, go_ok, go_exc, go_stuck, nxt_nx, nxt_rt, nxt_bk, nxt_ct, nxt_exc, litD, List.length_cons, List.length_nil, List.map_cons, List.map_nil, List.getElem?_cons_zero, List.getElem?_cons_succ, List.cons_append, List.nil_append, List.replicate, List.set_cons_zero, List.set_cons_succ, wipeE, Nat.reduceAdd, Nat.reduceSub, Nat.reduceEqDiff, Nat.reduceLT, Nat.zero_add, if_true, if_false, Bool.false_eq_true, Bool.not_true, Bool.not_false, beq_self_eq_true, lv_pd, lv_fn, take_self, bq_ft, bq_tf, tests, toP, i0, c2, c3, c4, i1, ef, tr_bool]
    rw [R_eq (d := d10) rfl]
    generalize toD (.few vs) = d0 at *
    generalize R (n + 1) = call at *
    clear ceq cin cp
    generalize Rx.S (fstW (.few vs)) = f0 at *
    simp only [d10, b10_eq, body, denSs, denS, den, denB, denV, denP, denI, denO, denT, denTs, denF, denG, denGs, both_1, both_2, cmpB_1, cmpB_2, bind_ok, bind_exc, bind_stuck, go_ok, go_exc, go_stuck, nxt_nx, nxt_rt, nxt_bk, nxt_ct, nxt_exc, litD, List.length_cons, List.length_nil, List.map_cons, List.map_nil, List.getElem?_cons_zero, List.getElem?_cons_succ, List.cons_append, List.nil_append, List.replicate, List.set_cons_zero, List.set_cons_succ, wipeE, Nat.reduceAdd, Nat.reduceSub, Nat.reduceEqDiff, Nat.reduceLT, Nat.zero_add, if_true, if_false, Bool.false_eq_true, Bool.not_true, Bool.not_false, beq_self_eq_true, lv_pd, lv_fn, take_self, bq_ft, bq_tf, tests, toP, t0, tr_bool, fl, c_lt_i, n2, c_eq_i, m2, decide_true, i0, c1, e1]
  | frm a =>
    have fl : bltV .len [.pd (toD (.frm a))] S = .ok (.pd (.int 2)) S := rfl
    have c1 : cmpV .eq (.pd (Rx.S (fstW (.frm a)))) (.pd (Rx.S [102, 114, 111, 109])) S = .ok true S := ceq _
    rw [R_eq (d := d10) rfl]
    generalize toD (.frm a) = d0 at *
    generalize R (n + 1) = call at *
    clear ceq cin cp
    generalize Rx.S (fstW (.frm a)) = f0 at *
    simp only [d10, b10_eq, body, denSs, denS, den, denB, denV, denP, denI, denO, denT, denTs, denF, denG, denGs, both_1, both_2, cmpB_1, cmpB_2, bind_ok, bind_exc, bind_stuck, go_ok, go_exc, go_stuck, nxt_nx, nxt_rt, nxt_bk, nxt_ct, nxt_exc, litD, List.length_cons, List.length_nil, List.map_cons, List.map_nil, List.getElem?_cons_zero, List.getElem?_cons_succ, List.cons_append, List.nil_append, List.replicate, List.set_cons_zero, List.set_cons_succ, wipeE, Nat.reduceAdd, Nat.reduceSub, Nat.reduceEqDiff, Nat.reduceLT, Nat.zero_add, if_true, if_false, Bool.false_eq_true, Bool.not_true, Bool.not_false, beq_self_eq_true, lv_pd, lv_fn, take_self, bq_ft, bq_tf, tests, toP, t0, tr_bool, fl, c_lt_i, n2, c_eq_i, m2, decide_true, i0, c1]
  | wher a lo hi =>
    have fl : bltV .len [.pd (toD (.wher a lo hi))] S = .ok (.pd (.int 4)) S := rfl
    have i2 : idxV (.pd (toD (.wher a lo hi))) (.pd (.int 2)) S = .ok (.pd (intD lo)) S := Rx.i_t (s := S) (by decide) rfl
    have i3 : idxV (.pd (toD (.wher a lo hi))) (.pd (.int 3)) S = .ok (.pd (intD hi)) S := Rx.i_t (s := S) (by decide) rfl
    have e2 := wBound (by omega : 2 ≤ n + 1) (intD lo) S (okI_intD lo).n
    have e3 := wBound (by omega : 2 ≤ n + 1) (intD hi) S (okI_intD hi).n
    have b2 : bndD (intD lo) = true := by cases lo <;> rfl
    have b3 : bndD (intD hi) = true := by cases hi <;> rfl
    rw [b2] at e2
    rw [b3] at e3
    have c1 : cmpV .eq (.pd (Rx.S (fstW (.wher a lo hi)))) (.pd (Rx.S [119, 104, 101, 114, 101])) S = .ok true S := ceq _
    rw [R_eq (d := d10) rfl]
    generalize toD (.wher a lo hi) = d0 at *
    generalize R (n + 1) = call at *
    clear ceq cin cp
    generalize Rx.S (fstW (.wher a lo hi)) = f0 at *
    simp only [d10, b10_eq, body, denSs, denS, den, denB, denV, denP, denI, denO, denT, denTs, denF, denG, denGs, both_1, both_2, cmpB_1, cmpB_2, bind_ok, bind_exc, bind_stuck, go_ok, go_exc, go_stuck, nxt_nx, nxt_rt, nxt_bk, nxt_ct, nxt_exc, litD, List.length_cons, List.length_nil, List.map_cons, List.map_nil, List.getElem?_cons_zero, List.getElem?_cons_succ, List.cons_append, List.nil_append, List.replicate, List.set_cons_zero, List.set_cons_succ, wipeE, Nat.reduceAdd, Nat.reduceSub, Nat.reduceEqDiff, Nat.reduceLT, Nat.zero_add, if_true, if_false, Bool.false_eq_true, Bool.not_true, Bool.not_false, beq_self_eq_true, lv_pd, lv_fn, take_self, bq_ft, bq_tf, tests, toP, t0, tr_bool, fl, c_lt_i, n4, c_eq_i, m4, p4, decide_true, i0, i2, i3, c1, e2, e3]
  | divided a k =>
    have fl : bltV .len [.pd (toD (.divided a k))] S = .ok (.pd (.int 3)) S := rfl
    have i2 : idxV (.pd (toD (.divided a k))) (.pd (.int 2)) S = .ok (.pd (.int k)) S := Rx.i_t (s := S) (by decide) rfl
    have e2 := wBetween (by omega : 2 ≤ n + 1) (.int k) 1 1000 S trivial
    have b2 : betw (.int k) 1 1000 = true := by
      simp only [betw, Bool.and_eq_true, decide_eq_true_eq]
      exact h
    rw [b2] at e2
    have c1 : cmpV .eq (.pd (Rx.S (fstW (.divided a k)))) (.pd (Rx.S [100, 105, 118, 105, 100, 101, 100])) S = .ok true S := ceq _
    rw [R_eq (d := d10) rfl]
    generalize toD (.divided a k) = d0 at *
    generalize R (n + 1) = call at *
    clear ceq cin cp
    generalize Rx.S (fstW (.divided a k)) = f0 at *
    simp only [d10, b10_eq, body, denSs, denS, den, denB, denV, denP, denI, denO, denT, denTs, denF, denG, denGs, both_1, both_2, cmpB_1, cmpB_2, bind_ok, bind_exc, bind_stuck, go_ok, go_exc, go_stuck, nxt_nx, nxt_rt, nxt_bk, nxt_ct, nxt_exc, litD, List.length_cons, List.length_nil, List.map_cons, List.map_nil, List.getElem?_cons_zero, List.getElem?_cons_succ, List.cons_append, List.nil_append, List.replicate, List.set_cons_zero, List.set_cons_succ, wipeE, Nat.reduceAdd, Nat.reduceSub, Nat.reduceEqDiff, Nat.reduceLT, Nat.zero_add, if_true, if_false, Bool.false_eq_true, Bool.not_true, Bool.not_false, beq_self_eq_true, lv_pd, lv_fn, take_self, bq_ft, bq_tf, tests, toP, t0, tr_bool, fl, c_lt_i, n3, c_eq_i, c_ne_i, m3, p3, q3, i0, i2, c1, e2]
  | times a k =>
    have fl : bltV .len [.pd (toD (.times a k))] S = .ok (.pd (.int 3)) S := rfl
    have i2 : idxV (.pd (toD (.times a k))) (.pd (.int 2)) S = .ok (.pd (.int k)) S := Rx.i_t (s := S) (by decide) rfl
    have e2 : R (n + 1) 0 [.pd (.int k)] S = .ok (.pd (.bool true)) S := wInteger (by omega : 1 ≤ n + 1) (.int k) S trivial
    have c1 : cmpV .eq (.pd (Rx.S (fstW (.times a k)))) (.pd (Rx.S [100, 105, 118, 105, 100, 101, 100])) S = .ok false S := ceq _
    have c2 : cmpV .inn (.pd (Rx.S (fstW (.times a k)))) (.pd (.tuple [Rx.S [116, 105, 109, 101, 115], Rx.S [109, 111, 118, 101, 100]])) S = .ok true S := cin
    rw [R_eq (d := d10) rfl]
    generalize toD (.times a k) = d0 at *
    generalize R (n + 1) = call at *
    clear ceq cin cp
    generalize Rx.S (fstW (.times a k)) = f0 at *
    simp only [d10, b10_eq, body, denSs, denS, den, denB, denV, denP, denI, denO, denT, denTs, denF, denG, denGs, both_1, both_2, cmpB_1, cmpB_2, bind_ok, bind_exc, bind_stuck, go_ok, go_exc, go_stuck, nxt_nx, nxt_rt, nxt_bk, nxt_ct, nxt_exc, litD, List.length_cons, List.length_nil, List.map_cons, List.map_nil, List.getElem?_cons_zero, List.getElem?_cons_succ, List.cons_append, List.nil_append, List.replicate, List.set_cons_zero, List.set_cons_succ, wipeE, Nat.reduceAdd, Nat.reduceSub, Nat.reduceEqDiff, Nat.reduceLT, Nat.zero_add, if_true, if_false, Bool.false_eq_true, Bool.not_true, Bool.not_false, beq_self_eq_true, lv_pd, lv_fn, take_self, bq_ft, bq_tf, tests, toP, t0, tr_bool, fl, c_lt_i, n3, c_eq_i, c_ne_i, m3, p3, q3, i0, i2, c1, c2, e2, l2]
  | moved a k =>
    have fl : bltV .len [.pd (toD (.moved a k))] S = .ok (.pd (.int 3)) S := rfl
    have i2 : idxV (.pd (toD (.moved a k))) (.pd (.int 2)) S = .ok (.pd (.int k)) S := Rx.i_t (s := S) (by decide) rfl
    have e2 : R (n + 1) 0 [.pd (.int k)] S = .ok (.pd (.bool true)) S := wInteger (by omega : 1 ≤ n + 1) (.int k) S trivial
    have c1 : cmpV .eq (.pd (Rx.S (fstW (.moved a k)))) (.pd (Rx.S [100, 105, 118, 105, 100, 101, 100])) S = .ok false S := ceq _
    have c2 : cmpV .inn (.pd (Rx.S (fstW (.moved a k)))) (.pd (.tuple [Rx.S [116, 105, 109, 101, 115], Rx.S [109, 111, 118, 101, 100]])) S = .ok true S := cin
    rw [R_eq (d := d10) rfl]
    generalize toD (.moved a k) = d0 at *
    generalize R (n + 1) = call at *
    clear ceq cin cp
    generalize Rx.S (fstW (.moved a k)) = f0 at *
    simp only [d10, b10_eq, body, denSs, denS, den, denB, denV, denP, denI, denO, denT, denTs, denF, denG, denGs, both_1, both_2, cmpB_1, cmpB_2, bind_ok, bind_exc, bind_stuck, go_ok, go_exc, go_stuck, nxt_nx, nxt_rt, nxt_bk, nxt_ct, nxt_exc, litD, List.length_cons, List.length_nil, List.map_cons, List.map_nil, List.getElem?_cons_zero, List.getElem?_cons_succ, List.cons_append, List.nil_append, List.replicate, List.set_cons_zero, List.set_cons_succ, wipeE, Nat.reduceAdd, Nat.reduceSub, Nat.reduceEqDiff, Nat.reduceLT, Nat.zero_add, if_true, if_false, Bool.false_eq_true, Bool.not_true, Bool.not_false, beq_self_eq_true, lv_pd, lv_fn, take_self, bq_ft, bq_tf, tests, toP, t0, tr_bool, fl, c_lt_i, n3, c_eq_i, c_ne_i, m3, p3, q3, i0, i2, c1, c2, e2, l2]
  | pair k a b =>
    have fl : bltV .len [.pd (toD (.pair k a b))] S = .ok (.pd (.int 3)) S := rfl
    have hk : ∀ k < 7, decide (pw k = [100, 105, 118, 105, 100, 101, 100]) = false ∧ (([[116, 105, 109, 101, 115], [109, 111, 118, 101, 100]] : List W).any fun z => decide (z = pw k)) = false := by decide
    have c1 := ceq [100, 105, 118, 105, 100, 101, 100]
    replace c1 : cmpV .eq (.pd (Rx.S (fstW (.pair k a b)))) (.pd (Rx.S [100, 105, 118, 105, 100, 101, 100])) S = .ok (decide (pw k = [100, 105, 118, 105, 100, 101, 100])) S := c1
    rw [(hk k h).1] at c1
    replace cin : cmpV .inn (.pd (Rx.S (fstW (.pair k a b)))) (.pd (.tuple [Rx.S [116, 105, 109, 101, 115], Rx.S [109, 111, 118, 101, 100]])) S = .ok (([[116, 105, 109, 101, 115], [109, 111, 118, 101, 100]] : List W).any fun z => decide (z = pw k)) S := cin
    rw [(hk k h).2] at cin
    replace cp : cmpV .inn (.pd (Rx.S (fstW (.pair k a b)))) (.pd (.tuple (pairWs.map Rx.S))) S = .ok true S := cp
    rw [R_eq (d := d10) rfl]
    generalize toD (.pair k a b) = d0 at *
    generalize R (n + 1) = call at *
    clear ceq
    generalize Rx.S (fstW (.pair k a b)) = f0 at *
    generalize pairWs.map Rx.S = ps at *
    simp only [d10, b10_eq, body, denSs, denS, den, denB, denV, denP, denI, denO, denT, denTs, denF, denG, denGs, both_1, both_2, cmpB_1, cmpB_2, bind_ok, bind_exc, bind_stuck, go_ok, go_exc, go_stuck, nxt_nx, nxt_rt, nxt_bk, nxt_ct, nxt_exc, litD, List.length_cons, List.length_nil, List.map_cons, List.map_nil, List.getElem?_cons_zero, List.getElem?_cons_succ, List.cons_append, List.nil_append, List.replicate, List.set_cons_zero, List.set_cons_succ, wipeE, Nat.reduceAdd, Nat.reduceSub, Nat.reduceEqDiff, Nat.reduceLT, Nat.zero_add, if_true, if_false, Bool.false_eq_true, Bool.not_true, Bool.not_false, beq_self_eq_true, lv_pd, lv_fn, take_self, bq_ft, bq_tf, tests, toP, t0, tr_bool, fl, c_lt_i, n3, c_eq_i, c_ne_i, m3, p3, q3, i0, k1, c1, cin, cp, l2]
end K61


set_option linter.all false
set_option Elab.async false
set_option maxRecDepth 100000
set_option maxHeartbeats 2000000
namespace K61
open PySem Rx
/-! tuples, read -/
def nf : Fo := .form ⟨[], [none]⟩
def skel : Fo → Fo
  | .pair k _ _ => .pair k nf nf
  | .times _ k => .times nf k
  | .divided _ k => .divided nf k
  | .wher _ lo hi => .wher nf lo hi
  | .moved _ k => .moved nf k
  | .frm _ => .frm nf
  | φ => φ
theorem skel_good {φ : Fo} (h : goodR φ) : goodR (skel φ) := by cases φ <;> exact h
theorem skel_fst (φ : Fo) : fstW (skel φ) = fstW φ := by cases φ <;> rfl
def rest : Fo → List D
  | .form f => [fmD f]
  | .name w => [Rx.S w]
  | .few vs => [.tuple (vs.map .int)]
  | .pair _ _ _ => []
  | .times _ k => [.int k]
  | .divided _ k => [.int k]
  | .wher _ lo hi => [intD lo, intD hi]
  | .moved _ k => [.int k]
  | .frm _ => []
theorem toD_rest (φ : Fo) : toD φ = .tuple (Rx.S (fstW φ) :: ((inner φ).map toD ++ rest φ)) := by cases φ <;> rfl
theorem skel_len (φ : Fo) : (inner (skel φ)).length = (inner φ).length := by cases φ <;> rfl
theorem skel_rest (φ : Fo) : rest (skel φ) = rest φ := by cases φ <;> rfl
theorem slc_one (φ : Fo) (S : Sto) : slcI (.pd (toD φ)) none (some 1) S = .ok (.pd (.tuple [Rx.S (fstW φ)])) S := by
  rw [toD_eq]
  rfl
theorem slc_rest (φ : Fo) (S : Sto) : slcI (.pd (toD φ)) (some (1 + ((inner φ).length : Int))) none S = .ok (.pd (.tuple (rest φ))) S := by
  rw [toD_rest, Rx.z_t, Rx.cut_from _ (by omega)]
  have : (1 + ((inner φ).length : Int)).toNat = (inner φ).length + 1 := by omega
  rw [this, List.drop_succ_cons, List.drop_left' (by rw [List.length_map])]
theorem fst_head {φ : Fo} (h : goodR φ) : decide (fstW φ = wHead) = false := by
  cases φ with
  | pair k a b =>
    have : ∀ k < 7, decide (pw k = wHead) = false := by decide
    exact this k h
  | _ => rfl
theorem rowWs_ne {φ : Fo} (hf : ∀ f, φ ≠ .form f) : ∃ r, rowWs φ = fstW φ :: r := by
  cases φ with
  | form f => exact absurd rfl (hf f)
  | _ => exact ⟨_, rfl⟩
/-- how the tuple ends -/
theorem rowEnd {n : Nat} (hn : 5 ≤ n) (φ : Fo) (S : Sto) (h : goodR φ) (hf : ∀ f, φ ≠ .form f) (v0 v1 v3 : Option Dv) :
    (den kons (R n) (.ifx (.bop true (.cons (.cmp .isnot (.var 2) (.cst .non)) (.cons (.cmp .ne (.idx (.var 2) (.cst (.int (0)))) (.cst (.str [102, 111, 114, 109]))) (.cons (.call 10 (.cons (.var 2) .nil)) .nil)))) (.var 2) (.cst .non))).1 [v0, v1, some (.pd (toD (skel φ))), v3] S = .ok (.pd (toD (skel φ))) S := by
  have i0 : idxV (.pd (toD (skel φ))) (.pd (.int 0)) S = .ok (.pd (Rx.S (fstW φ))) S := by rw [toD_eq, skel_fst]; exact Rx.i_t (s := S) (by decide) rfl
  have c1 := Rx.c_ne_S (s := S) (fstW φ) wForm
  have q1 : decide (fstW φ = wForm) = false := by
    cases φ with
    | form f => exact absurd rfl (hf f)
    | pair k a b =>
      have : ∀ k < 7, decide (pw k = wForm) = false := by decide
      exact this k h
    | _ => rfl
  rw [q1] at c1
  replace c1 : cmpV .ne (.pd (Rx.S (fstW φ))) (.pd (Rx.S [102, 111, 114, 109])) S = .ok true S := c1
  have c2 : cmpV .isnot (.pd (toD (skel φ))) (.pd .none) S = .ok true S := by rw [c_isnot_none, toD_eq]; rfl
  have e1 := wRight hn (skel φ) S (skel_good h)
  generalize toD (skel φ) = d0 at *
  generalize Rx.S (fstW φ) = f0 at *
  generalize R n = call at *
  simp only [body, denSs, denS, den, denB, denV, denP, denI, denO, denT, denTs, denF, denG, denGs, both_1, both_2, cmpB_1, cmpB_2, bind_ok, bind_exc, bind_stuck, go_ok, go_exc, go_stuck, nxt_nx, nxt_rt, nxt_bk, nxt_ct, nxt_exc, litD, List.length_cons, List.length_nil, List.map_cons, List.map_nil, List.getElem?_cons_zero, List.getElem?_cons_succ, List.cons_append, List.nil_append, List.replicate, List.set_cons_zero, List.set_cons_succ, wipeE, Nat.reduceAdd, Nat.reduceSub, Nat.reduceEqDiff, Nat.reduceLT, Nat.zero_add, if_true, if_false, Bool.false_eq_true, Bool.not_true, Bool.not_false, beq_self_eq_true, lv_pd, lv_fn, take_self, bq_ft, bq_tf, tests, toP, c2, i0, c1, e1, tr_bool]
theorem rowElse {n : Nat} (hn : 6 ≤ n) (φ : Fo) (S : Sto) (h : goodR φ) (hf : ∀ f, φ ≠ .form f) (os : List OI) (ho : ∀ o ∈ os, smO o) (hl : os.length ≤ 2) (hw : rowWs φ = fstW φ :: os.map wordO) (hd : toD (skel φ) = .tuple ([Rx.S (fstW φ), toD nf] ++ os.map intD)) (hp : isPair φ = false) (q1 : decide (fstW φ = [102, 114, 111, 109]) = false) (q2 : decide (fstW φ = [110, 97, 109, 101]) = false) (q3 : decide (fstW φ = [102, 101, 119, 101, 115, 116]) = false) : R n 29 [.pd (.list ((rowWs φ).map Rx.S))] S = .ok (.pd (toD (skel φ))) S := by
  obtain ⟨n, rfl⟩ : ∃ m, n = m + 1 := ⟨n - 1, by omega⟩
  have ln := line_val
  have l2 := le_line 2 (by decide)
  have l3 := le_line 3 (by decide)
  have k1 : kons[2]? = some (.tuple (pairWs.map Rx.S)) := rfl
  have k2 : kons[5]? = some (toD nf) := rfl
  have en := rowEnd (by omega : 5 ≤ n) φ S h hf none none none
  have cp := in_ws_t (fstW φ) pairWs S
  rw [any_pair h, hp] at cp
  have c1 := Rx.c_eq_S (s := S) (fstW φ) [102, 114, 111, 109]
  have c2 := Rx.c_eq_S (s := S) (fstW φ) [110, 97, 109, 101]
  have c3 := Rx.c_eq_S (s := S) (fstW φ) [102, 101, 119, 101, 115, 116]
  rw [q1] at c1
  rw [q2] at c2
  rw [q3] at c3
  have i0 : idxV (.pd (.list ((rowWs φ).map Rx.S))) (.pd (.int 0)) S = .ok (.pd (Rx.S (fstW φ))) S := by rw [hw]; exact Rx.i_l (s := S) (by decide) rfl
  have z1 : slcI (.pd (.list ((rowWs φ).map Rx.S))) (some 1) none S = .ok (.pd (.list (os.map fun o => Rx.S (wordO o)))) S := by
    rw [Rx.z_l, Rx.cut_map, Rx.cut_from _ (by decide), hw]
    show Res.ok (Dv.pd (.list ((os.map wordO).map Rx.S))) S = _
    rw [List.map_map]
    rfl
  have lc1 : ∀ v1 v2 v3, (den kons (R n) l29_2).1 [some (.pd (.list ((rowWs φ).map Rx.S))), v1, v2, v3] S = .ok (.pd (.list (os.map intD))) S := fun v1 v2 v3 => by
    refine Rx.lc_map (xs := os) (fun o => Rx.S (wordO o)) intD ?_ (fun o hm => ?_) (by omega)
    · refine Rx.it_val (v := .pd (.list (os.map fun o => Rx.S (wordO o)))) (s' := S) ?_ rfl
      generalize R n = call
      generalize (rowWs φ).map Rx.S = ys at *
      simp only [body, denSs, denS, den, denB, denV, denP, denI, denO, denT, denTs, denF, denG, denGs, both_1, both_2, cmpB_1, cmpB_2, bind_ok, bind_exc, bind_stuck, go_ok, go_exc, go_stuck, nxt_nx, nxt_rt, nxt_bk, nxt_ct, nxt_exc, litD, List.length_cons, List.length_nil, List.map_cons, List.map_nil, List.getElem?_cons_zero, List.getElem?_cons_succ, List.cons_append, List.nil_append, List.replicate, List.set_cons_zero, List.set_cons_succ, wipeE, Nat.reduceAdd, Nat.reduceSub, Nat.reduceEqDiff, Nat.reduceLT, Nat.zero_add, if_true, if_false, Bool.false_eq_true, Bool.not_true, Bool.not_false, beq_self_eq_true, lv_pd, lv_fn, take_self, bq_ft, bq_tf, tests, toP, z1]
    · have e := wOptOf (by omega : 3 ≤ n) (wordO o) S (by have := wordO_len (ho o hm); omega)
      rw [optD_back (ho o hm)] at e
      replace e : R n 15 [.pd (Rx.S (wordO o)), .pd (Rx.S [110, 111, 110, 101])] S = _ := e
      generalize R n = call at *
      simp only [Rx.lcT, body, denSs, denS, den, denB, denV, denP, denI, denO, denT, denTs, denF, denG, denGs, both_1, both_2, cmpB_1, cmpB_2, bind_ok, bind_exc, bind_stuck, go_ok, go_exc, go_stuck, nxt_nx, nxt_rt, nxt_bk, nxt_ct, nxt_exc, litD, List.length_cons, List.length_nil, List.map_cons, List.map_nil, List.getElem?_cons_zero, List.getElem?_cons_succ, List.cons_append, List.nil_append, List.replicate, List.set_cons_zero, List.set_cons_succ, wipeE, Nat.reduceAdd, Nat.reduceSub, Nat.reduceEqDiff, Nat.reduceLT, Nat.zero_add, if_true, if_false, Bool.false_eq_true, Bool.not_true, Bool.not_false, beq_self_eq_true, lv_pd, lv_fn, take_self, bq_ft, bq_tf, tests, toP, e]
  have t2 : bltV .tuple [.pd (.list (os.map intD))] S = .ok (.pd (.tuple (os.map intD))) S := rfl
  have a1 : binV .add (.pd (.tuple [Rx.S (fstW φ), toD nf])) (.pd (.tuple (os.map intD))) S = .ok (.pd (toD (skel φ))) S := by
    rw [hd]
    exact a_add_t (s := S) _ _ (by rw [List.length_map]; simp only [List.length_cons, List.length_nil]; omega)
  rw [R_eq (d := d29) rfl]
  clear z1 hd
  generalize (rowWs φ).map Rx.S = ws at *
  generalize os.map intD = ds at *
  generalize Rx.S (fstW φ) = f0 at *
  generalize pairWs.map Rx.S = ps at *
  generalize toD nf = nn at *
  generalize toD (skel φ) = d0 at *
  generalize R n = call at *
  simp only [body, denSs, denS, den, denB, denV, denP, denI, denO, denT, denTs, denF, denG, denGs, both_1, both_2, cmpB_1, cmpB_2, bind_ok, bind_exc, bind_stuck, go_ok, go_exc, go_stuck, nxt_nx, nxt_rt, nxt_bk, nxt_ct, nxt_exc, litD, List.length_cons, List.length_nil, List.map_cons, List.map_nil, List.getElem?_cons_zero, List.getElem?_cons_succ, List.cons_append, List.nil_append, List.replicate, List.set_cons_zero, List.set_cons_succ, wipeE, Nat.reduceAdd, Nat.reduceSub, Nat.reduceEqDiff, Nat.reduceLT, Nat.zero_add, if_true, if_false, Bool.false_eq_true, Bool.not_true, Bool.not_false, beq_self_eq_true, lv_pd, lv_fn, take_self, bq_ft, bq_tf, tests, toP] at en
  simp only [d29, b29_eq, body, denSs, denS, den, denB, denV, denP, denI, denO, denT, denTs, denF, denG, denGs, both_1, both_2, cmpB_1, cmpB_2, bind_ok, bind_exc, bind_stuck, go_ok, go_exc, go_stuck, nxt_nx, nxt_rt, nxt_bk, nxt_ct, nxt_exc, litD, List.length_cons, List.length_nil, List.map_cons, List.map_nil, List.getElem?_cons_zero, List.getElem?_cons_succ, List.cons_append, List.nil_append, List.replicate, List.set_cons_zero, List.set_cons_succ, wipeE, Nat.reduceAdd, Nat.reduceSub, Nat.reduceEqDiff, Nat.reduceLT, Nat.zero_add, if_true, if_false, Bool.false_eq_true, Bool.not_true, Bool.not_false, beq_self_eq_true, lv_pd, lv_fn, take_self, bq_ft, bq_tf, tests, toP, i0, k1, k2, cp, c1, c2, c3, lc1, t2, l2, a1, en]
theorem wRowOf {n : Nat} (hn : 6 ≤ n) (φ : Fo) (S : Sto) (h : goodR φ) (hf : ∀ f, φ ≠ .form f) : R n 29 [.pd (.list ((rowWs φ).map Rx.S))] S = .ok (.pd (toD (skel φ))) S := by
  obtain ⟨n, rfl⟩ : ∃ m, n = m + 1 := ⟨n - 1, by omega⟩
  have ln := line_val
  have l2 := le_line 2 (by decide)
  have l3 := le_line 3 (by decide)
  have k1 : kons[2]? = some (.tuple (pairWs.map Rx.S)) := rfl
  have k2 : kons[5]? = some (toD nf) := rfl
  have en := rowEnd (by omega : 5 ≤ n) φ S h hf none none none
  have cp := in_ws_t (fstW φ) pairWs S
  rw [any_pair h] at cp
  have ceq := fun w => Rx.c_eq_S (s := S) (fstW φ) w
  obtain ⟨r, hr⟩ := rowWs_ne hf
  have i0 : idxV (.pd (.list ((rowWs φ).map Rx.S))) (.pd (.int 0)) S = .ok (.pd (Rx.S (fstW φ))) S := by rw [hr]; exact Rx.i_l (s := S) (by decide) rfl
  have fl := Rx.len_ll (s := S) (rowWs φ)
  have o1 : decide ((1 : Int) = 1) = true := by decide
  cases φ with
  | form f => exact absurd rfl (hf f)
  | pair k a b =>
    rw [R_eq (d := d29) rfl]
    replace fl : bltV .len [.pd (.list ((rowWs (.pair k a b)).map Rx.S))] S = .ok (.pd (.int 1)) S := fl
    replace cp : cmpV .inn (.pd (Rx.S (fstW (.pair k a b)))) (.pd (.tuple (pairWs.map Rx.S))) S = .ok true S := cp
    have hd : toD (skel (.pair k a b)) = .tuple [Rx.S (fstW (.pair k a b)), toD nf, toD nf] := rfl
    rw [hd] at en ⊢
    clear ceq hr
    generalize (rowWs (.pair k a b)).map Rx.S = ws at *
    generalize Rx.S (fstW (.pair k a b)) = f0 at *
    generalize pairWs.map Rx.S = ps at *
    generalize toD nf = nn at *
    generalize R n = call at *
    simp only [body, denSs, denS, den, denB, denV, denP, denI, denO, denT, denTs, denF, denG, denGs, both_1, both_2, cmpB_1, cmpB_2, bind_ok, bind_exc, bind_stuck, go_ok, go_exc, go_stuck, nxt_nx, nxt_rt, nxt_bk, nxt_ct, nxt_exc, litD, List.length_cons, List.length_nil, List.map_cons, List.map_nil, List.getElem?_cons_zero, List.getElem?_cons_succ, List.cons_append, List.nil_append, List.replicate, List.set_cons_zero, List.set_cons_succ, wipeE, Nat.reduceAdd, Nat.reduceSub, Nat.reduceEqDiff, Nat.reduceLT, Nat.zero_add, if_true, if_false, Bool.false_eq_true, Bool.not_true, Bool.not_false, beq_self_eq_true, lv_pd, lv_fn, take_self, bq_ft, bq_tf, tests, toP] at en
    simp only [d29, b29_eq, body, denSs, denS, den, denB, denV, denP, denI, denO, denT, denTs, denF, denG, denGs, both_1, both_2, cmpB_1, cmpB_2, bind_ok, bind_exc, bind_stuck, go_ok, go_exc, go_stuck, nxt_nx, nxt_rt, nxt_bk, nxt_ct, nxt_exc, litD, List.length_cons, List.length_nil, List.map_cons, List.map_nil, List.getElem?_cons_zero, List.getElem?_cons_succ, List.cons_append, List.nil_append, List.replicate, List.set_cons_zero, List.set_cons_succ, wipeE, Nat.reduceAdd, Nat.reduceSub, Nat.reduceEqDiff, Nat.reduceLT, Nat.zero_add, if_true, if_false, Bool.false_eq_true, Bool.not_true, Bool.not_false, beq_self_eq_true, lv_pd, lv_fn, take_self, bq_ft, bq_tf, tests, toP, i0, k1, k2, cp, fl, c_eq_i, o1, decide_true, l3, en]
  | frm a =>
    rw [R_eq (d := d29) rfl]
    replace fl : bltV .len [.pd (.list ((rowWs (.frm a)).map Rx.S))] S = .ok (.pd (.int 1)) S := fl
    replace cp : cmpV .inn (.pd (Rx.S (fstW (.frm a)))) (.pd (.tuple (pairWs.map Rx.S))) S = .ok false S := cp
    have c1 : cmpV .eq (.pd (Rx.S (fstW (.frm a)))) (.pd (Rx.S [102, 114, 111, 109])) S = .ok true S := ceq _
    have hd : toD (skel (.frm a)) = .tuple [Rx.S (fstW (.frm a)), toD nf] := rfl
    rw [hd] at en ⊢
    clear ceq hr
    generalize (rowWs (.frm a)).map Rx.S = ws at *
    generalize Rx.S (fstW (.frm a)) = f0 at *
    generalize pairWs.map Rx.S = ps at *
    generalize toD nf = nn at *
    generalize R n = call at *
    simp only [body, denSs, denS, den, denB, denV, denP, denI, denO, denT, denTs, denF, denG, denGs, both_1, both_2, cmpB_1, cmpB_2, bind_ok, bind_exc, bind_stuck, go_ok, go_exc, go_stuck, nxt_nx, nxt_rt, nxt_bk, nxt_ct, nxt_exc, litD, List.length_cons, List.length_nil, List.map_cons, List.map_nil, List.getElem?_cons_zero, List.getElem?_cons_succ, List.cons_append, List.nil_append, List.replicate, List.set_cons_zero, List.set_cons_succ, wipeE, Nat.reduceAdd, Nat.reduceSub, Nat.reduceEqDiff, Nat.reduceLT, Nat.zero_add, if_true, if_false, Bool.false_eq_true, Bool.not_true, Bool.not_false, beq_self_eq_true, lv_pd, lv_fn, take_self, bq_ft, bq_tf, tests, toP] at en
    simp only [d29, b29_eq, body, denSs, denS, den, denB, denV, denP, denI, denO, denT, denTs, denF, denG, denGs, both_1, both_2, cmpB_1, cmpB_2, bind_ok, bind_exc, bind_stuck, go_ok, go_exc, go_stuck, nxt_nx, nxt_rt, nxt_bk, nxt_ct, nxt_exc, litD, List.length_cons, List.length_nil, List.map_cons, List.map_nil, List.getElem?_cons_zero, List.getElem?_cons_succ, List.cons_append, List.nil_append, List.replicate, List.set_cons_zero, List.set_cons_succ, wipeE, Nat.reduceAdd, Nat.reduceSub, Nat.reduceEqDiff, Nat.reduceLT, Nat.zero_add, if_true, if_false, Bool.false_eq_true, Bool.not_true, Bool.not_false, beq_self_eq_true, lv_pd, lv_fn, take_self, bq_ft, bq_tf, tests, toP, i0, k1, k2, cp, c1, fl, c_eq_i, o1, decide_true, l2, en]
  | name w =>
    rw [R_eq (d := d29) rfl]
    replace cp : cmpV .inn (.pd (Rx.S (fstW (.name w)))) (.pd (.tuple (pairWs.map Rx.S))) S = .ok false S := cp
    have c1 : cmpV .eq (.pd (Rx.S (fstW (.name w)))) (.pd (Rx.S [102, 114, 111, 109])) S = .ok false S := ceq _
    have c2 : cmpV .eq (.pd (Rx.S (fstW (.name w)))) (.pd (Rx.S [110, 97, 109, 101])) S = .ok true S := ceq _
    have t2 : bltV .tuple [.pd (.list ((rowWs (.name w)).map Rx.S))] S = .ok (.pd (toD (skel (.name w)))) S := rfl
    clear ceq hr
    generalize (rowWs (.name w)).map Rx.S = ws at *
    generalize Rx.S (fstW (.name w)) = f0 at *
    generalize pairWs.map Rx.S = ps at *
    generalize toD (skel (.name w)) = d0 at *
    generalize R n = call at *
    simp only [body, denSs, denS, den, denB, denV, denP, denI, denO, denT, denTs, denF, denG, denGs, both_1, both_2, cmpB_1, cmpB_2, bind_ok, bind_exc, bind_stuck, go_ok, go_exc, go_stuck, nxt_nx, nxt_rt, nxt_bk, nxt_ct, nxt_exc, litD, List.length_cons, List.length_nil, List.map_cons, List.map_nil, List.getElem?_cons_zero, List.getElem?_cons_succ, List.cons_append, List.nil_append, List.replicate, List.set_cons_zero, List.set_cons_succ, wipeE, Nat.reduceAdd, Nat.reduceSub, Nat.reduceEqDiff, Nat.reduceLT, Nat.zero_add, if_true, if_false, Bool.false_eq_true, Bool.not_true, Bool.not_false, beq_self_eq_true, lv_pd, lv_fn, take_self, bq_ft, bq_tf, tests, toP] at en
    simp only [d29, b29_eq, body, denSs, denS, den, denB, denV, denP, denI, denO, denT, denTs, denF, denG, denGs, both_1, both_2, cmpB_1, cmpB_2, bind_ok, bind_exc, bind_stuck, go_ok, go_exc, go_stuck, nxt_nx, nxt_rt, nxt_bk, nxt_ct, nxt_exc, litD, List.length_cons, List.length_nil, List.map_cons, List.map_nil, List.getElem?_cons_zero, List.getElem?_cons_succ, List.cons_append, List.nil_append, List.replicate, List.set_cons_zero, List.set_cons_succ, wipeE, Nat.reduceAdd, Nat.reduceSub, Nat.reduceEqDiff, Nat.reduceLT, Nat.zero_add, if_true, if_false, Bool.false_eq_true, Bool.not_true, Bool.not_false, beq_self_eq_true, lv_pd, lv_fn, take_self, bq_ft, bq_tf, tests, toP, i0, k1, k2, cp, c1, c2, t2, en]
  | few vs =>
    rw [R_eq (d := d29) rfl]
    replace cp : cmpV .inn (.pd (Rx.S (fstW (.few vs)))) (.pd (.tuple (pairWs.map Rx.S))) S = .ok false S := cp
    have c1 : cmpV .eq (.pd (Rx.S (fstW (.few vs)))) (.pd (Rx.S [102, 114, 111, 109])) S = .ok false S := ceq _
    have c2 : cmpV .eq (.pd (Rx.S (fstW (.few vs)))) (.pd (Rx.S [110, 97, 109, 101])) S = .ok false S := ceq _
    have c3 : cmpV .eq (.pd (Rx.S (fstW (.few vs)))) (.pd (Rx.S [102, 101, 119, 101, 115, 116])) S = .ok true S := ceq _
    have z1 : slcI (.pd (.list ((rowWs (.few vs)).map Rx.S))) (some 1) none S = .ok (.pd (.list (vs.map fun v => Rx.S (strI v)))) S := by
      rw [Rx.z_l, Rx.cut_map, Rx.cut_from _ (by decide)]
      show Res.ok (Dv.pd (.list ((vs.map strI).map Rx.S))) S = _
      rw [List.map_map]
      rfl
    have lc1 : ∀ v1 v2 v3, (den kons (R n) l29_1).1 [some (.pd (.list ((rowWs (.few vs)).map Rx.S))), v1, v2, v3] S = .ok (.pd (.list (vs.map .int))) S := fun v1 v2 v3 => by
      refine Rx.lc_map (xs := vs) (fun v => Rx.S (strI v)) PyData.int ?_ (fun v hv => ?_) (by have := h.1; omega)
      · refine Rx.it_val (v := .pd (.list (vs.map fun v => Rx.S (strI v)))) (s' := S) ?_ rfl
        generalize R n = call
        generalize (rowWs (.few vs)).map Rx.S = ys at *
        simp only [body, denSs, denS, den, denB, denV, denP, denI, denO, denT, denTs, denF, denG, denGs, both_1, both_2, cmpB_1, cmpB_2, bind_ok, bind_exc, bind_stuck, go_ok, go_exc, go_stuck, nxt_nx, nxt_rt, nxt_bk, nxt_ct, nxt_exc, litD, List.length_cons, List.length_nil, List.map_cons, List.map_nil, List.getElem?_cons_zero, List.getElem?_cons_succ, List.cons_append, List.nil_append, List.replicate, List.set_cons_zero, List.set_cons_succ, wipeE, Nat.reduceAdd, Nat.reduceSub, Nat.reduceEqDiff, Nat.reduceLT, Nat.zero_add, if_true, if_false, Bool.false_eq_true, Bool.not_true, Bool.not_false, beq_self_eq_true, lv_pd, lv_fn, take_self, bq_ft, bq_tf, tests, toP, z1]
      · have hs := sm_1000 (h.2.1 v hv)
        have e := wInt (by omega : 2 ≤ n) (strI v) S (by have : (strI v).length ≤ 40 := hs; omega)
        rw [intW_strI hs] at e
        generalize R n = call at *
        simp only [Rx.lcT, body, denSs, denS, den, denB, denV, denP, denI, denO, denT, denTs, denF, denG, denGs, both_1, both_2, cmpB_1, cmpB_2, bind_ok, bind_exc, bind_stuck, go_ok, go_exc, go_stuck, nxt_nx, nxt_rt, nxt_bk, nxt_ct, nxt_exc, litD, List.length_cons, List.length_nil, List.map_cons, List.map_nil, List.getElem?_cons_zero, List.getElem?_cons_succ, List.cons_append, List.nil_append, List.replicate, List.set_cons_zero, List.set_cons_succ, wipeE, Nat.reduceAdd, Nat.reduceSub, Nat.reduceEqDiff, Nat.reduceLT, Nat.zero_add, if_true, if_false, Bool.false_eq_true, Bool.not_true, Bool.not_false, beq_self_eq_true, lv_pd, lv_fn, take_self, bq_ft, bq_tf, tests, toP, e, intD]
    have t2 : bltV .tuple [.pd (.list (vs.map .int))] S = .ok (.pd (.tuple (vs.map .int))) S := rfl
    have hd : toD (skel (.few vs)) = .tuple [Rx.S (fstW (.few vs)), .tuple (vs.map .int)] := rfl
    rw [hd] at en ⊢
    clear ceq hr z1
    generalize (rowWs (.few vs)).map Rx.S = ws at *
    generalize Rx.S (fstW (.few vs)) = f0 at *
    generalize vs.map PyData.int = ds at *
    generalize pairWs.map Rx.S = ps at *
    generalize R n = call at *
    simp only [body, denSs, denS, den, denB, denV, denP, denI, denO, denT, denTs, denF, denG, denGs, both_1, both_2, cmpB_1, cmpB_2, bind_ok, bind_exc, bind_stuck, go_ok, go_exc, go_stuck, nxt_nx, nxt_rt, nxt_bk, nxt_ct, nxt_exc, litD, List.length_cons, List.length_nil, List.map_cons, List.map_nil, List.getElem?_cons_zero, List.getElem?_cons_succ, List.cons_append, List.nil_append, List.replicate, List.set_cons_zero, List.set_cons_succ, wipeE, Nat.reduceAdd, Nat.reduceSub, Nat.reduceEqDiff, Nat.reduceLT, Nat.zero_add, if_true, if_false, Bool.false_eq_true, Bool.not_true, Bool.not_false, beq_self_eq_true, lv_pd, lv_fn, take_self, bq_ft, bq_tf, tests, toP] at en
    simp only [d29, b29_eq, body, denSs, denS, den, denB, denV, denP, denI, denO, denT, denTs, denF, denG, denGs, both_1, both_2, cmpB_1, cmpB_2, bind_ok, bind_exc, bind_stuck, go_ok, go_exc, go_stuck, nxt_nx, nxt_rt, nxt_bk, nxt_ct, nxt_exc, litD, List.length_cons, List.length_nil, List.map_cons, List.map_nil, List.getElem?_cons_zero, List.getElem?_cons_succ, List.cons_append, List.nil_append, List.replicate, List.set_cons_zero, List.set_cons_succ, wipeE, Nat.reduceAdd, Nat.reduceSub, Nat.reduceEqDiff, Nat.reduceLT, Nat.zero_add, if_true, if_false, Bool.false_eq_true, Bool.not_true, Bool.not_false, beq_self_eq_true, lv_pd, lv_fn, take_self, bq_ft, bq_tf, tests, toP, i0, k1, k2, cp, c1, c2, c3, lc1, t2, l2, en]
  | times a k => exact rowElse (by omega) (.times a k) S h hf [some k] (fun o ho => by rw [List.mem_singleton] at ho; rw [ho]; intro i hi; cases hi; exact h) (by simp) rfl rfl rfl rfl rfl rfl
  | divided a k => exact rowElse (by omega) (.divided a k) S h hf [some k] (fun o ho => by rw [List.mem_singleton] at ho; rw [ho]; intro i hi; cases hi; exact sm_1000 h) (by simp) rfl rfl rfl rfl rfl rfl
  | moved a k => exact rowElse (by omega) (.moved a k) S h hf [some k] (fun o ho => by rw [List.mem_singleton] at ho; rw [ho]; intro i hi; cases hi; exact h) (by simp) rfl rfl rfl rfl rfl rfl
  | wher a lo hi =>
    have ho : ∀ o ∈ [lo, hi], smO o := fun o ho => by
      simp only [List.mem_cons, List.not_mem_nil, or_false] at ho
      rcases ho with e | e <;> rw [e]
      · exact h.1
      · exact h.2
    exact rowElse (by omega) (.wher a lo hi) S h hf [lo, hi] ho (by simp) rfl rfl rfl rfl rfl rfl
end K61


set_option linter.all false
set_option Elab.async false
set_option maxRecDepth 100000
set_option maxHeartbeats 2000000
namespace K61
open PySem Rx
/-! formulas, read -/
theorem cnt_get0 {S : Sto} {c : Nat} {x y : D} (h : S[c]? = some (.lst [x, y])) : getL (.ref c) (.pd (.int 0)) S = .ok (.pd x) S := by
  simp only [getL, h]
  rfl
theorem cnt_get1 {S : Sto} {c : Nat} {x y : D} (h : S[c]? = some (.lst [x, y])) : getL (.ref c) (.pd (.int 1)) S = .ok (.pd y) S := by
  simp only [getL, h]
  rfl
theorem cnt_set0 {S : Sto} {c : Nat} {x y : D} (v : D) (h : S[c]? = some (.lst [x, y])) : setV kons (.ref c) (.pd (.int 0)) v S = .ok () (S.set c (.lst [v, y])) := by
  simp only [setV, h]
  rfl
theorem cnt_set1 {S : Sto} {c : Nat} {x y : D} (v : D) (h : S[c]? = some (.lst [x, y])) : setV kons (.ref c) (.pd (.int 1)) v S = .ok () (S.set c (.lst [x, v])) := by
  simp only [setV, h]
  rfl
theorem av_add (a b : Int) (s : Sto) : augV .add (.pd (.int a)) (.pd (.int b)) s = .ok (.pd (.int (a + b))) s := rfl
theorem av_sub (a b : Int) (s : Sto) : augV .sub (.pd (.int a)) (.pd (.int b)) s = .ok (.pd (.int (a - b))) s := rfl
theorem po_pd (d : D) (s : Sto) : pdOf (.pd d) s = .ok d s := rfl
theorem lines_cons (φ : Fo) : lines φ = rowLs φ ++ (inner φ).flatMap lines := by
  unfold lines
  rw [rows_cons, List.flatMap_cons, List.flatMap_assoc]
theorem split_flat {β : Type} (f : Fo → List β) {l : List Fo} {i : Nat} (h : i < l.length) : l.flatMap f = (l.take i).flatMap f ++ (f l[i] ++ (l.drop (i + 1)).flatMap f) := by
  have e : l = l.take i ++ (l[i] :: l.drop (i + 1)) := by rw [← List.drop_eq_getElem_cons h, List.take_append_drop]
  conv => lhs; rw [e]
  rw [List.flatMap_append, List.flatMap_cons]
theorem rows_pos (φ : Fo) : 1 ≤ (rows φ).length := by rw [rows_cons]; simp
theorem flat_ge (l : List Fo) : l.length ≤ (l.flatMap rows).length := by
  induction l with
  | nil => simp
  | cons a l ih =>
    have := rows_pos a
    rw [List.flatMap_cons, List.length_append, List.length_cons]
    omega
theorem row_at {φ : Fo} (hf : ∀ f, φ ≠ .form f) : rowLs φ = [TL.joinL [32] (rowWs φ)] := by
  cases φ with
  | form f => exact absurd rfl (hf f)
  | _ => rfl
theorem wAt_row {φ : Fo} (h : goodR φ) (hf : ∀ f, φ ≠ .form f) {ls pre post : List W} (hl : ls = pre ++ (lines φ ++ post)) : wAt ls pre.length = some (rowWs φ) := by
  unfold wAt
  have : ls[pre.length]? = some (TL.joinL [32] (rowWs φ)) := by
    rw [hl, lines_cons, row_at hf, List.getElem?_append_right (Nat.le_refl _), Nat.sub_self]
    rfl
  rw [this]
  obtain ⟨r, hr⟩ := rowWs_ne hf
  exact wordsW_join (by rw [hr]; simp) fun w hw => (rowWs_ok h w hw).1
theorem wReadFormula : ∀ (h : Nat) (φ : Fo), height φ ≤ h → goodA φ → ∀ (n : Nat) (S : Sto) (ls pre post : List W) (depth c : Nat) (u w : Int), ls = pre ++ (lines φ ++ post) → lsOk ls → depth + height φ ≤ 11 → S[c]? = some (.lst [.int u, .int w]) → u + w + (rows φ).length ≤ 41 → h + 7 ≤ n →
    R n 30 [.pd (.list (ls.map Rx.S)), .pd (.int (pre.length : Nat)), .pd (.int (depth : Nat)), .ref c] S = .ok (.pd (.tuple [toD φ, .int ((pre.length + (lines φ).length : Nat) : Int)])) (S.set c (.lst [.int (u + (rows φ).length), .int (w - 1)])) := by
  intro h
  induction h with
  | zero => intro φ hh; cases φ <;> simp [height] at hh
  | succ h ih =>
    intro φ hh hg n S ls pre post depth c u w hls hok hdep hc hsum hn
    obtain ⟨n, rfl⟩ : ∃ m, n = m + 1 := ⟨n - 1, by omega⟩
    have ln := line_val
    have l2 := le_line 2 (by decide)
    have l0 : 0 ≤ line := Nat.zero_le _
    have hr := hg φ (self_rows φ)
    have e1 := wWordsAt (by omega : 2 ≤ n) ls pre.length S hok
    have hcl : c < S.length := (List.getElem?_eq_some_iff.mp hc).1
    have hset : ∀ X : Cell, (S.set c X)[c]? = some X := fun X => by rw [List.getElem?_set_self hcl]
    by_cases hf : ∃ f, φ = .form f
    · obtain ⟨f, rfl⟩ := hf
      have p1 : ls[pre.length]? = some (headW f) := by
        rw [hls, List.getElem?_append_right (Nat.le_refl _), Nat.sub_self]; rfl
      have p2 : ls[pre.length + 1]? = some (tailW f) := by
        rw [hls, List.getElem?_append_right (by omega), Nat.add_sub_cancel_left]; rfl
      have w1 : wAt ls pre.length = some (wHead :: f.head.map wordO) := by unfold wAt; rw [p1]; exact headW_words f
      rw [w1] at e1
      simp only [wAtR] at e1
      have i0 : idxV (.pd (.list ((wHead :: f.head.map wordO).map Rx.S))) (.pd (.int 0)) S = .ok (.pd (Rx.S wHead)) S := Rx.i_l (s := S) (by decide) rfl
      have c0 : cmpV .eq (.pd (Rx.S wHead)) (.pd (Rx.S [104, 101, 97, 100])) S = .ok true S := Rx.c_eq_S wHead wHead
      have e2 := fun s => wReadForm (by omega : 4 ≤ n) ls pre.length s hok
      rw [readF_good hr p1 p2] at e2
      simp only [exR] at e2
      have g0 := cnt_get0 hc
      have s0 := cnt_set0 (.int (u + 1)) hc
      have g1 := cnt_get1 (hset (.lst [.int (u + 1), .int w]))
      have s1 := cnt_set1 (.int (w - 1)) (hset (.lst [.int (u + 1), .int w]))
      rw [List.set_set] at s1
      have er : ((pre.length + (lines (.form f)).length : Nat) : Int) = (pre.length : Int) + 2 := by
        have : (lines (.form f)).length = 2 := rfl
        rw [this]; rfl
      have ec : u + ((rows (.form f)).length : Int) = u + 1 := rfl
      have ed : toD (.form f) = .tuple [Rx.S [102, 111, 114, 109], fmD f] := rfl
      rw [er, ec, ed, R_eq (d := d30) rfl]
      generalize (wHead :: f.head.map wordO).map Rx.S = ws at *
      generalize ls.map Rx.S = xs at *
      generalize fmD f = ff at *
      generalize (pre.length : Int) = at0 at *
      generalize R n = call at *
      clear ih hset
      simp only [d30, b30_eq, body, denSs, denS, den, denB, denV, denP, denI, denO, denT, denTs, denF, denG, denGs, both_1, both_2, cmpB_1, cmpB_2, bind_ok, bind_exc, bind_stuck, go_ok, go_exc, go_stuck, nxt_nx, nxt_rt, nxt_bk, nxt_ct, nxt_exc, litD, List.length_cons, List.length_nil, List.map_cons, List.map_nil, List.getElem?_cons_zero, List.getElem?_cons_succ, List.cons_append, List.nil_append, List.replicate, List.set_cons_zero, List.set_cons_succ, wipeE, Nat.reduceAdd, Nat.reduceSub, Nat.reduceEqDiff, Nat.reduceLT, Nat.zero_add, if_true, if_false, Bool.false_eq_true, Bool.not_true, Bool.not_false, beq_self_eq_true, lv_pd, lv_fn, take_self, bq_ft, bq_tf, tests, toP, e1, i0, c0, g0, s0, g1, s1, av_add, av_sub, po_pd, e2, l2, a_add_i]
      rw [List.take_of_length_le (by rw [List.length_set]; exact Nat.le_refl _)]
    · have hf : ∀ f, φ ≠ .form f := fun f e => hf ⟨f, e⟩
      obtain ⟨r0, hr0⟩ := rowWs_ne hf
      rw [wAt_row hr hf hls] at e1
      simp only [wAtR] at e1
      have i0 : idxV (.pd (.list ((rowWs φ).map Rx.S))) (.pd (.int 0)) S = .ok (.pd (Rx.S (fstW φ))) S := by rw [hr0]; exact Rx.i_l (s := S) (by decide) rfl
      have c0 := Rx.c_eq_S (s := S) (fstW φ) wHead
      rw [fst_head hr] at c0
      replace c0 : cmpV .eq (.pd (Rx.S (fstW φ))) (.pd (Rx.S [104, 101, 97, 100])) S = .ok false S := c0
      have e2 := wRowOf (by omega : 6 ≤ n) φ S hr hf
      have c1 : cmpV .is (.pd (toD (skel φ))) (.pd .none) S = .ok false S := by rw [c_is_none, toD_eq]; rfl
      have e3 := wInner (by omega : 1 ≤ n) (skel φ) S (skel_good hr)
      have f3 := Rx.f_len_t (s := S) ((inner (skel φ)).map toD)
      rw [List.length_map, skel_len] at f3
      have g0 := cnt_get0 hc
      have s0 := cnt_set0 (.int (u + 1)) hc
      have g1 := cnt_get1 (hset (.lst [.int (u + 1), .int w]))
      have s1 := cnt_set1 (.int (w + (((inner φ).length : Int) - 1))) (hset (.lst [.int (u + 1), .int w]))
      rw [List.set_set] at s1
      have hrl : (rows φ).length = ((inner φ).flatMap rows).length + 1 := by rw [rows_cons, List.length_cons]
      have hge := flat_ge (inner φ)
      have j0 : idxV (.ref c) (.pd (.int 0)) (S.set c (.lst [.int (u + 1), .int (w + (((inner φ).length : Int) - 1))])) = .ok (.pd (.int (u + 1))) _ := Rx.i_r (hset _) (by decide) rfl
      have j1 : idxV (.ref c) (.pd (.int 1)) (S.set c (.lst [.int (u + 1), .int (w + (((inner φ).length : Int) - 1))])) = .ok (.pd (.int (w + (((inner φ).length : Int) - 1)))) _ := Rx.i_r (hset _) (by decide) rfl
      have q1 : decide ((40 : Int) < u + 1 + (w + (((inner φ).length : Int) - 1))) = false := by rw [decide_eq_false_iff_not]; omega
      have k1 : kons[6]? = some (.int 40) := rfl
      have k2 : kons[7]? = some (.int 10) := rfl
      have q2 : 0 < (inner φ).length → decide ((depth : Int) = 10) = false := fun h0 => by
        have := height_inner (List.getElem_mem h0)
        have : 1 ≤ height (inner φ)[0] := by cases (inner φ)[0] <;> simp [height]
        rw [decide_eq_false_iff_not]; omega
      have il := inner_len φ
      obtain ⟨env', s', ef, o8, o9, rfl, rfl⟩ := Rx.forL_at (f := Rx.turn kons 0 (R n) (.name 8) t30_1) (all := rngD 0 (inner φ).length)
        (fun i env s => ∃ o8 o9 : Option Dv, env = [some (.pd (.list (ls.map Rx.S))), some (.pd (.int ((pre.length + 1 + (((inner φ).take i).flatMap lines).length : Nat) : Int))), some (.pd (.int (depth : Nat))), some (.ref c), some (.pd (.list ((rowWs φ).map Rx.S))), some (.pd (toD (skel φ))), some (.pd (.int ((inner φ).length : Nat))), some (.ref S.length), o8, o9] ∧ s = S.set c (.lst [.int (u + 1 + (((inner φ).take i).flatMap rows).length), .int (w + (((inner φ).length : Int) - 1) - (i : Nat))]) ++ [.lst (((inner φ).take i).map toD)])
        (env := [some (.pd (.list (ls.map Rx.S))), some (.pd (.int ((pre.length : Int) + 1))), some (.pd (.int (depth : Nat))), some (.ref c), some (.pd (.list ((rowWs φ).map Rx.S))), some (.pd (toD (skel φ))), some (.pd (.int ((inner φ).length : Nat))), some (.ref S.length), none, none]) (s := S.set c (.lst [.int (u + 1), .int (w + (((inner φ).length : Int) - 1))]) ++ [.lst []]) ⟨none, none, by simp, by simp⟩
        (fun i hi env s ⟨o8, o9, he, hs⟩ => by
          rw [Rx.rng_get, Int.zero_add]
          rw [Rx.rng_len] at hi
          have hm : (inner φ)[i] ∈ inner φ := List.getElem_mem hi
          have hh2 := height_inner hm
          have hcut := split_flat lines hi
          have hrow := split_flat rows hi
          have hdr := flat_ge ((inner φ).drop (i + 1))
          rw [List.length_drop] at hdr
          have hlr := congrArg List.length hrow
          rw [List.length_append, List.length_append] at hlr
          have hl2 : ls = (pre ++ (TL.joinL [32] (rowWs φ) :: ((inner φ).take i).flatMap lines)) ++ (lines (inner φ)[i] ++ (((inner φ).drop (i + 1)).flatMap lines ++ post)) := by
            rw [hls, lines_cons, row_at hf, hcut]
            simp
          have hpl : (pre ++ (TL.joinL [32] (rowWs φ) :: ((inner φ).take i).flatMap lines)).length = pre.length + 1 + (((inner φ).take i).flatMap lines).length := by
            simp only [List.length_append, List.length_cons]; omega
          have hget : s[c]? = some (.lst [.int (u + 1 + (((inner φ).take i).flatMap rows).length), .int (w + (((inner φ).length : Int) - 1) - (i : Nat))]) := by
            rw [hs, List.getElem?_append_left (by rw [List.length_set]; exact hcl), hset]
          have ei := ih (inner φ)[i] (by omega) (hg.inner hm) n s ls _ _ (depth + 1) c _ _ hl2 hok (by omega) hget (by omega) (by omega)
          rw [hpl] at ei
          have ed : ((depth + 1 : Nat) : Int) = (depth : Int) + 1 := rfl
          rw [ed] at ei
          have hs2 : s.set c (.lst [.int (u + 1 + (((inner φ).take i).flatMap rows).length + (rows (inner φ)[i]).length), .int (w + (((inner φ).length : Int) - 1) - (i : Nat) - 1)]) = S.set c (.lst [.int (u + 1 + (((inner φ).take (i + 1)).flatMap rows).length), .int (w + (((inner φ).length : Int) - 1) - ((i + 1 : Nat) : Int))]) ++ [.lst (((inner φ).take i).map toD)] := by
            rw [hs, List.set_append_left _ _ (by rw [List.length_set]; exact hcl), List.set_set, take_flat rows hi, List.length_append]
            congr 3
            congr 1
            · congr 1; omega
            · congr 2; omega
          rw [hs2] at ei
          have hg2 : (S.set c (.lst [.int (u + 1 + (((inner φ).take (i + 1)).flatMap rows).length), .int (w + (((inner φ).length : Int) - 1) - ((i + 1 : Nat) : Int))]) ++ [.lst (((inner φ).take i).map toD)])[S.length]? = some (.lst (((inner φ).take i).map toD)) := by
            rw [List.getElem?_append_right (by rw [List.length_set]; exact Nat.le_refl _), List.length_set, Nat.sub_self]; rfl
          have ea := Rx.v_app (toD (inner φ)[i]) hg2 (by rw [List.length_map, List.length_take]; omega)
          have ta := Rx.t_app hg2
          rw [List.set_append_right _ _ (by rw [List.length_set]; exact Nat.le_refl _), List.length_set, Nat.sub_self] at ea
          have hat : ((pre.length + 1 + (((inner φ).take i).flatMap lines).length + (lines (inner φ)[i]).length : Nat) : Int) = ((pre.length + 1 + (((inner φ).take (i + 1)).flatMap lines).length : Nat) : Int) := by
            rw [take_flat lines hi, List.length_append, Nat.add_assoc]
          rw [hat] at ei
          have hts : ((inner φ).take i).map toD ++ [toD (inner φ)[i]] = ((inner φ).take (i + 1)).map toD := by
            rw [take_snoc hi, List.map_append, List.map_cons, List.map_nil]
          refine ⟨[some (.pd (.list (ls.map Rx.S))), some (.pd (.int ((pre.length + 1 + (((inner φ).take (i + 1)).flatMap lines).length : Nat) : Int))), some (.pd (.int (depth : Nat))), some (.ref c), some (.pd (.list ((rowWs φ).map Rx.S))), some (.pd (toD (skel φ))), some (.pd (.int ((inner φ).length : Nat))), some (.ref S.length), some (.pd (.int (i : Nat))), some (.pd (toD (inner φ)[i]))], _, .inl ?_, _, _, rfl, rfl⟩
          rw [he]
          rw [← hts]
          replace ea : _ = Res.ok (Dv.pd PyData.none) (S.set c (.lst [.int (u + 1 + (((inner φ).take (i + 1)).flatMap rows).length), .int (w + (((inner φ).length : Int) - 1) - ((i + 1 : Nat) : Int))]) ++ [.lst (((inner φ).take i).map toD ++ [toD (inner φ)[i]])]) := ea
          generalize hS1 : (S.set c (.lst [.int (u + 1 + (((inner φ).take (i + 1)).flatMap rows).length), .int (w + (((inner φ).length : Int) - 1) - ((i + 1 : Nat) : Int))]) ++ [.lst (((inner φ).take i).map toD)]) = S1 at *
          generalize (S.set c (.lst [.int (u + 1 + (((inner φ).take (i + 1)).flatMap rows).length), .int (w + (((inner φ).length : Int) - 1) - ((i + 1 : Nat) : Int))]) ++ [.lst (((inner φ).take i).map toD ++ [toD (inner φ)[i]])]) = S2 at *
          generalize ((pre.length + 1 + (((inner φ).take (i + 1)).flatMap lines).length : Nat) : Int) = a1 at *
          generalize ((pre.length + 1 + (((inner φ).take i).flatMap lines).length : Nat) : Int) = a0 at *
          generalize toD (inner φ)[i] = di at *
          generalize toD (skel φ) = dk at *
          generalize (rowWs φ).map Rx.S = ws at *
          generalize ls.map Rx.S = xs at *
          generalize ((inner φ).length : Int) = kk at *
          generalize (depth : Int) = dd at *
          generalize R n = call at *
          clear hset ih hs hget hs2 hg2 hS1
          simp only [Rx.turn, t30_1, body, denSs, denS, den, denB, denV, denP, denI, denO, denT, denTs, denF, denG, denGs, both_1, both_2, cmpB_1, cmpB_2, bind_ok, bind_exc, bind_stuck, go_ok, go_exc, go_stuck, nxt_nx, nxt_rt, nxt_bk, nxt_ct, nxt_exc, litD, List.length_cons, List.length_nil, List.map_cons, List.map_nil, List.getElem?_cons_zero, List.getElem?_cons_succ, List.cons_append, List.nil_append, List.replicate, List.set_cons_zero, List.set_cons_succ, wipeE, Nat.reduceAdd, Nat.reduceSub, Nat.reduceEqDiff, Nat.reduceLT, Nat.zero_add, if_true, if_false, Bool.false_eq_true, Bool.not_true, Bool.not_false, beq_self_eq_true, lv_pd, lv_fn, take_self, bq_ft, bq_tf, tests, toP, a_add_i, ei, view, ea, ta])
      rw [Rx.rng_len, List.take_length] at ef
      have efo := Rx.fo_ok (C := kons) (call := R n) (t := .name 8) (b := t30_1) (it := .rng (.var 6)) (env := [some (.pd (.list (ls.map Rx.S))), some (.pd (.int ((pre.length : Int) + 1))), some (.pd (.int (depth : Nat))), some (.ref c), some (.pd (.list ((rowWs φ).map Rx.S))), some (.pd (toD (skel φ))), some (.pd (.int ((inner φ).length : Nat))), some (.ref S.length), none, none]) (s := S.set c (.lst [.int (u + 1), .int (w + (((inner φ).length : Int) - 1))]) ++ [.lst []]) (s' := S.set c (.lst [.int (u + 1), .int (w + (((inner φ).length : Int) - 1))]) ++ [.lst []]) (xs := rngD 0 (inner φ).length) (Rx.it_rngN (k := (inner φ).length) (by simp only [body, denSs, denS, den, denB, denV, denP, denI, denO, denT, denTs, denF, denG, denGs, both_1, both_2, cmpB_1, cmpB_2, bind_ok, bind_exc, bind_stuck, go_ok, go_exc, go_stuck, nxt_nx, nxt_rt, nxt_bk, nxt_ct, nxt_exc, litD, List.length_cons, List.length_nil, List.map_cons, List.map_nil, List.getElem?_cons_zero, List.getElem?_cons_succ, List.cons_append, List.nil_append, List.replicate, List.set_cons_zero, List.set_cons_succ, wipeE, Nat.reduceAdd, Nat.reduceSub, Nat.reduceEqDiff, Nat.reduceLT, Nat.zero_add, if_true, if_false, Bool.false_eq_true, Bool.not_true, Bool.not_false, beq_self_eq_true, lv_pd, lv_fn, take_self, bq_ft, bq_tf, tests, toP]) (by omega)) ef
      replace efo : denS kons 0 (R n) s30_1 _ _ = _ := efo
      have hX : S.set c (.lst [.int (u + 1 + ((inner φ).flatMap rows).length), .int (w + (((inner φ).length : Int) - 1) - ((inner φ).length : Nat))]) = S.set c (.lst [.int (u + (rows φ).length), .int (w - 1)]) := by
        congr 2
        congr 1
        · congr 1; omega
        · congr 2; omega
      rw [hX] at efo
      have hgf : (S.set c (.lst [.int (u + (rows φ).length), .int (w - 1)]) ++ [.lst ((inner φ).map toD)])[S.length]? = some (.lst ((inner φ).map toD)) := by
        rw [List.getElem?_append_right (by rw [List.length_set]; exact Nat.le_refl _), List.length_set, Nat.sub_self]; rfl
      have ft := Rx.f_tup_r hgf
      have z1 := fun s => slc_one (skel φ) s
      rw [skel_fst] at z1
      have z2 := fun s => slc_rest (skel φ) s
      rw [skel_len, skel_rest] at z2
      have a1 := fun s => a_add_t (s := s) [Rx.S (fstW φ)] ((inner φ).map toD) (by rw [List.length_map]; simp only [List.length_cons, List.length_nil]; omega)
      have a2 : ∀ s, binV .add (.pd (.tuple (Rx.S (fstW φ) :: (inner φ).map toD))) (.pd (.tuple (rest φ))) s = .ok (.pd (toD φ)) s := fun s => by
        have : (rest φ).length ≤ 2 := by cases φ <;> simp [rest]
        rw [a_add_t (s := s) _ _ (by simp only [List.length_cons, List.length_map]; omega), toD_rest]
        rfl
      have hpos : ((pre.length + (lines φ).length : Nat) : Int) = ((pre.length + 1 + ((inner φ).flatMap lines).length : Nat) : Int) := by
        rw [lines_cons, row_at hf, List.length_append, List.length_cons, List.length_nil]
        omega
      have lv : (S.set c (Cell.lst [.int (u + (rows φ).length), .int (w - 1)]) ++ [Cell.lst ((inner φ).map toD)]).take S.length = S.set c (.lst [.int (u + (rows φ).length), .int (w - 1)]) := List.take_left' (List.length_set ..)
      rw [hpos, R_eq (d := d30) rfl]
      have hB : decide ((0 : Int) < ((inner φ).length : Int)) = decide (0 < (inner φ).length) := by rw [decide_eq_decide]; omega
      clear ef hX hgf hpos hcl hset ih hls hr0
      generalize (S.set c (.lst [.int (u + (rows φ).length), .int (w - 1)]) ++ [.lst ((inner φ).map toD)]) = S2 at *
      generalize S.set c (.lst [.int (u + (rows φ).length), .int (w - 1)]) = S3 at *
      generalize ((pre.length + 1 + ((inner φ).flatMap lines).length : Nat) : Int) = a9 at *
      generalize (pre.length : Int) = a0 at *
      generalize hq0 : decide (0 < (inner φ).length) = b0 at *
      generalize ((inner φ).length : Int) = kk at *
      generalize (inner (skel φ)).map toD = dsk at *
      generalize (inner φ).map toD = dsi at *
      generalize toD φ = d0 at *
      generalize toD (skel φ) = dk at *
      generalize (rowWs φ).map Rx.S = ws at *
      generalize ls.map Rx.S = xs at *
      generalize Rx.S (fstW φ) = f0 at *
      generalize (depth : Int) = dd at *
      generalize R n = call at *
      cases b0 with
      | false => simp only [d30, b30_eq, body, denSs, denS, den, denB, denV, denP, denI, denO, denT, denTs, denF, denG, denGs, both_1, both_2, cmpB_1, cmpB_2, bind_ok, bind_exc, bind_stuck, go_ok, go_exc, go_stuck, nxt_nx, nxt_rt, nxt_bk, nxt_ct, nxt_exc, litD, List.length_cons, List.length_nil, List.map_cons, List.map_nil, List.getElem?_cons_zero, List.getElem?_cons_succ, List.cons_append, List.nil_append, List.replicate, List.set_cons_zero, List.set_cons_succ, wipeE, Nat.reduceAdd, Nat.reduceSub, Nat.reduceEqDiff, Nat.reduceLT, Nat.zero_add, if_true, if_false, Bool.false_eq_true, Bool.not_true, Bool.not_false, beq_self_eq_true, lv_pd, lv_fn, take_self, bq_ft, bq_tf, tests, toP, e1, i0, c0, e2, c1, e3, f3, g0, s0, g1, s1, av_add, av_sub, po_pd, a_sub_i, a_add_i, j0, j1, k1, k2, c_gt_i, q1, hB, newL, l0, List.length_set, efo, ft, z1, z2, a1, a2, l2, lv]
      | true =>
        have q3 := q2 (of_decide_eq_true hq0)
        simp only [d30, b30_eq, body, denSs, denS, den, denB, denV, denP, denI, denO, denT, denTs, denF, denG, denGs, both_1, both_2, cmpB_1, cmpB_2, bind_ok, bind_exc, bind_stuck, go_ok, go_exc, go_stuck, nxt_nx, nxt_rt, nxt_bk, nxt_ct, nxt_exc, litD, List.length_cons, List.length_nil, List.map_cons, List.map_nil, List.getElem?_cons_zero, List.getElem?_cons_succ, List.cons_append, List.nil_append, List.replicate, List.set_cons_zero, List.set_cons_succ, wipeE, Nat.reduceAdd, Nat.reduceSub, Nat.reduceEqDiff, Nat.reduceLT, Nat.zero_add, if_true, if_false, Bool.false_eq_true, Bool.not_true, Bool.not_false, beq_self_eq_true, lv_pd, lv_fn, take_self, bq_ft, bq_tf, tests, toP, e1, i0, c0, e2, c1, e3, f3, g0, s0, g1, s1, av_add, av_sub, po_pd, a_sub_i, a_add_i, j0, j1, k1, k2, c_gt_i, c_eq_i, q1, q3, hB, newL, l0, List.length_set, efo, ft, z1, z2, a1, a2, l2, lv]
end K61


set_option linter.all false
set_option Elab.async false
set_option maxRecDepth 100000
set_option maxHeartbeats 2000000
namespace K61
open PySem Rx
/-! texts of formulas, read back -/
theorem wParseFormula {n : Nat} (φ : Fo) (S : Sto) (hg : goodA φ) (hf : fits φ) (hh : height φ ≤ 10) (hn : height φ + 8 ≤ n) : R n 32 [.pd (Rx.S (foT φ))] S = .ok (.pd (toD φ)) S := by
  obtain ⟨n, rfl⟩ : ∃ m, n = m + 1 := ⟨n - 1, by omega⟩
  have ln := line_val
  have l1 := le_line 1 (by decide)
  have l2 := le_line 2 (by decide)
  have ht : (foT φ).length + 2 ≤ line := by have := foT_len hf; omega
  have hls := cut_ok ht
  rw [foT_cut hg] at hls
  have e1 := wBegin (by omega : 3 ≤ n) (foT φ) wFormula S ht (by decide)
  rw [foT_cut hg] at e1
  have w0 : wAt (foLs φ) 0 = some [wFormula] := by show wordsW wFormula = _; decide
  rw [if_pos w0] at e1
  replace e1 : R n 18 [.pd (Rx.S (foT φ)), .pd (.list [Rx.S [102, 111, 114, 109, 117, 108, 97]])] S = _ := e1
  have hc : (S ++ [Cell.lst [.int 0, .int 1]])[S.length]? = some (.lst [.int 0, .int 1]) := app_get S _
  have e2 := wReadFormula (height φ) φ (Nat.le_refl _) hg n (S ++ [Cell.lst [.int 0, .int 1]]) (foLs φ) [wFormula] [wEnd] 1 S.length 0 1 rfl hls (by omega) hc (by have := hf.1; omega) (by omega)
  rw [app_set] at e2
  replace e2 : R n 30 [.pd (.list ((foLs φ).map Rx.S)), .pd (.int 1), .pd (.int 1), .ref S.length] (S ++ [Cell.lst [.int 0, .int 1]]) = .ok (.pd (.tuple [toD φ, .int ((1 + (lines φ).length : Nat) : Int)])) (S ++ [Cell.lst [.int (0 + (rows φ).length), .int (1 - 1)]]) := e2
  have hlen : (foLs φ).length = (lines φ).length + 2 := by simp [foLs]
  have hend : (foLs φ)[1 + (lines φ).length]? = some wEnd := by
    have : foLs φ = (wFormula :: lines φ) ++ [wEnd] := rfl
    rw [this, List.getElem?_append_right (by simp only [List.length_cons]; omega)]
    have : 1 + (lines φ).length - (wFormula :: lines φ).length = 0 := by simp only [List.length_cons]; omega
    rw [this]
    rfl
  have w1 : wAt (foLs φ) (1 + (lines φ).length) = some [[101, 110, 100]] := by
    unfold wAt
    rw [hend]
    show wordsW wEnd = _
    decide
  have e3 := fun s => wFinish (by omega : 3 ≤ n) (foLs φ) (1 + (lines φ).length) s hls
  have hfin : finI (foLs φ) (1 + (lines φ).length) = none := by
    unfold finI
    rw [if_pos w1, if_neg (by omega)]
  rw [hfin] at e3
  simp only at e3
  rw [R_eq (d := d32) rfl]
  have lv : ∀ c : Cell, (S ++ [c]).take S.length = S := fun c => List.take_left' rfl
  generalize (foLs φ).map Rx.S = xs at *
  generalize ((1 + (lines φ).length : Nat) : Int) = a9 at *
  generalize toD φ = d0 at *
  generalize foT φ = tx at *
  generalize R n = call at *
  clear hc hfin w0 w1 hend
  simp only [d32, b32_eq, body, denSs, denS, den, denB, denV, denP, denI, denO, denT, denTs, denF, denG, denGs, both_1, both_2, cmpB_1, cmpB_2, bind_ok, bind_exc, bind_stuck, go_ok, go_exc, go_stuck, nxt_nx, nxt_rt, nxt_bk, nxt_ct, nxt_exc, litD, List.length_cons, List.length_nil, List.map_cons, List.map_nil, List.getElem?_cons_zero, List.getElem?_cons_succ, List.cons_append, List.nil_append, List.replicate, List.set_cons_zero, List.set_cons_succ, wipeE, Nat.reduceAdd, Nat.reduceSub, Nat.reduceEqDiff, Nat.reduceLT, Nat.zero_add, if_true, if_false, Bool.false_eq_true, Bool.not_true, Bool.not_false, beq_self_eq_true, lv_pd, lv_fn, take_self, bq_ft, bq_tf, tests, toP, newL, l1, l2, e1, e2, e3, view, leave, lv]
theorem lay_fm (f : Fm) : lay 3 (fmD f) = true := by
  have h1 : lays 1 (f.head.map intD) = true := by
    rw [lays_all]
    intro x hx
    obtain ⟨o, _, rfl⟩ := List.mem_map.mp hx
    cases o <;> rfl
  have h2 : lays 1 (f.tail.map pD) = true := by
    rw [lays_all]
    intro x hx
    obtain ⟨o, _, rfl⟩ := List.mem_map.mp hx
    cases o <;> rfl
  show lays 2 [.tuple (f.head.map intD), .tuple (f.tail.map pD)] = true
  simp only [lays, lay, h1, h2, Bool.and_self]
theorem lay_intD (k : Nat) (o : OI) : lay k (intD o) = true := by cases o <;> simp [intD, lay]
theorem lay_pw : ∀ k < 7, ∀ c ∈ pw k, c < 128 := by decide
theorem lay_toD : ∀ φ : Fo, goodA φ → lay (height φ + 3) (toD φ) = true := by
  intro φ
  induction φ with
  | form f => intro _; exact (show (lays 3 [Rx.S wForm, fmD f]) = true by simp only [lays, Rx.lay_S (w := wForm) (by decide), lay_fm, Bool.and_self])
  | name w =>
    intro h
    have hw : nameW w = true := h _ (self_rows _)
    have : ∀ c ∈ w, c < 128 := by
      simp only [nameW, Bool.and_eq_true, List.all_eq_true, decide_eq_true_eq] at hw
      intro c hc
      have := hw.2 c hc
      omega
    exact (show (lays 3 [Rx.S wNam, Rx.S w]) = true by simp only [lays, Rx.lay_S (w := wNam) (by decide), Rx.lay_S this, Bool.and_self])
  | few vs =>
    intro _
    have : lays 2 (vs.map PyData.int) = true := by
      rw [lays_all]
      intro x hx
      obtain ⟨o, _, rfl⟩ := List.mem_map.mp hx
      simp [lay]
    exact (show (lays 3 [Rx.S wFew, .tuple (vs.map .int)]) = true by simp only [lays, lay, Rx.lay_S (w := wFew) (by decide), this, Bool.and_self])
  | pair k a b iha ihb =>
    intro h
    have ha := Rx.lay_le (iha (h.inner (by simp [inner]))) (show height a + 3 ≤ max (height a) (height b) + 3 by omega)
    have hb := Rx.lay_le (ihb (h.inner (by simp [inner]))) (show height b + 3 ≤ max (height a) (height b) + 3 by omega)
    have hk : k < 7 := h _ (self_rows _)
    exact (show (lays (max (height a) (height b) + 3) [Rx.S (pw k), toD a, toD b]) = true by simp only [lays, Rx.lay_S (lay_pw k hk), ha, hb, Bool.and_self])
  | times a k iha => intro h; exact (show (lays (height a + 3) [Rx.S wTimes, toD a, .int k]) = true by simp only [lays, lay, Rx.lay_S (w := wTimes) (by decide), iha (h.inner (by simp [inner])), Bool.and_self])
  | divided a k iha => intro h; exact (show (lays (height a + 3) [Rx.S wDivided, toD a, .int k]) = true by simp only [lays, lay, Rx.lay_S (w := wDivided) (by decide), iha (h.inner (by simp [inner])), Bool.and_self])
  | moved a k iha => intro h; exact (show (lays (height a + 3) [Rx.S wMoved, toD a, .int k]) = true by simp only [lays, lay, Rx.lay_S (w := wMoved) (by decide), iha (h.inner (by simp [inner])), Bool.and_self])
  | wher a lo hi iha => intro h; exact (show (lays (height a + 3) [Rx.S wWhere, toD a, intD lo, intD hi]) = true by simp only [lays, lay_intD, Rx.lay_S (w := wWhere) (by decide), iha (h.inner (by simp [inner])), Bool.and_self])
  | frm a iha => intro h; exact (show (lays (height a + 3) [Rx.S wFrom, toD a]) = true by simp only [lays, Rx.lay_S (w := wFrom) (by decide), iha (h.inner (by simp [inner])), Bool.and_self])
theorem wFormulaHolds {n : Nat} (φ : Fo) (S : Sto) (hg : goodA φ) (hf : fits φ) (hh : height φ ≤ 10) (hn : height φ + 9 ≤ n) : R n 47 [.pd (toD φ)] S = .ok (.pd (.bool true)) S := by
  obtain ⟨n, rfl⟩ : ∃ m, n = m + 1 := ⟨n - 1, by omega⟩
  have e1 := wLawLines (n := n) φ S hg (by have := hf.1; omega) (by omega)
  have e2 := wLawText (by omega : 1 ≤ n) wFormula (lines φ) S (k := 100000) (m := 82) (foLs_bnd hf).1 (foLs_bnd hf).2 (by decide) (by decide)
  replace e2 : R n 46 [.pd (Rx.S [102, 111, 114, 109, 117, 108, 97]), .pd (.list ((lines φ).map Rx.S))] S = .ok (.pd (Rx.S (foT φ))) S := e2
  have e3 := wParseFormula (n := n) φ S hg hf hh (by omega)
  have e4 := wFormatFormula (n := n) φ S hg hf (by omega)
  have c1 := Rx.c_ne_yes (lay_toD φ hg) (by omega) S
  have c2 := Rx.c_eq_S (s := S) (foT φ) (foT φ)
  rw [decide_eq_true rfl] at c2
  have t1 : isiV (.pd (Rx.S (foT φ))) ["str"] S = .ok (.pd (.bool true)) S := rfl
  rw [R_eq (d := d47) rfl]
  generalize toD φ = d0 at *
  generalize Rx.S (foT φ) = tx at *
  generalize (lines φ).map Rx.S = xs at *
  generalize R n = call at *
  simp only [d47, b47_eq, body, denSs, denS, den, denB, denV, denP, denI, denO, denT, denTs, denF, denG, denGs, both_1, both_2, cmpB_1, cmpB_2, bind_ok, bind_exc, bind_stuck, go_ok, go_exc, go_stuck, nxt_nx, nxt_rt, nxt_bk, nxt_ct, nxt_exc, litD, List.length_cons, List.length_nil, List.map_cons, List.map_nil, List.getElem?_cons_zero, List.getElem?_cons_succ, List.cons_append, List.nil_append, List.replicate, List.set_cons_zero, List.set_cons_succ, wipeE, Nat.reduceAdd, Nat.reduceSub, Nat.reduceEqDiff, Nat.reduceLT, Nat.zero_add, if_true, if_false, Bool.false_eq_true, Bool.not_true, Bool.not_false, beq_self_eq_true, lv_pd, lv_fn, take_self, bq_ft, bq_tf, tests, toP, e1, e2, e3, e4, c1, c2, t1, tr_bool]
theorem wFormHolds {n : Nat} (hn : 6 ≤ n) (f : Fm) (S : Sto) (hg : goodF f) : R n 48 [.pd (fmD f)] S = .ok (.pd (.bool true)) S := by
  obtain ⟨n, rfl⟩ : ∃ m, n = m + 1 := ⟨n - 1, by omega⟩
  have ln := line_val
  have e1 := wLawForm (by omega : 2 ≤ n) f S hg
  have e2 := wLawText (by omega : 1 ≤ n) wForm [headW f, tailW f] S (k := 400000) (m := 4) (small_bnd hg) (Nat.le_refl 4) (by decide) (by decide)
  replace e2 : R n 46 [.pd (Rx.S [102, 111, 114, 109]), .pd (.list [Rx.S (headW f), Rx.S (tailW f)])] S = .ok (.pd (Rx.S (formT f))) S := e2
  have e3 := wParseForm (by omega : 5 ≤ n) (formT f) S (by have := formT_len hg; omega)
  rw [formT_cut, parseF_good hg] at e3
  simp only [exR] at e3
  have e4 := wFormatForm (by omega : 3 ≤ n) f S hg
  have c1 := Rx.c_ne_yes (lay_fm f) (by decide) S
  have c2 := Rx.c_eq_S (s := S) (formT f) (formT f)
  rw [decide_eq_true rfl] at c2
  have t1 : isiV (.pd (Rx.S (formT f))) ["str"] S = .ok (.pd (.bool true)) S := rfl
  rw [R_eq (d := d48) rfl]
  generalize fmD f = d0 at *
  generalize Rx.S (formT f) = tx at *
  generalize Rx.S (headW f) = x1 at *
  generalize Rx.S (tailW f) = x2 at *
  generalize R n = call at *
  simp only [d48, b48_eq, body, denSs, denS, den, denB, denV, denP, denI, denO, denT, denTs, denF, denG, denGs, both_1, both_2, cmpB_1, cmpB_2, bind_ok, bind_exc, bind_stuck, go_ok, go_exc, go_stuck, nxt_nx, nxt_rt, nxt_bk, nxt_ct, nxt_exc, litD, List.length_cons, List.length_nil, List.map_cons, List.map_nil, List.getElem?_cons_zero, List.getElem?_cons_succ, List.cons_append, List.nil_append, List.replicate, List.set_cons_zero, List.set_cons_succ, wipeE, Nat.reduceAdd, Nat.reduceSub, Nat.reduceEqDiff, Nat.reduceLT, Nat.zero_add, if_true, if_false, Bool.false_eq_true, Bool.not_true, Bool.not_false, beq_self_eq_true, lv_pd, lv_fn, take_self, bq_ft, bq_tf, tests, toP, e1, e2, e3, e4, c1, c2, t1, tr_bool]
end K61


set_option linter.all false
set_option Elab.async false
set_option maxRecDepth 100000
set_option maxHeartbeats 2000000
namespace K61
open PySem Rx
/-! drawing from a script -/
def drawA : St := (.ite (.cmp .eq (.idx (.var 0) (.cst (.int (3)))) (.cst (.int (0)))) (.cons (.ite (.cmp .ge (.idx (.var 0) (.cst (.int (1)))) (.blt .len (.cons (.idx (.var 0) (.cst (.int (0)))) .nil))) (.cons (.ret (.cst (.int (0)))) .nil) .nil) (.cons (.asg (.name 3) (.idx (.idx (.var 0) (.cst (.int (0)))) (.idx (.var 0) (.cst (.int (1)))))) (.cons (.ite (.cmp .lt (.var 3) (.cst (.int (0)))) (.cons (.asg (.name 3) (.bin .sub (.neg (.cst (.int (1)))) (.var 3))) .nil) .nil) (.cons (.asg (.sub (.var 0) (.cst (.int (1)))) (.bin .add (.idx (.var 0) (.cst (.int (1)))) (.cst (.int (1))))) (.cons (.asg (.sub (.var 0) (.cst (.int (2)))) (.var 3)) (.cons (.asg (.sub (.var 0) (.cst (.int (4)))) (.cmp .ge (.var 3) (.bin .pow (.cst (.int (10))) (.cst (.int (18)))))) (.cons (.asg (.sub (.var 0) (.cst (.int (3)))) (.cst (.int (6)))) (.cons (.ite (.idx (.var 0) (.cst (.int (4)))) (.cons (.asg (.sub (.var 0) (.cst (.int (3)))) (.cst (.int (60)))) .nil) .nil) .nil)))))))) .nil)
def drawB : Ss := (.cons (.asg (.sub (.var 0) (.cst (.int (3)))) (.bin .sub (.idx (.var 0) (.cst (.int (3)))) (.cst (.int (1))))) (.cons (.ite (.idx (.var 0) (.cst (.int (4)))) (.cons (.asg (.name 4) (.bin .mod (.blt .int (.cons (.idx (.var 0) (.cst (.int (2)))) .nil)) (.var 1))) (.cons (.asg (.sub (.var 0) (.cst (.int (2)))) (.bin .fdiv (.idx (.var 0) (.cst (.int (2)))) (.var 1))) (.cons (.ite (.cmp .eq (.idx (.var 0) (.cst (.int (2)))) (.cst (.int (0)))) (.cons (.asg (.sub (.var 0) (.cst (.int (3)))) (.cst (.int (0)))) .nil) .nil) (.cons (.ret (.var 4)) .nil)))) .nil) (.cons (.asg (.name 2) (.bin .mod (.blt .int (.cons (.bin .add (.bin .add (.bin .mul (.idx (.var 0) (.cst (.int (2)))) (.cst (.int (48271)))) (.bin .mul (.idx (.var 0) (.cst (.int (3)))) (.cst (.int (69621))))) (.cst (.int (7)))) .nil)) (.cst (.int (2147483647))))) (.cons (.asg (.name 2) (.bin .mod (.blt .int (.cons (.bin .add (.bin .add (.bin .mul (.var 2) (.var 2)) (.bin .mul (.idx (.var 0) (.cst (.int (2)))) (.cst (.int (31))))) (.idx (.var 0) (.cst (.int (3))))) .nil)) (.cst (.int (1000003))))) (.cons (.ret (.bin .mod (.blt .int (.cons (.var 2) .nil)) (.var 1))) .nil)))))
theorem draw_eq : b34 = .cons drawA drawB := rfl

section
variable {a b c d e : D} {T : List Cell}
theorem sg0 : idxV (.ref 0) (.pd (.int 0)) (.lst [a, b, c, d, e] :: T) = .ok (.pd a) (.lst [a, b, c, d, e] :: T) := Rx.i_r (s := .lst [a, b, c, d, e] :: T) rfl (by decide) rfl
theorem sg1 : idxV (.ref 0) (.pd (.int 1)) (.lst [a, b, c, d, e] :: T) = .ok (.pd b) (.lst [a, b, c, d, e] :: T) := Rx.i_r (s := .lst [a, b, c, d, e] :: T) rfl (by decide) rfl
theorem sg2 : idxV (.ref 0) (.pd (.int 2)) (.lst [a, b, c, d, e] :: T) = .ok (.pd c) (.lst [a, b, c, d, e] :: T) := Rx.i_r (s := .lst [a, b, c, d, e] :: T) rfl (by decide) rfl
theorem sg3 : idxV (.ref 0) (.pd (.int 3)) (.lst [a, b, c, d, e] :: T) = .ok (.pd d) (.lst [a, b, c, d, e] :: T) := Rx.i_r (s := .lst [a, b, c, d, e] :: T) rfl (by decide) rfl
theorem sg4 : idxV (.ref 0) (.pd (.int 4)) (.lst [a, b, c, d, e] :: T) = .ok (.pd e) (.lst [a, b, c, d, e] :: T) := Rx.i_r (s := .lst [a, b, c, d, e] :: T) rfl (by decide) rfl
theorem ss1 (v : D) : setV kons (.ref 0) (.pd (.int 1)) v (.lst [a, b, c, d, e] :: T) = .ok () (.lst [a, v, c, d, e] :: T) := rfl
theorem ss2 (v : D) : setV kons (.ref 0) (.pd (.int 2)) v (.lst [a, b, c, d, e] :: T) = .ok () (.lst [a, b, v, d, e] :: T) := rfl
theorem ss3 (v : D) : setV kons (.ref 0) (.pd (.int 3)) v (.lst [a, b, c, d, e] :: T) = .ok () (.lst [a, b, c, v, e] :: T) := rfl
theorem ss4 (v : D) : setV kons (.ref 0) (.pd (.int 4)) v (.lst [a, b, c, d, e] :: T) = .ok () (.lst [a, b, c, d, v] :: T) := rfl
end
def stOk (X : Cell) : Prop := ∃ (ns : List Int) (p : Nat) (v k : Int) (b : Bool), X = .lst [.list (ns.map .int), .int (p : Int), .int v, .int k, .bool b] ∧ 0 ≤ v ∧ 0 ≤ k ∧ k ≤ 60
theorem mod_nat (a : Int) {L : Nat} (h : 1 ≤ L) : ∃ i : Nat, a % (L : Int) = (i : Int) ∧ i < L := by
  have h1 := Int.emod_nonneg a (show (L : Int) ≠ 0 by omega)
  have h2 := Int.emod_lt_of_pos a (show (0 : Int) < L by omega)
  exact ⟨(a % (L : Int)).toNat, by omega, by omega⟩
theorem drawB_ok (call : Mean) (T : List Cell) (ns p : D) (v k : Int) (b : Bool) (o2 o3 o4 : Option Dv) {L : Nat} (h1 : 1 ≤ L) (h2 : L ≤ 1000000) (hv : 0 ≤ v) (hk : 1 ≤ k ∧ k ≤ 60) :
    ∃ (i : Nat) (v' k' : Int), denSs kons 0 call drawB [some (.ref 0), some (.pd (.int (L : Int))), o2, o3, o4] (.lst [ns, p, .int v, .int k, .bool b] :: T) = .out (.rt (.pd (.int (i : Int)))) (.lst [ns, p, .int v', .int k', .bool b] :: T) ∧ i < L ∧ 0 ≤ v' ∧ 0 ≤ k' ∧ k' ≤ 60 := by
  have hb : big = 18446744073709551616 := rfl
  cases b with
  | true =>
    obtain ⟨i, hi, hlt⟩ := mod_nat v h1
    have m1 := fun s => a_mod_i (s := s) v (L : Int) (by omega)
    have m2 := fun s => a_fdiv_i (s := s) v (L : Int) (by omega)
    rw [hi] at m1
    have hq : 0 ≤ v / (L : Int) := Int.ediv_nonneg hv (by omega)
    by_cases hz : v / (L : Int) = 0
    · have hz2 : decide (v / (L : Int) = 0) = true := decide_eq_true hz
      refine ⟨i, v / (L : Int), 0, ?_, hlt, hq, by omega, by omega⟩
      generalize v / (L : Int) = q at *
      simp only [drawB, body, denSs, denS, den, denB, denV, denP, denI, denO, denT, denTs, denF, denG, denGs, both_1, both_2, cmpB_1, cmpB_2, bind_ok, bind_exc, bind_stuck, go_ok, go_exc, go_stuck, nxt_nx, nxt_rt, nxt_bk, nxt_ct, nxt_exc, litD, List.length_cons, List.length_nil, List.map_cons, List.map_nil, List.getElem?_cons_zero, List.getElem?_cons_succ, List.cons_append, List.nil_append, List.replicate, List.set_cons_zero, List.set_cons_succ, wipeE, Nat.reduceAdd, Nat.reduceSub, Nat.reduceEqDiff, Nat.reduceLT, Nat.zero_add, if_true, if_false, Bool.false_eq_true, Bool.not_true, Bool.not_false, beq_self_eq_true, lv_pd, lv_fn, take_self, bq_ft, bq_tf, tests, toP, sg0, sg1, sg2, sg3, sg4, ss1, ss2, ss3, ss4, tr_bool, a_sub_i, Rx.f_int_i, m1, m2, po_pd, c_eq_i, hz2]
    · have hz2 : decide (v / (L : Int) = 0) = false := decide_eq_false hz
      refine ⟨i, v / (L : Int), k - 1, ?_, hlt, hq, by omega, by omega⟩
      generalize v / (L : Int) = q at *
      simp only [drawB, body, denSs, denS, den, denB, denV, denP, denI, denO, denT, denTs, denF, denG, denGs, both_1, both_2, cmpB_1, cmpB_2, bind_ok, bind_exc, bind_stuck, go_ok, go_exc, go_stuck, nxt_nx, nxt_rt, nxt_bk, nxt_ct, nxt_exc, litD, List.length_cons, List.length_nil, List.map_cons, List.map_nil, List.getElem?_cons_zero, List.getElem?_cons_succ, List.cons_append, List.nil_append, List.replicate, List.set_cons_zero, List.set_cons_succ, wipeE, Nat.reduceAdd, Nat.reduceSub, Nat.reduceEqDiff, Nat.reduceLT, Nat.zero_add, if_true, if_false, Bool.false_eq_true, Bool.not_true, Bool.not_false, beq_self_eq_true, lv_pd, lv_fn, take_self, bq_ft, bq_tf, tests, toP, sg0, sg1, sg2, sg3, sg4, ss1, ss2, ss3, ss4, tr_bool, a_sub_i, Rx.f_int_i, m1, m2, po_pd, c_eq_i, hz2]
  | false =>
    have p1 := fun s => a_mul_i (s := s) v 48271 (.inr (by rw [hb]; omega))
    have p2 := fun s => a_mul_i (s := s) (k - 1) 69621 (.inr (by rw [hb]; omega))
    have m1 := fun s => a_mod_i (s := s) (v * 48271 + (k - 1) * 69621 + 7) 2147483647 (by omega)
    have b1 := Int.emod_nonneg (v * 48271 + (k - 1) * 69621 + 7) (show (2147483647 : Int) ≠ 0 by omega)
    have b2 := Int.emod_lt_of_pos (v * 48271 + (k - 1) * 69621 + 7) (show (0 : Int) < 2147483647 by omega)
    generalize (v * 48271 + (k - 1) * 69621 + 7) % 2147483647 = x at *
    have p3 := fun s => a_mul_i (s := s) x x (.inr (by rw [hb]; omega))
    have p4 := fun s => a_mul_i (s := s) v 31 (.inr (by rw [hb]; omega))
    have m2 := fun s => a_mod_i (s := s) (x * x + v * 31 + (k - 1)) 1000003 (by omega)
    obtain ⟨i, hi, hlt⟩ := mod_nat ((x * x + v * 31 + (k - 1)) % 1000003) h1
    have m3 := fun s => a_mod_i (s := s) ((x * x + v * 31 + (k - 1)) % 1000003) (L : Int) (by omega)
    rw [hi] at m3
    refine ⟨i, v, k - 1, ?_, hlt, hv, by omega, by omega⟩
    simp only [drawB, body, denSs, denS, den, denB, denV, denP, denI, denO, denT, denTs, denF, denG, denGs, both_1, both_2, cmpB_1, cmpB_2, bind_ok, bind_exc, bind_stuck, go_ok, go_exc, go_stuck, nxt_nx, nxt_rt, nxt_bk, nxt_ct, nxt_exc, litD, List.length_cons, List.length_nil, List.map_cons, List.map_nil, List.getElem?_cons_zero, List.getElem?_cons_succ, List.cons_append, List.nil_append, List.replicate, List.set_cons_zero, List.set_cons_succ, wipeE, Nat.reduceAdd, Nat.reduceSub, Nat.reduceEqDiff, Nat.reduceLT, Nat.zero_add, if_true, if_false, Bool.false_eq_true, Bool.not_true, Bool.not_false, beq_self_eq_true, lv_pd, lv_fn, take_self, bq_ft, bq_tf, tests, toP, sg0, sg1, sg2, sg3, sg4, ss1, ss2, ss3, ss4, tr_bool, a_sub_i, a_add_i, Rx.f_int_i, m1, m2, m3, p1, p2, p3, p4, po_pd]
end K61


set_option linter.all false
set_option Elab.async false
set_option maxRecDepth 100000
set_option maxHeartbeats 2000000
namespace K61
open PySem Rx
theorem a_pow_i (a b : Int) {s : Sto} (h : 0 ≤ b ∧ b ≤ 1000000 ∧ a.natAbs < 18446744073709551616) : binV .pow (.pd (.int a)) (.pd (.int b)) s = .ok (.pd (.int (a ^ b.toNat))) s := by simp [binV, view, binD, h]
theorem drawA_ok (call : Mean) (T : List Cell) (ns : List Int) (p : Nat) (v k : Int) (b : Bool) (L : D) (hv : 0 ≤ v) (hk : 0 ≤ k ∧ k ≤ 60) :
    (denS kons 0 call drawA [some (.ref 0), some (.pd L), none, none, none] (.lst [.list (ns.map .int), .int (p : Int), .int v, .int k, .bool b] :: T) = .out (.rt (.pd (.int 0))) (.lst [.list (ns.map .int), .int (p : Int), .int v, .int k, .bool b] :: T)) ∨
    (∃ (o3 : Option Dv) (p' : Nat) (v' k' : Int) (b' : Bool), denS kons 0 call drawA [some (.ref 0), some (.pd L), none, none, none] (.lst [.list (ns.map .int), .int (p : Int), .int v, .int k, .bool b] :: T) = .out (.nx [some (.ref 0), some (.pd L), none, o3, none]) (.lst [.list (ns.map .int), .int (p' : Int), .int v', .int k', .bool b'] :: T) ∧ 0 ≤ v' ∧ 1 ≤ k' ∧ k' ≤ 60) := by
  by_cases hk0 : k = 0
  · subst hk0
    have fl := fun s => Rx.f_len_l (s := s) (ns.map PyData.int)
    rw [List.length_map] at fl
    have z0 : decide ((0 : Int) = 0) = true := by decide
    by_cases hp : p < ns.length
    · have g1 : decide ((ns.length : Int) ≤ (p : Int)) = false := by rw [decide_eq_false_iff_not]; omega
      have ei : ∀ s, idxV (.pd (.list (ns.map .int))) (.pd (.int (p : Int))) s = .ok (.pd (.int ns[p])) s := fun s => Rx.i_l (s := s) (by omega) (by rw [Int.toNat_natCast, List.getElem?_map, List.getElem?_eq_getElem hp]; rfl)
      have pw : ∀ s, binV .pow (.pd (.int 10)) (.pd (.int 18)) s = .ok (.pd (.int (10 ^ (18 : Int).toNat))) s := fun s => a_pow_i 10 18 (s := s) (by decide)
      generalize (10 : Int) ^ (18 : Int).toNat = big18 at *
      generalize ns[p] = x at *
      by_cases hx : x < 0
      · have g2 : decide (x < 0) = true := decide_eq_true hx
        cases hb : decide (big18 ≤ -1 - x) with
        | false =>
          refine .inr ⟨some (.pd (.int (-1 - x))), p + 1, -1 - x, 6, false, ?_, by omega, by omega, by omega⟩
          rw [Int.natCast_succ]
          generalize (p : Int) = pp at *
          generalize (ns.length : Int) = len at *
          generalize ns.map PyData.int = xs at *
          simp only [drawA, body, denSs, denS, den, denB, denV, denP, denI, denO, denT, denTs, denF, denG, denGs, both_1, both_2, cmpB_1, cmpB_2, bind_ok, bind_exc, bind_stuck, go_ok, go_exc, go_stuck, nxt_nx, nxt_rt, nxt_bk, nxt_ct, nxt_exc, litD, List.length_cons, List.length_nil, List.map_cons, List.map_nil, List.getElem?_cons_zero, List.getElem?_cons_succ, List.cons_append, List.nil_append, List.replicate, List.set_cons_zero, List.set_cons_succ, wipeE, Nat.reduceAdd, Nat.reduceSub, Nat.reduceEqDiff, Nat.reduceLT, Nat.zero_add, if_true, if_false, Bool.false_eq_true, Bool.not_true, Bool.not_false, beq_self_eq_true, lv_pd, lv_fn, take_self, bq_ft, bq_tf, tests, toP, sg0, sg1, sg2, sg3, sg4, ss1, ss2, ss3, ss4, c_eq_i, z0, decide_true, c_ge_i, c_lt_i, fl, g1, ei, g2, a_sub_i, a_add_i, po_pd, pw, hb, tr_bool]
        | true =>
          refine .inr ⟨some (.pd (.int (-1 - x))), p + 1, -1 - x, 60, true, ?_, by omega, by omega, by omega⟩
          rw [Int.natCast_succ]
          generalize (p : Int) = pp at *
          generalize (ns.length : Int) = len at *
          generalize ns.map PyData.int = xs at *
          simp only [drawA, body, denSs, denS, den, denB, denV, denP, denI, denO, denT, denTs, denF, denG, denGs, both_1, both_2, cmpB_1, cmpB_2, bind_ok, bind_exc, bind_stuck, go_ok, go_exc, go_stuck, nxt_nx, nxt_rt, nxt_bk, nxt_ct, nxt_exc, litD, List.length_cons, List.length_nil, List.map_cons, List.map_nil, List.getElem?_cons_zero, List.getElem?_cons_succ, List.cons_append, List.nil_append, List.replicate, List.set_cons_zero, List.set_cons_succ, wipeE, Nat.reduceAdd, Nat.reduceSub, Nat.reduceEqDiff, Nat.reduceLT, Nat.zero_add, if_true, if_false, Bool.false_eq_true, Bool.not_true, Bool.not_false, beq_self_eq_true, lv_pd, lv_fn, take_self, bq_ft, bq_tf, tests, toP, sg0, sg1, sg2, sg3, sg4, ss1, ss2, ss3, ss4, c_eq_i, z0, decide_true, c_ge_i, c_lt_i, fl, g1, ei, g2, a_sub_i, a_add_i, po_pd, pw, hb, tr_bool]
      · have g2 : decide (x < 0) = false := decide_eq_false hx
        cases hb : decide (big18 ≤ x) with
        | false =>
          refine .inr ⟨some (.pd (.int x)), p + 1, x, 6, false, ?_, by omega, by omega, by omega⟩
          rw [Int.natCast_succ]
          generalize (p : Int) = pp at *
          generalize (ns.length : Int) = len at *
          generalize ns.map PyData.int = xs at *
          simp only [drawA, body, denSs, denS, den, denB, denV, denP, denI, denO, denT, denTs, denF, denG, denGs, both_1, both_2, cmpB_1, cmpB_2, bind_ok, bind_exc, bind_stuck, go_ok, go_exc, go_stuck, nxt_nx, nxt_rt, nxt_bk, nxt_ct, nxt_exc, litD, List.length_cons, List.length_nil, List.map_cons, List.map_nil, List.getElem?_cons_zero, List.getElem?_cons_succ, List.cons_append, List.nil_append, List.replicate, List.set_cons_zero, List.set_cons_succ, wipeE, Nat.reduceAdd, Nat.reduceSub, Nat.reduceEqDiff, Nat.reduceLT, Nat.zero_add, if_true, if_false, Bool.false_eq_true, Bool.not_true, Bool.not_false, beq_self_eq_true, lv_pd, lv_fn, take_self, bq_ft, bq_tf, tests, toP, sg0, sg1, sg2, sg3, sg4, ss1, ss2, ss3, ss4, c_eq_i, z0, decide_true, c_ge_i, c_lt_i, fl, g1, ei, g2, a_sub_i, a_add_i, po_pd, pw, hb, tr_bool]
        | true =>
          refine .inr ⟨some (.pd (.int x)), p + 1, x, 60, true, ?_, by omega, by omega, by omega⟩
          rw [Int.natCast_succ]
          generalize (p : Int) = pp at *
          generalize (ns.length : Int) = len at *
          generalize ns.map PyData.int = xs at *
          simp only [drawA, body, denSs, denS, den, denB, denV, denP, denI, denO, denT, denTs, denF, denG, denGs, both_1, both_2, cmpB_1, cmpB_2, bind_ok, bind_exc, bind_stuck, go_ok, go_exc, go_stuck, nxt_nx, nxt_rt, nxt_bk, nxt_ct, nxt_exc, litD, List.length_cons, List.length_nil, List.map_cons, List.map_nil, List.getElem?_cons_zero, List.getElem?_cons_succ, List.cons_append, List.nil_append, List.replicate, List.set_cons_zero, List.set_cons_succ, wipeE, Nat.reduceAdd, Nat.reduceSub, Nat.reduceEqDiff, Nat.reduceLT, Nat.zero_add, if_true, if_false, Bool.false_eq_true, Bool.not_true, Bool.not_false, beq_self_eq_true, lv_pd, lv_fn, take_self, bq_ft, bq_tf, tests, toP, sg0, sg1, sg2, sg3, sg4, ss1, ss2, ss3, ss4, c_eq_i, z0, decide_true, c_ge_i, c_lt_i, fl, g1, ei, g2, a_sub_i, a_add_i, po_pd, pw, hb, tr_bool]
    · have g1 : decide ((ns.length : Int) ≤ (p : Int)) = true := by rw [decide_eq_true_eq]; omega
      refine .inl ?_
      generalize (p : Int) = pp at *
      generalize (ns.length : Int) = len at *
      generalize ns.map PyData.int = xs at *
      simp only [drawA, body, denSs, denS, den, denB, denV, denP, denI, denO, denT, denTs, denF, denG, denGs, both_1, both_2, cmpB_1, cmpB_2, bind_ok, bind_exc, bind_stuck, go_ok, go_exc, go_stuck, nxt_nx, nxt_rt, nxt_bk, nxt_ct, nxt_exc, litD, List.length_cons, List.length_nil, List.map_cons, List.map_nil, List.getElem?_cons_zero, List.getElem?_cons_succ, List.cons_append, List.nil_append, List.replicate, List.set_cons_zero, List.set_cons_succ, wipeE, Nat.reduceAdd, Nat.reduceSub, Nat.reduceEqDiff, Nat.reduceLT, Nat.zero_add, if_true, if_false, Bool.false_eq_true, Bool.not_true, Bool.not_false, beq_self_eq_true, lv_pd, lv_fn, take_self, bq_ft, bq_tf, tests, toP, sg0, sg1, sg2, sg3, sg4, c_eq_i, z0, decide_true, c_ge_i, fl, g1]
  · have z0 : decide (k = 0) = false := decide_eq_false hk0
    refine .inr ⟨none, p, v, k, b, ?_, hv, by omega, by omega⟩
    generalize ns.map PyData.int = xs at *
    simp only [drawA, body, denSs, denS, den, denB, denV, denP, denI, denO, denT, denTs, denF, denG, denGs, both_1, both_2, cmpB_1, cmpB_2, bind_ok, bind_exc, bind_stuck, go_ok, go_exc, go_stuck, nxt_nx, nxt_rt, nxt_bk, nxt_ct, nxt_exc, litD, List.length_cons, List.length_nil, List.map_cons, List.map_nil, List.getElem?_cons_zero, List.getElem?_cons_succ, List.cons_append, List.nil_append, List.replicate, List.set_cons_zero, List.set_cons_succ, wipeE, Nat.reduceAdd, Nat.reduceSub, Nat.reduceEqDiff, Nat.reduceLT, Nat.zero_add, if_true, if_false, Bool.false_eq_true, Bool.not_true, Bool.not_false, beq_self_eq_true, lv_pd, lv_fn, take_self, bq_ft, bq_tf, tests, toP, sg3, c_eq_i, z0]
/-- a draw -/
theorem wDraw {n : Nat} (hn : 1 ≤ n) (X : Cell) (T : List Cell) (hX : stOk X) (L : Nat) (h1 : 1 ≤ L) (h2 : L ≤ 1000000) : ∃ (i : Nat) (X' : Cell), i < L ∧ stOk X' ∧ R n 34 [.ref 0, .pd (.int (L : Int))] (X :: T) = .ok (.pd (.int (i : Int))) (X' :: T) := by
  obtain ⟨n, rfl⟩ : ∃ m, n = m + 1 := ⟨n - 1, by omega⟩
  obtain ⟨ns, p, v, k, b, rfl, hv, hk1, hk2⟩ := hX
  have lv : ∀ X : Cell, (X :: T).take (T.length + 1) = X :: T := fun X => List.take_of_length_le (by simp)
  rcases drawA_ok (R n) T ns p v k b (.int (L : Int)) hv ⟨hk1, hk2⟩ with e | ⟨o3, p', v', k', b', e, hv', hk3, hk4⟩
  · refine ⟨0, _, by omega, ⟨ns, p, v, k, b, rfl, hv, hk1, hk2⟩, ?_⟩
    rw [R_eq (d := d34) rfl]
    generalize ns.map PyData.int = xs at *
    generalize R n = call at *
    simp only [d34, draw_eq, body, denSs, denS, den, denB, denV, denP, denI, denO, denT, denTs, denF, denG, denGs, both_1, both_2, cmpB_1, cmpB_2, bind_ok, bind_exc, bind_stuck, go_ok, go_exc, go_stuck, nxt_nx, nxt_rt, nxt_bk, nxt_ct, nxt_exc, litD, List.length_cons, List.length_nil, List.map_cons, List.map_nil, List.getElem?_cons_zero, List.getElem?_cons_succ, List.cons_append, List.nil_append, List.replicate, List.set_cons_zero, List.set_cons_succ, wipeE, Nat.reduceAdd, Nat.reduceSub, Nat.reduceEqDiff, Nat.reduceLT, Nat.zero_add, if_true, if_false, Bool.false_eq_true, Bool.not_true, Bool.not_false, beq_self_eq_true, lv_pd, lv_fn, take_self, bq_ft, bq_tf, tests, toP, e, leave, lv]
    rfl
  · obtain ⟨i, v2, k2, e2, hi, q1, q2, q3⟩ := drawB_ok (R n) T (.list (ns.map .int)) (.int (p' : Int)) v' k' b' none o3 none h1 h2 hv' ⟨hk3, hk4⟩
    refine ⟨i, _, hi, ⟨ns, p', v2, k2, b', rfl, q1, q2, q3⟩, ?_⟩
    rw [R_eq (d := d34) rfl]
    generalize ns.map PyData.int = xs at *
    generalize R n = call at *
    simp only [d34, draw_eq, body, denSs, denS, den, denB, denV, denP, denI, denO, denT, denTs, denF, denG, denGs, both_1, both_2, cmpB_1, cmpB_2, bind_ok, bind_exc, bind_stuck, go_ok, go_exc, go_stuck, nxt_nx, nxt_rt, nxt_bk, nxt_ct, nxt_exc, litD, List.length_cons, List.length_nil, List.map_cons, List.map_nil, List.getElem?_cons_zero, List.getElem?_cons_succ, List.cons_append, List.nil_append, List.replicate, List.set_cons_zero, List.set_cons_succ, wipeE, Nat.reduceAdd, Nat.reduceSub, Nat.reduceEqDiff, Nat.reduceLT, Nat.zero_add, if_true, if_false, Bool.false_eq_true, Bool.not_true, Bool.not_false, beq_self_eq_true, lv_pd, lv_fn, take_self, bq_ft, bq_tf, tests, toP, e, e2, leave, lv]
end K61


set_option linter.all false
set_option Elab.async false
set_option maxRecDepth 100000
set_option maxHeartbeats 2000000
namespace K61
open PySem Rx
theorem wD {n : Nat} (hn : 1 ≤ n) (X : Cell) (T : List Cell) (hX : stOk X) (L : Int) (h : 1 ≤ L ∧ L ≤ 1000000) : ∃ (i : Int) (X' : Cell), (0 ≤ i ∧ i < L) ∧ stOk X' ∧ R n 34 [.ref 0, .pd (.int L)] (X :: T) = .ok (.pd (.int i)) (X' :: T) := by
  obtain ⟨i, X', hi, hX', e⟩ := wDraw hn X T hX L.toNat (by omega) (by omega)
  have : ((L.toNat : Nat) : Int) = L := by omega
  rw [this] at e
  exact ⟨i, X', ⟨by omega, by omega⟩, hX', e⟩
theorem sm_pos {i : Int} (h : 0 ≤ i ∧ i < 10 ^ 40) : sm i := by
  unfold sm strI
  rw [if_pos h.1]
  refine TL.numL_len (by decide) ?_
  have := h.2
  omega
theorem sm_abs {i : Int} (h : i.natAbs < 10 ^ 39) : sm i := by
  unfold sm strI
  have := TL.numL_len (k := 39) (by decide) h
  split
  · omega
  · rw [List.length_cons]; omega
theorem take_st (X : Cell) (T : List Cell) : (X :: T).take (T.length + 1) = X :: T := List.take_of_length_le (by simp)
theorem wNumber {n : Nat} (hn : 2 ≤ n) (X : Cell) (T : List Cell) (hX : stOk X) : ∃ (i : Int) (X' : Cell), sm i ∧ stOk X' ∧ R n 35 [.ref 0] (X :: T) = .ok (.pd (.int i)) (X' :: T) := by
  obtain ⟨n, rfl⟩ : ∃ m, n = m + 1 := ⟨n - 1, by omega⟩
  have hb : big = 18446744073709551616 := rfl
  obtain ⟨i1, X1, hi1, hX1, e1⟩ := wD (by omega : 1 ≤ n) X T hX 8 (by omega)
  have lv := fun X => take_st X T
  by_cases h5 : i1 < 5
  · have q1 : decide (i1 < 5) = true := decide_eq_true h5
    obtain ⟨i2, X2, hi2, hX2, e2⟩ := wD (by omega : 1 ≤ n) X1 T hX1 9 (by omega)
    refine ⟨i2 - 3, X2, sm_abs (by omega), hX2, ?_⟩
    rw [R_eq (d := d35) rfl]
    generalize R n = call at *
    simp only [d35, b35_eq, body, denSs, denS, den, denB, denV, denP, denI, denO, denT, denTs, denF, denG, denGs, both_1, both_2, cmpB_1, cmpB_2, bind_ok, bind_exc, bind_stuck, go_ok, go_exc, go_stuck, nxt_nx, nxt_rt, nxt_bk, nxt_ct, nxt_exc, litD, List.length_cons, List.length_nil, List.map_cons, List.map_nil, List.getElem?_cons_zero, List.getElem?_cons_succ, List.cons_append, List.nil_append, List.replicate, List.set_cons_zero, List.set_cons_succ, wipeE, Nat.reduceAdd, Nat.reduceSub, Nat.reduceEqDiff, Nat.reduceLT, Nat.zero_add, if_true, if_false, Bool.false_eq_true, Bool.not_true, Bool.not_false, beq_self_eq_true, lv_pd, lv_fn, take_self, bq_ft, bq_tf, tests, toP, e1, c_lt_i, q1, e2, a_sub_i, leave, lv]
  · have q1 : decide (i1 < 5) = false := decide_eq_false h5
    by_cases h7 : i1 < 7
    · have q2 : decide (i1 < 7) = true := decide_eq_true h7
      obtain ⟨i2, X2, hi2, hX2, e2⟩ := wD (by omega : 1 ≤ n) X1 T hX1 241 (by omega)
      refine ⟨i2 - 120, X2, sm_abs (by omega), hX2, ?_⟩
      rw [R_eq (d := d35) rfl]
      generalize R n = call at *
      simp only [d35, b35_eq, body, denSs, denS, den, denB, denV, denP, denI, denO, denT, denTs, denF, denG, denGs, both_1, both_2, cmpB_1, cmpB_2, bind_ok, bind_exc, bind_stuck, go_ok, go_exc, go_stuck, nxt_nx, nxt_rt, nxt_bk, nxt_ct, nxt_exc, litD, List.length_cons, List.length_nil, List.map_cons, List.map_nil, List.getElem?_cons_zero, List.getElem?_cons_succ, List.cons_append, List.nil_append, List.replicate, List.set_cons_zero, List.set_cons_succ, wipeE, Nat.reduceAdd, Nat.reduceSub, Nat.reduceEqDiff, Nat.reduceLT, Nat.zero_add, if_true, if_false, Bool.false_eq_true, Bool.not_true, Bool.not_false, beq_self_eq_true, lv_pd, lv_fn, take_self, bq_ft, bq_tf, tests, toP, e1, c_lt_i, q1, q2, e2, a_sub_i, leave, lv]
    · have q2 : decide (i1 < 7) = false := decide_eq_false h7
      obtain ⟨i2, X2, hi2, hX2, e2⟩ := wD (by omega : 1 ≤ n) X1 T hX1 2001 (by omega)
      obtain ⟨i3, X3, hi3, hX3, e3⟩ := wD (by omega : 1 ≤ n) X2 T hX2 1000 (by omega)
      have pw : ∀ s, binV .pow (.pd (.int 10)) (.pd (.int 24)) s = .ok (.pd (.int (10 ^ (24 : Int).toNat))) s := fun s => a_pow_i 10 24 (s := s) (by decide)
      have pv : (10 : Int) ^ (24 : Int).toNat = 1000000000000000000000000 := by decide +kernel
      rw [pv] at pw
      have m1 := fun s => a_mul_i (s := s) (i2 - 1000) 1000000000000000000000000 (.inl (by rw [hb]; omega))
      refine ⟨(i2 - 1000) * 1000000000000000000000000 + i3, X3, sm_abs (by omega), hX3, ?_⟩
      rw [R_eq (d := d35) rfl]
      generalize R n = call at *
      simp only [d35, b35_eq, body, denSs, denS, den, denB, denV, denP, denI, denO, denT, denTs, denF, denG, denGs, both_1, both_2, cmpB_1, cmpB_2, bind_ok, bind_exc, bind_stuck, go_ok, go_exc, go_stuck, nxt_nx, nxt_rt, nxt_bk, nxt_ct, nxt_exc, litD, List.length_cons, List.length_nil, List.map_cons, List.map_nil, List.getElem?_cons_zero, List.getElem?_cons_succ, List.cons_append, List.nil_append, List.replicate, List.set_cons_zero, List.set_cons_succ, wipeE, Nat.reduceAdd, Nat.reduceSub, Nat.reduceEqDiff, Nat.reduceLT, Nat.zero_add, if_true, if_false, Bool.false_eq_true, Bool.not_true, Bool.not_false, beq_self_eq_true, lv_pd, lv_fn, take_self, bq_ft, bq_tf, tests, toP, e1, c_lt_i, q1, q2, e2, e3, pw, m1, a_sub_i, a_add_i, leave, lv]
theorem wLong {n : Nat} (hn : 3 ≤ n) (X : Cell) (T : List Cell) (hX : stOk X) : ∃ (i : Int) (X' : Cell), sm i ∧ stOk X' ∧ R n 43 [.ref 0] (X :: T) = .ok (.pd (.int i)) (X' :: T) := by
  obtain ⟨n, rfl⟩ : ∃ m, n = m + 1 := ⟨n - 1, by omega⟩
  obtain ⟨i1, X1, hi1, hX1, e1⟩ := wD (by omega : 1 ≤ n) X T hX 12 (by omega)
  have lv := fun X => take_st X T
  by_cases h0 : i1 = 0
  · have q1 : decide (i1 = 0) = true := decide_eq_true h0
    obtain ⟨i2, X2, hi2, hX2, e2⟩ := wD (by omega : 1 ≤ n) X1 T hX1 9 (by omega)
    have pw : ∀ s, binV .pow (.pd (.int 10)) (.pd (.int 39)) s = .ok (.pd (.int (10 ^ (39 : Int).toNat))) s := fun s => a_pow_i 10 39 (s := s) (by decide)
    have pv : (10 : Int) ^ (39 : Int).toNat = 1000000000000000000000000000000000000000 := by decide +kernel
    rw [pv] at pw
    refine ⟨1000000000000000000000000000000000000000 + i2, X2, sm_pos (by omega), hX2, ?_⟩
    rw [R_eq (d := d43) rfl]
    generalize R n = call at *
    simp only [d43, b43_eq, body, denSs, denS, den, denB, denV, denP, denI, denO, denT, denTs, denF, denG, denGs, both_1, both_2, cmpB_1, cmpB_2, bind_ok, bind_exc, bind_stuck, go_ok, go_exc, go_stuck, nxt_nx, nxt_rt, nxt_bk, nxt_ct, nxt_exc, litD, List.length_cons, List.length_nil, List.map_cons, List.map_nil, List.getElem?_cons_zero, List.getElem?_cons_succ, List.cons_append, List.nil_append, List.replicate, List.set_cons_zero, List.set_cons_succ, wipeE, Nat.reduceAdd, Nat.reduceSub, Nat.reduceEqDiff, Nat.reduceLT, Nat.zero_add, if_true, if_false, Bool.false_eq_true, Bool.not_true, Bool.not_false, beq_self_eq_true, lv_pd, lv_fn, take_self, bq_ft, bq_tf, tests, toP, e1, c_eq_i, q1, e2, pw, a_add_i, leave, lv]
  · have q1 : decide (i1 = 0) = false := decide_eq_false h0
    by_cases h1 : i1 = 1
    · have q2 : decide (i1 = 1) = true := decide_eq_true h1
      obtain ⟨i2, X2, hi2, hX2, e2⟩ := wD (by omega : 1 ≤ n) X1 T hX1 9 (by omega)
      have pw : ∀ s, binV .pow (.pd (.int 10)) (.pd (.int 38)) s = .ok (.pd (.int (10 ^ (38 : Int).toNat))) s := fun s => a_pow_i 10 38 (s := s) (by decide)
      have pv : (10 : Int) ^ (38 : Int).toNat = 100000000000000000000000000000000000000 := by decide +kernel
      rw [pv] at pw
      refine ⟨0 - 100000000000000000000000000000000000000 - i2, X2, sm_abs (by omega), hX2, ?_⟩
      rw [R_eq (d := d43) rfl]
      generalize R n = call at *
      simp only [d43, b43_eq, body, denSs, denS, den, denB, denV, denP, denI, denO, denT, denTs, denF, denG, denGs, both_1, both_2, cmpB_1, cmpB_2, bind_ok, bind_exc, bind_stuck, go_ok, go_exc, go_stuck, nxt_nx, nxt_rt, nxt_bk, nxt_ct, nxt_exc, litD, List.length_cons, List.length_nil, List.map_cons, List.map_nil, List.getElem?_cons_zero, List.getElem?_cons_succ, List.cons_append, List.nil_append, List.replicate, List.set_cons_zero, List.set_cons_succ, wipeE, Nat.reduceAdd, Nat.reduceSub, Nat.reduceEqDiff, Nat.reduceLT, Nat.zero_add, if_true, if_false, Bool.false_eq_true, Bool.not_true, Bool.not_false, beq_self_eq_true, lv_pd, lv_fn, take_self, bq_ft, bq_tf, tests, toP, e1, c_eq_i, q1, q2, e2, pw, a_sub_i, leave, lv]
    · have q2 : decide (i1 = 1) = false := decide_eq_false h1
      obtain ⟨i2, X2, hi2, hX2, e2⟩ := wNumber (by omega : 2 ≤ n) X1 T hX1
      refine ⟨i2, X2, hi2, hX2, ?_⟩
      rw [R_eq (d := d43) rfl]
      generalize R n = call at *
      simp only [d43, b43_eq, body, denSs, denS, den, denB, denV, denP, denI, denO, denT, denTs, denF, denG, denGs, both_1, both_2, cmpB_1, cmpB_2, bind_ok, bind_exc, bind_stuck, go_ok, go_exc, go_stuck, nxt_nx, nxt_rt, nxt_bk, nxt_ct, nxt_exc, litD, List.length_cons, List.length_nil, List.map_cons, List.map_nil, List.getElem?_cons_zero, List.getElem?_cons_succ, List.cons_append, List.nil_append, List.replicate, List.set_cons_zero, List.set_cons_succ, wipeE, Nat.reduceAdd, Nat.reduceSub, Nat.reduceEqDiff, Nat.reduceLT, Nat.zero_add, if_true, if_false, Bool.false_eq_true, Bool.not_true, Bool.not_false, beq_self_eq_true, lv_pd, lv_fn, take_self, bq_ft, bq_tf, tests, toP, e1, c_eq_i, q1, q2, e2, leave, lv]
def lettersW : W := [97, 98, 99, 100, 101, 102, 103, 104, 105, 106, 107, 108, 109, 110, 111, 112, 113, 114, 115, 116, 117, 118, 119, 120, 121, 122]
theorem letters_ok : ∀ i < 26, ∃ c, lettersW[i]? = some c ∧ 97 ≤ c ∧ c ≤ 122 := by
  intro i hi
  refine ⟨lettersW[i]?.getD 0, ?_, ?_⟩
  · have : i < lettersW.length := hi
    rw [List.getElem?_eq_getElem this]; rfl
  · exact (show ∀ i < 26, 97 ≤ lettersW[i]?.getD 0 ∧ lettersW[i]?.getD 0 ≤ 122 by decide) i hi
theorem wLawName {n : Nat} (hn : 2 ≤ n) (X : Cell) (T : List Cell) (hX : stOk X) : ∃ (w : W) (X' : Cell), nameW w = true ∧ stOk X' ∧ R n 36 [.ref 0] (X :: T) = .ok (.pd (Rx.S w)) (X' :: T) := by
  obtain ⟨n, rfl⟩ : ∃ m, n = m + 1 := ⟨n - 1, by omega⟩
  have ln := line_val
  have l2 := le_line 2 (by decide)
  obtain ⟨i1, X1, hi1, hX1, e1⟩ := wD (by omega : 1 ≤ n) X T hX 3 (by omega)
  obtain ⟨i2, X2, hi2, hX2, e2⟩ := wD (by omega : 1 ≤ n) X1 T hX1 12 (by omega)
  obtain ⟨i3, X3, hi3, hX3, e3⟩ := wD (by omega : 1 ≤ n) X2 T hX2 2 (by omega)
  have lv := fun X => take_st X T
  obtain ⟨z, hz, ei⟩ : ∃ z : Int, (0 ≤ z ∧ z < 12) ∧ ∀ s, idxV (.pd (.list [.int i1, .int i2])) (.pd (.int i3)) s = .ok (.pd (.int z)) s := by
    by_cases h : i3 = 0
    · exact ⟨i1, by omega, fun s => by rw [h]; exact Rx.i_l (s := s) (by decide) rfl⟩
    · have h : i3 = 1 := by omega
      exact ⟨i2, hi2, fun s => by rw [h]; exact Rx.i_l (s := s) (by decide) rfl⟩
  obtain ⟨k, hk⟩ : ∃ k : Nat, 1 + z = (k : Int) := ⟨(1 + z).toNat, by omega⟩
  obtain ⟨env', s', ef, w, X4, o4, rfl, rfl, hX4, hw1, hw2⟩ := Rx.forL_at (f := Rx.turn kons 0 (R n) (.name 4) t36_1) (all := rngD 0 k)
    (fun i env s => ∃ (w : W) (Y : Cell) (o4 : Option Dv), env = [some (.ref 0), some (.pd (Rx.S lettersW)), some (.pd (.int (k : Int))), some (.pd (Rx.S w)), o4] ∧ s = Y :: T ∧ stOk Y ∧ w.length = i ∧ ∀ c ∈ w, 97 ≤ c ∧ c ≤ 122)
    (env := [some (.ref 0), some (.pd (Rx.S lettersW)), some (.pd (.int (k : Int))), some (.pd (Rx.S [])), none]) (s := X3 :: T) ⟨[], X3, none, rfl, rfl, hX3, rfl, by simp⟩
    (fun i hi env s ⟨w, Y, o4, he, hs, hY, hwl, hwc⟩ => by
      rw [Rx.rng_len] at hi
      obtain ⟨j, Y', hj, hY', e⟩ := wD (by omega : 1 ≤ n) Y T hY 26 (by omega)
      obtain ⟨c, hc, hc2⟩ := letters_ok j.toNat (by omega)
      have g := fun s => Rx.i_s (s := s) (w := lettersW) (i := j) (by rw [ln]; decide) hj.1 hc
      have a := fun s => Rx.a_add_S (s := s) w [c] (by rw [List.length_cons, List.length_nil]; omega)
      refine ⟨[some (.ref 0), some (.pd (Rx.S lettersW)), some (.pd (.int (k : Int))), some (.pd (Rx.S (w ++ [c]))), some (.pd (rngD 0 k)[i])], Y' :: T, .inl ?_, w ++ [c], Y', _, rfl, rfl, hY', by rw [List.length_append, hwl]; rfl, fun d hd => ?_⟩
      · rw [he, hs]
        generalize (rngD 0 k)[i] = x at *
        generalize Rx.S lettersW = lw at *
        generalize R n = call at *
        simp only [Rx.turn, t36_1, body, denSs, denS, den, denB, denV, denP, denI, denO, denT, denTs, denF, denG, denGs, both_1, both_2, cmpB_1, cmpB_2, bind_ok, bind_exc, bind_stuck, go_ok, go_exc, go_stuck, nxt_nx, nxt_rt, nxt_bk, nxt_ct, nxt_exc, litD, List.length_cons, List.length_nil, List.map_cons, List.map_nil, List.getElem?_cons_zero, List.getElem?_cons_succ, List.cons_append, List.nil_append, List.replicate, List.set_cons_zero, List.set_cons_succ, wipeE, Nat.reduceAdd, Nat.reduceSub, Nat.reduceEqDiff, Nat.reduceLT, Nat.zero_add, if_true, if_false, Bool.false_eq_true, Bool.not_true, Bool.not_false, beq_self_eq_true, lv_pd, lv_fn, take_self, bq_ft, bq_tf, tests, toP, e, g, a]
      · rcases List.mem_append.mp hd with hd | hd
        · exact hwc d hd
        · rw [List.mem_singleton] at hd; rw [hd]; exact hc2)
  rw [Rx.rng_len] at hw1
  have efo := Rx.fo_ok (C := kons) (call := R n) (t := .name 4) (b := t36_1) (it := .rng (.var 2)) (env := [some (.ref 0), some (.pd (Rx.S lettersW)), some (.pd (.int (k : Int))), some (.pd (Rx.S [])), none]) (s := X3 :: T) (s' := X3 :: T) (xs := rngD 0 k) (Rx.it_rngN (k := k) (by simp only [body, denSs, denS, den, denB, denV, denP, denI, denO, denT, denTs, denF, denG, denGs, both_1, both_2, cmpB_1, cmpB_2, bind_ok, bind_exc, bind_stuck, go_ok, go_exc, go_stuck, nxt_nx, nxt_rt, nxt_bk, nxt_ct, nxt_exc, litD, List.length_cons, List.length_nil, List.map_cons, List.map_nil, List.getElem?_cons_zero, List.getElem?_cons_succ, List.cons_append, List.nil_append, List.replicate, List.set_cons_zero, List.set_cons_succ, wipeE, Nat.reduceAdd, Nat.reduceSub, Nat.reduceEqDiff, Nat.reduceLT, Nat.zero_add, if_true, if_false, Bool.false_eq_true, Bool.not_true, Bool.not_false, beq_self_eq_true, lv_pd, lv_fn, take_self, bq_ft, bq_tf, tests, toP]) (by omega)) ef
  replace efo : denS kons 0 (R n) s36_1 [some (.ref 0), some (.pd (Rx.S [97, 98, 99, 100, 101, 102, 103, 104, 105, 106, 107, 108, 109, 110, 111, 112, 113, 114, 115, 116, 117, 118, 119, 120, 121, 122])), some (.pd (.int (k : Int))), some (.pd (Rx.S [])), none] (X3 :: T) = _ := efo
  refine ⟨w, X4, ?_, hX4, ?_⟩
  · unfold nameW
    simp only [Bool.and_eq_true, decide_eq_true_eq, List.all_eq_true]
    exact ⟨⟨by omega, by omega⟩, hw2⟩
  · rw [R_eq (d := d36) rfl]
    clear ef
    generalize R n = call at *
    simp only [d36, b36_eq, body, denSs, denS, den, denB, denV, denP, denI, denO, denT, denTs, denF, denG, denGs, both_1, both_2, cmpB_1, cmpB_2, bind_ok, bind_exc, bind_stuck, go_ok, go_exc, go_stuck, nxt_nx, nxt_rt, nxt_bk, nxt_ct, nxt_exc, litD, List.length_cons, List.length_nil, List.map_cons, List.map_nil, List.getElem?_cons_zero, List.getElem?_cons_succ, List.cons_append, List.nil_append, List.replicate, List.set_cons_zero, List.set_cons_succ, wipeE, Nat.reduceAdd, Nat.reduceSub, Nat.reduceEqDiff, Nat.reduceLT, Nat.zero_add, if_true, if_false, Bool.false_eq_true, Bool.not_true, Bool.not_false, beq_self_eq_true, lv_pd, lv_fn, take_self, bq_ft, bq_tf, tests, toP, e1, e2, e3, newL, l2, ei, a_add_i, hk, efo, leave, lv]
end K61


set_option linter.all false
set_option Elab.async false
set_option maxRecDepth 100000
set_option maxHeartbeats 2000000
namespace K61
open PySem Rx
/-! forms, drawn -/
/-- a comprehension whose turns change the store -/
theorem lcL_run {f : D → M (Option D)} (P : List D → Sto → Prop) : ∀ (xs acc : List D) (s : Sto), P acc s → (∀ x ∈ xs, ∀ acc s, P acc s → ∃ d s', f x s = .ok (some d) s' ∧ P (acc ++ [d]) s') → acc.length + xs.length ≤ line → ∃ ys s', lcL f xs acc s = .ok ys s' ∧ P ys s' ∧ ys.length = acc.length + xs.length
  | [], acc, s, h0, _, _ => ⟨acc, s, rfl, h0, by simp⟩
  | x :: xs, acc, s, h0, hs, hl => by
    obtain ⟨d, s', e, h1⟩ := hs x (by simp) acc s h0
    rw [List.length_cons] at hl
    obtain ⟨ys, s2, e2, h2, h3⟩ := lcL_run P xs (acc ++ [d]) s' h1 (fun y hy => hs y (by simp [hy])) (by rw [List.length_append, List.length_cons, List.length_nil]; omega)
    refine ⟨ys, s2, ?_, h2, by rw [h3]; simp only [List.length_append, List.length_cons, List.length_nil]; omega⟩
    rw [lcL, e]
    simp only
    rw [if_pos (by omega), e2]
theorem lc_run {call : Mean} {own : List Nat} {elt : E} {tg : Tg} {it : It} {env : Rx.Env} {s s' : Sto} {xs : List D} (P : List D → Sto → Prop) (hi : denI kons call it env s = .ok xs s') (h0 : P [] s') (hs : ∀ x ∈ xs, ∀ acc s, P acc s → ∃ d s', lcT kons call own elt tg .nil env x s = .ok (some d) s' ∧ P (acc ++ [d]) s') (hl : xs.length ≤ line) :
    ∃ ys s2, (den kons call (.lc false own elt tg it .nil)).1 env s = .ok (.pd (.list ys)) s2 ∧ P ys s2 ∧ ys.length = xs.length := by
  obtain ⟨ys, s2, e, h1, h2⟩ := lcL_run (f := lcT kons call own elt tg .nil env) P xs [] s' h0 hs (by rw [List.length_nil]; omega)
  rw [List.length_nil, Nat.zero_add] at h2
  refine ⟨ys, s2, ?_, h1, h2⟩
  rw [Rx.lc_den, hi, bind_ok, e, bind_ok]
  simp only [newL, h2, hl, if_true, Bool.false_eq_true, if_false]
def smallF (f : Fm) : Prop := goodF f ∧ f.head.length ≤ 5 ∧ f.tail.length ≤ 4
/-- None or a long number -/
theorem oneHead {n : Nat} (hn : 3 ≤ n) (X : Cell) (T : List Cell) (hX : stOk X) (v1 v2 v3 : Option Dv) (x : D) (hv : [some (Dv.ref 0), v1, v2, v3] = [some (Dv.ref 0), v1, v2, v3]) : ∃ (o : OI) (X' : Cell), smO o ∧ stOk X' ∧ lcT kons (R n) [3] (.idx (.lst false (.cons (.cst .non) (.cons (.call 43 (.cons (.var 0) .nil)) .nil))) (.blt .int (.cons (.cmp .gt (.call 34 (.cons (.var 0) (.cons (.cst (.int (4))) .nil))) (.cst (.int (0)))) .nil))) (.name 3) .nil [some (.ref 0), v1, v2, v3] x (X :: T) = .ok (some (intD o)) (X' :: T) := by
  have l2 := le_line 2 (by decide)
  obtain ⟨i1, X1, hi1, hX1, e1⟩ := wLong hn X T hX
  obtain ⟨i2, X2, hi2, hX2, e2⟩ := wD (by omega : 1 ≤ n) X1 T hX1 4 (by omega)
  by_cases h : 0 < i2
  · have q : decide (0 < i2) = true := decide_eq_true h
    have g := fun s => Rx.i_l (s := s) (xs := [PyData.none, .int i1]) (i := 1) (v := .int i1) (by decide) rfl
    refine ⟨some i1, X2, fun i hi => by cases hi; exact hi1, hX2, ?_⟩
    generalize R n = call at *
    simp only [Rx.lcT, body, denSs, denS, den, denB, denV, denP, denI, denO, denT, denTs, denF, denG, denGs, both_1, both_2, cmpB_1, cmpB_2, bind_ok, bind_exc, bind_stuck, go_ok, go_exc, go_stuck, nxt_nx, nxt_rt, nxt_bk, nxt_ct, nxt_exc, litD, List.length_cons, List.length_nil, List.map_cons, List.map_nil, List.getElem?_cons_zero, List.getElem?_cons_succ, List.cons_append, List.nil_append, List.replicate, List.set_cons_zero, List.set_cons_succ, wipeE, Nat.reduceAdd, Nat.reduceSub, Nat.reduceEqDiff, Nat.reduceLT, Nat.zero_add, if_true, if_false, Bool.false_eq_true, Bool.not_true, Bool.not_false, beq_self_eq_true, lv_pd, lv_fn, take_self, bq_ft, bq_tf, tests, toP, e1, e2, newL, l2, c_gt_i, q, Rx.f_int_b, g, intD]
  · have q : decide (0 < i2) = false := decide_eq_false h
    have g := fun s => Rx.i_l (s := s) (xs := [PyData.none, .int i1]) (i := 0) (v := .none) (by decide) rfl
    refine ⟨none, X2, fun i hi => (by cases hi), hX2, ?_⟩
    generalize R n = call at *
    simp only [Rx.lcT, body, denSs, denS, den, denB, denV, denP, denI, denO, denT, denTs, denF, denG, denGs, both_1, both_2, cmpB_1, cmpB_2, bind_ok, bind_exc, bind_stuck, go_ok, go_exc, go_stuck, nxt_nx, nxt_rt, nxt_bk, nxt_ct, nxt_exc, litD, List.length_cons, List.length_nil, List.map_cons, List.map_nil, List.getElem?_cons_zero, List.getElem?_cons_succ, List.cons_append, List.nil_append, List.replicate, List.set_cons_zero, List.set_cons_succ, wipeE, Nat.reduceAdd, Nat.reduceSub, Nat.reduceEqDiff, Nat.reduceLT, Nat.zero_add, if_true, if_false, Bool.false_eq_true, Bool.not_true, Bool.not_false, beq_self_eq_true, lv_pd, lv_fn, take_self, bq_ft, bq_tf, tests, toP, e1, e2, newL, l2, c_gt_i, q, Rx.f_int_b, g, intD]
theorem oneTail {n : Nat} (hn : 3 ≤ n) (X : Cell) (T : List Cell) (hX : stOk X) (v1 v2 v3 : Option Dv) (x : D) : ∃ (p : OP) (X' : Cell), smP p ∧ stOk X' ∧ lcT kons (R n) [3] (.idx (.lst false (.cons (.tup (.cons (.cst .non) (.cons (.cst (.int (0))) .nil))) (.cons (.tup (.cons (.call 43 (.cons (.var 0) .nil)) (.cons (.call 43 (.cons (.var 0) .nil)) .nil))) .nil))) (.blt .int (.cons (.cmp .gt (.call 34 (.cons (.var 0) (.cons (.cst (.int (4))) .nil))) (.cst (.int (0)))) .nil))) (.name 3) .nil [some (.ref 0), v1, v2, v3] x (X :: T) = .ok (some (pD p)) (X' :: T) := by
  have l2 := le_line 2 (by decide)
  obtain ⟨i1, X1, hi1, hX1, e1⟩ := wLong hn X T hX
  obtain ⟨j1, Y1, hj1, hY1, f1⟩ := wLong hn X1 T hX1
  obtain ⟨i2, X2, hi2, hX2, e2⟩ := wD (by omega : 1 ≤ n) Y1 T hY1 4 (by omega)
  by_cases h : 0 < i2
  · have q : decide (0 < i2) = true := decide_eq_true h
    have g := fun s => Rx.i_l (s := s) (xs := [PyData.tuple [.none, .int 0], .tuple [.int i1, .int j1]]) (i := 1) (v := .tuple [.int i1, .int j1]) (by decide) rfl
    refine ⟨some (i1, j1), X2, fun v s e => by cases e; exact ⟨hi1, hj1⟩, hX2, ?_⟩
    generalize R n = call at *
    simp only [Rx.lcT, body, denSs, denS, den, denB, denV, denP, denI, denO, denT, denTs, denF, denG, denGs, both_1, both_2, cmpB_1, cmpB_2, bind_ok, bind_exc, bind_stuck, go_ok, go_exc, go_stuck, nxt_nx, nxt_rt, nxt_bk, nxt_ct, nxt_exc, litD, List.length_cons, List.length_nil, List.map_cons, List.map_nil, List.getElem?_cons_zero, List.getElem?_cons_succ, List.cons_append, List.nil_append, List.replicate, List.set_cons_zero, List.set_cons_succ, wipeE, Nat.reduceAdd, Nat.reduceSub, Nat.reduceEqDiff, Nat.reduceLT, Nat.zero_add, if_true, if_false, Bool.false_eq_true, Bool.not_true, Bool.not_false, beq_self_eq_true, lv_pd, lv_fn, take_self, bq_ft, bq_tf, tests, toP, e1, f1, e2, newL, l2, c_gt_i, q, Rx.f_int_b, g, pD]
  · have q : decide (0 < i2) = false := decide_eq_false h
    have g := fun s => Rx.i_l (s := s) (xs := [PyData.tuple [.none, .int 0], .tuple [.int i1, .int j1]]) (i := 0) (v := .tuple [.none, .int 0]) (by decide) rfl
    refine ⟨none, X2, fun v s e => (by cases e), hX2, ?_⟩
    generalize R n = call at *
    simp only [Rx.lcT, body, denSs, denS, den, denB, denV, denP, denI, denO, denT, denTs, denF, denG, denGs, both_1, both_2, cmpB_1, cmpB_2, bind_ok, bind_exc, bind_stuck, go_ok, go_exc, go_stuck, nxt_nx, nxt_rt, nxt_bk, nxt_ct, nxt_exc, litD, List.length_cons, List.length_nil, List.map_cons, List.map_nil, List.getElem?_cons_zero, List.getElem?_cons_succ, List.cons_append, List.nil_append, List.replicate, List.set_cons_zero, List.set_cons_succ, wipeE, Nat.reduceAdd, Nat.reduceSub, Nat.reduceEqDiff, Nat.reduceLT, Nat.zero_add, if_true, if_false, Bool.false_eq_true, Bool.not_true, Bool.not_false, beq_self_eq_true, lv_pd, lv_fn, take_self, bq_ft, bq_tf, tests, toP, e1, f1, e2, newL, l2, c_gt_i, q, Rx.f_int_b, g, pD]
theorem wTextForm {n : Nat} (hn : 4 ≤ n) (X : Cell) (T : List Cell) (hX : stOk X) : ∃ (f : Fm) (X' : Cell), smallF f ∧ stOk X' ∧ R n 44 [.ref 0] (X :: T) = .ok (.pd (fmD f)) (X' :: T) := by
  obtain ⟨n, rfl⟩ : ∃ m, n = m + 1 := ⟨n - 1, by omega⟩
  have ln := line_val
  have l2 := le_line 2 (by decide)
  have lv := fun X => take_st X T
  obtain ⟨i1, X1, hi1, hX1, e1⟩ := wD (by omega : 1 ≤ n) X T hX 6 (by omega)
  obtain ⟨k1, hk1⟩ : ∃ k : Nat, i1 = (k : Int) := ⟨i1.toNat, by omega⟩
  obtain ⟨ys, s2, g1, ⟨X2, os, hs2, hX2, hys, hos⟩, hl1⟩ := lc_run (call := R n) (own := [3]) (elt := (.idx (.lst false (.cons (.cst .non) (.cons (.call 43 (.cons (.var 0) .nil)) .nil))) (.blt .int (.cons (.cmp .gt (.call 34 (.cons (.var 0) (.cons (.cst (.int (4))) .nil))) (.cst (.int (0)))) .nil)))) (tg := .name 3) (it := .rng (.call 34 (.cons (.var 0) (.cons (.cst (.int (6))) .nil)))) (env := [some (.ref 0), none, none, none]) (s := X :: T) (s' := X1 :: T) (xs := rngD 0 k1)
    (fun ys s => ∃ (Y : Cell) (os : List OI), s = Y :: T ∧ stOk Y ∧ ys = os.map intD ∧ ∀ o ∈ os, smO o)
    (Rx.it_rngN (k := k1) (by
      rw [hk1] at e1
      generalize R n = call at *
      simp only [body, denSs, denS, den, denB, denV, denP, denI, denO, denT, denTs, denF, denG, denGs, both_1, both_2, cmpB_1, cmpB_2, bind_ok, bind_exc, bind_stuck, go_ok, go_exc, go_stuck, nxt_nx, nxt_rt, nxt_bk, nxt_ct, nxt_exc, litD, List.length_cons, List.length_nil, List.map_cons, List.map_nil, List.getElem?_cons_zero, List.getElem?_cons_succ, List.cons_append, List.nil_append, List.replicate, List.set_cons_zero, List.set_cons_succ, wipeE, Nat.reduceAdd, Nat.reduceSub, Nat.reduceEqDiff, Nat.reduceLT, Nat.zero_add, if_true, if_false, Bool.false_eq_true, Bool.not_true, Bool.not_false, beq_self_eq_true, lv_pd, lv_fn, take_self, bq_ft, bq_tf, tests, toP, e1]) (by omega))
    ⟨X1, [], rfl, hX1, rfl, by simp⟩
    (fun x hx acc s ⟨Y, os, hs, hY, hys, hos⟩ => by
      obtain ⟨o, Y', ho, hY', e⟩ := oneHead (by omega : 3 ≤ n) Y T hY none none none x rfl
      rw [hs]
      exact ⟨intD o, Y' :: T, e, Y', os ++ [o], rfl, hY', by rw [hys, List.map_append]; rfl, fun z hz => by
        rcases List.mem_append.mp hz with hz | hz
        · exact hos z hz
        · rw [List.mem_singleton] at hz; rw [hz]; exact ho⟩)
    (by rw [Rx.rng_len]; omega)
  rw [Rx.rng_len, hys, List.length_map] at hl1
  subst hs2 hys
  replace g1 : (den kons (R n) l44_1).1 [some (.ref 0), none, none, none] (X :: T) = .ok (.pd (.list (os.map intD))) (X2 :: T) := g1
  obtain ⟨i3, X3, hi3, hX3, e3⟩ := wD (by omega : 1 ≤ n) X2 T hX2 4 (by omega)
  obtain ⟨k3, hk3⟩ : ∃ k : Nat, 1 + i3 = (k : Int) := ⟨(1 + i3).toNat, by omega⟩
  obtain ⟨zs, s4, g3, ⟨X4, ps, hs4, hX4, hzs, hps⟩, hl3⟩ := lc_run (call := R n) (own := [3]) (elt := (.idx (.lst false (.cons (.tup (.cons (.cst .non) (.cons (.cst (.int (0))) .nil))) (.cons (.tup (.cons (.call 43 (.cons (.var 0) .nil)) (.cons (.call 43 (.cons (.var 0) .nil)) .nil))) .nil))) (.blt .int (.cons (.cmp .gt (.call 34 (.cons (.var 0) (.cons (.cst (.int (4))) .nil))) (.cst (.int (0)))) .nil)))) (tg := .name 3) (it := .rng (.bin .add (.cst (.int (1))) (.call 34 (.cons (.var 0) (.cons (.cst (.int (4))) .nil))))) (env := [some (.ref 0), some (.pd (.list (os.map intD))), none, none]) (s := X2 :: T) (s' := X3 :: T) (xs := rngD 0 k3)
    (fun ys s => ∃ (Y : Cell) (os : List OP), s = Y :: T ∧ stOk Y ∧ ys = os.map pD ∧ ∀ o ∈ os, smP o)
    (Rx.it_rngN (k := k3) (by
      generalize R n = call at *
      simp only [body, denSs, denS, den, denB, denV, denP, denI, denO, denT, denTs, denF, denG, denGs, both_1, both_2, cmpB_1, cmpB_2, bind_ok, bind_exc, bind_stuck, go_ok, go_exc, go_stuck, nxt_nx, nxt_rt, nxt_bk, nxt_ct, nxt_exc, litD, List.length_cons, List.length_nil, List.map_cons, List.map_nil, List.getElem?_cons_zero, List.getElem?_cons_succ, List.cons_append, List.nil_append, List.replicate, List.set_cons_zero, List.set_cons_succ, wipeE, Nat.reduceAdd, Nat.reduceSub, Nat.reduceEqDiff, Nat.reduceLT, Nat.zero_add, if_true, if_false, Bool.false_eq_true, Bool.not_true, Bool.not_false, beq_self_eq_true, lv_pd, lv_fn, take_self, bq_ft, bq_tf, tests, toP, e3, a_add_i, hk3]) (by omega))
    ⟨X3, [], rfl, hX3, rfl, by simp⟩
    (fun x hx acc s ⟨Y, os', hs, hY, hys, hos'⟩ => by
      obtain ⟨o, Y', ho, hY', e⟩ := oneTail (by omega : 3 ≤ n) Y T hY (some (.pd (.list (os.map intD)))) none none x
      rw [hs]
      exact ⟨pD o, Y' :: T, e, Y', os' ++ [o], rfl, hY', by rw [hys, List.map_append]; rfl, fun z hz => by
        rcases List.mem_append.mp hz with hz | hz
        · exact hos' z hz
        · rw [List.mem_singleton] at hz; rw [hz]; exact ho⟩)
    (by rw [Rx.rng_len]; omega)
  rw [Rx.rng_len, hzs, List.length_map] at hl3
  subst hs4 hzs
  replace g3 : (den kons (R n) l44_2).1 [some (.ref 0), some (.pd (.list (os.map intD))), none, none] (X2 :: T) = .ok (.pd (.list (ps.map pD))) (X4 :: T) := g3
  have t1 : ∀ s, bltV .tuple [.pd (.list (os.map intD))] s = .ok (.pd (.tuple (os.map intD))) s := fun s => rfl
  have t2 : ∀ s, bltV .tuple [.pd (.list (ps.map pD))] s = .ok (.pd (.tuple (ps.map pD))) s := fun s => rfl
  have hd : fmD ⟨os, ps⟩ = .tuple [.tuple (os.map intD), .tuple (ps.map pD)] := rfl
  refine ⟨⟨os, ps⟩, X4, ⟨⟨⟨by show os.length ≤ 4000; omega, by show 1 ≤ ps.length; omega, by show ps.length ≤ 1000; omega⟩, hos, hps⟩, by show os.length ≤ 5; omega, by show ps.length ≤ 4; omega⟩, hX4, ?_⟩
  rw [hd, R_eq (d := d44) rfl]
  generalize os.map intD = ds at *
  generalize ps.map pD = dz at *
  generalize R n = call at *
  simp only [d44, b44_eq, body, denSs, denS, den, denB, denV, denP, denI, denO, denT, denTs, denF, denG, denGs, both_1, both_2, cmpB_1, cmpB_2, bind_ok, bind_exc, bind_stuck, go_ok, go_exc, go_stuck, nxt_nx, nxt_rt, nxt_bk, nxt_ct, nxt_exc, litD, List.length_cons, List.length_nil, List.map_cons, List.map_nil, List.getElem?_cons_zero, List.getElem?_cons_succ, List.cons_append, List.nil_append, List.replicate, List.set_cons_zero, List.set_cons_succ, wipeE, Nat.reduceAdd, Nat.reduceSub, Nat.reduceEqDiff, Nat.reduceLT, Nat.zero_add, if_true, if_false, Bool.false_eq_true, Bool.not_true, Bool.not_false, beq_self_eq_true, lv_pd, lv_fn, take_self, bq_ft, bq_tf, tests, toP, g1, g3, t1, t2, l2, leave, lv]
end K61


set_option linter.all false
set_option Elab.async false
set_option maxRecDepth 100000
set_option maxHeartbeats 2000000
namespace K61
open PySem Rx
/-! formulas, drawn -/
def rowLeaf : St := (.ite (.bop false (.cons (.cmp .eq (.var 1) (.cst (.int (0)))) (.cons (.cmp .lt (.var 2) (.cst (.int (3)))) .nil))) (.cons (.asg (.name 5) (.blt .sorted (.cons (.lst false (.cons (.bin .add (.cst (.int (1))) (.call 34 (.cons (.var 0) (.cons (.cst (.int (1000))) .nil)))) (.cons (.bin .sub (.bin .sub (.cst (.int (1001))) (.cst (.int (1)))) (.call 34 (.cons (.var 0) (.cons (.cst (.int (3))) .nil)))) .nil))) .nil))) (.cons (.ite (.cmp .eq (.idx (.var 5) (.cst (.int (0)))) (.idx (.var 5) (.cst (.int (1))))) (.cons (.asg (.name 5) (.slc (.var 5) .none (.some (.cst (.int (1)))))) .nil) .nil) (.cons (.ret (.idx (.lst false (.cons (.tup (.cons (.cst (.str [102, 111, 114, 109])) (.cons (.call 44 (.cons (.var 0) .nil)) .nil))) (.cons (.tup (.cons (.cst (.str [110, 97, 109, 101])) (.cons (.call 36 (.cons (.var 0) .nil)) .nil))) (.cons (.tup (.cons (.cst (.str [102, 101, 119, 101, 115, 116])) (.cons (.blt .tuple (.cons (.var 5) .nil)) .nil))) .nil)))) (.bin .mod (.blt .int (.cons (.var 2) .nil)) (.cst (.int (3)))))) .nil))) .nil)
def rowRest : Ss := (.cons (.asg (.name 3) (.call 45 (.cons (.var 0) (.cons (.bin .sub (.var 1) (.cst (.int (1)))) .nil)))) (.cons (.ite (.cmp .eq (.var 2) (.cst (.int (3)))) (.cons (.ret (.tup (.cons (.cst (.str [116, 105, 109, 101, 115])) (.cons (.var 3) (.cons (.call 43 (.cons (.var 0) .nil)) .nil))))) .nil) .nil) (.cons (.ite (.cmp .eq (.var 2) (.cst (.int (4)))) (.cons (.ret (.tup (.cons (.cst (.str [100, 105, 118, 105, 100, 101, 100])) (.cons (.var 3) (.cons (.idx (.lst false (.cons (.bin .add (.cst (.int (1))) (.call 34 (.cons (.var 0) (.cons (.cst (.int (1000))) .nil)))) (.cons (.cst (.int (1000))) .nil))) (.call 34 (.cons (.var 0) (.cons (.cst (.int (2))) .nil)))) .nil))))) .nil) .nil) (.cons (.ite (.cmp .eq (.var 2) (.cst (.int (5)))) (.cons (.ret (.tup (.cons (.cst (.str [119, 104, 101, 114, 101])) (.cons (.var 3) (.cons (.idx (.lst false (.cons (.cst .non) (.cons (.call 43 (.cons (.var 0) .nil)) .nil))) (.call 34 (.cons (.var 0) (.cons (.cst (.int (2))) .nil)))) (.cons (.idx (.lst false (.cons (.cst .non) (.cons (.call 43 (.cons (.var 0) .nil)) .nil))) (.call 34 (.cons (.var 0) (.cons (.cst (.int (2))) .nil)))) .nil)))))) .nil) .nil) (.cons (.ite (.cmp .eq (.var 2) (.cst (.int (6)))) (.cons (.ret (.tup (.cons (.cst (.str [109, 111, 118, 101, 100])) (.cons (.var 3) (.cons (.call 43 (.cons (.var 0) .nil)) .nil))))) .nil) .nil) (.cons (.ite (.cmp .eq (.var 2) (.cst (.int (7)))) (.cons (.ret (.tup (.cons (.cst (.str [102, 114, 111, 109])) (.cons (.var 3) .nil)))) .nil) .nil) (.cons (.asg (.name 4) (.idx (.lst false (.cons (.cst (.str [115, 117, 109])) (.cons (.cst (.str [100, 105, 102, 102, 101, 114, 101, 110, 99, 101])) (.cons (.cst (.str [108, 101, 115, 115, 101, 114])) (.cons (.cst (.str [103, 114, 101, 97, 116, 101, 114])) (.cons (.cst (.str [111, 116, 104, 101, 114, 119, 105, 115, 101])) (.cons (.cst (.str [97, 102, 116, 101, 114])) (.cons (.cst (.str [115, 112, 108, 105, 116])) .nil)))))))) (.bin .sub (.var 2) (.cst (.int (8)))))) (.cons (.ret (.tup (.cons (.var 4) (.cons (.var 3) (.cons (.call 45 (.cons (.var 0) (.cons (.bin .sub (.var 1) (.cst (.int (1)))) .nil))) .nil))))) .nil))))))))
theorem textRow_eq : b45 = .cons (.asg (.name 2) (.call 34 (.cons (.var 0) (.cons (.cst (.int (15))) .nil)))) (.cons rowLeaf rowRest) := rfl
/-- small enough to be told -/
def smallR (φ : Fo) : Prop := goodR φ ∧ ∀ f, φ = .form f → f.head.length ≤ 5 ∧ f.tail.length ≤ 4
def okA (φ : Fo) : Prop := ∀ ψ ∈ rows φ, smallR ψ
theorem okA.good {φ : Fo} (h : okA φ) : goodA φ := fun ψ hψ => (h ψ hψ).1
theorem okA_of {φ : Fo} (h : smallR φ) (h2 : ∀ a ∈ inner φ, okA a) : okA φ := fun ψ hψ => by
  rw [rows_cons] at hψ
  rcases List.mem_cons.mp hψ with e | hψ
  · rw [e]; exact h
  · obtain ⟨a, ha, hψ⟩ := List.mem_flatMap.mp hψ
    exact h2 a ha ψ hψ
theorem okA_lines {φ : Fo} (h : okA φ) : ∀ l ∈ lines φ, l.length ≤ 100000 := fun l hl => by
  obtain ⟨ψ, hψ, hl⟩ := List.mem_flatMap.mp hl
  have hg := h ψ hψ
  by_cases hf : ∃ f, ψ = .form f
  · obtain ⟨f, rfl⟩ := hf
    have hs := hg.2 f rfl
    have hgf : goodF f := hg.1
    simp only [rowLs, List.mem_cons, List.not_mem_nil, or_false] at hl
    rcases hl with e | e <;> rw [e]
    · have := Rx.joinL_bnd 32 81 (wHead :: f.head.map wordO) (head_bnd hgf)
      rw [List.length_cons, List.length_map] at this
      unfold headW
      omega
    · have := Rx.joinL_bnd 32 81 (wTail :: f.tail.map pairW) (tail_bnd hgf)
      rw [List.length_cons, List.length_map] at this
      unfold tailW
      omega
  · have hf : ∀ f, ψ ≠ .form f := fun f e => hf ⟨f, e⟩
    rw [row_at hf, List.mem_singleton] at hl
    have h1 := Rx.joinL_bnd 32 40 (rowWs ψ) (fun w hw => (rowWs_ok hg.1 w hw).2)
    have h2 := rowWs_len hg.1
    rw [hl]
    omega
theorem sort2 (a b : Int) : ∃ x y : Int, ((x = a ∧ y = b) ∨ (x = b ∧ y = a)) ∧ x ≤ y ∧ ∀ s, bltV .sorted [.pd (.list [.int a, .int b])] s = .ok (.pd (.list [.int x, .int y])) s := by
  have l2 := le_line 2 (by decide)
  by_cases h : a < b
  · refine ⟨a, b, .inl ⟨rfl, rfl⟩, by omega, fun s => ?_⟩
    have hi : isort [PyData.int a, .int b] = some [.int a, .int b] := by
      have ho : ordD .lt (PyData.int a) (.int b) = some (decide (a < b)) := rfl
      simp [isort, ins, ltD, ho, h]
    have hc : cmpAll [PyData.int a, .int b] = true := rfl
    have hl : decide ([PyData.int a, .int b].length ≤ line) = true := decide_eq_true l2
    simp only [bltV, blt1, sortV, view, hc, hl, Bool.and_self, if_true, hi]
  · refine ⟨b, a, .inr ⟨rfl, rfl⟩, by omega, fun s => ?_⟩
    have hi : isort [PyData.int a, .int b] = some [.int b, .int a] := by
      have ho : ordD .lt (PyData.int a) (.int b) = some (decide (a < b)) := rfl
      simp [isort, ins, ltD, ho, h]
    have hc : cmpAll [PyData.int a, .int b] = true := rfl
    have hl : decide ([PyData.int a, .int b].length ≤ line) = true := decide_eq_true l2
    simp only [bltV, blt1, sortV, view, hc, hl, Bool.and_self, if_true, hi]
theorem leafPick (k : Int) (f : Fm) (w : W) (vs : List Int) (hf : smallF f) (hw : nameW w = true) (hv : goodR (.few vs)) : ∃ φ, okA φ ∧ height φ = 1 ∧ (rows φ).length = 1 ∧ ∀ s, idxV (.pd (.list [.tuple [Rx.S [102, 111, 114, 109], fmD f], .tuple [Rx.S [110, 97, 109, 101], Rx.S w], .tuple [Rx.S [102, 101, 119, 101, 115, 116], .tuple (vs.map .int)]])) (.pd (.int (k % 3))) s = .ok (.pd (toD φ)) s := by
  have h1 := Int.emod_nonneg k (show (3 : Int) ≠ 0 by omega)
  have h2 := Int.emod_lt_of_pos k (show (0 : Int) < 3 by omega)
  generalize k % 3 = r at *
  rcases (by omega : r = 0 ∨ r = 1 ∨ r = 2) with rfl | rfl | rfl
  · exact ⟨.form f, okA_of ⟨hf.1, fun g e => by cases e; exact hf.2⟩ (fun a ha => by simp [inner] at ha), rfl, rfl, fun s => Rx.i_l (s := s) (by decide) rfl⟩
  · exact ⟨.name w, okA_of ⟨hw, fun g e => by cases e⟩ (fun a ha => by simp [inner] at ha), rfl, rfl, fun s => Rx.i_l (s := s) (by decide) rfl⟩
  · exact ⟨.few vs, okA_of ⟨hv, fun g e => by cases e⟩ (fun a ha => by simp [inner] at ha), rfl, rfl, fun s => Rx.i_l (s := s) (by decide) rfl⟩
theorem rowLeaf_ok {n : Nat} (hn : 4 ≤ n) (X : Cell) (T : List Cell) (hX : stOk X) (d k : Int) (h : d = 0 ∨ k < 3) : ∃ (φ : Fo) (X' : Cell), okA φ ∧ height φ = 1 ∧ (rows φ).length = 1 ∧ stOk X' ∧ denS kons 0 (R n) rowLeaf [some (.ref 0), some (.pd (.int d)), some (.pd (.int k)), none, none, none] (X :: T) = .out (.rt (.pd (toD φ))) (X' :: T) := by
  have l2 := le_line 2 (by decide)
  have l3 := le_line 3 (by decide)
  obtain ⟨i1, X1, hi1, hX1, e1⟩ := wD (by omega : 1 ≤ n) X T hX 1000 (by omega)
  obtain ⟨i2, X2, hi2, hX2, e2⟩ := wD (by omega : 1 ≤ n) X1 T hX1 3 (by omega)
  obtain ⟨x, y, hxy, hle, es⟩ := sort2 (1 + i1) (1001 - 1 - i2)
  obtain ⟨f, X3, hf, hX3, e3⟩ := wTextForm (by omega : 4 ≤ n) X2 T hX2
  obtain ⟨w, X4, hw, hX4, e4⟩ := wLawName (by omega : 2 ≤ n) X3 T hX3
  have m3 := fun s => a_mod_i (s := s) k 3 (by omega)
  have j0 := fun s => Rx.i_l (s := s) (xs := [PyData.int x, .int y]) (i := 0) (v := .int x) (by decide) rfl
  have j1 := fun s => Rx.i_l (s := s) (xs := [PyData.int x, .int y]) (i := 1) (v := .int y) (by decide) rfl
  have d3 : decide (d = 0) = false → decide (k < 3) = true := fun q => by
    rw [decide_eq_false_iff_not] at q
    rw [decide_eq_true_eq]
    omega
  by_cases he : x = y
  · have q : decide (x = y) = true := decide_eq_true he
    obtain ⟨φ, p1, p2, p3, gi⟩ := leafPick k f w [x] hf hw ⟨⟨by simp, by simp⟩, fun v hv => by rw [List.mem_singleton] at hv; omega, rfl⟩
    have z := fun s => Rx.z_l (s := s) [PyData.int x, .int y] none (some 1)
    replace z : ∀ s, slcI (.pd (.list [.int x, .int y])) none (some 1) s = .ok (.pd (.list [.int x])) s := z
    have t := fun s => Rx.f_tup_l (s := s) [PyData.int x]
    refine ⟨φ, X4, p1, p2, p3, hX4, ?_⟩
    replace gi : ∀ s, idxV (.pd (.list [.tuple [Rx.S [102, 111, 114, 109], fmD f], .tuple [Rx.S [110, 97, 109, 101], Rx.S w], .tuple [Rx.S [102, 101, 119, 101, 115, 116], .tuple [.int x]]])) (.pd (.int (k % 3))) s = .ok (.pd (toD φ)) s := gi
    generalize k % 3 = r at *
    generalize toD φ = dφ at *
    generalize R n = call at *
    cases hd : decide (d = 0) with
    | true => simp only [rowLeaf, body, denSs, denS, den, denB, denV, denP, denI, denO, denT, denTs, denF, denG, denGs, both_1, both_2, cmpB_1, cmpB_2, bind_ok, bind_exc, bind_stuck, go_ok, go_exc, go_stuck, nxt_nx, nxt_rt, nxt_bk, nxt_ct, nxt_exc, litD, List.length_cons, List.length_nil, List.map_cons, List.map_nil, List.getElem?_cons_zero, List.getElem?_cons_succ, List.cons_append, List.nil_append, List.replicate, List.set_cons_zero, List.set_cons_succ, wipeE, Nat.reduceAdd, Nat.reduceSub, Nat.reduceEqDiff, Nat.reduceLT, Nat.zero_add, if_true, if_false, Bool.false_eq_true, Bool.not_true, Bool.not_false, beq_self_eq_true, lv_pd, lv_fn, take_self, bq_ft, bq_tf, tests, toP, c_eq_i, hd, e1, e2, newL, l2, l3, a_add_i, a_sub_i, es, j0, j1, q, z, e3, e4, t, Rx.f_int_i, m3, gi]
    | false => simp only [rowLeaf, body, denSs, denS, den, denB, denV, denP, denI, denO, denT, denTs, denF, denG, denGs, both_1, both_2, cmpB_1, cmpB_2, bind_ok, bind_exc, bind_stuck, go_ok, go_exc, go_stuck, nxt_nx, nxt_rt, nxt_bk, nxt_ct, nxt_exc, litD, List.length_cons, List.length_nil, List.map_cons, List.map_nil, List.getElem?_cons_zero, List.getElem?_cons_succ, List.cons_append, List.nil_append, List.replicate, List.set_cons_zero, List.set_cons_succ, wipeE, Nat.reduceAdd, Nat.reduceSub, Nat.reduceEqDiff, Nat.reduceLT, Nat.zero_add, if_true, if_false, Bool.false_eq_true, Bool.not_true, Bool.not_false, beq_self_eq_true, lv_pd, lv_fn, take_self, bq_ft, bq_tf, tests, toP, c_eq_i, hd, c_lt_i, d3 hd, e1, e2, newL, l2, l3, a_add_i, a_sub_i, es, j0, j1, q, z, e3, e4, t, Rx.f_int_i, m3, gi]
  · have q : decide (x = y) = false := decide_eq_false he
    obtain ⟨φ, p1, p2, p3, gi⟩ := leafPick k f w [x, y] hf hw ⟨⟨by simp, by simp⟩, fun v hv => by simp only [List.mem_cons, List.not_mem_nil, or_false] at hv; omega, by simp only [asc, Bool.and_true, decide_eq_true_eq]; omega⟩
    have t := fun s => Rx.f_tup_l (s := s) [PyData.int x, .int y]
    refine ⟨φ, X4, p1, p2, p3, hX4, ?_⟩
    replace gi : ∀ s, idxV (.pd (.list [.tuple [Rx.S [102, 111, 114, 109], fmD f], .tuple [Rx.S [110, 97, 109, 101], Rx.S w], .tuple [Rx.S [102, 101, 119, 101, 115, 116], .tuple [.int x, .int y]]])) (.pd (.int (k % 3))) s = .ok (.pd (toD φ)) s := gi
    generalize k % 3 = r at *
    generalize toD φ = dφ at *
    generalize R n = call at *
    cases hd : decide (d = 0) with
    | true => simp only [rowLeaf, body, denSs, denS, den, denB, denV, denP, denI, denO, denT, denTs, denF, denG, denGs, both_1, both_2, cmpB_1, cmpB_2, bind_ok, bind_exc, bind_stuck, go_ok, go_exc, go_stuck, nxt_nx, nxt_rt, nxt_bk, nxt_ct, nxt_exc, litD, List.length_cons, List.length_nil, List.map_cons, List.map_nil, List.getElem?_cons_zero, List.getElem?_cons_succ, List.cons_append, List.nil_append, List.replicate, List.set_cons_zero, List.set_cons_succ, wipeE, Nat.reduceAdd, Nat.reduceSub, Nat.reduceEqDiff, Nat.reduceLT, Nat.zero_add, if_true, if_false, Bool.false_eq_true, Bool.not_true, Bool.not_false, beq_self_eq_true, lv_pd, lv_fn, take_self, bq_ft, bq_tf, tests, toP, c_eq_i, hd, e1, e2, newL, l2, l3, a_add_i, a_sub_i, es, j0, j1, q, e3, e4, t, Rx.f_int_i, m3, gi]
    | false => simp only [rowLeaf, body, denSs, denS, den, denB, denV, denP, denI, denO, denT, denTs, denF, denG, denGs, both_1, both_2, cmpB_1, cmpB_2, bind_ok, bind_exc, bind_stuck, go_ok, go_exc, go_stuck, nxt_nx, nxt_rt, nxt_bk, nxt_ct, nxt_exc, litD, List.length_cons, List.length_nil, List.map_cons, List.map_nil, List.getElem?_cons_zero, List.getElem?_cons_succ, List.cons_append, List.nil_append, List.replicate, List.set_cons_zero, List.set_cons_succ, wipeE, Nat.reduceAdd, Nat.reduceSub, Nat.reduceEqDiff, Nat.reduceLT, Nat.zero_add, if_true, if_false, Bool.false_eq_true, Bool.not_true, Bool.not_false, beq_self_eq_true, lv_pd, lv_fn, take_self, bq_ft, bq_tf, tests, toP, c_eq_i, hd, c_lt_i, d3 hd, e1, e2, newL, l2, l3, a_add_i, a_sub_i, es, j0, j1, q, e3, e4, t, Rx.f_int_i, m3, gi]
end K61


set_option linter.all false
set_option Elab.async false
set_option maxRecDepth 100000
set_option maxHeartbeats 2000000
namespace K61
open PySem Rx
theorem optPick {i j : Int} (hi : sm i) (hj : 0 ≤ j ∧ j < 2) : ∃ o : OI, smO o ∧ ∀ s, idxV (.pd (.list [.none, .int i])) (.pd (.int j)) s = .ok (.pd (intD o)) s := by
  rcases (by omega : j = 0 ∨ j = 1) with rfl | rfl
  · exact ⟨none, fun i hi => (by cases hi), fun s => Rx.i_l (s := s) (by decide) rfl⟩
  · exact ⟨some i, fun z hz => (by cases hz; exact hi), fun s => Rx.i_l (s := s) (by decide) rfl⟩
theorem intPick {i j : Int} (hi : 0 ≤ i ∧ i < 1000) (hj : 0 ≤ j ∧ j < 2) : ∃ v : Int, (1 ≤ v ∧ v ≤ 1000) ∧ ∀ s, idxV (.pd (.list [.int (1 + i), .int 1000])) (.pd (.int j)) s = .ok (.pd (.int v)) s := by
  rcases (by omega : j = 0 ∨ j = 1) with rfl | rfl
  · exact ⟨1 + i, by omega, fun s => Rx.i_l (s := s) (by decide) rfl⟩
  · exact ⟨1000, by omega, fun s => Rx.i_l (s := s) (by decide) rfl⟩
theorem one_ok {φ a : Fo} (h : goodR φ) (hn : ∀ f, φ ≠ .form f) (hi : inner φ = [a]) (ha : okA a) : okA φ := okA_of ⟨h, fun f e => absurd e (hn f)⟩ fun b hb => by
  rw [hi, List.mem_singleton] at hb
  rw [hb]; exact ha
theorem two_ok {φ a b : Fo} (h : goodR φ) (hn : ∀ f, φ ≠ .form f) (hi : inner φ = [a, b]) (ha : okA a) (hb : okA b) : okA φ := okA_of ⟨h, fun f e => absurd e (hn f)⟩ fun c hc => by
  rw [hi] at hc
  simp only [List.mem_cons, List.not_mem_nil, or_false] at hc
  rcases hc with e | e <;> rw [e]
  · exact ha
  · exact hb
theorem rowRest_ok {n : Nat} (hn : 4 ≤ n) (X : Cell) (T : List Cell) (hX : stOk X) (d k : Int) (hk : 3 ≤ k ∧ k < 15) (h m : Nat) (hm : 1 ≤ m)
    (H : ∀ X : Cell, stOk X → ∃ (φ : Fo) (X' : Cell), okA φ ∧ height φ ≤ h ∧ (rows φ).length ≤ m ∧ stOk X' ∧ R n 45 [.ref 0, .pd (.int (d - 1))] (X :: T) = .ok (.pd (toD φ)) (X' :: T)) :
    ∃ (φ : Fo) (X' : Cell), okA φ ∧ height φ ≤ h + 1 ∧ (rows φ).length ≤ 2 * m + 1 ∧ stOk X' ∧ denSs kons 0 (R n) rowRest [some (.ref 0), some (.pd (.int d)), some (.pd (.int k)), none, none, none] (X :: T) = .out (.rt (.pd (toD φ))) (X' :: T) := by
  have l2 := le_line 2 (by decide)
  have l3 := le_line 3 (by decide)
  have l4 := le_line 4 (by decide)
  have l7 := le_line 7 (by decide)
  obtain ⟨a, X1, ha, hha, hra, hX1, e1⟩ := H X hX
  rcases (by omega : k = 3 ∨ k = 4 ∨ k = 5 ∨ k = 6 ∨ k = 7 ∨ 8 ≤ k) with rfl | rfl | rfl | rfl | rfl | h8
  · obtain ⟨i, X2, hi, hX2, e2⟩ := wLong (by omega : 3 ≤ n) X1 T hX1
    refine ⟨.times a i, X2, one_ok (a := a) hi (by intro f e; cases e) rfl ha, by simp only [height]; omega, by simp only [rows, List.length_cons]; omega, hX2, ?_⟩
    have q3 : decide ((3 : Int) = 3) = true := rfl
    have hd : toD (.times a i) = .tuple [Rx.S [116, 105, 109, 101, 115], toD a, .int i] := rfl
    rw [hd]
    generalize toD a = da at *
    clear H
    generalize R n = call at *
    simp only [rowRest, body, denSs, denS, den, denB, denV, denP, denI, denO, denT, denTs, denF, denG, denGs, both_1, both_2, cmpB_1, cmpB_2, bind_ok, bind_exc, bind_stuck, go_ok, go_exc, go_stuck, nxt_nx, nxt_rt, nxt_bk, nxt_ct, nxt_exc, litD, List.length_cons, List.length_nil, List.map_cons, List.map_nil, List.getElem?_cons_zero, List.getElem?_cons_succ, List.cons_append, List.nil_append, List.replicate, List.set_cons_zero, List.set_cons_succ, wipeE, Nat.reduceAdd, Nat.reduceSub, Nat.reduceEqDiff, Nat.reduceLT, Nat.zero_add, if_true, if_false, Bool.false_eq_true, Bool.not_true, Bool.not_false, beq_self_eq_true, lv_pd, lv_fn, take_self, bq_ft, bq_tf, tests, toP, a_sub_i, e1, c_eq_i, q3, decide_true, e2, l3]
  · obtain ⟨i, X2, hi, hX2, e2⟩ := wD (by omega : 1 ≤ n) X1 T hX1 1000 (by omega)
    obtain ⟨j, X3, hj, hX3, e3⟩ := wD (by omega : 1 ≤ n) X2 T hX2 2 (by omega)
    obtain ⟨v, hv, g⟩ := intPick hi hj
    refine ⟨.divided a v, X3, one_ok (a := a) hv (by intro f e; cases e) rfl ha, by simp only [height]; omega, by simp only [rows, List.length_cons]; omega, hX3, ?_⟩
    have q3 : decide ((4 : Int) = 3) = false := rfl
    have hd : toD (.divided a v) = .tuple [Rx.S [100, 105, 118, 105, 100, 101, 100], toD a, .int v] := rfl
    rw [hd]
    generalize toD a = da at *
    clear H
    generalize R n = call at *
    simp only [rowRest, body, denSs, denS, den, denB, denV, denP, denI, denO, denT, denTs, denF, denG, denGs, both_1, both_2, cmpB_1, cmpB_2, bind_ok, bind_exc, bind_stuck, go_ok, go_exc, go_stuck, nxt_nx, nxt_rt, nxt_bk, nxt_ct, nxt_exc, litD, List.length_cons, List.length_nil, List.map_cons, List.map_nil, List.getElem?_cons_zero, List.getElem?_cons_succ, List.cons_append, List.nil_append, List.replicate, List.set_cons_zero, List.set_cons_succ, wipeE, Nat.reduceAdd, Nat.reduceSub, Nat.reduceEqDiff, Nat.reduceLT, Nat.zero_add, if_true, if_false, Bool.false_eq_true, Bool.not_true, Bool.not_false, beq_self_eq_true, lv_pd, lv_fn, take_self, bq_ft, bq_tf, tests, toP, a_sub_i, a_add_i, e1, c_eq_i, q3, decide_true, e2, e3, newL, l2, g, l3]
  · obtain ⟨i, X2, hi, hX2, e2⟩ := wLong (by omega : 3 ≤ n) X1 T hX1
    obtain ⟨j, X3, hj, hX3, e3⟩ := wD (by omega : 1 ≤ n) X2 T hX2 2 (by omega)
    obtain ⟨i', X4, hi', hX4, e4⟩ := wLong (by omega : 3 ≤ n) X3 T hX3
    obtain ⟨j', X5, hj', hX5, e5⟩ := wD (by omega : 1 ≤ n) X4 T hX4 2 (by omega)
    obtain ⟨o, ho, g⟩ := optPick hi hj
    obtain ⟨o', ho', g'⟩ := optPick hi' hj'
    refine ⟨.wher a o o', X5, one_ok (a := a) ⟨ho, ho'⟩ (by intro f e; cases e) rfl ha, by simp only [height]; omega, by simp only [rows, List.length_cons]; omega, hX5, ?_⟩
    have q3 : decide ((5 : Int) = 3) = false := rfl
    have q4 : decide ((5 : Int) = 4) = false := rfl
    have hd : toD (.wher a o o') = .tuple [Rx.S [119, 104, 101, 114, 101], toD a, intD o, intD o'] := rfl
    rw [hd]
    generalize toD a = da at *
    clear H
    generalize R n = call at *
    simp only [rowRest, body, denSs, denS, den, denB, denV, denP, denI, denO, denT, denTs, denF, denG, denGs, both_1, both_2, cmpB_1, cmpB_2, bind_ok, bind_exc, bind_stuck, go_ok, go_exc, go_stuck, nxt_nx, nxt_rt, nxt_bk, nxt_ct, nxt_exc, litD, List.length_cons, List.length_nil, List.map_cons, List.map_nil, List.getElem?_cons_zero, List.getElem?_cons_succ, List.cons_append, List.nil_append, List.replicate, List.set_cons_zero, List.set_cons_succ, wipeE, Nat.reduceAdd, Nat.reduceSub, Nat.reduceEqDiff, Nat.reduceLT, Nat.zero_add, if_true, if_false, Bool.false_eq_true, Bool.not_true, Bool.not_false, beq_self_eq_true, lv_pd, lv_fn, take_self, bq_ft, bq_tf, tests, toP, a_sub_i, a_add_i, e1, c_eq_i, q3, q4, decide_true, e2, e3, e4, e5, newL, l2, g, g', l4]
  · obtain ⟨i, X2, hi, hX2, e2⟩ := wLong (by omega : 3 ≤ n) X1 T hX1
    refine ⟨.moved a i, X2, one_ok (a := a) hi (by intro f e; cases e) rfl ha, by simp only [height]; omega, by simp only [rows, List.length_cons]; omega, hX2, ?_⟩
    have q3 : decide ((6 : Int) = 3) = false := rfl
    have q4 : decide ((6 : Int) = 4) = false := rfl
    have q5 : decide ((6 : Int) = 5) = false := rfl
    have hd : toD (.moved a i) = .tuple [Rx.S [109, 111, 118, 101, 100], toD a, .int i] := rfl
    rw [hd]
    generalize toD a = da at *
    clear H
    generalize R n = call at *
    simp only [rowRest, body, denSs, denS, den, denB, denV, denP, denI, denO, denT, denTs, denF, denG, denGs, both_1, both_2, cmpB_1, cmpB_2, bind_ok, bind_exc, bind_stuck, go_ok, go_exc, go_stuck, nxt_nx, nxt_rt, nxt_bk, nxt_ct, nxt_exc, litD, List.length_cons, List.length_nil, List.map_cons, List.map_nil, List.getElem?_cons_zero, List.getElem?_cons_succ, List.cons_append, List.nil_append, List.replicate, List.set_cons_zero, List.set_cons_succ, wipeE, Nat.reduceAdd, Nat.reduceSub, Nat.reduceEqDiff, Nat.reduceLT, Nat.zero_add, if_true, if_false, Bool.false_eq_true, Bool.not_true, Bool.not_false, beq_self_eq_true, lv_pd, lv_fn, take_self, bq_ft, bq_tf, tests, toP, a_sub_i, e1, c_eq_i, q3, q4, q5, decide_true, e2, l3]
  · refine ⟨.frm a, X1, one_ok (a := a) (φ := .frm a) trivial (by intro f e; cases e) rfl ha, by simp only [height]; omega, by simp only [rows, List.length_cons]; omega, hX1, ?_⟩
    have q3 : decide ((7 : Int) = 3) = false := rfl
    have q4 : decide ((7 : Int) = 4) = false := rfl
    have q5 : decide ((7 : Int) = 5) = false := rfl
    have q6 : decide ((7 : Int) = 6) = false := rfl
    have hd : toD (.frm a) = .tuple [Rx.S [102, 114, 111, 109], toD a] := rfl
    rw [hd]
    generalize toD a = da at *
    clear H
    generalize R n = call at *
    simp only [rowRest, body, denSs, denS, den, denB, denV, denP, denI, denO, denT, denTs, denF, denG, denGs, both_1, both_2, cmpB_1, cmpB_2, bind_ok, bind_exc, bind_stuck, go_ok, go_exc, go_stuck, nxt_nx, nxt_rt, nxt_bk, nxt_ct, nxt_exc, litD, List.length_cons, List.length_nil, List.map_cons, List.map_nil, List.getElem?_cons_zero, List.getElem?_cons_succ, List.cons_append, List.nil_append, List.replicate, List.set_cons_zero, List.set_cons_succ, wipeE, Nat.reduceAdd, Nat.reduceSub, Nat.reduceEqDiff, Nat.reduceLT, Nat.zero_add, if_true, if_false, Bool.false_eq_true, Bool.not_true, Bool.not_false, beq_self_eq_true, lv_pd, lv_fn, take_self, bq_ft, bq_tf, tests, toP, a_sub_i, e1, c_eq_i, q3, q4, q5, q6, decide_true, l2]
  · obtain ⟨b, X2, hb, hhb, hrb, hX2, e2⟩ := H X1 hX1
    obtain ⟨j, hj⟩ : ∃ j : Nat, k - 8 = (j : Int) := ⟨(k - 8).toNat, by omega⟩
    have hj7 : j < 7 := by omega
    refine ⟨.pair j a b, X2, two_ok (a := a) (b := b) hj7 (by intro f e; cases e) rfl ha hb, by simp only [height]; omega, by simp only [rows, List.length_cons, List.length_append]; omega, hX2, ?_⟩
    have q3 : decide (k = 3) = false := decide_eq_false (by omega)
    have q4 : decide (k = 4) = false := decide_eq_false (by omega)
    have q5 : decide (k = 5) = false := decide_eq_false (by omega)
    have q6 : decide (k = 6) = false := decide_eq_false (by omega)
    have q7 : decide (k = 7) = false := decide_eq_false (by omega)
    have gw : ∀ s, idxV (.pd (.list [Rx.S [115, 117, 109], Rx.S [100, 105, 102, 102, 101, 114, 101, 110, 99, 101], Rx.S [108, 101, 115, 115, 101, 114], Rx.S [103, 114, 101, 97, 116, 101, 114], Rx.S [111, 116, 104, 101, 114, 119, 105, 115, 101], Rx.S [97, 102, 116, 101, 114], Rx.S [115, 112, 108, 105, 116]])) (.pd (.int (j : Int))) s = .ok (.pd (Rx.S (pw j))) s := fun s => by
      have hl : j < pairWs.length := hj7
      have := Rx.il (s := s) hl
      have e : pairWs[j] = pw j := by unfold pw; rw [List.getElem?_eq_getElem hl]; rfl
      rw [e] at this
      exact this
    have hd : toD (.pair j a b) = .tuple [Rx.S (pw j), toD a, toD b] := rfl
    rw [hd]
    generalize toD a = da at *
    generalize toD b = db at *
    generalize Rx.S (pw j) = wj at *
    clear H
    generalize R n = call at *
    simp only [rowRest, body, denSs, denS, den, denB, denV, denP, denI, denO, denT, denTs, denF, denG, denGs, both_1, both_2, cmpB_1, cmpB_2, bind_ok, bind_exc, bind_stuck, go_ok, go_exc, go_stuck, nxt_nx, nxt_rt, nxt_bk, nxt_ct, nxt_exc, litD, List.length_cons, List.length_nil, List.map_cons, List.map_nil, List.getElem?_cons_zero, List.getElem?_cons_succ, List.cons_append, List.nil_append, List.replicate, List.set_cons_zero, List.set_cons_succ, wipeE, Nat.reduceAdd, Nat.reduceSub, Nat.reduceEqDiff, Nat.reduceLT, Nat.zero_add, if_true, if_false, Bool.false_eq_true, Bool.not_true, Bool.not_false, beq_self_eq_true, lv_pd, lv_fn, take_self, bq_ft, bq_tf, tests, toP, a_sub_i, e1, c_eq_i, q3, q4, q5, q6, q7, hj, newL, l7, gw, e2, l3]
theorem wTextRow : ∀ (d : Nat) (n : Nat) (X : Cell) (T : List Cell), d + 5 ≤ n → stOk X → ∃ (φ : Fo) (X' : Cell), okA φ ∧ height φ ≤ d + 1 ∧ (rows φ).length + 1 ≤ 2 ^ (d + 1) ∧ stOk X' ∧ R n 45 [.ref 0, .pd (.int (d : Int))] (X :: T) = .ok (.pd (toD φ)) (X' :: T) := by
  intro d
  induction d with
  | zero =>
    intro n X T hn hX
    obtain ⟨n, rfl⟩ : ∃ m, n = m + 1 := ⟨n - 1, by omega⟩
    obtain ⟨k, X1, hk, hX1, e1⟩ := wD (by omega : 1 ≤ n) X T hX 15 (by omega)
    obtain ⟨φ, X2, p1, p2, p3, hX2, e2⟩ := rowLeaf_ok (by omega : 4 ≤ n) X1 T hX1 0 k (.inl rfl)
    refine ⟨φ, X2, p1, by omega, by omega, hX2, ?_⟩
    have lv := fun X => take_st X T
    show R (n + 1) 45 [.ref 0, .pd (.int 0)] (X :: T) = _
    rw [R_eq (d := d45) rfl]
    generalize toD φ = dφ at *
    generalize R n = call at *
    simp only [d45, textRow_eq, body, denSs, denS, den, denB, denV, denP, denI, denO, denT, denTs, denF, denG, denGs, both_1, both_2, cmpB_1, cmpB_2, bind_ok, bind_exc, bind_stuck, go_ok, go_exc, go_stuck, nxt_nx, nxt_rt, nxt_bk, nxt_ct, nxt_exc, litD, List.length_cons, List.length_nil, List.map_cons, List.map_nil, List.getElem?_cons_zero, List.getElem?_cons_succ, List.cons_append, List.nil_append, List.replicate, List.set_cons_zero, List.set_cons_succ, wipeE, Nat.reduceAdd, Nat.reduceSub, Nat.reduceEqDiff, Nat.reduceLT, Nat.zero_add, if_true, if_false, Bool.false_eq_true, Bool.not_true, Bool.not_false, beq_self_eq_true, lv_pd, lv_fn, take_self, bq_ft, bq_tf, tests, toP, e1, e2, leave, lv]
  | succ d ih =>
    intro n X T hn hX
    obtain ⟨n, rfl⟩ : ∃ m, n = m + 1 := ⟨n - 1, by omega⟩
    obtain ⟨k, X1, hk, hX1, e1⟩ := wD (by omega : 1 ≤ n) X T hX 15 (by omega)
    have lv := fun X => take_st X T
    have hp : (2 : Nat) ^ (d + 1 + 1) = 2 * 2 ^ (d + 1) := by rw [Nat.pow_succ, Nat.mul_comm]
    have hq : 1 ≤ (2 : Nat) ^ (d + 1) := Nat.one_le_two_pow
    by_cases h3 : k < 3
    · obtain ⟨φ, X2, p1, p2, p3, hX2, e2⟩ := rowLeaf_ok (by omega : 4 ≤ n) X1 T hX1 ((d + 1 : Nat) : Int) k (.inr h3)
      refine ⟨φ, X2, p1, by omega, by omega, hX2, ?_⟩
      rw [R_eq (d := d45) rfl]
      generalize ((d + 1 : Nat) : Int) = dd at *
      generalize toD φ = dφ at *
      generalize R n = call at *
      simp only [d45, textRow_eq, body, denSs, denS, den, denB, denV, denP, denI, denO, denT, denTs, denF, denG, denGs, both_1, both_2, cmpB_1, cmpB_2, bind_ok, bind_exc, bind_stuck, go_ok, go_exc, go_stuck, nxt_nx, nxt_rt, nxt_bk, nxt_ct, nxt_exc, litD, List.length_cons, List.length_nil, List.map_cons, List.map_nil, List.getElem?_cons_zero, List.getElem?_cons_succ, List.cons_append, List.nil_append, List.replicate, List.set_cons_zero, List.set_cons_succ, wipeE, Nat.reduceAdd, Nat.reduceSub, Nat.reduceEqDiff, Nat.reduceLT, Nat.zero_add, if_true, if_false, Bool.false_eq_true, Bool.not_true, Bool.not_false, beq_self_eq_true, lv_pd, lv_fn, take_self, bq_ft, bq_tf, tests, toP, e1, e2, leave, lv]
    · have hq2 : 2 ≤ (2 : Nat) ^ (d + 1) := by rw [Nat.pow_succ]; have := Nat.one_le_two_pow (n := d); omega
      obtain ⟨φ, X2, p1, p2, p3, hX2, e2⟩ := rowRest_ok (by omega : 4 ≤ n) X1 T hX1 ((d + 1 : Nat) : Int) k (by omega) (d + 1) (2 ^ (d + 1) - 1) (by omega) (fun Y hY => by
        obtain ⟨φ, Y', r1, r2, r3, r4, r5⟩ := ih n Y T (by omega) hY
        have hz : ((d + 1 : Nat) : Int) - 1 = (d : Int) := by omega
        rw [hz]
        exact ⟨φ, Y', r1, r2, by omega, r4, r5⟩)
      have hs : denS kons 0 (R n) rowLeaf [some (.ref 0), some (.pd (.int ((d + 1 : Nat) : Int))), some (.pd (.int k)), none, none, none] (X1 :: T) = .out (.nx [some (.ref 0), some (.pd (.int ((d + 1 : Nat) : Int))), some (.pd (.int k)), none, none, none]) (X1 :: T) := by
        have q0 : decide (((d + 1 : Nat) : Int) = 0) = false := decide_eq_false (by omega)
        have q1 : decide (k < 3) = false := decide_eq_false h3
        clear ih
        generalize ((d + 1 : Nat) : Int) = dd at *
        generalize R n = call at *
        simp only [rowLeaf, body, denSs, denS, den, denB, denV, denP, denI, denO, denT, denTs, denF, denG, denGs, both_1, both_2, cmpB_1, cmpB_2, bind_ok, bind_exc, bind_stuck, go_ok, go_exc, go_stuck, nxt_nx, nxt_rt, nxt_bk, nxt_ct, nxt_exc, litD, List.length_cons, List.length_nil, List.map_cons, List.map_nil, List.getElem?_cons_zero, List.getElem?_cons_succ, List.cons_append, List.nil_append, List.replicate, List.set_cons_zero, List.set_cons_succ, wipeE, Nat.reduceAdd, Nat.reduceSub, Nat.reduceEqDiff, Nat.reduceLT, Nat.zero_add, if_true, if_false, Bool.false_eq_true, Bool.not_true, Bool.not_false, beq_self_eq_true, lv_pd, lv_fn, take_self, bq_ft, bq_tf, tests, toP, c_eq_i, c_lt_i, q0, q1]
      refine ⟨φ, X2, p1, by omega, by omega, hX2, ?_⟩
      rw [R_eq (d := d45) rfl]
      clear ih
      generalize ((d + 1 : Nat) : Int) = dd at *
      generalize toD φ = dφ at *
      generalize R n = call at *
      simp only [d45, textRow_eq, body, denSs, denS, den, denB, denV, denP, denI, denO, denT, denTs, denF, denG, denGs, both_1, both_2, cmpB_1, cmpB_2, bind_ok, bind_exc, bind_stuck, go_ok, go_exc, go_stuck, nxt_nx, nxt_rt, nxt_bk, nxt_ct, nxt_exc, litD, List.length_cons, List.length_nil, List.map_cons, List.map_nil, List.getElem?_cons_zero, List.getElem?_cons_succ, List.cons_append, List.nil_append, List.replicate, List.set_cons_zero, List.set_cons_succ, wipeE, Nat.reduceAdd, Nat.reduceSub, Nat.reduceEqDiff, Nat.reduceLT, Nat.zero_add, if_true, if_false, Bool.false_eq_true, Bool.not_true, Bool.not_false, beq_self_eq_true, lv_pd, lv_fn, take_self, bq_ft, bq_tf, tests, toP, e1, hs, e2, leave, lv]
end K61


set_option linter.all false
set_option Elab.async false
set_option maxRecDepth 100000
set_option maxHeartbeats 2000000
namespace K61
open PySem Rx
/-! parts of the law -/
def longS : St := (.ite (.cmp .eq (.call 34 (.cons (.var 1) (.cons (.cst (.int (9))) .nil))) (.cst (.int (0)))) (.cons (.asg (.name 10) (.tup (.cons (.bin .mul (.blt .tuple (.cons (.lst false (.cons (.idx (.idx (.idx (.var 2) (.cst (.int (1)))) (.cst (.int (0)))) (.cst (.int (0)))) .nil)) .nil)) (.bin .add (.cst (.int (3998))) (.call 34 (.cons (.var 1) (.cons (.cst (.int (3))) .nil))))) (.cons (.bin .mul (.slc (.idx (.var 2) (.cst (.int (1)))) .none (.some (.cst (.int (1))))) (.bin .add (.cst (.int (998))) (.call 34 (.cons (.var 1) (.cons (.cst (.int (3))) .nil))))) .nil)))) (.cons (.ite (.notv (.call 48 (.cons (.var 10) .nil))) (.cons (.ret (.cst (.bl false))) .nil) .nil) .nil)) .nil)
theorem law_eq : b50 = (.cons (.asg (.name 1) (.call 33 (.cons (.var 0) .nil))) (.cons (.asg (.name 2) (.call 44 (.cons (.var 1) .nil))) (.cons (.asg (.name 3) (.call 46 (.cons (.cst (.str [102, 111, 114, 109])) (.cons (.call 40 (.cons (.var 2) .nil)) .nil)))) (.cons (.ite (.bop false (.cons (.notv (.call 48 (.cons (.var 2) .nil))) (.cons (.notv (.call 49 (.cons (.call 25 (.cons (.var 3) .nil)) .nil))) .nil))) (.cons (.ret (.cst (.bl false))) .nil) .nil) (.cons longS (.cons (.asg (.name 4) (.call 45 (.cons (.var 1) (.cons (.call 34 (.cons (.var 1) (.cons (.cst (.int (4))) .nil))) .nil)))) (.cons (.ite (.notv (.call 47 (.cons (.var 4) .nil))) (.cons (.ret (.cst (.bl false))) .nil) .nil) (.cons (.asg (.name 5) (.tup (.cons (.cst (.str [110, 97, 109, 101])) (.cons (.call 36 (.cons (.var 1) .nil)) .nil)))) (.cons (.asg (.name 6) (.call 45 (.cons (.var 1) (.cons (.cst (.int (0))) .nil)))) (.cons s50_1 (.cons (.ite (.notv (.call 47 (.cons (.var 6) .nil))) (.cons (.ret (.cst (.bl false))) .nil) .nil) (.cons (.asg (.name 8) (.tup (.cons (.cst (.str [115, 117, 109])) (.cons (.var 5) (.cons (.var 5) .nil))))) (.cons s50_2 (.cons (.ite (.notv (.call 47 (.cons (.tup (.cons (.cst (.str [115, 117, 109])) (.cons (.var 8) (.cons (.tup (.cons (.cst (.str [102, 114, 111, 109])) (.cons (.var 8) .nil))) .nil)))) .nil))) (.cons (.ret (.cst (.bl false))) .nil) .nil) (.cons (.asg (.name 9) (.call 44 (.cons (.var 1) .nil))) (.cons (.ret (.bop true (.cons (.call 48 (.cons (.var 9) .nil)) (.cons (.cmp .eq (.call 25 (.cons (.var 3) .nil)) (.var 2)) (.cons (.call 47 (.cons (.var 4) .nil)) .nil))))) .nil)))))))))))))))) := rfl
theorem wState {n : Nat} (hn : 1 ≤ n) (ns : List Int) : R n 33 [.lck (ns.map .int)] [] = .ok (.ref 0) [.lst [.list (ns.map .int), .int 0, .int 0, .int 0, .bool false]] := by
  obtain ⟨n, rfl⟩ : ∃ m, n = m + 1 := ⟨n - 1, by omega⟩
  have l5 := le_line 5 (by decide)
  have t1 : ∀ s, bltV .list [.lck (ns.map .int)] s = .ok (.pd (.list (ns.map .int))) s := fun s => Rx.f_lst_k (s := s) _
  rw [R_eq (d := d33) rfl]
  generalize ns.map PyData.int = xs at *
  generalize R n = call at *
  simp only [d33, b33_eq, body, denSs, denS, den, denB, denV, denP, denI, denO, denT, denTs, denF, denG, denGs, both_1, both_2, cmpB_1, cmpB_2, bind_ok, bind_exc, bind_stuck, go_ok, go_exc, go_stuck, nxt_nx, nxt_rt, nxt_bk, nxt_ct, nxt_exc, litD, List.length_cons, List.length_nil, List.map_cons, List.map_nil, List.getElem?_cons_zero, List.getElem?_cons_succ, List.cons_append, List.nil_append, List.replicate, List.set_cons_zero, List.set_cons_succ, wipeE, Nat.reduceAdd, Nat.reduceSub, Nat.reduceEqDiff, Nat.reduceLT, Nat.zero_add, if_true, if_false, Bool.false_eq_true, Bool.not_true, Bool.not_false, beq_self_eq_true, lv_pd, lv_fn, take_self, bq_ft, bq_tf, tests, toP, t1, newL, l5, leave]
  rfl
theorem st0 (ns : List Int) : stOk (.lst [.list (ns.map .int), .int 0, .int 0, .int 0, .bool false]) := ⟨ns, 0, 0, 0, false, rfl, by omega, by omega, by omega⟩
theorem wInts {n : Nat} (hn : 1 ≤ n) (f : Fm) (S : Sto) : R n 49 [.pd (fmD f)] S = .ok (.pd (.bool true)) S := by
  obtain ⟨n, rfl⟩ : ∃ m, n = m + 1 := ⟨n - 1, by omega⟩
  have i0 : idxV (.pd (fmD f)) (.pd (.int 0)) S = .ok (.pd (.tuple (f.head.map intD))) S := Rx.i_t (s := S) (by decide) rfl
  have i1 : idxV (.pd (fmD f)) (.pd (.int 1)) S = .ok (.pd (.tuple (f.tail.map pD))) S := Rx.i_t (s := S) (by decide) rfl
  have one : ∀ (o : OI) (v0 v1 v2 : Option Dv) (S : Sto), Rx.turn kons 0 (R n) (.name 1) t49_1 (intD o) [v0, v1, v2] S = .out (.nx [v0, some (.pd (intD o)), v2]) S := fun o v0 v1 v2 S => by
    generalize R n = call
    cases o with
    | none => simp only [Rx.turn, t49_1, body, denSs, denS, den, denB, denV, denP, denI, denO, denT, denTs, denF, denG, denGs, both_1, both_2, cmpB_1, cmpB_2, bind_ok, bind_exc, bind_stuck, go_ok, go_exc, go_stuck, nxt_nx, nxt_rt, nxt_bk, nxt_ct, nxt_exc, litD, List.length_cons, List.length_nil, List.map_cons, List.map_nil, List.getElem?_cons_zero, List.getElem?_cons_succ, List.cons_append, List.nil_append, List.replicate, List.set_cons_zero, List.set_cons_succ, wipeE, Nat.reduceAdd, Nat.reduceSub, Nat.reduceEqDiff, Nat.reduceLT, Nat.zero_add, if_true, if_false, Bool.false_eq_true, Bool.not_true, Bool.not_false, beq_self_eq_true, lv_pd, lv_fn, take_self, bq_ft, bq_tf, tests, toP, intD, c_isnot_none, Rx.isNone]
    | some i => simp only [Rx.turn, t49_1, body, denSs, denS, den, denB, denV, denP, denI, denO, denT, denTs, denF, denG, denGs, both_1, both_2, cmpB_1, cmpB_2, bind_ok, bind_exc, bind_stuck, go_ok, go_exc, go_stuck, nxt_nx, nxt_rt, nxt_bk, nxt_ct, nxt_exc, litD, List.length_cons, List.length_nil, List.map_cons, List.map_nil, List.getElem?_cons_zero, List.getElem?_cons_succ, List.cons_append, List.nil_append, List.replicate, List.set_cons_zero, List.set_cons_succ, wipeE, Nat.reduceAdd, Nat.reduceSub, Nat.reduceEqDiff, Nat.reduceLT, Nat.zero_add, if_true, if_false, Bool.false_eq_true, Bool.not_true, Bool.not_false, beq_self_eq_true, lv_pd, lv_fn, take_self, bq_ft, bq_tf, tests, toP, intD, c_isnot_none, Rx.isNone, isiV, isOf, view, tr_bool]
  have two : ∀ (p : OP) (v0 v1 v2 : Option Dv) (S : Sto), Rx.turn kons 0 (R n) (.tup (.cons (.name 1) (.cons (.name 2) .nil))) t49_2 (pD p) [v0, v1, v2] S = .out (.nx [v0, some (.pd (intD (p.map (·.1)))), some (.pd (.int ((p.map (·.2)).getD 0)))]) S := fun p v0 v1 v2 S => by
    rw [pD_eq]
    generalize R n = call
    generalize (p.map (·.2)).getD 0 = q
    generalize p.map (·.1) = o
    cases o with
    | none => simp only [Rx.turn, t49_2, body, denSs, denS, den, denB, denV, denP, denI, denO, denT, denTs, denF, denG, denGs, both_1, both_2, cmpB_1, cmpB_2, bind_ok, bind_exc, bind_stuck, go_ok, go_exc, go_stuck, nxt_nx, nxt_rt, nxt_bk, nxt_ct, nxt_exc, litD, List.length_cons, List.length_nil, List.map_cons, List.map_nil, List.getElem?_cons_zero, List.getElem?_cons_succ, List.cons_append, List.nil_append, List.replicate, List.set_cons_zero, List.set_cons_succ, wipeE, Nat.reduceAdd, Nat.reduceSub, Nat.reduceEqDiff, Nat.reduceLT, Nat.zero_add, if_true, if_false, Bool.false_eq_true, Bool.not_true, Bool.not_false, beq_self_eq_true, lv_pd, lv_fn, take_self, bq_ft, bq_tf, tests, toP, intD, c_isnot_none, Rx.isNone, isiV, isOf, view, tr_bool]
    | some i => simp only [Rx.turn, t49_2, body, denSs, denS, den, denB, denV, denP, denI, denO, denT, denTs, denF, denG, denGs, both_1, both_2, cmpB_1, cmpB_2, bind_ok, bind_exc, bind_stuck, go_ok, go_exc, go_stuck, nxt_nx, nxt_rt, nxt_bk, nxt_ct, nxt_exc, litD, List.length_cons, List.length_nil, List.map_cons, List.map_nil, List.getElem?_cons_zero, List.getElem?_cons_succ, List.cons_append, List.nil_append, List.replicate, List.set_cons_zero, List.set_cons_succ, wipeE, Nat.reduceAdd, Nat.reduceSub, Nat.reduceEqDiff, Nat.reduceLT, Nat.zero_add, if_true, if_false, Bool.false_eq_true, Bool.not_true, Bool.not_false, beq_self_eq_true, lv_pd, lv_fn, take_self, bq_ft, bq_tf, tests, toP, intD, c_isnot_none, Rx.isNone, isiV, isOf, view, tr_bool]
  obtain ⟨env', s', ef, ⟨o1, rfl⟩, rfl⟩ := Rx.forL_at (f := Rx.turn kons 0 (R n) (.name 1) t49_1) (all := f.head.map intD)
    (fun i env s => (∃ o1 : Option Dv, env = [some (.pd (fmD f)), o1, none]) ∧ s = S)
    (env := [some (.pd (fmD f)), none, none]) (s := S) ⟨⟨none, rfl⟩, rfl⟩
    (fun i hi env s ⟨⟨o1, he⟩, hs⟩ => by
      rw [List.getElem_map, he, hs]
      exact ⟨_, S, .inl (one _ _ _ _ _), ⟨_, rfl⟩, rfl⟩)
  have efo := Rx.fo_ok (C := kons) (call := R n) (t := .name 1) (b := t49_1) (it := .val (.idx (.var 0) (.cst (.int (0))))) (env := [some (.pd (fmD f)), none, none]) (s := s') (s' := s') (xs := f.head.map intD) (Rx.it_val (v := .pd (.tuple (f.head.map intD))) (s' := s') (by
    clear ef one two
    generalize R n = call at *
    generalize fmD f = ff at *
    simp only [body, denSs, denS, den, denB, denV, denP, denI, denO, denT, denTs, denF, denG, denGs, both_1, both_2, cmpB_1, cmpB_2, bind_ok, bind_exc, bind_stuck, go_ok, go_exc, go_stuck, nxt_nx, nxt_rt, nxt_bk, nxt_ct, nxt_exc, litD, List.length_cons, List.length_nil, List.map_cons, List.map_nil, List.getElem?_cons_zero, List.getElem?_cons_succ, List.cons_append, List.nil_append, List.replicate, List.set_cons_zero, List.set_cons_succ, wipeE, Nat.reduceAdd, Nat.reduceSub, Nat.reduceEqDiff, Nat.reduceLT, Nat.zero_add, if_true, if_false, Bool.false_eq_true, Bool.not_true, Bool.not_false, beq_self_eq_true, lv_pd, lv_fn, take_self, bq_ft, bq_tf, tests, toP, i0]) rfl) ef
  replace efo : denS kons 0 (R n) s49_1 [some (.pd (fmD f)), none, none] s' = _ := efo
  obtain ⟨env', s2, eg, ⟨o3, o4, rfl⟩, hs2⟩ := Rx.forL_at (f := Rx.turn kons 0 (R n) (.tup (.cons (.name 1) (.cons (.name 2) .nil))) t49_2) (all := f.tail.map pD)
    (fun i env s => (∃ o3 o4 : Option Dv, env = [some (.pd (fmD f)), o3, o4]) ∧ s = s')
    (env := [some (.pd (fmD f)), o1, none]) (s := s') ⟨⟨o1, none, rfl⟩, rfl⟩
    (fun i hi env s ⟨⟨o3, o4, he⟩, hs⟩ => by
      rw [List.getElem_map, he, hs]
      exact ⟨_, s', .inl (two _ _ _ _ _), ⟨_, _, rfl⟩, rfl⟩)
  subst hs2
  have ego := Rx.fo_ok (C := kons) (call := R n) (t := .tup (.cons (.name 1) (.cons (.name 2) .nil))) (b := t49_2) (it := .val (.idx (.var 0) (.cst (.int (1))))) (env := [some (.pd (fmD f)), o1, none]) (s := s2) (s' := s2) (xs := f.tail.map pD) (Rx.it_val (v := .pd (.tuple (f.tail.map pD))) (s' := s2) (by
    clear ef eg efo one two
    generalize R n = call at *
    generalize fmD f = ff at *
    simp only [body, denSs, denS, den, denB, denV, denP, denI, denO, denT, denTs, denF, denG, denGs, both_1, both_2, cmpB_1, cmpB_2, bind_ok, bind_exc, bind_stuck, go_ok, go_exc, go_stuck, nxt_nx, nxt_rt, nxt_bk, nxt_ct, nxt_exc, litD, List.length_cons, List.length_nil, List.map_cons, List.map_nil, List.getElem?_cons_zero, List.getElem?_cons_succ, List.cons_append, List.nil_append, List.replicate, List.set_cons_zero, List.set_cons_succ, wipeE, Nat.reduceAdd, Nat.reduceSub, Nat.reduceEqDiff, Nat.reduceLT, Nat.zero_add, if_true, if_false, Bool.false_eq_true, Bool.not_true, Bool.not_false, beq_self_eq_true, lv_pd, lv_fn, take_self, bq_ft, bq_tf, tests, toP, i1]) rfl) eg
  replace ego : denS kons 0 (R n) s49_2 [some (.pd (fmD f)), o1, none] s2 = _ := ego
  have t0 : isiV (.pd (.tuple (f.head.map intD))) ["tuple"] s2 = .ok (.pd (.bool true)) s2 := rfl
  have t1 : isiV (.pd (.tuple (f.tail.map pD))) ["tuple"] s2 = .ok (.pd (.bool true)) s2 := rfl
  rw [R_eq (d := d49) rfl]
  clear ef eg one two
  generalize R n = call at *
  generalize fmD f = ff at *
  generalize f.head.map intD = ds at *
  generalize f.tail.map pD = dz at *
  simp only [d49, b49_eq, body, denSs, denS, den, denB, denV, denP, denI, denO, denT, denTs, denF, denG, denGs, both_1, both_2, cmpB_1, cmpB_2, bind_ok, bind_exc, bind_stuck, go_ok, go_exc, go_stuck, nxt_nx, nxt_rt, nxt_bk, nxt_ct, nxt_exc, litD, List.length_cons, List.length_nil, List.map_cons, List.map_nil, List.getElem?_cons_zero, List.getElem?_cons_succ, List.cons_append, List.nil_append, List.replicate, List.set_cons_zero, List.set_cons_succ, wipeE, Nat.reduceAdd, Nat.reduceSub, Nat.reduceEqDiff, Nat.reduceLT, Nat.zero_add, if_true, if_false, Bool.false_eq_true, Bool.not_true, Bool.not_false, beq_self_eq_true, lv_pd, lv_fn, take_self, bq_ft, bq_tf, tests, toP, efo, ego, i0, i1, t0, t1, tr_bool]
theorem mul_rep (x : D) (k : Int) (h : 2 ≤ k ∧ k ≤ 100000) (s : Sto) : binV .mul (.pd (.tuple [x])) (.pd (.int k)) s = .ok (.pd (.tuple (List.replicate k.toNat x))) s := by
  have hc : ([x] : List D).isEmpty = false ∧ 2 ≤ k ∧ k.natAbs ≤ 1000000 ∧ ([x] : List D).length * k.toNat ≤ 1000000 := ⟨rfl, h.1, by omega, by simp only [List.length_cons, List.length_nil]; omega⟩
  have hr : rep [x] k = List.replicate k.toNat x := by
    unfold rep
    rw [List.flatten_replicate_singleton]
  rw [← hr]
  simp only [binV, view, binD, hc, and_self, if_true]
theorem long_ok {n : Nat} (hn : 6 ≤ n) (X : Cell) (T : List Cell) (hX : stOk X) (f : Fm) (hf : smallF f) (sc tx : Option Dv) : ∃ (o10 : Option Dv) (X' : Cell), stOk X' ∧ denS kons 0 (R n) longS [sc, some (.ref 0), some (.pd (fmD f)), tx, none, none, none, none, none, none, none] (X :: T) = .out (.nx [sc, some (.ref 0), some (.pd (fmD f)), tx, none, none, none, none, none, none, o10]) (X' :: T) := by
  have l1 := le_line 1 (by decide)
  have l2 := le_line 2 (by decide)
  obtain ⟨i1, X1, hi1, hX1, e1⟩ := wD (by omega : 1 ≤ n) X T hX 9 (by omega)
  by_cases h0 : i1 = 0
  · have q : decide (i1 = 0) = true := decide_eq_true h0
    obtain ⟨i2, X2, hi2, hX2, e2⟩ := wD (by omega : 1 ≤ n) X1 T hX1 3 (by omega)
    obtain ⟨i3, X3, hi3, hX3, e3⟩ := wD (by omega : 1 ≤ n) X2 T hX2 3 (by omega)
    obtain ⟨p, r, hp⟩ : ∃ p r, f.tail = p :: r := by
      have := hf.1.1.2.1
      cases h : f.tail with
      | nil => rw [h] at this; simp at this
      | cons p r => exact ⟨p, r, rfl⟩
    have hpm : smP p := hf.1.2.2 p (by rw [hp]; simp)
    have i1' : ∀ s, idxV (.pd (fmD f)) (.pd (.int 1)) s = .ok (.pd (.tuple (pD p :: r.map pD))) s := fun s => Rx.i_t (s := s) (by decide) (by rw [hp]; rfl)
    have j0 : ∀ s, idxV (.pd (.tuple (pD p :: r.map pD))) (.pd (.int 0)) s = .ok (.pd (pD p)) s := fun s => Rx.i_t (s := s) (by decide) rfl
    have k0 : ∀ s, idxV (.pd (pD p)) (.pd (.int 0)) s = .ok (.pd (intD (p.map (·.1)))) s := fun s => by rw [pD_eq]; exact Rx.i_t (s := s) (by decide) rfl
    have z0 : ∀ s, slcI (.pd (.tuple (pD p :: r.map pD))) none (some 1) s = .ok (.pd (.tuple [pD p])) s := fun s => rfl
    have m1 := fun s => mul_rep (intD (p.map (·.1))) (3998 + i2) (by omega) s
    have m2 := fun s => mul_rep (pD p) (998 + i3) (by omega) s
    have t1 := fun s => Rx.f_tup_l (s := s) [intD (p.map (·.1))]
    have hg : goodF ⟨List.replicate (3998 + i2).toNat (p.map (·.1)), List.replicate (998 + i3).toNat p⟩ := by
      refine ⟨⟨?_, ?_, ?_⟩, fun o ho => ?_, fun q hq => ?_⟩
      · show (List.replicate _ _).length ≤ 4000
        rw [List.length_replicate]; omega
      · show 1 ≤ (List.replicate _ _).length
        rw [List.length_replicate]; omega
      · show (List.replicate _ _).length ≤ 1000
        rw [List.length_replicate]; omega
      · rw [(List.mem_replicate.mp ho).2]
        cases p with
        | none => intro i hi; simp at hi
        | some q => intro i hi; obtain ⟨a, b⟩ := q; simp at hi; subst hi; exact (hpm a b rfl).1
      · rw [(List.mem_replicate.mp hq).2]
        exact hpm
    have e4 := wFormHolds (by omega : 6 ≤ n) _ (X3 :: T) hg
    have hd : fmD ⟨List.replicate (3998 + i2).toNat (p.map (·.1)), List.replicate (998 + i3).toNat p⟩ = .tuple [.tuple (List.replicate (3998 + i2).toNat (intD (p.map (·.1)))), .tuple (List.replicate (998 + i3).toNat (pD p))] := by
      simp only [fmD, List.map_replicate]
    rw [hd] at e4
    refine ⟨some (.pd (.tuple [.tuple (List.replicate (3998 + i2).toNat (intD (p.map (·.1)))), .tuple (List.replicate (998 + i3).toNat (pD p))])), X3, hX3, ?_⟩
    clear hd hg hp
    generalize List.replicate (3998 + i2).toNat (intD (p.map (·.1))) = d1 at *
    generalize List.replicate (998 + i3).toNat (pD p) = d2 at *
    generalize pD p = dp at *
    generalize intD (p.map (·.1)) = do1 at *
    generalize fmD f = ff at *
    generalize r.map pD = dr at *
    generalize R n = call at *
    simp only [longS, body, denSs, denS, den, denB, denV, denP, denI, denO, denT, denTs, denF, denG, denGs, both_1, both_2, cmpB_1, cmpB_2, bind_ok, bind_exc, bind_stuck, go_ok, go_exc, go_stuck, nxt_nx, nxt_rt, nxt_bk, nxt_ct, nxt_exc, litD, List.length_cons, List.length_nil, List.map_cons, List.map_nil, List.getElem?_cons_zero, List.getElem?_cons_succ, List.cons_append, List.nil_append, List.replicate, List.set_cons_zero, List.set_cons_succ, wipeE, Nat.reduceAdd, Nat.reduceSub, Nat.reduceEqDiff, Nat.reduceLT, Nat.zero_add, if_true, if_false, Bool.false_eq_true, Bool.not_true, Bool.not_false, beq_self_eq_true, lv_pd, lv_fn, take_self, bq_ft, bq_tf, tests, toP, e1, c_eq_i, q, i1', j0, k0, newL, l1, t1, e2, a_add_i, m1, z0, e3, m2, l2, e4, tr_bool]
  · have q : decide (i1 = 0) = false := decide_eq_false h0
    refine ⟨none, X1, hX1, ?_⟩
    generalize fmD f = ff at *
    generalize R n = call at *
    simp only [longS, body, denSs, denS, den, denB, denV, denP, denI, denO, denT, denTs, denF, denG, denGs, both_1, both_2, cmpB_1, cmpB_2, bind_ok, bind_exc, bind_stuck, go_ok, go_exc, go_stuck, nxt_nx, nxt_rt, nxt_bk, nxt_ct, nxt_exc, litD, List.length_cons, List.length_nil, List.map_cons, List.map_nil, List.getElem?_cons_zero, List.getElem?_cons_succ, List.cons_append, List.nil_append, List.replicate, List.set_cons_zero, List.set_cons_succ, wipeE, Nat.reduceAdd, Nat.reduceSub, Nat.reduceEqDiff, Nat.reduceLT, Nat.zero_add, if_true, if_false, Bool.false_eq_true, Bool.not_true, Bool.not_false, beq_self_eq_true, lv_pd, lv_fn, take_self, bq_ft, bq_tf, tests, toP, e1, c_eq_i, q]
end K61


set_option linter.all false
set_option Elab.async false
set_option maxRecDepth 100000
set_option maxHeartbeats 4000000
namespace K61
open PySem Rx
/-! the law -/
theorem leaf_ok {w : W} (hw : nameW w = true) : okA (.name w) := okA_of ⟨hw, fun g e => by cases e⟩ fun a ha => by simp [inner] at ha
theorem deepPick (ψ : Fo) (w : W) (i : Nat) (hi : i < 9) (hψ : okA ψ) (hw : nameW w = true) (j : Int) (hj : 0 ≤ j ∧ j < 4) : ∃ χ, okA χ ∧ height χ ≤ height ψ + 1 ∧ (rows χ).length ≤ (rows ψ).length + 2 ∧ ∀ s, idxV (.pd (.list [.tuple [Rx.S [102, 114, 111, 109], toD ψ], .tuple [Rx.S [116, 105, 109, 101, 115], toD ψ, .int (i : Int)], .tuple [Rx.S [115, 117, 109], toD ψ, toD (.name w)], .tuple [Rx.S [115, 112, 108, 105, 116], toD (.name w), toD ψ]])) (.pd (.int j)) s = .ok (.pd (toD χ)) s := by
  have hp : 1 ≤ height ψ := by cases ψ <;> simp [height]
  rcases (by omega : j = 0 ∨ j = 1 ∨ j = 2 ∨ j = 3) with rfl | rfl | rfl | rfl
  · exact ⟨.frm ψ, one_ok (φ := .frm ψ) trivial (by intro f e; cases e) rfl hψ, by simp [height], by simp [rows], fun s => Rx.i_l (s := s) (by decide) rfl⟩
  · exact ⟨.times ψ i, one_ok (φ := .times ψ i) (sm_pos (by omega)) (by intro f e; cases e) rfl hψ, by simp [height], by simp [rows], fun s => Rx.i_l (s := s) (by decide) rfl⟩
  · exact ⟨.pair 0 ψ (.name w), two_ok (φ := .pair 0 ψ (.name w)) (show 0 < 7 by decide) (by intro f e; cases e) rfl hψ (leaf_ok hw), by simp only [height]; omega, by simp [rows], fun s => Rx.i_l (s := s) (by decide) rfl⟩
  · exact ⟨.pair 6 (.name w) ψ, two_ok (φ := .pair 6 (.name w) ψ) (show 6 < 7 by decide) (by intro f e; cases e) rfl (leaf_ok hw) hψ, by simp only [height]; omega, by simp [rows], fun s => Rx.i_l (s := s) (by decide) rfl⟩
theorem deep_ok {n : Nat} (hn : 1 ≤ n) (X : Cell) (T : List Cell) (hX : stOk X) (ψ : Fo) (w : W) (hψ : okA ψ) (h1 : height ψ ≤ 1) (h2 : (rows ψ).length ≤ 1) (hw : nameW w = true) (v0 v2 v3 v4 v10 : Option Dv) :
    ∃ (χ : Fo) (X' : Cell) (o7 : Option Dv), okA χ ∧ height χ ≤ 10 ∧ (rows χ).length ≤ 19 ∧ stOk X' ∧ denS kons 0 (R n) s50_1 [v0, some (.ref 0), v2, v3, v4, some (.pd (toD (.name w))), some (.pd (toD ψ)), none, none, none, v10] (X :: T) = .out (.nx [v0, some (.ref 0), v2, v3, v4, some (.pd (toD (.name w))), some (.pd (toD χ)), o7, none, none, v10]) (X' :: T) := by
  have l2 := le_line 2 (by decide)
  have l3 := le_line 3 (by decide)
  have l4 := le_line 4 (by decide)
  obtain ⟨env', s', ef, χ, Y, o7, rfl, rfl, hY, hχ, q1, q2⟩ := Rx.forL_at (f := Rx.turn kons 0 (R n) (.name 7) t50_1) (all := rngD 0 9)
    (fun i env s => ∃ (χ : Fo) (Y : Cell) (o7 : Option Dv), env = [v0, some (.ref 0), v2, v3, v4, some (.pd (toD (.name w))), some (.pd (toD χ)), o7, none, none, v10] ∧ s = Y :: T ∧ stOk Y ∧ okA χ ∧ height χ ≤ 1 + i ∧ (rows χ).length ≤ 1 + 2 * i)
    (env := [v0, some (.ref 0), v2, v3, v4, some (.pd (toD (.name w))), some (.pd (toD ψ)), none, none, none, v10]) (s := X :: T) ⟨ψ, X, none, rfl, rfl, hX, hψ, by omega, by omega⟩
    (fun i hi env s ⟨χ, Y, o7, he, hs, hY, hχ, q1, q2⟩ => by
      rw [Rx.rng_len] at hi
      obtain ⟨j, Y', hj, hY', e⟩ := wD hn Y T hY 4 (by omega)
      obtain ⟨χ', r1, r2, r3, g⟩ := deepPick χ w i hi hχ hw j hj
      rw [Rx.rng_get, Int.zero_add]
      refine ⟨[v0, some (.ref 0), v2, v3, v4, some (.pd (toD (.name w))), some (.pd (toD χ')), some (.pd (.int (i : Int))), none, none, v10], Y' :: T, .inl ?_, χ', Y', _, rfl, rfl, hY', r1, by omega, by omega⟩
      rw [he, hs]
      generalize toD χ' = d1 at *
      generalize toD χ = d2 at *
      generalize toD (.name w) = d3 at *
      generalize R n = call at *
      simp only [Rx.turn, t50_1, body, denSs, denS, den, denB, denV, denP, denI, denO, denT, denTs, denF, denG, denGs, both_1, both_2, cmpB_1, cmpB_2, bind_ok, bind_exc, bind_stuck, go_ok, go_exc, go_stuck, nxt_nx, nxt_rt, nxt_bk, nxt_ct, nxt_exc, litD, List.length_cons, List.length_nil, List.map_cons, List.map_nil, List.getElem?_cons_zero, List.getElem?_cons_succ, List.cons_append, List.nil_append, List.replicate, List.set_cons_zero, List.set_cons_succ, wipeE, Nat.reduceAdd, Nat.reduceSub, Nat.reduceEqDiff, Nat.reduceLT, Nat.zero_add, if_true, if_false, Bool.false_eq_true, Bool.not_true, Bool.not_false, beq_self_eq_true, lv_pd, lv_fn, take_self, bq_ft, bq_tf, tests, toP, l2, l3, l4, newL, e, g])
  rw [Rx.rng_len] at q1 q2
  have efo := Rx.fo_ok (C := kons) (call := R n) (t := .name 7) (b := t50_1) (it := .rng (.cst (.int (9)))) (env := [v0, some (.ref 0), v2, v3, v4, some (.pd (toD (.name w))), some (.pd (toD ψ)), none, none, none, v10]) (s := X :: T) (s' := X :: T) (xs := rngD 0 9) (Rx.it_rngN (k := 9) (by simp only [body, denSs, denS, den, denB, denV, denP, denI, denO, denT, denTs, denF, denG, denGs, both_1, both_2, cmpB_1, cmpB_2, bind_ok, bind_exc, bind_stuck, go_ok, go_exc, go_stuck, nxt_nx, nxt_rt, nxt_bk, nxt_ct, nxt_exc, litD, List.length_cons, List.length_nil, List.map_cons, List.map_nil, List.getElem?_cons_zero, List.getElem?_cons_succ, List.cons_append, List.nil_append, List.replicate, List.set_cons_zero, List.set_cons_succ, wipeE, Nat.reduceAdd, Nat.reduceSub, Nat.reduceEqDiff, Nat.reduceLT, Nat.zero_add, if_true, if_false, Bool.false_eq_true, Bool.not_true, Bool.not_false, beq_self_eq_true, lv_pd, lv_fn, take_self, bq_ft, bq_tf, tests, toP]; rfl) (by omega)) ef
  exact ⟨χ, Y, o7, hχ, by omega, by omega, hY, efo⟩
theorem wide_ok {n : Nat} (S : Sto) (w : W) (hw : nameW w = true) (v0 v1 v2 v3 v4 v6 v7 v10 : Option Dv) :
    ∃ (χ : Fo) (o7 : Option Dv), okA χ ∧ height χ ≤ 6 ∧ (rows χ).length ≤ 19 ∧ denS kons 0 (R n) s50_2 [v0, v1, v2, v3, v4, some (.pd (toD (.name w))), v6, v7, some (.pd (toD (.pair 0 (.name w) (.name w)))), none, v10] S = .out (.nx [v0, v1, v2, v3, v4, some (.pd (toD (.name w))), v6, o7, some (.pd (toD χ)), none, v10]) S := by
  have l3 := le_line 3 (by decide)
  have hl := leaf_ok hw
  obtain ⟨env', s', ef, ⟨χ, o7, rfl, hχ, q1, q2⟩, rfl⟩ := Rx.forL_at (f := Rx.turn kons 0 (R n) (.name 7) t50_2) (all := rngD 0 4)
    (fun i env s => (∃ (χ : Fo) (o7 : Option Dv), env = [v0, v1, v2, v3, v4, some (.pd (toD (.name w))), v6, o7, some (.pd (toD χ)), none, v10] ∧ okA χ ∧ height χ ≤ 2 + i ∧ (rows χ).length ≤ 3 + 4 * i) ∧ s = S)
    (env := [v0, v1, v2, v3, v4, some (.pd (toD (.name w))), v6, v7, some (.pd (toD (.pair 0 (.name w) (.name w)))), none, v10]) (s := S) ⟨⟨.pair 0 (.name w) (.name w), v7, rfl, two_ok (φ := .pair 0 (.name w) (.name w)) (show 0 < 7 by decide) (by intro f e; cases e) rfl hl hl, by simp [height], by simp [rows]⟩, rfl⟩
    (fun i hi env s ⟨⟨χ, o7, he, hχ, q1, q2⟩, hs⟩ => by
      have h5 : okA (.pair 5 (.name w) (.name w)) := two_ok (φ := .pair 5 (.name w) (.name w)) (show 5 < 7 by decide) (by intro f e; cases e) rfl hl hl
      have hd : toD (.pair 2 χ (.pair 5 (.name w) (.name w))) = .tuple [Rx.S [108, 101, 115, 115, 101, 114], toD χ, .tuple [Rx.S [97, 102, 116, 101, 114], toD (.name w), toD (.name w)]] := rfl
      refine ⟨[v0, v1, v2, v3, v4, some (.pd (toD (.name w))), v6, some (.pd (rngD 0 4)[i]), some (.pd (toD (.pair 2 χ (.pair 5 (.name w) (.name w))))), none, v10], S, .inl ?_, ⟨_, _, rfl, two_ok (φ := .pair 2 χ (.pair 5 (.name w) (.name w))) (show 2 < 7 by decide) (by intro f e; cases e) rfl hχ h5, by simp only [height]; omega, by simp only [rows, List.length_cons, List.length_append, List.length_nil]; omega⟩, rfl⟩
      rw [he, hs, hd]
      generalize (rngD 0 4)[i] = x at *
      generalize toD χ = d2 at *
      generalize toD (.name w) = d3 at *
      generalize R n = call at *
      simp only [Rx.turn, t50_2, body, denSs, denS, den, denB, denV, denP, denI, denO, denT, denTs, denF, denG, denGs, both_1, both_2, cmpB_1, cmpB_2, bind_ok, bind_exc, bind_stuck, go_ok, go_exc, go_stuck, nxt_nx, nxt_rt, nxt_bk, nxt_ct, nxt_exc, litD, List.length_cons, List.length_nil, List.map_cons, List.map_nil, List.getElem?_cons_zero, List.getElem?_cons_succ, List.cons_append, List.nil_append, List.replicate, List.set_cons_zero, List.set_cons_succ, wipeE, Nat.reduceAdd, Nat.reduceSub, Nat.reduceEqDiff, Nat.reduceLT, Nat.zero_add, if_true, if_false, Bool.false_eq_true, Bool.not_true, Bool.not_false, beq_self_eq_true, lv_pd, lv_fn, take_self, bq_ft, bq_tf, tests, toP, l3])
  rw [Rx.rng_len] at q1 q2
  have efo := Rx.fo_ok (C := kons) (call := R n) (t := .name 7) (b := t50_2) (it := .rng (.cst (.int (4)))) (env := [v0, v1, v2, v3, v4, some (.pd (toD (.name w))), v6, v7, some (.pd (toD (.pair 0 (.name w) (.name w)))), none, v10]) (s := s') (s' := s') (xs := rngD 0 4) (Rx.it_rngN (k := 4) (by simp only [body, denSs, denS, den, denB, denV, denP, denI, denO, denT, denTs, denF, denG, denGs, both_1, both_2, cmpB_1, cmpB_2, bind_ok, bind_exc, bind_stuck, go_ok, go_exc, go_stuck, nxt_nx, nxt_rt, nxt_bk, nxt_ct, nxt_exc, litD, List.length_cons, List.length_nil, List.map_cons, List.map_nil, List.getElem?_cons_zero, List.getElem?_cons_succ, List.cons_append, List.nil_append, List.replicate, List.set_cons_zero, List.set_cons_succ, wipeE, Nat.reduceAdd, Nat.reduceSub, Nat.reduceEqDiff, Nat.reduceLT, Nat.zero_add, if_true, if_false, Bool.false_eq_true, Bool.not_true, Bool.not_false, beq_self_eq_true, lv_pd, lv_fn, take_self, bq_ft, bq_tf, tests, toP]; rfl) (by omega)) ef
  exact ⟨χ, o7, hχ, by omega, by omega, efo⟩
theorem holds_ok {n : Nat} (φ : Fo) (h : okA φ) (h1 : height φ ≤ 10) (h2 : (rows φ).length ≤ 40) (hn : 19 ≤ n) (S : Sto) : R n 47 [.pd (toD φ)] S = .ok (.pd (.bool true)) S :=
  wFormulaHolds φ S h.good ⟨h2, okA_lines h⟩ h1 (by omega)
theorem law_ok {n : Nat} (hn : 20 ≤ n) (ns : List Int) : R n 50 [.lck (ns.map .int)] [] = .ok (.pd (.bool true)) [] := by
  obtain ⟨n, rfl⟩ : ∃ m, n = m + 1 := ⟨n - 1, by omega⟩
  have ln := line_val
  have l2 := le_line 2 (by decide)
  have l3 := le_line 3 (by decide)
  have e0 := wState (by omega : 1 ≤ n) ns
  have hX0 := st0 ns
  generalize Cell.lst [.list (ns.map .int), .int 0, .int 0, .int 0, .bool false] = X0 at *
  obtain ⟨f, X1, hf, hX1, e1⟩ := wTextForm (by omega : 4 ≤ n) X0 [] hX0
  have e2 := fun s => wLawForm (by omega : 2 ≤ n) f s hf.1
  have e3 : ∀ s, R n 46 [.pd (Rx.S [102, 111, 114, 109]), .pd (.list [Rx.S (headW f), Rx.S (tailW f)])] s = .ok (.pd (Rx.S (formT f))) s := fun s => wLawText (by omega : 1 ≤ n) wForm [headW f, tailW f] s (k := 400000) (m := 4) (small_bnd hf.1) (Nat.le_refl 4) (by decide) (by decide)
  have e4 := fun s => wFormHolds (by omega : 6 ≤ n) f s hf.1
  have e5 := fun s => wParseForm (by omega : 5 ≤ n) (formT f) s (by have := formT_len hf.1; omega)
  rw [formT_cut, parseF_good hf.1] at e5
  simp only [exR] at e5
  have e6 := fun s => wInts (by omega : 1 ≤ n) f s
  obtain ⟨o10, X2, hX2, e7⟩ := long_ok (by omega : 6 ≤ n) X1 [] hX1 f hf (some (.lck (ns.map .int))) (some (.pd (Rx.S (formT f))))
  obtain ⟨i, X3, hi, hX3, e8⟩ := wD (by omega : 1 ≤ n) X2 [] hX2 4 (by omega)
  obtain ⟨φ, X4, p1, p2, p3, hX4, e9⟩ := wTextRow i.toNat n X3 [] (by omega) hX3
  have hit : ((i.toNat : Nat) : Int) = i := by omega
  rw [hit] at e9
  have hp16 : (2 : Nat) ^ (i.toNat + 1) ≤ 2 ^ 4 := Nat.pow_le_pow_right (by decide) (by omega)
  have e10 := fun s => holds_ok (n := n) φ p1 (by omega) (by omega) (by omega) s
  obtain ⟨w, X5, hw, hX5, e11⟩ := wLawName (by omega : 2 ≤ n) X4 [] hX4
  obtain ⟨ψ, X6, r1, r2, r3, hX6, e12⟩ := wTextRow 0 n X5 [] (by omega) hX5
  obtain ⟨χ, X7, o7, u1, u2, u3, hX7, e13⟩ := deep_ok (by omega : 1 ≤ n) X6 [] hX6 ψ w r1 (by omega) (by omega) hw (some (.lck (ns.map .int))) (some (.pd (fmD f))) (some (.pd (Rx.S (formT f)))) (some (.pd (toD φ))) o10
  have e14 := fun s => holds_ok (n := n) χ u1 (by omega) (by omega) (by omega) s
  obtain ⟨ω, o7', y1, y2, y3, e15⟩ := wide_ok (n := n) (X7 :: []) w hw (some (.lck (ns.map .int))) (some (.ref 0)) (some (.pd (fmD f))) (some (.pd (Rx.S (formT f)))) (some (.pd (toD φ))) (some (.pd (toD χ))) o7 o10
  have hww : okA (.pair 0 ω (.frm ω)) := two_ok (φ := .pair 0 ω (.frm ω)) (show 0 < 7 by decide) (by intro f e; cases e) rfl y1 (one_ok (φ := .frm ω) trivial (by intro f e; cases e) rfl y1)
  have e16 : ∀ s, R n 47 [.pd (.tuple [Rx.S [115, 117, 109], toD ω, .tuple [Rx.S [102, 114, 111, 109], toD ω]])] s = .ok (.pd (.bool true)) s := fun s => holds_ok (n := n) (.pair 0 ω (.frm ω)) hww (by simp only [height]; omega) (by simp only [rows, List.length_cons, List.length_append]; omega) (by omega) s
  obtain ⟨g, X8, hg, hX8, e17⟩ := wTextForm (by omega : 4 ≤ n) X7 [] hX7
  have e18 := fun s => wFormHolds (by omega : 6 ≤ n) g s hg.1
  have c1 := fun s => Rx.c_eq_yes (lay_fm f) (by decide) s
  have dl : toD (.name w) = .tuple [Rx.S [110, 97, 109, 101], Rx.S w] := rfl
  have dp : toD (.pair 0 (.name w) (.name w)) = .tuple [Rx.S [115, 117, 109], toD (.name w), toD (.name w)] := rfl
  rw [dp, dl] at e15
  rw [dl] at e13
  replace e12 : R n 45 [.ref 0, .pd (.int 0)] (X5 :: []) = .ok (.pd (toD ψ)) (X6 :: []) := e12
  rw [R_eq (d := d50) rfl]
  clear dl dp
  generalize toD φ = d1 at *
  generalize toD ψ = d2 at *
  generalize toD χ = d3 at *
  generalize toD ω = d4 at *
  generalize fmD f = d5 at *
  generalize fmD g = d6 at *
  generalize Rx.S (formT f) = tx at *
  generalize Rx.S (headW f) = t1 at *
  generalize Rx.S (tailW f) = t2 at *
  generalize Rx.S w = sw at *
  generalize ns.map PyData.int = xs at *
  generalize R n = call at *
  simp only [d50, law_eq, body, denSs, denS, den, denB, denV, denP, denI, denO, denT, denTs, denF, denG, denGs, both_1, both_2, cmpB_1, cmpB_2, bind_ok, bind_exc, bind_stuck, go_ok, go_exc, go_stuck, nxt_nx, nxt_rt, nxt_bk, nxt_ct, nxt_exc, litD, List.length_cons, List.length_nil, List.map_cons, List.map_nil, List.getElem?_cons_zero, List.getElem?_cons_succ, List.cons_append, List.nil_append, List.replicate, List.set_cons_zero, List.set_cons_succ, wipeE, Nat.reduceAdd, Nat.reduceSub, Nat.reduceEqDiff, Nat.reduceLT, Nat.zero_add, if_true, if_false, Bool.false_eq_true, Bool.not_true, Bool.not_false, beq_self_eq_true, lv_pd, lv_fn, take_self, bq_ft, bq_tf, tests, toP, e0, e1, e2, e3, e4, e5, e6, e7, e8, e9, e10, e11, e12, e13, e14, e15, e16, e17, e18, c1, l2, l3, tr_bool, leave]
  rfl
theorem law_true (ns : List Int) (h : ns.length ≤ 63) : Rx.run kons tab 0 60 50 [.lck (ns.map .int)] [] = .ok (.pd (.bool true)) [] := law_ok (n := 60) (by decide) ns
end K61


set_option linter.all false
set_option Elab.async false
set_option maxRecDepth 100000
namespace K61
open PySem Rx
end K61
open PySem PySem.W PyProof.Rows in
set_option maxRecDepth 100000 in
set_option maxHeartbeats 0 in
theorem PySem.Challenge.cw_postsooth_k61_whole_texts_of_forms_and_f_holds : PySem.Challenge.rw_postsooth_k61_whole_texts_of_forms_and_f.Holds := by
  w_on; o_law; k_head; (case hw => w_witness2)
  k_fill
  refine L2.walk_of (l := PySem.Challenge.rw_postsooth_k61_whole_texts_of_forms_and_f) (n := 63) (k := 62) (x := "script") (CX := fun w => L2.CX PySem.Challenge.rw_postsooth_k61_whole_texts_of_forms_and_f.prog w) (sp := fun w => fun vs H Q E => ∀ I, Rx.SpR I _ K61.kons (Rx.run K61.kons K61.tab 0 60) 50 vs H Q E) rfl (by decide) rfl ⟨rfl, by decide, by decide⟩ (fun w h Y => PySem.W.kIn_of Y) ?F (fun w H a ns hl _ hS I => Rx.law_sp hS (K61.law_true ns hl)) (fun w H s e s' h => ?_)
  case F =>
    intro w mg fa h KX G hmg
    refine' K61.mod_ok (P := PySem.Challenge.rw_postsooth_k61_whole_texts_of_forms_and_f.prog) (w := w) KX G hmg ?d0 ?d1 ?d2 ?d3 ?d4 ?d5 ?d6 ?d7 ?d8 ?d9 ?d10 ?d11 ?d12 ?d13 ?d14 ?d15 ?d16 ?d17 ?d18 ?d19 ?d20 ?d21 ?d22 ?d23 ?d24 ?d25 ?d26 ?d27 ?d28 ?d29 ?d30 ?d31 ?d32 ?d33 ?d34 ?d35 ?d36 ?d37 ?d38 ?d39 ?d40 ?d41 ?d42 ?d43 ?d44 ?d45 ?d46 ?d47 ?d48 ?d49 ?d50 ?z0 ?z1 ?z2 ?z3 ?z4 ?z5 ?z6 ?z7 ?z8 ?z9 ?z10 ?z11 ?z12 ?z13 ?z14 ?z15 ?q0 ?q1 ?q2 ?q3 ?q4 ?q5 ?q6 ?q7 ?e0 
    (case d0 => (refine' Rx.def_mk ?a0 ?l0 ?c0 ?k0; (case a0 => k_is); (case l0 => k_is); (case c0 => k_is); (case k0 => k_is)))
    (case d1 => (refine' Rx.def_mk ?a1 ?l1 ?c1 ?k1; (case a1 => k_is); (case l1 => k_is); (case c1 => k_is); (case k1 => k_is)))
    (case d2 => (refine' Rx.def_mk ?a2 ?l2 ?c2 ?k2; (case a2 => k_is); (case l2 => k_is); (case c2 => k_is); (case k2 => k_is)))
    (case d3 => (refine' Rx.def_mk ?a3 ?l3 ?c3 ?k3; (case a3 => k_is); (case l3 => k_is); (case c3 => k_is); (case k3 => k_is)))
    (case d4 => (refine' Rx.def_mk ?a4 ?l4 ?c4 ?k4; (case a4 => k_is); (case l4 => k_is); (case c4 => k_is); (case k4 => k_is)))
    (case d5 => (refine' Rx.def_mk ?a5 ?l5 ?c5 ?k5; (case a5 => k_is); (case l5 => k_is); (case c5 => k_is); (case k5 => k_is)))
    (case d6 => (refine' Rx.def_mk ?a6 ?l6 ?c6 ?k6; (case a6 => k_is); (case l6 => k_is); (case c6 => k_is); (case k6 => k_is)))
    (case d7 => (refine' Rx.def_mk ?a7 ?l7 ?c7 ?k7; (case a7 => k_is); (case l7 => k_is); (case c7 => k_is); (case k7 => k_is)))
    (case d8 => (refine' Rx.def_mk ?a8 ?l8 ?c8 ?k8; (case a8 => k_is); (case l8 => k_is); (case c8 => k_is); (case k8 => k_is)))
    (case d9 => (refine' Rx.def_mk ?a9 ?l9 ?c9 ?k9; (case a9 => k_is); (case l9 => k_is); (case c9 => k_is); (case k9 => k_is)))
    (case d10 => (refine' Rx.def_mk ?a10 ?l10 ?c10 ?k10; (case a10 => k_is); (case l10 => k_is); (case c10 => k_is); (case k10 => k_is)))
    (case d11 => (refine' Rx.def_mk ?a11 ?l11 ?c11 ?k11; (case a11 => k_is); (case l11 => k_is); (case c11 => k_is); (case k11 => k_is)))
    (case d12 => (refine' Rx.def_mk ?a12 ?l12 ?c12 ?k12; (case a12 => k_is); (case l12 => k_is); (case c12 => k_is); (case k12 => k_is)))
    (case d13 => (refine' Rx.def_mk ?a13 ?l13 ?c13 ?k13; (case a13 => k_is); (case l13 => k_is); (case c13 => k_is); (case k13 => k_is)))
    (case d14 => (refine' Rx.def_mk ?a14 ?l14 ?c14 ?k14; (case a14 => k_is); (case l14 => k_is); (case c14 => k_is); (case k14 => k_is)))
    (case d15 => (refine' Rx.def_mk ?a15 ?l15 ?c15 ?k15; (case a15 => k_is); (case l15 => k_is); (case c15 => k_is); (case k15 => k_is)))
    (case d16 => (refine' Rx.def_mk ?a16 ?l16 ?c16 ?k16; (case a16 => k_is); (case l16 => k_is); (case c16 => k_is); (case k16 => k_is)))
    (case d17 => (refine' Rx.def_mk ?a17 ?l17 ?c17 ?k17; (case a17 => k_is); (case l17 => k_is); (case c17 => k_is); (case k17 => k_is)))
    (case d18 => (refine' Rx.def_mk ?a18 ?l18 ?c18 ?k18; (case a18 => k_is); (case l18 => k_is); (case c18 => k_is); (case k18 => k_is)))
    (case d19 => (refine' Rx.def_mk ?a19 ?l19 ?c19 ?k19; (case a19 => k_is); (case l19 => k_is); (case c19 => k_is); (case k19 => k_is)))
    (case d20 => (refine' Rx.def_mk ?a20 ?l20 ?c20 ?k20; (case a20 => k_is); (case l20 => k_is); (case c20 => k_is); (case k20 => k_is)))
    (case d21 => (refine' Rx.def_mk ?a21 ?l21 ?c21 ?k21; (case a21 => k_is); (case l21 => k_is); (case c21 => k_is); (case k21 => k_is)))
    (case d22 => (refine' Rx.def_mk ?a22 ?l22 ?c22 ?k22; (case a22 => k_is); (case l22 => k_is); (case c22 => k_is); (case k22 => k_is)))
    (case d23 => (refine' Rx.def_mk ?a23 ?l23 ?c23 ?k23; (case a23 => k_is); (case l23 => k_is); (case c23 => k_is); (case k23 => k_is)))
    (case d24 => (refine' Rx.def_mk ?a24 ?l24 ?c24 ?k24; (case a24 => k_is); (case l24 => k_is); (case c24 => k_is); (case k24 => k_is)))
    (case d25 => (refine' Rx.def_mk ?a25 ?l25 ?c25 ?k25; (case a25 => k_is); (case l25 => k_is); (case c25 => k_is); (case k25 => k_is)))
    (case d26 => (refine' Rx.def_mk ?a26 ?l26 ?c26 ?k26; (case a26 => k_is); (case l26 => k_is); (case c26 => k_is); (case k26 => k_is)))
    (case d27 => (refine' Rx.def_mk ?a27 ?l27 ?c27 ?k27; (case a27 => k_is); (case l27 => k_is); (case c27 => k_is); (case k27 => k_is)))
    (case d28 => (refine' Rx.def_mk ?a28 ?l28 ?c28 ?k28; (case a28 => k_is); (case l28 => k_is); (case c28 => k_is); (case k28 => k_is)))
    (case d29 => (refine' Rx.def_mk ?a29 ?l29 ?c29 ?k29; (case a29 => k_is); (case l29 => k_is); (case c29 => k_is); (case k29 => k_is)))
    (case d30 => (refine' Rx.def_mk ?a30 ?l30 ?c30 ?k30; (case a30 => k_is); (case l30 => k_is); (case c30 => k_is); (case k30 => k_is)))
    (case d31 => (refine' Rx.def_mk ?a31 ?l31 ?c31 ?k31; (case a31 => k_is); (case l31 => k_is); (case c31 => k_is); (case k31 => k_is)))
    (case d32 => (refine' Rx.def_mk ?a32 ?l32 ?c32 ?k32; (case a32 => k_is); (case l32 => k_is); (case c32 => k_is); (case k32 => k_is)))
    (case d33 => (refine' Rx.def_mk ?a33 ?l33 ?c33 ?k33; (case a33 => k_is); (case l33 => k_is); (case c33 => k_is); (case k33 => k_is)))
    (case d34 => (refine' Rx.def_mk ?a34 ?l34 ?c34 ?k34; (case a34 => k_is); (case l34 => k_is); (case c34 => k_is); (case k34 => k_is)))
    (case d35 => (refine' Rx.def_mk ?a35 ?l35 ?c35 ?k35; (case a35 => k_is); (case l35 => k_is); (case c35 => k_is); (case k35 => k_is)))
    (case d36 => (refine' Rx.def_mk ?a36 ?l36 ?c36 ?k36; (case a36 => k_is); (case l36 => k_is); (case c36 => k_is); (case k36 => k_is)))
    (case d37 => (refine' Rx.def_mk ?a37 ?l37 ?c37 ?k37; (case a37 => k_is); (case l37 => k_is); (case c37 => k_is); (case k37 => k_is)))
    (case d38 => (refine' Rx.def_mk ?a38 ?l38 ?c38 ?k38; (case a38 => k_is); (case l38 => k_is); (case c38 => k_is); (case k38 => k_is)))
    (case d39 => (refine' Rx.def_mk ?a39 ?l39 ?c39 ?k39; (case a39 => k_is); (case l39 => k_is); (case c39 => k_is); (case k39 => k_is)))
    (case d40 => (refine' Rx.def_mk ?a40 ?l40 ?c40 ?k40; (case a40 => k_is); (case l40 => k_is); (case c40 => k_is); (case k40 => k_is)))
    (case d41 => (refine' Rx.def_mk ?a41 ?l41 ?c41 ?k41; (case a41 => k_is); (case l41 => k_is); (case c41 => k_is); (case k41 => k_is)))
    (case d42 => (refine' Rx.def_mk ?a42 ?l42 ?c42 ?k42; (case a42 => k_is); (case l42 => k_is); (case c42 => k_is); (case k42 => k_is)))
    (case d43 => (refine' Rx.def_mk ?a43 ?l43 ?c43 ?k43; (case a43 => k_is); (case l43 => k_is); (case c43 => k_is); (case k43 => k_is)))
    (case d44 => (refine' Rx.def_mk ?a44 ?l44 ?c44 ?k44; (case a44 => k_is); (case l44 => k_is); (case c44 => k_is); (case k44 => k_is)))
    (case d45 => (refine' Rx.def_mk ?a45 ?l45 ?c45 ?k45; (case a45 => k_is); (case l45 => k_is); (case c45 => k_is); (case k45 => k_is)))
    (case d46 => (refine' Rx.def_mk ?a46 ?l46 ?c46 ?k46; (case a46 => k_is); (case l46 => k_is); (case c46 => k_is); (case k46 => k_is)))
    (case d47 => (refine' Rx.def_mk ?a47 ?l47 ?c47 ?k47; (case a47 => k_is); (case l47 => k_is); (case c47 => k_is); (case k47 => k_is)))
    (case d48 => (refine' Rx.def_mk ?a48 ?l48 ?c48 ?k48; (case a48 => k_is); (case l48 => k_is); (case c48 => k_is); (case k48 => k_is)))
    (case d49 => (refine' Rx.def_mk ?a49 ?l49 ?c49 ?k49; (case a49 => k_is); (case l49 => k_is); (case c49 => k_is); (case k49 => k_is)))
    (case d50 => (refine' Rx.def_mk ?a50 ?l50 ?c50 ?k50; (case a50 => k_is); (case l50 => k_is); (case c50 => k_is); (case k50 => k_is)))
    (case z0 => k_is)
    (case z1 => k_is)
    (case z2 => k_is)
    (case z3 => k_is)
    (case z4 => k_is)
    (case z5 => k_is)
    (case z6 => k_is)
    (case z7 => k_is)
    (case z8 => k_is)
    (case z9 => k_is)
    (case z10 => k_is)
    (case z11 => k_is)
    (case z12 => k_is)
    (case z13 => k_is)
    (case z14 => k_is)
    (case z15 => k_is)
    (case q0 => (refine' Rx.int_mk ?qa0; (case qa0 => k_is)))
    (case q1 => (refine' Rx.int_mk ?qa1; (case qa1 => k_is)))
    (case q2 => (refine' K61.tup2_mk ?qa2 ?ql2_0; (case qa2 => k_is); (case ql2_0 => k_is)))
    (case q3 => (refine' K61.tup3_mk ?qa3 ?ql3_0; (case qa3 => k_is); (case ql3_0 => k_is)))
    (case q4 => (refine' Rx.int_mk ?qa4; (case qa4 => k_is)))
    (case q5 => (refine' K61.tup5_mk ?qa5 ?ql5_0 ?ql5_1 ?ql5_2 ?ql5_3 ?ql5_4; (case qa5 => k_is); (case ql5_0 => k_is); (case ql5_1 => k_is); (case ql5_2 => k_is); (case ql5_3 => k_is); (case ql5_4 => k_is)))
    (case q6 => (refine' Rx.int_mk ?qa6; (case qa6 => k_is)))
    (case q7 => (refine' Rx.int_mk ?qa7; (case qa7 => k_is)))
    (case e0 =>
      refine' Rx.err_mk ?E0a ?E0c1 ?E0c2 ?E0sa ?E0ga ?E0gg ?E0no ?E0kC ?E0exC ?E0tyC ?E0hdC ?E0te ?E0ha ?E0hn ?E0ht ?E0hm ?E0ia ?E0it ?E0il ?E0ic ?E0ik
      (case E0a => k_is)
      (case E0c1 => k_is)
      (case E0c2 => decide +kernel)
      (case E0sa => k_is)
      (case E0ga => k_is)
      (case E0gg => k_is)
      (case E0no => k_is)
      (case E0kC => k_is)
      (case E0exC => k_is)
      (case E0tyC => k_is)
      (case E0hdC => k_is)
      (case E0te => k_is)
      (case E0ha => k_is)
      (case E0hn => k_is)
      (case E0ht => k_is)
      (case E0hm => k_is)
      (case E0ia => k_is)
      (case E0it => k_is)
      (case E0il => k_is)
      (case E0ic => k_is)
      (case E0ik => k_is))
  · obtain ⟨_, _, _, _, _, _, _, _, _, _, _, _, z⟩ := h
    exact z

