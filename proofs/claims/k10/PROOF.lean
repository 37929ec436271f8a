import PyProof.Rows.All
import Wide.All
import OpenK.AllK
import Wide.FinOn
import HandS.ForMost
import HandS.ForExc
import HandS.Deep
import HandS.Small
import HandS.CallSlots
import HandS.IsInst
import HandS.TupAny
import HandS.TupLe
import HandS.Wide
import HandS.Defaults
import HandS.TryMany
import HandS.Zip
import HandS.Conv
import HandS.More
import KE.SortData
import HandS.Dict
import HandS.DictTup
import HandS.Iter
import KE.DataCmp
import HandS.TupLen
import PyProof.Draws
import PyProof.EnumMake
import HandS.Zip0
import HandS.DictComp
import PyProof.DictMoreH
import PyProof.DictUpdate
import HandS.TryOnly
import HandS.Head0
import HandS.Head1
import HandS.Head2
import HandS.HeadEnd
import HandS.HeadHook1
import HandS.HeadHook2
import HandS.HeadHook3
import HandS.HeadHook4
import HandS.Words
import PySem.Challenge.RW_homeshold_k10_reading_words
set_option autoImplicit false
set_option maxRecDepth 100000
namespace Ev
inductive D where
  | non | bl (b : Bool) | int (i : Int) | str (x : List Nat)
  | tup (xs : List D) | lst (xs : List D) | dct (t : Bool) (kvs : List (D × D)) | itr (xs : List D)
  | obj (k : Nat) | fn (f : Nat) | cl (c : Nat) | ty (n : String) | scr (xs : List D) | kd (kvs : List (List Nat × D))
  deriving Inhabited
structure Xc where
  cls : Nat
  args : List D
inductive MO where
  | val (d : D) | ins (c : Nat) (fs : List (Nat × D))
  deriving Inhabited
abbrev Sto := List MO
abbrev Env := List (Option D)
inductive R (α : Type) where
  | ok (a : α) | exc (e : Xc) (M : Sto) | bad
def R.bind {α β : Type} (r : R α) (f : α → R β) : R β := match r with
  | .ok a => f a
  | .exc e M => .exc e M
  | .bad => .bad
theorem R.bind_ok {α β : Type} (a : α) (f : α → R β) : (R.ok a).bind f = f a := rfl
theorem R.bind_exc {α β : Type} (e : Xc) (M : Sto) (f : α → R β) : (R.exc e M : R α).bind f = .exc e M := rfl
theorem R.bind_bad {α β : Type} (f : α → R β) : (R.bad : R α).bind f = .bad := rfl
theorem R.bind_assoc {α β γ : Type} (r : R α) (f : α → R β) (g : β → R γ) : (r.bind f).bind g = r.bind fun a => (f a).bind g := by
  cases r <;> rfl
def R.of {α : Type} : Option α → R α
  | some a => .ok a
  | none => .bad
theorem R.of_some {α : Type} (a : α) : R.of (some a) = .ok a := rfl
theorem R.of_none {α : Type} : R.of (none : Option α) = .bad := rfl
def R.sat {α : Type} (r : R α) (P : α → Prop) (X : Xc → Sto → Prop) : Prop := match r with
  | .ok a => P a
  | .exc e M => X e M
  | .bad => False
theorem R.sat_ok {α : Type} (a : α) (P : α → Prop) (X : Xc → Sto → Prop) : (R.ok a).sat P X = P a := rfl
theorem R.sat_exc {α : Type} (e : Xc) (M : Sto) (P : α → Prop) (X : Xc → Sto → Prop) : (R.exc e M).sat P X = X e M := rfl
theorem R.sat_bad {α : Type} (P : α → Prop) (X : Xc → Sto → Prop) : (R.bad : R α).sat P X = False := rfl
theorem R.sat_bind {α β : Type} (r : R α) (f : α → R β) (P : β → Prop) (X : Xc → Sto → Prop) : (r.bind f).sat P X = r.sat (fun a => (f a).sat P X) X := by
  cases r <;> rfl
theorem R.sat_mono {α : Type} {r : R α} {P P' : α → Prop} {X X' : Xc → Sto → Prop} (h : r.sat P X) (hp : ∀ a, P a → P' a) (hx : ∀ e M, X e M → X' e M) : r.sat P' X' := by
  cases r with
  | ok a => exact hp a h
  | exc e M => exact hx e M h
  | bad => exact h
def SZ : Nat := 16777216
mutual
def deq : D → D → Bool
  | .non, .non => true
  | .bl a, .bl b => a == b
  | .bl a, .int j => (if a then 1 else 0) == j
  | .int i, .bl b => i == (if b then 1 else 0)
  | .int i, .int j => i == j
  | .str x, .str y => x == y
  | .lst xs, .lst ys => deqs xs ys
  | .tup xs, .tup ys => deqs xs ys
  | _, _ => false
def deqs : List D → List D → Bool
  | [], [] => true
  | x :: xs, y :: ys => deq x y && deqs xs ys
  | _, _ => false
end
mutual
def plain : D → Bool
  | .non => true
  | .bl _ => true
  | .int _ => true
  | .str _ => true
  | .tup xs => plains xs
  | .lst xs => plains xs
  | _ => false
def plains : List D → Bool
  | [] => true
  | x :: xs => plain x && plains xs
end
mutual
def depth : D → Nat
  | .tup xs => depths xs + 1
  | .lst xs => depths xs + 1
  | _ => 0
def depths : List D → Nat
  | [] => 0
  | x :: xs => max (depth x) (depths xs)
end
mutual
def alike : D → D → Bool
  | .non, .non => true
  | .bl _, .bl _ => true
  | .int _, .int _ => true
  | .str _, .str _ => true
  | .lst xs, .lst ys => alikes xs ys
  | .tup xs, .tup ys => alikes xs ys
  | _, _ => false
def alikes : List D → List D → Bool
  | x :: xs, y :: ys => alike x y && alikes xs ys
  | [], _ => true
  | _ :: _, [] => true
end
def slt : List Nat → List Nat → Bool
  | [], [] => false
  | [], _ :: _ => true
  | _ :: _, [] => false
  | x :: xs, y :: ys => if x == y then slt xs ys else decide (x < y)
mutual
def dlt : D → D → Bool
  | .bl a, .bl b => !a && b
  | .int i, .int j => decide (i < j)
  | .str x, .str y => slt x y
  | .lst xs, .lst ys => dlts xs ys
  | .tup xs, .tup ys => dlts xs ys
  | _, _ => false
def dlts : List D → List D → Bool
  | [], [] => false
  | [], _ :: _ => true
  | _ :: _, [] => false
  | x :: xs, y :: ys => if deq x y then dlts xs ys else dlt x y
end
def eqOk (a b : D) : Bool := plain a && plain b && (decide (depth a ≤ 64) || decide (depth b ≤ 64))
def ltOk (a b : D) : Bool := plain a && plain b && alike a b && (decide (depth a ≤ 64) || decide (depth b ≤ 64)) && (match a with | .non => false | _ => true)
inductive BO | add | sub | mul | fdiv | mod | pow | shl | shr
  deriving DecidableEq
inductive CO | eq | ne | lt | le | gt | ge | isin | notin | is | isnt
  deriving DecidableEq
def mulOk (i j : Int) : Bool := (decide (i.natAbs < 2 ^ 64) || decide (j.natAbs < 2 ^ 64)) || decide (i.natAbs.log2 + j.natAbs.log2 < 1000000)
def divOk (j : Int) : Bool := decide (0 < j) && decide (j.natAbs.log2 < 9000)
def powOk (i j : Int) : Bool := decide (0 ≤ j) && decide (j ≤ 1000000) && decide (i.natAbs < 2 ^ 64)
def binD : BO → D → D → Option D
  | .add, .int i, .int j => some (.int (i + j))
  | .add, .str x, .str y => if x.length + y.length ≤ SZ then some (.str (x ++ y)) else none
  | .add, .tup x, .tup y => if x.length + y.length ≤ SZ then some (.tup (x ++ y)) else none
  | .add, .lst x, .lst y => if x.length + y.length ≤ SZ then some (.lst (x ++ y)) else none
  | .sub, .int i, .int j => some (.int (i - j))
  | .mul, .int i, .int j => if mulOk i j then some (.int (i * j)) else none
  | .mul, .lst x, .int j => if x.length * j.toNat ≤ SZ && decide (-(2 ^ 63) ≤ j) && decide (j < 2 ^ 63) then some (.lst (List.replicate j.toNat x).flatten) else none
  | .fdiv, .int i, .int j => if divOk j then some (.int (i / j)) else none
  | .mod, .int i, .int j => if decide (0 < j) then some (.int (i % j)) else none
  | .pow, .int i, .int j => if powOk i j then some (.int (i ^ j.toNat)) else none
  | .shr, .int i, .int j => if decide (0 ≤ j) then some (.int (i / 2 ^ j.toNat)) else none
  | _, _, _ => none
def augD : BO → D → D → Option D
  | .add, .int i, .int j => some (.int (i + j))
  | .sub, .int i, .int j => some (.int (i - j))
  | .add, .str x, .str y => if x.length + y.length ≤ SZ then some (.str (x ++ y)) else none
  | _, _, _ => none
def occurs (x : List Nat) : List Nat → Bool
  | [] => x.isEmpty
  | c :: r => x.isPrefixOf (c :: r) || occurs x r
def isD : D → D → Option Bool
  | .non, .non => some true
  | _, .non => some false
  | .bl a, .bl b => some (a == b)
  | _, .bl _ => none
  | _, _ => none
def isSc : D → Bool
  | .int _ => true
  | .str _ => true
  | _ => false
def wrL : List (List D) := [[], [.int 0, .int 0], [.str [105, 110, 115, 116, 97, 108, 108], .str [115, 116, 97, 110, 100], .str [116, 105, 99, 107], .str [114, 105, 115, 101], .str [99, 111, 108, 108, 101, 99, 116]],
  [.str [114, 101, 97, 100], .str [99, 111, 112, 121], .str [108, 101, 97, 115, 101]], [.str [114, 101, 97, 100], .str [108, 101, 97, 115, 101, 100]], [.str [119, 114, 105, 116, 116, 101, 110], .str [114, 101, 109, 111, 118, 101, 100], .str [99, 111, 112, 105, 101, 100]],
  [.str [114, 101, 97, 100], .str [108, 101, 97, 115, 101]], [.str [119, 114, 105, 116, 101], .str [114, 101, 109, 111, 118, 101], .str [99, 111, 112, 121]]]
def wrOk (ks : List D) : Bool := !(ks.all isSc) || wrL.any fun w => deqs ks w
def keyOk (t : Bool) (k : D) : Bool := if t then (match k with
  | .tup ks => !wrOk ks
  | _ => false) else isSc k
def keyFind (kvs : List (D × D)) (k : D) : Option D := match kvs with
  | [] => none
  | (x, v) :: r => if deq x k then some v else keyFind r k
def inD (a : D) : D → Option Bool
  | .str y => (match a with
    | .str [c] => some (decide (c ∈ y))
    | _ => none)
  | .lst ys => if eqOk a (.lst ys) then some (ys.any fun y => deq y a) else none
  | .tup ys => if eqOk a (.tup ys) then some (ys.any fun y => deq y a) else none
  | .dct t kvs => if keyOk t a then some (keyFind kvs a).isSome else none
  | .kd kvs => (match a with
    | .str x => some (kvs.lookup x).isSome
    | _ => none)
  | _ => none
def cmpD : CO → D → D → Option Bool
  | .eq, a, b => if eqOk a b then some (deq a b) else none
  | .ne, a, b => if eqOk a b then some (!deq a b) else none
  | .lt, a, b => if ltOk a b then some (dlt a b) else none
  | .gt, a, b => if ltOk a b && ltOk b a then some (dlt b a) else none
  | .le, a, b => if ltOk a b && ltOk b a then some (!dlt b a) else none
  | .ge, a, b => if ltOk a b && ltOk b a then some (!dlt a b) else none
  | .isin, a, b => inD a b
  | .notin, a, b => (inD a b).map (!·)
  | .is, a, b => isD a b
  | .isnt, a, b => (isD a b).map (!·)
def truth : D → Option Bool
  | .bl b => some b
  | _ => none
def ixN (n : Nat) (i : Int) : Option Nat := if 0 ≤ i then (if i < n then some i.toNat else none) else if -(n : Int) ≤ i then some (i + n).toNat else none
def atI {α : Type} (xs : List α) (i : Int) : Option α := (ixN xs.length i).bind fun j => xs[j]?
def subD : D → D → Option D
  | .str x, .int i => (atI x i).map fun c => .str [c]
  | .tup xs, .int i => atI xs i
  | .lst xs, .int i => atI xs i
  | .dct t kvs, k => if keyOk t k then keyFind kvs k else none
  | .kd kvs, .str x => kvs.lookup x
  | _, _ => none
def sIx (n d : Nat) : Option Int → Nat
  | none => d
  | some v => if v < 0 then (v + (n : Int)).toNat else min v.toNat n
def cut {α : Type} (xs : List α) (lo hi : Option Int) : List α := (xs.drop (sIx xs.length 0 lo)).take (sIx xs.length xs.length hi - sIx xs.length 0 lo)
def bnd : Bool → D → Option (Option Int)
  | true, .non => some none
  | false, .int i => some (some i)
  | _, _ => none
def slcD : D → Option Int → Option Int → Option D
  | .str x, lo, hi => some (.str (cut x lo hi))
  | .tup x, lo, hi => some (.tup (cut x lo hi))
  | .lst x, lo, hi => some (.lst (cut x lo hi))
  | .scr x, lo, hi => some (.lst (cut x lo hi))
  | _, _, _ => none
inductive Bi | len | isinst | tuple | list | all | any | sorted | sum | min | max | abs | int | str | range | enum | zip
  deriving DecidableEq
inductive Me | join | items | keys | values | get
  deriving DecidableEq
def tyName : D → Option String
  | .non => some "NoneType"
  | .bl _ => some "bool"
  | .int _ => some "int"
  | .str _ => some "str"
  | .tup _ => some "tuple"
  | .lst _ => some "list"
  | .scr _ => some "list"
  | .dct _ _ => some "dict"
  | _ => none
def isTy (t n : String) : Bool := t == n || (t == "bool" && n == "int")
def tyKnown (n : String) : Bool := ["int", "bool", "str", "tuple", "list", "dict"].contains n
def boolsD : List D → Option (List Bool)
  | [] => some []
  | .bl b :: r => (boolsD r).map (b :: ·)
  | _ :: _ => none
def intsD : List D → Option (List Int)
  | [] => some []
  | .int b :: r => (intsD r).map (b :: ·)
  | _ :: _ => none
def strsD : List D → Option (List (List Nat))
  | [] => some []
  | .str b :: r => (strsD r).map (b :: ·)
  | _ :: _ => none
def dle (a b : D) : Bool := !dlt b a
def sortOk (ds : List D) : Bool := (ds.all fun a => plain a && decide (depth a ≤ 64) && ds.all fun b => alike a b) &&
  ((ds.all fun a => match a with | .tup (_ :: _) => true | _ => false) || ds.all fun a => match a with | .tup _ => false | .non => false | _ => true)
def gluei (sep : List Nat) : List (List Nat) → List Nat
  | [] => []
  | [x] => x
  | x :: y :: r => x ++ (sep ++ gluei sep (y :: r))
def intsFrom (a : Int) (c : Int) : Nat → List D
  | 0 => []
  | n + 1 => .int a :: intsFrom (a + c) c n
def enumFrom (k : Int) : List D → List D
  | [] => []
  | x :: r => .tup [.int k, x] :: enumFrom (k + 1) r
def itemsOf : D → Option (List D)
  | .tup xs => some xs
  | .lst xs => some xs
  | .itr xs => some xs
  | .scr xs => some xs
  | .str x => some (x.map fun c => .str [c])
  | .dct _ kvs => some (kvs.map (·.1))
  | _ => none
def isDct : D → Bool
  | .dct _ _ => true
  | _ => false
def seqOf : D → Option (List D)
  | .tup xs => some xs
  | .lst xs => some xs
  | _ => none
def listOf : D → Option (List D)
  | .tup xs => some xs
  | .lst xs => some xs
  | .scr xs => some xs
  | _ => none
def keysOf : D → Option (List D)
  | .dct _ kvs => some (kvs.map (·.1))
  | .lst xs => some xs
  | _ => none
def zip2 : List D → List D → List D
  | x :: xs, y :: ys => .tup [x, y] :: zip2 xs ys
  | _, _ => []
def zip3 : List D → List D → List D → List D
  | x :: xs, y :: ys, z :: zs => .tup [x, y, z] :: zip3 xs ys zs
  | _, _, _ => []
def maxI (a : Int) : List Int → Int
  | [] => a
  | b :: r => maxI (if b > a then b else a) r
def minI (a : Int) : List Int → Int
  | [] => a
  | b :: r => minI (if b < a then b else a) r
def isWlk : Bi → Bool
  | .enum => true
  | .zip => true
  | _ => false
def okRange (i : Int) : Bool := decide (-(2 ^ 62) ≤ i) && decide (i < 2 ^ 62)
def okStep (c : Int) : Bool := (decide (0 < c) && decide (c < 2 ^ 30)) || decide (c = -1)
def stepN (i j c : Int) : Nat := if 0 < c then (if i < j then ((j - i - 1) / c + 1).toNat else 0) else (i - j).toNat
def biD : Bi → List D → Option D
  | .len, [.str x] => some (.int x.length)
  | .len, [.tup x] => some (.int x.length)
  | .len, [.lst x] => some (.int x.length)
  | .len, [.scr x] => some (.int x.length)
  | .len, [.dct _ x] => some (.int x.length)
  | .isinst, [a, .ty n] => if tyKnown n then (tyName a).map fun t => .bl (isTy t n) else none
  | .tuple, [a] => (listOf a).map .tup
  | .list, [.dct _ kvs] => some (.lst (kvs.map (·.1)))
  | .list, [a] => (listOf a).map .lst
  | .all, [.lst xs] => (boolsD xs).map fun bs => .bl (bs.all id)
  | .any, [.lst xs] => (boolsD xs).map fun bs => .bl (bs.any id)
  | .sorted, [a] => (keysOf a).bind fun xs => if sortOk xs then some (.lst (xs.mergeSort dle)) else none
  | .sum, [.lst xs] => (intsD xs).map fun is => .int is.sum
  | .max, [.lst xs] => (intsD xs).bind fun is => match is with
    | [] => none
    | a :: r => some (.int (maxI a r))
  | .min, [.lst xs] => (intsD xs).bind fun is => match is with
    | [] => none
    | a :: r => some (.int (minI a r))
  | .max, [.int i, .int j] => some (.int (if j > i then j else i))
  | .min, [.int i, .int j] => some (.int (if j < i then j else i))
  | .abs, [.int i] => some (.int (if i < 0 then -i else i))
  | .int, [.int i] => some (.int i)
  | .int, [.bl b] => some (.int (if b then 1 else 0))
  | .range, [.int j] => if okRange j then some (.itr (intsFrom 0 1 j.toNat)) else none
  | .range, [.int i, .int j] => if okRange i && okRange j then some (.itr (intsFrom i 1 (j - i).toNat)) else none
  | .range, [.int i, .int j, .int c] => if okRange i && okRange j && okStep c then some (.itr (intsFrom i c (stepN i j c))) else none
  | .enum, [.lst xs] => some (.itr (enumFrom 0 xs))
  | .enum, [.tup xs] => some (.itr (enumFrom 0 xs))
  | .zip, [.lst xs, .lst ys] => some (.itr (zip2 xs ys))
  | .zip, [.tup xs, .tup ys] => some (.itr (zip2 xs ys))
  | _, _ => none
def meD : Me → D → List D → Option D
  | .join, .str s, [.lst xs] => (strsD xs).bind fun ys => if (ys.map List.length).sum + ys.length * s.length ≤ SZ then some (.str (gluei s ys)) else none
  | .join, .str s, [.tup xs] => (strsD xs).bind fun ys => if (ys.map List.length).sum + ys.length * s.length ≤ SZ then some (.str (gluei s ys)) else none
  | .get, .dct t kvs, [k] => if keyOk t k then some ((keyFind kvs k).getD .non) else none
  | .get, .dct t kvs, [k, x] => if keyOk t k then some ((keyFind kvs k).getD x) else none
  | _, _, _ => none
inductive Mu | append | extend | pop | popAt | popK | put | upd
  deriving DecidableEq
def keyPut (kvs : List (D × D)) (k v : D) : List (D × D) := if kvs.any fun p => deq p.1 k then kvs.map fun p => if deq p.1 k then (p.1, v) else p else kvs ++ [(k, v)]
def keyDrop (kvs : List (D × D)) (k : D) : List (D × D) := kvs.filter fun p => !deq p.1 k
def muD : Mu → D → List D → Option (D × D)
  | .append, .lst xs, [a] => if xs.length < SZ then some (.non, .lst (xs ++ [a])) else none
  | .extend, .lst xs, [.lst ys] => if xs.length + ys.length ≤ SZ then some (.non, .lst (xs ++ ys)) else none
  | .pop, .lst xs, [] => (xs.getLast?).map fun y => (y, .lst xs.dropLast)
  | .popAt, .lst xs, [.int i] => (ixN xs.length i).bind fun k => (xs[k]?).map fun y => (y, .lst (xs.eraseIdx k))
  | .put, .lst xs, [.int i, v] => (ixN xs.length i).map fun k => (.non, .lst (xs.set k v))
  | .put, .dct t kvs, [k, v] => if keyOk t k && decide (kvs.length < SZ) then some (.non, .dct t (keyPut kvs k v)) else none
  | .popK, .dct t kvs, [k] => if keyOk t k then (keyFind kvs k).map fun v => (v, .dct t (keyDrop kvs k)) else none
  | .upd, .dct t kvs, [.dct s more] => if !t && !s && decide (kvs.length + more.length ≤ SZ) then some (.non, .dct t (more.foldl (fun a p => keyPut a p.1 p.2) kvs)) else none
  | _, _, _ => none
inductive Tg where
  | one (i : Nat) | tup (is : List Nat)
inductive E where
  | var (i : Nat) | bor (i : Nat) | con (d : D) | neg (a : E)
  | bin (o : BO) (a b : E) | cmp (o : CO) (a b : E) | chain (o o' : CO) (a b c : E)
  | and (a b : E) | or (a b : E) | not (a : E) | ite (c a b : E)
  | join (a b : E)
  | call (f : Nat) (as : List E) | callv (n : Nat) (f : E) (as : List E) | bi (b : Bi) (as : List E) | me (m : Me) (a : E) (as : List E)
  | mu (m : Mu) (a : E) (as : List E)
  | tup (as : List E) | lst (as : List E) | dct (t : Bool) (as : List E)
  | sub (a i : E) | slc (a lo hi : E)
  | comp (e : E) (t : Tg) (it : E) (cs : List E) | dcomp (b : Bool) (k v : E) (t : Tg) (it : E)
  | alloc (a : E) | dead
def isBor : E → Bool
  | .bor _ => true
  | _ => false
def itemsW (it : E) (d : D) : Option (List D) := match d with
  | .dct _ kvs => if isBor it then none else some (kvs.map (·.1))
  | d => itemsOf d
def isNon : E → Bool
  | .con .non => true
  | _ => false
inductive S where
  | set (i : Nat) (e : E) | own (i : Nat) (e : E) | unp (is : List Nat) (e : E) | par (is : List Nat) (es : List E)
  | aug (i : Nat) (o : BO) (e : E) | ex (e : E) | omu (m : Mu) (i : Nat) (as : List E) | osm (j : Nat) (m : Mu) (i : Nat) (as : List E)
  | ret (e : E) | retf (e : E) | reto (i : Nat) | retn | ite (c : E) (a b : List S) | whl (c : E) (b : List S) | for (t : Tg) (it : E) (b : List S)
  | sto (o ix v : E) | oput (i : Nat) (ix v : E) | dead
  | brk | cnt | pass | raise (c : Nat) (as : List E) | try (b : List S) (c : Nat) (h : List S) (c2 : Option Nat) (h2 : List S)
inductive Fl where
  | nx | bk | ct | rt (d : D)
inductive RS where
  | ok (f : Fl) (ρ : Env) (M : Sto) | exc (e : Xc) (ρ : Env) (M : Sto) | bad
def R.toS {α : Type} (r : R α) (ρ : Env) (f : α → RS) : RS := match r with
  | .ok a => f a
  | .exc e M => .exc e ρ M
  | .bad => .bad
theorem R.toS_ok {α : Type} (a : α) (ρ : Env) (f : α → RS) : (R.ok a).toS ρ f = f a := rfl
theorem R.toS_exc {α : Type} (e : Xc) (M : Sto) (ρ : Env) (f : α → RS) : (R.exc e M : R α).toS ρ f = .exc e ρ M := rfl
theorem R.toS_bad {α : Type} (ρ : Env) (f : α → RS) : (R.bad : R α).toS ρ f = .bad := rfl
def RS.then (r : RS) (f : Env → Sto → RS) : RS := match r with
  | .ok .nx ρ M => f ρ M
  | r => r
theorem RS.then_nx (ρ : Env) (M : Sto) (f : Env → Sto → RS) : (RS.ok .nx ρ M).then f = f ρ M := rfl
theorem RS.then_rt (d : D) (ρ : Env) (M : Sto) (f : Env → Sto → RS) : (RS.ok (.rt d) ρ M).then f = .ok (.rt d) ρ M := rfl
theorem RS.then_bk (ρ : Env) (M : Sto) (f : Env → Sto → RS) : (RS.ok .bk ρ M).then f = .ok .bk ρ M := rfl
theorem RS.then_ct (ρ : Env) (M : Sto) (f : Env → Sto → RS) : (RS.ok .ct ρ M).then f = .ok .ct ρ M := rfl
theorem RS.then_exc (e : Xc) (ρ : Env) (M : Sto) (f : Env → Sto → RS) : (RS.exc e ρ M).then f = .exc e ρ M := rfl
theorem RS.then_bad (f : Env → Sto → RS) : RS.bad.then f = .bad := rfl
def nrm (M : Sto) : D → D
  | .obj k => (match M[k]? with
    | some (.val d) => d
    | _ => .obj k)
  | d => d
def get (ρ : Env) (i : Nat) : Option D := (ρ[i]?).bind id
def put (ρ : Env) (i : Nat) (d : D) : Env := ρ.set i (some d)
def puts : Env → List Nat → List D → Option Env
  | ρ, [], [] => some ρ
  | ρ, i :: is, d :: ds => puts (put ρ i d) is ds
  | _, _, _ => none
def putT (ρ : Env) : Tg → D → Option Env
  | .one i, d => some (put ρ i d)
  | .tup is, d => match d with
    | .tup ds => puts ρ is ds
    | _ => none
abbrev Call := Nat → List D → Sto → R (D × Sto)
def isBox : D → Bool
  | .lst _ => true
  | .dct _ _ => true
  | _ => false
def isLst : D → Bool
  | .lst _ => true
  | _ => false
def muFit : Mu → D → Bool
  | .append, d => isLst d
  | .extend, d => isLst d
  | .pop, d => isLst d
  | .popAt, d => isLst d
  | .popK, d => isDct d
  | .upd, d => isDct d
  | _, d => isBox d
def muFitM (m : Mu) (M : Sto) : D → Bool
  | .obj k => (match M[k]? with
    | some (.val c) => muFit m c
    | _ => false)
  | _ => false
def muArg : Mu → Sto → List D → List D
  | .extend, M, ds => ds.map (nrm M)
  | _, _, ds => ds
def muM (m : Mu) (a : D) (as : List D) (M : Sto) : Option (D × Sto) := match a with
  | .obj k => (match M[k]? with
    | some (.val c) => (muD m c (muArg m M as)).map fun r => (r.1, M.set k (.val r.2))
    | _ => none)
  | _ => none
def compL (cond : Env → Sto → R (Bool × Sto)) (el : Env → Sto → R (D × Sto)) (t : Tg) : List D → Env → Sto → R (List D × Sto)
  | [], _, M => .ok ([], M)
  | d :: ds, ρ, M => match putT ρ t d with
    | none => .bad
    | some ρ' => match cond ρ' M with
      | .ok (true, M1) => (match el ρ' M1 with
        | .ok (y, M2) => (match compL cond el t ds ρ M2 with
          | .ok (ys, M3) => .ok (y :: ys, M3)
          | _ => .bad)
        | _ => .bad)
      | .ok (false, M1) => compL cond el t ds ρ M1
      | _ => .bad
def dcompL (b : Bool) (kk : Env → Sto → R (D × Sto)) (vv : Env → Sto → R (D × Sto)) (t : Tg) : List D → Env → Sto → List (D × D) → R (List (D × D) × Sto)
  | [], _, M, acc => .ok (acc, M)
  | d :: ds, ρ, M, acc => match putT ρ t d with
    | none => .bad
    | some ρ' => match kk ρ' M with
      | .ok (k, M1) => (match vv ρ' M1 with
        | .ok (v, M2) => if keyOk b k then dcompL b kk vv t ds ρ M2 (keyPut acc k v) else .bad
        | _ => .bad)
      | _ => .bad
def dctOf (t : Bool) : List D → List (D × D) → Option (List (D × D))
  | [], acc => if acc.length ≤ SZ then some acc else none
  | k :: v :: r, acc => if keyOk t k then dctOf t r (keyPut acc k v) else none
  | _, _ => none
section
variable (c : Call)
mutual
def evE : E → Env → Sto → R (D × Sto)
  | .var i, ρ, M => R.of ((get ρ i).map fun d => (d, M))
  | .bor i, ρ, M => R.of ((get ρ i).map fun d => (d, M))
  | .con d, _, M => .ok (d, M)
  | .neg a, ρ, M => (evE a ρ M).bind fun r => match r.1 with
    | .int i => .ok (.int (-i), r.2)
    | _ => .bad
  | .bin o a b, ρ, M => (evE a ρ M).bind fun r => (evE b ρ r.2).bind fun q => R.of ((binD o (nrm q.2 r.1) (nrm q.2 q.1)).map fun d => (d, q.2))
  | .cmp o a b, ρ, M => (evE a ρ M).bind fun r => (evE b ρ r.2).bind fun q => R.of ((cmpD o (nrm q.2 r.1) (nrm q.2 q.1)).map fun d => (.bl d, q.2))
  | .chain o o' a b e, ρ, M => (evE a ρ M).bind fun r => (evE b ρ r.2).bind fun q => match cmpD o (nrm q.2 r.1) (nrm q.2 q.1) with
    | some true => (evE e ρ q.2).bind fun p => R.of ((cmpD o' (nrm p.2 q.1) (nrm p.2 p.1)).map fun d => (.bl d, p.2))
    | some false => .ok (.bl false, q.2)
    | none => .bad
  | .and a b, ρ, M => (evE a ρ M).bind fun r => match r.1 with
    | .bl true => evE b ρ r.2
    | .bl false => .ok (.bl false, r.2)
    | _ => .bad
  | .or a b, ρ, M => (evE a ρ M).bind fun r => match r.1 with
    | .bl true => .ok (.bl true, r.2)
    | .bl false => evE b ρ r.2
    | _ => .bad
  | .not a, ρ, M => (evE a ρ M).bind fun r => match r.1 with
    | .bl x => .ok (.bl (!x), r.2)
    | _ => .bad
  | .ite x a b, ρ, M => (evE x ρ M).bind fun r => match r.1 with
    | .bl true => evE a ρ r.2
    | .bl false => evE b ρ r.2
    | _ => .bad
  | .join a b, ρ, M => (evE a ρ M).bind fun r => match r.1 with
    | .str s => (evE b ρ r.2).bind fun q => R.of ((meD .join (.str s) [nrm q.2 q.1]).map fun d => (d, q.2))
    | _ => .bad
  | .call f as, ρ, M => (evEs as ρ M).bind fun r => c f r.1 r.2
  | .callv n f as, ρ, M => (evE f ρ M).bind fun q => match q.1 with
    | .fn g => if g < n then (evEs as ρ q.2).bind fun r => c g r.1 r.2 else .bad
    | _ => .bad
  | .bi b as, ρ, M => (evEs as ρ M).bind fun r => R.of ((biD b (if isWlk b then r.1 else r.1.map (nrm r.2))).map fun d => (d, r.2))
  | .me m a as, ρ, M => (evE a ρ M).bind fun q => if isDct (nrm q.2 q.1) = false then .bad else (evEs as ρ q.2).bind fun r => R.of ((meD m (nrm r.2 q.1) (match m with | .get => r.1 | _ => r.1.map (nrm r.2))).map fun d => (d, r.2))
  | .mu m a as, ρ, M => (evE a ρ M).bind fun q => if muFitM m q.2 q.1 = false then .bad else (evEs as ρ q.2).bind fun r => R.of (muM m q.1 r.1 r.2)
  | .tup as, ρ, M => (evEs as ρ M).bind fun r => .ok (.tup r.1, r.2)
  | .lst as, ρ, M => (evEs as ρ M).bind fun r => .ok (.lst r.1, r.2)
  | .dct t as, ρ, M => (evEs as ρ M).bind fun r => R.of ((dctOf t r.1 []).map fun kvs => (.dct t kvs, r.2))
  | .sub a i, ρ, M => (evE a ρ M).bind fun r => (evE i ρ r.2).bind fun q => R.of ((subD (nrm q.2 r.1) q.1).map fun d => (d, q.2))
  | .slc a l h, ρ, M => (evE a ρ M).bind fun r => (evE l ρ r.2).bind fun q => (R.of (bnd (isNon l) q.1)).bind fun lo => (evE h ρ q.2).bind fun p => (R.of (bnd (isNon h) p.1)).bind fun hi => R.of ((slcD (nrm p.2 r.1) lo hi).map fun d => (d, p.2))
  | .comp e t it cs, ρ, M => (evE it ρ M).bind fun r => match itemsW it r.1 with
    | some ds => if ds.length ≤ SZ then (compL (evCs cs) (evE e) t ds ρ r.2).bind fun q => .ok (.lst q.1, q.2) else .bad
    | none => .bad
  | .dcomp b k v t it, ρ, M => (evE it ρ M).bind fun r => match itemsW it r.1 with
    | some ds => if ds.length ≤ SZ then (dcompL b (evE k) (evE v) t ds ρ r.2 []).bind fun q => .ok (.dct b q.1, q.2) else .bad
    | none => .bad
  | .dead, _, _ => .bad
  | .alloc a, ρ, M => (evE a ρ M).bind fun r => if isBox r.1 then .ok (.obj r.2.length, r.2 ++ [.val r.1]) else .bad
def evEs : List E → Env → Sto → R (List D × Sto)
  | [], _, M => .ok ([], M)
  | e :: es, ρ, M => (evE e ρ M).bind fun r => (evEs es ρ r.2).bind fun q => .ok (r.1 :: q.1, q.2)
def evCs : List E → Env → Sto → R (Bool × Sto)
  | [], _, M => .ok (true, M)
  | e :: es, ρ, M => (evE e ρ M).bind fun r => match r.1 with
    | .bl true => evCs es ρ r.2
    | .bl false => .ok (false, r.2)
    | _ => .bad
end
def forL (body : Env → Sto → RS) (t : Tg) : List D → Env → Sto → RS
  | [], ρ, M => .ok .nx ρ M
  | d :: ds, ρ, M => match putT ρ t d with
    | none => .bad
    | some ρ1 => match body ρ1 M with
      | .ok .nx ρ2 M2 => forL body t ds ρ2 M2
      | .ok .ct ρ2 M2 => forL body t ds ρ2 M2
      | .ok .bk ρ2 M2 => .ok .nx ρ2 M2
      | .ok (.rt d) ρ2 M2 => .ok (.rt d) ρ2 M2
      | .exc e ρ2 M2 => .exc e ρ2 M2
      | .bad => .bad
def whlN (cond : Env → Sto → R (D × Sto)) (body : Env → Sto → RS) : Nat → Env → Sto → RS
  | 0, _, _ => .bad
  | n + 1, ρ, M => (cond ρ M).toS ρ fun r => match r.1 with
    | .bl false => .ok .nx ρ r.2
    | .bl true => (match body ρ r.2 with
      | .ok .nx ρ2 M2 => whlN cond body n ρ2 M2
      | .ok .ct ρ2 M2 => whlN cond body n ρ2 M2
      | .ok .bk ρ2 M2 => .ok .nx ρ2 M2
      | .ok (.rt d) ρ2 M2 => .ok (.rt d) ρ2 M2
      | .exc e ρ2 M2 => .exc e ρ2 M2
      | .bad => .bad)
    | _ => .bad
def WF : Nat := 1099511627776
variable (sub : Nat → Nat → Bool)
mutual
def evS : S → Env → Sto → RS
  | .set i e, ρ, M => (evE c e ρ M).toS ρ fun r => .ok .nx (put ρ i r.1) r.2
  | .own i e, ρ, M => (evE c e ρ M).toS ρ fun r => if isBox r.1 then .ok .nx (put ρ i r.1) r.2 else .bad
  | .unp is e, ρ, M => (evE c e ρ M).toS ρ fun r => match (seqOf r.1).bind (puts ρ is) with
    | some ρ' => .ok .nx ρ' r.2
    | none => .bad
  | .par is es, ρ, M => (evEs c es ρ M).toS ρ fun r => match puts ρ is r.1 with
    | some ρ' => .ok .nx ρ' r.2
    | none => .bad
  | .aug i o e, ρ, M => match get ρ i with
    | none => .bad
    | some d => (evE c e ρ M).toS ρ fun r => match augD o d r.1 with
      | some v => .ok .nx (put ρ i v) r.2
      | none => .bad
  | .ex e, ρ, M => (evE c e ρ M).toS ρ fun r => .ok .nx ρ r.2
  | .omu m i as, ρ, M => match get ρ i with
    | some d => if muFit m d then (evEs c as ρ M).toS ρ fun r => match muD m d (muArg m r.2 r.1) with
        | some q => .ok .nx (put ρ i q.2) r.2
        | none => .bad
      else .bad
    | _ => .bad
  | .osm j m i as, ρ, M => match get ρ i with
    | some d => if muFit m d then (evEs c as ρ M).toS ρ fun r => match muD m d r.1 with
        | some q => .ok .nx (put (put ρ i q.2) j q.1) r.2
        | none => .bad
      else .bad
    | _ => .bad
  | .ret e, ρ, M => (evE c e ρ M).toS ρ fun r => .ok (.rt r.1) ρ r.2
  | .retf e, ρ, M => (match evE c e ρ M with
    | .ok r => .ok (.rt r.1) ρ r.2
    | _ => .bad)
  | .reto i, ρ, M => (match get ρ i with
    | some d => .ok (.rt d) ρ M
    | none => .bad)
  | .retn, ρ, M => .ok (.rt .non) ρ M
  | .ite x a b, ρ, M => (evE c x ρ M).toS ρ fun r => match r.1 with
    | .bl true => evSs a ρ r.2
    | .bl false => evSs b ρ r.2
    | _ => .bad
  | .whl x b, ρ, M => whlN (evE c x) (evSs b) WF ρ M
  | .for t it b, ρ, M => (evE c it ρ M).toS ρ fun r => match itemsW it r.1 with
    | some ds => forL (evSs b) t ds ρ r.2
    | none => .bad
  | .brk, ρ, M => .ok .bk ρ M
  | .cnt, ρ, M => .ok .ct ρ M
  | .pass, ρ, M => .ok .nx ρ M
  | .raise k as, ρ, M => (evEs c as ρ M).toS ρ fun r => .exc ⟨k, r.1⟩ ρ r.2
  | .try b k h k2 h2, ρ, M => match evSs b ρ M with
    | .exc e ρ1 M1 => if sub e.cls k then evSs h ρ1 M1 else (match k2 with
        | none => .exc e ρ1 M1
        | some j => if sub e.cls j then evSs h2 ρ1 M1 else .exc e ρ1 M1)
    | r => r
  | .sto o ix v, ρ, M => (evE c v ρ M).toS ρ fun r => (evE c o ρ r.2).toS ρ fun q => (evE c ix ρ q.2).toS ρ fun p => match muM .put q.1 [p.1, r.1] p.2 with
    | some z => .ok .nx ρ z.2
    | none => .bad
  | .oput i ix v, ρ, M => (evE c v ρ M).toS ρ fun r => match get ρ i with
    | some d => if isBox d then (evE c ix ρ r.2).toS ρ fun p => match muD .put d [p.1, r.1] with
        | some z => .ok .nx (put ρ i z.2) p.2
        | none => .bad
      else .bad
    | _ => .bad
  | .dead, _, _ => .bad
def evSs : List S → Env → Sto → RS
  | [], ρ, M => .ok .nx ρ M
  | s :: ss, ρ, M => (evS s ρ M).then (evSs ss)
end
end
structure Fn where
  np : Nat
  ns : Nat
  ow : List Nat
  body : List S
def startE (f : Fn) (ds : List D) : Env := ds.map some ++ List.replicate (f.ns - ds.length) none
def RS.out : RS → R (D × Sto)
  | .ok (.rt d) _ M => .ok (d, M)
  | .ok .nx _ M => .ok (.non, M)
  | .exc e _ M => .exc e M
  | _ => .bad
def run (sub : Nat → Nat → Bool) (Γ : List Fn) : Nat → Call
  | 0 => fun _ _ _ => .bad
  | n + 1 => fun f ds M => match Γ[f]? with
    | none => .bad
    | some F => if ds.length = F.np then (evSs (run sub Γ n) sub F.body (startE F ds) M).out else .bad
end Ev
set_option Elab.async false
set_option linter.all false
set_option autoImplicit false
set_option maxRecDepth 100000
set_option maxHeartbeats 4000000
namespace Ev
open PySem PySem.Spec PyProof.Rows L2
structure Par where
  w : World
  K : PySem.W.Frag
  fa : Nat → Addr
  ca : Nat → Addr
  nc : Nat
structure Wd where
  ι : List Addr
  F : Addr → Prop
def S' (x : List Nat) : Str := ⟨x.toArray⟩
def TupAt (P : Par) (W : Wd) (H : Hp) (a : Addr) (vs : List V) (ds : List D) : Prop :=
  H a = some (.tup vs) ∨ wrOk ds = true ∧ ∃ (o : Obj) (its : Array Value) (n : Nat), P.K.lookup a = some o ∧ o.cls = .type "tuple" ∧ o.data = .seq its n ∧ its.size ≤ sizeLine ∧ Vals vs its.toList
theorem TupAt.sq {P : Par} {W : Wd} {H : Hp} {a : Addr} {vs : List V} {ds : List D} (h : TupAt P W H a vs ds) : SqT P.K H a vs := h.imp .inl (·.2)
def ScrAt (P : Par) (W : Wd) (H : Hp) (a : Addr) (vs : List V) : Prop :=
  (W.F a ∧ Rd H a (.lst vs)) ∨ ∃ (o : Obj) (its : Array Value) (n : Nat), P.K.lookup a = some o ∧ o.cls = .type "list" ∧ o.dict = none ∧ o.data = .seq its n ∧ its.size ≤ sizeLine ∧ Vals vs its.toList
theorem ScrAt.sq {P : Par} {W : Wd} {H : Hp} {a : Addr} {vs : List V} (h : ScrAt P W H a vs) : SqL P.K H a vs := h.imp (·.2) id
def kD : Key → D
  | .inl i => .int i
  | .inr x => .str x.cps.toList
def kSc : D → Prop
  | .str x => x.length ≤ SZ ∧ ∀ c ∈ x, c < 1114112
  | .int _ => True
  | _ => False
def kOk (t : Bool) : D → Prop
  | .tup ds => t = true ∧ ds.length ≤ SZ ∧ wrOk ds = false ∧ ∀ d ∈ ds, kSc d
  | d => t = false ∧ kSc d
def DctO (t : Bool) (ks : List D) (vs : List V) (o : HO) : Prop :=
  (∀ k ∈ ks, kOk t k) ∧ if t then ∃ m : List (List Key × V), o = .dT m ∧ ks = m.map (fun p => D.tup (p.1.map kD)) ∧ vs = m.map (·.2) else ∃ m : List (Key × V), o = .dK m ∧ ks = m.map (fun p => kD p.1) ∧ vs = m.map (·.2)
mutual
def Rep (P : Par) (W : Wd) (H : Hp) : D → V → Prop
  | .non, v => v = .non
  | .bl b, v => v = .bl b
  | .int i, v => v = .int i
  | .str x, v => v = .str (S' x) ∧ x.length ≤ SZ ∧ ∀ c ∈ x, c < 1114112
  | .tup ds, v => ∃ a vs, v = .ref a ∧ TupAt P W H a vs ds ∧ ds.length ≤ SZ ∧ Reps P W H ds vs
  | .lst ds, v => ∃ a vs, v = .ref a ∧ W.F a ∧ H a = some (.lst vs) ∧ ds.length ≤ SZ ∧ Reps P W H ds vs
  | .scr ds, v => ∃ a vs, v = .ref a ∧ ScrAt P W H a vs ∧ ds.length ≤ SZ ∧ Reps P W H ds vs
  | .dct t kvs, v => ∃ a o vs, v = .ref a ∧ W.F a ∧ Rd H a o ∧ DctO t (kvs.map (·.1)) vs o ∧ kvs.length ≤ SZ ∧ RepPs P W H kvs vs
  | .itr _, _ => False
  | .obj k, v => ∃ a, v = .ref a ∧ W.ι[k]? = some a
  | .fn f, v => v = .ref (P.fa f)
  | .cl c, v => v = .ref (P.ca c)
  | .ty n, v => v = .ty n
  | .kd kvs, v => ∃ a es n, v = .ref a ∧ KDict P.K P.w a es n ∧ (∀ x, kvs.lookup x = none → PySem.W.nsIn P.K a (S' x) = some none) ∧ RepKs P W H a kvs
def Reps (P : Par) (W : Wd) (H : Hp) : List D → List V → Prop
  | [], vs => vs = []
  | d :: ds, vs => ∃ v r, vs = v :: r ∧ Rep P W H d v ∧ Reps P W H ds r
def RepPs (P : Par) (W : Wd) (H : Hp) : List (D × D) → List V → Prop
  | [], vs => vs = []
  | p :: ps, vs => ∃ v r, vs = v :: r ∧ RepP P W H p v ∧ RepPs P W H ps r
def RepP (P : Par) (W : Wd) (H : Hp) : D × D → V → Prop
  | (_, d), v => Rep P W H d v
def RepKs (P : Par) (W : Wd) (H : Hp) (a : Addr) : List (List Nat × D) → Prop
  | [] => True
  | p :: ps => RepK P W H a p ∧ RepKs P W H a ps
def RepK (P : Par) (W : Wd) (H : Hp) (a : Addr) : List Nat × D → Prop
  | (x, d) => ∃ u v, PySem.W.nsIn P.K a (S' x) = some (some u) ∧ RelV v u ∧ Rep P W H d v
end
theorem RepKs.get {P : Par} {W : Wd} {H : Hp} {a : Addr} {x : List Nat} {d : D} : ∀ {kvs : List (List Nat × D)}, RepKs P W H a kvs → kvs.lookup x = some d → ∃ u v, PySem.W.nsIn P.K a (S' x) = some (some u) ∧ RelV v u ∧ Rep P W H d v
  | [], _, e => by cases e
  | (y, b) :: r, h, e => by
    rw [List.lookup_cons] at e
    split at e
    · rename_i q
      cases e
      rw [beq_iff_eq.mp q]
      exact h.1
    · exact RepKs.get h.2 e
theorem Reps.length {P : Par} {W : Wd} {H : Hp} : ∀ {ds : List D} {vs : List V}, Reps P W H ds vs → vs.length = ds.length
  | [], _, h => by
    have e : _ = [] := h
    rw [e]; rfl
  | d :: ds, _, h => by
    obtain ⟨v, r, rfl, _, h2⟩ := h
    rw [List.length_cons, List.length_cons, Reps.length h2]
theorem Reps.nil {P : Par} {W : Wd} {H : Hp} : Reps P W H [] [] := rfl
theorem Reps.cons {P : Par} {W : Wd} {H : Hp} {d : D} {v : V} {ds : List D} {vs : List V} (h : Rep P W H d v) (t : Reps P W H ds vs) : Reps P W H (d :: ds) (v :: vs) := ⟨v, vs, rfl, h, t⟩
theorem Reps.get {P : Par} {W : Wd} {H : Hp} : ∀ {ds : List D} {vs : List V} {i : Nat} {d : D}, Reps P W H ds vs → ds[i]? = some d → ∃ v, vs[i]? = some v ∧ Rep P W H d v
  | [], _, _, _, _, e => by simp at e
  | d :: ds, _, 0, x, h, e => by
    obtain ⟨v, r, rfl, h1, h2⟩ := h
    simp at e; subst e
    exact ⟨v, rfl, h1⟩
  | d :: ds, _, i + 1, x, h, e => by
    obtain ⟨v, r, rfl, h1, h2⟩ := h
    obtain ⟨u, e1, h3⟩ := Reps.get (i := i) h2 (by simpa using e)
    exact ⟨u, by simpa using e1, h3⟩
theorem Reps.append {P : Par} {W : Wd} {H : Hp} : ∀ {ds es : List D} {vs us : List V}, Reps P W H ds vs → Reps P W H es us → Reps P W H (ds ++ es) (vs ++ us)
  | [], _, _, _, h, k => by
    have e : _ = [] := h
    rw [e]; exact k
  | d :: ds, _, _, _, h, k => by
    obtain ⟨v, r, rfl, h1, h2⟩ := h
    exact ⟨v, _, rfl, h1, Reps.append h2 k⟩
theorem Reps.drop {P : Par} {W : Wd} {H : Hp} : ∀ (n : Nat) {ds : List D} {vs : List V}, Reps P W H ds vs → Reps P W H (ds.drop n) (vs.drop n)
  | 0, _, _, h => h
  | n + 1, [], _, h => by
    have e : _ = [] := h
    rw [e]; exact rfl
  | n + 1, d :: ds, _, h => by
    obtain ⟨v, r, rfl, h1, h2⟩ := h
    exact Reps.drop n h2
theorem Reps.take {P : Par} {W : Wd} {H : Hp} : ∀ (n : Nat) {ds : List D} {vs : List V}, Reps P W H ds vs → Reps P W H (ds.take n) (vs.take n)
  | 0, _, _, h => by simp only [List.take_zero]; exact Reps.nil
  | n + 1, [], _, h => by
    have e : _ = [] := h
    rw [e]; exact rfl
  | n + 1, d :: ds, _, h => by
    obtain ⟨v, r, rfl, h1, h2⟩ := h
    exact ⟨v, _, rfl, h1, Reps.take n h2⟩
theorem Reps.set {P : Par} {W : Wd} {H : Hp} {d : D} {v : V} (hv : Rep P W H d v) : ∀ (n : Nat) {ds : List D} {vs : List V}, Reps P W H ds vs → Reps P W H (ds.set n d) (vs.set n v)
  | _, [], _, h => by
    have e : _ = [] := h
    rw [e]; exact rfl
  | 0, d :: ds, _, h => by
    obtain ⟨v', r, rfl, h1, h2⟩ := h
    exact ⟨v, _, rfl, hv, h2⟩
  | n + 1, d :: ds, _, h => by
    obtain ⟨v', r, rfl, h1, h2⟩ := h
    exact ⟨v', _, rfl, h1, Reps.set hv n h2⟩
theorem Reps.eraseIdx {P : Par} {W : Wd} {H : Hp} : ∀ (n : Nat) {ds : List D} {vs : List V}, Reps P W H ds vs → Reps P W H (ds.eraseIdx n) (vs.eraseIdx n)
  | _, [], _, h => by
    have e : _ = [] := h
    rw [e]; exact rfl
  | 0, d :: ds, _, h => by
    obtain ⟨v', r, rfl, h1, h2⟩ := h
    exact h2
  | n + 1, d :: ds, _, h => by
    obtain ⟨v', r, rfl, h1, h2⟩ := h
    exact ⟨v', _, rfl, h1, Reps.eraseIdx n h2⟩
theorem Reps.dropLast {P : Par} {W : Wd} {H : Hp} {ds : List D} {vs : List V} (h : Reps P W H ds vs) : Reps P W H ds.dropLast vs.dropLast := by
  rw [List.dropLast_eq_take, List.dropLast_eq_take, h.length]
  exact h.take _
theorem Reps.mem {P : Par} {W : Wd} {H : Hp} : ∀ {ds : List D} {vs : List V} {v : V}, Reps P W H ds vs → v ∈ vs → ∃ d ∈ ds, Rep P W H d v
  | [], _, _, h, m => by
    have e : _ = [] := h
    rw [e] at m; simp at m
  | d :: ds, _, v, h, m => by
    obtain ⟨v', r, rfl, h1, h2⟩ := h
    rcases List.mem_cons.mp m with rfl | m
    · exact ⟨d, List.mem_cons_self, h1⟩
    · obtain ⟨d', e, k⟩ := Reps.mem h2 m
      exact ⟨d', List.mem_cons_of_mem _ e, k⟩
def isDO : HO → Bool
  | .dK _ => true
  | .dT _ => true
  | _ => false
def Kp (u u' : Option HO) : Prop := u' = u ∨ ∃ ob o, u = some o ∧ isDO o = true ∧ u' = some (.frz ob o)
theorem Kp.refl {u : Option HO} : Kp u u := .inl rfl
theorem Kp.trans {u v x : Option HO} (h : Kp u v) (k : Kp v x) : Kp u x := by
  rcases k with rfl | ⟨ob, o, e, d, rfl⟩
  · exact h
  · rcases h with rfl | ⟨ob2, o2, e2, d2, e3⟩
    · exact .inr ⟨ob, o, e, d, rfl⟩
    · rw [e3] at e; cases e; cases d
theorem Kp.lst {u u' : Option HO} (h : Kp u u') {vs : List V} (e : u = some (.lst vs)) : u' = some (.lst vs) := by
  rcases h with h | ⟨ob, o, e2, d, rfl⟩
  · exact h.trans e
  · rw [e] at e2; cases e2; cases d
theorem Kp.frz {u u' : Option HO} (h : Kp u u') {ob : Obj} {o : HO} (e : u = some (.frz ob o)) : u' = some (.frz ob o) := by
  rcases h with h | ⟨ob, o, e2, d, rfl⟩
  · exact h.trans e
  · rw [e] at e2; cases e2; cases d
theorem Kp.rd {H H' : Hp} {a : Addr} {o : HO} (h : Kp (H a) (H' a)) (r : Rd H a o) : Rd H' a o := by
  rcases h with h | ⟨ob, o', e2, d, e3⟩
  · exact r.imp h.trans fun ⟨u, e⟩ => ⟨u, h.trans e⟩
  · rcases r with r | ⟨u, r⟩
    · rw [r] at e2; cases e2; exact .inr ⟨ob, e3⟩
    · rw [r] at e2; cases e2; cases d
theorem Kp.none {u u' : Option HO} (h : Kp u u') (n : u ≠ none) : u' ≠ none := by
  rcases h with rfl | ⟨ob, o, _, _, rfl⟩
  · exact n
  · exact fun z => nomatch z
structure G (W : Wd) (H : Hp) (W' : Wd) (H' : Hp) : Prop where
  io : ∃ more, W'.ι = W.ι ++ more ∧ ∀ a ∈ more, H a = none
  fm : ∀ a, W.F a → W'.F a
  fn : ∀ a, W'.F a → W.F a ∨ H a = none
  kp : ∀ a o, H a = some o → a ∉ W.ι → ¬ W.F a → H' a = some o
  kf : ∀ a, W.F a → H a ≠ none → a ∉ W.ι → Kp (H a) (H' a)
  al : ∀ a, H a ≠ none → H' a ≠ none
  tp : ∀ a vs, H a = some (.tup vs) → H' a = some (.tup vs)
theorem G.refl {W : Wd} {H : Hp} : G W H W H := ⟨⟨[], by simp, fun _ h => nomatch h⟩, fun _ h => h, fun _ h => .inl h, fun _ _ h _ _ => h, fun _ _ _ _ => .refl, fun _ h => h, fun _ _ h => h⟩
theorem G.trans {W W1 W2 : Wd} {H H1 H2 : Hp} (g : G W H W1 H1) (k : G W1 H1 W2 H2) : G W H W2 H2 := by
  obtain ⟨m1, e1, n1⟩ := g.io
  obtain ⟨m2, e2, n2⟩ := k.io
  have back : ∀ a, H1 a = none → H a = none := fun a h => Classical.byContradiction fun q => g.al a q h
  have ni : ∀ a, H a ≠ none → a ∉ W.ι → a ∉ W1.ι := fun a h ha z => by
    rw [e1] at z
    rcases List.mem_append.mp z with z | z
    · exact ha z
    · exact h (n1 a z)
  refine ⟨⟨m1 ++ m2, by rw [e2, e1, List.append_assoc], fun a h => ?_⟩, fun a h => k.fm a (g.fm a h), fun a h => ?_, fun a o h ha hf => ?_, fun a hf h0 ha => (g.kf a hf h0 ha).trans (k.kf a (g.fm a hf) (g.al a h0) (ni a h0 ha)), fun a h => k.al a (g.al a h), fun a vs h => k.tp a vs (g.tp a vs h)⟩
  · rcases List.mem_append.mp h with h | h
    · exact n1 a h
    · exact back a (n2 a h)
  · rcases k.fn a h with h | h
    · exact g.fn a h
    · exact .inr (back a h)
  · have h0 : H a ≠ none := by rw [h]; exact fun z => nomatch z
    refine k.kp a o (g.kp a o h ha hf) (ni a h0 ha) fun z => ?_
    rcases g.fn a z with z | z
    · exact hf z
    · exact h0 z
theorem G.ix {W W' : Wd} {H H' : Hp} (g : G W H W' H') {k : Nat} {a : Addr} (e : W.ι[k]? = some a) : W'.ι[k]? = some a := by
  obtain ⟨m, e1, _⟩ := g.io
  rw [e1, List.getElem?_append_left (List.getElem?_eq_some_iff.mp e).1]
  exact e
structure Wf (W : Wd) (H : Hp) : Prop where
  fi : ∀ a, W.F a → a ∉ W.ι
  fs : ∀ a, W.F a → H a ≠ none
  nd : W.ι.Nodup
  is : ∀ a ∈ W.ι, H a ≠ none
structure Gw (W : Wd) (H : Hp) (W' : Wd) (H' : Hp) : Prop where
  io : ∃ more, W'.ι = W.ι ++ more
  fm : ∀ a, W.F a → W'.F a
  kp : ∀ a, W.F a → Kp (H a) (H' a)
  tp : ∀ a vs, H a = some (.tup vs) → H' a = some (.tup vs)
theorem Gw.refl {W : Wd} {H : Hp} : Gw W H W H := ⟨⟨[], by simp⟩, fun _ h => h, fun _ _ => .refl, fun _ _ h => h⟩
theorem Gw.trans {W W1 W2 : Wd} {H H1 H2 : Hp} (g : Gw W H W1 H1) (k : Gw W1 H1 W2 H2) : Gw W H W2 H2 := by
  obtain ⟨m1, e1⟩ := g.io
  obtain ⟨m2, e2⟩ := k.io
  exact ⟨⟨m1 ++ m2, by rw [e2, e1, List.append_assoc]⟩, fun a h => k.fm a (g.fm a h), fun a h => (g.kp a h).trans (k.kp a (g.fm a h)), fun a vs h => k.tp a vs (g.tp a vs h)⟩
theorem G.w {W W' : Wd} {H H' : Hp} (g : G W H W' H') (wf : Wf W H) : Gw W H W' H' := by
  obtain ⟨m, e, _⟩ := g.io
  exact ⟨⟨m, e⟩, g.fm, fun a f => g.kf a f (wf.fs a f) (wf.fi a f), g.tp⟩
theorem Gw.ix {W W' : Wd} {H H' : Hp} (g : Gw W H W' H') {k : Nat} {a : Addr} (e : W.ι[k]? = some a) : W'.ι[k]? = some a := by
  obtain ⟨m, e1⟩ := g.io
  rw [e1, List.getElem?_append_left (List.getElem?_eq_some_iff.mp e).1]
  exact e
theorem TupAt.gw {P : Par} {W W' : Wd} {H H' : Hp} (g : Gw W H W' H') {a : Addr} {vs : List V} {ds : List D} (h : TupAt P W H a vs ds) : TupAt P W' H' a vs ds := h.imp (g.tp a vs) id
theorem ScrAt.gw {P : Par} {W W' : Wd} {H H' : Hp} (g : Gw W H W' H') {a : Addr} {vs : List V} (h : ScrAt P W H a vs) : ScrAt P W' H' a vs := by
  rcases h with ⟨f, h⟩ | h
  · exact .inl ⟨g.fm a f, (g.kp a f).rd h⟩
  · exact .inr h
mutual
theorem Rep.gw {P : Par} {W W' : Wd} {H H' : Hp} (g : Gw W H W' H') : ∀ {d : D} {v : V}, Rep P W H d v → Rep P W' H' d v
  | .non, _, h => h
  | .bl _, _, h => h
  | .int _, _, h => h
  | .str _, _, h => h
  | .tup ds, _, h => by
    obtain ⟨a, vs, e, h1, h2, h3⟩ := h
    exact ⟨a, vs, e, h1.gw g, h2, Reps.gw g h3⟩
  | .lst ds, _, h => by
    obtain ⟨a, vs, e, h1, h2, h3, h4⟩ := h
    exact ⟨a, vs, e, g.fm a h1, (g.kp a h1).lst h2, h3, Reps.gw g h4⟩
  | .scr ds, _, h => by
    obtain ⟨a, vs, e, h1, h2, h3⟩ := h
    exact ⟨a, vs, e, h1.gw g, h2, Reps.gw g h3⟩
  | .dct t kvs, _, h => by
    obtain ⟨a, o, vs, e, h1, h2, h3, h4, h5⟩ := h
    exact ⟨a, o, vs, e, g.fm a h1, (g.kp a h1).rd h2, h3, h4, RepPs.gw g h5⟩
  | .itr _, _, h => h
  | .obj _, _, h => by
    obtain ⟨a, e, h⟩ := h
    exact ⟨a, e, g.ix h⟩
  | .fn _, _, h => h
  | .cl _, _, h => h
  | .ty _, _, h => h
  | .kd _, _, h => by
    obtain ⟨a, es, n, e, h1, h2, h3⟩ := h
    exact ⟨a, es, n, e, h1, h2, RepKs.gw g h3⟩
theorem Reps.gw {P : Par} {W W' : Wd} {H H' : Hp} (g : Gw W H W' H') : ∀ {ds : List D} {vs : List V}, Reps P W H ds vs → Reps P W' H' ds vs
  | [], _, h => h
  | _ :: _, _, h => by
    obtain ⟨v, r, e, h1, h2⟩ := h
    exact ⟨v, r, e, Rep.gw g h1, Reps.gw g h2⟩
theorem RepPs.gw {P : Par} {W W' : Wd} {H H' : Hp} (g : Gw W H W' H') : ∀ {ds : List (D × D)} {vs : List V}, RepPs P W H ds vs → RepPs P W' H' ds vs
  | [], _, h => h
  | _ :: _, _, h => by
    obtain ⟨v, r, e, h1, h2⟩ := h
    exact ⟨v, r, e, RepP.gw g h1, RepPs.gw g h2⟩
theorem RepP.gw {P : Par} {W W' : Wd} {H H' : Hp} (g : Gw W H W' H') : ∀ {d : D × D} {v : V}, RepP P W H d v → RepP P W' H' d v
  | (_, _), _, h => Rep.gw g h
theorem RepKs.gw {P : Par} {W W' : Wd} {H H' : Hp} (g : Gw W H W' H') {a : Addr} : ∀ {kvs : List (List Nat × D)}, RepKs P W H a kvs → RepKs P W' H' a kvs
  | [], h => h
  | _ :: _, h => ⟨RepK.gw g h.1, RepKs.gw g h.2⟩
theorem RepK.gw {P : Par} {W W' : Wd} {H H' : Hp} (g : Gw W H W' H') {a : Addr} : ∀ {d : List Nat × D}, RepK P W H a d → RepK P W' H' a d
  | (_, _), ⟨u, v, h1, h2, h3⟩ => ⟨u, v, h1, h2, Rep.gw g h3⟩
end
theorem TupAt.g {P : Par} {W W' : Wd} {H H' : Hp} {a : Addr} {vs : List V} {ds : List D} (g : G W H W' H') (wf : Wf W H) (h : TupAt P W H a vs ds) : TupAt P W' H' a vs ds := h.gw (g.w wf)
theorem Rep.g {P : Par} {W W' : Wd} {H H' : Hp} (g : G W H W' H') (wf : Wf W H) {d : D} {v : V} (h : Rep P W H d v) : Rep P W' H' d v := h.gw (g.w wf)
theorem Reps.g {P : Par} {W W' : Wd} {H H' : Hp} (g : G W H W' H') (wf : Wf W H) {ds : List D} {vs : List V} (h : Reps P W H ds vs) : Reps P W' H' ds vs := h.gw (g.w wf)
def BoxAt (P : Par) (W : Wd) (H : Hp) (a : Addr) : D → Prop
  | .lst ds => ∃ vs, H a = some (.lst vs) ∧ ds.length ≤ SZ ∧ Reps P W H ds vs
  | .dct t kvs => ∃ o vs, H a = some o ∧ DctO t (kvs.map (·.1)) vs o ∧ kvs.length ≤ SZ ∧ RepPs P W H kvs vs
  | _ => False
theorem BoxAt.gw {P : Par} {W W' : Wd} {H H' : Hp} (g : Gw W H W' H') {a : Addr} (e : H' a = H a) {d : D} (h : BoxAt P W H a d) : BoxAt P W' H' a d := by
  cases d with
  | lst ds =>
    obtain ⟨vs, h1, h2, h3⟩ := h
    exact ⟨vs, e.trans h1, h2, h3.gw g⟩
  | dct t kvs =>
    obtain ⟨o, vs, h1, h2, h3, h4⟩ := h
    exact ⟨o, vs, e.trans h1, h2, h3, h4.gw g⟩
  | _ => exact (show False from h).elim
theorem BoxAt.some {P : Par} {W : Wd} {H : Hp} {a : Addr} {d : D} (h : BoxAt P W H a d) : H a ≠ none := by
  cases d with
  | lst ds =>
    obtain ⟨vs, h1, _⟩ := h
    rw [h1]; exact fun z => nomatch z
  | dct t kvs =>
    obtain ⟨o, vs, h1, _⟩ := h
    rw [h1]; exact fun z => nomatch z
  | _ => exact (show False from h).elim
theorem BoxAt.g {P : Par} {W W' : Wd} {H H' : Hp} {a : Addr} (g : G W H W' H') (wf : Wf W H) (n : a ∉ W.ι) (nF : ¬ W.F a) {d : D} (h : BoxAt P W H a d) : BoxAt P W' H' a d := by
  refine h.gw (g.w wf) ?_
  cases e : H a with
  | none => exact (h.some e).elim
  | some o => exact g.kp a o e n nF
theorem BoxAt.nt {P : Par} {W : Wd} {H : Hp} {a : Addr} {d : D} (h : BoxAt P W H a d) (vs : List V) : H a ≠ Option.some (HO.tup vs) := by
  intro z
  cases d with
  | lst ds =>
    obtain ⟨us, h1, _⟩ := h
    rw [z] at h1; cases h1
  | dct t kvs =>
    obtain ⟨o, us, h1, ⟨_, h2⟩, _⟩ := h
    rw [z] at h1; cases h1
    split at h2
    · obtain ⟨m, e, _⟩ := h2; cases e
    · obtain ⟨m, e, _⟩ := h2; cases e
  | _ => exact (show False from h).elim
theorem BoxAt.box {P : Par} {W : Wd} {H : Hp} {a : Addr} {d : D} (h : BoxAt P W H a d) : isBox d = true := by
  cases d with
  | lst ds => rfl
  | dct t kvs => rfl
  | _ => exact (show False from h).elim
def MoAt (P : Par) (W : Wd) (H : Hp) (a : Addr) : MO → Prop
  | .val d => BoxAt P W H a d
  | .ins _ _ => False
structure StoR (P : Par) (W : Wd) (M : Sto) (H : Hp) : Prop where
  wf : Wf W H
  len : W.ι.length = M.length
  at_ : ∀ (k : Nat) (o : MO), M[k]? = some o → ∃ a, W.ι[k]? = some a ∧ MoAt P W H a o
def Own (P : Par) (W : Wd) (H : Hp) (a : Addr) (d : D) : Prop := ¬ W.F a ∧ a ∉ W.ι ∧ BoxAt P W H a d
theorem Own.g {P : Par} {W W' : Wd} {H H' : Hp} {a : Addr} {d : D} (g : G W H W' H') (wf : Wf W H) (h : Own P W H a d) : Own P W' H' a d := by
  obtain ⟨h1, h2, h3⟩ := h
  have hs := h3.some
  refine ⟨fun z => ?_, fun z => ?_, h3.g g wf h2 h1⟩
  · rcases g.fn a z with q | q
    · exact h1 q
    · exact hs q
  · obtain ⟨m, e, n⟩ := g.io
    rw [e] at z
    rcases List.mem_append.mp z with z | z
    · exact h2 z
    · exact hs (n a z)
structure Rel (P : Par) (ow : List Nat) (W : Wd) (ρ : Env) (M : Sto) (σ : L2.St) (H : Hp) : Prop where
  sto : StoR P W M H
  len : ρ.length = σ.length
  fz : ∀ i d, get ρ i = some d → i ∉ ow → ∃ v, σ[i]? = some (some v) ∧ Rep P W H d v
  own : ∀ i d, get ρ i = some d → i ∈ ow → ∃ a, σ[i]? = some (some (.ref a)) ∧ Own P W H a d
  sep : ∀ (i j : Nat) (a : Addr), i ∈ ow → j ∈ ow → i ≠ j → get ρ i ≠ none → get ρ j ≠ none → σ[i]? = some (some (.ref a)) → σ[j]? ≠ some (some (.ref a))
theorem Rel.g {P : Par} {ow : List Nat} {W W' : Wd} {ρ : Env} {M M' : Sto} {σ : L2.St} {H H' : Hp} (r : Rel P ow W ρ M σ H) (g : G W H W' H') (s : StoR P W' M' H') : Rel P ow W' ρ M' σ H' :=
  ⟨s, r.len, fun i d e n => let ⟨v, h1, h2⟩ := r.fz i d e n; ⟨v, h1, h2.g g r.sto.wf⟩, fun i d e n => let ⟨a, h1, h2⟩ := r.own i d e n; ⟨a, h1, h2.g g r.sto.wf⟩, r.sep⟩
def RepW (P : Par) (W : Wd) (H : Hp) (d : D) (v : V) : Prop := Rep P W H d v ∨ ∃ a, v = .ref a ∧ a ∉ W.ι ∧ ¬ W.F a ∧ BoxAt P W H a d
theorem RepW.g {P : Par} {W W' : Wd} {H H' : Hp} (g : G W H W' H') (wf : Wf W H) {d : D} {v : V} (h : RepW P W H d v) : RepW P W' H' d v := by
  rcases h with h | ⟨a, e, n, nF, h⟩
  · exact .inl (h.g g wf)
  · refine .inr ⟨a, e, fun z => ?_, fun z => (g.fn a z).elim nF h.some, h.g g wf n nF⟩
    obtain ⟨m, e1, k⟩ := g.io
    rw [e1] at z
    rcases List.mem_append.mp z with z | z
    · exact n z
    · exact h.some (k a z)
def RepR (P : Par) (W : Wd) (H : Hp) (d : D) (v : V) : Prop := match d with
  | .lst ds => ∃ a vs, v = .ref a ∧ H a = some (.lst vs) ∧ ds.length ≤ SZ ∧ Reps P W H ds vs
  | .dct t kvs => ∃ a o vs, v = .ref a ∧ Rd H a o ∧ DctO t (kvs.map (·.1)) vs o ∧ kvs.length ≤ SZ ∧ RepPs P W H kvs vs
  | d => Rep P W H d v
theorem Rep.r {P : Par} {W : Wd} {H : Hp} {d : D} {v : V} (h : Rep P W H d v) : RepR P W H d v := by
  cases d with
  | lst ds =>
    obtain ⟨a, vs, e, _, h2, h3, h4⟩ := h
    exact ⟨a, vs, e, h2, h3, h4⟩
  | dct t kvs =>
    obtain ⟨a, o, vs, e, _, h2, h3, h4, h5⟩ := h
    exact ⟨a, o, vs, e, h2, h3, h4, h5⟩
  | _ => exact h
theorem BoxAt.r {P : Par} {W : Wd} {H : Hp} {d : D} {a : Addr} (h : BoxAt P W H a d) : RepR P W H d (.ref a) := by
  cases d with
  | lst ds =>
    obtain ⟨vs, h1, h2, h3⟩ := h
    exact ⟨a, vs, rfl, h1, h2, h3⟩
  | dct t kvs =>
    obtain ⟨o, vs, h1, h2, h3, h4⟩ := h
    exact ⟨a, o, vs, rfl, .inl h1, h2, h3, h4⟩
  | _ => exact (show False from h).elim
theorem RepW.r {P : Par} {W : Wd} {H : Hp} {M : Sto} (s : StoR P W M H) {d : D} {v : V} (h : RepW P W H d v) : RepR P W H (nrm M d) v := by
  rcases h with h | ⟨a, e, n, _, h⟩
  · cases d with
    | obj k =>
      obtain ⟨a, e, h⟩ := h
      subst e
      show RepR P W H (match M[k]? with | some (.val d) => d | _ => .obj k) (.ref a)
      cases q : M[k]? with
      | none => exact ⟨a, rfl, h⟩
      | some o =>
        obtain ⟨a', e1, h1⟩ := s.at_ k o q
        rw [h] at e1; cases e1
        cases o with
        | val d => exact BoxAt.r h1
        | ins c fs => exact ⟨a, rfl, h⟩
    | _ => exact h.r
  · subst e
    have e2 : nrm M d = d := by
      cases d with
      | obj k => exact (show False from h).elim
      | _ => rfl
    rw [e2]
    exact h.r
def Wd.add (W : Wd) (p : Addr) : Wd := ⟨W.ι, fun a => W.F a ∨ a = p⟩
theorem upd_new {H : Hp} {p : Addr} {o : HO} (n : H p = none) {a : Addr} (h : H a ≠ none) : upd H p o a = H a := upd_ne fun z => by subst z; exact h n
theorem some_ne {α : Type} {x : Option α} {o : α} (e : x = some o) : x ≠ none := by rw [e]; exact fun z => nomatch z
theorem G.add {W : Wd} {H : Hp} {p : Addr} {o : HO} (n : H p = none) : G W H (W.add p) (upd H p o) := by
  refine ⟨⟨[], by simp [Wd.add], fun _ h => nomatch h⟩, fun _ h => .inl h, fun a h => ?_, fun a u e _ _ => (upd_new n (some_ne e)).trans e, fun a _ h _ => .inl (upd_new n h), fun a h => ?_, fun a vs e => (upd_new n (some_ne e)).trans e⟩
  · rcases h with h | h
    · exact .inl h
    · subst h; exact .inr n
  · rw [upd_new n h]; exact h
theorem G.grow {W : Wd} {H : Hp} {p : Addr} {o : HO} (n : H p = none) : G W H W (upd H p o) := by
  refine ⟨⟨[], by simp, fun _ h => nomatch h⟩, fun _ h => h, fun a h => .inl h, fun a u e _ _ => (upd_new n (some_ne e)).trans e, fun a _ h _ => .inl (upd_new n h), fun a h => ?_, fun a vs e => (upd_new n (some_ne e)).trans e⟩
  rw [upd_new n h]; exact h
theorem MoAt.gw {P : Par} {W W' : Wd} {H H' : Hp} (g : Gw W H W' H') {a : Addr} (e : H' a = H a) {o : MO} (h : MoAt P W H a o) : MoAt P W' H' a o := by
  cases o with
  | val d => exact BoxAt.gw g e h
  | ins _ _ => exact (show False from h).elim
theorem MoAt.g {P : Par} {W W' : Wd} {H H' : Hp} {a : Addr} (wf : Wf W H) (g : G W H W' H') (k : H' a = H a) {o : MO} (h : MoAt P W H a o) : MoAt P W' H' a o := h.gw (g.w wf) k
theorem StoR.add {P : Par} {W : Wd} {M : Sto} {H : Hp} {p : Addr} {o : HO} (s : StoR P W M H) (n : H p = none) : StoR P (W.add p) M (upd H p o) := by
  have pi : p ∉ W.ι := fun z => s.wf.is p z n
  refine ⟨⟨fun a h => ?_, fun a h => ?_, s.wf.nd, fun a h => ?_⟩, s.len, fun k u e => ?_⟩
  · rcases h with h | h
    · exact s.wf.fi a h
    · subst h; exact pi
  · rcases h with h | h
    · by_cases z : a = p
      · subst z; rw [upd_same]; exact fun z => nomatch z
      · rw [upd_ne z]; exact s.wf.fs a h
    · subst h; rw [upd_same]; exact fun z => nomatch z
  · exact (G.add (W := W) (o := o) n).al a (s.wf.is a h)
  · obtain ⟨a, e1, h⟩ := s.at_ k u e
    have ne : a ≠ p := fun z => by subst z; exact pi (List.mem_of_getElem? e1)
    exact ⟨a, e1, h.g s.wf (G.add n) (upd_ne ne)⟩
theorem StoR.grow {P : Par} {W : Wd} {M : Sto} {H : Hp} {p : Addr} {o : HO} (s : StoR P W M H) (n : H p = none) : StoR P W M (upd H p o) := by
  have pi : p ∉ W.ι := fun z => s.wf.is p z n
  refine ⟨⟨s.wf.fi, fun a h => ?_, s.wf.nd, fun a h => ?_⟩, s.len, fun k u e => ?_⟩
  · exact (G.grow (W := W) (o := o) n).al a (s.wf.fs a h)
  · exact (G.grow (W := W) (o := o) n).al a (s.wf.is a h)
  · obtain ⟨a, e1, h⟩ := s.at_ k u e
    have ne : a ≠ p := fun z => by subst z; exact pi (List.mem_of_getElem? e1)
    exact ⟨a, e1, h.g s.wf (G.grow n) (upd_ne ne)⟩
def RepF (P : Par) (W : Wd) (H0 H : Hp) (d : D) (v : V) : Prop := match d with
  | .lst ds => ∃ p, v = .ref p ∧ H0 p = none ∧ ¬ W.F p ∧ p ∉ W.ι ∧ BoxAt P W H p (.lst ds)
  | .dct t kvs => ∃ p, v = .ref p ∧ H0 p = none ∧ ¬ W.F p ∧ p ∉ W.ι ∧ BoxAt P W H p (.dct t kvs)
  | d => Rep P W H d v
theorem Gw.add {W : Wd} {H : Hp} {p : Addr} : Gw W H (W.add p) H := ⟨⟨[], by simp [Wd.add]⟩, fun _ h => .inl h, fun _ _ => .refl, fun _ _ h => h⟩
theorem Rep.mono_add {P : Par} {W : Wd} {H : Hp} {p : Addr} (d : D) (v : V) (h : Rep P W H d v) : Rep P (W.add p) H d v := h.gw .add
theorem Reps.mono_add {P : Par} {W : Wd} {H : Hp} {p : Addr} (ds : List D) (vs : List V) (h : Reps P W H ds vs) : Reps P (W.add p) H ds vs := h.gw .add
theorem G.freeze {W0 W : Wd} {H0 H : Hp} {p : Addr} (g : G W0 H0 W H) (n : H0 p = none) : G W0 H0 (W.add p) H := by
  refine ⟨g.io, fun a h => .inl (g.fm a h), fun a h => ?_, g.kp, g.kf, g.al, g.tp⟩
  rcases h with h | h
  · exact g.fn a h
  · subst h; exact .inr n
theorem StoR.freeze {P : Par} {W : Wd} {M : Sto} {H : Hp} {p : Addr} (s : StoR P W M H) (ni : p ∉ W.ι) (hp : H p ≠ none) : StoR P (W.add p) M H ∧ (∀ {d : D} {v : V}, Rep P W H d v → Rep P (W.add p) H d v) ∧ ∀ {ds : List D} {vs : List V}, Reps P W H ds vs → Reps P (W.add p) H ds vs := by
  -- the same heap under more frozen addresses: representations only need the older ones
  have mono : (∀ d v, Rep P W H d v → Rep P (W.add p) H d v) ∧ (∀ ds vs, Reps P W H ds vs → Reps P (W.add p) H ds vs) := by
    refine ⟨fun d => ?_, fun ds => ?_⟩
    · exact Rep.mono_add d
    · exact Reps.mono_add ds
  refine ⟨⟨⟨fun a h => ?_, fun a h => ?_, s.wf.nd, s.wf.is⟩, s.len, fun k o e => ?_⟩, fun {d v} h => mono.1 d v h, fun {ds vs} h => mono.2 ds vs h⟩
  · rcases h with h | h
    · exact s.wf.fi a h
    · subst h; exact ni
  · rcases h with h | h
    · exact s.wf.fs a h
    · subst h; exact hp
  · obtain ⟨a, e1, h⟩ := s.at_ k o e
    exact ⟨a, e1, h.gw .add rfl⟩
theorem freeze {P : Par} {W0 W : Wd} {M : Sto} {H0 H : Hp} {d : D} {v : V} (g : G W0 H0 W H) (s : StoR P W M H) (h : RepF P W H0 H d v) : ∃ W', G W0 H0 W' H ∧ StoR P W' M H ∧ Rep P W' H d v := by
  cases d with
  | lst ds =>
    obtain ⟨p, e, n, nF, ni, hb⟩ := h
    obtain ⟨s1, _, m⟩ := s.freeze ni hb.some
    obtain ⟨vs, h1, h2, h3⟩ := hb
    exact ⟨W.add p, g.freeze n, s1, p, vs, e, .inr rfl, h1, h2, m h3⟩
  | dct t kvs =>
    obtain ⟨p, e, n, nF, ni, hb⟩ := h
    obtain ⟨s1, _, m⟩ := s.freeze ni hb.some
    obtain ⟨o, vs, h1, h2, h3, h4⟩ := hb
    exact ⟨W.add p, g.freeze n, s1, p, o, vs, e, .inr rfl, .inl h1, h2, h3, h4.gw .add⟩
  | _ => exact ⟨W, g, s, h⟩
theorem upd_gw {W : Wd} {H : Hp} {p : Addr} {o : HO} (n : ¬ W.F p) (t : ∀ vs, H p ≠ some (.tup vs)) : Gw W H W (upd H p o) :=
  ⟨⟨[], by simp⟩, fun _ h => h, fun a f => .inl (upd_ne fun z => n (z ▸ f)), fun a vs e => (upd_ne fun z => t vs (by subst z; exact e)).trans e⟩
theorem nt_lst {H : Hp} {p : Addr} {vs : List V} (h : H p = some (.lst vs)) (us : List V) : H p ≠ some (.tup us) := fun z => by rw [h] at z; cases z
theorem nt_do {H : Hp} {p : Addr} {o : HO} (h : H p = some o) (k : isDO o = true) (us : List V) : H p ≠ some (.tup us) := fun z => by rw [h] at z; cases z; cases k
theorem nt_none {H : Hp} {p : Addr} (h : H p = none) (us : List V) : H p ≠ some (.tup us) := fun z => by rw [h] at z; cases z
theorem StoR.upd {P : Par} {W : Wd} {M : Sto} {H : Hp} {p : Addr} {o : HO} (s : StoR P W M H) (n : ¬ W.F p) (ni : p ∉ W.ι) (t : ∀ vs, H p ≠ some (.tup vs)) : StoR P W M (L2.upd H p o) := by
  refine ⟨⟨s.wf.fi, fun a h => (upd_gw (o := o) n t).kp a h |>.none (s.wf.fs a h), s.wf.nd, fun a h => ?_⟩, s.len, fun k u e => ?_⟩
  · rw [upd_ne (fun z => by subst z; exact ni h)]; exact s.wf.is a h
  · obtain ⟨a, e1, h⟩ := s.at_ k u e
    exact ⟨a, e1, h.gw (upd_gw n t) (upd_ne (fun z => by subst z; exact ni (List.mem_of_getElem? e1)))⟩
theorem G.upd {W W' : Wd} {H H' : Hp} {p : Addr} {o : HO} (g : G W H W' H') (n : H p = none) : G W H W' (L2.upd H' p o) := by
  have ne : ∀ a, H a ≠ none → L2.upd H' p o a = H' a := fun a h => upd_ne fun z => h (by subst z; exact n)
  refine ⟨g.io, g.fm, g.fn, fun a u e ni nf => (ne a (some_ne e)).trans (g.kp a u e ni nf), fun a f h ni => ?_, fun a h => ?_, fun a vs e => (ne a (some_ne e)).trans (g.tp a vs e)⟩
  · rw [ne a h]; exact g.kf a f h ni
  · rw [ne a h]; exact g.al a h
theorem G.ni {W W' : Wd} {H H' : Hp} {p : Addr} (g : G W H W' H') (h : H p ≠ none) (n : p ∉ W.ι) : p ∉ W'.ι := fun z => by
  obtain ⟨m, e, k⟩ := g.io
  rw [e] at z
  rcases List.mem_append.mp z with z | z
  · exact n z
  · exact h (k p z)
theorem G.nF {W W' : Wd} {H H' : Hp} {p : Addr} (g : G W H W' H') (h : H p ≠ none) (n : ¬ W.F p) : ¬ W'.F p := fun z => by
  rcases g.fn p z with q | q
  · exact n q
  · exact h q
theorem lock_ok {P : Par} {W : Wd} {M : Sto} {H : Hp} {p : Addr} {o : HO} {ob : Obj} (s : StoR P W M H) (f : W.F p) (h : H p = some o) (k : isDO o = true) : G W H W (L2.upd H p (.frz ob o)) ∧ StoR P W M (L2.upd H p (.frz ob o)) := by
  have pi := s.wf.fi p f
  have g : G W H W (L2.upd H p (.frz ob o)) := by
    refine ⟨⟨[], by simp, fun _ h => nomatch h⟩, fun _ h => h, fun a h => .inl h, fun a u e _ nf => ?_, fun a fa ha _ => ?_, fun a ha => ?_, fun a vs e => ?_⟩
    · rw [upd_ne (fun z => by subst z; exact nf f)]; exact e
    · by_cases z : a = p
      · subst z; exact .inr ⟨ob, o, h, k, upd_same ..⟩
      · rw [upd_ne z]; exact .refl
    · by_cases z : a = p
      · subst z; rw [upd_same]; exact fun z => nomatch z
      · rw [upd_ne z]; exact ha
    · rw [upd_ne (fun z => by subst z; exact nt_do h k vs e)]; exact e
  refine ⟨g, ⟨s.wf.fi, fun a fa => g.al a (s.wf.fs a fa), s.wf.nd, fun a ha => g.al a (s.wf.is a ha)⟩, s.len, fun j u e => ?_⟩
  obtain ⟨a, e1, h1⟩ := s.at_ j u e
  exact ⟨a, e1, h1.gw (g.w s.wf) (upd_ne (fun z => by subst z; exact pi (List.mem_of_getElem? e1)))⟩
theorem nodup_inj {α : Type} : ∀ {l : List α} (_ : l.Nodup) {i j : Nat} (hi : i < l.length) (hj : j < l.length), l[i] = l[j] → i = j
  | a :: l, h, 0, 0, _, _, _ => rfl
  | a :: l, h, 0, j + 1, _, hj, e => by
    simp only [List.getElem_cons_zero, List.getElem_cons_succ] at e
    exact absurd (e ▸ List.getElem_mem _) (List.nodup_cons.mp h).1
  | a :: l, h, i + 1, 0, hi, _, e => by
    simp only [List.getElem_cons_zero, List.getElem_cons_succ] at e
    exact absurd (e ▸ List.getElem_mem _) (List.nodup_cons.mp h).1
  | a :: l, h, i + 1, j + 1, hi, hj, e => by
    simp only [List.getElem_cons_succ] at e
    rw [nodup_inj (List.nodup_cons.mp h).2 (by simpa using hi) (by simpa using hj) e]
theorem sto_ok {P : Par} {W : Wd} {M : Sto} {H : Hp} {k : Nat} {d d' : D} {p : Addr} {o : HO} (s : StoR P W M H) (e : M[k]? = some (.val d)) (ep : W.ι[k]? = some p) (hb : BoxAt P W (L2.upd H p o) p d') : StoR P W (M.set k (.val d')) (L2.upd H p o) ∧ G W H W (L2.upd H p o) := by
  have pi : p ∈ W.ι := List.mem_of_getElem? ep
  have nF : ¬ W.F p := fun z => s.wf.fi p z pi
  obtain ⟨p', e', hb0⟩ := s.at_ k _ e
  rw [ep] at e'
  cases e'
  have nt : ∀ vs, H p ≠ some (.tup vs) := BoxAt.nt hb0
  have gw : Gw W H W (L2.upd H p o) := upd_gw nF nt
  have al : ∀ a, H a ≠ none → L2.upd H p o a ≠ none := fun a h => by
    by_cases z : a = p
    · subst z; rw [upd_same]; exact fun z => nomatch z
    · rw [upd_ne z]; exact h
  refine ⟨⟨⟨s.wf.fi, fun a h => al a (s.wf.fs a h), s.wf.nd, fun a h => al a (s.wf.is a h)⟩, by rw [List.length_set]; exact s.len, fun j u ej => ?_⟩, ⟨⟨[], by simp, fun _ h => nomatch h⟩, fun _ h => h, fun a h => .inl h, fun a u ea na _ => ?_, fun a fa _ na => gw.kp a fa, al, gw.tp⟩⟩
  · by_cases z : k = j
    · subst z
      have hk := (List.getElem?_eq_some_iff.mp e).1
      rw [List.getElem?_set_self hk] at ej
      cases ej
      exact ⟨p, ep, hb⟩
    · rw [List.getElem?_set_ne z] at ej
      obtain ⟨a, e1, h⟩ := s.at_ j u ej
      refine ⟨a, e1, h.gw gw (upd_ne fun q => ?_)⟩
      subst q
      obtain ⟨hk, q1⟩ := List.getElem?_eq_some_iff.mp ep
      obtain ⟨hj, q2⟩ := List.getElem?_eq_some_iff.mp e1
      exact z (nodup_inj s.wf.nd hk hj (q1.trans q2.symm))
  · rw [upd_ne (fun z => na (by rw [z]; exact pi))]
    exact ea
end Ev
set_option Elab.async false
set_option linter.all false
set_option autoImplicit false
set_option maxRecDepth 100000
set_option maxHeartbeats 4000000
namespace Ev
open PySem PySem.Spec PyProof.Rows L2
def PostF (P : Par) (W : Wd) (M : Sto) (H : Hp) (d : D) (Q : VK) : Prop := ∀ W' v H', G W H W' H' → StoR P W' M H' → RepF P W' H H' d v → Q v H'
def PostE (P : Par) (W : Wd) (M : Sto) (H : Hp) (d : D) (Q : VK) : Prop := ∀ W' v H', G W H W' H' → StoR P W' M H' → Rep P W' H' d v → Q v H'
section
variable {P : Par} {W : Wd} {M : Sto} {H : Hp} {Q : VK}
theorem PostF.e {d : D} (h : PostF P W M H d Q) (hl : isBox d = false) : PostE P W M H d Q := fun W' v H' g s r => h W' v H' g s (by
  cases d with
  | lst ds => cases hl
  | dct t kvs => cases hl
  | _ => exact r)
theorem PostE.same {d : D} {v : V} (h : PostE P W M H d Q) (s : StoR P W M H) (r : Rep P W H d v) : Q v H := h W v H .refl s r
theorem PostF.int {i : Int} (h : PostF P W M H (.int i) Q) (s : StoR P W M H) : Q (.int i) H := h W _ H .refl s rfl
theorem PostF.bl {b : Bool} (h : PostF P W M H (.bl b) Q) (s : StoR P W M H) : Q (.bl b) H := h W _ H .refl s rfl
theorem PostF.str {x : List Nat} (h : PostF P W M H (.str x) Q) (s : StoR P W M H) (hl : x.length ≤ SZ) (hc : ∀ c ∈ x, c < 1114112) : Q (.str (S' x)) H := h W _ H .refl s ⟨rfl, hl, hc⟩
theorem PostF.lst {ds : List D} {vs : List V} {p : Addr} (h : PostF P W M H (.lst ds) Q) (s : StoR P W M H) (n : H p = none) (hl : ds.length ≤ SZ) (r : Reps P W H ds vs) : Q (.ref p) (upd H p (.lst vs)) :=
  h W _ _ (G.grow n) (s.grow n) ⟨p, rfl, n, fun z => s.wf.fs p z n, fun z => s.wf.is p z n, vs, upd_same, hl, r.g (G.grow n) s.wf⟩
theorem PostE.tup {ds : List D} {vs : List V} {p : Addr} (h : PostE P W M H (.tup ds) Q) (s : StoR P W M H) (n : H p = none) (hl : ds.length ≤ SZ) (r : Reps P W H ds vs) : Q (.ref p) (upd H p (.tup vs)) :=
  h (W.add p) _ _ (G.add n) (s.add n) ⟨p, vs, rfl, .inl upd_same, hl, r.g (G.add n) s.wf⟩
theorem PostF.tup {ds : List D} {vs : List V} {p : Addr} (h : PostF P W M H (.tup ds) Q) (s : StoR P W M H) (n : H p = none) (hl : ds.length ≤ SZ) (r : Reps P W H ds vs) : Q (.ref p) (upd H p (.tup vs)) :=
  (h.e rfl).tup s n hl r
theorem PostE.bl {b : Bool} (h : PostE P W M H (.bl b) Q) (s : StoR P W M H) : Q (.bl b) H := h.same s rfl
end
theorem S'_toList (x : List Nat) : (S' x).cps.toList = x := rfl
theorem S'_len (x : List Nat) : (S' x).length = x.length := by simp [S', Str.length]
theorem S'_app (x y : List Nat) : S' x ++ S' y = S' (x ++ y) := by
  show (⟨x.toArray ++ y.toArray⟩ : Str) = ⟨(x ++ y).toArray⟩
  simp
theorem S'_inj {x y : List Nat} (h : S' x = S' y) : x = y := by
  have := congrArg (fun z : Str => z.cps.toList) h
  exact this
theorem SZ_line : SZ = sizeLine := by rw [sizeLine_eq]; rfl
mutual
def toP : D → PyData
  | .non => .none
  | .bl b => .bool b
  | .int i => .int i
  | .str x => .str (S' x)
  | .tup xs => .tuple (toPs xs)
  | .lst xs => .list (toPs xs)
  | _ => .none
def toPs : List D → List PyData
  | [] => []
  | x :: xs => toP x :: toPs xs
end
theorem toPs_map : ∀ xs : List D, toPs xs = xs.map toP
  | [] => rfl
  | x :: xs => by rw [toPs, List.map_cons, toPs_map xs]
mutual
theorem depth_toP : ∀ d : D, plain d = true → (toP d).depth = depth d
  | .non, _ => rfl
  | .bl _, _ => rfl
  | .int _, _ => rfl
  | .str _, _ => rfl
  | .tup xs, h => by rw [toP, PyData.depth, depth, depth_toPs xs (by simpa [plain] using h)]
  | .lst xs, h => by rw [toP, PyData.depth, depth, depth_toPs xs (by simpa [plain] using h)]
  | .dct _ _, h => by simp [plain] at h
  | .itr _, h => by simp [plain] at h
  | .obj _, h => by simp [plain] at h
  | .fn _, h => by simp [plain] at h
  | .cl _, h => by simp [plain] at h
  | .ty _, h => by simp [plain] at h
  | .scr _, h => by simp [plain] at h
  | .kd _, h => by simp [plain] at h
theorem depth_toPs : ∀ xs : List D, plains xs = true → PyData.depthAll (toPs xs) = depths xs
  | [], _ => rfl
  | x :: xs, h => by
    have h' : plain x = true ∧ plains xs = true := by simpa [plains] using h
    rw [toPs, PyData.depthAll, depths, depth_toP x h'.1, depth_toPs xs h'.2]
end
theorem beq_S' (x y : List Nat) : (S' x == S' y) = (x == y) := by
  by_cases e : x = y
  · subst e; simp
  · have h : ¬ S' x = S' y := fun z => e (S'_inj z)
    rw [beq_eq_false_iff_ne.mpr h, beq_eq_false_iff_ne.mpr e]
mutual
theorem deq_toP : ∀ a b : D, plain a = true → plain b = true → deq a b = PyData.eqv (toP a) (toP b)
  | .non, b, _, hb => by cases b <;> first | rfl | simp [plain] at hb
  | .bl _, b, _, hb => by cases b <;> first | rfl | simp [plain] at hb
  | .int _, b, _, hb => by cases b <;> first | rfl | simp [plain] at hb
  | .str x, b, _, hb => by
    cases b with
    | str y => rw [deq, toP, toP, PyData.eqv, beq_S']
    | _ => first | rfl | simp [plain] at hb
  | .tup xs, b, ha, hb => by
    cases b with
    | tup ys => rw [deq, toP, toP, PyData.eqv, deqs_toPs xs ys (by simpa [plain] using ha) (by simpa [plain] using hb)]
    | _ => first | rfl | simp [plain] at hb
  | .lst xs, b, ha, hb => by
    cases b with
    | lst ys => rw [deq, toP, toP, PyData.eqv, deqs_toPs xs ys (by simpa [plain] using ha) (by simpa [plain] using hb)]
    | _ => first | rfl | simp [plain] at hb
  | .dct _ _, _, h, _ => by simp [plain] at h
  | .itr _, _, h, _ => by simp [plain] at h
  | .obj _, _, h, _ => by simp [plain] at h
  | .fn _, _, h, _ => by simp [plain] at h
  | .cl _, _, h, _ => by simp [plain] at h
  | .ty _, _, h, _ => by simp [plain] at h
  | .scr _, _, h, _ => by simp [plain] at h
  | .kd _, _, h, _ => by simp [plain] at h
theorem deqs_toPs : ∀ xs ys : List D, plains xs = true → plains ys = true → deqs xs ys = PyData.eqvAll (toPs xs) (toPs ys)
  | [], [], _, _ => rfl
  | [], _ :: _, _, _ => rfl
  | _ :: _, [], _, _ => rfl
  | x :: xs, y :: ys, h, k => by
    have h' : plain x = true ∧ plains xs = true := by simpa [plains] using h
    have k' : plain y = true ∧ plains ys = true := by simpa [plains] using k
    rw [deqs, toPs, toPs, PyData.eqvAll, deq_toP x y h'.1 k'.1, deqs_toPs xs ys h'.2 k'.2]
end
mutual
theorem alike_toP : ∀ a b : D, alike a b = true → W.alike (toP a) (toP b) = true
  | .non, b, h => by cases b <;> first | (simp [alike] at h; done) | simp [toP, W.alike]
  | .bl _, b, h => by cases b <;> first | (simp [alike] at h; done) | simp [toP, W.alike]
  | .int _, b, h => by cases b <;> first | (simp [alike] at h; done) | simp [toP, W.alike]
  | .str _, b, h => by cases b <;> first | (simp [alike] at h; done) | simp [toP, W.alike]
  | .tup xs, b, h => by
    cases b with
    | tup ys => rw [toP, toP, W.alike]; exact alikes_toPs xs ys (by simpa [alike] using h)
    | _ => simp [alike] at h
  | .lst xs, b, h => by
    cases b with
    | lst ys => rw [toP, toP, W.alike]; exact alikes_toPs xs ys (by simpa [alike] using h)
    | _ => simp [alike] at h
  | .dct _ _, b, h => by simp [alike] at h
  | .itr _, b, h => by simp [alike] at h
  | .obj _, b, h => by simp [alike] at h
  | .fn _, b, h => by simp [alike] at h
  | .cl _, b, h => by simp [alike] at h
  | .ty _, b, h => by simp [alike] at h
  | .scr _, b, h => by simp [alike] at h
  | .kd _, b, h => by simp [alike] at h
theorem alikes_toPs : ∀ xs ys : List D, alikes xs ys = true → W.alikeAll (toPs xs) (toPs ys) = true
  | [], _, _ => by simp [toPs, W.alikeAll]
  | _ :: _, [], _ => by simp [toPs, W.alikeAll]
  | x :: xs, y :: ys, h => by
    have h' : alike x y = true ∧ alikes xs ys = true := by simpa [alikes] using h
    rw [toPs, toPs, W.alikeAll, alike_toP x y h'.1, alikes_toPs xs ys h'.2]
    rfl
end
theorem slt_lt : ∀ x y : List Nat, slt x y = decide (x < y)
  | [], [] => by simp [slt]
  | [], _ :: _ => by simp [slt]
  | _ :: _, [] => by simp [slt]
  | a :: x, b :: y => by
    rw [slt]
    by_cases e : a = b
    · subst e
      rw [if_pos (by simp), slt_lt x y]
      simp [List.cons_lt_cons_iff]
    · rw [if_neg (by simpa using e)]
      simp [List.cons_lt_cons_iff, e]
mutual
theorem dlt_toP : ∀ a b : D, plain a = true → plain b = true → alike a b = true → dlt a b = W.dataLt (toP a) (toP b)
  | .non, b, _, _, h => by
    cases b <;> first | (simp [alike] at h; done) | skip
    show false = W.dataLt .none .none
    decide
  | .bl x, b, _, _, h => by
    cases b with
    | bl y => rw [dlt, toP, toP, W.dataLt_bool]; cases x <;> cases y <;> decide
    | _ => simp [alike] at h
  | .int _, b, _, _, h => by
    cases b with
    | int y => rw [dlt, toP, toP, W.dataLt_int]
    | _ => simp [alike] at h
  | .str x, b, _, _, h => by
    cases b with
    | str y => rw [dlt, toP, toP, W.dataLt_str, slt_lt]; rfl
    | _ => simp [alike] at h
  | .tup xs, b, ha, hb, h => by
    cases b with
    | tup ys =>
      rw [dlt, toP, toP, W.dataLt_tuple]
      exact dlts_toPs xs ys (by simpa [plain] using ha) (by simpa [plain] using hb) (by simpa [alike] using h)
    | _ => simp [alike] at h
  | .lst xs, b, ha, hb, h => by
    cases b with
    | lst ys =>
      rw [dlt, toP, toP, W.dataLt_list]
      exact dlts_toPs xs ys (by simpa [plain] using ha) (by simpa [plain] using hb) (by simpa [alike] using h)
    | _ => simp [alike] at h
  | .dct _ _, _, h, _, _ => by simp [plain] at h
  | .itr _, _, h, _, _ => by simp [plain] at h
  | .obj _, _, h, _, _ => by simp [plain] at h
  | .fn _, _, h, _, _ => by simp [plain] at h
  | .cl _, _, h, _, _ => by simp [plain] at h
  | .ty _, _, h, _, _ => by simp [plain] at h
  | .scr _, _, h, _, _ => by simp [plain] at h
  | .kd _, _, h, _, _ => by simp [plain] at h
theorem dlts_toPs : ∀ xs ys : List D, plains xs = true → plains ys = true → alikes xs ys = true → dlts xs ys = W.rowLt (toPs xs) (toPs ys)
  | [], [], _, _, _ => by decide
  | [], y :: ys, _, _, _ => by
    show true = PyProof.Rows.lexLt itemOrd (.inl 0 :: []) (.inl 1 :: (W.keyToks (toP y) ++ W.keyToksAll (toPs ys)))
    rw [W.lex_atom (by decide)]
    decide
  | x :: xs, [], _, _, _ => by
    show false = PyProof.Rows.lexLt itemOrd (.inl 1 :: (W.keyToks (toP x) ++ W.keyToksAll (toPs xs))) (.inl 0 :: [])
    rw [W.lex_atom (by decide)]
    decide
  | x :: xs, y :: ys, h, k, ha => by
    have h' : plain x = true ∧ plains xs = true := by simpa [plains] using h
    have k' : plain y = true ∧ plains ys = true := by simpa [plains] using k
    have a' : alike x y = true ∧ alikes xs ys = true := by simpa [alikes] using ha
    rw [dlts, toPs, toPs]
    show _ = PyProof.Rows.lexLt itemOrd (W.keyToksAll (toP x :: toPs xs)) (W.keyToksAll (toP y :: toPs ys))
    rw [W.dataLt_cons (alike_toP x y a'.1), deq_toP x y h'.1 k'.1, dlt_toP x y h'.1 k'.1 a'.1, dlts_toPs xs ys h'.2 k'.2 a'.2]
    rfl
end
mutual
theorem Rep.dp {P : Par} {W : Wd} {H : Hp} : ∀ {d : D} {v : V}, plain d = true → Rep P W H d v → Dp P.K H v (toP d) ∧ (toP d).canLay0 = true
  | .non, _, _, h => by cases h; exact ⟨.non, rfl⟩
  | .bl _, _, _, h => by cases h; exact ⟨.bl _, rfl⟩
  | .int _, _, _, h => by cases h; exact ⟨.int _, rfl⟩
  | .str x, _, _, h => by
    obtain ⟨rfl, _, hc⟩ := h
    refine ⟨.str _, ?_⟩
    rw [toP, PyData.canLay0]
    show (S' x).cps.all (fun c => decide (c < 0x110000)) = true
    rw [← Array.all_toList, List.all_eq_true]
    exact fun c hm => decide_eq_true (hc c hm)
  | .tup ds, _, p, h => by
    obtain ⟨a, vs, rfl, h1, _, h3⟩ := h
    obtain ⟨r1, r2⟩ := Reps.dp (by simpa [plain] using p) h3
    exact ⟨.tup h1.sq r1, by rw [toP, PyData.canLay0]; exact r2⟩
  | .lst ds, _, p, h => by
    obtain ⟨a, vs, rfl, _, h1, _, h3⟩ := h
    obtain ⟨r1, r2⟩ := Reps.dp (by simpa [plain] using p) h3
    exact ⟨.lst (SqL.of h1) r1, by rw [toP, PyData.canLay0]; exact r2⟩
  | .dct _ _, _, h, _ => by simp [plain] at h
  | .itr _, _, h, _ => by simp [plain] at h
  | .obj _, _, h, _ => by simp [plain] at h
  | .fn _, _, h, _ => by simp [plain] at h
  | .cl _, _, h, _ => by simp [plain] at h
  | .ty _, _, h, _ => by simp [plain] at h
  | .scr _, _, h, _ => by simp [plain] at h
  | .kd _, _, h, _ => by simp [plain] at h
theorem Reps.dp {P : Par} {W : Wd} {H : Hp} : ∀ {ds : List D} {vs : List V}, plains ds = true → Reps P W H ds vs → DpAll P.K H vs (toPs ds) ∧ PyData.canLayAll0 (toPs ds) = true
  | [], _, _, h => by
    have e : _ = [] := h
    rw [e]; exact ⟨.nil, rfl⟩
  | d :: ds, _, p, h => by
    obtain ⟨v, r, rfl, h1, h2⟩ := h
    have p' : plain d = true ∧ plains ds = true := by simpa [plains] using p
    obtain ⟨a1, a2⟩ := Rep.dp p'.1 h1
    obtain ⟨b1, b2⟩ := Reps.dp p'.2 h2
    exact ⟨.cons a1 b1, by rw [toPs, PyData.canLayAll0, a2, b2]; rfl⟩
end
theorem RepR.dp {P : Par} {W : Wd} {H : Hp} {d : D} {v : V} (p : plain d = true) (h : RepR P W H d v) : Dp P.K H v (toP d) ∧ (toP d).canLay0 = true := by
  cases d with
  | lst ds =>
    obtain ⟨a, vs, rfl, h1, _, h3⟩ := h
    obtain ⟨r1, r2⟩ := Reps.dp (by simpa [plain] using p) h3
    exact ⟨.lst (SqL.of h1) r1, by rw [toP, PyData.canLay0]; exact r2⟩
  | tup ds =>
    exact Rep.dp (P := P) (W := W) (d := .tup ds) p h
  | non => exact Rep.dp (P := P) (W := W) (d := .non) p h
  | bl b => exact Rep.dp (P := P) (W := W) (d := .bl b) p h
  | int i => exact Rep.dp (P := P) (W := W) (d := .int i) p h
  | str x => exact Rep.dp (P := P) (W := W) (d := .str x) p h
  | _ => simp [plain] at p
section
variable {P : Par} {X : Cx}
def boOp : BO → Operator
  | .add => .Add
  | .sub => .Sub
  | .mul => .Mult
  | .fdiv => .FloorDiv
  | .mod => .Mod
  | .pow => .Pow
  | .shl => .LShift
  | .shr => .RShift
def rBin (P : Par) (o : BO) : R2 := fun x y H Q => ∃ W M a b d, StoR P W M H ∧ RepR P W H a x ∧ RepR P W H b y ∧ binD o a b = some d ∧ PostF P W M H d Q
theorem Reps.rep {P : Par} {W : Wd} {H : Hp} {ds : List D} {vs : List V} (h : Reps P W H ds vs) : ∀ n : Nat, Reps P W H (List.replicate n ds).flatten (List.replicate n vs).flatten
  | 0 => by simp only [List.replicate_zero, List.flatten_nil]; exact Reps.nil
  | n + 1 => by
    rw [List.replicate_succ, List.replicate_succ, List.flatten_cons, List.flatten_cons]
    exact h.append (Reps.rep h n)
theorem mulOk_ok {i j : Int} (h : mulOk i j = true) : CMul i j ∨ CMulW i j := by
  unfold mulOk at h
  simp only [Bool.or_eq_true, decide_eq_true_eq] at h
  rcases h with (h | h) | h
  · exact .inl (.inl (by omega))
  · exact .inl (.inr (by omega))
  · exact .inr h
theorem op_bin (o : BO) (hK : X.K = P.K) : OpR X (binaryOp (boOp o)) (rBin P o) := by
  intro pins s σ H x y v u Q I rx ry h
  obtain ⟨W, M, a, b, d, st, ra, rb, e, q⟩ := h
  unfold binD at e
  split at e
  · cases e; cases ra; cases rb
    exact op_add pins s σ H _ _ v u Q I rx ry ⟨_, _, rfl, rfl, q.int st⟩
  · rename_i x' y'
    split at e
    · rename_i hz
      cases e
      obtain ⟨rfl, l1, c1⟩ := ra
      obtain ⟨rfl, l2, c2⟩ := rb
      refine op_add_str pins s σ H _ _ v u Q I rx ry ⟨_, _, rfl, rfl, by rw [S'_len, S'_len, ← SZ_line]; exact hz, ?_⟩
      rw [S'_app]
      exact q.str st (by rw [List.length_append]; exact hz) fun c hc => (List.mem_append.mp hc).elim (c1 c) (c2 c)
    · cases e
  · rename_i x' y'
    split at e
    · rename_i hz
      cases e
      have q' := q.e rfl
      have ra0 := ra
      have rb0 := rb
      obtain ⟨a, vs, rfl, h1, h2, h3⟩ := ra
      obtain ⟨b, us, rfl, k1, k2, k3⟩ := rb
      have h1' := h1.sq
      have k1' := k1.sq
      rw [← hK] at h1' k1'
      refine op_catA pins s σ H _ _ v u Q I rx ry ⟨a, b, vs, us, rfl, rfl, h1', k1', by rw [h3.length, k3.length, ← SZ_line]; exact hz, fun z => ?_, fun z z' => ?_, fun z z' p np => ?_⟩
      · subst z
        have e1 : x' = [] := List.eq_nil_of_length_eq_zero h3.length.symm
        subst e1
        rw [List.nil_append] at q'
        exact q'.same st rb0
      · subst z'
        have e1 : y' = [] := List.eq_nil_of_length_eq_zero k3.length.symm
        subst e1
        rw [List.append_nil] at q'
        exact q'.same st ra0
      · exact (q.e rfl).tup st np (by rw [List.length_append]; exact hz) (h3.append k3)
    · cases e
  · rename_i x' y'
    split at e
    · rename_i hz
      cases e
      obtain ⟨a, vs, rfl, h1, h2, h3⟩ := ra
      obtain ⟨b, us, rfl, k1, k2, k3⟩ := rb
      refine op_cat pins s σ H _ _ v u Q I rx ry ⟨a, b, vs, us, rfl, rfl, h1, k1, by rw [h3.length, k3.length, ← SZ_line]; exact hz, fun p np => ?_⟩
      exact q.lst st np (by rw [List.length_append]; exact hz) (h3.append k3)
    · cases e
  · cases e; cases ra; cases rb
    exact op_sub pins s σ H _ _ v u Q I rx ry ⟨_, _, rfl, rfl, q.int st⟩
  · split at e
    · rename_i hz
      cases e; cases ra; cases rb
      rcases mulOk_ok hz with c | c
      · exact op_mul pins s σ H _ _ v u Q I rx ry ⟨_, _, rfl, rfl, c, q.int st⟩
      · exact op_mulW pins s σ H _ _ v u Q I rx ry ⟨_, _, rfl, rfl, c, q.int st⟩
    · cases e
  · rename_i x' j
    split at e
    · rename_i hz
      simp only [Bool.and_eq_true, decide_eq_true_eq] at hz
      cases e
      obtain ⟨a, vs, rfl, h1, h2, h3⟩ := ra
      cases rb
      refine op_rep pins s σ H _ _ v u Q I rx ry ⟨a, j, vs, rfl, rfl, h1, hz.1.2, hz.2, by rw [h3.length, ← SZ_line]; exact hz.1.1, fun p np => ?_⟩
      exact q.lst st np (by rw [PyProof.Rows.lm_len_rep_flat, Nat.mul_comm]; exact hz.1.1) (h3.rep j.toNat)
    · cases e
  · split at e
    · rename_i hz
      cases e; cases ra; cases rb
      unfold divOk at hz
      simp only [Bool.and_eq_true, decide_eq_true_eq] at hz
      exact op_fdivW pins s σ H _ _ v u Q I rx ry ⟨_, _, rfl, rfl, hz, q.int st⟩
    · cases e
  · split at e
    · rename_i hz
      cases e; cases ra; cases rb
      exact op_mod pins s σ H _ _ v u Q I rx ry ⟨_, _, rfl, rfl, of_decide_eq_true hz, q.int st⟩
    · cases e
  · split at e
    · rename_i hz
      cases e; cases ra; cases rb
      unfold powOk at hz
      simp only [Bool.and_eq_true, decide_eq_true_eq] at hz
      exact op_pow pins s σ H _ _ v u Q I rx ry ⟨_, _, rfl, rfl, ⟨hz.1.1, hz.1.2, hz.2⟩, q.int st⟩
    · cases e
  · split at e
    · rename_i hz
      cases e; cases ra; cases rb
      exact op_shr pins s σ H _ _ v u Q I rx ry ⟨_, _, rfl, rfl, of_decide_eq_true hz, q.int st⟩
    · cases e
  · cases e
end
end Ev
set_option Elab.async false
set_option linter.all false
set_option autoImplicit false
set_option maxRecDepth 100000
set_option maxHeartbeats 4000000
namespace Ev
open PySem PySem.Spec PyProof.Rows L2
theorem deq_kD (k j : Key) : deq (kD k) (kD j) = decide (k = j) := by
  cases k with
  | inl i =>
    cases j with
    | inl i' =>
      show (i == i') = _
      by_cases h : i = i'
      · subst h; simp
      · rw [beq_eq_false_iff_ne.mpr h]; simp [h]
    | inr x => simp [kD, deq]
  | inr x =>
    cases j with
    | inl i => simp [kD, deq]
    | inr y =>
      show (x.cps.toList == y.cps.toList) = _
      by_cases h : x = y
      · subst h; simp
      · have hn : x.cps.toList ≠ y.cps.toList := fun z => h (by cases x; cases y; simp at z; simp [z])
        rw [beq_eq_false_iff_ne.mpr hn]; simp [h]
theorem deq_kDs : ∀ k j : List Key, deqs (k.map kD) (j.map kD) = decide (k = j)
  | [], [] => rfl
  | [], _ :: _ => rfl
  | _ :: _, [] => rfl
  | k :: ks, j :: js => by
    show (deq (kD k) (kD j) && deqs (ks.map kD) (js.map kD)) = _
    rw [deq_kD, deq_kDs ks js]
    by_cases h : k = j
    · subst h
      by_cases h2 : ks = js
      · subst h2; simp
      · simp [h2]
    · simp [h]
def kT (ks : List Key) : D := .tup (ks.map kD)
theorem deq_kT (k j : List Key) : deq (kT k) (kT j) = decide (k = j) := deq_kDs k j
section
variable {P : Par} {W : Wd} {H : Hp} {κ : Type} [DecidableEq κ] (enc : κ → D) (hq : ∀ k j : κ, deq (enc k) (enc j) = decide (k = j))
include hq in
theorem key_find (k : κ) : ∀ {kvs : List (D × D)} {m : List (κ × V)} {vs : List V}, kvs.map (·.1) = m.map (fun p => enc p.1) → vs = m.map (·.2) → RepPs P W H kvs vs →
    (keyFind kvs (enc k) = none ∧ valV m k = none) ∨ ∃ d v, keyFind kvs (enc k) = some d ∧ valV m k = some v ∧ Rep P W H d v
  | [], [], _, _, _, _ => .inl ⟨rfl, rfl⟩
  | [], _ :: _, _, h, _, _ => by simp at h
  | _ :: _, [], _, h, _, _ => by simp at h
  | (a, d) :: kvs, (j, v) :: m, _, h, hv, r => by
    subst hv
    simp only [List.map_cons, List.cons.injEq] at h
    obtain ⟨rfl, h⟩ := h
    obtain ⟨v', r', e, h1, h2⟩ := r
    simp only [List.map_cons, List.cons.injEq] at e
    obtain ⟨rfl, rfl⟩ := e
    unfold keyFind
    rw [hq]
    by_cases z : j = k
    · subst z
      rw [if_pos (by simp), valV_pos rfl]
      exact .inr ⟨d, v, rfl, rfl, h1⟩
    · rw [if_neg (by simp [z]), valV_neg z]
      exact key_find k h rfl h2
include hq in
theorem any_kD (k : κ) : ∀ {kvs : List (D × D)} {m : List (κ × V)}, kvs.map (·.1) = m.map (fun p => enc p.1) → (kvs.any fun p => deq p.1 (enc k)) = m.any fun p => decide (p.1 = k)
  | [], [], _ => rfl
  | [], _ :: _, h => by simp at h
  | _ :: _, [], h => by simp at h
  | (a, d) :: kvs, (j, v) :: m, h => by
    simp only [List.map_cons, List.cons.injEq] at h
    obtain ⟨rfl, h⟩ := h
    rw [List.any_cons, List.any_cons, any_kD k h, hq]
theorem RepPs.snoc : ∀ {kvs : List (D × D)} {vs : List V} {k d : D} {v : V}, RepPs P W H kvs vs → Rep P W H d v → RepPs P W H (kvs ++ [(k, d)]) (vs ++ [v])
  | [], vs, k, d, v, h, r => by
    have e : vs = [] := h
    subst e
    exact ⟨v, [], rfl, r, rfl⟩
  | p :: kvs, _, k, d, v, h, r => by
    obtain ⟨v', r', rfl, h1, h2⟩ := h
    exact ⟨v', _, rfl, h1, RepPs.snoc h2 r⟩
include hq in
theorem map_kD (k : κ) {d : D} {v : V} (rv : Rep P W H d v) : ∀ {kvs : List (D × D)} {m : List (κ × V)}, kvs.map (·.1) = m.map (fun p => enc p.1) → RepPs P W H kvs (m.map (·.2)) →
    (kvs.map fun p => if deq p.1 (enc k) then (p.1, d) else p).map (·.1) = (m.map fun kv => if kv.1 = k then (kv.1, v) else kv).map (fun p => enc p.1) ∧ RepPs P W H (kvs.map fun p => if deq p.1 (enc k) then (p.1, d) else p) ((m.map fun kv => if kv.1 = k then (kv.1, v) else kv).map (·.2))
  | [], [], _, _ => ⟨rfl, rfl⟩
  | [], _ :: _, h, _ => by simp at h
  | _ :: _, [], h, _ => by simp at h
  | (a, d') :: kvs, (j, v') :: m, h, r => by
    simp only [List.map_cons, List.cons.injEq] at h
    obtain ⟨rfl, h⟩ := h
    obtain ⟨u, r', e, h1, h2⟩ := r
    simp only [List.map_cons, List.cons.injEq] at e
    obtain ⟨rfl, rfl⟩ := e
    obtain ⟨i1, i2⟩ := map_kD k rv h h2
    simp only [List.map_cons, hq]
    by_cases z : j = k
    · simp only [z, decide_true, if_true]
      exact ⟨by rw [← i1], v, _, rfl, rv, i2⟩
    · simp only [z, decide_false, Bool.false_eq_true, if_false]
      exact ⟨by rw [← i1], v', _, rfl, h1, i2⟩
include hq in
theorem key_put (k : κ) {d : D} {v : V} (rv : Rep P W H d v) {kvs : List (D × D)} {m : List (κ × V)} (h : kvs.map (·.1) = m.map (fun p => enc p.1)) (r : RepPs P W H kvs (m.map (·.2))) :
    (keyPut kvs (enc k) d).map (·.1) = (putK m k v).map (fun p => enc p.1) ∧ RepPs P W H (keyPut kvs (enc k) d) ((putK m k v).map (·.2)) := by
  unfold keyPut putK
  rw [any_kD enc hq k h]
  split
  · exact map_kD enc hq k rv h r
  · rw [List.map_append, List.map_append, List.map_append, h]
    exact ⟨rfl, r.snoc rv⟩
end
theorem kOk_f {k : D} (h : kOk false k) : kSc k := by
  cases k with
  | tup ds => exact absurd h.1 (by decide)
  | _ => exact h.2
theorem kOk_t {k : D} (h : kOk true k) : ∃ ds, k = .tup ds ∧ ds.length ≤ SZ ∧ wrOk ds = false ∧ ∀ d ∈ ds, kSc d := by
  cases k with
  | tup ds => exact ⟨ds, rfl, h.2⟩
  | _ => exact absurd h.1 (by decide)
theorem wr_sc {ds : List D} (h : wrOk ds = false) : ds.all isSc = true := by
  unfold wrOk at h
  rw [Bool.or_eq_false_iff, Bool.not_eq_false'] at h
  exact h.1
theorem sc_key {P : Par} {W : Wd} {H : Hp} {a : D} {x : V} (h : isSc a = true) (r : RepR P W H a x) : ∃ k : Key, a = kD k ∧ x = kV k ∧ kSc a := by
  cases a with
  | int i => exact ⟨.inl i, rfl, r, trivial⟩
  | str z => exact ⟨.inr (S' z), rfl, r.1, r.2⟩
  | _ => cases h
theorem scs_key {P : Par} {W : Wd} {H : Hp} : ∀ {as : List D} {vs : List V}, as.all isSc = true → Reps P W H as vs → ∃ ks : List Key, as = ks.map kD ∧ vs = ks.map kV ∧ ∀ d ∈ as, kSc d
  | [], _, _, r => ⟨[], rfl, r, fun _ h => by cases h⟩
  | a :: as, _, h, r => by
    rw [List.all_cons, Bool.and_eq_true] at h
    obtain ⟨v, r', rfl, h1, h2⟩ := r
    obtain ⟨k, rfl, rfl, w1⟩ := sc_key h.1 h1.r
    obtain ⟨ks, rfl, rfl, w2⟩ := scs_key h.2 h2
    refine ⟨k :: ks, rfl, rfl, fun d hd => ?_⟩
    rcases List.mem_cons.mp hd with rfl | hd
    · exact w1
    · exact w2 d hd
theorem tup_key {P : Par} {W : Wd} {H : Hp} {as : List D} {x : V} (h : wrOk as = false) (r : RepR P W H (.tup as) x) : ∃ (b : Addr) (ks : List Key), x = .ref b ∧ H b = some (.tup (ks.map kV)) ∧ D.tup as = kT ks ∧ kOk true (.tup as) := by
  obtain ⟨b, vs, rfl, t, hl, rs⟩ := r
  obtain ⟨ks, rfl, rfl, w⟩ := scs_key (wr_sc h) rs
  rcases t with t | ⟨t, _⟩
  · exact ⟨b, ks, rfl, t, rfl, rfl, hl, h, w⟩
  · rw [h] at t; cases t
theorem key_cases {t : Bool} {a : D} (h : keyOk t a = true) : (t = false ∧ isSc a = true) ∨ ∃ as, t = true ∧ a = .tup as ∧ wrOk as = false := by
  cases t with
  | false => exact .inl ⟨rfl, h⟩
  | true =>
    cases a with
    | tup as => exact .inr ⟨as, rfl, rfl, by simpa [keyOk] using h⟩
    | _ => cases h
theorem dctK {ks : List D} {vs : List V} {o : HO} (h : DctO false ks vs o) : ∃ m : List (Key × V), o = .dK m ∧ ks = m.map (fun p => kD p.1) ∧ vs = m.map (·.2) := h.2
theorem dctT {ks : List D} {vs : List V} {o : HO} (h : DctO true ks vs o) : ∃ m : List (List Key × V), o = .dT m ∧ ks = m.map (fun p => kT p.1) ∧ vs = m.map (·.2) := h.2
theorem dget {P : Par} {W : Wd} {H : Hp} {t : Bool} {a : D} {x y : V} {kvs : List (D × D)} (h : keyOk t a = true) (ra : RepR P W H a x) (rb : RepR P W H (.dct t kvs) y) :
    ∃ p o, y = .ref p ∧ DGet H p x o ∧ ((keyFind kvs a = none ∧ o = none) ∨ ∃ d v, keyFind kvs a = some d ∧ o = some v ∧ Rep P W H d v) := by
  rcases key_cases h with ⟨rfl, hs⟩ | ⟨as, rfl, rfl, hs⟩
  · obtain ⟨k, rfl, rfl, _⟩ := sc_key hs ra
    obtain ⟨p, o, vs, rfl, ho, dc, hl, rp⟩ := rb
    obtain ⟨m, rfl, hk, hv⟩ := dctK dc
    exact ⟨p, valV m k, rfl, .inl ⟨m, k, ho, rfl, rfl⟩, key_find kD deq_kD k hk hv rp⟩
  · obtain ⟨b, ks, rfl, hb, e, _⟩ := tup_key hs ra
    obtain ⟨p, o, vs, rfl, ho, dc, hl, rp⟩ := rb
    obtain ⟨m, rfl, hk, hv⟩ := dctT dc
    rw [e]
    exact ⟨p, valV m ks, rfl, .inr ⟨m, ks, b, ho, rfl, hb, rfl⟩, key_find kT deq_kT ks hk hv rp⟩
theorem keyPut_len (kvs : List (D × D)) (k v : D) : (keyPut kvs k v).length ≤ kvs.length + 1 := by
  unfold keyPut
  split
  · rw [List.length_map]; omega
  · rw [List.length_append, List.length_singleton]; omega
theorem keyPut_mem {kvs : List (D × D)} {k v : D} {j : D} (h : j ∈ (keyPut kvs k v).map (·.1)) : j ∈ kvs.map (·.1) ∨ j = k := by
  unfold keyPut at h
  split at h
  · rw [List.map_map] at h
    obtain ⟨p, hp, rfl⟩ := List.mem_map.mp h
    refine .inl (List.mem_map.mpr ⟨p, hp, ?_⟩)
    show p.1 = (if deq p.1 k then (p.1, v) else p).1
    split <;> rfl
  · rw [List.map_append] at h
    rcases List.mem_append.mp h with h | h
    · exact .inl h
    · exact .inr (by simpa using h)
def DctR (P : Par) (W : Wd) (H : Hp) (t : Bool) (kvs : List (D × D)) (o : HO) : Prop := ∃ vs, DctO t (kvs.map (·.1)) vs o ∧ kvs.length ≤ SZ ∧ RepPs P W H kvs vs
theorem dput {P : Par} {W : Wd} {H : Hp} {t : Bool} {a d : D} {x v : V} {kvs : List (D × D)} {p : Addr} {o : HO} (h : keyOk t a = true) (ra : RepR P W H a x) (rd : Rep P W H d v) (hl : kvs.length < SZ) (ho : H p = some o) (rb : DctR P W H t kvs o) :
    ∃ o', DPut H p x v (upd H p o') ∧ DctR P W H t (keyPut kvs a d) o' := by
  obtain ⟨vs, dc, _, rp⟩ := rb
  have ln := keyPut_len kvs a d
  have lz : kvs.length < sizeLine := by rw [← SZ_line]; exact hl
  rcases key_cases h with ⟨rfl, hs⟩ | ⟨as, rfl, rfl, hs⟩
  · obtain ⟨k, rfl, rfl, w⟩ := sc_key hs ra
    obtain ⟨m, rfl, hk, rfl⟩ := dctK dc
    have lm : m.length = kvs.length := by
      have := congrArg List.length hk
      simpa using this.symm
    obtain ⟨q1, q2⟩ := key_put kD deq_kD k rd hk rp
    refine ⟨.dK (putK m k v), DPut.k ho (by rw [lm]; exact lz), _, ⟨fun j hj => ?_, _, rfl, q1, rfl⟩, by omega, q2⟩
    rcases keyPut_mem hj with hj | rfl
    · exact dc.1 j hj
    · cases k with
      | inl i => exact ⟨rfl, trivial⟩
      | inr z => exact ⟨rfl, w⟩
  · obtain ⟨b, ks, rfl, hb, e, w⟩ := tup_key hs ra
    obtain ⟨m, rfl, hk, rfl⟩ := dctT dc
    have lm : m.length = kvs.length := by
      have := congrArg List.length hk
      simpa using this.symm
    rw [e] at w ⊢
    obtain ⟨q1, q2⟩ := key_put kT deq_kT ks rd hk rp
    refine ⟨.dT (putK m ks v), DPut.t ho hb (by rw [lm]; exact lz), _, ⟨fun j hj => ?_, _, rfl, q1, rfl⟩, ?_, q2⟩
    · rcases keyPut_mem hj with hj | rfl
      · exact dc.1 j hj
      · exact w
    · have ln2 := keyPut_len kvs (kT ks) d
      omega
section
variable {P : Par} {W : Wd} {H : Hp} {κ : Type} [DecidableEq κ] (enc : κ → D) (hq : ∀ k j : κ, deq (enc k) (enc j) = decide (k = j))
include hq in
theorem key_drop (k : κ) : ∀ {kvs : List (D × D)} {m : List (κ × V)}, kvs.map (·.1) = m.map (fun p => enc p.1) → RepPs P W H kvs (m.map (·.2)) → (keyDrop kvs (enc k)).map (·.1) = (dropK m k).map (fun p => enc p.1) ∧ RepPs P W H (keyDrop kvs (enc k)) ((dropK m k).map (·.2))
  | [], [], _, _ => ⟨rfl, rfl⟩
  | [], _ :: _, h, _ => by simp at h
  | _ :: _, [], h, _ => by simp at h
  | (a, d) :: kvs, (j, v) :: m, h, r => by
    simp only [List.map_cons, List.cons.injEq] at h
    obtain ⟨rfl, h⟩ := h
    obtain ⟨v', r', e, h1, h2⟩ := r
    simp only [List.map_cons, List.cons.injEq] at e
    obtain ⟨rfl, rfl⟩ := e
    obtain ⟨i1, i2⟩ := key_drop k h h2
    unfold keyDrop dropK at *
    rw [List.filter_cons, List.filter_cons]
    simp only [hq]
    by_cases z : j = k
    · subst z
      simp only [decide_true, Bool.not_true, Bool.false_eq_true, if_false, ne_eq, not_true_eq_false, decide_false]
      exact ⟨i1, i2⟩
    · simp only [z, decide_false, Bool.not_false, if_true, ne_eq, not_false_eq_true, decide_true]
      exact ⟨by rw [List.map_cons, List.map_cons, i1], v, _, rfl, h1, i2⟩
end
theorem keyDrop_mem {kvs : List (D × D)} {k j : D} (h : j ∈ (keyDrop kvs k).map (·.1)) : j ∈ kvs.map (·.1) := by
  obtain ⟨p, hp, rfl⟩ := List.mem_map.mp h
  exact List.mem_map.mpr ⟨p, (List.mem_filter.mp hp).1, rfl⟩
theorem isD_rd {P : Par} {W : Wd} {H : Hp} {t : Bool} {kvs : List (D × D)} {a : Addr} {o : HO} (h : Rd H a o) (r : DctR P W H t kvs o) : IsD H a := by
  obtain ⟨vs, dc, _⟩ := r
  cases t with
  | false =>
    obtain ⟨m, rfl, _⟩ := dctK dc
    exact .inl ⟨m, h⟩
  | true =>
    obtain ⟨m, rfl, _⟩ := dctT dc
    exact .inr ⟨m, h⟩
theorem dctR_do {P : Par} {W : Wd} {H : Hp} {t : Bool} {kvs : List (D × D)} {o : HO} (r : DctR P W H t kvs o) : isDO o = true ∧ Mut (some o) := by
  obtain ⟨vs, dc, _⟩ := r
  cases t with
  | false =>
    obtain ⟨m, rfl, _⟩ := dctK dc
    exact ⟨rfl, trivial⟩
  | true =>
    obtain ⟨m, rfl, _⟩ := dctT dc
    exact ⟨rfl, trivial⟩
end Ev
set_option Elab.async false
set_option linter.all false
set_option autoImplicit false
set_option maxRecDepth 100000
set_option maxHeartbeats 4000000
namespace Ev
open PySem PySem.Spec PyProof.Rows L2
section
variable {P : Par} {X : Cx}
def coOp : CO → CmpOp
  | .eq => .Eq
  | .ne => .NotEq
  | .lt => .Lt
  | .le => .LtE
  | .gt => .Gt
  | .ge => .GtE
  | .isin => .In
  | .notin => .NotIn
  | .is => .Is
  | .isnt => .IsNot
def rCmp (P : Par) (o : CO) : R2 := fun x y H Q => ∃ W M a b d, StoR P W M H ∧ RepR P W H a x ∧ RepR P W H b y ∧ cmpD o a b = some d ∧ PostE P W M H (.bl d) Q
theorem min_le64 {a b : Nat} (h : a ≤ 64 ∨ b ≤ 64) : min a b ≤ 64 := by omega
theorem eqOk_iff {a b : D} (h : eqOk a b = true) : plain a = true ∧ plain b = true ∧ min (depth a) (depth b) ≤ 64 := by
  unfold eqOk at h
  simp only [Bool.and_eq_true, Bool.or_eq_true, decide_eq_true_eq] at h
  exact ⟨h.1.1, h.1.2, min_le64 h.2⟩
theorem ltOk_iff {a b : D} (h : ltOk a b = true) : plain a = true ∧ plain b = true ∧ alike a b = true ∧ min (depth a) (depth b) ≤ 64 ∧ a ≠ .non := by
  unfold ltOk at h
  simp only [Bool.and_eq_true, Bool.or_eq_true, decide_eq_true_eq] at h
  refine ⟨h.1.1.1.1, h.1.1.1.2, h.1.1.2, min_le64 h.1.2, ?_⟩
  rintro rfl
  exact absurd h.2 (by decide)
theorem any_toPs (a : D) (ha : plain a = true) : ∀ ys : List D, plains ys = true → ((toPs ys).any fun y => PyData.eqv y (toP a)) = ys.any fun y => deq y a
  | [], _ => rfl
  | y :: ys, h => by
    have h' : plain y = true ∧ plains ys = true := by simpa [plains] using h
    rw [toPs, List.any_cons, List.any_cons, deq_toP y a h'.1 ha, any_toPs a ha ys h'.2]
theorem str_of {P : Par} {W : Wd} {H : Hp} {y : List Nat} {v : V} (h : RepR P W H (.str y) v) : v = .str (S' y) := h.1
theorem op_isD {neg : Bool} {a b : D} {pins : List (Addr × Obj)} {s : Shared} {σ : L2.St} {H : Hp} {x y : V} {v u : Value} {Q : VK} {W : Wd} {M : Sto} {d : Bool} (I : Inv X pins σ H s) (rx : RelV x v) (ry : RelV y u)
    (st : StoR P W M H) (ra : RepR P W H a x) (rb : RepR P W H b y) (e : isD a b = some d) (q : ∀ k, k = (if neg then !d else d) → Q (.bl k) H) :
    wpAny (model X.prog X.w) X.A (compareOp (if neg then .IsNot else .Is) v u) (EP X pins σ Q) X.xe s := by
  unfold isD at e
  split at e
  · cases e; cases ra; cases rb
    cases neg
    · exact op_isN pins s σ H _ _ v u Q I rx ry ⟨rfl, q _ (by decide)⟩
    · exact op_notN pins s σ H _ _ v u Q I rx ry ⟨rfl, q _ (by decide)⟩
  · rename_i hne
    cases e; cases rb
    have hx : x ≠ .non := fun z => by
      subst z
      cases a with
      | non => exact hne rfl
      | bl _ => cases (show V.non = .bl _ from ra)
      | int _ => cases (show V.non = .int _ from ra)
      | str _ => cases (show V.non = .str _ from ra.1)
      | tup _ => obtain ⟨_, _, e, _⟩ := ra; cases e
      | lst _ => obtain ⟨_, _, e, _⟩ := ra; cases e
      | dct _ _ => obtain ⟨_, _, _, e, _⟩ := ra; cases e
      | itr _ => exact (show False from ra)
      | obj _ => obtain ⟨_, e, _⟩ := ra; cases e
      | fn _ => cases (show V.non = .ref _ from ra)
      | cl _ => cases (show V.non = .ref _ from ra)
      | ty _ => cases (show V.non = .ty _ from ra)
      | scr _ => obtain ⟨_, _, e, _⟩ := ra; cases e
      | kd _ => obtain ⟨_, _, _, e, _⟩ := ra; cases e
    cases neg
    · exact op_isN pins s σ H _ _ v u Q I rx ry ⟨rfl, q _ (by rw [decide_eq_false hx]; rfl)⟩
    · exact op_notN pins s σ H _ _ v u Q I rx ry ⟨rfl, q _ (by rw [decide_eq_false hx]; rfl)⟩
  · cases e; cases ra; cases rb
    rename_i i j
    have z : decide (i = j) = (i == j) := by cases i <;> cases j <;> rfl
    cases neg
    · exact op_is_bl pins s σ H _ _ v u Q I rx ry ⟨_, _, rfl, rfl, q _ (by rw [z]; rfl)⟩
    · exact op_isnot_bl pins s σ H _ _ v u Q I rx ry ⟨_, _, rfl, rfl, q _ (by rw [z]; rfl)⟩
  · cases e
  · cases e
theorem op_in2 {neg : Bool} {a b : D} {pins : List (Addr × Obj)} {s : Shared} {σ : L2.St} {H : Hp} {x y : V} {v u : Value} {Q : VK} {W : Wd} {M : Sto} {d : Bool} (hK : X.K = P.K) (hw : X.w = P.w) (hu : X.A.units + 66 < cLine) (I : Inv X pins σ H s) (rx : RelV x v) (ry : RelV y u)
    (st : StoR P W M H) (ra : RepR P W H a x) (rb : RepR P W H b y) (e : inD a b = some d) (q : ∀ k, k = (if neg then !d else d) → Q (.bl k) H) :
    wpAny (model X.prog X.w) X.A (compareOp (if neg then .NotIn else .In) v u) (EP X pins σ Q) X.xe s := by
  unfold inD at e
  split at e
  · rename_i y'
    split at e
    · rename_i c
      cases e
      have e1 := str_of ra
      have e2 := str_of rb
      subst e1 e2
      cases neg
      · exact op_in_sign pins s σ H _ _ v u Q I rx ry ⟨c, _, rfl, rfl, q _ rfl⟩
      · exact op_notIn_sign pins s σ H _ _ v u Q I rx ry ⟨c, _, rfl, rfl, q _ rfl⟩
    · cases e
  · rename_i ys
    split at e
    · rename_i hz
      cases e
      obtain ⟨p1, p2, p3⟩ := eqOk_iff hz
      have pys : plains ys = true := by simpa [plain] using p2
      obtain ⟨d1, l1⟩ := ra.dp p1
      obtain ⟨d2, l2⟩ := rb.dp p2
      rw [← hK] at d1 d2
      obtain ⟨as, r1⟩ := Dp.reads I _ x v d1 rx
      obtain ⟨bs, r2⟩ := Dp.reads I _ y u d2 ry
      have lay : PyData.canLayAll0 (toPs ys) = true := by rw [toP, PyData.canLay0] at l2; exact l2
      have room : X.A.units + 1 + min (PyData.depthAll (toPs ys)) (toP a).depth < cLine := by
        rw [depth_toPs _ pys, depth_toP _ p1]
        rw [depth] at p3
        omega
      rw [toP] at r2
      have hq := q
      rw [← any_toPs a p1 ys pys] at hq
      cases neg
      · exact SeqAt.in_list_reads r2 r1 lay l1 room ⟨.bl _, H, I, rfl, hq _ rfl⟩
      · exact SeqAt.notIn_list_reads r2 r1 lay l1 room ⟨.bl _, H, I, rfl, hq _ rfl⟩
    · cases e
  · rename_i ys
    split at e
    · rename_i hz
      cases e
      obtain ⟨p1, p2, p3⟩ := eqOk_iff hz
      have pys : plains ys = true := by simpa [plain] using p2
      obtain ⟨d1, l1⟩ := ra.dp p1
      obtain ⟨d2, l2⟩ := rb.dp p2
      rw [← hK] at d1 d2
      obtain ⟨as, r1⟩ := Dp.reads I _ x v d1 rx
      obtain ⟨bs, r2⟩ := Dp.reads I _ y u d2 ry
      have lay : PyData.canLayAll0 (toPs ys) = true := by rw [toP, PyData.canLay0] at l2; exact l2
      have room : X.A.units + 1 + min (PyData.depthAll (toPs ys)) (toP a).depth < cLine := by
        rw [depth_toPs _ pys, depth_toP _ p1]
        rw [depth] at p3
        omega
      rw [toP] at r2
      have hq := q
      rw [← any_toPs a p1 ys pys] at hq
      cases neg
      · exact SeqAt.in_tuple_reads r2 r1 lay l1 room ⟨.bl _, H, I, rfl, hq _ rfl⟩
      · exact SeqAt.notIn_tuple_reads r2 r1 lay l1 room ⟨.bl _, H, I, rfl, hq _ rfl⟩
    · cases e
  · rename_i t kvs
    split at e
    · rename_i hz
      cases e
      obtain ⟨p, o, rfl, dg, ho⟩ := dget hz ra rb
      cases (show u = Value.ref p from ry)
      have eo : o.isSome = (keyFind kvs a).isSome := by
        rcases ho with ⟨h1, h2⟩ | ⟨_, _, h1, h2, _⟩ <;> (rw [h1, h2]; rfl)
      cases neg
      · exact d_in (by omega) I dg rx fun s' I' => ⟨.bl o.isSome, H, I', rfl, q _ (by rw [eo]; rfl)⟩
      · exact d_notIn (by omega) I dg rx fun s' I' => ⟨.bl (!o.isSome), H, I', rfl, q _ (by rw [eo]; rfl)⟩
    · cases e
  · rename_i kvs
    split at e
    · rename_i z
      cases e
      obtain ⟨p, es, n, rfl, kd, h1, h2⟩ := rb
      have kd' := kd
      rw [← hK, ← hw] at kd'
      obtain ⟨r, hr, er⟩ : ∃ r, PySem.W.nsIn P.K p (S' z) = some r ∧ r.isSome = (kvs.lookup z).isSome := by
        cases el : kvs.lookup z with
        | none => exact ⟨none, h1 z el, rfl⟩
        | some d =>
          obtain ⟨u, v, e1, _⟩ := h2.get el
          exact ⟨some u, e1, rfl⟩
      rw [← hK] at hr
      cases neg
      · exact op_in_kd kd' pins s σ H _ _ v u Q I rx ry ⟨S' z, r, ra.1, rfl, hr, q _ (by rw [er]; rfl)⟩
      · exact op_notIn_kd kd' pins s σ H _ _ v u Q I rx ry ⟨S' z, r, ra.1, rfl, hr, q _ (by rw [er]; rfl)⟩
    · cases e
  · cases e
theorem toP_nn {a : D} (p1 : plain a = true) (p5 : a ≠ .non) : toP a ≠ .none := by
  intro z
  cases a with
  | non => exact p5 rfl
  | dct _ _ => simp [plain] at p1
  | itr _ => simp [plain] at p1
  | obj _ => simp [plain] at p1
  | fn _ => simp [plain] at p1
  | cl _ => simp [plain] at p1
  | ty _ => simp [plain] at p1
  | scr _ => simp [plain] at p1
  | kd _ => simp [plain] at p1
  | _ => simp [toP] at z
theorem sc_cases {a b : D} (h : ltOk a b = true) (k : isSc a = true) : (∃ i j, a = .int i ∧ b = .int j ∧ dlt a b = decide (i < j)) ∨ ∃ x y, a = .str x ∧ b = .str y ∧ dlt a b = decide (x < y) := by
  obtain ⟨_, _, h3, _, _⟩ := ltOk_iff h
  cases a with
  | int i =>
    cases b with
    | int j => exact .inl ⟨i, j, rfl, rfl, rfl⟩
    | _ => simp [alike] at h3
  | str x =>
    cases b with
    | str y => exact .inr ⟨x, y, rfl, rfl, slt_lt x y⟩
    | _ => simp [alike] at h3
  | _ => simp [isSc] at k
theorem not_lt_int (i j : Int) : (!decide (i < j)) = decide (j ≤ i) := by
  by_cases h : i < j
  · rw [decide_eq_true h, decide_eq_false (by omega)]; rfl
  · rw [decide_eq_false h, decide_eq_true (by omega)]; rfl
theorem op_cmp (o : CO) (hK : X.K = P.K) (hw : X.w = P.w) (hu : X.A.units + 66 < cLine) : OpR X (compareOp (coOp o)) (rCmp P o) := by
  intro pins s σ H x y v u Q I rx ry h
  obtain ⟨W, M, a, b, d, st, ra, rb, e, q⟩ := h
  have fin : ∀ k, k = d → Q (.bl k) H := fun k hk => by rw [hk]; exact q.bl st
  cases o with
  | eq =>
    have e : (if eqOk a b then some (deq a b) else none) = some d := e
    split at e
    · rename_i hz
      cases e
      obtain ⟨p1, p2, p3⟩ := eqOk_iff hz
      obtain ⟨d1, l1⟩ := ra.dp p1
      obtain ⟨d2, l2⟩ := rb.dp p2
      rw [← hK] at d1 d2
      obtain ⟨as, r1⟩ := Dp.reads I _ x v d1 rx
      obtain ⟨bs, r2⟩ := Dp.reads I _ y u d2 ry
      exact SeqAt.compareEq_reads r1 r2 l1 l2 (by rw [depth_toP _ p1, depth_toP _ p2]; omega) ⟨.bl _, H, I, rfl, fin _ (deq_toP a b p1 p2).symm⟩
    · cases e
  | ne =>
    have e : (if eqOk a b then some (!deq a b) else none) = some d := e
    split at e
    · rename_i hz
      cases e
      obtain ⟨p1, p2, p3⟩ := eqOk_iff hz
      obtain ⟨d1, l1⟩ := ra.dp p1
      obtain ⟨d2, l2⟩ := rb.dp p2
      rw [← hK] at d1 d2
      obtain ⟨as, r1⟩ := Dp.reads I _ x v d1 rx
      obtain ⟨bs, r2⟩ := Dp.reads I _ y u d2 ry
      exact SeqAt.compareNe_reads r1 r2 l1 l2 (by rw [depth_toP _ p1, depth_toP _ p2]; omega) ⟨.bl _, H, I, rfl, fin _ (by rw [deq_toP a b p1 p2])⟩
    · cases e
  | lt =>
    have e : (if ltOk a b then some (dlt a b) else none) = some d := e
    split at e
    · rename_i hz
      cases e
      obtain ⟨p1, p2, p3, p4, p5⟩ := ltOk_iff hz
      obtain ⟨d1, l1⟩ := ra.dp p1
      obtain ⟨d2, l2⟩ := rb.dp p2
      rw [← hK] at d1 d2
      obtain ⟨as, r1⟩ := Dp.reads I _ x v d1 rx
      obtain ⟨bs, r2⟩ := Dp.reads I _ y u d2 ry
      have nn : toP a ≠ .none := by
        intro z
        cases a with
        | non => exact p5 rfl
        | dct _ _ => simp [plain] at p1
        | itr _ => simp [plain] at p1
        | obj _ => simp [plain] at p1
        | fn _ => simp [plain] at p1
        | cl _ => simp [plain] at p1
        | ty _ => simp [plain] at p1
        | scr _ => simp [plain] at p1
        | kd _ => simp [plain] at p1
        | _ => simp [toP] at z
      exact PySem.W.rcLt_alike _ _ _ _ _ _ _ _ r1 r2 (alike_toP a b p3) nn (by rw [depth_toP _ p1, depth_toP _ p2]; omega) X.prog X.w X.xe _ ⟨.bl _, H, I, rfl, fin _ (dlt_toP a b p1 p2 p3).symm⟩
    · cases e
  | le =>
    have e : (if ltOk a b && ltOk b a then some (!dlt b a) else none) = some d := e
    split at e
    · rename_i hz
      cases e
      rw [Bool.and_eq_true] at hz
      obtain ⟨p1, p2, p3, p4, p5⟩ := ltOk_iff hz.1
      have p6 := (ltOk_iff hz.2).2.2.1
      obtain ⟨d1, l1⟩ := ra.dp p1
      obtain ⟨d2, l2⟩ := rb.dp p2
      rw [← hK] at d1 d2
      obtain ⟨as, r1⟩ := Dp.reads I _ x v d1 rx
      obtain ⟨bs, r2⟩ := Dp.reads I _ y u d2 ry
      exact PySem.W.rcLe_alike _ _ _ _ _ _ _ _ r1 r2 (alike_toP a b p3) (toP_nn p1 p5) (by rw [depth_toP _ p1, depth_toP _ p2]; omega) X.prog X.w X.xe _ ⟨.bl _, H, I, rfl, fin _ (by rw [dlt_toP b a p2 p1 p6])⟩
    · cases e
  | gt =>
    have e : (if ltOk a b && ltOk b a then some (dlt b a) else none) = some d := e
    split at e
    · rename_i hz
      cases e
      rw [Bool.and_eq_true] at hz
      obtain ⟨p1, p2, p3, p4, p5⟩ := ltOk_iff hz.1
      have p6 := (ltOk_iff hz.2).2.2.1
      obtain ⟨d1, l1⟩ := ra.dp p1
      obtain ⟨d2, l2⟩ := rb.dp p2
      rw [← hK] at d1 d2
      obtain ⟨as, r1⟩ := Dp.reads I _ x v d1 rx
      obtain ⟨bs, r2⟩ := Dp.reads I _ y u d2 ry
      exact PySem.W.rcGt_alike _ _ _ _ _ _ _ _ r1 r2 (alike_toP a b p3) (toP_nn p1 p5) (by rw [depth_toP _ p1, depth_toP _ p2]; omega) X.prog X.w X.xe _ ⟨.bl _, H, I, rfl, fin _ (by rw [dlt_toP b a p2 p1 p6])⟩
    · cases e
  | ge =>
    have e : (if ltOk a b && ltOk b a then some (!dlt a b) else none) = some d := e
    split at e
    · rename_i hz
      cases e
      rw [Bool.and_eq_true] at hz
      obtain ⟨p1, p2, p3, p4, p5⟩ := ltOk_iff hz.1
      have p6 := (ltOk_iff hz.2).2.2.1
      obtain ⟨d1, l1⟩ := ra.dp p1
      obtain ⟨d2, l2⟩ := rb.dp p2
      rw [← hK] at d1 d2
      obtain ⟨as, r1⟩ := Dp.reads I _ x v d1 rx
      obtain ⟨bs, r2⟩ := Dp.reads I _ y u d2 ry
      exact PySem.W.rcGe_alike _ _ _ _ _ _ _ _ r1 r2 (alike_toP a b p3) (toP_nn p1 p5) (by rw [depth_toP _ p1, depth_toP _ p2]; omega) X.prog X.w X.xe _ ⟨.bl _, H, I, rfl, fin _ (by rw [dlt_toP a b p1 p2 p3])⟩
    · cases e
  | isin => exact op_in2 (neg := false) hK hw hu I rx ry st ra rb e fin
  | notin =>
    have e : (inD a b).map (!·) = some d := e
    cases z : inD a b with
    | none => rw [z] at e; cases e
    | some k =>
      rw [z] at e
      cases e
      exact op_in2 (neg := true) hK hw hu I rx ry st ra rb z fin
  | is => exact op_isD (neg := false) I rx ry st ra rb e fin
  | isnt =>
    have e : (isD a b).map (!·) = some d := e
    cases z : isD a b with
    | none => rw [z] at e; cases e
    | some k =>
      rw [z] at e
      cases e
      exact op_isD (neg := true) I rx ry st ra rb z fin
end
end Ev
set_option Elab.async false
set_option linter.all false
set_option autoImplicit false
set_option maxRecDepth 100000
set_option maxHeartbeats 4000000
namespace Ev
open PySem PySem.Spec PyProof.Rows L2
def RepRs (P : Par) (W : Wd) (H : Hp) : List D → List V → Prop
  | [], vs => vs = []
  | d :: ds, vs => ∃ v r, vs = v :: r ∧ RepR P W H d v ∧ RepRs P W H ds r
section
variable {P : Par} {X : Cx}
theorem repRs1 {W : Wd} {H : Hp} {a : D} {xs : List V} (h : RepRs P W H [a] xs) : ∃ x, xs = [x] ∧ RepR P W H a x := by
  obtain ⟨v, r, rfl, h1, h2⟩ := h
  cases h2
  exact ⟨v, rfl, h1⟩
theorem repRs2 {W : Wd} {H : Hp} {a b : D} {xs : List V} (h : RepRs P W H [a, b] xs) : ∃ x y, xs = [x, y] ∧ RepR P W H a x ∧ RepR P W H b y := by
  obtain ⟨v, r, rfl, h1, h2⟩ := h
  obtain ⟨y, rfl, h3⟩ := repRs1 h2
  exact ⟨v, y, rfl, h1, h3⟩
def biVal : Bi → Value
  | .len => .builtin "len"
  | .isinst => .builtin "isinstance"
  | .tuple => .type "tuple"
  | .list => .type "list"
  | .all => .builtin "all"
  | .any => .builtin "any"
  | .sorted => .builtin "sorted"
  | .sum => .builtin "sum"
  | .min => .builtin "min"
  | .max => .builtin "max"
  | .abs => .builtin "abs"
  | .int => .type "int"
  | .str => .type "str"
  | .range => .type "range"
  | .enum => .type "enumerate"
  | .zip => .type "zip"
def rBi (P : Par) (b : Bi) : List V → Hp → VK → Prop := fun xs H Q => ∃ W M as d, StoR P W M H ∧ RepRs P W H as xs ∧ biD b as = some d ∧ PostF P W M H d Q
theorem seq_sq {W : Wd} {H : Hp} {a : D} {ds : List D} {x : V} (e : listOf a = some ds) (h : RepR P W H a x) : ∃ p vs, x = .ref p ∧ (SqL P.K H p vs ∨ SqT P.K H p vs) ∧ ds.length ≤ SZ ∧ Reps P W H ds vs := by
  cases a with
  | tup xs =>
    cases e
    obtain ⟨p, vs, rfl, h1, h2, h3⟩ := h
    exact ⟨p, vs, rfl, .inr h1.sq, h2, h3⟩
  | lst xs =>
    cases e
    obtain ⟨p, vs, rfl, h1, h2, h3⟩ := h
    exact ⟨p, vs, rfl, .inl (SqL.of h1), h2, h3⟩
  | scr xs =>
    cases e
    obtain ⟨p, vs, rfl, h1, h2, h3⟩ := h
    exact ⟨p, vs, rfl, .inl h1.sq, h2, h3⟩
  | _ => cases e
theorem bools_of {W : Wd} {H : Hp} : ∀ {ds : List D} {vs : List V} {bs : List Bool}, boolsD ds = some bs → Reps P W H ds vs → vs = bs.map V.bl
  | [], _, _, e, h => by
    cases e
    exact h
  | d :: ds, _, bs, e, h => by
    obtain ⟨v, r, rfl, h1, h2⟩ := h
    cases d with
    | bl b =>
      cases z : boolsD ds with
      | none => rw [boolsD, z] at e; cases e
      | some cs =>
        rw [boolsD, z] at e
        cases e
        rw [List.map_cons, ← bools_of z h2, show v = V.bl b from h1]
    | _ => cases e
theorem ints_of {W : Wd} {H : Hp} : ∀ {ds : List D} {vs : List V} {bs : List Int}, intsD ds = some bs → Reps P W H ds vs → vs = bs.map V.int
  | [], _, _, e, h => by
    cases e
    exact h
  | d :: ds, _, bs, e, h => by
    obtain ⟨v, r, rfl, h1, h2⟩ := h
    cases d with
    | int b =>
      cases z : intsD ds with
      | none => rw [intsD, z] at e; cases e
      | some cs =>
        rw [intsD, z] at e
        cases e
        rw [List.map_cons, ← ints_of z h2, show v = V.int b from h1]
    | _ => cases e
theorem strs_of {W : Wd} {H : Hp} : ∀ {ds : List D} {vs : List V} {bs : List (List Nat)}, strsD ds = some bs → Reps P W H ds vs → vs = (bs.map S').map V.str ∧ ∀ x ∈ bs, ∀ c ∈ x, c < 1114112
  | [], _, _, e, h => by
    cases e
    exact ⟨h, fun _ z => nomatch z⟩
  | d :: ds, _, bs, e, h => by
    obtain ⟨v, r, rfl, h1, h2⟩ := h
    cases d with
    | str b =>
      cases z : strsD ds with
      | none => rw [strsD, z] at e; cases e
      | some cs =>
        rw [strsD, z] at e
        cases e
        obtain ⟨k1, k2⟩ := strs_of z h2
        obtain ⟨rfl, _, hc⟩ := h1
        refine ⟨by rw [List.map_cons, List.map_cons, ← k1], fun x hx => ?_⟩
        rcases List.mem_cons.mp hx with rfl | hx
        · exact hc
        · exact k2 x hx
    | _ => cases e
theorem kit_all : ∀ t ∈ ["NoneType", "int", "bool", "str", "tuple", "list", "dict"], ∀ n ∈ ["int", "bool", "str", "tuple", "list", "dict"], kitB t n = some (isTy t n) := by decide +kernel
theorem tyName_x {W : Wd} {H : Hp} {a : D} {x : V} {t : String} (nd : isDct a = false) (e : tyName a = some t) (h : RepR P W H a x) : TyX P.K H x (.type t) ∧ t ∈ ["NoneType", "int", "bool", "str", "tuple", "list", "dict"] := by
  cases a with
  | non => cases e; cases h; exact ⟨.base .non, by decide⟩
  | bl b => cases e; cases h; exact ⟨.base (.bl b), by decide⟩
  | int b => cases e; cases h; exact ⟨.base (.int b), by decide⟩
  | str b => cases e; obtain ⟨rfl, _⟩ := h; exact ⟨.base (.str _), by decide⟩
  | tup ds =>
    cases e
    obtain ⟨p, vs, rfl, h1, _⟩ := h
    refine ⟨?_, by decide⟩
    rcases h1 with h1 | ⟨_, o, its, n, h1, h2, _⟩
    · exact .base (.tup h1)
    · exact .kTuple h1 h2
  | lst ds =>
    cases e
    obtain ⟨p, vs, rfl, h1, _⟩ := h
    exact ⟨.base (.lst h1), by decide⟩
  | scr ds =>
    cases e
    obtain ⟨p, vs, rfl, h1, _⟩ := h
    refine ⟨?_, by decide⟩
    rcases h1 with ⟨_, h1 | ⟨o, h1⟩⟩ | ⟨o, its, n, h1, hc, _⟩
    · exact .base (.lst h1)
    · exact .base (.frz h1)
    · exact .kList h1 hc
  | dct t kvs => cases nd
  | _ => cases e
theorem listOf_len {W : Wd} {H : Hp} {a : D} {ds : List D} {x : V} (e : listOf a = some ds) (h : RepR P W H a x) : LenV P.K x H ds.length := by
  obtain ⟨p, vs, rfl, h1, _, h3⟩ := seq_sq e h
  rw [← h3.length]
  exact h1.imp (fun h => ⟨vs, h, rfl⟩) fun h => ⟨vs, h, rfl⟩
theorem strJoin_S' (s : List Nat) : ∀ ys : List (List Nat), Str.join (S' s) (ys.map S') = S' (gluei s ys)
  | [] => rfl
  | [_] => rfl
  | x :: y :: r => by
    have ih := strJoin_S' s (y :: r)
    show S' x ++ S' s ++ Str.join (S' s) ((y :: r).map S') = S' (x ++ (s ++ gluei s (y :: r)))
    rw [ih, S'_app, S'_app, List.append_assoc]
theorem join_S' (s : List Nat) (ys : List (List Nat)) : Txt.join (S' s) (ys.map S') = S' (gluei s ys) := (PySem.StrLaws.glued_eq_join _ _).trans (strJoin_S' s ys)
theorem maxI_eq (a : Int) : ∀ r : List Int, maxI a r ∈ a :: r ∧ ∀ y ∈ a :: r, y ≤ maxI a r
  | [] => by simp [maxI]
  | b :: r => by
    rw [maxI]
    obtain ⟨h1, h2⟩ := maxI_eq (if b > a then b else a) r
    have hx : a ≤ (if b > a then b else a) ∧ b ≤ (if b > a then b else a) := by split <;> omega
    have hm := h2 _ List.mem_cons_self
    refine ⟨?_, fun y hy => ?_⟩
    · rcases List.mem_cons.mp h1 with e | e
      · rw [e]; split <;> simp
      · exact List.mem_cons_of_mem _ (List.mem_cons_of_mem _ e)
    · rcases List.mem_cons.mp hy with rfl | hy
      · omega
      · rcases List.mem_cons.mp hy with rfl | hy
        · omega
        · exact h2 y (List.mem_cons_of_mem _ hy)
theorem minI_eq (a : Int) : ∀ r : List Int, minI a r ∈ a :: r ∧ ∀ y ∈ a :: r, minI a r ≤ y
  | [] => by simp [minI]
  | b :: r => by
    rw [minI]
    obtain ⟨h1, h2⟩ := minI_eq (if b < a then b else a) r
    have hx : (if b < a then b else a) ≤ a ∧ (if b < a then b else a) ≤ b := by split <;> omega
    have hm := h2 _ List.mem_cons_self
    refine ⟨?_, fun y hy => ?_⟩
    · rcases List.mem_cons.mp h1 with e | e
      · rw [e]; split <;> simp
      · exact List.mem_cons_of_mem _ (List.mem_cons_of_mem _ e)
    · rcases List.mem_cons.mp hy with rfl | hy
      · omega
      · rcases List.mem_cons.mp hy with rfl | hy
        · omega
        · exact h2 y (List.mem_cons_of_mem _ hy)
theorem key_repK {W : Wd} {H : Hp} {k : Key} (h : kOk false (kD k)) : Rep P W H (kD k) (kV k) := by
  cases k with
  | inl i => exact rfl
  | inr x =>
    have h2 := kOk_f h
    exact ⟨by show V.str x = V.str (S' x.cps.toList); congr 1, h2⟩
theorem keys_repK {W : Wd} {H : Hp} : ∀ {m : List (Key × V)}, (∀ j ∈ m.map (fun p => kD p.1), kOk false j) → Reps P W H (m.map fun p => kD p.1) (m.map fun p => kV p.1)
  | [], _ => Reps.nil
  | p :: m, h => Reps.cons (key_repK (h _ List.mem_cons_self)) (keys_repK fun j hj => h j (List.mem_cons_of_mem _ hj))
theorem kSc_f {k : Key} (h : kSc (kD k)) : kOk false (kD k) := by
  cases k with
  | inl i => exact ⟨rfl, h⟩
  | inr x => exact ⟨rfl, h⟩
theorem sc_reps {W : Wd} {H : Hp} : ∀ {ks : List Key}, (∀ d ∈ ks.map kD, kSc d) → Reps P W H (ks.map kD) (ks.map kV)
  | [], _ => Reps.nil
  | k :: ks, h => Reps.cons (key_repK (kSc_f (h _ List.mem_cons_self))) (sc_reps fun j hj => h j (List.mem_cons_of_mem _ hj))
theorem key_repT {W : Wd} {H : Hp} {ks : List Key} {b : Addr} (hb : H b = some (.tup (ks.map kV))) (h : kOk true (kT ks)) : Rep P W H (kT ks) (.ref b) :=
  ⟨b, _, rfl, .inl hb, h.2.1, sc_reps h.2.2.2⟩
theorem keys_repT {W : Wd} {H : Hp} : ∀ {m : List (List Key × V)} {bs : List Addr}, IsKeys H m bs → (∀ j ∈ m.map (fun p => kT p.1), kOk true j) → Reps P W H (m.map fun p => kT p.1) (bs.map V.ref)
  | _, _, .nil, _ => Reps.nil
  | _, _, .cons a t, h => Reps.cons (key_repT a (h _ List.mem_cons_self)) (keys_repT t fun j hj => h j (List.mem_cons_of_mem _ hj))
def biCall : Bi → Bool
  | .len | .isinst | .tuple | .list | .all | .any | .sum | .min | .max | .abs | .int => true
  | _ => false
theorem cr_bi (b : Bi) (hb : biCall b = true) (hK : X.K = P.K) (hc : X.calm = true) : CallR X (biVal b) (rBi P b) := by
  intro pins s σ H xs us Q I r h
  obtain ⟨W, M, as, d, st, ra, e, q⟩ := h
  unfold biD at e
  split at e
  · obtain ⟨x, rfl, h⟩ := repRs1 ra
    cases e
    obtain ⟨rfl, hl, _⟩ := h
    exact call_len pins s σ H _ us Q I r ⟨_, _, rfl, ⟨by rw [S'_len, ← SZ_line]; exact hl, rfl⟩, by rw [S'_len]; exact q.int st⟩
  · obtain ⟨x, rfl, h⟩ := repRs1 ra
    cases e
    have hl := listOf_len (ds := _) rfl h
    rw [← hK] at hl
    exact call_len pins s σ H _ us Q I r ⟨_, _, rfl, hl, q.int st⟩
  · obtain ⟨x, rfl, h⟩ := repRs1 ra
    cases e
    have hl := listOf_len (ds := _) rfl h
    rw [← hK] at hl
    exact call_len pins s σ H _ us Q I r ⟨_, _, rfl, hl, q.int st⟩
  · obtain ⟨x, rfl, h⟩ := repRs1 ra
    cases e
    have hl := listOf_len (ds := _) rfl h
    rw [← hK] at hl
    exact call_len pins s σ H _ us Q I r ⟨_, _, rfl, hl, q.int st⟩
  · obtain ⟨x, rfl, h⟩ := repRs1 ra
    cases e
    rename_i t kvs
    obtain ⟨p, o, vs, rfl, ho, dc, hl, rp⟩ := h
    rw [Vals.ref1 r]
    cases t with
    | false =>
      obtain ⟨m, rfl, hk, hv⟩ := dctK dc
      have el := congrArg List.length hk
      rw [List.length_map, List.length_map] at el
      exact d_len I ho fun t s' I' => ⟨.int m.length, H, I', ⟨t, rfl⟩, by rw [← el]; exact q.int st⟩
    | true =>
      obtain ⟨m, rfl, hk, hv⟩ := dctT dc
      have el := congrArg List.length hk
      rw [List.length_map, List.length_map] at el
      obtain ⟨z, hd, ys, rel, dd⟩ := dt_rd I.hok ho
      have hl : m.length = ys.length := Paired.length rel
      refine call_len_dictH hd dd (by rw [← hl]; rw [sizeLine_eq] at z; omega) ?_
      rw [← hl]
      exact ⟨.int ((m.length : Nat) : Int), H, I.tok _, ⟨_, rfl⟩, by rw [← el]; exact q.int st⟩
  · rename_i a n
    obtain ⟨x, y, rfl, h1, h2⟩ := repRs2 ra
    split at e
    · rename_i hk
      cases z : tyName a with
      | none => rw [z] at e; cases e
      | some t =>
        rw [z] at e
        cases e
        cases (show y = V.ty n from h2)
        have hn : n ∈ ["int", "bool", "str", "tuple", "list", "dict"] := by simpa [tyKnown] using hk
        cases nd : isDct a with
        | true =>
          cases a with
          | dct t kvs =>
            cases z
            obtain ⟨p, o, vs, rfl, ho, dc⟩ := h1
            obtain ⟨u1, u2, rfl, r1, r2⟩ := vals2 r
            have e2 := (ClsV.ty n).eq r2
            subst e2
            cases (show u1 = Value.ref p from r1)
            obtain ⟨⟨ob, h3, h4⟩, _⟩ := isD_at I (isD_rd (P := P) (W := W) ho ⟨vs, dc⟩)
            exact PySem.W.kia_one PySem.W.kitx_dict I.kIn ⟨ob, h3, h4⟩ (kit_ty (kit_all "dict" (by decide) n hn)) (fun z => nomatch z) fun tk => ⟨.bl _, H, I.tok tk, rfl, q.bl st⟩
          | _ => cases nd
        | false =>
        obtain ⟨ty, mt⟩ := tyName_x nd z h1
        rw [← hK] at ty
        exact call_isi pins s σ H _ us Q I r ⟨x, .ty n, .type t, .type n, _, rfl, ClsV.ty n, ty, kit_ty (kit_all t mt n hn), q.bl st⟩
    · cases e
  · rename_i a
    obtain ⟨x, rfl, h⟩ := repRs1 ra
    cases z : listOf a with
    | none => rw [z] at e; cases e
    | some ds =>
      rw [z] at e
      cases e
      obtain ⟨p, vs, rfl, h1, h2, h3⟩ := seq_sq z h
      have q' := q.e rfl
      rw [← hK] at h1
      rcases h1 with h1 | h1
      · exact call_tuple_of pins s σ H _ us Q I r ⟨p, vs, rfl, .inl ⟨h1, fun l nl => q'.tup st nl h2 h3⟩⟩
      · have hr : Rep P W H (.tup ds) (.ref p) := by
          cases a with
          | tup xs => cases z; exact h
          | lst xs =>
            cases z
            obtain ⟨p', vs', e1, e2, _⟩ := h
            cases e1
            obtain ⟨its, rv, pl, _⟩ := I.tuple h1
            obtain ⟨its2, rv2, pl2, _⟩ := I.list (SqL.of e2)
            obtain ⟨o, ho, hc1, _⟩ := pl
            obtain ⟨o2, n2, ho2, hc2, _⟩ := pl2
            rw [ho] at ho2
            cases ho2
            rw [hc1] at hc2
            exact absurd hc2 (by simp)
          | scr xs =>
            cases z
            obtain ⟨p', vs', e1, e2, _⟩ := h
            cases e1
            obtain ⟨its, rv, pl, _⟩ := I.tuple h1
            have e2 := e2.sq
            rw [← hK] at e2
            obtain ⟨its2, rv2, pl2, _⟩ := I.list e2
            obtain ⟨o, ho, hc1, _⟩ := pl
            obtain ⟨o2, n2, ho2, hc2, _⟩ := pl2
            rw [ho] at ho2
            cases ho2
            rw [hc1] at hc2
            exact absurd hc2 (by simp)
          | _ => cases z
        exact call_tuple_of pins s σ H _ us Q I r ⟨p, vs, rfl, .inr ⟨h1, q'.same st hr⟩⟩
  · rename_i t kvs
    obtain ⟨x, rfl, h⟩ := repRs1 ra
    cases e
    obtain ⟨p, o, vs, rfl, ho, dc, hl, rp⟩ := h
    cases t with
    | false =>
      obtain ⟨m, rfl, hk, hv⟩ := dctK dc
      refine call_listD hc pins s σ H _ us Q I r ⟨p, m, rfl, ho, fun l nl => ?_⟩
      exact q.lst st nl (by rw [List.length_map]; exact hl) (by rw [hk]; exact keys_repK fun j hj => dc.1 j (by rw [hk]; exact hj))
    | true =>
      obtain ⟨m, rfl, hk, hv⟩ := dctT dc
      refine call_list_dT hc pins s σ H _ us Q I r ⟨p, m, rfl, ho, fun l bs nl ks => ?_⟩
      exact q.lst st nl (by rw [List.length_map]; exact hl) (by rw [hk]; exact keys_repT ks fun j hj => dc.1 j (by rw [hk]; exact hj))
  · rename_i a _
    obtain ⟨x, rfl, h⟩ := repRs1 ra
    cases z : listOf a with
    | none => rw [z] at e; cases e
    | some ds =>
      rw [z] at e
      cases e
      obtain ⟨p, vs, rfl, h1, h2, h3⟩ := seq_sq z h
      rw [← hK] at h1
      exact call_list_of pins s σ H _ us Q I r ⟨p, vs, rfl, h1, fun l nl => q.lst st nl h2 h3⟩
  · rename_i ds
    obtain ⟨x, rfl, h⟩ := repRs1 ra
    cases z : boolsD ds with
    | none => rw [z] at e; cases e
    | some bs =>
      rw [z] at e
      cases e
      obtain ⟨p, vs, rfl, h1, h2, h3⟩ := h
      have ev := bools_of z h3
      subst ev
      exact cr_all hc pins s σ H _ us Q I r ⟨p, bs, rfl, SqL.of h1, q.bl st⟩
  · rename_i ds
    obtain ⟨x, rfl, h⟩ := repRs1 ra
    cases z : boolsD ds with
    | none => rw [z] at e; cases e
    | some bs =>
      rw [z] at e
      cases e
      obtain ⟨p, vs, rfl, h1, h2, h3⟩ := h
      have ev := bools_of z h3
      subst ev
      exact cr_any hc pins s σ H _ us Q I r ⟨p, bs, rfl, SqL.of h1, q.bl st⟩
  · cases hb
  · rename_i ds
    obtain ⟨x, rfl, h⟩ := repRs1 ra
    cases z : intsD ds with
    | none => rw [z] at e; cases e
    | some bs =>
      rw [z] at e
      cases e
      obtain ⟨p, vs, rfl, h1, h2, h3⟩ := h
      have ev := ints_of z h3
      subst ev
      exact cr_sum hc pins s σ H _ us Q I r ⟨p, bs, rfl, SqL.of h1, q.int st⟩
  · rename_i ds
    obtain ⟨x, rfl, h⟩ := repRs1 ra
    cases z : intsD ds with
    | none => rw [z] at e; cases e
    | some bs =>
      rw [z] at e
      obtain ⟨p, vs, rfl, h1, h2, h3⟩ := h
      have ev := ints_of z h3
      subst ev
      cases bs with
      | nil => cases e
      | cons a t =>
        cases e
        obtain ⟨m1, m2⟩ := maxI_eq a t
        refine cr_max hc pins s σ H _ us Q I r ⟨p, a :: t, rfl, SqL.of h1, Nat.succ_pos _, fun m hm hle => ?_⟩
        have : m = maxI a t := by
          have h3 := hle _ m1
          have h4 := m2 _ hm
          omega
        subst this
        exact q.int st
  · rename_i ds
    obtain ⟨x, rfl, h⟩ := repRs1 ra
    cases z : intsD ds with
    | none => rw [z] at e; cases e
    | some bs =>
      rw [z] at e
      obtain ⟨p, vs, rfl, h1, h2, h3⟩ := h
      have ev := ints_of z h3
      subst ev
      cases bs with
      | nil => cases e
      | cons a t =>
        cases e
        obtain ⟨m1, m2⟩ := minI_eq a t
        refine cr_min hc pins s σ H _ us Q I r ⟨p, a :: t, rfl, SqL.of h1, Nat.succ_pos _, fun m hm hle => ?_⟩
        have : m = minI a t := by
          have h3 := hle _ m1
          have h4 := m2 _ hm
          omega
        subst this
        exact q.int st
  · obtain ⟨x, y, rfl, h1, h2⟩ := repRs2 ra
    cases e; cases h1; cases h2
    exact call_max2 hc pins s σ H _ us Q I r ⟨_, _, rfl, q.int st⟩
  · obtain ⟨x, y, rfl, h1, h2⟩ := repRs2 ra
    cases e; cases h1; cases h2
    exact call_min2 hc pins s σ H _ us Q I r ⟨_, _, rfl, q.int st⟩
  · obtain ⟨x, rfl, h⟩ := repRs1 ra
    cases e; cases h
    exact call_abs pins s σ H _ us Q I r ⟨_, rfl, q.int st⟩
  · obtain ⟨x, rfl, h⟩ := repRs1 ra
    cases e; cases h
    exact call_int1 pins s σ H _ us Q I r (.inl ⟨_, rfl, q.int st⟩)
  · obtain ⟨x, rfl, h⟩ := repRs1 ra
    cases e; cases h
    exact call_int1 pins s σ H _ us Q I r (.inr ⟨_, rfl, q.int st⟩)
  all_goals first | cases hb | cases e
theorem gluei_len (s : List Nat) : ∀ ys : List (List Nat), (gluei s ys).length ≤ (ys.map List.length).sum + ys.length * s.length
  | [] => by simp [gluei]
  | [x] => by simp [gluei]
  | x :: y :: r => by
    have ih := gluei_len s (y :: r)
    rw [gluei, List.length_append, List.length_append, List.map_cons, List.sum_cons, List.length_cons]
    rw [Nat.succ_mul]
    omega
theorem gluei_mem (s : List Nat) : ∀ (ys : List (List Nat)) (c : Nat), c ∈ gluei s ys → c ∈ s ∨ ∃ y ∈ ys, c ∈ y
  | [], c, h => nomatch h
  | [x], c, h => .inr ⟨x, List.mem_cons_self, h⟩
  | x :: y :: r, c, h => by
    rw [gluei] at h
    rcases List.mem_append.mp h with h | h
    · exact .inr ⟨x, List.mem_cons_self, h⟩
    · rcases List.mem_append.mp h with h | h
      · exact .inl h
      · rcases gluei_mem s (y :: r) c h with h | ⟨z, hz, h⟩
        · exact .inl h
        · exact .inr ⟨z, List.mem_cons_of_mem _ hz, h⟩
def rMe (P : Par) (m : Me) : V → List V → Hp → VK → Prop := fun x xs H Q => ∃ W M a as d, StoR P W M H ∧ RepR P W H a x ∧ RepRs P W H as xs ∧ meD m a as = some d ∧ PostF P W M H d Q
theorem mt_meJoin (hK : X.K = P.K) : MtR X "str.join" (rMe P .join) := by
  intro pins s σ H x xs v us Q I rx rs h
  obtain ⟨W, M, a, as, d, st, ra, rb, e, q⟩ := h
  have key : ∀ (z : List Nat) (ds : List D) (ys : List (List Nat)) (p : Addr) (vs : List V), a = .str z → strsD ds = some ys → xs = [.ref p] → (SqL P.K H p vs ∨ SqT P.K H p vs) → Reps P W H ds vs →
      (if (ys.map List.length).sum + ys.length * z.length ≤ SZ then some (D.str (gluei z ys)) else none) = some d → wpAny (model X.prog X.w) X.A (call (.builtin "str.join") (v :: us)) (EP X pins σ Q) X.xe s := by
    intro z ds ys p vs ea es ex hp hr he
    subst ea ex
    split at he
    · rename_i hz
      cases he
      obtain ⟨rfl, l1, c1⟩ := ra
      obtain ⟨ev, hc⟩ := strs_of es hr
      subst ev
      rw [← hK] at hp
      refine mt_join pins s σ H _ _ v us Q I rx rs ⟨_, p, ys.map S', rfl, rfl, hp, ?_, ?_⟩
      · rw [List.length_map, List.map_map, S'_len]
        have e1 : (ys.map ((fun x : Str => x.length) ∘ S')).sum = (ys.map List.length).sum := by
          congr 1
        rw [e1]
        exact hz
      · rw [join_S']
        refine q.str st (Nat.le_trans (gluei_len z ys) hz) fun c hcm => ?_
        rcases gluei_mem z ys c hcm with h | ⟨y, hy, h⟩
        · exact c1 c h
        · exact hc y hy c h
    · cases he
  unfold meD at e
  split at e
  · rename_i z ds _
    obtain ⟨y, rfl, h⟩ := repRs1 rb
    cases es : strsD ds with
    | none => rw [es] at e; cases e
    | some ys =>
      rw [es] at e
      obtain ⟨p, vs, rfl, h1, _, h3⟩ := h
      exact key z ds ys p vs rfl es rfl (.inl (SqL.of h1)) h3 e
  · rename_i z ds _
    obtain ⟨y, rfl, h⟩ := repRs1 rb
    cases es : strsD ds with
    | none => rw [es] at e; cases e
    | some ys =>
      rw [es] at e
      obtain ⟨p, vs, rfl, h1, _, h3⟩ := h
      exact key z ds ys p vs rfl es rfl (.inr h1.sq) h3 e
  all_goals first
    | (cases e; done)
    | (rename_i h; cases h; done)
    | (rename_i h _; cases h; done)
    | (rename_i h _ _; cases h; done)
    | (rename_i h _ _ _; cases h; done)
    | (rename_i h _ _ _ _; cases h; done)
def rSub (P : Par) : R2 := fun x y H Q => ∃ W M a b d, StoR P W M H ∧ RepR P W H a x ∧ RepR P W H b y ∧ subD a b = some d ∧ PostE P W M H d Q
theorem atI_same {α : Type} (xs : List α) (i : Int) : L2.atI xs i = atI xs i := rfl
theorem atI_reps {W : Wd} {H : Hp} {ds : List D} {vs : List V} {i : Int} {d : D} (h : Reps P W H ds vs) (e : atI ds i = some d) : ∃ v, L2.atI vs i = some v ∧ Rep P W H d v := by
  unfold atI at e
  cases z : ixN ds.length i with
  | none => rw [z] at e; cases e
  | some j =>
    rw [z] at e
    obtain ⟨v, h1, h2⟩ := h.get (show ds[j]? = some d from e)
    refine ⟨v, ?_, h2⟩
    show (ixN vs.length i).bind (fun j => vs[j]?) = some v
    rw [h.length, z]
    exact h1
theorem ix_sub (hK : X.K = P.K) (hw : X.w = P.w) (hu : X.A.units + 66 < cLine) : IxR X (rSub P) := by
  intro value slice pins s σ H x y v u Q I rx ry h hs
  obtain ⟨W, M, a, b, d, st, ra, rb, e, q⟩ := h
  unfold subD at e
  split at e
  · rename_i z i
    cases e1 : atI z i with
    | none => rw [e1] at e; cases e
    | some c =>
      rw [e1] at e
      cases e
      obtain ⟨rfl, hl, hc⟩ := ra
      cases rb
      have hm : c ∈ z := by
        unfold atI at e1
        cases e2 : ixN z.length i with
        | none => rw [e2] at e1; cases e1
        | some j => rw [e2] at e1; exact List.mem_of_getElem? e1
      exact ix_str value slice pins s σ H _ _ v u Q I rx ry ⟨S' z, i, c, rfl, rfl, by rw [S'_len, ← SZ_line]; exact hl, e1, q.same st ⟨rfl, (by show 1 ≤ SZ; decide), fun c' h => by
        have : c' = c := by simpa using h
        rw [this]; exact hc c hm⟩⟩ hs
  · obtain ⟨p, vs, rfl, h1, h2, h3⟩ := ra
    cases rb
    obtain ⟨w, e1, h4⟩ := atI_reps h3 e
    have h1' := h1.sq
    rw [← hK] at h1'
    exact ix_tup value slice pins s σ H _ _ v u Q I rx ry ⟨p, vs, _, w, rfl, rfl, h1', e1, q.same st h4⟩ hs
  · obtain ⟨p, vs, rfl, h1, h2, h3⟩ := ra
    cases rb
    obtain ⟨w, e1, h4⟩ := atI_reps h3 e
    exact ix_list value slice pins s σ H _ _ v u Q I rx ry ⟨p, vs, _, w, rfl, rfl, SqL.of h1, e1, q.same st h4⟩ hs
  · rename_i t kvs k
    split at e
    · rename_i hz
      obtain ⟨p, o, rfl, dg, ho⟩ := dget hz rb ra
      rcases ho with ⟨h1, _⟩ | ⟨d', v', h1, rfl, h3⟩
      · rw [h1] at e; cases e
      · rw [h1] at e
        cases e
        cases (show v = Value.ref p from rx)
        exact tail_any (dict_typeIs I dg) PySem.F.slot_dict_getitem.lookup (d_getItem (by omega) I dg ry fun w' s' I' r' => ⟨v', H, I', r', q.same st h3⟩) hs
    · cases e
  · rename_i kvs z
    obtain ⟨p, es, n, rfl, kd, h1, h2⟩ := ra
    obtain ⟨u', v', e1, e2, e3⟩ := h2.get e
    rw [← hK] at e1
    rw [← hK, ← hw] at kd
    exact ix_kdict value slice pins s σ H _ _ v u Q I rx ry ⟨p, S' z, v', rfl, rb.1, ⟨es, n, u', kd.at_, kd.lit, e1, e2⟩, q.same st e3⟩ hs
  · cases e
def rSlc (P : Par) : V → Option Int → Option Int → Hp → VK → Prop := fun x lo hi H Q => ∃ W M a d, StoR P W M H ∧ RepR P W H a x ∧ slcD a lo hi = some d ∧ PostF P W M H d Q
theorem cut_same {α : Type} (xs : List α) (lo hi : Option Int) : (xs.drop (HT.sIx xs.length 0 lo)).take (HT.sIx xs.length xs.length hi - HT.sIx xs.length 0 lo) = cut xs lo hi := rfl
theorem cut_reps {W : Wd} {H : Hp} {ds : List D} {vs : List V} (h : Reps P W H ds vs) (lo hi : Option Int) : Reps P W H (cut ds lo hi) (cutV vs lo hi) := by
  unfold cut cutV
  rw [h.length]
  exact (h.drop _).take _
theorem cut_len {α : Type} (xs : List α) (lo hi : Option Int) : (cut xs lo hi).length ≤ xs.length := by
  unfold cut
  rw [List.length_take, List.length_drop]
  omega
theorem cut_mem {α : Type} {xs : List α} {lo hi : Option Int} {c : α} (h : c ∈ cut xs lo hi) : c ∈ xs := List.mem_of_mem_drop (List.mem_of_mem_take h)
theorem sl_slc (hK : X.K = P.K) : SlR X (rSlc P) := by
  intro pins s σ H x v vl vu lo hi sl Q I rx hs pl pu h
  obtain ⟨W, M, a, d, st, ra, e, q⟩ := h
  unfold slcD at e
  split at e
  · cases e
    obtain ⟨rfl, hl, hc⟩ := ra
    refine sl_str pins s σ H _ v vl vu lo hi sl Q I rx hs pl pu ⟨_, rfl, by rw [S'_len, ← SZ_line]; exact hl, ?_⟩
    have := q.str st (Nat.le_trans (cut_len _ lo hi) hl) fun c hm => hc c (cut_mem hm)
    unfold cutS
    rw [S'_len]
    exact this
  · cases e
    have q' := q.e rfl
    have ra0 := ra
    obtain ⟨p, vs, rfl, h1, h2, h3⟩ := ra
    have h1' := h1.sq
    rw [← hK] at h1'
    refine sl_tupA pins s σ H _ v vl vu lo hi sl Q I rx hs pl pu ⟨p, vs, rfl, h1', fun hw => ?_, fun _ p np => q'.tup st np (Nat.le_trans (cut_len _ lo hi) h2) (cut_reps h3 lo hi)⟩
    rename_i ds
    have ew : cut ds lo hi = ds := by
      rw [h3.length] at hw
      unfold cut
      have w1 : sIx ds.length 0 lo = 0 := hw.1
      have w2 : sIx ds.length ds.length hi = ds.length := hw.2
      rw [w1, w2]
      simp
    have q2 : PostE P W M H (.tup (cut ds lo hi)) Q := q'
    rw [ew] at q2
    exact q2.same st ra0
  · cases e
    obtain ⟨p, vs, rfl, h1, h2, h3⟩ := ra
    exact sl_list pins s σ H _ v vl vu lo hi sl Q I rx hs pl pu ⟨p, vs, rfl, SqL.of h1, fun p np => q.lst st np (Nat.le_trans (cut_len _ lo hi) h2) (cut_reps h3 lo hi)⟩
  · cases e
    obtain ⟨p, vs, rfl, h1, h2, h3⟩ := ra
    have h1 := h1.sq
    rw [← hK] at h1
    exact sl_list pins s σ H _ v vl vu lo hi sl Q I rx hs pl pu ⟨p, vs, rfl, h1, fun p np => q.lst st np (Nat.le_trans (cut_len _ lo hi) h2) (cut_reps h3 lo hi)⟩
  · cases e
end
end Ev
set_option Elab.async false
set_option linter.all false
set_option autoImplicit false
set_option maxRecDepth 100000
set_option maxHeartbeats 4000000
namespace Ev
open PySem PySem.Spec PyProof.Rows L2
theorem sort_congr {α : Type} {r s : α → α → Bool} {l : List α} (h : ∀ a ∈ l, ∀ b ∈ l, r a b = s a b) : l.mergeSort r = l.mergeSort s := by
  have e := List.map_mergeSort (f := fun a : α => a) (r := r) (s := s) (l := l) h
  simpa using e
section
variable {X : Cx} {P : Par}
theorem each_of {α β : Type} {R : α → β → Prop} : ∀ {as : List α} {bs : List β}, as.length = bs.length → (∀ i (h1 : i < as.length) (h2 : i < bs.length), R as[i] bs[i]) → PySem.W.EachIs R as bs
  | [], [], _, _ => .nil
  | a :: as, b :: bs, h, k => .cons (k 0 (by simp) (by simp)) (each_of (by simpa using h) fun i h1 h2 => k (i + 1) (by simpa using h1) (by simpa using h2))
  | [], _ :: _, h, _ => by simp at h
  | _ :: _, [], h, _ => by simp at h
def ValR (P : Par) (W : Wd) (H : Hp) (u : Value) (d : D) : Prop := ∃ x, RelV x u ∧ Rep P W H d x
theorem each_reps {W : Wd} {H : Hp} : ∀ {ds : List D} {vs : List V} {us : List Value}, Reps P W H ds vs → Vals vs us → PySem.W.EachIs (ValR P W H) us ds
  | [], _, _, h, r => by
    have e : _ = [] := h
    subst e
    cases r
    exact .nil
  | d :: ds, _, _, h, r => by
    obtain ⟨v, r', rfl, h1, h2⟩ := h
    cases r with
    | cons ru rr => exact .cons ⟨v, ru, h1⟩ (each_reps h2 rr)
theorem reps_each {W : Wd} {H : Hp} : ∀ {us : List Value} {ds : List D}, PySem.W.EachIs (ValR P W H) us ds → ∃ vs, Vals vs us ∧ Reps P W H ds vs
  | [], [], _ => ⟨[], .nil, Reps.nil⟩
  | u :: us, d :: ds, .cons ⟨x, h1, h2⟩ r => by
    obtain ⟨vs, h3, h4⟩ := reps_each r
    exact ⟨x :: vs, .cons h1 h3, Reps.cons h2 h4⟩
theorem each_imp {α β : Type} {R R' : α → β → Prop} : ∀ {as : List α} {bs : List β}, PySem.W.EachIs R as bs → (∀ a, ∀ b ∈ bs, R a b → R' a b) → PySem.W.EachIs R' as bs
  | _, _, .nil, _ => .nil
  | _, _, .cons h r, k => .cons (k _ _ List.mem_cons_self h) (each_imp r fun a b hb => k a b (List.mem_cons_of_mem _ hb))
theorem sort_facts {ds : List D} (ok : sortOk ds = true) : (∀ a ∈ ds, plain a = true ∧ depth a ≤ 64) ∧ PySem.W.AllAlike (ds.map toP) ∧ PySem.W.Sortable (ds.map toP) ∧ ds.mergeSort (PySem.W.dataLe false toP) = ds.mergeSort dle := by
  unfold sortOk at ok
  simp only [Bool.and_eq_true, Bool.or_eq_true, List.all_eq_true, decide_eq_true_eq] at ok
  obtain ⟨o1, o2⟩ := ok
  have pl1 : ∀ a ∈ ds, plain a = true := fun a ha => (o1 a ha).1.1
  have al1 : ∀ a ∈ ds, ∀ b ∈ ds, alike a b = true := fun a ha b hb => (o1 a ha).2 b hb
  refine ⟨fun a ha => (o1 a ha).1, fun a ha b hb => ?_, ?_, sort_congr fun a ha b hb => ?_⟩
  · obtain ⟨a', ha', rfl⟩ := List.mem_map.mp ha
    obtain ⟨b', hb', rfl⟩ := List.mem_map.mp hb
    exact alike_toP _ _ (al1 a' ha' b' hb')
  · rcases o2 with o2 | o2
    · refine .inl fun a ha => ?_
      obtain ⟨a', ha', rfl⟩ := List.mem_map.mp ha
      have := o2 a' ha'
      cases a' with
      | tup xs =>
        cases xs with
        | nil => cases this
        | cons x r => exact ⟨_, _, rfl⟩
      | _ => cases this
    · refine .inr fun a ha => ?_
      obtain ⟨a', ha', rfl⟩ := List.mem_map.mp ha
      have h1 := o2 a' ha'
      have h2 := pl1 a' ha'
      cases a' <;> first | (cases h1; done) | (cases h2; done) | exact ⟨fun z => (nomatch z), fun _ z => (nomatch z)⟩
  · rw [PySem.W.dataLe_eq]
    show (!PySem.W.dataLt (toP b) (toP a)) = !dlt b a
    rw [dlt_toP b a (pl1 b hb) (pl1 a ha) (al1 b hb a ha)]
theorem srt_list {pins : List (Addr × Obj)} {s : Shared} {σ : L2.St} {H : Hp} {Q : VK} {W : Wd} {M : Sto} {ds : List D} {p : Addr} {vs : List V} (hK : X.K = P.K) (hu : X.A.units + 66 < cLine) (I : Inv X pins σ H s) (st : StoR P W M H) (ok : sortOk ds = true) (eh : H p = some (.lst vs)) (hl : ds.length ≤ SZ) (rs : Reps P W H ds vs)
    (q : PostF P W M H (.lst (ds.mergeSort dle)) Q) : wpAny (model X.prog X.w) X.A (call (.builtin "sorted") [.ref p]) (EP X pins σ Q) X.xe s := by
  obtain ⟨its, rv, pl, hz⟩ := I.list (.inl (.inl eh))
  obtain ⟨f1, hal, hk, ec⟩ := sort_facts ok
  have er := each_reps rs rv
  refine PySem.W.sorted_data (bs := ds) (enc := toP) (R := ValR P W H) pl.isList er (each_imp er fun u b hb ⟨x, ru, rx⟩ => ?_) hal hk (by rw [← SZ_line]; exact hl) (fun b hb => ?_) fun out ho eo => ?_
  · have dp := (Rep.dp (f1 b hb).1 rx).1
    rw [← hK] at dp
    exact Dp.reads I _ _ _ dp ru
  · rw [depth_toP b (f1 b hb).1]
    have := (f1 b hb).2
    omega
  · rw [ec] at eo
    obtain ⟨zs, v1, r1⟩ := reps_each eo
    obtain ⟨ep, he'⟩ := PyProof.Rows.sortedAll_at s.heap its out.toArray
    have ln : (ds.mergeSort dle).length = ds.length := List.length_mergeSort _
    have hlen : zs.length ≤ sizeLine := by rw [r1.length, ln, ← SZ_line]; exact hl
    exact ⟨.ref _, upd H (s.heap.objs.size + 1) (.lst zs), I.laid (t' := s.toks) (fun _ _ => PyProof.Rows.sortedAll_old) (Nat.le_succ _) ⟨hlen, out, ep, v1, he'⟩, rfl, q.lst st (I.hok.fresh (Nat.le_succ _)) (by rw [ln]; exact hl) r1⟩
theorem srt_src {pins : List (Addr × Obj)} {s : Shared} {σ : L2.St} {H : Hp} {Q : VK} {W : Wd} {M : Sto} {ds : List D} {p : Addr} {T : String} {n : Nat} {Pk : Nat → Value → Prop} {OK : Heap → Prop} (hK : X.K = P.K) (hc : X.calm = true) (hu : X.A.units + 66 < cLine) (I : Inv X pins σ H s) (st : StoR P W M H) (ok : sortOk ds = true)
    (S : PySem.W.KdlSrc X.prog X.w T p p n Pk OK) (hok : OK s.heap) (hn : n ≤ sizeLine) (hl : ds.length ≤ SZ) (it : ∀ acc : Array Value, ItemsOf Pk acc n → ∃ vs, Vals vs acc.toList ∧ Reps P W H ds vs) (q : PostF P W M H (.lst (ds.mergeSort dle)) Q) :
    wpAny (model X.prog X.w) X.A (call (.builtin "sorted") [.ref p]) (EP X pins σ Q) X.xe s := by
  obtain ⟨f1, hal, hk, ec⟩ := sort_facts ok
  refine Calls.call_function_entry PyProof.Rows.kind_sorted PyProof.Rows.plain_sorted PyProof.Rows.entry_sorted (PyProof.Rows.args_sorted1 _) ?_
  unfold Builtin.«sorted»
  refine wpAny_bind (m := checkCount "sorted" 1 1 _) (wpAny_pure ?_)
  refine wpAny_bind (PySem.W.kdu_collect (A := X.A.in1) S (I.ok.hd hc) hok hn fun h1 t1 acc kp hacc => ?_)
  obtain ⟨vs, rv, rs⟩ := it acc hacc
  have I1 : Inv X pins σ H { s with heap := h1, toks := t1 } := I.kept kp
  have er := each_reps rs rv
  have la : acc.toList.length = ds.length := by rw [← rv.length, rs.length]
  have lz : acc.toList.length ≤ sizeLine := by rw [la, ← SZ_line]; exact hl
  refine wpAny_bind (wpAny_newList ?_ lz)
  have at1 : (h1.push (seqObj "list" acc.toList.toArray 0)).get? h1.objs.size = some (seqObj "list" acc.toList.toArray 0) := Heap.get?_push_size _ rfl
  show wpAny _ _ _ _ _ { s with heap := h1.push (seqObj "list" acc.toList.toArray 0), toks := t1 }
  have old : ∀ b o, h1.get? b = some o → (PySem.W.sortingHeap (h1.push (seqObj "list" acc.toList.toArray 0)) h1.objs.size acc.toList).get? b = some o := fun b o e => PySem.W.sortingHeap_old (Nat.ne_of_lt (Heap.lt_size e)) (Heap.get?_push_of_some _ e)
  have er' : PySem.W.EachIs (fun v b => ∃ as, Reads (PySem.W.sortingHeap (h1.push (seqObj "list" acc.toList.toArray 0)) h1.objs.size acc.toList) v (toP b) as) acc.toList ds := each_imp er fun u b hb ⟨x, ru, rx⟩ => by
    have dp := (Rep.dp (f1 b hb).1 rx).1
    rw [← hK] at dp
    obtain ⟨as, r⟩ := Dp.reads I1 _ _ _ dp ru
    exact ⟨as, PyProof.Rows.Reads.keeps old r⟩
  refine wpAny_bind (wpAny_holding (wpAny_call_entry PyProof.Rows.slot_list_sort ⟨_, at1, rfl⟩ PyProof.Rows.entry_list_sort
    (PySem.W.list_sort_vals (s := { s with heap := h1.push (seqObj "list" acc.toList.toArray 0), toks := t1 }) at1 (PySem.W.SortsAt.data (PySem.W.each_map toP er') hal hk (PySem.W.bound_map fun b hb => ?_)) lz ⟨_, rfl, ?_⟩) (PyProof.Rows.args_list_sort _)))
  · rw [depth_toP b (f1 b hb).1]
    have := (f1 b hb).2
    show X.A.units + 2 + depth b < cLine
    omega
  · have eo := PySem.W.sortVals_data false er er' hal
    rw [ec] at eo
    obtain ⟨zs, v1, r1⟩ := reps_each eo
    obtain ⟨ep, he'⟩ := PyProof.Rows.sortedHeap_at (vs := acc.toList) (out := (PySem.W.sortVals (PySem.W.dataKind (PySem.W.sortingHeap (h1.push (seqObj "list" acc.toList.toArray 0)) h1.objs.size acc.toList) (ds.map toP)) false acc.toList acc.toList).toArray) at1
    have ln : (ds.mergeSort dle).length = ds.length := List.length_mergeSort _
    have hlen : zs.length ≤ sizeLine := by rw [r1.length, ln, ← SZ_line]; exact hl
    refine wpAny_pure ⟨_, rfl, .ref h1.objs.size, upd H h1.objs.size (.lst zs), I1.laid (t' := t1) (fun b u e => ?_) (Nat.le_refl _) ⟨hlen, _, ep, v1, he'⟩, rfl, q.lst st (I1.hok.fresh (Nat.le_refl _)) (by rw [ln]; exact hl) r1⟩
    have hb : b < h1.objs.size := Heap.lt_size e
    rw [PyProof.Rows.sortedHeap_old (Nat.ne_of_lt hb) (by rw [size_push']; exact Nat.lt_succ_of_lt hb)]
    exact Heap.get?_push_of_some _ e
theorem cr_srt (hK : X.K = P.K) (hc : X.calm = true) (hu : X.A.units + 66 < cLine) : CallR X (.builtin "sorted") (rBi P .sorted) := by
  intro pins s σ H xs us Q I r h
  obtain ⟨W, M, as, d, st, ra, e, q⟩ := h
  have e0 : ∃ a ds, as = [a] ∧ keysOf a = some ds ∧ sortOk ds = true ∧ d = .lst (ds.mergeSort dle) := by
    unfold biD at e
    split at e <;> first | (cases e; done) | skip
    all_goals first | (rename_i h1 _; cases h1; done) | (rename_i h1; cases h1; done) | skip
    rename_i a _
    cases z : keysOf a with
    | none => rw [z] at e; cases e
    | some ds =>
      rw [z] at e
      have e : (if sortOk ds then some (D.lst (ds.mergeSort dle)) else none) = some d := e
      split at e
      · rename_i ok
        cases e
        exact ⟨_, _, rfl, z, ok, rfl⟩
      · cases e
  obtain ⟨a, ds, rfl, ek, ok, rfl⟩ := e0
  obtain ⟨x, rfl, hx⟩ := repRs1 ra
  cases a with
  | lst xs =>
    cases ek
    obtain ⟨p, vs, rfl, eh, hl, rs⟩ := hx
    rw [Vals.ref1 r]
    exact srt_list hK hu I st ok eh hl rs q
  | dct t kvs =>
    cases ek
    obtain ⟨p, o, vs, rfl, ho, dc, hl, rp⟩ := hx
    rw [Vals.ref1 r]
    have hl' : (kvs.map (·.1)).length ≤ SZ := by rw [List.length_map]; exact hl
    cases t with
    | false =>
      obtain ⟨m, rfl, hk, hv⟩ := dctK dc
      obtain ⟨z, lo, vs, rel, dd⟩ := dk_rd I.hok ho
      obtain ⟨ep, hat⟩ := dd.dictAt
      refine srt_src hK hc hu I st ok (PySem.W.kdl_dict (knd := mixKind X.prog X.w) (kvs := vs) (ep := ep) lo) hat (by rw [← rel.length]; exact z) hl' (fun acc hacc => ⟨m.map fun p => kV p.1, ?_, by rw [hk]; exact keys_repK fun j hj => dc.1 j (by rw [hk]; exact hj)⟩) q
      have ek : (m.map fun kv => kV kv.1) = vs.map fun p => kV p.1 := by
        have e := congrArg (List.map kV) rel.keys
        rw [List.map_map, List.map_map] at e
        exact e
      rw [ek]
      exact keys_at (by rw [Array.length_toList]; exact hacc.1) fun j v e => hacc.2 j v (by rw [← Array.getElem?_toList]; exact e)
    | true =>
      obtain ⟨m, rfl, hk, hv⟩ := dctT dc
      obtain ⟨z, hs, ks, pr, o, es, ep, ho2, hx, hdt, he, hn⟩ := (show ObjOk X.prog X.w H s.heap p (.dT m) from ho.ok I.hok)
      have l1 : es.size = ks.length := size_of_entries he
      have l2 : m.length = ks.length := Paired.length pr
      refine srt_src hK hc hu I st ok (kdl_raw hs hx hdt) ho2 (by omega) hl' (fun acc it => ⟨(ks.map fun x => x.2.1).map V.ref, ?_, by rw [hk]; exact keys_repT (isKeys_of pr) fun j hj => dc.1 j (by rw [hk]; exact hj)⟩) q
      have el : acc.toList = (ks.map fun x => x.2.1).map Value.ref := by
        refine List.ext_getElem? fun j => ?_
        rw [List.map_map, List.getElem?_map]
        cases hb : ks[j]? with
        | none =>
          rw [List.getElem?_eq_none_iff] at hb
          exact List.getElem?_eq_none (by rw [Array.length_toList, it.1]; omega)
        | some b =>
          have hj : j < acc.toList.length := by
            have := (List.getElem?_eq_some_iff.mp hb).1
            rw [Array.length_toList, it.1]
            omega
          obtain ⟨en, hen, hv⟩ := it.2 j acc.toList[j] (by rw [← Array.getElem?_toList]; exact List.getElem?_eq_getElem hj)
          have qe := entry_at he j
          rw [hen, hb] at qe
          rw [List.getElem?_eq_getElem hj, hv, Option.some.inj qe]
          rfl
      rw [el]
      exact vals_refs _
  | _ => cases ek
def biAll : Bi → Bool
  | .sorted => true
  | b => biCall b
theorem cr_all (b : Bi) (hb : biAll b = true) (hK : X.K = P.K) (hc : X.calm = true) (hu : X.A.units + 66 < cLine) : CallR X (biVal b) (rBi P b) := by
  cases b <;> first
    | exact cr_srt hK hc hu
    | exact cr_bi _ (show biCall _ = true from hb) hK hc
end
end Ev
set_option Elab.async false
set_option linter.all false
set_option autoImplicit false
set_option maxRecDepth 100000
set_option maxHeartbeats 4000000
namespace Ev
open PySem PySem.Spec PyProof.Rows L2
structure Cfg where
  gl : List (Str × D)
  bi : List (Str × Bi)
  ty : List (Str × String)
  ex : List Nat
  nc : Nat
  nf : Nat
mutual
def same : D → D → Bool
  | .non, .non => true
  | .bl a, .bl b => a == b
  | .int a, .int b => a == b
  | .str a, .str b => a == b
  | .tup a, .tup b => sames a b
  | .fn a, .fn b => a == b
  | .cl a, .cl b => a == b
  | .ty a, .ty b => a == b
  | .kd a, .kd b => samek a b
  | _, _ => false
def sames : List D → List D → Bool
  | [], [] => true
  | x :: xs, y :: ys => same x y && sames xs ys
  | _, _ => false
def samek : List (List Nat × D) → List (List Nat × D) → Bool
  | [], [] => true
  | x :: xs, y :: ys => samep x y && samek xs ys
  | _, _ => false
def samep : List Nat × D → List Nat × D → Bool
  | (x, d), (y, e) => x == y && same d e
end
mutual
theorem same_eq : ∀ a b : D, same a b = true → a = b
  | .non, b, h => by cases b <;> first | rfl | simp [same] at h
  | .bl _, b, h => by cases b <;> first | (simp [same] at h; subst h; rfl) | simp [same] at h
  | .int _, b, h => by cases b <;> first | (simp [same] at h; subst h; rfl) | simp [same] at h
  | .str _, b, h => by cases b <;> first | (simp [same] at h; subst h; rfl) | simp [same] at h
  | .fn _, b, h => by cases b <;> first | (simp [same] at h; subst h; rfl) | simp [same] at h
  | .cl _, b, h => by cases b <;> first | (simp [same] at h; subst h; rfl) | simp [same] at h
  | .tup xs, b, h => by
    cases b with
    | tup ys => rw [sames_eq xs ys (by simpa [same] using h)]
    | _ => simp [same] at h
  | .lst _, _, h => by simp [same] at h
  | .dct _ _, _, h => by simp [same] at h
  | .itr _, _, h => by simp [same] at h
  | .obj _, _, h => by simp [same] at h
  | .ty _, b, h => by cases b <;> first | (simp [same] at h; subst h; rfl) | simp [same] at h
  | .scr _, _, h => by simp [same] at h
  | .kd xs, b, h => by
    cases b with
    | kd ys => rw [samek_eq xs ys (by simpa [same] using h)]
    | _ => simp [same] at h
theorem sames_eq : ∀ a b : List D, sames a b = true → a = b
  | [], [], _ => rfl
  | [], _ :: _, h => by simp [sames] at h
  | _ :: _, [], h => by simp [sames] at h
  | x :: xs, y :: ys, h => by
    have h' : same x y = true ∧ sames xs ys = true := by simpa [sames] using h
    rw [same_eq x y h'.1, sames_eq xs ys h'.2]
theorem samek_eq : ∀ a b : List (List Nat × D), samek a b = true → a = b
  | [], [], _ => rfl
  | [], _ :: _, h => by simp [samek] at h
  | _ :: _, [], h => by simp [samek] at h
  | x :: xs, y :: ys, h => by
    have h' : samep x y = true ∧ samek xs ys = true := by simpa [samek] using h
    rw [samep_eq x y h'.1, samek_eq xs ys h'.2]
theorem samep_eq : ∀ a b : List Nat × D, samep a b = true → a = b
  | (x, d), (y, e), h => by
    have h' : x = y ∧ same d e = true := by simpa [samep] using h
    rw [h'.1, same_eq d e h'.2]
end
def vis (sc : Scope) (x : Str) : Bool := match sc.names.lookup x with
  | some .local => true
  | some .cell => true
  | some .free => true
  | _ => false
def glob (sc : Scope) (x : Str) : Bool := match sc.names.lookup x with
  | some .globalImplicit => true
  | _ => false
def locl (sc : Scope) (x : Str) : Bool := match sc.names.lookup x with
  | some .local => true
  | some .cell => true
  | _ => false
def plainName (x : Str) : Bool := !(x == ("__debug__" : Str)) && !(x == ("__classdict__" : Str)) && !(x == ("__name__" : Str))
def slotB (N : List Str) (sc : Scope) (i : Nat) (x : Str) : Bool := decide (N[i]? = some x) && vis sc x && plainName x
def isNew : E → Bool
  | .lst _ => true
  | .comp _ _ _ _ => true
  | .dcomp _ _ _ _ _ => true
  | .dct _ _ => true
  | .bin _ _ _ => true
  | .slc _ _ _ => true
  | .bi _ _ => true
  | _ => false
def unB : Expr → Expr
  | .BoolOp op [x] pos => x
  | e => e
def notSet : Expr → Bool
  | .Set _ _ _ => false
  | _ => true
def notSlice : Expr → Bool
  | .Slice _ _ _ _ => false
  | _ => true
def notStar : Expr → Bool
  | .Starred _ _ => false
  | _ => true
def nameOf : Expr → Option Str
  | .Name x _ => some x
  | _ => none
def notCall0 : Expr → Bool
  | .Call _ [] [] _ => false
  | _ => true
def ownOf (t : Tg) (tg : Expr) : Option (List (Str × Nat)) := match t, tg with
  | .one i, .Name x _ => some [(x, i)]
  | .tup is, .Tuple es _ _ => (es.mapM nameOf).bind fun xs => if xs.length = is.length then some (xs.zip is) else none
  | _, _ => none
def plainE : Expr → Bool
  | .BoolOp _ _ _ => false
  | .Compare _ _ _ _ => false
  | .UnaryOp _ _ _ => false
  | .IfExp _ _ _ _ => false
  | .NamedExpr _ _ _ => false
  | _ => true
def namesC (fb : Str → Bool) (N : List Str) (sc : Scope) : List Nat → List Expr → Bool
  | [], es => es.isEmpty
  | i :: is, es => (match es with
    | .Name x _ :: es => decide (N[i]? = some x) && locl sc x && (fb x || decide (sc.names.lookup x = some .local)) && namesC fb N sc is es
    | _ => false)
def chkG (fb : Str → Bool) (N : List Str) (sc : Scope) : Tg → Expr → Bool
  | .one i, .Name x _ => decide (N[i]? = some x) && locl sc x && (fb x || decide (sc.names.lookup x = some .local))
  | .tup is, .Tuple es _ _ => namesC fb N sc is es
  | _, _ => false
def cellB (scope : Scope) (x : Str) : Bool := scope.names.lookup x == some .cell
def keysX : List (Option Expr) → Option (List Expr)
  | [] => some []
  | some k :: r => (keysX r).map (k :: ·)
  | none :: _ => none
def turnX : List Expr → List Expr → List Expr
  | k :: ks, v :: vs => k :: v :: turnX ks vs
  | _, _ => []
def isSubX : Expr → Bool
  | .Subscript _ _ _ => true
  | _ => false
def isTupX : Expr → Bool
  | .Tuple _ _ _ => true
  | _ => false
def tstB : E → Bool
  | .ite _ _ _ => false
  | .and a b => tstB a && tstB b
  | .or a b => tstB a && tstB b
  | .not a => tstB a
  | _ => true
def muT : Mu → String
  | .append => "list"
  | .extend => "list"
  | .pop => "list"
  | .popAt => "list"
  | _ => "dict"
def muN : Mu → Str
  | .append => "append"
  | .extend => "extend"
  | .pop => "pop"
  | .popAt => "pop"
  | .popK => "pop"
  | .upd => "update"
  | .put => ""
def muI : Mu → String
  | .append => "list.append"
  | .extend => "list.extend"
  | .pop => "list.pop"
  | .popAt => "list.pop"
  | .popK => "dict.pop"
  | .upd => "dict.update"
  | .put => ""
def muLet : Mu → Bool
  | .extend => true
  | _ => false
def muB (m : Mu) (as : List E) (es : List Expr) : Bool := !decide (m = .put) && decide (es.length ≤ 1) && (muLet m || as.all fun a => !isBor a)
mutual
def chkE (g : Cfg) (N : List Str) (ow : List Nat) (sc : Scope) : E → Expr → Bool
  | .var i, e => (match e with
    | .Name x _ => slotB N sc i x && !ow.contains i
    | _ => false)
  | .bor i, e => (match e with
    | .Name x _ => slotB N sc i x
    | _ => false)
  | .con d, e => (match e with
    | .Constant (.int i) _ _ => same d (.int i)
    | .Constant (.bool b) _ _ => same d (.bl b)
    | .Constant .none _ _ => same d .non
    | .Constant (.str x) _ _ => same d (.str x.cps.toList) && decide (x.cps.size ≤ SZ) && x.cps.toList.all fun c => decide (c < 1114112)
    | .Name x _ => glob sc x && plainName x && (match g.gl.lookup x with
      | some d' => same d d'
      | none => (match g.ty.lookup x, d with
        | some t, .ty n => t == n
        | _, _ => false))
    | _ => false)
  | .neg a, e => (match e with
    | .UnaryOp .USub x _ => chkE g N ow sc a x
    | _ => false)
  | .bin o a b, e => (match e with
    | .BinOp x op y _ => decide (op = boOp o) && chkE g N ow sc a x && chkE g N ow sc b y
    | _ => false)
  | .cmp o a b, e => (match e with
    | .Compare x [op] [y] _ => decide (op = coOp o) && notSet y && chkE g N ow sc a x && chkE g N ow sc b y
    | _ => false)
  | .chain o o' a b c, e => (match e with
    | .Compare x [op, op'] [y, z] _ => decide (op = coOp o) && decide (op' = coOp o') && notSet y && notSet z && chkE g N ow sc a x && chkE g N ow sc b y && chkE g N ow sc c z
    | _ => false)
  | .and a b, e => (match e with
    | .BoolOp .And (x :: y :: rest) pos => !isBor b && chkE g N ow sc a x && chkE g N ow sc b (unB (.BoolOp .And (y :: rest) pos))
    | _ => false)
  | .or a b, e => (match e with
    | .BoolOp .Or (x :: y :: rest) pos => !isBor b && chkE g N ow sc a x && chkE g N ow sc b (unB (.BoolOp .Or (y :: rest) pos))
    | _ => false)
  | .not a, e => (match e with
    | .UnaryOp .Not x _ => chkE g N ow sc a x && tstB a
    | _ => false)
  | .ite c a b, e => (match e with
    | .IfExp x y z _ => tstB c && chkE g N ow sc c x && chkE g N ow sc a y && chkE g N ow sc b z && !isBor a && !isBor b
    | _ => false)
  | .call f as, e => (match e with
    | .Call (.Name x _) es [] _ => glob sc x && plainName x && (match g.gl.lookup x with | some d => same d (.fn f) | none => false) && chkEs g N ow sc as es && as.all fun a => !isBor a
    | _ => false)
  | .callv n f as, e => (match e with
    | .Call fx es [] _ => decide (n = g.nf) && isSubX fx && chkE g N ow sc f fx && !es.isEmpty && chkEs g N ow sc as es && !isBor f && as.all fun a => !isBor a
    | _ => false)
  | .bi b as, e => (match e with
    | .Call (.Name x _) (y :: es) [] _ => glob sc x && plainName x && (match g.bi.lookup x with | some b' => decide (b = b') | none => false) && biAll b && chkEs g N ow sc as (y :: es)
    | _ => false)
  | .join a b, e => (match e with
    | .Call (.Attribute o name apos) [y] [] pos => decide (name = ("join" : Str)) && notStar y && notCall0 o && (apos.endLine == pos.line) && chkE g N ow sc a o && chkE g N ow sc b y
    | _ => false)
  | .me m a as, e => (match e with
    | .Call (.Attribute o name apos) es [] pos => (match m with
      | .get => decide (name = ("get" : Str)) && (decide (es.length = 1) || decide (es.length = 2)) && notCall0 o && (apos.endLine == pos.line) && chkE g N ow sc a o && chkEs g N ow sc as es && as.all fun a => !isBor a
      | _ => false)
    | _ => false)
  | .mu m a as, e => (match e with
    | .Call (.Attribute o name apos) es [] pos => decide (name = muN m) && notCall0 o && (apos.endLine == pos.line) && !isBor a && muB m as es && chkE g N ow sc a o && chkEs g N ow sc as es
    | _ => false)
  | .tup as, e => (match e with
    | .Tuple es _ _ => chkEs g N ow sc as es && decide (as.length ≤ SZ) && as.all fun a => !isBor a
    | _ => false)
  | .lst as, e => (match e with
    | .List es _ => chkEs g N ow sc as es && decide (as.length ≤ SZ) && as.all fun a => !isBor a
    | _ => false)
  | .dct t as, e => (match e with
    | .Dict keys values _ => (match keysX keys with
      | some ks => decide (ks.length = values.length) && decide (ks.length ≤ 15) && (!t || ks.isEmpty) && chkEs g N ow sc as (turnX ks values) && as.all fun a => !isBor a
      | none => false)
    | _ => false)
  | .sub a i, e => (match e with
    | .Subscript x y _ => notSlice y && chkE g N ow sc a x && chkE g N ow sc i y
    | _ => false)
  | .slc a l h, e => (match e with
    | .Subscript x (.Slice lo hi none _) _ => chkE g N ow sc a x && (match lo with
        | none => isNon l
        | some y => !isNon l && chkE g N ow sc l y) && (match hi with
        | none => isNon h
        | some y => !isNon h && chkE g N ow sc h y)
    | _ => false)
  | .comp a t it cs, e => (match e with
    | .ListComp elt [⟨tg, iter, ifs, 0⟩] scope _ => (match ownOf t tg with
      | some own => blkC N sc scope own && notSet iter && (chkI g N ow sc (isTupX tg) it iter || chkE g N ow sc it iter) && chkG (cellB scope) N (relS scope sc) t tg && chkE g N ow (relS scope sc) a elt && !isBor a && chkEs g N ow (relS scope sc) cs ifs && decide (cs.length ≤ 1) && cs.all tstB &&
          own.all fun p => !ow.contains p.2
      | none => false)
    | _ => false)
  | .dcomp _ a v t it, e => (match e with
    | .DictComp kx vx [⟨tg, iter, [], 0⟩] scope _ => (match ownOf t tg with
      | some own => blkC N sc scope own && notSet iter && (chkI g N ow sc (isTupX tg) it iter || chkE g N ow sc it iter) && chkG (cellB scope) N (relS scope sc) t tg && chkE g N ow (relS scope sc) a kx && !isBor a && chkE g N ow (relS scope sc) v vx && !isBor v &&
          own.all fun p => !ow.contains p.2
      | none => false)
    | _ => false)
  | .dead, _ => true
  | .alloc a, e => chkE g N ow sc a e && isNew a && plainE e
def chkI (g : Cfg) (N : List Str) (ow : List Nat) (sc : Scope) (tt : Bool) : E → Expr → Bool
  | .bi b as, e => (match e with
    | .Call (.Name x _) es [] _ => (match b with
      | .range => glob sc x && decide (x = ("range" : Str)) && (match g.bi.lookup x with | some b' => decide (b' = .range) | none => false) && chkEs g N ow sc as es && (decide (es.length = 1) || decide (es.length = 2) || decide (es.length = 3))
      | .enum => tt && glob sc x && decide (x = ("enumerate" : Str)) && (match g.bi.lookup x with | some b' => decide (b' = .enum) | none => false) && chkEs g N ow sc as es && decide (es.length = 1) && as.all fun a => !isBor a
      | .zip => tt && glob sc x && decide (x = ("zip" : Str)) && (match g.bi.lookup x with | some b' => decide (b' = .zip) | none => false) && chkEs g N ow sc as es && decide (es.length = 2) && as.all fun a => !isBor a
      | _ => false)
    | _ => false)
  | _, _ => false
def chkEs (g : Cfg) (N : List Str) (ow : List Nat) (sc : Scope) : List E → List Expr → Bool
  | [], es => es.isEmpty
  | a :: as, es => (match es with
    | e :: es => notStar e && chkE g N ow sc a e && chkEs g N ow sc as es
    | [] => false)
end
end Ev
set_option Elab.async false
set_option linter.all false
set_option autoImplicit false
set_option maxRecDepth 100000
set_option maxHeartbeats 4000000
namespace Ev
open PySem PySem.Spec PyProof.Rows L2
theorem pe_imp {X : Cx} {e : Expr} {t t' : TE} (h : PE X e t) (i : ∀ σ H Q, t' σ H Q → t σ H Q) : PE X e t' := ⟨fun pins s σ H Q I q => h.run pins s σ H Q I (i σ H Q q)⟩
theorem pt_imp {X : Cx} {e : Expr} {t t' : TT} (h : PT X e t) (i : ∀ σ H Q, t' σ H Q → t σ H Q) : PT X e t' := ⟨fun pins s σ H Q I q => h.run pins s σ H Q I (i σ H Q q)⟩
theorem pw_imp {X : Cx} {e : Expr} {t t' : TT} (h : PW X e t) (i : ∀ σ H Q, t' σ H Q → t σ H Q) : PW X e t' := ⟨fun wh pins s σ H Q I q => h.run wh pins s σ H Q I (i σ H Q q)⟩
theorem pa_imp {X : Cx} {e : List Expr} {t t' : TA} (h : PA X e t) (i : ∀ σ H Q, t' σ H Q → t σ H Q) : PA X e t' := ⟨fun pos pins s σ H Q I q => h.run pos pins s σ H Q I (i σ H Q q)⟩
def XcR (P : Par) (e : Xc) (cls : Value) (d : Option Addr) : Prop := cls = .ref (P.ca e.cls) ∧ e.args = [] ∧ d = none ∧ e.cls < P.nc
def RepQ (a : E) (P : Par) (W : Wd) (H : Hp) (d : D) (v : V) : Prop := if isBor a = true then RepW P W H d v else Rep P W H d v
theorem RepQ.w {a : E} {P : Par} {W : Wd} {H : Hp} {d : D} {v : V} (h : RepQ a P W H d v) : RepW P W H d v := by
  unfold RepQ at h
  split at h
  · exact h
  · exact .inl h
theorem RepQ.strict {a : E} {P : Par} {W : Wd} {H : Hp} {d : D} {v : V} (h : RepQ a P W H d v) (n : isBor a = false) : Rep P W H d v := by
  unfold RepQ at h
  rw [if_neg (by rw [n]; decide)] at h
  exact h
theorem RepQ.of {a : E} {P : Par} {W : Wd} {H : Hp} {d : D} {v : V} (h : Rep P W H d v) : RepQ a P W H d v := by
  unfold RepQ
  split
  · exact .inl h
  · exact h
def RepQs (P : Par) (W : Wd) (H : Hp) : List E → List D → List V → Prop
  | [], ds, vs => ds = [] ∧ vs = []
  | a :: as, ds, vs => ∃ d ds' v vs', ds = d :: ds' ∧ vs = v :: vs' ∧ RepQ a P W H d v ∧ RepQs P W H as ds' vs'
theorem RepQs.strict {P : Par} {W : Wd} {H : Hp} : ∀ {as : List E} {ds : List D} {vs : List V}, RepQs P W H as ds vs → (as.all fun a => !isBor a) = true → Reps P W H ds vs
  | [], _, _, h, _ => by
    obtain ⟨rfl, rfl⟩ := h
    exact Reps.nil
  | a :: as, _, _, h, n => by
    obtain ⟨d, ds', v, vs', rfl, rfl, h1, h2⟩ := h
    rw [List.all_cons, Bool.and_eq_true] at n
    exact Reps.cons (h1.strict (by simpa using n.1)) (RepQs.strict h2 n.2)
theorem RepQs.r {P : Par} {W : Wd} {H : Hp} {M : Sto} (s : StoR P W M H) : ∀ {as : List E} {ds : List D} {vs : List V}, RepQs P W H as ds vs → RepRs P W H (ds.map (nrm M)) vs
  | [], _, _, h => by
    obtain ⟨rfl, rfl⟩ := h
    exact rfl
  | a :: as, _, _, h => by
    obtain ⟨d, ds', v, vs', rfl, rfl, h1, h2⟩ := h
    exact ⟨v, vs', rfl, h1.w.r s, RepQs.r s h2⟩
theorem RepQs.length {P : Par} {W : Wd} {H : Hp} : ∀ {as : List E} {ds : List D} {vs : List V}, RepQs P W H as ds vs → ds.length = as.length ∧ vs.length = as.length
  | [], _, _, h => by
    obtain ⟨rfl, rfl⟩ := h
    exact ⟨rfl, rfl⟩
  | a :: as, _, _, h => by
    obtain ⟨d, ds', v, vs', rfl, rfl, h1, h2⟩ := h
    obtain ⟨l1, l2⟩ := RepQs.length h2
    exact ⟨by rw [List.length_cons, List.length_cons, l1], by rw [List.length_cons, List.length_cons, l2]⟩
def PQ (P : Par) (W : Wd) (H : Hp) (a : E) (Q : VK) (r : D × Sto) : Prop := ∀ W' v H', G W H W' H' → StoR P W' r.2 H' → RepQ a P W' H' r.1 v → Q v H'
def PF (P : Par) (W : Wd) (H : Hp) (Q : VK) (r : D × Sto) : Prop := ∀ W' v H', G W H W' H' → StoR P W' r.2 H' → RepF P W' H H' r.1 v → Q v H'
def PB (P : Par) (W : Wd) (H : Hp) (Q : Bool → Hp → Prop) (r : D × Sto) : Prop := ∃ b, r.1 = .bl b ∧ ∀ W' H', G W H W' H' → StoR P W' r.2 H' → Q b H'
def Xk (P : Par) (W : Wd) (H : Hp) (w : WX) (σ : L2.St) (e : Xc) (M' : Sto) : Prop := ∀ W' H' cls d, G W H W' H' → StoR P W' M' H' → XcR P e cls d → w cls d σ H'
theorem Xk.g {P : Par} {W W1 : Wd} {H H1 : Hp} {w : WX} {σ : L2.St} {e : Xc} {M' : Sto} (g : G W H W1 H1) (h : Xk P W H w σ e M') : Xk P W1 H1 w σ e M' := fun W' H' cls d k => h W' H' cls d (g.trans k)
section
variable (P : Par) (c : Call) (ow : List Nat) (w : WX)
def tE (a : E) : TE := fun σ H Q => ∃ W ρ M, Rel P ow W ρ M σ H ∧ (evE c a ρ M).sat (PQ P W H a Q) (Xk P W H w σ)
def tF (a : E) : TE := fun σ H Q => ∃ W ρ M, Rel P ow W ρ M σ H ∧ (evE c a ρ M).sat (PF P W H Q) (Xk P W H w σ)
def tX (a : E) : TE := if isNew a = true then tF P c ow w a else tE P c ow w a
def tT (a : E) : TT := fun σ H Q => ∃ W ρ M, Rel P ow W ρ M σ H ∧ (evE c a ρ M).sat (PB P W H Q) (Xk P W H w σ)
def tAs (as : List E) : TA := fun σ H Q => ∃ W ρ M, Rel P ow W ρ M σ H ∧ (evEs c as ρ M).sat (fun r => ∀ W' vs H', G W H W' H' → StoR P W' r.2 H' → RepQs P W' H' as r.1 vs → Q vs H') (Xk P W H w σ)
end
section
variable {P : Par} {c : Call} {ow : List Nat} {w : WX}
theorem postF_of {W W2 : Wd} {M : Sto} {H H2 : Hp} {d : D} {Q : VK} (g : G W H W2 H2) (h : ∀ W' v H', G W H W' H' → StoR P W' M H' → Rep P W' H' d v → Q v H') : PostF P W2 M H2 d Q := fun W' v H' g' s r =>
  let ⟨W'', g'', s'', r''⟩ := freeze g' s r
  h W'' v H' (g.trans g'') s'' r''
theorem isNew_bor {a : E} (h : isNew a = true) : isBor a = false := by
  cases a <;> first | rfl | cases h
theorem toE {X : Cx} {e : Expr} {a : E} (h : PE X e (tX P c ow w a)) : PE X e (tE P c ow w a) := by
  unfold tX at h
  split at h
  · rename_i n
    refine pe_imp h fun σ H Q ⟨W, ρ, M, rel, hs⟩ => ⟨W, ρ, M, rel, R.sat_mono hs (fun r hr => ?_) fun _ _ h => h⟩
    intro W' v H' g s rf
    obtain ⟨W'', g'', s'', r''⟩ := freeze g s rf
    exact hr W'' v H' g'' s'' (.of r'')
  · exact h
theorem ofE {X : Cx} {e : Expr} {a : E} (h : PE X e (tE P c ow w a)) (n : isNew a = false) : PE X e (tX P c ow w a) := by
  unfold tX
  rw [if_neg (by rw [n]; decide)]
  exact h
theorem ofF {X : Cx} {e : Expr} {a : E} (h : PE X e (tF P c ow w a)) (n : isNew a = true) : PE X e (tX P c ow w a) := by
  unfold tX
  rw [if_pos n]
  exact h
theorem two {a b : E} {σ : L2.St} {H : Hp} {W : Wd} {ρ : Env} {M : Sto} {A : D × Sto → Prop} {f : D × Sto → D × Sto → R (D × Sto)} {R2' : V → V → Hp → Prop} (rel : Rel P ow W ρ M σ H)
    (hs : ((evE c a ρ M).bind fun r => (evE c b ρ r.2).bind fun q => f r q).sat A (Xk P W H w σ))
    (k : ∀ r q x y W2 H2, G W H W2 H2 → StoR P W2 q.2 H2 → RepR P W2 H2 (nrm q.2 r.1) x → RepQ b P W2 H2 q.1 y → (f r q).sat A (Xk P W H w σ) → R2' x y H2) :
    tE P c ow w a σ H fun x H1 => tE P c ow w b σ H1 fun y H2 => R2' x y H2 := by
  rw [R.sat_bind] at hs
  refine ⟨W, ρ, M, rel, R.sat_mono hs (fun r hr => ?_) fun _ _ h => h⟩
  intro W1 x H1 g1 s1 r1
  rw [R.sat_bind] at hr
  refine ⟨W1, ρ, r.2, rel.g g1 s1, R.sat_mono hr (fun q hq => ?_) fun _ _ h => h.g g1⟩
  intro W2 y H2 g2 s2 r2
  exact k r q x y W2 H2 (g1.trans g2) s2 ((r1.w.g g2 s1.wf).r s2) r2 hq
theorem sat_of {α β : Type} {o : Option α} {f : α → β} {A : β → Prop} {B : Xc → Sto → Prop} (h : (R.of (o.map f)).sat A B) : ∃ a, o = some a ∧ A (f a) := by
  cases o with
  | none => exact h.elim
  | some a => exact ⟨a, rfl, h⟩
def spF (P : Par) (c : Call) (f : Nat) : Sp := fun vs H Q E => ∃ W M ds, StoR P W M H ∧ Reps P W H ds vs ∧
  (c f ds M).sat (fun r => ∀ W' v H', G W H W' H' → StoR P W' r.2 H' → Rep P W' H' r.1 v → Q v H') fun e M' => ∀ W' H' cls d, G W H W' H' → StoR P W' M' H' → XcR P e cls d → E cls d H'
def FnC (P : Par) (c : Call) (n : Nat) (X : Cx) (f : Nat) : Prop := ∃ (fd : FuncData) (ps : List Str), PySem.W.keepIn X.K (.ref (P.fa f)) = true ∧ Binds X.K fd ps [] ∧
  FnOk X.prog X.w X.K X.mg X.base (L2.CX X.prog X.w) n (P.fa f) fd ps (spF P c f)
structure CtxOk (g : Cfg) (P : Par) (c : Call) (n : Nat) (X : Cx) (w : WX) : Prop where
  hK : X.K = P.K
  hw : X.w = P.w
  nd : X.N.Nodup
  calm : X.calm = true
  room : Room n X.A
  tk : Takes X w
  gl : ∀ x d, g.gl.lookup x = some d → ∃ u v, X.mg x = some u ∧ RelV v u ∧ ∀ W H, Rep P W H d v
  fns : ∀ x f, g.gl.lookup x = some (.fn f) → X.mg x = some (.ref (P.fa f)) ∧ f < g.nf
  fv : ∀ f, f < g.nf → FnC P c n X f
  bi : ∀ x b, g.bi.lookup x = some b → X.mg x = none ∧ bootBuiltins x = some (biVal b)
  ty : ∀ x t, g.ty.lookup x = some t → X.mg x = none ∧ bootBuiltins x = some (.type t)
theorem CtxOk.hu {g : Cfg} {n : Nat} {X : Cx} (o : CtxOk g P c n X w) : X.A.units + 66 < cLine := by
  have := o.room.un
  omega
theorem CtxOk.blk {g : Cfg} {n : Nat} {X : Cx} (o : CtxOk g P c n X w) (s : Shared) (H : Hp) (scope : Scope) (env : PySem.Env) (fp : List Addr) : CtxOk g P c n (X.blk s H scope env fp) (fun _ _ _ _ => False) :=
  ⟨o.hK, o.hw, o.nd, o.calm, o.room, takes0, o.gl, o.fns, o.fv, o.bi, o.ty⟩
theorem plainName_of {x : Str} (h : plainName x = true) : (x == ("__debug__" : Str)) = false ∧ (x == ("__classdict__" : Str)) = false ∧ x ≠ "__name__" := by
  unfold plainName at h
  simp only [Bool.and_eq_true, Bool.not_eq_true'] at h
  exact ⟨h.1.1, h.1.2, fun z => by rw [z] at h; exact absurd h.2 (by decide)⟩
theorem vis_of {sc : Scope} {x : Str} (h : vis sc x = true) : Vis sc x := by
  unfold vis at h
  split at h
  · rename_i e; exact .inl e
  · rename_i e; exact .inr (.inl e)
  · rename_i e; exact .inr (.inr e)
  · cases h
theorem glob_of {X : Cx} {x : Str} (h : glob X.env.scope x = true) : Gl X x := by
  unfold glob at h
  split at h
  · rename_i e; exact e
  · cases h
theorem locl_of {sc : Scope} {x : Str} (h : locl sc x = true) : Loc sc x := by
  unfold locl at h
  split at h
  · rename_i e; exact .inl e
  · rename_i e; exact .inr e
  · cases h
theorem notSet_of {b : Expr} (h : notSet b = true) (op : CmpOp) : behindInMarks op b = false := by
  cases b <;> first | rfl | cases h
theorem notSet_fold {b : Expr} (h : notSet b = true) (env : PySem.Env) : ∀ x, foldedSetIterable b env x = pure x := by
  intro x
  cases b <;> first | rfl | cases h
theorem notStar_of {e : Expr} (h : notStar e = true) (es : List Expr) (env : PySem.Env) : starEach (e :: es) env = (false, eval e env) :: starEach es env := by
  cases e <;> first | rfl | cases h
theorem notSlice_of {b : Expr} (h : notSlice b = true) : PlainIx b := by
  intro o i
  cases b <;> first | rfl | cases h
theorem notCall0_of {o : Expr} (h : notCall0 o = true) (nm : Str) (env : PySem.Env) : attributeBase o nm env (eval o env) = eval o env := by
  cases o with
  | Call f as ks p =>
    cases as with
    | nil =>
      cases ks with
      | nil => cases h
      | cons k ks => cases f <;> rfl
    | cons a as => cases f <;> rfl
  | _ => rfl
theorem stars_none {pos : Pos} {env : PySem.Env} : ∀ {es : List Expr}, (es.all notStar) = true → (backTo pos (starEach es env)).any (·.1) = false
  | [], _ => rfl
  | e :: es, h => by
    rw [List.all_cons, Bool.and_eq_true] at h
    rw [notStar_of h.1]
    show (false || (backTo pos (starEach es env)).any (·.1)) = false
    rw [stars_none h.2]
    rfl
theorem chkEs_star {g : Cfg} {N : List Str} {sc : Scope} : ∀ {as : List E} {es : List Expr}, chkEs g N ow sc as es = true → es.all notStar = true ∧ es.length = as.length
  | [], es, h => by
    have e : es = [] := by simpa [chkEs] using h
    subst e
    exact ⟨rfl, rfl⟩
  | a :: as, [], h => by simp [chkEs] at h
  | a :: as, e :: es, h => by
    simp only [chkEs, Bool.and_eq_true] at h
    obtain ⟨h1, h2⟩ := chkEs_star h.2
    exact ⟨by rw [List.all_cons, h.1.1, h1]; rfl, by rw [List.length_cons, List.length_cons, h2]⟩
theorem get_some {ρ : Env} {i : Nat} {d : D} (h : get ρ i = some d) : ρ[i]? = some (some d) := by
  unfold get at h
  cases e : ρ[i]? with
  | none => rw [e] at h; cases h
  | some o =>
    rw [e] at h
    have : o = some d := h
    rw [this]
end
end Ev
set_option Elab.async false
set_option linter.all false
set_option autoImplicit false
set_option maxRecDepth 100000
set_option maxHeartbeats 4000000
namespace Ev
open PySem PySem.Spec PyProof.Rows L2
section
variable {P : Par} {c : Call} {ow : List Nat} {w : WX} {g : Cfg} {n : Nat} {X : Cx} {pos : Pos}
abbrev PEE (P : Par) (c : Call) (ow : List Nat) (w : WX) (X : Cx) (e : Expr) (a : E) : Prop := PE X e (tE P c ow w a)
abbrev PTT (P : Par) (c : Call) (ow : List Nat) (w : WX) (X : Cx) (e : Expr) (a : E) : Prop := PT X e (tT P c ow w a)
theorem repF_g {W W1 W' : Wd} {H H1 H' : Hp} {d : D} {v : V} (g1 : G W H W1 H1) (h : RepF P W' H1 H' d v) : RepF P W' H H' d v := by
  cases d with
  | lst ds =>
    obtain ⟨p, e1, n1, n2, n3, n4⟩ := h
    exact ⟨p, e1, Classical.byContradiction fun z => g1.al p z n1, n2, n3, n4⟩
  | dct t kvs =>
    obtain ⟨p, e1, n1, n2, n3, n4⟩ := h
    exact ⟨p, e1, Classical.byContradiction fun z => g1.al p z n1, n2, n3, n4⟩
  | _ => exact h
theorem x_var {i : Nat} {x : Str} {p : Pos} (ok : CtxOk g P c n X w) (h : slotB X.N X.env.scope i x = true) (ho : ow.contains i = false) : PEE P c ow w X (.Name x p) (.var i) := by
  unfold slotB at h
  simp only [Bool.and_eq_true, decide_eq_true_eq] at h
  obtain ⟨h1, h2, _⟩ := plainName_of h.2
  refine pe_imp (pe_var h.1.1 (vis_of h.1.2) h1 h2) fun σ H Q ⟨W, ρ, M, rel, hs⟩ => ?_
  obtain ⟨d, e, hq⟩ := sat_of hs
  obtain ⟨v, e1, r⟩ := rel.fz i d e (by simpa using ho)
  exact ⟨v, e1, hq W v H .refl rel.sto (.of r)⟩
theorem x_bor {i : Nat} {x : Str} {p : Pos} (ok : CtxOk g P c n X w) (h : slotB X.N X.env.scope i x = true) : PEE P c ow w X (.Name x p) (.bor i) := by
  unfold slotB at h
  simp only [Bool.and_eq_true, decide_eq_true_eq] at h
  obtain ⟨h1, h2, _⟩ := plainName_of h.2
  refine pe_imp (pe_var h.1.1 (vis_of h.1.2) h1 h2) fun σ H Q ⟨W, ρ, M, rel, hs⟩ => ?_
  obtain ⟨d, e, hq⟩ := sat_of hs
  by_cases ho : i ∈ ow
  · obtain ⟨a, e1, h1, h2, h3⟩ := rel.own i d e ho
    exact ⟨.ref a, e1, hq W _ H .refl rel.sto (show (if isBor (.bor i) = true then RepW P W H d (.ref a) else Rep P W H d (.ref a)) from by rw [if_pos (show isBor (.bor i) = true from rfl)]; exact .inr ⟨a, rfl, h2, h1, h3⟩)⟩
  · obtain ⟨v, e1, r⟩ := rel.fz i d e ho
    exact ⟨v, e1, hq W v H .refl rel.sto (.of r)⟩
theorem x_con {d : D} {v : V} {e : Expr} (h : PE X e (tC v)) (r : ∀ W H, Rep P W H d v) : PEE P c ow w X e (.con d) :=
  pe_imp h fun σ H Q ⟨W, ρ, M, rel, hs⟩ => (show PQ P W H (.con d) Q (d, M) from hs) W v H .refl rel.sto (.of (r W H))
theorem x_neg {a : E} {e : Expr} (h : PEE P c ow w X e a) : PEE P c ow w X (.UnaryOp .USub e pos) (.neg a) := by
  refine pe_imp (pe_un un_neg h) fun σ H Q ⟨W, ρ, M, rel, hs⟩ => ?_
  rw [evE, R.sat_bind] at hs
  refine ⟨W, ρ, M, rel, R.sat_mono hs (fun r hr => ?_) fun _ _ h => h⟩
  intro W' v H' g' s rp
  obtain ⟨d, M'⟩ := r
  cases d with
  | int i =>
    have e1 : v = .int i := (rp.w.r s : RepR P W' H' (.int i) v)
    exact ⟨i, e1, (show PQ P W H (.neg a) Q (.int (-i), M') from hr) W' _ H' g' s (.of rfl)⟩
  | _ => exact hr.elim
theorem x_bin {o : BO} {a b : E} {x y : Expr} (ok : CtxOk g P c n X w) (ha : PEE P c ow w X x a) (hb : PEE P c ow w X y b) : PE X (.BinOp x (boOp o) y pos) (tF P c ow w (.bin o a b)) := by
  refine pe_imp (pe_op (op_bin o ok.hK) ha hb) fun σ H Q ⟨W, ρ, M, rel, hs⟩ => ?_
  rw [evE] at hs
  refine two rel hs fun r q v u W2 H2 g2 s2 r1 r2 h => ?_
  obtain ⟨d, e, hq⟩ := sat_of h
  exact ⟨W2, q.2, _, _, d, s2, r1, r2.w.r s2, e, fun W' v' H' g' s' rf => hq W' v' H' (g2.trans g') s' (repF_g g2 rf)⟩
theorem x_cmp {o : CO} {a b : E} {x y : Expr} (ok : CtxOk g P c n X w) (hy : notSet y = true) (ha : PEE P c ow w X x a) (hb : PEE P c ow w X y b) : PEE P c ow w X (.Compare x [coOp o] [y] pos) (.cmp o a b) := by
  refine pe_imp (pe_cmpR (op_cmp o ok.hK ok.hw ok.hu) ha hb (notSet_of hy _)) fun σ H Q ⟨W, ρ, M, rel, hs⟩ => ?_
  rw [evE] at hs
  refine two rel hs fun r q v u W2 H2 g2 s2 r1 r2 h => ?_
  obtain ⟨d, e, hq⟩ := sat_of h
  exact ⟨W2, q.2, _, _, d, s2, r1, r2.w.r s2, e, fun W' v' H' g' s' rf => hq W' v' H' (g2.trans g') s' (.of rf)⟩
theorem t_cmp {o : CO} {a b : E} {x y : Expr} (ok : CtxOk g P c n X w) (hy : notSet y = true) (ha : PEE P c ow w X x a) (hb : PEE P c ow w X y b) : PTT P c ow w X (.Compare x [coOp o] [y] pos) (.cmp o a b) := by
  refine pt_imp (pt_cmpR (op_cmp o ok.hK ok.hw ok.hu) ha hb (notSet_of hy _)) fun σ H Q ⟨W, ρ, M, rel, hs⟩ => ?_
  rw [evE] at hs
  refine two rel hs fun r q v u W2 H2 g2 s2 r1 r2 h => ?_
  obtain ⟨d, e, hq⟩ := sat_of h
  obtain ⟨b', e', hq⟩ := hq
  cases e'
  exact ⟨W2, q.2, _, _, d, s2, r1, r2.w.r s2, e, fun W' v' H' g' s' rf => ⟨d, rf, hq W' H' (g2.trans g') s'⟩⟩
theorem t_val {e : Expr} {a : E} (h : PEE P c ow w X e a) (he : ∀ whole, isTrue e X.env whole = (do let v ← whole; standAt e.pos; holding [v] (truthy v))) : PTT P c ow w X e a := by
  refine pt_imp (pt_val h he) fun σ H Q ⟨W, ρ, M, rel, hs⟩ => ⟨W, ρ, M, rel, R.sat_mono hs (fun r hr => ?_) fun _ _ h => h⟩
  obtain ⟨b, e1, hq⟩ := hr
  intro W' v H' g' s rp
  obtain ⟨d, M'⟩ := r
  cases e1
  exact ⟨b, (rp.w.r s : RepR P W' H' (.bl b) v), hq W' H' g' s⟩
theorem x_not {a : E} {e : Expr} (h : PEE P c ow w X e a) : PEE P c ow w X (.UnaryOp .Not e pos) (.not a) := by
  refine pe_imp (pe_not h) fun σ H Q ⟨W, ρ, M, rel, hs⟩ => ?_
  rw [evE, R.sat_bind] at hs
  refine ⟨W, ρ, M, rel, R.sat_mono hs (fun r hr => ?_) fun _ _ h => h⟩
  intro W' v H' g' s rp
  obtain ⟨d, M'⟩ := r
  cases d with
  | bl b => exact ⟨b, (rp.w.r s : RepR P W' H' (.bl b) v), (show PQ P W H (.not a) Q (.bl (!b), M') from hr) W' _ H' g' s (.of rfl)⟩
  | _ => exact hr.elim
theorem t_not {a : E} {e : Expr} (h : PTT P c ow w X e a) : PTT P c ow w X (.UnaryOp .Not e pos) (.not a) := by
  refine pt_imp (pt_not h) fun σ H Q ⟨W, ρ, M, rel, hs⟩ => ?_
  rw [evE, R.sat_bind] at hs
  refine ⟨W, ρ, M, rel, R.sat_mono hs (fun r hr => ?_) fun _ _ h => h⟩
  obtain ⟨d, M'⟩ := r
  cases d with
  | bl b =>
    obtain ⟨b', e', hq⟩ := hr
    cases e'
    exact ⟨b, rfl, fun W' H' g' s => hq W' H' g' s⟩
  | _ => exact hr.elim
theorem x_and {a b : E} {x y : Expr} {rest : List Expr} (ha : PEE P c ow w X x a) (hb : PEE P c ow w X (.BoolOp .And (y :: rest) pos) b) (nb : isBor b = false) : PEE P c ow w X (.BoolOp .And (x :: y :: rest) pos) (.and a b) := by
  refine pe_imp (pe_and ha hb) fun σ H Q ⟨W, ρ, M, rel, hs⟩ => ?_
  rw [evE, R.sat_bind] at hs
  refine ⟨W, ρ, M, rel, R.sat_mono hs (fun r hr => ?_) fun _ _ h => h⟩
  intro W' v H' g' s rp
  obtain ⟨d, M'⟩ := r
  cases d with
  | bl k =>
    refine ⟨k, (rp.w.r s : RepR P W' H' (.bl k) v), ?_⟩
    cases k with
    | true =>
      rw [if_pos rfl]
      exact ⟨W', ρ, M', rel.g g' s, R.sat_mono hr (fun q hq W'' v' H'' g'' s'' r'' => hq W'' v' H'' (g'.trans g'') s'' (.of (r''.strict nb))) fun _ _ h => h.g g'⟩
    | false =>
      rw [if_neg (by decide)]
      exact (show PQ P W H (.and a b) Q (.bl false, M') from hr) W' _ H' g' s (.of rfl)
  | _ => exact hr.elim
theorem x_or {a b : E} {x y : Expr} {rest : List Expr} (ha : PEE P c ow w X x a) (hb : PEE P c ow w X (.BoolOp .Or (y :: rest) pos) b) (nb : isBor b = false) : PEE P c ow w X (.BoolOp .Or (x :: y :: rest) pos) (.or a b) := by
  refine pe_imp (pe_or ha hb) fun σ H Q ⟨W, ρ, M, rel, hs⟩ => ?_
  rw [evE, R.sat_bind] at hs
  refine ⟨W, ρ, M, rel, R.sat_mono hs (fun r hr => ?_) fun _ _ h => h⟩
  intro W' v H' g' s rp
  obtain ⟨d, M'⟩ := r
  cases d with
  | bl k =>
    refine ⟨k, (rp.w.r s : RepR P W' H' (.bl k) v), ?_⟩
    cases k with
    | false =>
      rw [if_neg (by decide)]
      exact ⟨W', ρ, M', rel.g g' s, R.sat_mono hr (fun q hq W'' v' H'' g'' s'' r'' => hq W'' v' H'' (g'.trans g'') s'' (.of (r''.strict nb))) fun _ _ h => h.g g'⟩
    | true =>
      rw [if_pos rfl]
      exact (show PQ P W H (.or a b) Q (.bl true, M') from hr) W' _ H' g' s (.of rfl)
  | _ => exact hr.elim
theorem t_and {a b : E} {x y : Expr} {rest : List Expr} (ha : PTT P c ow w X x a) (hb : PW X (.BoolOp .And (y :: rest) pos) (tT P c ow w b)) : PW X (.BoolOp .And (x :: y :: rest) pos) (tT P c ow w (.and a b)) := by
  refine pw_imp (pw_and ha hb) fun σ H Q ⟨W, ρ, M, rel, hs⟩ => ?_
  rw [evE, R.sat_bind] at hs
  refine ⟨W, ρ, M, rel, R.sat_mono hs (fun r hr => ?_) fun _ _ h => h⟩
  obtain ⟨d, M'⟩ := r
  cases d with
  | bl k =>
    refine ⟨k, rfl, fun W' H' g' s => ?_⟩
    cases k with
    | true =>
      rw [if_pos rfl]
      refine ⟨W', ρ, M', rel.g g' s, R.sat_mono hr (fun q hq => ?_) fun _ _ h => h.g g'⟩
      obtain ⟨k', e', hq⟩ := hq
      exact ⟨k', e', fun W'' H'' g'' s'' => hq W'' H'' (g'.trans g'') s''⟩
    | false =>
      rw [if_neg (by decide)]
      obtain ⟨k', e', hq⟩ := hr
      cases e'
      exact hq W' H' g' s
  | _ => exact hr.elim
theorem t_or {a b : E} {x y : Expr} {rest : List Expr} (ha : PTT P c ow w X x a) (hb : PW X (.BoolOp .Or (y :: rest) pos) (tT P c ow w b)) : PW X (.BoolOp .Or (x :: y :: rest) pos) (tT P c ow w (.or a b)) := by
  refine pw_imp (pw_or ha hb) fun σ H Q ⟨W, ρ, M, rel, hs⟩ => ?_
  rw [evE, R.sat_bind] at hs
  refine ⟨W, ρ, M, rel, R.sat_mono hs (fun r hr => ?_) fun _ _ h => h⟩
  obtain ⟨d, M'⟩ := r
  cases d with
  | bl k =>
    refine ⟨k, rfl, fun W' H' g' s => ?_⟩
    cases k with
    | false =>
      rw [if_neg (by decide)]
      refine ⟨W', ρ, M', rel.g g' s, R.sat_mono hr (fun q hq => ?_) fun _ _ h => h.g g'⟩
      obtain ⟨k', e', hq⟩ := hq
      exact ⟨k', e', fun W'' H'' g'' s'' => hq W'' H'' (g'.trans g'') s''⟩
    | true =>
      rw [if_pos rfl]
      obtain ⟨k', e', hq⟩ := hr
      cases e'
      exact hq W' H' g' s
  | _ => exact hr.elim
theorem x_ite {t a b : E} {z x y : Expr} (ht : PTT P c ow w X z t) (ha : PEE P c ow w X x a) (hb : PEE P c ow w X y b) (na : isBor a = false) (nb : isBor b = false) : PEE P c ow w X (.IfExp z x y pos) (.ite t a b) := by
  refine pe_imp (pe_ifExp ht ha hb) fun σ H Q ⟨W, ρ, M, rel, hs⟩ => ?_
  rw [evE, R.sat_bind] at hs
  refine ⟨W, ρ, M, rel, R.sat_mono hs (fun r hr => ?_) fun _ _ h => h⟩
  obtain ⟨d, M'⟩ := r
  cases d with
  | bl k =>
    refine ⟨k, rfl, fun W' H' g' s => ?_⟩
    cases k with
    | true =>
      rw [if_pos rfl]
      exact ⟨W', ρ, M', rel.g g' s, R.sat_mono hr (fun q hq W'' v' H'' g'' s'' r'' => hq W'' v' H'' (g'.trans g'') s'' (.of (r''.strict na))) fun _ _ h => h.g g'⟩
    | false =>
      rw [if_neg (by decide)]
      exact ⟨W', ρ, M', rel.g g' s, R.sat_mono hr (fun q hq W'' v' H'' g'' s'' r'' => hq W'' v' H'' (g'.trans g'') s'' (.of (r''.strict nb))) fun _ _ h => h.g g'⟩
  | _ => exact hr.elim
theorem x_nil : PA X [] (tAs P c ow w []) := by
  refine pa_imp pa_nil fun σ H Q ⟨W, ρ, M, rel, hs⟩ => ?_
  exact (show (∀ W' vs H', G W H W' H' → StoR P W' M H' → RepQs P W' H' [] [] vs → Q vs H') from hs) W [] H .refl rel.sto ⟨rfl, rfl⟩
theorem x_cons {a : E} {as : List E} {e : Expr} {es : List Expr} (hn : notStar e = true) (ha : PEE P c ow w X e a) (hr : PA X es (tAs P c ow w as)) : PA X (e :: es) (tAs P c ow w (a :: as)) := by
  refine pa_imp (pa_cons ha hr (notStar_of hn _ _)) fun σ H Q ⟨W, ρ, M, rel, hs⟩ => ?_
  rw [evEs, R.sat_bind] at hs
  refine ⟨W, ρ, M, rel, R.sat_mono hs (fun r hr => ?_) fun _ _ h => h⟩
  intro W1 v H1 g1 s1 r1
  rw [R.sat_bind] at hr
  refine ⟨W1, ρ, r.2, rel.g g1 s1, R.sat_mono hr (fun q hq => ?_) fun _ _ h => h.g g1⟩
  intro W2 vs H2 g2 s2 r2
  refine (show ∀ W' vs H', G W H W' H' → StoR P W' q.2 H' → RepQs P W' H' (a :: as) (r.1 :: q.1) vs → Q vs H' from hq) W2 (v :: vs) H2 (g1.trans g2) s2 ⟨_, _, _, _, rfl, rfl, ?_, r2⟩
  unfold RepQ at r1 ⊢
  split
  · rename_i hb
    rw [if_pos hb] at r1
    exact r1.g g2 s1.wf
  · rename_i hb
    rw [if_neg hb] at r1
    exact r1.g g2 s1.wf
theorem x_tup {as : List E} {es : List Expr} {k : Nat} (h : PA X es (tAs P c ow w as)) (hl : as.length ≤ SZ) (nb : (as.all fun a => !isBor a) = true) : PEE P c ow w X (.Tuple es k pos) (.tup as) := by
  refine pe_imp (pe_tup h) fun σ H Q ⟨W, ρ, M, rel, hs⟩ => ?_
  rw [evE, R.sat_bind] at hs
  refine ⟨W, ρ, M, rel, R.sat_mono hs (fun r hr => ?_) fun _ _ h => h⟩
  intro W1 vs H1 g1 s1 r1
  obtain ⟨l1, l2⟩ := r1.length
  refine ⟨by rw [l2, ← SZ_line]; exact hl, fun p np => ?_⟩
  have q : PostE P W1 r.2 H1 (.tup r.1) Q := fun W' v H' g' s' r' => (show PQ P W H (.tup as) Q (.tup r.1, r.2) from hr) W' v H' (g1.trans g') s' (.of r')
  exact q.tup s1 np (by rw [l1]; exact hl) (r1.strict nb)
theorem x_lst {as : List E} {es : List Expr} (h : PA X es (tAs P c ow w as)) (hl : as.length ≤ SZ) (nb : (as.all fun a => !isBor a) = true) : PE X (.List es pos) (tF P c ow w (.lst as)) := by
  refine pe_imp (pe_lst h) fun σ H Q ⟨W, ρ, M, rel, hs⟩ => ?_
  rw [evE, R.sat_bind] at hs
  refine ⟨W, ρ, M, rel, R.sat_mono hs (fun r hr => ?_) fun _ _ h => h⟩
  intro W1 vs H1 g1 s1 r1
  obtain ⟨l1, l2⟩ := r1.length
  refine ⟨by rw [l2, ← SZ_line]; exact hl, fun p np => ?_⟩
  have q : PostF P W1 r.2 H1 (.lst r.1) Q := fun W' v H' g' s' r' => (show PF P W H Q (.lst r.1, r.2) from hr) W' v H' (g1.trans g') s' (by
    obtain ⟨p, e1, n1, n2, n3, n4⟩ := r'
    exact ⟨p, e1, Classical.byContradiction fun z => g1.al p z n1, n2, n3, n4⟩)
  exact q.lst s1 np (by rw [l1]; exact hl) (r1.strict nb)
theorem x_call {f : Nat} {x : Str} {p : Pos} {as : List E} {es : List Expr} (ok : CtxOk g P c n X w) (hg : glob X.env.scope x = true) (hp : plainName x = true) (hf : g.gl.lookup x = some (.fn f)) (ha : PA X es (tAs P c ow w as)) (hst : es.all notStar = true) (hl : es.length = as.length) (nb : (as.all fun a => !isBor a) = true) :
    PEE P c ow w X (.Call (.Name x p) es [] pos) (.call f as) := by
  obtain ⟨hm, hf2⟩ := ok.fns x f hf
  obtain ⟨fd, ps, hk, hb, F⟩ := ok.fv f hf2
  obtain ⟨h1, h2, _⟩ := plainName_of hp
  have key : ∀ σ H Q, tE P c ow w (.call f as) σ H Q → tAs P c ow w as σ H fun vs H1 => spF P c f vs H1 Q (WE w σ) := fun σ H Q ⟨W, ρ, M, rel, hs⟩ => by
    rw [evE, R.sat_bind] at hs
    refine ⟨W, ρ, M, rel, R.sat_mono hs (fun r hr => ?_) fun _ _ h => h⟩
    intro W1 vs H1 g1 s1 r1
    exact ⟨W1, r.2, r.1, s1, r1.strict nb, R.sat_mono hr (fun q hq W' v H' g' s' r' => hq W' v H' (g1.trans g') s' (.of r')) fun e M' h W' H' cls d g' s' x' => h W' H' cls d (g1.trans g') s' x'⟩
  cases es with
  | nil =>
    refine ⟨fun pins s σ H Q I q => ?_⟩
    have e0 : as = [] := List.length_eq_zero_iff.mp hl.symm
    subst e0
    obtain ⟨W, ρ, M, rel, hs⟩ := key σ H Q q
    have h : spF P c f ([] ++ []) H Q (WE w σ) := (show ∀ W' vs H', G W H W' H' → StoR P W' M H' → RepQs P W' H' [] [] vs → spF P c f vs H' Q (WE w σ) from hs) W [] H .refl rel.sto ⟨rfl, rfl⟩
    refine wpAny_Call_Name_kw (ld_glob I (glob_of hg) hm ?_ h1)
    exact PySem.W.callWith_K0 (first := []) I.kIn hk (run_fnSD (us := []) F ok.room hb .nil (passAt ok.tk σ) I .nil h)
  | cons e es =>
    rw [List.all_cons, Bool.and_eq_true] at hst
    refine pe_imp (pe_callSD (E := fun σ => WE w σ) F ok.room (glob_of hg) hm hk hb .nil (fun σ => passAt ok.tk σ) ha h1 (notStar_of hst.1 _ _) (stars_none hst.2)) fun σ H Q q => ?_
    obtain ⟨W, ρ, M, rel, hs⟩ := key σ H Q q
    exact ⟨W, ρ, M, rel, R.sat_mono hs (fun r hr W' vs H' g' s' r' => by
      show spF P c f (vs ++ []) H' Q (WE w σ)
      rw [List.append_nil]
      exact hr W' vs H' g' s' r') fun _ _ h => h⟩
theorem x_callv {m : Nat} {f : E} {x i : Expr} {p : Pos} {as : List E} {e : Expr} {es : List Expr} (ok : CtxOk g P c n X w) (hm : m = g.nf) (hf : PEE P c ow w X (.Subscript x i p) f) (nf : isBor f = false) (ha : PA X (e :: es) (tAs P c ow w as)) (hst : (e :: es).all notStar = true) (nb : (as.all fun a => !isBor a) = true) :
    PEE P c ow w X (.Call (.Subscript x i p) (e :: es) [] pos) (.callv m f as) := by
  refine ⟨fun pins s σ H Q I ⟨W, ρ, M, rel, hs⟩ => ?_⟩
  rw [evE, R.sat_bind] at hs
  rw [List.all_cons, Bool.and_eq_true] at hst
  refine Call_ (thn (hf.run pins s σ H (fun u H1 => ∃ k, u = .ref (P.fa k) ∧ k < g.nf ∧ tAs P c ow w as σ H1 fun vs H2 => spF P c k vs H2 Q (WE w σ)) I ⟨W, ρ, M, rel, R.sat_mono hs (fun r hr => ?_) fun _ _ h => h⟩) fun v s1 ⟨u, H1, I1, ru, k, eu, hk, q1⟩ => ?_)
  · intro W1 u H1 g1 s1 r1
    obtain ⟨d, M1⟩ := r
    cases d with
    | fn k =>
      have hr : (if k < m then (evEs c as ρ M1).bind fun r => c k r.1 r.2 else .bad : R (D × Sto)).sat (PQ P W H (.callv m f as) Q) (Xk P W H w σ) := hr
      split at hr
      · rename_i hk
        rw [R.sat_bind] at hr
        refine ⟨k, r1.strict nf, by rw [← hm]; exact hk, W1, ρ, M1, rel.g g1 s1, R.sat_mono hr (fun r hr => ?_) fun _ _ h => h.g g1⟩
        intro W2 vs H2 g2 s2 r2
        have g12 := g1.trans g2
        exact ⟨W2, r.2, r.1, s2, r2.strict nb, R.sat_mono hr (fun q hq W' v H' g' s' r' => hq W' v H' (g12.trans g') s' (.of r')) fun e M' h W' H' cls d g' s' x' => h W' H' cls d (g12.trans g') s' x'⟩
      · exact hr.elim
    | _ => exact hr.elim
  · subst eu
    cases (show v = Value.ref (P.fa k) from ru)
    obtain ⟨fd, ps, kp, hb, F⟩ := ok.fv k hk
    refine PySem.W.callWith_K (h₀ := X.base) I1.ok.mod.kin kp (thn (ha.run pos pins s1 σ H1 _ I1 q1) fun us s2 ⟨vs, H2, I2, r, q⟩ => ⟨I2.kIn, ?_⟩) (notStar_of hst.1 _ _) (stars_none hst.2)
    exact run_fnSD (us := us) F ok.room hb .nil (passAt ok.tk σ) I2 r (by rw [List.append_nil]; exact q)
theorem RepW.isD {P : Par} {W : Wd} {H : Hp} {M : Sto} (s : StoR P W M H) {d : D} {v : V} (h : RepW P W H d v) (k : isDct (nrm M d) = true) : ∃ a, v = .ref a ∧ IsD H a := by
  have r := h.r s
  cases e : nrm M d with
  | dct t kvs =>
    rw [e] at r
    obtain ⟨a, o, vs, rfl, ho, dc⟩ := r
    exact ⟨a, rfl, isD_rd (P := P) (W := W) ho ⟨vs, dc⟩⟩
  | _ => rw [e] at k; cases k
theorem get_ok {W : Wd} {H : Hp} {d b dd : D} {x y : V} {ds : List D} {z : V} (hz : (ds = [b] ∧ z = .non) ∨ ∃ e, ds = [b, e] ∧ Rep P W H e z) (rd : RepR P W H d x) (rb : RepR P W H b y) (e : meD .get d ds = some dd) :
    ∃ a o, x = .ref a ∧ DGet H a y o ∧ Rep P W H dd (o.getD z) := by
  cases d with
  | dct t kvs =>
    rcases hz with ⟨rfl, rfl⟩ | ⟨e', rfl, rz⟩
    · have e : (if keyOk t b then some ((keyFind kvs b).getD .non) else none) = some dd := e
      split at e
      · rename_i ok
        cases e
        obtain ⟨a, o, rfl, dg, h⟩ := dget ok rb rd
        refine ⟨a, o, rfl, dg, ?_⟩
        rcases h with ⟨h1, rfl⟩ | ⟨d, v, h1, rfl, h3⟩
        · rw [h1]; exact rfl
        · rw [h1]; exact h3
      · cases e
    · have e : (if keyOk t b then some ((keyFind kvs b).getD e') else none) = some dd := e
      split at e
      · rename_i ok
        cases e
        obtain ⟨a, o, rfl, dg, h⟩ := dget ok rb rd
        refine ⟨a, o, rfl, dg, ?_⟩
        rcases h with ⟨h1, rfl⟩ | ⟨d, v, h1, rfl, h3⟩
        · rw [h1]; exact rz
        · rw [h1]; exact h3
      · cases e
  | _ => rcases hz with ⟨rfl, rfl⟩ | ⟨e', rfl, rz⟩ <;> cases e
theorem get_start {a : E} {as : List E} {W : Wd} {ρ : Env} {M : Sto} {H : Hp} {σ : L2.St} {A : D × Sto → Prop} {U : V → Hp → Prop} (rel : Rel P ow W ρ M σ H) (hs : (evE c (.me .get a as) ρ M).sat A (Xk P W H w σ))
    (k : ∀ (q : D × Sto) W1 x p H1, G W H W1 H1 → StoR P W1 q.2 H1 → RepW P W1 H1 q.1 x → x = .ref p → IsD H1 p → ((evEs c as ρ q.2).bind fun r => R.of ((meD .get (nrm r.2 q.1) r.1).map fun d => (d, r.2))).sat A (Xk P W H w σ) → U x H1) : tE P c ow w a σ H U := by
  rw [evE, R.sat_bind] at hs
  refine ⟨W, ρ, M, rel, R.sat_mono hs (fun q hq => ?_) fun _ _ h => h⟩
  intro W1 x H1 g1 s1 r1
  cases z : isDct (nrm q.2 q.1) with
  | false => rw [if_pos z] at hq; exact hq.elim
  | true =>
    rw [if_neg (by rw [z]; decide)] at hq
    obtain ⟨p, e, h⟩ := r1.w.isD s1 z
    exact k q W1 x p H1 g1 s1 r1.w e h hq
theorem x_get1 {a b : E} {o e : Expr} {apos : Pos} (ok : CtxOk g P c n X w) (h0 : notCall0 o = true) (hl : (apos.endLine == pos.line) = true) (hst : notStar e = true) (ha : PEE P c ow w X o a) (hb : PEE P c ow w X e b) (nb : isBor b = false) : PEE P c ow w X (.Call (.Attribute o "get" apos) [e] [] pos) (.me .get a [b]) := by
  refine pe_imp (pe_dget1 (by have := ok.hu; omega) ha hb ⟨notCall0_of h0 _ _, by rw [notStar_of hst]; rfl, hl, by rw [notStar_of hst]; rfl⟩) fun σ H Q ⟨W, ρ, M, rel, hs⟩ => ?_
  refine get_start rel hs fun q W1 x p H1 g1 s1 r1 ex hd hq => ⟨p, ex, hd, ?_⟩
  subst ex
  rw [evEs, R.bind_assoc, R.sat_bind] at hq
  refine ⟨W1, ρ, q.2, rel.g g1 s1, R.sat_mono hq (fun r hr => ?_) fun _ _ h => h.g g1⟩
  intro W2 y H2 g2 s2 r2
  obtain ⟨d, ed, hq⟩ := sat_of (show (R.of ((meD .get (nrm r.2 q.1) [r.1]).map fun d => (d, r.2))).sat (PQ P W H (.me .get a [b]) Q) (Xk P W H w σ) from hr)
  obtain ⟨p', ov, ep, dg, rd⟩ := get_ok (.inl ⟨rfl, rfl⟩) ((r1.g g2 s1.wf).r s2) (r2.strict nb).r ed
  cases ep
  exact ⟨ov, dg, hq W2 _ H2 (g1.trans g2) s2 (.of rd)⟩
theorem x_get2 {a b b2 : E} {o e e2 : Expr} {apos : Pos} (ok : CtxOk g P c n X w) (h0 : notCall0 o = true) (hl : (apos.endLine == pos.line) = true) (hst : notStar e = true) (hst2 : notStar e2 = true) (ha : PEE P c ow w X o a) (hb : PEE P c ow w X e b) (hb2 : PEE P c ow w X e2 b2) (nb : isBor b = false) (nb2 : isBor b2 = false) :
    PEE P c ow w X (.Call (.Attribute o "get" apos) [e, e2] [] pos) (.me .get a [b, b2]) := by
  refine pe_imp (pe_dget2 (by have := ok.hu; omega) ha hb hb2 ⟨notCall0_of h0 _ _, by rw [notStar_of hst, notStar_of hst2]; rfl, hl, by rw [notStar_of hst, notStar_of hst2]; rfl⟩) fun σ H Q ⟨W, ρ, M, rel, hs⟩ => ?_
  refine get_start rel hs fun q W1 x p H1 g1 s1 r1 ex hd hq => ⟨p, ex, hd, ?_⟩
  subst ex
  rw [evEs, R.bind_assoc, R.sat_bind] at hq
  refine ⟨W1, ρ, q.2, rel.g g1 s1, R.sat_mono hq (fun r hr => ?_) fun _ _ h => h.g g1⟩
  intro W2 y H2 g2 s2 r2
  rw [R.bind_assoc, evEs, R.bind_assoc, R.sat_bind] at hr
  refine ⟨W2, ρ, r.2, rel.g (g1.trans g2) s2, R.sat_mono hr (fun t ht => ?_) fun _ _ h => h.g (g1.trans g2)⟩
  intro W3 z H3 g3 s3 r3
  obtain ⟨d, ed, hq⟩ := sat_of (show (R.of ((meD .get (nrm t.2 q.1) [r.1, t.1]).map fun d => (d, t.2))).sat (PQ P W H (.me .get a [b, b2]) Q) (Xk P W H w σ) from ht)
  obtain ⟨p', ov, ep, dg, rd⟩ := get_ok (.inr ⟨_, rfl, r3.strict nb2⟩) (((r1.g g2 s1.wf).g g3 s2.wf).r s3) ((r2.strict nb).g g3 s2.wf).r ed
  cases ep
  exact ⟨ov, dg, hq W3 _ H3 (g1.trans (g2.trans g3)) s3 (.of rd)⟩
def RPairs (P : Par) (W : Wd) (H : Hp) : List D → List (V × V) → Prop
  | [], ps => ps = []
  | [_], _ => False
  | k :: d :: ds, ps => ∃ x y r, ps = (x, y) :: r ∧ Rep P W H k x ∧ Rep P W H d y ∧ RPairs P W H ds r
end
theorem RPairs.g {P : Par} {W W' : Wd} {H H' : Hp} (gg : G W H W' H') (wf : Wf W H) : ∀ {ds : List D} {ps : List (V × V)}, RPairs P W H ds ps → RPairs P W' H' ds ps
  | [], _, h => h
  | [_], _, h => h.elim
  | k :: d :: ds, _, ⟨x, y, r, e, h1, h2, h3⟩ => ⟨x, y, r, e, h1.g gg wf, h2.g gg wf, RPairs.g gg wf h3⟩
section
variable {P : Par} {c : Call} {ow : List Nat} {w : WX} {g : Cfg} {n : Nat} {X : Cx} {pos : Pos}
def trsOf (P : Par) (c : Call) (ow : List Nat) (w : WX) : List E → List (TE × TE)
  | k :: v :: r => (tE P c ow w k, tE P c ow w v) :: trsOf P c ow w r
  | _ => []
theorem pairs_ok {A : List D × Sto → Prop} : ∀ {as : List E} {W : Wd} {ρ : Env} {M : Sto} {σ : L2.St} {H : Hp} {U : List (V × V) → Hp → Prop}, Rel P ow W ρ M σ H → (as.all fun a => !isBor a) = true → as.length % 2 = 0 → (evEs c as ρ M).sat A (Xk P W H w σ) →
    (∀ r W' ps H', G W H W' H' → StoR P W' r.2 H' → RPairs P W' H' r.1 ps → 2 * ps.length = as.length → A r → U ps H') → tPairs (trsOf P c ow w as) σ H U
  | [], W, ρ, M, σ, H, U, rel, _, _, hs, k => k ([], M) W [] H .refl rel.sto rfl rfl hs
  | [_], _, _, _, _, _, _, _, _, h, _, _ => by simp at h
  | a :: b :: as, W, ρ, M, σ, H, U, rel, nb, hl, hs, k => by
    simp only [List.all_cons, Bool.and_eq_true, Bool.not_eq_true'] at nb
    rw [evEs, R.sat_bind] at hs
    refine ⟨W, ρ, M, rel, R.sat_mono hs (fun r hr => ?_) fun _ _ h => h⟩
    intro W1 x H1 g1 s1 r1
    rw [evEs, R.bind_assoc, R.sat_bind] at hr
    refine ⟨W1, ρ, r.2, rel.g g1 s1, R.sat_mono hr (fun q hq => ?_) fun _ _ h => h.g g1⟩
    intro W2 y H2 g2 s2 r2
    rw [R.bind_assoc, R.sat_bind] at hq
    have g12 := g1.trans g2
    refine pairs_ok (A := fun t => A (r.1 :: q.1 :: t.1, t.2)) (rel.g g12 s2) nb.2.2 (by simp only [List.length_cons] at hl; omega) (R.sat_mono hq (fun t ht => ht) fun _ _ h => h.g g12) fun t W' ps H' g3 s3 rp ln ht => ?_
    refine k (r.1 :: q.1 :: t.1, t.2) W' ((x, y) :: ps) H' (g12.trans g3) s3 ⟨x, y, ps, rfl, ((r1.strict nb.1).g g2 s1.wf).g g3 s2.wf, (r2.strict nb.2.1).g g3 s2.wf, rp⟩ ?_ ht
    simp only [List.length_cons]
    omega
theorem trs_pps {pp : Pos} : ∀ {as : List E} {ks vs : List Expr}, ks.length = vs.length → (∀ a ∈ as, ∀ e, chkE g X.N ow X.env.scope a e = true → PEE P c ow w X e a) → chkEs g X.N ow X.env.scope as (turnX ks vs) = true → PPs X pp (ks.map some) vs (trsOf P c ow w as)
  | [], [], [], _, _, _ => pps_nil
  | [a], [], [], _, _, h => by simp [chkEs, turnX] at h
  | a :: b :: as, [], [], _, _, h => by simp [chkEs, turnX] at h
  | [], k :: ks, v :: vs, _, _, h => by simp [chkEs, turnX] at h
  | [a], k :: ks, v :: vs, _, _, h => by simp [chkEs, turnX] at h
  | a :: b :: as, k :: ks, v :: vs, hl, hs, h => by
    simp only [turnX, chkEs, Bool.and_eq_true] at h
    exact pps_cons (hs a List.mem_cons_self k h.1.2) (hs b (List.mem_cons_of_mem _ List.mem_cons_self) v h.2.1.2) (trs_pps (by simpa using hl) (fun a ha => hs a (List.mem_cons_of_mem _ (List.mem_cons_of_mem _ ha))) h.2.2)
  | _, [], _ :: _, hl, _, _ => by simp at hl
  | _, _ :: _, [], hl, _, _ => by simp at hl
theorem keysX_map : ∀ {keys : List (Option Expr)} {ks : List Expr}, keysX keys = some ks → keys = ks.map some
  | [], _, h => by cases h; rfl
  | some k :: r, _, h => by
    cases e : keysX r with
    | none => simp [keysX, e] at h
    | some ks =>
      simp only [keysX, e, Option.map_some, Option.some.injEq] at h
      subst h
      rw [List.map_cons, ← keysX_map e]
  | none :: _, _, h => by cases h
theorem turnX_len : ∀ {ks vs : List Expr}, ks.length = vs.length → (turnX ks vs).length = 2 * ks.length
  | [], [], _ => rfl
  | k :: ks, v :: vs, h => by
    rw [turnX, List.length_cons, List.length_cons, turnX_len (by simpa using h), List.length_cons]
    omega
  | [], _ :: _, h => by simp at h
  | _ :: _, [], h => by simp at h
theorem disp_put {W : Wd} {H : Hp} : ∀ {ds : List D} {ps : List (V × V)} {acc kvs : List (D × D)} {m : List (Key × V)}, RPairs P W H ds ps → dctOf false ds acc = some kvs → acc.map (·.1) = m.map (fun p => kD p.1) → RepPs P W H acc (m.map (·.2)) → (∀ j ∈ acc.map (·.1), kOk false j) →
    kvs.length ≤ SZ ∧ ∃ kk : List (Key × V), ps = kk.map (fun kv => (kV kv.1, kv.2)) ∧ kvs.map (·.1) = (mergeK m kk).map (fun p => kD p.1) ∧ RepPs P W H kvs ((mergeK m kk).map (·.2)) ∧ ∀ j ∈ kvs.map (·.1), kOk false j
  | [], ps, acc, kvs, m, h, e, e1, r1, w1 => by
    have e : (if acc.length ≤ SZ then some acc else none) = some kvs := e
    split at e
    · rename_i hz
      cases e
      have h : ps = [] := h
      subst h
      exact ⟨hz, [], rfl, e1, r1, w1⟩
    · cases e
  | [_], _, _, _, _, h, _, _, _, _ => h.elim
  | k :: d :: ds, _, acc, kvs, m, h, e, e1, r1, w1 => by
    obtain ⟨x, y, r, rfl, rk, rd, rp⟩ := h
    have e : (if keyOk false k then dctOf false ds (keyPut acc k d) else none) = some kvs := e
    split at e
    · rename_i ok
      obtain ⟨kk, rfl, rfl, w⟩ := sc_key (show isSc k = true from ok) rk.r
      obtain ⟨q1, q2⟩ := key_put kD deq_kD kk rd e1 r1
      obtain ⟨hl, more, rfl, h2, h3, h4⟩ := disp_put rp e q1 q2 fun j hj => by
        rcases keyPut_mem hj with hj | rfl
        · exact w1 j hj
        · cases kk with
          | inl i => exact ⟨rfl, trivial⟩
          | inr z => exact ⟨rfl, w⟩
      exact ⟨hl, (kk, y) :: more, rfl, h2, h3, h4⟩
    · cases e
theorem x_disp {as : List E} {keys : List (Option Expr)} {ks vs : List Expr} (hk : keysX keys = some ks) (hl : ks.length = vs.length) (h15 : ks.length ≤ 15) (h0 : ks ≠ []) (hs : ∀ a ∈ as, ∀ e, chkE g X.N ow X.env.scope a e = true → PEE P c ow w X e a) (ck : chkEs g X.N ow X.env.scope as (turnX ks vs) = true) (nb : (as.all fun a => !isBor a) = true) :
    PE X (.Dict keys vs pos) (tF P c ow w (.dct false as)) := by
  have ek := keysX_map hk
  subst ek
  have al : as.length % 2 = 0 := by
    rw [← (chkEs_star ck).2, turnX_len hl]
    omega
  refine pe_imp (pe_disp (trs_pps hl hs ck) (by rw [List.all_map, List.all_eq_true]; exact fun _ _ => rfl) (by rw [List.length_map]; exact hl) (by simpa using h0) (by rw [List.length_map]; exact h15)) fun σ H Q ⟨W, ρ, M, rel, hs⟩ => ?_
  rw [evE, R.sat_bind] at hs
  intro p np
  have s1 := rel.sto.grow (o := .dK []) np
  have g1 : G W H W (upd H p (.dK [])) := G.grow np
  have pF : ¬ W.F p := fun z => rel.sto.wf.fs p z np
  have pι : p ∉ W.ι := fun z => rel.sto.wf.is p z np
  refine pairs_ok (A := fun r => (R.of ((dctOf false r.1 []).map fun kvs => (D.dct false kvs, r.2))).sat (PF P W H Q) (Xk P W H w σ)) (rel.g g1 s1) nb al (R.sat_mono hs (fun _ h => h) fun _ _ h => h.g g1) fun r W' ps H' g2 s2 rp ln hr => ?_
  obtain ⟨kvs, ed, hq⟩ := sat_of hr
  obtain ⟨hz, kk, rfl, h2, h3, h4⟩ := disp_put (m := []) rp ed rfl rfl fun j hj => by simp at hj
  have e2 : H' p = some (.dK []) := g2.kp p _ (upd_same ..) pι pF
  have al' : (upd H p (.dK [])) p ≠ none := by rw [upd_same]; exact fun z => nomatch z
  have nF' : ¬ W'.F p := fun z => (g2.fn p z).elim pF al'
  have nι' : p ∉ W'.ι := fun z => by
    obtain ⟨m, e, k⟩ := g2.io
    rw [e] at z
    rcases List.mem_append.mp z with z | z
    · exact pι z
    · exact al' (k p z)
  refine ⟨e2, kk, rfl, ?_, ?_⟩
  · have l1 : 2 * kk.length = as.length := by simpa using ln
    have l2 := (chkEs_star ck).2
    rw [turnX_len hl] at l2
    omega
  · have nt := nt_do e2 rfl
    exact hq W' _ _ ((g1.trans g2).upd np) (s2.upd nF' nι' nt) ⟨p, rfl, np, nF', nι', _, _, upd_same .., ⟨h4, _, rfl, h2, rfl⟩, hz, h3.gw (upd_gw nF' nt)⟩
theorem x_dnew {t : Bool} : PE X (.Dict [] [] pos) (tF P c ow w (.dct t [])) := by
  have key : ∀ (o : HO) σ H Q, DctO t [] [] o → tF P c ow w (.dct t []) σ H Q → ∀ p, H p = none → Q (.ref p) (upd H p o) := fun o σ H Q ho ⟨W, ρ, M, rel, hs⟩ p np => by
    have hq : PF P W H Q (.dct t [], M) := hs
    exact hq W _ _ (G.grow np) (rel.sto.grow np) ⟨p, rfl, np, fun z => rel.sto.wf.fs p z np, fun z => rel.sto.wf.is p z np, _, [], upd_same .., ho, Nat.zero_le _, rfl⟩
  cases t with
  | false => exact pe_imp pe_dnewK fun σ H Q h => key _ σ H Q ⟨fun j hj => (by simp at hj), [], rfl, rfl, rfl⟩ h
  | true => exact pe_imp pe_dnewT fun σ H Q h => key _ σ H Q ⟨fun j hj => (by simp at hj), [], rfl, rfl, rfl⟩ h
end
end Ev
set_option Elab.async false
set_option linter.all false
set_option autoImplicit false
set_option maxRecDepth 100000
set_option maxHeartbeats 4000000
namespace Ev
open PySem PySem.Spec PyProof.Rows L2
open AutoSeq1 (wpAny_loadPart')
abbrev tupIt (l : Addr) : Obj := { cls := .type "tuple_iterator", data := .fields #[.ref l, .int 0 0] }
abbrev enumOb (it : Addr) : Obj := { cls := .type "enumerate", data := .fields #[.none, .bool false, .ref it, rawInt 0, .none, .none] }
theorem meets_enT (l : Addr) (items : Array Value) (n : Nat) (dct : Option Addr) (sl : Array (Option Value)) :
    Meets (Builtin.«enumerate.__new__» ⟨[.type "enumerate", .ref l], []⟩) (fun _ R t => t.heap.get? l = some { cls := .type "tuple", dict := dct, data := .seq items n, slots := sl } ∧
      R (.ok (.ret (.ref (t.heap.push (tupIt l)).objs.size))) { t with heap := (t.heap.push (tupIt l)).push (enumOb t.heap.objs.size) }) :=
  .of_wp fun prog w A R t h => by
    obtain ⟨hp, ge, dr, tk, os⟩ := t
    obtain ⟨h1, h⟩ := h
    have z := sub_enumerate
    have hT : Heap.IsTuple (Shared.heap ⟨hp, ge, dr, tk, os⟩) l items := ⟨_, h1, rfl, n, rfl⟩
    wp_walk using wpAny_loadPart' h1
    refine wpAny_stack_any fun st => wpAny_pure ?_
    split
    · rename_i k _ _ _ _ _
      cases (k == Value.type "enumerate") <;> (wp_walk using wpAny_loadPart' h1, wpAny_pyIter_tuple hT; exact ⟨_, rfl, h⟩)
    · wp_walk using wpAny_loadPart' h1, wpAny_pyIter_tuple hT
      exact ⟨_, rfl, h⟩
section
variable {prog : Program} {w : World} {A : Around} {E : Value → Shared → Prop} {s : Shared}
theorem call_enT {l : Addr} {items : Array Value} {Q : Value → Shared → Prop} (hT : s.heap.IsTuple l items)
    (h : ∀ h', IsEnum h' (s.heap.objs.size + 1) s.heap.objs.size 0 .none → h'.IsTupleIter s.heap.objs.size l 0 → (∀ b o, s.heap.get? b = some o → h'.get? b = some o) → Q (.ref (s.heap.objs.size + 1)) { s with heap := h' }) :
    wpAny (model prog w) A (call (.type "enumerate") [.ref l]) Q E s := by
  obtain ⟨⟨k, dct, dt, sl⟩, h1, hk, n, hd⟩ := hT
  have hk : k = .type "tuple" := hk
  have hd : dt = .seq items n := hd
  subst hk hd
  refine callType_new F.called_enumerate (by decide) (F.typeCall_enumerate_1 _) (F.newCall_enumerate_1 _) (fun obj => F.args_object_init_2 obj _) F.entry_enumerate_new (meets_enT l items n dct sl) ⟨h1, ?_⟩
  have z : (s.heap.push (tupIt l)).objs.size = s.heap.objs.size + 1 := Heap.size_push ..
  show _ ∧ _
  rw [z]
  have he : IsEnum ((s.heap.push (tupIt l)).push (enumOb s.heap.objs.size)) (s.heap.objs.size + 1) s.heap.objs.size 0 .none := by
    have q := Heap.get?_push_size (s.heap.push (tupIt l)) (o := enumOb s.heap.objs.size) rfl
    rw [z] at q
    exact q
  exact ⟨⟨_, he, rfl⟩, h _ he ⟨_, Heap.get?_push_of_some _ (Heap.get?_push_size _ rfl), rfl, rfl⟩ fun b o x => Heap.get?_push_of_some _ (Heap.get?_push_of_some _ x)⟩
theorem drawsT (hh : A.handled = none) (it l : Addr) (ne : l ≠ it) (items : Array Value) : Draws prog w A it [it, l] items.size (fun i v => items[i]? = some v) (fun i h => h.IsTupleIter it l i ∧ h.IsTuple l items) where
  live := fun _ _ st => ⟨_, st.1.choose_spec.1⟩
  frame := fun _ _ _ st k => ⟨st.1.at fun o e => k it (by simp) o e, st.2.at fun o e => k l (by simp) o e⟩
  item := fun i t Q E hi st q => RZ.nextOf_tuple_item st.1 st.2 (x := items[i]) (by simp [hi]) fun h' it' sb => q _ h' t.toks (by simp [hi]) ⟨it', st.2.extBut sb.extBut ne⟩ sb
  done := fun t Q E st q => RZ.nextOf_tuple_end hh st.1 st.2 (by simp) q
end
def IteT (K : PySem.W.Frag) (a : Addr) : It :=
  ⟨fun i H => ∃ (xs : List V) (x : V), SqT K H a xs ∧ xs[i]? = some x, fun i H v H' => ∃ t x, v = .ref t ∧ H t = none ∧ H' = upd H t (.tup [.int (i : Nat), x]) ∧ ∀ xs, SqT K H a xs → xs[i]? = some x, fun i H => ∃ xs : List V, SqT K H a xs ∧ xs.length ≤ i⟩
theorem turn_enT {P : Program} {w : World} {K : PySem.W.Frag} {elts : List Expr} {kk : Nat} {tp : Pos} (a e it : Addr) :
    Turn P w K (.Tuple elts kk tp) (IteT K a) [e, it] e (fun i h => (∃ old, IsEnum h e it ((i : Nat) : Int) old) ∧ h.IsTupleIter it a i ∧ e ≠ it ∧ a ≠ it ∧ e ≠ a) where
  mem := by simp
  obj := fun i h st b hb => by
    obtain ⟨⟨old, he⟩, ⟨o, ho, _, hd⟩, _⟩ := st
    rcases List.mem_cons.mp hb with rfl | hb
    · exact ⟨_, he, fun v q => nomatch q⟩
    · rw [List.mem_singleton.mp hb]
      exact ⟨o, ho, fun v q => by rw [hd] at q; cases q⟩
  keep := fun i h h' st k => let ⟨⟨old, he⟩, hi, r⟩ := st; ⟨⟨old, k e (by simp) _ he⟩, hi.at fun o q => k it (by simp) o q, r⟩
  item := by
    intro X hP hw hK hc i pins s σ H E I hf st hg
    subst hP hw hK
    obtain ⟨⟨old, he⟩, hit, ne, nl, nea⟩ := st
    obtain ⟨xs, x, hq, hx⟩ := hg
    obtain ⟨its, rv, pt, _⟩ := I.tuple hq
    obtain ⟨u, hu, ru⟩ := rv.get hx
    have hi : i < its.length := (List.getElem?_eq_some_iff.mp hu).1
    have le : e < s.heap.objs.size := Heap.lt_size he
    have li : it < s.heap.objs.size := let ⟨_, q, _⟩ := hit; Heap.lt_size q
    have tup : s.heap.IsTuple a its.toArray := let ⟨o, h1, h2, n, h3⟩ := pt; ⟨o, h1, h2, n, h3⟩
    refine wpAny_pyNext_enum_itemD (drawsT (A := X.A.in1) (I.ok.hd hc) it a nl its.toArray) he ⟨hit, tup⟩ (by simpa using hi) ne (by simp [ne, nea]) fun v h1 tk hv out st1 new _ kp => ?_
    have ev : v = u := by
      have : its[i]? = some v := by simpa using hv
      rw [hu] at this
      exact (Option.some.inj this).symm
    subst ev
    refine ⟨_, rfl, wpAny_letOwnedTupleGo_enum (s := { s with heap := h1, toks := tk + 1 }) out fun h2 he2 sb => ?_⟩
    have new2 : h2.get? s.heap.objs.size = some { cls := .type "tuple", data := .seq #[.int i tk, v] } := (sb.2 _ (Nat.ne_of_gt le)).trans new
    have ob : ObjOk X.prog X.w (upd H s.heap.objs.size (.tup [.int (i : Nat), x])) h2 s.heap.objs.size (.tup [.int (i : Nat), x]) :=
      ⟨(by show 2 ≤ sizeLine; decide), [.int i tk, v], .cons ⟨_, rfl⟩ (.cons ru .nil), ⟨_, new2, rfl, _, rfl⟩⟩
    have I2 : Inv X pins σ (upd H s.heap.objs.size (.tup [.int (i : Nat), x])) { s with heap := h2, toks := tk + 1 } :=
      I.turnedNew (ch := [e, it]) (fun b o hb q => (sb.2 b (fun z => hb (by simp [z]))).trans (kp b o (fun z => hb (by simp [z])) (fun z => hb (by simp [z])) q)) hf (Nat.le_refl _) ob
    refine ⟨.ref s.heap.objs.size, _, I2, rfl, ⟨_, x, rfl, I.hok.fresh (Nat.le_refl _), rfl, fun ys hy => ?_⟩, ⟨⟨v, ?_⟩, st1.1.at fun o q => (sb.2 it (Ne.symm ne)).trans q, ne, nl, nea⟩, fun b hb => ?_⟩
    · rw [I.tuple_inj hy hq]
      exact hx
    · rw [show ((i + 1 : Nat) : Int) = (i : Int) + 1 by omega]
      exact he2
    · have lb : b < s.heap.objs.size := by
        rcases List.mem_cons.mp hb with rfl | hb
        · exact le
        · rw [List.mem_singleton.mp hb]; exact li
      rw [upd_ne (Nat.ne_of_lt lb)]
      exact (hf b hb).1
  done := by
    intro X hP hw hK hc i pins s σ H E I hf st hg
    subst hP hw hK
    obtain ⟨⟨old, he⟩, hit, ne, nl, nea⟩ := st
    obtain ⟨xs, hq, hx⟩ := hg
    obtain ⟨its, rv, pt, _⟩ := I.tuple hq
    obtain ⟨f0, f1, f2, f3, f4, f5⟩ := hf it (by simp)
    have tup : s.heap.IsTuple a its.toArray := let ⟨o, h1, h2, n, h3⟩ := pt; ⟨o, h1, h2, n, h3⟩
    have none_ : its.toArray[i]? = none := Array.getElem?_eq_none (by
      have := rv.length
      show its.length ≤ i
      omega)
    have dr : Draws X.prog X.w X.A.in1 it [it, a] i (fun _ _ => True) (fun j h => j = i ∧ h.IsTupleIter it a i ∧ h.IsTuple a its.toArray) := {
      live := fun _ _ st => ⟨_, st.2.1.choose_spec.1⟩
      frame := fun _ _ _ st k => ⟨st.1, st.2.1.at fun o e => k it (by simp) o e, st.2.2.at fun o e => k a (by simp) o e⟩
      item := fun j t Q E hj st q => absurd st.1 (Nat.ne_of_lt hj)
      done := fun t Q E st q => RZ.nextOf_tuple_end (I.ok.hd hc) st.2.1 st.2.2 none_ q }
    exact wpAny_pyNext_enum_endD dr he ⟨rfl, hit, tup⟩ fun h' eb => ⟨rfl, I.turned (t' := s.toks) (fun b o hb q => eb b o hb q) f0 f1 f3 f4 f5⟩
  self := fun A i s Q E st h => let ⟨⟨_, he⟩, _⟩ := st; wpAny_pyIter_enum he h
def iEnT (K : PySem.W.Frag) (ta : TA) : TI := fun σ H R => ta σ H fun vs H1 => ∃ a xs, vs = [.ref a] ∧ ((SqL K H1 a xs ∧ R (Ite K a) H1) ∨ (SqT K H1 a xs ∧ R (IteT K a) H1))
theorem pi_enT {X : Cx} {e : Expr} {ta : TA} {p pos tp : Pos} {elts : List Expr} {kk : Nat} (hg : Gl X "enumerate") (hm : X.mg "enumerate" = none) (ha : PA X [e] ta) (hs : starEach [e] X.env = [(false, eval e X.env)]) :
    PI X (.Tuple elts kk tp) (.Call (.Name "enumerate" p) [e] [] pos) (iEnT X.K ta) := by
  refine ⟨fun pins s σ H R I h => Call_ (ld_blt I hg hm boot_enumerate (PyProof.Rows.callWith_type1 (thn (ha.run pos pins s σ H _ I h) fun us t ⟨vs, H1, I1, r1, a, xs, ex, q⟩ => ?_) hs rfl))⟩
  subst ex
  obtain ⟨u, rfl, ru⟩ := r1.one
  cases ru
  have two : ∀ (h' : Heap), (∀ b o, t.heap.get? b = some o → h'.get? b = some o) → ∀ b ∈ [t.heap.objs.size + 1, t.heap.objs.size], FpOk X pins H1 b := fun h' kp b hb => by
    have hle : t.heap.objs.size ≤ b := by
      rcases List.mem_cons.mp hb with rfl | hb
      · omega
      · rw [List.mem_singleton.mp hb]; exact Nat.le_refl _
    exact I1.fpOk hle (I1.hok.fresh hle)
  rcases q with ⟨hq, q⟩ | ⟨hq, q⟩
  · obtain ⟨its, rv, pl, _⟩ := I1.list hq
    exact call_enumerate_list pl.isList fun h' he hit _ kp => wpAny_pyIter_enum he ⟨t.heap.objs.size + 1, [t.heap.objs.size + 1, t.heap.objs.size], _, _, H1, rfl, I1.kept (t' := t.toks) kp, turn_enum a (t.heap.objs.size + 1) t.heap.objs.size, ⟨⟨.none, he⟩, hit, Nat.succ_ne_self _⟩, two h' kp, q⟩
  · obtain ⟨its, rv, pt, _⟩ := I1.tuple hq
    have tup : t.heap.IsTuple a its.toArray := let ⟨o, h1, h2, n, h3⟩ := pt; ⟨o, h1, h2, n, h3⟩
    have la : a < t.heap.objs.size := let ⟨_, h1, _⟩ := pt; Heap.lt_size h1
    exact call_enT tup fun h' he hit kp => wpAny_pyIter_enum he ⟨t.heap.objs.size + 1, [t.heap.objs.size + 1, t.heap.objs.size], _, _, H1, rfl, I1.kept (t' := t.toks) kp, turn_enT a (t.heap.objs.size + 1) t.heap.objs.size, ⟨⟨.none, he⟩, hit, Nat.succ_ne_self _, Nat.ne_of_lt la, Nat.ne_of_gt (Nat.lt_succ_of_lt la)⟩, two h' kp, q⟩
end Ev
set_option Elab.async false
set_option linter.all false
set_option autoImplicit false
set_option maxRecDepth 100000
set_option maxHeartbeats 4000000
namespace Ev
open PySem PySem.Spec PyProof.Rows L2
abbrev LT := Wd → Hp → Wd → Hp → Prop
structure Wlk (T : LT) (P : Par) (W : Wd) (H : Hp) (ds : List D) (J : It) : Prop where
  go : ∀ W' H' M i, T W H W' H' → StoR P W' M H' → i < ds.length → J.go i H' ∧ ∀ x H'', J.yld i H' x H'' → ∃ W'', G W' H' W'' H'' ∧ StoR P W'' M H'' ∧ ∃ d, ds[i]? = some d ∧ Rep P W'' H'' d x
  stop : ∀ W' H' i, T W H W' H' → ds.length ≤ i → J.stop i H'
section
variable {P : Par} {c : Call} {ow : List Nat} {w : WX} {g : Cfg} {n : Nat} {X : Cx} {pos : Pos} {T : LT}
def tI (T : LT) (P : Par) (c : Call) (ow : List Nat) (w : WX) (a : E) : TI := fun σ H R => ∃ W ρ M, Rel P ow W ρ M σ H ∧
  (evE c a ρ M).sat (fun r => ∃ ds, itemsW a r.1 = some ds ∧ ∀ W' H' J, G W H W' H' → StoR P W' r.2 H' → Wlk T P W' H' ds J → R J H') (Xk P W H w σ)
theorem wlk_l {W : Wd} {H : Hp} {K : PySem.W.Frag} {a : Addr} {ds : List D} {vs : List V} (h : ∀ W' H', T W H W' H' → SqL K H' a vs ∧ Reps P W' H' ds vs) (hl : vs.length = ds.length) : Wlk T P W H ds (Itl K a) := by
  refine ⟨fun W' H' M i gg st hi => ⟨⟨vs, _, (h W' H' gg).1, (List.getElem?_eq_getElem (by rw [hl]; exact hi))⟩, fun x H'' y => ?_⟩, fun W' H' i gg hi => ⟨vs, (h W' H' gg).1, by rw [hl]; exact hi⟩⟩
  obtain ⟨e, y⟩ := y
  obtain ⟨v, e1, rp⟩ := (h W' H' gg).2.get (List.getElem?_eq_getElem hi)
  have := y vs (h W' H' gg).1
  rw [e1] at this
  cases this
  subst e
  exact ⟨W', .refl, st, _, List.getElem?_eq_getElem hi, rp⟩
theorem wlk_t {W : Wd} {H : Hp} {K : PySem.W.Frag} {a : Addr} {ds : List D} {vs : List V} (h : ∀ W' H', T W H W' H' → SqT K H' a vs ∧ Reps P W' H' ds vs) (hl : vs.length = ds.length) : Wlk T P W H ds (Itt K a) := by
  refine ⟨fun W' H' M i gg st hi => ⟨⟨vs, _, (h W' H' gg).1, (List.getElem?_eq_getElem (by rw [hl]; exact hi))⟩, fun x H'' y => ?_⟩, fun W' H' i gg hi => ⟨vs, (h W' H' gg).1, by rw [hl]; exact hi⟩⟩
  obtain ⟨e, y⟩ := y
  obtain ⟨v, e1, rp⟩ := (h W' H' gg).2.get (List.getElem?_eq_getElem hi)
  have := y vs (h W' H' gg).1
  rw [e1] at this
  cases this
  subst e
  exact ⟨W', .refl, st, _, List.getElem?_eq_getElem hi, rp⟩
theorem wlk_s {W : Wd} {H : Hp} {x : List Nat} (hc : ∀ z ∈ x, z < 1114112) : Wlk T P W H (x.map fun z => .str [z]) (Its (S' x)) := by
  have hz : (S' x).cps.size = x.length := rfl
  refine ⟨fun W' H' M i gg st hi => ?_, fun W' H' i gg hi => by show (S' x).cps.size ≤ i; rw [hz]; simpa using hi⟩
  rw [List.length_map] at hi
  refine ⟨show i < (S' x).cps.size from hz ▸ hi, fun v H'' y => ?_⟩
  obtain ⟨e, z, e1, rfl⟩ := y
  have e2 : x[i]? = some z := by simpa [S'] using e1
  subst e
  refine ⟨W', .refl, st, .str [z], by rw [List.getElem?_map, e2]; rfl, rfl, (by show 1 ≤ SZ; decide), fun q hq => ?_⟩
  rw [List.mem_singleton.mp hq]
  exact hc z (List.mem_of_getElem? e2)
theorem intsFrom_get (a k : Int) : ∀ (m i : Nat), i < m → (intsFrom a k m)[i]? = some (.int (a + i * k))
  | 0, _, h => by omega
  | m + 1, 0, _ => by simp [intsFrom]
  | m + 1, i + 1, h => by
    rw [intsFrom, List.getElem?_cons_succ, intsFrom_get (a + k) k m i (by omega)]
    have e : a + k + (i : Int) * k = a + ((i + 1 : Nat) : Int) * k := by
      rw [Int.natCast_add, Int.natCast_one, Int.add_mul, Int.one_mul]
      omega
    rw [e]
theorem intsFrom_len (a k : Int) : ∀ m : Nat, (intsFrom a k m).length = m
  | 0 => rfl
  | m + 1 => by rw [intsFrom, List.length_cons, intsFrom_len]
theorem wlk_r {W : Wd} {H : Hp} (a : Int) (m : Nat) : Wlk T P W H (intsFrom a 1 m) (Itr a m) := by
  refine ⟨fun W' H' M i gg st hi => ?_, fun W' H' i gg hi => by rw [intsFrom_len] at hi; exact hi⟩
  rw [intsFrom_len] at hi
  refine ⟨hi, fun v H'' y => ?_⟩
  obtain ⟨e, rfl⟩ := y
  subst e
  exact ⟨W', .refl, st, _, intsFrom_get a 1 m i hi, by rw [Int.mul_one]; rfl⟩
theorem wlk_c {W : Wd} {H : Hp} (a k : Int) (m : Nat) : Wlk T P W H (intsFrom a k m) (Itc a k m) := by
  refine ⟨fun W' H' M i gg st hi => ?_, fun W' H' i gg hi => by rw [intsFrom_len] at hi; exact hi⟩
  rw [intsFrom_len] at hi
  refine ⟨hi, fun v H'' y => ?_⟩
  obtain ⟨e, rfl⟩ := y
  subst e
  exact ⟨W', .refl, st, _, intsFrom_get a k m i hi, rfl⟩
theorem pe_frz {e : Expr} {t : TE} (h : PE X e t) : PE X e fun σ H Q => t σ H fun v H1 => Q v H1 ∨ ∃ d u, v = .ref d ∧ H1 d = some u ∧ Mut (some u) ∧ ∀ od, Q v (upd H1 d (.frz od u)) := by
  refine ⟨fun pins s σ H Q I q => thn (h.run pins s σ H _ I q) fun v s1 ⟨x, H1, I1, r, q1⟩ => ?_⟩
  rcases q1 with q1 | ⟨d, u, rfl, e1, mu, q1⟩
  · exact ⟨x, H1, I1, r, q1⟩
  · obtain ⟨od, I2⟩ := I1.lock e1 mu
    exact ⟨_, _, I2, r, q1 od⟩
theorem wlk_k {W : Wd} {H : Hp} {p : Addr} {ob : Obj} {m : List (Key × V)} (h : ∀ W' H', T W H W' H' → H' p = some (.frz ob (.dK m))) (w : ∀ j ∈ m.map (fun p => kD p.1), kOk false j) : Wlk T P W H (m.map fun p => kD p.1) (Itk p ob m) := by
  refine ⟨fun W' H' M i gg st hi => ?_, fun W' H' i gg hi => ⟨h W' H' gg, by simpa using hi⟩⟩
  rw [List.length_map] at hi
  refine ⟨⟨h W' H' gg, hi⟩, fun x H'' y => ?_⟩
  obtain ⟨rfl, k, v, e, rfl⟩ := y
  refine ⟨W', .refl, st, kD k, by rw [List.getElem?_map, e]; rfl, key_repK (w _ (List.mem_map.mpr ⟨(k, v), List.mem_of_getElem? e, rfl⟩))⟩
theorem wlk_kt {W : Wd} {H : Hp} {p : Addr} {ob : Obj} {m : List (List Key × V)} (h : ∀ W' H', T W H W' H' → H' p = some (.frz ob (.dT m))) (w : ∀ j ∈ m.map (fun p => kT p.1), kOk true j) : Wlk T P W H (m.map fun p => kT p.1) (Itkt p ob m) := by
  refine ⟨fun W' H' M i gg st hi => ?_, fun W' H' i gg hi => ⟨h W' H' gg, by simpa using hi⟩⟩
  rw [List.length_map] at hi
  refine ⟨⟨h W' H' gg, hi⟩, fun x H'' y => ?_⟩
  obtain ⟨rfl, k, v, q, e, rfl, hq⟩ := y
  refine ⟨W', .refl, st, kT k, by rw [List.getElem?_map, e]; rfl, key_repT hq (w _ (List.mem_map.mpr ⟨(k, v), List.mem_of_getElem? e, rfl⟩))⟩
theorem pi_val {tg e : Expr} {a : E} (hK : X.K = P.K) (hT : ∀ W H W' H', Wf W H → T W H W' H' → Gw W H W' H') (hB : isBor a = false ∨ ∀ W H W' H', T W H W' H' → G W H W' H') (h : PEE P c ow w X e a) : PI X tg e (tI T P c ow w a) := by
  refine ⟨fun pins s σ H R I q => ?_⟩
  obtain ⟨W, ρ, M, rel, hs⟩ := q
  -- the reading by value
  have key : ∀ (U : V → Hp → Prop), (∀ d M' ds, evE c a ρ M = .ok (d, M') → itemsW a d = some ds → (∀ W' H' J, G W H W' H' → StoR P W' M' H' → Wlk T P W' H' ds J → R J H') → ∀ W' v H', G W H W' H' → StoR P W' M' H' → RepQ a P W' H' d v → U v H') → tE P c ow w a σ H U := fun U k => by
    refine ⟨W, ρ, M, rel, ?_⟩
    cases er : evE c a ρ M with
    | bad => rw [er] at hs; exact hs
    | exc x M' => rw [er] at hs; exact hs
    | ok r =>
      rw [er] at hs
      obtain ⟨d, M'⟩ := r
      obtain ⟨ds, h1, h2⟩ := hs
      exact fun W' v H' g' s' rp => k d M' ds er h1 h2 W' v H' g' s' rp
  cases er : evE c a ρ M with
  | bad => rw [er] at hs; exact hs.elim
  | exc x M' => exact (pi_list h).run pins s σ H R I (key _ fun d M2 ds2 e2 _ _ _ _ _ _ _ _ => by rw [er] at e2; cases e2)
  | ok r =>
    obtain ⟨d, M'⟩ := r
    cases d with
    | lst ds =>
      refine (pi_list h).run pins s σ H R I (key _ fun d M2 ds2 e2 hi hk W' v H' g' s' rp => ?_)
      rw [er] at e2; cases e2
      cases hi
      rcases hB with hB | hB
      · obtain ⟨p, vs, rfl, f, e1, _, r1⟩ := rp.strict hB
        exact ⟨p, rfl, ⟨vs, .inl (.inl e1)⟩, hk W' H' _ g' s' (wlk_l (fun W2 H2 g2 => ⟨.inl (.inl (((hT _ _ _ _ s'.wf g2).kp p f).lst e1)), r1.gw (hT _ _ _ _ s'.wf g2)⟩) r1.length)⟩
      · have fin : ∀ p vs, H' p = some (.lst vs) → p ∉ W'.ι → ¬ W'.F p → Reps P W' H' ds vs → ∃ a, V.ref p = .ref a ∧ (∃ xs, SqL X.K H' a xs) ∧ R (Itl X.K a) H' := fun p vs e1 ni nf r1 =>
          ⟨p, rfl, ⟨vs, .inl (.inl e1)⟩, hk W' H' _ g' s' (wlk_l (fun W2 H2 g2 => ⟨.inl (.inl ((hB _ _ _ _ g2).kp _ _ e1 ni nf)), r1.gw (hT _ _ _ _ s'.wf g2)⟩) r1.length)⟩
        rcases rp.w with rp | ⟨p, rfl, ni, nf, vs, e1, _, r1⟩
        · obtain ⟨p, vs, rfl, f, e1, _, r1⟩ := rp
          exact ⟨p, rfl, ⟨vs, .inl (.inl e1)⟩, hk W' H' _ g' s' (wlk_l (fun W2 H2 g2 => ⟨.inl (.inl (((hT _ _ _ _ s'.wf g2).kp p f).lst e1)), r1.gw (hT _ _ _ _ s'.wf g2)⟩) r1.length)⟩
        · exact fin p vs e1 ni nf r1
    | scr ds =>
      refine (pi_list h).run pins s σ H R I (key _ fun d M2 ds2 e2 hi hk W' v H' g' s' rp => ?_)
      rw [er] at e2; cases e2
      cases hi
      rcases rp.w with rp | ⟨p, rfl, ni, nf, b⟩
      · obtain ⟨p, vs, rfl, t, _, r1⟩ := rp
        exact ⟨p, rfl, ⟨vs, by rw [hK]; exact t.sq⟩, hk W' H' _ g' s' (wlk_l (fun W2 H2 g2 => ⟨by rw [hK]; exact (t.gw (hT _ _ _ _ s'.wf g2)).sq, r1.gw (hT _ _ _ _ s'.wf g2)⟩) r1.length)⟩
      · exact (show False from b).elim
    | tup ds =>
      refine (pi_tup h).run pins s σ H R I (key _ fun d M2 ds2 e2 hi hk W' v H' g' s' rp => ?_)
      rw [er] at e2; cases e2
      cases hi
      rcases rp.w with rp | ⟨p, rfl, ni, nf, b⟩
      · obtain ⟨p, vs, rfl, t, _, r1⟩ := rp
        exact ⟨p, rfl, ⟨vs, by rw [hK]; exact t.sq⟩, hk W' H' _ g' s' (wlk_t (fun W2 H2 g2 => ⟨by rw [hK]; exact (t.gw (hT _ _ _ _ s'.wf g2)).sq, r1.gw (hT _ _ _ _ s'.wf g2)⟩) r1.length)⟩
      · exact (show False from b).elim
    | str x =>
      refine (pi_str h).run pins s σ H R I (key _ fun d M2 ds2 e2 hi hk W' v H' g' s' rp => ?_)
      rw [er] at e2; cases e2
      cases hi
      rcases rp.w with rp | ⟨p, rfl, ni, nf, b⟩
      · exact ⟨_, rp.1, hk W' H' _ g' s' (wlk_s rp.2.2)⟩
      · exact (show False from b).elim
    | dct t kvs =>
      refine (pi_keys (pe_frz h)).run pins s σ H R I ?_
      show tE P c ow w a σ H _
      refine key _ fun d M2 ds2 e2 hi hk W' v H' g' s' rp => ?_
      rw [er] at e2; cases e2
      have hi : (if isBor a then none else some (kvs.map (·.1))) = some ds2 := hi
      split at hi
      · cases hi
      · rename_i nb
        cases hi
        obtain ⟨p, o, vs, rfl, f, ho, dc, hl, rk⟩ := rp.strict (by simpa using nb)
        have fin : ∀ (ob : Obj) (H2 : Hp), G W' H' W' H2 → StoR P W' M' H2 → H2 p = some (.frz ob o) → ∃ d o', V.ref p = .ref d ∧ ((∃ kvs, H2 d = some (.frz o' (.dK kvs)) ∧ R (Itk d o' kvs) H2) ∨ ∃ kvs, H2 d = some (.frz o' (.dT kvs)) ∧ R (Itkt d o' kvs) H2) := fun ob H2 g2 s2 e2 => by
          refine ⟨p, ob, rfl, ?_⟩
          have st : ∀ W3 H3, T W' H2 W3 H3 → H3 p = some (.frz ob o) := fun W3 H3 g3 => ((hT _ _ _ _ s2.wf g3).kp p f).frz e2
          cases t with
          | false =>
            obtain ⟨m, rfl, hk2, _⟩ := dctK dc
            exact .inl ⟨m, e2, hk W' H2 _ (g'.trans g2) s2 (by rw [hk2]; exact wlk_k st fun j hj => dc.1 j (by rw [hk2]; exact hj))⟩
          | true =>
            obtain ⟨m, rfl, hk2, _⟩ := dctT dc
            exact .inr ⟨m, e2, hk W' H2 _ (g'.trans g2) s2 (by rw [hk2]; exact wlk_kt st fun j hj => dc.1 j (by rw [hk2]; exact hj))⟩
        rcases ho with ho | ⟨ob, ho⟩
        · obtain ⟨k1, k2⟩ := dctR_do (P := P) (W := W') (H := H') ⟨vs, dc, hl, rk⟩
          refine .inr ⟨p, o, rfl, ho, k2, fun ob => ?_⟩
          obtain ⟨g2, s2⟩ := lock_ok (ob := ob) s' f ho k1
          exact fin ob _ g2 s2 (upd_same ..)
        · exact .inl (fin ob H' .refl s' ho)
    | kd _ => rw [er] at hs; obtain ⟨ds, h1, _⟩ := hs; cases h1
    | itr kvs =>
      refine (pi_str h).run pins s σ H R I (key _ fun d M2 ds2 e2 hi hk W' v H' g' s' rp => ?_)
      rw [er] at e2; cases e2
      rcases rp.w with rp | ⟨p, rfl, ni, nf, b⟩
      · exact (show False from rp).elim
      · exact (show False from b).elim
    | non => rw [er] at hs; obtain ⟨ds, h1, _⟩ := hs; cases h1
    | bl _ => rw [er] at hs; obtain ⟨ds, h1, _⟩ := hs; cases h1
    | int _ => rw [er] at hs; obtain ⟨ds, h1, _⟩ := hs; cases h1
    | obj _ => rw [er] at hs; obtain ⟨ds, h1, _⟩ := hs; cases h1
    | fn _ => rw [er] at hs; obtain ⟨ds, h1, _⟩ := hs; cases h1
    | cl _ => rw [er] at hs; obtain ⟨ds, h1, _⟩ := hs; cases h1
    | ty _ => rw [er] at hs; obtain ⟨ds, h1, _⟩ := hs; cases h1
theorem okRange_iff {i : Int} (h : okRange i = true) : -(2 ^ 62) ≤ i ∧ i < 2 ^ 62 := by
  unfold okRange at h
  simpa only [Bool.and_eq_true, decide_eq_true_eq] using h
theorem rng_rs {W : Wd} {H : Hp} {M : Sto} (s : StoR P W M H) {as : List E} {ds : List D} {vs : List V} (h : RepQs P W H as ds vs) {d : D} (e : biD .range (ds.map (nrm M)) = some d) :
    (∃ j : Int, vs = [.int j] ∧ okRange j = true ∧ d = .itr (intsFrom 0 1 j.toNat)) ∨ (∃ i j : Int, vs = [.int i, .int j] ∧ okRange i = true ∧ okRange j = true ∧ d = .itr (intsFrom i 1 (j - i).toNat)) ∨
    ∃ i j k : Int, vs = [.int i, .int j, .int k] ∧ okRange i = true ∧ okRange j = true ∧ okStep k = true ∧ d = .itr (intsFrom i k (stepN i j k)) := by
  have r := h.r s
  generalize ds.map (nrm M) = es at r e
  unfold biD at e
  split at e <;> first | (cases e; done) | skip
  all_goals first | (exfalso; rename_i h; cases h; done) | skip
  · rename_i j h1
    split at e
    · rename_i ok
      obtain ⟨x, rfl, rx⟩ := repRs1 r
      cases e
      exact .inl ⟨j, by rw [show x = .int j from rx], ok, rfl⟩
    · cases e
  · rename_i i j h1
    split at e
    · rename_i ok
      rw [Bool.and_eq_true] at ok
      obtain ⟨x, y, rfl, rx, ry⟩ := repRs2 r
      cases e
      exact .inr (.inl ⟨i, j, by rw [show x = .int i from rx, show y = .int j from ry], ok.1, ok.2, rfl⟩)
    · cases e
  · rename_i i j k h1
    split at e
    · rename_i ok
      simp only [Bool.and_eq_true] at ok
      obtain ⟨x, r', rfl, rx, y, r'', rfl, ry, z, r3, rfl, rz, hn⟩ := r
      cases e
      refine .inr (.inr ⟨i, j, k, ?_, ok.1.1, ok.1.2, ok.2, rfl⟩)
      rw [show x = .int i from rx, show y = .int j from ry, show z = .int k from rz, show r3 = [] from hn]
    · cases e
theorem step_rg {i j k : Int} (hi : okRange i = true) (hj : okRange j = true) (hk : okStep k = true) : RgC i j k (stepN i j k) := by
  obtain ⟨a1, a2⟩ := okRange_iff hi
  obtain ⟨b1, b2⟩ := okRange_iff hj
  unfold okStep at hk
  simp only [Bool.or_eq_true, Bool.and_eq_true, decide_eq_true_eq] at hk
  rcases hk with ⟨k1, k2⟩ | rfl
  · have nn : Builtin.Range.rangeSize i j k = (stepN i j k : Nat) := by
      unfold Builtin.Range.rangeSize stepN
      rw [if_pos (show k > 0 from k1), if_pos k1]
      split
      · rename_i lt
        have : 0 ≤ (j - i - 1) / k := Int.ediv_nonneg (by omega) (by omega)
        omega
      · rfl
    refine ⟨by omega, by omega, ?_, nn⟩
    have q : Builtin.Range.rangeSize i j k ≤ 2 ^ 63 - 1 := by
      unfold Builtin.Range.rangeSize
      rw [if_pos (show k > 0 from k1)]
      split
      · rename_i lt
        have : (j - i - 1) / k ≤ j - i - 1 := Int.ediv_le_self _ (by omega)
        omega
      · decide
    have q0 : 0 ≤ Builtin.Range.rangeSize i j k := by rw [nn]; exact Int.natCast_nonneg _
    unfold Builtin.Range.small
    generalize Builtin.Range.rangeSize i j k = z at q q0
    have kp : k > 0 := k1
    simp only [Builtin.Range.rangeFitsLong, Bool.and_eq_true, Bool.or_eq_true, decide_eq_true_eq, beq_iff_eq, kp, if_true]
    omega
  · exact RgC.neg a1 a2 b1 b2
theorem pi_rng {tg : Expr} {as : List E} {es : List Expr} {p : Pos} (ok : CtxOk g P c n X w) (hg : glob X.env.scope "range" = true) (hb : g.bi.lookup ("range" : Str) = some .range) (ha : PA X es (tAs P c ow w as)) (hst : es.all notStar = true) (hl : es.length = as.length)
    (h3 : es.length = 1 ∨ es.length = 2 ∨ es.length = 3) : PI X tg (.Call (.Name "range" p) es [] pos) (tI T P c ow w (.bi .range as)) := by
  have hm := (ok.bi _ _ hb).1
  have key : ∀ (U : List V → Hp → Prop) σ H R, tI T P c ow w (.bi .range as) σ H R → (∀ vs H' i, vs.length = es.length → ((∃ j : Int, vs = [.int j] ∧ okRange j = true ∧ R (Itr 0 j.toNat) H') ∨ (∃ i j : Int, vs = [.int i, .int j] ∧ okRange i = true ∧ okRange j = true ∧ R (Itr i (j - i).toNat) H') ∨
      ∃ i j k : Int, vs = [.int i, .int j, .int k] ∧ okRange i = true ∧ okRange j = true ∧ okStep k = true ∧ R (Itc i k (stepN i j k)) H') → i = () → U vs H') → tAs P c ow w as σ H U := fun U σ H R ⟨W, ρ, M, rel, hs⟩ k => by
    rw [evE, Ev.R.sat_bind] at hs
    refine ⟨W, ρ, M, rel, Ev.R.sat_mono hs (fun r hr => ?_) fun _ _ h => h⟩
    intro W' vs H' g' s' rp
    obtain ⟨d, e, ds, e1, hq⟩ := sat_of hr
    rw [if_neg (show ¬ isWlk .range = true from Bool.false_ne_true)] at e
    refine k vs H' () (by rw [rp.length.2, hl]) ?_ rfl
    rcases rng_rs s' rp e with ⟨j, h1, h2, rfl⟩ | ⟨i, j, h1, h2, h3, rfl⟩ | ⟨i, j, k, h1, h2, h3, h4, rfl⟩
    · cases e1
      exact .inl ⟨j, h1, h2, hq W' H' _ g' s' (wlk_r 0 _)⟩
    · cases e1
      exact .inr (.inl ⟨i, j, h1, h2, h3, hq W' H' _ g' s' (wlk_r i _)⟩)
    · cases e1
      exact .inr (.inr ⟨i, j, k, h1, h2, h3, h4, hq W' H' _ g' s' (wlk_c i k _)⟩)
  match es, hst, h3, ha, key with
  | [a], hst, _, ha, key =>
    simp only [List.all_cons, List.all_nil, Bool.and_true] at hst
    refine ⟨fun pins s σ H R I q => (pi_range1 (glob_of hg) hm ha (by rw [notStar_of hst]; rfl)).run pins s σ H R I (key _ σ H R q fun vs H' _ el h _ => ?_)⟩
    rcases h with ⟨j, h1, h2, h⟩ | ⟨i, j, rfl, _⟩ | ⟨i, j, k, rfl, _⟩
    · exact ⟨j, h1, (okRange_iff h2).1, (okRange_iff h2).2, h⟩
    · simp at el
    · simp at el
  | [a, b], hst, _, ha, key =>
    simp only [List.all_cons, List.all_nil, Bool.and_true, Bool.and_eq_true] at hst
    refine ⟨fun pins s σ H R I q => (pi_range2 (glob_of hg) hm ha (by rw [notStar_of hst.1, notStar_of hst.2]; rfl) (by rw [notStar_of hst.2]; rfl)).run pins s σ H R I (key _ σ H R q fun vs H' _ el h _ => ?_)⟩
    rcases h with ⟨j, rfl, _⟩ | ⟨i, j, h1, h2, h3, h⟩ | ⟨i, j, k, rfl, _⟩
    · simp at el
    · exact ⟨i, j, h1, ⟨(okRange_iff h2).1, (okRange_iff h2).2, (okRange_iff h3).1, (okRange_iff h3).2⟩, h⟩
    · simp at el
  | [a, b, d], hst, _, ha, key =>
    simp only [List.all_cons, List.all_nil, Bool.and_true, Bool.and_eq_true] at hst
    refine ⟨fun pins s σ H R I q => (pi_range3 (glob_of hg) hm ha (notStar_of hst.1 _ _) (stars_none (es := [b, d]) (by rw [List.all_cons, List.all_cons, hst.2.1, hst.2.2]; rfl))).run pins s σ H R I (key _ σ H R q fun vs H' _ el h _ => ?_)⟩
    rcases h with ⟨j, rfl, _⟩ | ⟨i, j, rfl, _⟩ | ⟨i, j, k, h1, h2, h3, h4, h⟩
    · simp at el
    · simp at el
    · exact ⟨i, j, k, _, h1, step_rg h2 h3 h4, h⟩
  | [], _, h, _, _ => simp at h
  | _ :: _ :: _ :: _ :: _, _, h, _, _ => simp at h
theorem new_tup {W : Wd} {H : Hp} {M : Sto} {t : Addr} {ds : List D} {vs : List V} (st : StoR P W M H) (n : H t = none) (hl : ds.length ≤ SZ) (r : Reps P W H ds vs) : ∃ W'', G W H W'' (upd H t (.tup vs)) ∧ StoR P W'' M (upd H t (.tup vs)) ∧ Rep P W'' (upd H t (.tup vs)) (.tup ds) (.ref t) :=
  ⟨W.add t, G.add n, st.add n, t, vs, rfl, .inl (upd_same ..), hl, r.g (G.add n) st.wf⟩
theorem enumFrom_get (k : Int) : ∀ (xs : List D) (i : Nat) (d : D), xs[i]? = some d → (enumFrom k xs)[i]? = some (.tup [.int (k + i), d])
  | [], _, _, h => by simp at h
  | x :: xs, 0, d, h => by simp at h; subst h; simp [enumFrom]
  | x :: xs, i + 1, d, h => by
    rw [enumFrom, List.getElem?_cons_succ, enumFrom_get (k + 1) xs i d (by simpa using h)]
    have e : k + 1 + (i : Int) = k + ((i + 1 : Nat) : Int) := by omega
    rw [e]
theorem enumFrom_len (k : Int) : ∀ xs : List D, (enumFrom k xs).length = xs.length
  | [] => rfl
  | x :: xs => by rw [enumFrom, List.length_cons, List.length_cons, enumFrom_len]
theorem wlk_e {W : Wd} {H : Hp} {K : PySem.W.Frag} {a : Addr} {ds : List D} {vs : List V} (h : ∀ W' H', T W H W' H' → SqL K H' a vs ∧ Reps P W' H' ds vs) (hl : vs.length = ds.length) : Wlk T P W H (enumFrom 0 ds) (Ite K a) := by
  refine ⟨fun W' H' M i gg st hi => ?_, fun W' H' i gg hi => ⟨vs, (h W' H' gg).1, by rw [hl]; rw [enumFrom_len] at hi; exact hi⟩⟩
  rw [enumFrom_len] at hi
  refine ⟨⟨vs, _, (h W' H' gg).1, (List.getElem?_eq_getElem (by rw [hl]; exact hi))⟩, fun v H'' y => ?_⟩
  obtain ⟨t, x, rfl, nt, rfl, y⟩ := y
  obtain ⟨v, e1, rp⟩ := (h W' H' gg).2.get (List.getElem?_eq_getElem hi)
  have ev : v = x := Option.some.inj (e1.symm.trans (y vs (h W' H' gg).1))
  subst ev
  obtain ⟨W'', g2, s2, r2⟩ := new_tup (ds := [.int (i : Int), ds[i]]) (vs := [.int (i : Int), v]) st nt (by show 2 ≤ SZ; decide) (Reps.cons rfl (Reps.cons rp Reps.nil))
  refine ⟨W'', g2, s2, _, enumFrom_get 0 ds i _ (List.getElem?_eq_getElem hi), ?_⟩
  rw [Int.zero_add]
  exact r2
theorem wlk_et {W : Wd} {H : Hp} {K : PySem.W.Frag} {a : Addr} {ds : List D} {vs : List V} (h : ∀ W' H', T W H W' H' → SqT K H' a vs ∧ Reps P W' H' ds vs) (hl : vs.length = ds.length) : Wlk T P W H (enumFrom 0 ds) (IteT K a) := by
  refine ⟨fun W' H' M i gg st hi => ?_, fun W' H' i gg hi => ⟨vs, (h W' H' gg).1, by rw [hl]; rw [enumFrom_len] at hi; exact hi⟩⟩
  rw [enumFrom_len] at hi
  refine ⟨⟨vs, _, (h W' H' gg).1, (List.getElem?_eq_getElem (by rw [hl]; exact hi))⟩, fun v H'' y => ?_⟩
  obtain ⟨t, x, rfl, nt, rfl, y⟩ := y
  obtain ⟨v, e1, rp⟩ := (h W' H' gg).2.get (List.getElem?_eq_getElem hi)
  have ev : v = x := Option.some.inj (e1.symm.trans (y vs (h W' H' gg).1))
  subst ev
  obtain ⟨W'', g2, s2, r2⟩ := new_tup (ds := [.int (i : Int), ds[i]]) (vs := [.int (i : Int), v]) st nt (by show 2 ≤ SZ; decide) (Reps.cons rfl (Reps.cons rp Reps.nil))
  refine ⟨W'', g2, s2, _, enumFrom_get 0 ds i _ (List.getElem?_eq_getElem hi), ?_⟩
  rw [Int.zero_add]
  exact r2
theorem zip2_get : ∀ (xs ys : List D) (i : Nat) (d e : D), xs[i]? = some d → ys[i]? = some e → (zip2 xs ys)[i]? = some (.tup [d, e])
  | [], _, _, _, _, h, _ => by simp at h
  | _ :: _, [], _, _, _, _, h => by simp at h
  | x :: xs, y :: ys, 0, d, e, h, k => by simp at h k; subst h k; simp [zip2]
  | x :: xs, y :: ys, i + 1, d, e, h, k => by
    rw [zip2, List.getElem?_cons_succ]
    exact zip2_get xs ys i d e (by simpa using h) (by simpa using k)
theorem zip2_len : ∀ xs ys : List D, (zip2 xs ys).length = min xs.length ys.length
  | [], ys => by simp [zip2]
  | _ :: _, [] => by simp [zip2]
  | x :: xs, y :: ys => by rw [zip2, List.length_cons, zip2_len, List.length_cons, List.length_cons]; omega
theorem wlk_z {W : Wd} {H : Hp} {K : PySem.W.Frag} {a b : Addr} {ds es : List D} {vs us : List V} (h : ∀ W' H', T W H W' H' → SqL K H' a vs ∧ Reps P W' H' ds vs ∧ SqL K H' b us ∧ Reps P W' H' es us) (hl : vs.length = ds.length) (hk : us.length = es.length) : Wlk T P W H (zip2 ds es) (Itz K a b) := by
  refine ⟨fun W' H' M i gg st hi => ?_, fun W' H' i gg hi => ⟨vs, us, (h W' H' gg).1, (h W' H' gg).2.2.1, by rw [hl, hk]; rw [zip2_len] at hi; omega⟩⟩
  rw [zip2_len] at hi
  have i1 : i < ds.length := by omega
  have i2 : i < es.length := by omega
  refine ⟨⟨vs, us, _, _, (h W' H' gg).1, (h W' H' gg).2.2.1, List.getElem?_eq_getElem (by rw [hl]; exact i1), List.getElem?_eq_getElem (by rw [hk]; exact i2)⟩, fun v H'' y => ?_⟩
  obtain ⟨t, x, z, rfl, nt, rfl, y1, y2⟩ := y
  obtain ⟨v1, e1, rp1⟩ := (h W' H' gg).2.1.get (List.getElem?_eq_getElem i1)
  obtain ⟨v2, e2, rp2⟩ := (h W' H' gg).2.2.2.get (List.getElem?_eq_getElem i2)
  have z1 := y1 vs (h W' H' gg).1
  have z2 := y2 us (h W' H' gg).2.2.1
  have ev1 : v1 = x := Option.some.inj (e1.symm.trans z1)
  have ev2 : v2 = z := Option.some.inj (e2.symm.trans z2)
  subst ev1 ev2
  obtain ⟨W'', g2, s2, r2⟩ := new_tup (ds := [ds[i], es[i]]) (vs := [v1, v2]) st nt (by show 2 ≤ SZ; decide) (Reps.cons rp1 (Reps.cons rp2 Reps.nil))
  exact ⟨W'', g2, s2, _, zip2_get ds es i _ _ (List.getElem?_eq_getElem i1) (List.getElem?_eq_getElem i2), r2⟩
theorem wlk_zt {W : Wd} {H : Hp} {K : PySem.W.Frag} {a b : Addr} {ds es : List D} {vs us : List V} (h : ∀ W' H', T W H W' H' → SqT K H' a vs ∧ Reps P W' H' ds vs ∧ SqT K H' b us ∧ Reps P W' H' es us) (hl : vs.length = ds.length) (hk : us.length = es.length) : Wlk T P W H (zip2 ds es) (RZ.ItzT K a b) := by
  refine ⟨fun W' H' M i gg st hi => ?_, fun W' H' i gg hi => ⟨vs, us, (h W' H' gg).1, (h W' H' gg).2.2.1, by rw [hl, hk]; rw [zip2_len] at hi; omega⟩⟩
  rw [zip2_len] at hi
  have i1 : i < ds.length := by omega
  have i2 : i < es.length := by omega
  refine ⟨⟨vs, us, _, _, (h W' H' gg).1, (h W' H' gg).2.2.1, List.getElem?_eq_getElem (by rw [hl]; exact i1), List.getElem?_eq_getElem (by rw [hk]; exact i2)⟩, fun v H'' y => ?_⟩
  obtain ⟨t, x, z, rfl, nt, rfl, y1, y2⟩ := y
  obtain ⟨v1, e1, rp1⟩ := (h W' H' gg).2.1.get (List.getElem?_eq_getElem i1)
  obtain ⟨v2, e2, rp2⟩ := (h W' H' gg).2.2.2.get (List.getElem?_eq_getElem i2)
  have z1 := y1 vs (h W' H' gg).1
  have z2 := y2 us (h W' H' gg).2.2.1
  have ev1 : v1 = x := Option.some.inj (e1.symm.trans z1)
  have ev2 : v2 = z := Option.some.inj (e2.symm.trans z2)
  subst ev1 ev2
  obtain ⟨W'', g2, s2, r2⟩ := new_tup (ds := [ds[i], es[i]]) (vs := [v1, v2]) st nt (by show 2 ≤ SZ; decide) (Reps.cons rp1 (Reps.cons rp2 Reps.nil))
  exact ⟨W'', g2, s2, _, zip2_get ds es i _ _ (List.getElem?_eq_getElem i1) (List.getElem?_eq_getElem i2), r2⟩
theorem pi_en {tg : Expr} {a : E} {e : Expr} {p : Pos} (ok : CtxOk g P c n X w) (hT : ∀ W H W' H', Wf W H → T W H W' H' → Gw W H W' H') (ht : isTupX tg = true) (hg : glob X.env.scope "enumerate" = true) (hb : g.bi.lookup ("enumerate" : Str) = some .enum) (ha : PA X [e] (tAs P c ow w [a])) (hst : notStar e = true) (nb : isBor a = false) :
    PI X tg (.Call (.Name "enumerate" p) [e] [] pos) (tI T P c ow w (.bi .enum [a])) := by
  have hm := (ok.bi _ _ hb).1
  cases tg with
  | Tuple es k tp =>
    refine ⟨fun pins s σ H R I q => (pi_enT (glob_of hg) hm ha (by rw [notStar_of hst]; rfl)).run pins s σ H R I ?_⟩
    obtain ⟨W, ρ, M, rel, hs⟩ := q
    rw [evE, Ev.R.sat_bind] at hs
    refine ⟨W, ρ, M, rel, Ev.R.sat_mono hs (fun r hr => ?_) fun _ _ h => h⟩
    intro W' vs H' g' s' rp
    obtain ⟨d, ed, ds, e1, hq⟩ := sat_of hr
    rw [if_pos (show isWlk .enum = true from rfl)] at ed
    obtain ⟨M1, M2⟩ := r
    obtain ⟨d1, ds', v, vs', e2, rfl, r1, r2⟩ := rp
    obtain ⟨rfl, rfl⟩ := r2
    subst e2
    have rs := r1.strict nb
    cases d1 with
    | lst xs =>
      cases ed
      cases e1
      obtain ⟨a', us, rfl, f, eh, hl, rr⟩ := rs
      exact ⟨a', us, rfl, .inl ⟨.inl (.inl eh), hq W' H' _ g' s' (by rw [ok.hK]; exact wlk_e (fun W2 H2 g2 => ⟨.inl (.inl (((hT _ _ _ _ s'.wf g2).kp a' f).lst eh)), rr.gw (hT _ _ _ _ s'.wf g2)⟩) rr.length)⟩⟩
    | tup xs =>
      cases ed
      cases e1
      obtain ⟨a', us, rfl, ta, hl, rr⟩ := rs
      exact ⟨a', us, rfl, .inr ⟨by rw [ok.hK]; exact ta.sq, hq W' H' _ g' s' (by rw [ok.hK]; exact wlk_et (fun W2 H2 g2 => ⟨(ta.gw (hT _ _ _ _ s'.wf g2)).sq, rr.gw (hT _ _ _ _ s'.wf g2)⟩) rr.length)⟩⟩
    | _ => cases ed
  | _ => cases ht
theorem pi_zp {tg : Expr} {a b : E} {e e2 : Expr} {p : Pos} (ok : CtxOk g P c n X w) (hT : ∀ W H W' H', Wf W H → T W H W' H' → Gw W H W' H') (ht : isTupX tg = true) (hg : glob X.env.scope "zip" = true) (hb : g.bi.lookup ("zip" : Str) = some .zip) (ha : PA X [e, e2] (tAs P c ow w [a, b])) (hst : notStar e = true) (hst2 : notStar e2 = true) (na : isBor a = false) (nb : isBor b = false) :
    PI X tg (.Call (.Name "zip" p) [e, e2] [] pos) (tI T P c ow w (.bi .zip [a, b])) := by
  have hm := (ok.bi _ _ hb).1
  cases tg with
  | Tuple es k tp =>
    refine ⟨fun pins s σ H R I q => (RZ.pi_zipA (glob_of hg) hm ha (notStar_of hst _ _) (by rw [notStar_of hst2]; rfl)).run pins s σ H R I ?_⟩
    obtain ⟨W, ρ, M, rel, hs⟩ := q
    rw [evE, Ev.R.sat_bind] at hs
    refine ⟨W, ρ, M, rel, Ev.R.sat_mono hs (fun r hr => ?_) fun _ _ h => h⟩
    intro W' vs H' g' s' rp
    obtain ⟨d, ed, ds, e1, hq⟩ := sat_of hr
    rw [if_pos (show isWlk .zip = true from rfl)] at ed
    obtain ⟨M1, M2⟩ := r
    obtain ⟨d1, ds', v, vs', e2, rfl, r1, d2, ds2, v2, vs2, e3, rfl, r2, r3⟩ := rp
    obtain ⟨rfl, rfl⟩ := r3
    subst e3
    subst e2
    have q1 := r1.strict na
    have q2 := r2.strict nb
    cases d1 with
    | lst xs =>
      cases d2 with
      | lst ys =>
        cases ed
        cases e1
        obtain ⟨a', us, rfl, f, eh, hl, rr⟩ := q1
        obtain ⟨b', us2, rfl, f2, eh2, hl2, rr2⟩ := q2
        refine ⟨a', b', us, us2, rfl, .inl ⟨.inl (.inl eh), .inl (.inl eh2), hq W' H' _ g' s' ?_⟩⟩
        exact wlk_z (fun W3 H3 g3 => ⟨.inl (.inl (((hT _ _ _ _ s'.wf g3).kp a' f).lst eh)), rr.gw (hT _ _ _ _ s'.wf g3), .inl (.inl (((hT _ _ _ _ s'.wf g3).kp b' f2).lst eh2)), rr2.gw (hT _ _ _ _ s'.wf g3)⟩) rr.length rr2.length
      | _ => cases ed
    | tup xs =>
      cases d2 with
      | tup ys =>
        cases ed
        cases e1
        obtain ⟨a', us, rfl, t1, hl, rr⟩ := q1
        obtain ⟨b', us2, rfl, t2, hl2, rr2⟩ := q2
        refine ⟨a', b', us, us2, rfl, .inr ⟨by rw [ok.hK]; exact t1.sq, by rw [ok.hK]; exact t2.sq, hq W' H' _ g' s' ?_⟩⟩
        rw [ok.hK]
        exact wlk_zt (fun W3 H3 g3 => ⟨(t1.gw (hT _ _ _ _ s'.wf g3)).sq, rr.gw (hT _ _ _ _ s'.wf g3), (t2.gw (hT _ _ _ _ s'.wf g3)).sq, rr2.gw (hT _ _ _ _ s'.wf g3)⟩) rr.length rr2.length
      | _ => cases ed
    | _ => cases ed
  | _ => cases ht
def slots : Tg → List Nat
  | .one i => [i]
  | .tup is => is
def gSl : List Nat → TGs
  | [] => gNil
  | i :: is => gCons (gName i) (gSl is)
def gT (K : PySem.W.Frag) : Tg → TG
  | .one i => gName i
  | .tup is => gTup K is.length (gSl is)
theorem nameOf_eq {e : Expr} {x : Str} (h : nameOf e = some x) : ∃ p, e = .Name x p := by
  cases e <;> first | (cases h; exact ⟨_, rfl⟩) | cases h
theorem assignEach_name {x : Str} {p : Pos} {es : List Expr} {env : PySem.Env} : assignEach (.Name x p :: es) env = (false, assign (.Name x p) env) :: assignEach es env := rfl
theorem pgs_names (hN : X.N.Nodup) {fb : Str → Bool} (hf : ∀ x, fb x = true → X.fn x = true) : ∀ {is : List Nat} {es : List Expr}, namesC fb X.N X.env.scope is es = true → PGs X es (gSl is) ∧ (assignEach es X.env).length = is.length ∧ (assignEach es X.env).findIdx? (·.1) = none
  | [], es, h => by
    have e : es = [] := by simpa [namesC] using h
    subst e
    exact ⟨pgs_nil, rfl, rfl⟩
  | i :: is, es, h => by
    match es, h with
    | .Name x p :: es, h =>
      simp only [namesC, Bool.and_eq_true, Bool.or_eq_true, decide_eq_true_eq] at h
      obtain ⟨h1, h2, h3⟩ := pgs_names hN hf h.2
      refine ⟨pgs_cons (pg_name hN h.1.1.1 (locl_of h.1.1.2) (h.1.2.imp_left (hf x))) h1 rfl, ?_, ?_⟩
      · rw [assignEach_name, List.length_cons, List.length_cons, h2]
      · rw [assignEach_name, List.findIdx?_cons, h3]
        rfl
theorem pg_tgt (ok : CtxOk g P c n X w) {fb : Str → Bool} (hf : ∀ x, fb x = true → X.fn x = true) {t : Tg} {tg : Expr} (h : chkG fb X.N X.env.scope t tg = true) : PG X tg (gT X.K t) := by
  match t, tg, h with
  | .one i, .Name x p, h =>
    simp only [chkG, Bool.and_eq_true, Bool.or_eq_true, decide_eq_true_eq] at h
    exact pg_name ok.nd h.1.1 (locl_of h.1.2) (h.2.imp_left (hf x))
  | .tup is, .Tuple es _ _, h =>
    obtain ⟨h1, h2, h3⟩ := pgs_names ok.nd hf (show namesC fb X.N X.env.scope is es = true from h)
    exact pg_tup ok.calm h1 h2 h3
theorem Rel.put {W : Wd} {ρ : Env} {M : Sto} {σ : L2.St} {H : Hp} {i : Nat} {d : D} {v : V} (r : Rel P ow W ρ M σ H) (n : i ∉ ow) (hv : Rep P W H d v) : Rel P ow W (put ρ i d) M (σ.set i (some v)) H := by
  refine ⟨r.sto, by rw [Ev.put, List.length_set, List.length_set, r.len], fun j d' e nj => ?_, fun j d' e hj => ?_, fun j k a hj hk ne gj gk e => ?_⟩
  · by_cases z : i = j
    · subst z
      have hi : i < ρ.length := by
        have := get_some e
        rw [Ev.put] at this
        by_cases q : i < ρ.length
        · exact q
        · rw [List.getElem?_eq_none (by rw [List.length_set]; omega)] at this; cases this
      have e' := get_some e
      rw [Ev.put, List.getElem?_set_self hi] at e'
      cases e'
      exact ⟨v, by rw [List.getElem?_set_self (by rw [← r.len]; exact hi)], hv⟩
    · have e' : get ρ j = some d' := by
        have := get_some e
        rw [Ev.put, List.getElem?_set_ne z] at this
        unfold get; rw [this]; rfl
      obtain ⟨u, h1, h2⟩ := r.fz j d' e' nj
      exact ⟨u, by rw [List.getElem?_set_ne z]; exact h1, h2⟩
  · have z : i ≠ j := fun z => n (z ▸ hj)
    have e' : get ρ j = some d' := by
      have := get_some e
      rw [Ev.put, List.getElem?_set_ne z] at this
      unfold get; rw [this]; rfl
    obtain ⟨u, h1, h2⟩ := r.own j d' e' hj
    exact ⟨u, by rw [List.getElem?_set_ne z]; exact h1, h2⟩
  · have zj : i ≠ j := fun z => n (z ▸ hj)
    have zk : i ≠ k := fun z => n (z ▸ hk)
    have g1 : ∀ m, i ≠ m → get (Ev.put ρ i d) m = get ρ m := fun m hm => by
      unfold get
      rw [Ev.put, List.getElem?_set_ne hm]
    rw [g1 j zj] at gj
    rw [g1 k zk] at gk
    rw [List.getElem?_set_ne zj] at e
    rw [List.getElem?_set_ne zk]
    exact r.sep j k a hj hk ne gj gk e
theorem Rel.drop {W : Wd} {ρ : Env} {M : Sto} {σ : L2.St} {H : Hp} {i : Nat} (r : Rel P ow W ρ M σ H) (n : i ∉ ow) : Rel P ow W (ρ.set i none) M (σ.set i none) H := by
  have g1 : ∀ m d, get (ρ.set i none) m = some d → i ≠ m ∧ get ρ m = some d := fun m d e => by
    have e' := get_some e
    by_cases z : i = m
    · subst z
      by_cases q : i < ρ.length
      · rw [List.getElem?_set_self q] at e'; cases e'
      · rw [List.getElem?_eq_none (by rw [List.length_set]; omega)] at e'; cases e'
    · rw [List.getElem?_set_ne z] at e'
      exact ⟨z, by unfold get; rw [e']; rfl⟩
  refine ⟨r.sto, by rw [List.length_set, List.length_set, r.len], fun j d' e nj => ?_, fun j d' e hj => ?_, fun j k a hj hk ne gj gk e => ?_⟩
  · obtain ⟨z, e'⟩ := g1 j d' e
    obtain ⟨u, h1, h2⟩ := r.fz j d' e' nj
    exact ⟨u, by rw [List.getElem?_set_ne z]; exact h1, h2⟩
  · obtain ⟨z, e'⟩ := g1 j d' e
    obtain ⟨u, h1, h2⟩ := r.own j d' e' hj
    exact ⟨u, by rw [List.getElem?_set_ne z]; exact h1, h2⟩
  · have zj : i ≠ j := fun z => n (z ▸ hj)
    have zk : i ≠ k := fun z => n (z ▸ hk)
    have g2 : ∀ m, i ≠ m → get (ρ.set i none) m = get ρ m := fun m hm => by
      unfold get
      rw [List.getElem?_set_ne hm]
    rw [g2 j zj] at gj
    rw [g2 k zk] at gk
    rw [List.getElem?_set_ne zj] at e
    rw [List.getElem?_set_ne zk]
    exact r.sep j k a hj hk ne gj gk e
theorem Rel.wiped {W : Wd} {ρ : Env} {M : Sto} {σ : L2.St} {H : Hp} (r : Rel P ow W ρ M σ H) : ∀ {vs : List Nat}, (∀ i ∈ vs, i ∉ ow) → ∃ τ, Rel P ow W τ M (wipe σ vs) H ∧ τ.length = ρ.length ∧ ∀ k, k ∉ vs → τ[k]? = ρ[k]?
  | [], _ => ⟨ρ, r, rfl, fun _ _ => rfl⟩
  | v :: vs, h => by
    obtain ⟨τ, h1, h2, h3⟩ := Rel.wiped r (vs := vs) fun i hi => h i (List.mem_cons_of_mem _ hi)
    refine ⟨τ.set v none, h1.drop (h v List.mem_cons_self), by rw [List.length_set, h2], fun k hk => ?_⟩
    rw [List.getElem?_set_ne (fun z => hk (by rw [← z]; exact List.mem_cons_self))]
    exact h3 k fun m => hk (List.mem_cons_of_mem _ m)
theorem puts_agree : ∀ {is : List Nat} {ds : List D} {ρ τ ρ' : Env}, puts ρ is ds = some ρ' → (∀ k, k ∉ is → τ[k]? = ρ[k]?) → τ.length = ρ.length → puts τ is ds = some ρ'
  | [], [], ρ, τ, ρ', e, h, _ => by
    cases e
    have : τ = ρ := List.ext_getElem? fun k => h k (by simp)
    rw [this]; rfl
  | [], _ :: _, _, _, _, e, _, _ => by cases e
  | _ :: _, [], _, _, _, e, _, _ => by cases e
  | i :: is, d :: ds, ρ, τ, ρ', e, h, hl => by
    refine puts_agree (ρ := Ev.put ρ i d) (τ := Ev.put τ i d) (is := is) e (fun k hk => ?_) (by simp [Ev.put, hl])
    by_cases z : i = k
    · subst z
      by_cases q : i < ρ.length
      · rw [Ev.put, Ev.put, List.getElem?_set_self q, List.getElem?_set_self (by rw [hl]; exact q)]
      · rw [Ev.put, Ev.put, List.getElem?_eq_none (by rw [List.length_set]; omega), List.getElem?_eq_none (by rw [List.length_set]; omega)]
    · rw [Ev.put, Ev.put, List.getElem?_set_ne z, List.getElem?_set_ne z]
      exact h k fun m => by
        rcases List.mem_cons.mp m with m | m
        · exact z m.symm
        · exact hk m
theorem putT_agree {t : Tg} {d : D} {ρ τ ρ' : Env} (e : putT ρ t d = some ρ') (h : ∀ k, k ∉ slots t → τ[k]? = ρ[k]?) (hl : τ.length = ρ.length) : putT τ t d = some ρ' := by
  cases t with
  | one i =>
    have e' : puts ρ [i] [d] = some ρ' := e
    exact (puts_agree e' h hl : puts τ [i] [d] = some ρ')
  | tup is =>
    cases d <;> first | (cases e; done) | exact puts_agree e h hl
theorem gSl_ok {W : Wd} {M : Sto} {H : Hp} : ∀ {is : List Nat} {ds : List D} {vs : List V} {ρ ρ' : Env} {σ : L2.St} {Q : L2.St → Hp → Prop}, Rel P ow W ρ M σ H → (∀ i ∈ is, i ∉ ow) → Reps P W H ds vs → puts ρ is ds = some ρ' →
    (∀ σ', Rel P ow W ρ' M σ' H → σ'.length = σ.length → (∀ k, k ∉ is → σ'[k]? = σ[k]?) → Q σ' H) → gSl is vs σ H Q
  | [], [], _, ρ, ρ', σ, Q, r, _, rs, e, k => by
    cases e
    exact ⟨rs, k σ r rfl fun _ _ => rfl⟩
  | [], _ :: _, _, _, _, _, _, _, _, _, e, _ => by cases e
  | _ :: _, [], _, _, _, _, _, _, _, _, e, _ => by cases e
  | i :: is, d :: ds, _, ρ, ρ', σ, Q, r, h, rs, e, k => by
    obtain ⟨v, r', rfl, h1, h2⟩ := rs
    refine ⟨v, r', rfl, gSl_ok (r.put (h i List.mem_cons_self) h1) (fun j hj => h j (List.mem_cons_of_mem _ hj)) h2 e fun σ' r2 hl hk => k σ' r2 (by rw [hl, List.length_set]) fun j hj => ?_⟩
    rw [hk j fun m => hj (List.mem_cons_of_mem _ m), List.getElem?_set_ne (fun z => hj (by rw [← z]; exact List.mem_cons_self))]
theorem puts_len : ∀ {is : List Nat} {ds : List D} {ρ ρ' : Env}, puts ρ is ds = some ρ' → ds.length = is.length ∧ ρ'.length = ρ.length
  | [], [], _, _, e => by cases e; exact ⟨rfl, rfl⟩
  | [], _ :: _, _, _, e => by cases e
  | _ :: _, [], _, _, e => by cases e
  | i :: is, d :: ds, ρ, _, e => by
    obtain ⟨h1, h2⟩ := puts_len (is := is) (ds := ds) e
    exact ⟨by rw [List.length_cons, List.length_cons, h1], by rw [h2, Ev.put, List.length_set]⟩
theorem gT_ok {K : PySem.W.Frag} (hK : K = P.K) {t : Tg} {d : D} {x : V} {W : Wd} {M : Sto} {H : Hp} {ρ ρ' : Env} {σ : L2.St} {Q : L2.St → Hp → Prop} (r : Rel P ow W ρ M σ H) (h : ∀ i ∈ slots t, i ∉ ow) (rp : Rep P W H d x) (e : putT ρ t d = some ρ')
    (k : ∀ σ', Rel P ow W ρ' M σ' H → σ'.length = σ.length → (∀ k, k ∉ slots t → σ'[k]? = σ[k]?) → Q σ' H) : gT K t x σ H Q := by
  cases t with
  | one i =>
    cases e
    refine k _ (r.put (h i List.mem_cons_self) rp) (List.length_set ..) fun j hj => ?_
    rw [List.getElem?_set_ne (fun z => hj (by rw [← z]; exact List.mem_cons_self))]
  | tup is =>
    cases d with
    | tup ds =>
      obtain ⟨a, vs, rfl, ta, _, rs⟩ := rp
      exact ⟨a, vs, rfl, by rw [hK]; exact ta.sq, by rw [rs.length, (puts_len e).1], gSl_ok r h rs e k⟩
    | _ => cases e
theorem wipe_in {σ : L2.St} {i : Nat} : ∀ {vs : List Nat}, i ∈ vs → i < σ.length → (wipe σ vs)[i]? = some none
  | v :: vs, h, hi => by
    unfold wipe
    by_cases z : v = i
    · subst z
      rw [List.getElem?_set_self (by rw [wipe_length]; exact hi)]
    · rw [List.getElem?_set_ne z]
      rcases List.mem_cons.mp h with h | h
      · exact (z h.symm).elim
      · exact wipe_in h hi
theorem wipe_same {σ τ : L2.St} {vs : List Nat} (hl : τ.length = σ.length) (h : ∀ k, k ∉ vs → τ[k]? = (wipe σ vs)[k]?) : wipe τ vs = wipe σ vs := by
  refine List.ext_getElem? fun k => ?_
  by_cases m : k ∈ vs
  · by_cases hk : k < σ.length
    · rw [wipe_in m hk, wipe_in m (hl ▸ hk)]
    · rw [List.getElem?_eq_none (by rw [wipe_length]; omega), List.getElem?_eq_none (by rw [wipe_length]; omega)]
  · rw [wipe_out m, h k m]
end
end Ev
set_option Elab.async false
set_option linter.all false
set_option autoImplicit false
set_option maxRecDepth 100000
set_option maxHeartbeats 4000000
namespace Ev
open PySem PySem.Spec PyProof.Rows L2
section
variable {P : Par} {c : Call} {ow : List Nat} {w : WX} {g : Cfg} {n : Nat} {X : Cx} {pos : Pos}
theorem RepW.rr {P : Par} {W : Wd} {H : Hp} {d : D} {v : V} (h : RepW P W H d v) : RepR P W H d v := by
  rcases h with h | ⟨a, rfl, _, _, h⟩
  · exact h.r
  · exact h.r
theorem lastMarks2 {op op' : CmpOp} {b d : Expr} (h : notSet d = true) : lastMarks [op, op'] [b, d] = false := notSet_of h op'
theorem rep_x {a : E} {W : Wd} {H : Hp} {d : D} {v : V} {W' : Wd} {H' : Hp} (g : G W H W' H') (wf : Wf W H) (h : RepQ a P W H d v) : RepW P W' H' d v := h.w.g g wf
theorem chain_raw {o o' : CO} {a b d : E} {σ : L2.St} {H : Hp} {T : V → Hp → Prop} {W : Wd} {ρ : Env} {M : Sto} (rel : Rel P ow W ρ M σ H) {A : D × Sto → Prop} (hs : (evE c (.chain o o' a b d) ρ M).sat A (Xk P W H w σ))
    (k : ∀ W' H' M' b, G W H W' H' → StoR P W' M' H' → A (.bl b, M') → T (.bl b) H') : tChain (rCmp P o) (rCmp P o') (tE P c ow w a) (tE P c ow w b) (tE P c ow w d) σ H T := by
  rw [evE, R.sat_bind] at hs
  refine ⟨W, ρ, M, rel, R.sat_mono hs (fun r hr => ?_) fun _ _ h => h⟩
  intro W1 x H1 g1 s1 r1
  rw [R.sat_bind] at hr
  refine ⟨W1, ρ, r.2, rel.g g1 s1, R.sat_mono hr (fun q hq => ?_) fun _ _ h => h.g g1⟩
  intro W2 y H2 g2 s2 r2
  have r1' := r1.w.g g2 s1.wf
  cases e : cmpD o (nrm q.2 r.1) (nrm q.2 q.1) with
  | none => rw [e] at hq; exact hq.elim
  | some z =>
    rw [e] at hq
    refine ⟨W2, q.2, _, _, z, s2, r1'.r s2, r2.w.r s2, e, fun W3 v3 H3 g3 s3 r3 => ⟨z, r3, ?_⟩⟩
    have g13 := g1.trans (g2.trans g3)
    cases z with
    | false =>
      rw [if_neg (by decide)]
      exact k W3 H3 q.2 false g13 s3 hq
    | true =>
      rw [if_pos rfl]
      rw [R.sat_bind] at hq
      refine ⟨W3, ρ, q.2, rel.g g13 s3, R.sat_mono hq (fun p hp => ?_) fun _ _ h => h.g g13⟩
      intro W4 u H4 g4 s4 r4
      obtain ⟨z', e', hp⟩ := sat_of hp
      refine ⟨W4, p.2, _, _, z', s4, ((r2.w.g g3 s2.wf).g g4 s3.wf).r s4, r4.w.r s4, e', fun W5 v5 H5 g5 s5 r5 => ?_⟩
      have e5 : v5 = .bl z' := r5
      rw [e5]
      exact k W5 H5 p.2 z' (g13.trans (g4.trans g5)) s5 hp
theorem x_chain {o o' : CO} {a b d : E} {x y z : Expr} (ok : CtxOk g P c n X w) (hz : notSet z = true) (ha : PEE P c ow w X x a) (hb : PEE P c ow w X y b) (hd : PEE P c ow w X z d) : PEE P c ow w X (.Compare x [coOp o, coOp o'] [y, z] pos) (.chain o o' a b d) := by
  refine pe_imp (pe_chain (op_cmp o ok.hK ok.hw ok.hu) (op_cmp o' ok.hK ok.hw ok.hu) ha hb hd (lastMarks2 hz)) fun σ H Q ⟨W, ρ, M, rel, hs⟩ => ?_
  exact chain_raw rel hs fun W' H' M' b g' s' h => (show PQ P W H (.chain o o' a _ d) Q (.bl b, M') from h) W' _ H' g' s' (.of rfl)
theorem t_chain {o o' : CO} {a b d : E} {x y z : Expr} (ok : CtxOk g P c n X w) (hz : notSet z = true) (ha : PEE P c ow w X x a) (hb : PEE P c ow w X y b) (hd : PEE P c ow w X z d) : PTT P c ow w X (.Compare x [coOp o, coOp o'] [y, z] pos) (.chain o o' a b d) := by
  refine pt_imp (pt_chain (op_cmp o ok.hK ok.hw ok.hu) (op_cmp o' ok.hK ok.hw ok.hu) ha hb hd (lastMarks2 hz)) fun σ H Q ⟨W, ρ, M, rel, hs⟩ => ?_
  refine chain_raw rel hs fun W' H' M' b g' s' h => ?_
  obtain ⟨k, e, hq⟩ := h
  cases e
  exact ⟨_, rfl, hq W' H' g' s'⟩
theorem x_bi {b : Bi} {as : List E} {x : Str} {p : Pos} {e : Expr} {es : List Expr} (ok : CtxOk g P c n X w) (hg : glob X.env.scope x = true) (hp : plainName x = true) (hb : g.bi.lookup x = some b) (hc : biAll b = true) (ha : PA X (e :: es) (tAs P c ow w as)) (hst : (e :: es).all notStar = true) :
    PE X (.Call (.Name x p) (e :: es) [] pos) (tF P c ow w (.bi b as)) := by
  obtain ⟨h1, h2, h3⟩ := plainName_of hp
  obtain ⟨m1, m2⟩ := ok.bi x b hb
  rw [List.all_cons, Bool.and_eq_true] at hst
  have cr := cr_all (P := P) b hc ok.hK ok.calm ok.hu
  have pe : PE X (.Call (.Name x p) (e :: es) [] pos) (tCB (rBi P b) (tAs P c ow w as)) := by
    cases b <;> first
      | exact pe_callB cr (glob_of hg) m1 m2 ha h3 h1 (notStar_of hst.1 _ _) (stars_none hst.2)
      | exact pe_callTy cr (glob_of hg) m1 m2 ha h3 h1 (notStar_of hst.1 _ _) (stars_none hst.2)
      | cases hc
  refine pe_imp pe fun σ H Q ⟨W, ρ, M, rel, hs⟩ => ?_
  rw [evE, R.sat_bind] at hs
  refine ⟨W, ρ, M, rel, R.sat_mono hs (fun r hr => ?_) fun _ _ h => h⟩
  intro W1 vs H1 g1 s1 r1
  obtain ⟨d, ed, hq⟩ := sat_of hr
  rw [if_neg (show ¬ isWlk b = true from by cases b <;> first | exact Bool.false_ne_true | cases hc)] at ed
  exact ⟨W1, r.2, _, d, s1, r1.r s1, ed, fun W' v H' g' s' rf => hq W' v H' (g1.trans g') s' (repF_g g1 rf)⟩
theorem join_str {s : List Nat} {a d : D} (h : meD .join (.str s) [a] = some d) : ∃ x, d = .str x := by
  unfold meD at h
  split at h <;> first | (cases h; done) | skip
  all_goals first | (rename_i h1 _ _; cases h1; done) | (rename_i h1 _; cases h1; done) | (rename_i h1; cases h1; done) | skip
  all_goals
    rename_i s' xs h1 h2 h3
    cases e : strsD xs with
    | none => rw [e] at h; cases h
    | some ys =>
      rw [e] at h
      simp only [Option.bind_some] at h
      split at h
      · cases h; exact ⟨_, rfl⟩
      · cases h
theorem x_join {a b : E} {o e : Expr} {apos : Pos} (ok : CtxOk g P c n X w) (h0 : notCall0 o = true) (hl : (apos.endLine == pos.line) = true) (hst : notStar e = true) (ha : PEE P c ow w X o a) (hb : PEE P c ow w X e b) : PEE P c ow w X (.Call (.Attribute o "join" apos) [e] [] pos) (.join a b) := by
  refine pe_imp (pe_m1 F.slot_str_join F.type_str_join (mt_meJoin (P := P) ok.hK) ha hb (notStar_of hst _ _) (notCall0_of h0 _ _) hl) fun σ H Q ⟨W, ρ, M, rel, hs⟩ => ?_
  rw [evE, R.sat_bind] at hs
  refine ⟨W, ρ, M, rel, R.sat_mono hs (fun r hr => ?_) fun _ _ h => h⟩
  intro W1 x H1 g1 s1 r1
  obtain ⟨d0, M1⟩ := r
  cases d0 with
  | str sx =>
    have hr : ((evE c b ρ M1).bind fun q => R.of ((meD .join (.str sx) [nrm q.2 q.1]).map fun d => (d, q.2))).sat (PQ P W H (.join a b) Q) (Xk P W H w σ) := hr
    rw [R.sat_bind] at hr
    refine ⟨⟨S' sx, ((r1.w.rr : RepR P W1 H1 (.str sx) x).1)⟩, W1, ρ, M1, rel.g g1 s1, R.sat_mono hr (fun q hq => ?_) fun _ _ h => h.g g1⟩
    intro W2 y H2 g2 s2 r2
    obtain ⟨d, ed, hq⟩ := sat_of hq
    obtain ⟨z, rfl⟩ := join_str ed
    exact ⟨W2, q.2, .str sx, [nrm q.2 q.1], _, s2, (r1.w.g g2 s1.wf).rr, ⟨y, [], rfl, r2.w.r s2, rfl⟩, ed, fun W' v H' g' s' rf => hq W' v H' (g1.trans (g2.trans g')) s' (.of rf)⟩
  | _ => exact hr.elim
theorem x_sub {a b : E} {x y : Expr} (ok : CtxOk g P c n X w) (hy : notSlice y = true) (ha : PEE P c ow w X x a) (hb : PEE P c ow w X y b) : PEE P c ow w X (.Subscript x y pos) (.sub a b) := by
  refine pe_imp (pe_ix (ix_sub (P := P) ok.hK ok.hw ok.hu) ha hb (notSlice_of hy)) fun σ H Q ⟨W, ρ, M, rel, hs⟩ => ?_
  rw [evE] at hs
  refine two rel hs fun r q v u W2 H2 g2 s2 r1 r2 h => ?_
  obtain ⟨d, e, hq⟩ := sat_of h
  exact ⟨W2, q.2, _, _, d, s2, r1, r2.w.rr, e, fun W' v' H' g' s' rf => hq W' v' H' (g2.trans g') s' (.of rf)⟩
theorem po_bnd {l : E} {lo : Option Expr} (h : match lo with | none => isNon l = true | some y => isNon l = false ∧ PEE P c ow w X y l) : PO X lo fun σ H Q => ∃ W ρ M, Rel P ow W ρ M σ H ∧ (evE c l ρ M).sat (fun r => ∃ o, bnd (isNon l) r.1 = some o ∧ ∀ W' H', G W H W' H' → StoR P W' r.2 H' → Q o H') (Xk P W H w σ) := by
  cases lo with
  | none =>
    have h : isNon l = true := h
    refine ⟨fun pins s σ H Q I q => po_none.run pins s σ H Q I ?_⟩
    obtain ⟨W, ρ, M, rel, hs⟩ := q
    cases l with
    | con d =>
      cases d with
      | non =>
        obtain ⟨o, e, hq⟩ := hs
        cases e
        exact hq W H .refl rel.sto
      | _ => cases h
    | _ => cases h
  | some y =>
    obtain ⟨h1, h2⟩ := h
    refine ⟨fun pins s σ H Q I q => (po_some h2).run pins s σ H Q I ?_⟩
    obtain ⟨W, ρ, M, rel, hs⟩ := q
    refine ⟨W, ρ, M, rel, R.sat_mono hs (fun r hr => ?_) fun _ _ h => h⟩
    intro W1 x H1 g1 s1 r1
    obtain ⟨o, e, hq⟩ := hr
    rw [h1] at e
    obtain ⟨d, M1⟩ := r
    cases d with
    | int i =>
      cases e
      exact ⟨i, (r1.w.rr : RepR P W1 H1 (.int i) x), hq W1 H1 g1 s1⟩
    | _ => cases e
theorem x_slc {a l h : E} {x : Expr} {lo hi : Option Expr} {p2 : Pos} (ok : CtxOk g P c n X w) (ha : PEE P c ow w X x a) (hl : match lo with | none => isNon l = true | some y => isNon l = false ∧ PEE P c ow w X y l) (hh : match hi with | none => isNon h = true | some y => isNon h = false ∧ PEE P c ow w X y h) :
    PE X (.Subscript x (.Slice lo hi none p2) pos) (tF P c ow w (.slc a l h)) := by
  refine pe_imp (pe_slice (sl_slc (P := P) ok.hK) ha (po_bnd hl) (po_bnd hh)) fun σ H Q ⟨W, ρ, M, rel, hs⟩ => ?_
  rw [evE, R.sat_bind] at hs
  refine ⟨W, ρ, M, rel, R.sat_mono hs (fun r hr => ?_) fun _ _ h => h⟩
  intro W1 v H1 g1 s1 r1
  rw [R.sat_bind] at hr
  refine ⟨W1, ρ, r.2, rel.g g1 s1, ?_⟩
  cases e1 : evE c l ρ r.2 with
  | bad => rw [e1] at hr; exact hr.elim
  | exc x M' => rw [e1] at hr; exact Xk.g g1 hr
  | ok q =>
    rw [e1] at hr
    cases b1 : bnd (isNon l) q.1 with
    | none =>
      rw [R.sat_ok, b1] at hr
      exact hr.elim
    | some o1 =>
      rw [R.sat_ok, b1, R.of_some, R.bind_ok, R.sat_bind] at hr
      rw [R.sat_ok]
      refine ⟨o1, b1, fun W2 H2 g2 s2 => ⟨W2, ρ, q.2, rel.g (g1.trans g2) s2, R.sat_mono hr (fun p hp => ?_) fun _ _ h => h.g (g1.trans g2)⟩⟩
      cases b2 : bnd (isNon h) p.1 with
      | none => rw [b2] at hp; exact hp.elim
      | some o2 =>
        rw [b2, R.of_some, R.bind_ok] at hp
        obtain ⟨d, ed, hq⟩ := sat_of hp
        exact ⟨o2, rfl, fun W3 H3 g3 s3 => ⟨W3, p.2, _, d, s3, ((r1.w.g g2 s1.wf).g g3 s2.wf).r s3, ed, fun W' v' H' g' s' rf => hq W' v' H' (g1.trans (g2.trans (g3.trans g'))) s' (repF_g (g1.trans (g2.trans g3)) rf)⟩⟩
def noW : WX := fun _ _ _ _ => False
theorem ownOf_slots {t : Tg} {tg : Expr} {own : List (Str × Nat)} (h : ownOf t tg = some own) : own.map (·.2) = slots t := by
  match t, tg, h with
  | .one i, .Name x _, h => cases h; rfl
  | .tup is, .Tuple es _ _, h =>
    have h : ((es.mapM nameOf).bind fun xs => if xs.length = is.length then some (xs.zip is) else none) = some own := h
    cases e : es.mapM nameOf with
    | none => rw [e] at h; cases h
    | some xs =>
      rw [e, Option.bind_some] at h
      split at h
      · rename_i hl
        cases h
        show (xs.zip is).map Prod.snd = is
        exact List.map_snd_zip (Nat.le_of_eq hl.symm)
      · cases h
def tC2 (P : Par) (c : Call) (ow : List Nat) (cs : List E) : TT := fun σ H Q => ∃ W ρ M, Rel P ow W ρ M σ H ∧ (evCs c cs ρ M).sat (fun r => ∀ W' H', G W H W' H' → StoR P W' r.2 H' → Q r.1 H') fun _ _ => False
theorem pts_cs {cs : List E} {ifs : List Expr} (h : match cs, ifs with | [], [] => True | [a], [e] => PTT P c ow noW X e a | _, _ => False) : PTs X ifs (tC2 P c ow cs) := by
  match cs, ifs, h with
  | [], [], _ =>
    refine ⟨fun pins s σ H Q I q => pts_nil.run pins s σ H Q I ?_⟩
    obtain ⟨W, ρ, M, rel, hs⟩ := q
    exact (show ∀ W' H', G W H W' H' → StoR P W' M H' → Q true H' from hs) W H .refl rel.sto
  | [a], [e], h =>
    refine ⟨fun pins s σ H Q I q => (pts_one h).run pins s σ H Q I ?_⟩
    obtain ⟨W, ρ, M, rel, hs⟩ := q
    rw [evCs, R.sat_bind] at hs
    refine ⟨W, ρ, M, rel, R.sat_mono hs (fun r hr => ?_) fun _ _ h => h.elim⟩
    obtain ⟨d, M'⟩ := r
    cases d with
    | bl k =>
      refine ⟨k, rfl, fun W' H' g' s' => ?_⟩
      cases k with
      | true => exact (show ∀ W'' H'', G W H W'' H'' → StoR P W'' M' H'' → Q true H'' from hr) W' H' g' s'
      | false => exact (show ∀ W'' H'', G W H W'' H'' → StoR P W'' M' H'' → Q false H'' from hr) W' H' g' s'
    | _ => exact hr.elim
theorem compL_cons {cond : Env → Sto → R (Bool × Sto)} {el : Env → Sto → R (D × Sto)} {t : Tg} {d : D} {ds : List D} {ρ : Env} {M : Sto} {A : List D × Sto → Prop} {B : Xc → Sto → Prop} (h : (compL cond el t (d :: ds) ρ M).sat A B) :
    ∃ ρ', putT ρ t d = some ρ' ∧ (cond ρ' M).sat (fun r => if r.1 = true then (el ρ' r.2).sat (fun q => (compL cond el t ds ρ q.2).sat (fun z => A (q.1 :: z.1, z.2)) B) (fun _ _ => False) else (compL cond el t ds ρ r.2).sat A B) fun _ _ => False := by
  unfold compL at h
  cases e : putT ρ t d with
  | none => rw [e] at h; exact h.elim
  | some ρ' =>
    rw [e] at h
    refine ⟨ρ', rfl, ?_⟩
    have h : (match cond ρ' M with
      | R.ok (true, M1) => (match el ρ' M1 with
        | R.ok (y, M2) => (match compL cond el t ds ρ M2 with
          | R.ok (ys, M3) => R.ok (y :: ys, M3)
          | _ => R.bad)
        | _ => R.bad)
      | R.ok (false, M1) => compL cond el t ds ρ M1
      | _ => (R.bad : R (List D × Sto))).sat A B := h
    cases e1 : cond ρ' M with
    | bad => rw [e1] at h; exact h
    | exc _ _ => rw [e1] at h; exact h
    | ok r =>
      rw [e1] at h
      obtain ⟨b, M1⟩ := r
      cases b with
      | false =>
        rw [R.sat_ok, if_neg Bool.false_ne_true]
        exact h
      | true =>
        rw [R.sat_ok, if_pos rfl]
        have h : (match el ρ' M1 with
          | R.ok (y, M2) => (match compL cond el t ds ρ M2 with
            | R.ok (ys, M3) => R.ok (y :: ys, M3)
            | _ => R.bad)
          | _ => (R.bad : R (List D × Sto))).sat A B := h
        cases e2 : el ρ' M1 with
        | bad => rw [e2] at h; exact h
        | exc _ _ => rw [e2] at h; exact h
        | ok q =>
          rw [e2] at h
          obtain ⟨y, M2⟩ := q
          show (compL cond el t ds ρ M2).sat _ B
          have h : (match compL cond el t ds ρ M2 with
            | R.ok (ys, M3) => R.ok (y :: ys, M3)
            | _ => (R.bad : R (List D × Sto))).sat A B := h
          cases e3 : compL cond el t ds ρ M2 with
          | bad => rw [e3] at h; exact h
          | exc _ _ => rw [e3] at h; exact h.elim
          | ok z => rw [e3] at h; exact h
theorem comp_turns {t : Tg} {a : E} {cs : List E} {own : List (Str × Nat)} {W : Wd} {ρ : Env} {M : Sto} {σ : L2.St} {H : Hp} {K : PySem.W.Frag} (hK : K = P.K) (rel : Rel P ow W ρ M σ H) (ho : own.map (·.2) = slots t) (hw : ∀ i ∈ slots t, i ∉ ow) {ds : List D} {J : It} (hl : ds.length ≤ SZ) (wk : Wlk G P W H ds J)
    (na : isBor a = false) {Q : VK} (hs : (compL (evCs c cs) (evE c a) t ds ρ M).sat (fun q => PF P W H Q (.lst q.1, q.2)) (fun _ _ => True)) : ∀ D, H D = none → ∃ Wv : Nat → Nat → Hp → Prop, (∃ m, Wv 0 m (upd H D (.lst []))) ∧ ∀ i m H, Wv i m H →
    (J.stop i H ∧ Q (.ref D) H) ∨ (J.go i H ∧ ∃ Nx : Hp → Prop, (∀ H', Nx H' → ∃ m', m' < m ∧ Wv (i + 1) m' H') ∧ ∀ x H', J.yld i H x H' → gT K t x (wipe σ (own.map (·.2))) H' fun σ2 H2 => wipe σ2 (own.map (·.2)) = wipe σ (own.map (·.2)) ∧ tC2 P c ow cs σ2 H2 fun b H3 =>
      if b = true then tE P c ow noW a σ2 H3 fun y H4 => ∃ acc, H4 D = some (.lst acc) ∧ acc.length < sizeLine ∧ Nx (upd H4 D (.lst (acc ++ [y]))) else Nx H3) := by
  intro D hD
  have dF : ¬ W.F D := fun z => rel.sto.wf.fs D z hD
  have dι : D ∉ W.ι := fun z => rel.sto.wf.is D z hD
  -- the invariant
  let Inv2 : Nat → Hp → Prop := fun i H' => i ≤ ds.length ∧ ∃ W' M' dacc acc, G W H W' H' ∧ StoR P W' M' H' ∧ ¬ W'.F D ∧ D ∉ W'.ι ∧ H' D = some (.lst acc) ∧ Reps P W' H' dacc acc ∧ dacc.length ≤ i ∧
    (compL (evCs c cs) (evE c a) t (ds.drop i) ρ M').sat (fun q => PF P W H Q (.lst (dacc ++ q.1), q.2)) (fun _ _ => True)
  refine ⟨fun i m H' => m = ds.length - i ∧ Inv2 i H', ⟨_, rfl, Nat.zero_le _, W, M, [], [], G.grow hD, rel.sto.grow hD, dF, dι, upd_same .., Reps.nil, Nat.le_refl _, by simpa using hs⟩, ?_⟩
  rintro i m H1 ⟨rfl, hi, W1, M1, dacc, acc, g1, s1, nF, nι, hd, rs, hln, hc⟩
  by_cases hlt : i < ds.length
  · obtain ⟨go, yl⟩ := wk.go W1 H1 M1 i g1 s1 hlt
    refine .inr ⟨go, Inv2 (i + 1), fun H' h' => ⟨_, by omega, rfl, h'⟩, fun x H' y => ?_⟩
    obtain ⟨W2, gy, s2, d, hd1, rp⟩ := yl x H' y
    have al0 : H1 D ≠ none := by rw [hd]; exact fun z => nomatch z
    have hd := gy.kp _ _ hd nι nF
    have nF := gy.nF al0 nF
    have nι := gy.ni al0 nι
    have rs := rs.g gy s1.wf
    have g1 := g1.trans gy
    have s1 := s2
    rw [List.drop_eq_getElem_cons hlt] at hc
    have ed : ds[i] = d := by
      rw [List.getElem?_eq_getElem hlt] at hd1
      exact Option.some.inj hd1
    rw [ed] at hc
    obtain ⟨ρ', e1, hc⟩ := compL_cons hc
    have rel1 := rel.g g1 s1
    obtain ⟨τ, r2, l2, k2⟩ := rel1.wiped (vs := own.map (·.2)) (by rw [ho]; exact hw)
    refine gT_ok hK r2 hw rp (putT_agree e1 (by rw [← ho]; exact k2) l2) fun σ2 r3 l3 k3 => ⟨wipe_same (by rw [l3, wipe_length]) (by rw [ho] at k3 ⊢; exact k3), ?_⟩
    refine ⟨W2, ρ', M1, r3, R.sat_mono hc (fun r hr => ?_) fun _ _ h => h⟩
    intro W3 H3 g3 s3
    have g13 := g1.trans g3
    have al1 : H' D ≠ none := by rw [hd]; exact fun z => nomatch z
    have d3 : H3 D = some (.lst acc) := g3.kp _ _ hd nι nF
    have nF3 : ¬ W3.F D := g3.nF al1 nF
    have nι3 : D ∉ W3.ι := g3.ni al1 nι
    cases hb : r.1 with
    | false =>
      rw [hb, if_neg (by decide)] at hr
      rw [if_neg (by decide)]
      exact ⟨hlt, W3, r.2, dacc, acc, g13, s3, nF3, nι3, d3, rs.g g3 s1.wf, Nat.le_succ_of_le hln, hr⟩
    | true =>
      rw [hb, if_pos rfl] at hr
      rw [if_pos rfl]
      refine ⟨W3, ρ', r.2, r3.g g3 s3, R.sat_mono hr (fun q hq => ?_) fun _ _ h => h.elim⟩
      intro W4 v H4 g4 s4 r4
      have al3 : H3 D ≠ none := by rw [d3]; exact fun z => nomatch z
      have d4 : H4 D = some (.lst acc) := g4.kp _ _ d3 nι3 nF3
      have nF4 : ¬ W4.F D := g4.nF al3 nF3
      have nι4 : D ∉ W4.ι := g4.ni al3 nι3
      have rs4 := (rs.g g3 s1.wf).g g4 s3.wf
      have la : acc.length = dacc.length := rs.length
      refine ⟨acc, d4, by rw [la, ← SZ_line]; omega, hlt, W4, q.2, dacc ++ [q.1], acc ++ [v], (g13.trans g4).upd hD, s4.upd nF4 nι4 (nt_lst d4), nF4, nι4, upd_same .., (rs4.append (Reps.cons (r4.strict na) Reps.nil)).gw (upd_gw nF4 (nt_lst d4)), by rw [List.length_append, List.length_singleton]; omega, ?_⟩
      refine R.sat_mono hq (fun z hz => ?_) fun _ _ h => h
      rw [List.append_assoc]
      exact hz
  · have e : i = ds.length := by omega
    subst e
    refine .inl ⟨wk.stop W1 H1 _ g1 (Nat.le_refl _), ?_⟩
    rw [List.drop_length] at hc
    have hc : PF P W H Q (.lst (dacc ++ []), M1) := hc
    rw [List.append_nil] at hc
    exact hc W1 _ H1 g1 s1 ⟨D, rfl, hD, nF, nι, acc, hd, by omega, rs⟩
theorem comp_imp {K : PySem.W.Frag} (hK : K = P.K) {t : Tg} {a it : E} {cs : List E} {tg : Expr} {own : List (Str × Nat)} (ho : ownOf t tg = some own) (hw : ∀ i ∈ slots t, i ∉ ow) (na : isBor a = false) (σ : L2.St) (H : Hp) (Q : VK) (h : tF P c ow w (.comp a t it cs) σ H Q) :
    tLc (tI G P c ow w it) (gT K t) (tC2 P c ow cs) (tE P c ow noW a) (own.map (·.2)) σ H Q := by
  obtain ⟨W, ρ, M, rel, hs⟩ := h
  rw [evE, R.sat_bind] at hs
  refine ⟨W, ρ, M, rel, R.sat_mono hs (fun r hr => ?_) fun _ _ h => h⟩
  cases e : itemsW it r.1 with
  | none => rw [e] at hr; exact hr.elim
  | some ds =>
    rw [e] at hr
    refine ⟨ds, rfl, fun W1 H1 J g1 s1 wk => ?_⟩
    have hr : (if ds.length ≤ SZ then (compL (evCs c cs) (evE c a) t ds ρ r.2).bind fun q => .ok (.lst q.1, q.2) else .bad : R (D × Sto)).sat (PF P W H Q) (Xk P W H w σ) := hr
    split at hr
    · rename_i hl
      rw [R.sat_bind] at hr
      exact comp_turns hK (rel.g g1 s1) (ownOf_slots ho) hw hl wk na (R.sat_mono hr (fun q hq W' v H' g' s' rf => hq W' v H' (g1.trans g') s' (repF_g g1 rf)) fun _ _ _ => trivial)
    · exact hr.elim
theorem x_comp {t : Tg} {a it : E} {cs : List E} {elt tg iter : Expr} {ifs : List Expr} {scope : Scope} {own : List (Str × Nat)} (ok : CtxOk g P c n X w) (hb : blkC X.N X.env.scope scope own = true) (ho : ownOf t tg = some own) (hw : ∀ i ∈ slots t, i ∉ ow) (hset : notSet iter = true) (hi : PI X tg iter (tI G P c ow w it))
    (ht : chkG (cellB scope) X.N (relS scope X.env.scope) t tg = true) (na : isBor a = false)
    (hc : ∀ X' : Cx, CtxOk g P c n X' noW → X'.N = X.N → X'.env.scope = relS scope X.env.scope → (match cs, ifs with | [], [] => True | [a], [e] => PTT P c ow noW X' e a | _, _ => False) ∧ PEE P c ow noW X' elt a) :
    PE X (.ListComp elt [⟨tg, iter, ifs, 0⟩] scope pos) (tF P c ow w (.comp a t it cs)) := by
  refine pe_imp (pe_lc (g := gT X.K t) (tt := tC2 P c ow cs) (te := tE P c ow noW a) ok.calm ok.nd hi (blkOk_by hb) (fun s H C cl fp => pg_tgt (ok.blk ..) (fb := cellB scope) (fun x h => h) ht) (fun s H C cl fp => pts_cs (hc _ (ok.blk ..) rfl rfl).1) (fun s H C cl fp => (hc _ (ok.blk ..) rfl rfl).2) (notSet_fold hset _)) (comp_imp ok.hK ho hw na)
def Wd.box (W : Wd) (p : Addr) : Wd := ⟨W.ι ++ [p], W.F⟩
theorem Gw.box {W : Wd} {H : Hp} {p : Addr} : Gw W H (W.box p) H := ⟨⟨[p], rfl⟩, fun _ h => h, fun _ _ => .refl, fun _ _ h => h⟩
theorem Rep.box {P : Par} {W : Wd} {H : Hp} {p : Addr} {d : D} {v : V} (h : Rep P W H d v) : Rep P (W.box p) H d v := h.gw .box
theorem Reps.box {P : Par} {W : Wd} {H : Hp} {p : Addr} {ds : List D} {vs : List V} (h : Reps P W H ds vs) : Reps P (W.box p) H ds vs := h.gw .box
theorem BoxAt.box' {W : Wd} {H : Hp} {p a : Addr} {d : D} (h : BoxAt P W H a d) : BoxAt P (W.box p) H a d := by
  cases d with
  | lst ds =>
    obtain ⟨vs, h1, h2, h3⟩ := h
    exact ⟨vs, h1, h2, h3.box⟩
  | dct t kvs =>
    obtain ⟨o, vs, h1, h2, h3, h4⟩ := h
    exact ⟨o, vs, h1, h2, h3, h4.gw .box⟩
  | _ => exact (show False from h).elim
theorem MoAt.box {W : Wd} {H : Hp} {p a : Addr} {o : MO} (h : MoAt P W H a o) : MoAt P (W.box p) H a o := by
  cases o with
  | val d => exact BoxAt.box' h
  | ins _ _ => exact (show False from h).elim
theorem box_ok {W0 W : Wd} {H0 H : Hp} {M : Sto} {p : Addr} {d : D} (g : G W0 H0 W H) (s : StoR P W M H) (n : H0 p = none) (nF : ¬ W.F p) (nι : p ∉ W.ι) (h : BoxAt P W H p d) : G W0 H0 (W.box p) H ∧ StoR P (W.box p) (M ++ [.val d]) H := by
  refine ⟨⟨?_, g.fm, g.fn, g.kp, g.kf, g.al, g.tp⟩, ⟨⟨fun a fa z => ?_, s.wf.fs, ?_, fun a z => ?_⟩, ?_, fun k o e => ?_⟩⟩
  · obtain ⟨m, e, k⟩ := g.io
    refine ⟨m ++ [p], by show W.ι ++ [p] = _; rw [e, List.append_assoc], fun a ha => ?_⟩
    rcases List.mem_append.mp ha with ha | ha
    · exact k a ha
    · rw [List.mem_singleton.mp ha]; exact n
  · rcases List.mem_append.mp z with z | z
    · exact s.wf.fi a fa z
    · rw [List.mem_singleton.mp z] at fa; exact nF fa
  · refine List.nodup_append.mpr ⟨s.wf.nd, by simp, fun a ha b hb z => ?_⟩
    rw [List.mem_singleton.mp hb] at z
    subst z
    exact nι ha
  · rcases List.mem_append.mp z with z | z
    · exact s.wf.is a z
    · rw [List.mem_singleton.mp z]; exact h.some
  · show (W.ι ++ [p]).length = (M ++ [_]).length
    rw [List.length_append, List.length_append, s.len]; rfl
  · by_cases hk : k < M.length
    · rw [List.getElem?_append_left hk] at e
      obtain ⟨a, e1, h1⟩ := s.at_ k o e
      refine ⟨a, ?_, h1.box⟩
      show (W.ι ++ [p])[k]? = some a
      rw [List.getElem?_append_left (by rw [s.len]; exact hk)]
      exact e1
    · rw [List.getElem?_append_right (by omega)] at e
      have hk0 : k - M.length = 0 := by
        have := (List.getElem?_eq_some_iff.mp e).1
        simp at this
        omega
      rw [hk0] at e
      cases e
      refine ⟨p, ?_, BoxAt.box' h⟩
      show (W.ι ++ [p])[k]? = some p
      rw [List.getElem?_append_right (by rw [s.len]; omega), s.len, hk0]
      rfl
theorem x_alloc {a : E} {e : Expr} (h : PE X e (tF P c ow w a)) : PEE P c ow w X e (.alloc a) := by
  refine pe_imp h fun σ H Q ⟨W, ρ, M, rel, hs⟩ => ?_
  rw [evE, R.sat_bind] at hs
  refine ⟨W, ρ, M, rel, R.sat_mono hs (fun r hr => ?_) fun _ _ h => h⟩
  intro W1 v H1 g1 s1 rf
  obtain ⟨d, M1⟩ := r
  cases d with
  | lst ds =>
    obtain ⟨p, rfl, n, nF, nι, hb⟩ := rf
    obtain ⟨g2, s2⟩ := box_ok g1 s1 n nF nι hb
    refine (show PQ P W H (.alloc a) Q (.obj M1.length, M1 ++ [.val (.lst ds)]) from hr) (W1.box p) (.ref p) H1 g2 s2 (.of ⟨p, rfl, ?_⟩)
    show (W1.ι ++ [p])[M1.length]? = some p
    have hl : W1.ι.length = M1.length := s1.len
    rw [List.getElem?_append_right (by omega), hl, Nat.sub_self]
    rfl
  | dct t kvs =>
    obtain ⟨p, rfl, n, nF, nι, hb⟩ := rf
    obtain ⟨g2, s2⟩ := box_ok g1 s1 n nF nι hb
    refine (show PQ P W H (.alloc a) Q (.obj M1.length, M1 ++ [.val (.dct t kvs)]) from hr) (W1.box p) (.ref p) H1 g2 s2 (.of ⟨p, rfl, ?_⟩)
    show (W1.ι ++ [p])[M1.length]? = some p
    have hl : W1.ι.length = M1.length := s1.len
    rw [List.getElem?_append_right (by omega), hl, Nat.sub_self]
    rfl
  | _ => exact (show False from hr).elim
theorem pw_unA {e : Expr} {t : TT} {op : BoolOp} {es : List Expr} (h1 : ∀ x, es = [x] → PT X x t) (h2 : (∀ x, es ≠ [x]) → PW X (.BoolOp op es pos) t) : PW X (.BoolOp op es pos) t := by
  by_cases z : ∃ x, es = [x]
  · obtain ⟨x, rfl⟩ := z
    cases op
    · exact pw_and1 (h1 x rfl)
    · exact pw_or1 (h1 x rfl)
  · exact h2 fun x e => z ⟨x, e⟩
theorem unB_one {op : BoolOp} {x : Expr} : unB (.BoolOp op [x] pos) = x := rfl
theorem unB_many {op : BoolOp} {x y : Expr} {r : List Expr} : unB (.BoolOp op (x :: y :: r) pos) = .BoolOp op (x :: y :: r) pos := rfl
structure Snd (P : Par) (c : Call) (ow : List Nat) (g : Cfg) (n : Nat) (a : E) : Prop where
  e : ∀ (X : Cx) (w : WX) (x : Expr), CtxOk g P c n X w → chkE g X.N ow X.env.scope a x = true → PE X x (tX P c ow w a)
  t : ∀ (X : Cx) (w : WX) (x : Expr), CtxOk g P c n X w → chkE g X.N ow X.env.scope a x = true → tstB a = true → PTT P c ow w X x a
  b : ∀ (X : Cx) (w : WX) (x : Expr), CtxOk g P c n X w → chkE g X.N ow X.env.scope a (unB x) = true → (∃ op es p, x = .BoolOp op es p) → PEE P c ow w X x a ∧ (tstB a = true → PW X x (tT P c ow w a))
  i : ∀ (X : Cx) (w : WX) (x tg : Expr), CtxOk g P c n X w → chkI g X.N ow X.env.scope (isTupX tg) a x = true → ∀ T, (∀ W H W' H', Wf W H → T W H W' H' → Gw W H W' H') → PI X tg x (tI T P c ow w a)
def Snds (P : Par) (c : Call) (ow : List Nat) (g : Cfg) (n : Nat) (as : List E) : Prop := (∀ a ∈ as, Snd P c ow g n a) ∧ ∀ (X : Cx) (w : WX) (es : List Expr), CtxOk g P c n X w → chkEs g X.N ow X.env.scope as es = true → PA X es (tAs P c ow w as)
theorem Snd.ee {a : E} (s : Snd P c ow g n a) (ok : CtxOk g P c n X w) {x : Expr} (h : chkE g X.N ow X.env.scope a x = true) : PEE P c ow w X x a := toE (s.e X w x ok h)
theorem Snd.of {a : E} (h : ∀ (X : Cx) (w : WX) (x : Expr), CtxOk g P c n X w → chkE g X.N ow X.env.scope a x = true → PE X x (tX P c ow w a) ∧ (tstB a = true → PTT P c ow w X x a) ∧ ∀ op es p, x = .BoolOp op es p → PEE P c ow w X x a ∧ (tstB a = true → PW X x (tT P c ow w a)))
    (hi : ∀ (X : Cx) (w : WX) (x tg : Expr), CtxOk g P c n X w → chkI g X.N ow X.env.scope (isTupX tg) a x = true → ∀ T, (∀ W H W' H', Wf W H → T W H W' H' → Gw W H W' H') → PI X tg x (tI T P c ow w a)) : Snd P c ow g n a := by
  refine ⟨fun X w x ok hx => (h X w x ok hx).1, fun X w x ok hx ht => (h X w x ok hx).2.1 ht, fun X w x ok hx hb => ?_, hi⟩
  obtain ⟨op, es, p, rfl⟩ := hb
  match es, hx with
  | [], hx => exact (h X w _ ok hx).2.2 _ _ _ rfl
  | [y], hx =>
    have q := h X w y ok hx
    refine ⟨pe_one (toE q.1), fun ht => ?_⟩
    cases op
    · exact pw_and1 (q.2.1 ht)
    · exact pw_or1 (q.2.1 ht)
  | y :: z :: r, hx => exact (h X w _ ok hx).2.2 _ _ _ rfl
end
end Ev
set_option Elab.async false
set_option linter.all false
set_option autoImplicit false
set_option maxRecDepth 100000
set_option maxHeartbeats 4000000
namespace Ev
open PySem PySem.Spec PyProof.Rows L2
section
variable {X : Cx}
theorem dset {pins : List (Addr × Obj)} {σ : L2.St} {H H' : Hp} {s : Shared} {E : Value → Shared → Prop} {p : Addr} {y v : V} {u r : Value} {Q : Unit → Shared → Prop} (hu : X.A.units < cLine) (I : Inv X pins σ H s) (g : DPut H p y v H') (ry : RelV y u) (rv : RelV v r) (h : ∀ s', Inv X pins σ H' s' → Q () s') :
    wpAny (model X.prog X.w) X.A (dictSet p u r) Q E s := by
  rcases g with ⟨kvs, k, e, rfl, l, rfl⟩ | ⟨kvs, k, b, e, rfl, eb, l, rfl⟩
  · exact d_dictSet I e l ry rv h
  · cases (show u = Value.ref b from ry)
    obtain ⟨z, lo, xs, rel, dd⟩ := dt_of I.hok e
    have hl := length_putK kvs k v
    refine wpAny_dictSet_heap (hsz := by rw [← Paired.length rel]; exact z) (show (tupleKind (mixKind X.prog X.w)).room X.A from hu) (key_of I.hok eb) dd fun h' dd' sb => h _ ?_
    obtain ⟨q, es, ep, a1, a2, a3, a4, _, a5⟩ := dd'
    refine d_write I (by rw [e]; exact True.intro) sb ⟨q, a1⟩ ⟨by omega, lo, _, (rel.put k eb rv).keeps fun c ys ec => ?_, q, es, ep, a1, a2, a3, a4, a5⟩
    exact (upd_ne (ne_of ec e (fun z => nomatch z))).trans ec
def tDx (o0 : HO) (wi : TI) (g : TG) (tt : TT) (tk tv : TE) (vs : List Nat) : TE := fun σ H Q => wi σ H fun J H1 => ∀ D, H1 D = none → ∃ W : Nat → Nat → Hp → Prop, (∃ m, W 0 m (upd H1 D o0)) ∧ ∀ i m H, W i m H →
  (J.stop i H ∧ Q (.ref D) H) ∨ (J.go i H ∧ ∃ Nx : Hp → Prop, (∀ H', Nx H' → ∃ m', m' < m ∧ W (i + 1) m' H') ∧ ∀ x H', J.yld i H x H' → g x (wipe σ vs) H' fun σ2 H2 => wipe σ2 vs = wipe σ vs ∧ tt σ2 H2 fun b H3 =>
    if b = true then tk σ2 H3 fun y H4 => tv σ2 H4 fun z H5 => ∃ H6, DPut H5 D y z H6 ∧ Nx H6 else Nx H3)
theorem pe_dx {kx vx tg iter : Expr} {ifs : List Expr} {scope : Scope} {own : List (Str × Nat)} {pos : Pos} {o0 : HO} {wi : TI} {g : TG} {tt : TT} {tk tv : TE} (h0 : o0 = .dK [] ∨ o0 = .dT []) (hu : X.A.units < cLine) (hc : X.calm = true) (hN : X.N.Nodup) (hi : PI X tg iter wi) (ok : BlkOk X.N X.env.scope scope own)
    (hg : ∀ (s : Shared) (H : Hp) (C : Addr) (cl : List (Str × Addr)) (fp : List Addr), PG (X.blk s H scope (compEnvC scope cl C X.env) fp) tg g) (ht : ∀ (s : Shared) (H : Hp) (C : Addr) (cl : List (Str × Addr)) (fp : List Addr), PTs (X.blk s H scope (compEnvC scope cl C X.env) fp) ifs tt)
    (hk : ∀ (s : Shared) (H : Hp) (C : Addr) (cl : List (Str × Addr)) (fp : List Addr), PE (X.blk s H scope (compEnvC scope cl C X.env) fp) kx tk)
    (he : ∀ (s : Shared) (H : Hp) (C : Addr) (cl : List (Str × Addr)) (fp : List Addr), PE (X.blk s H scope (compEnvC scope cl C X.env) fp) vx tv) (hs : ∀ x, foldedSetIterable iter X.env x = pure x) :
    PE X (.DictComp kx vx [⟨tg, iter, ifs, 0⟩] scope pos) (tDx o0 wi g tt tk tv (own.map (·.2))) := by
  refine ⟨fun pins s σ H Q I h => ?_⟩
  rw [arm_eval_DictComp]
  have free : ∀ y ∈ scope.names, y.2 = .free → ∃ c, X.env.cells.lookup y.1 = some c := fun y hy e => (ok.free y hy e).elim (fun k => I.ok.has _ (.inl k)) fun k => I.ok.has _ (.inr k)
  refine wpAny_comprehension_free (use := none) rfl hs (closure_ok free) ok.kind (fun y hy e => by rw [ok.uniq y hy, e]) (thn (hi.run pins s σ H _ I h) fun xv s1 h1 => thn h1 fun itv s2 h2 => ?_)
  obtain ⟨it, fp, tn, J, H2, rfl, I2, T, st2, f2, q⟩ := h2
  refine wpAny_newObj_type (newEnv_comp ?_)
  generalize eD : s2.heap.objs.size = D
  have nD : H2 D = none := I2.hok.fresh (Nat.le_of_eq eD)
  obtain ⟨W, ⟨m0, w0⟩, turn⟩ := q D nD
  have empty : ObjOk X.prog X.w (upd H2 D o0) (s2.heap.push { cls := .type "dict", data := .dict #[] }) D o0 := by
    rw [← eD]
    rcases h0 with rfl | rfl
    · exact dk_empty s2.heap I2.big
    · exact dt_empty s2.heap I2.big
  generalize e3 : ({ s2 with heap := s2.heap.push { cls := .type "dict", data := .dict #[] } } : Shared) = s3
  have e3h : s3.heap = s2.heap.push { cls := .type "dict", data := .dict #[] } := by rw [← e3]
  have I3 : Inv X pins σ (upd H2 D o0) s3 := by
    rw [← e3]
    exact I2.laid (t' := s2.toks) (fun b o e => Heap.get?_push_of_some _ e) (Nat.le_of_eq eD) empty
  have lt2 : ∀ b ∈ fp, b < s2.heap.objs.size := fun b hb => let ⟨o, e, _⟩ := T.obj _ _ st2 b hb; Heap.lt_size e
  have f3 : ∀ b ∈ fp, FpOk X pins (upd H2 D o0) b ∧ b < s3.heap.objs.size := fun b hb => by
    refine ⟨⟨?_, (f2 b hb).2⟩, by rw [e3h, Heap.size_push]; exact Nat.lt_succ_of_lt (lt2 b hb)⟩
    exact (upd_ne (by rw [← eD]; exact Nat.ne_of_lt (lt2 b hb))).trans (f2 b hb).1
  have st3 : tn 0 s3.heap := T.keep _ _ _ st2 fun b _ o e => by rw [e3h]; exact Heap.get?_push_of_some _ e
  have I4 := block_start I3 ok hN f3
  show codeAny _ _ (.compStart (.DictComp kx vx [⟨tg, iter, ifs, 0⟩] scope pos) 0 (.ref it) (.ref D) (compEnvC scope (cellsFrom (s3.heap.objs.size + 1) scope.names (cloFrom X.env.cells scope.names [])) s3.heap.objs.size X.env)) (compPost (model X.prog X.w) X.A X.xe none _ (.ref D) s3.heap.objs.size) { s3 with heap := pushCells (s3.heap.push { cls := .type "dict", data := .dict #[] }) scope.names }
  have nfp : ∀ b ∈ fp, (upd H2 D o0) b = none := fun b hb => (f3 b hb).1.1
  have pg := hg s3 (upd H2 D o0) s3.heap.objs.size (cellsFrom (s3.heap.objs.size + 1) scope.names (cloFrom X.env.cells scope.names [])) fp
  have pt := ht s3 (upd H2 D o0) s3.heap.objs.size (cellsFrom (s3.heap.objs.size + 1) scope.names (cloFrom X.env.cells scope.names [])) fp
  have pk := hk s3 (upd H2 D o0) s3.heap.objs.size (cellsFrom (s3.heap.objs.size + 1) scope.names (cloFrom X.env.cells scope.names [])) fp
  have pv := he s3 (upd H2 D o0) s3.heap.objs.size (cellsFrom (s3.heap.objs.size + 1) scope.names (cloFrom X.env.cells scope.names [])) fp
  generalize ece : compEnvC scope (cellsFrom (s3.heap.objs.size + 1) scope.names (cloFrom X.env.cells scope.names [])) s3.heap.objs.size X.env = ce at I4 pg pt pk pv ⊢
  have cL : ce.locals = s3.heap.objs.size := by subst ece; rfl
  generalize eH3 : upd H2 D o0 = H3 at I3 I4 pg pt pk pv w0 nfp f3
  generalize e4 : ({ s3 with heap := pushCells (s3.heap.push { cls := .type "dict", data := .dict #[] }) scope.names } : Shared) = s4 at I4 ⊢
  have st4 : tn 0 s4.heap := T.keep _ _ _ st3 fun b _ o e => by rw [← e4]; exact pushCells_keeps _ _ _ _ (Heap.get?_push_of_some _ e)
  have fpo : ∀ {σ' : L2.St} {H' : Hp} {s' : Shared}, Inv (X.blk s3 H3 scope ce fp) [] σ' H' s' → (∀ b ∈ fp, H' b = none) → ∀ b ∈ fp, FpOk (X.blk s3 H3 scope ce fp) [] H' b := fun {σ' H' s'} I' n b hb =>
    ⟨n b hb, (I'.ok.exf b hb).1, I'.ok.exfs b hb, .inl hb, fun x c e => (I'.ok.exf b hb).2 x c e, fun r hr => absurd (show r ∈ ([] : List (Addr × Obj)) ++ [] from hr) (by simp)⟩
  have loop : codeAny (model X.prog X.w) X.A (.compLoop (.DictComp kx vx [⟨tg, iter, ifs, 0⟩] scope pos) 0 (.ref it) (.ref D) ce) (compPost (model X.prog X.w) X.A X.xe none (EP X pins σ Q) (.ref D) s3.heap.objs.size) s4 := by
    refine compLoop_anyD (fun k s' => ∃ i H', Inv (X.blk s3 H3 scope ce fp) [] (wipe σ (own.map (·.2))) H' s' ∧ tn i s'.heap ∧ (∀ b ∈ fp, H' b = none) ∧ W i k H') ?_ m0 ⟨0, H3, I4, st4, nfp, w0⟩
    rintro k s5 ⟨i, H5, I5, st5, n5, w5⟩
    rcases turn i k H5 w5 with ⟨stop, fin⟩ | ⟨go, Nx, hNx, step⟩
    · refine thnF (T.done (X.blk s3 H3 scope ce fp) rfl rfl rfl hc i [] s5 _ H5 (fun _ _ => False) I5 (fpo I5 n5) st5 stop) fun r s6 ⟨er, I6⟩ => ?_
      subst er
      have I7 : Inv X pins σ H5 s6 := I3.call' (ch := fp) I6.os I6.base I6.hok I6.bare fun b hb => ⟨(f3 b hb).1.2.2.2.1, (f3 b hb).1.2.1, (f3 b hb).1.2.2.2.2.1, (f3 b hb).1.2.2.2.2.2⟩
      have nC : H5 s3.heap.objs.size = none := by
        have z : H5 ce.locals = none := I6.free
        rwa [cL] at z
      obtain ⟨m, hn, _⟩ := I6.loc
      have hn : s6.heap.Ns ce.locals m := hn
      rw [cL] at hn
      obtain ⟨a0, a1, a2, a3, a4, a5⟩ := I3.fpOk (Nat.le_refl _) nC
      exact ⟨m, hn, fun h'' sb => ⟨.ref D, H5, I7.turned (t' := s6.toks) (fun b o hb e => (sb.2 b hb).trans e) a0 a1 a3 a4 a5, rfl, fin⟩⟩
    · refine thnF (T.item (X.blk s3 H3 scope ce fp) rfl rfl rfl hc i [] s5 _ H5 (fun _ _ => False) I5 (fpo I5 n5) st5 go) fun r s6 ⟨u, er, h6⟩ => ?_
      subst er
      refine thnF h6 fun _ s7 ⟨x, H7, I7, r7, y7, st7, n7⟩ => ?_
      refine thnF (pg.run _ s7 _ H7 x u _ (I7.pinned (fpo I7 n7) (T.obj _ _ st7)) r7 (step x H7 y7)) fun _ s8 ⟨σ8, H8, I8, hw8, q8⟩ => ?_
      refine thnF (pt.run _ s8 σ8 H8 _ I8 q8) fun b s9 ⟨H9, I9, q9⟩ => ?_
      have fin : ∀ {s' : Shared} {H' : Hp}, Inv (X.blk s3 H3 scope ce fp) ([] ++ pinsAt fp s7.heap) σ8 H' s' → Nx H' → ∃ m, m < k ∧ ∃ i H', Inv (X.blk s3 H3 scope ce fp) [] (wipe σ (own.map (·.2))) H' s' ∧ tn i s'.heap ∧ (∀ b ∈ fp, H' b = none) ∧ W i m H' := fun {s' H'} I' nx => by
        obtain ⟨m', hm, w'⟩ := hNx H' nx
        have pin' : ∀ b ∈ fp, ∀ o, s7.heap.get? b = some o → s'.heap.get? b = some o ∧ H' b = none := fun b hb o e => by
          have z := I'.pin (b, o) (List.mem_append_right _ (List.mem_append_right _ (mem_pinsAt hb e)))
          exact ⟨z.1, z.2.1⟩
        refine ⟨m', hm, i + 1, H', (I'.unpinned (pins := [])).weak (by rw [← hw8, wipe_length]) (fun j v e => ?_), T.keep _ _ _ st7 fun b hb o e => (pin' b hb o e).1, fun b hb => ?_, w'⟩
        · rw [← hw8] at e
          exact (wipe_some e).1
        · obtain ⟨o, e, _⟩ := T.obj _ _ st7 b hb
          exact (pin' b hb o e).2
      cases b with
      | false =>
        rw [if_neg Bool.false_ne_true] at q9
        rw [if_neg Bool.false_ne_true]
        exact fin I9 q9
      | true =>
        rw [if_pos rfl] at q9
        rw [if_pos rfl]
        refine thnF (pk.run _ s9 σ8 H9 _ I9 q9) fun z s10 ⟨yk, H10, I10, r10, q10⟩ => ?_
        refine thnF (pv.run _ s10 σ8 H10 _ I10 q10) fun z2 s11 ⟨yv, H11, I11, r11, H12, dp, nx⟩ => ?_
        exact dset (X := X.blk s3 H3 scope ce fp) hu I11 dp r10 r11 fun s12 I12 => fin I12 nx
  exact codeAny_compStart_dict loop (T.self X.A 0 _ _ _ st4 loop)
end
section
variable {P : Par} {c : Call} {ow : List Nat} {w : WX} {g : Cfg} {n : Nat} {X : Cx} {pos : Pos}
theorem dcompL_cons {b : Bool} {kk vv : Env → Sto → R (D × Sto)} {t : Tg} {d : D} {ds : List D} {ρ : Env} {M : Sto} {acc : List (D × D)} {A : List (D × D) × Sto → Prop} {B : Xc → Sto → Prop} (h : (dcompL b kk vv t (d :: ds) ρ M acc).sat A B) :
    ∃ ρ', putT ρ t d = some ρ' ∧ (kk ρ' M).sat (fun r => (vv ρ' r.2).sat (fun q => keyOk b r.1 = true ∧ (dcompL b kk vv t ds ρ q.2 (keyPut acc r.1 q.1)).sat A B) fun _ _ => False) fun _ _ => False := by
  unfold dcompL at h
  cases e : putT ρ t d with
  | none => rw [e] at h; exact h.elim
  | some ρ' =>
    rw [e] at h
    refine ⟨ρ', rfl, ?_⟩
    have h : (match kk ρ' M with
      | R.ok (k, M1) => (match vv ρ' M1 with
        | R.ok (v, M2) => if keyOk b k then dcompL b kk vv t ds ρ M2 (keyPut acc k v) else R.bad
        | _ => R.bad)
      | _ => (R.bad : R (List (D × D) × Sto))).sat A B := h
    cases e1 : kk ρ' M with
    | bad => rw [e1] at h; exact h
    | exc _ _ => rw [e1] at h; exact h
    | ok r =>
      rw [e1] at h
      obtain ⟨k, M1⟩ := r
      have h : (match vv ρ' M1 with
        | R.ok (v, M2) => if keyOk b k then dcompL b kk vv t ds ρ M2 (keyPut acc k v) else R.bad
        | _ => (R.bad : R (List (D × D) × Sto))).sat A B := h
      show (vv ρ' M1).sat _ _
      cases e2 : vv ρ' M1 with
      | bad => rw [e2] at h; exact h
      | exc _ _ => rw [e2] at h; exact h
      | ok q =>
        rw [e2] at h
        obtain ⟨v, M2⟩ := q
        have h : (if keyOk b k then dcompL b kk vv t ds ρ M2 (keyPut acc k v) else (R.bad : R (List (D × D) × Sto))).sat A B := h
        split at h
        · rename_i ok
          exact ⟨ok, h⟩
        · exact h.elim
def dO : Bool → HO
  | false => .dK []
  | true => .dT []
theorem dO_empty {W : Wd} {H : Hp} (b : Bool) : DctR P W H b [] (dO b) := by
  cases b
  · exact ⟨[], ⟨fun j hj => by simp at hj, [], rfl, rfl, rfl⟩, Nat.zero_le _, rfl⟩
  · exact ⟨[], ⟨fun j hj => by simp at hj, [], rfl, rfl, rfl⟩, Nat.zero_le _, rfl⟩
theorem DctR.gw {W W' : Wd} {H H' : Hp} {b : Bool} {kvs : List (D × D)} {o : HO} (h : DctR P W H b kvs o) (gg : Gw W H W' H') : DctR P W' H' b kvs o := let ⟨vs, h1, h2, h3⟩ := h; ⟨vs, h1, h2, h3.gw gg⟩
theorem dcomp_turns {t : Tg} {b : Bool} {a v : E} {own : List (Str × Nat)} {W : Wd} {ρ : Env} {M : Sto} {σ : L2.St} {H : Hp} {K : PySem.W.Frag} (hK : K = P.K) (rel : Rel P ow W ρ M σ H) (ho : own.map (·.2) = slots t) (hw : ∀ i ∈ slots t, i ∉ ow) {ds : List D} {J : It} (hl : ds.length ≤ SZ) (wk : Wlk G P W H ds J)
    (na : isBor a = false) (nv : isBor v = false) {Q : VK} (hs : (dcompL b (evE c a) (evE c v) t ds ρ M []).sat (fun q => PF P W H Q (.dct b q.1, q.2)) (fun _ _ => True)) : ∀ D, H D = none → ∃ Wv : Nat → Nat → Hp → Prop, (∃ m, Wv 0 m (upd H D (dO b))) ∧ ∀ i m H, Wv i m H →
    (J.stop i H ∧ Q (.ref D) H) ∨ (J.go i H ∧ ∃ Nx : Hp → Prop, (∀ H', Nx H' → ∃ m', m' < m ∧ Wv (i + 1) m' H') ∧ ∀ x H', J.yld i H x H' → gT K t x (wipe σ (own.map (·.2))) H' fun σ2 H2 => wipe σ2 (own.map (·.2)) = wipe σ (own.map (·.2)) ∧ tC2 P c ow [] σ2 H2 fun z H3 =>
      if z = true then tE P c ow noW a σ2 H3 fun y H4 => tE P c ow noW v σ2 H4 fun u H5 => ∃ H6, DPut H5 D y u H6 ∧ Nx H6 else Nx H3) := by
  intro D hD
  have dF : ¬ W.F D := fun z => rel.sto.wf.fs D z hD
  have dι : D ∉ W.ι := fun z => rel.sto.wf.is D z hD
  let Iv : Nat → Hp → Prop := fun i H' => i ≤ ds.length ∧ ∃ W' M' acc o, G W H W' H' ∧ StoR P W' M' H' ∧ ¬ W'.F D ∧ D ∉ W'.ι ∧ H' D = some o ∧ DctR P W' H' b acc o ∧ acc.length ≤ i ∧
    (dcompL b (evE c a) (evE c v) t (ds.drop i) ρ M' acc).sat (fun q => PF P W H Q (.dct b q.1, q.2)) (fun _ _ => True)
  refine ⟨fun i m H' => m = ds.length - i ∧ Iv i H', ⟨_, rfl, Nat.zero_le _, W, M, [], dO b, G.grow hD, rel.sto.grow hD, dF, dι, upd_same .., dO_empty b, Nat.le_refl _, by simpa using hs⟩, ?_⟩
  rintro i m H1 ⟨rfl, hi, W1, M1, acc, o, g1, s1, nF, nι, hd, dr, hln, hc⟩
  by_cases hlt : i < ds.length
  · obtain ⟨go, yl⟩ := wk.go W1 H1 M1 i g1 s1 hlt
    refine .inr ⟨go, Iv (i + 1), fun H' h' => ⟨_, by omega, rfl, h'⟩, fun x H' y => ?_⟩
    obtain ⟨W2, gy, s2, d, hd1, rp⟩ := yl x H' y
    have d2 : H' D = some o := gy.kp _ _ hd nι nF
    have nF2 := gy.nF (some_ne hd) nF
    have nι2 := gy.ni (some_ne hd) nι
    have g2 := g1.trans gy
    rw [List.drop_eq_getElem_cons hlt] at hc
    have ed : ds[i] = d := by
      rw [List.getElem?_eq_getElem hlt] at hd1
      exact Option.some.inj hd1
    rw [ed] at hc
    obtain ⟨ρ', e1, hc⟩ := dcompL_cons hc
    have rel1 := rel.g g2 s2
    obtain ⟨τ, r2, l2, k2⟩ := rel1.wiped (vs := own.map (·.2)) (by rw [ho]; exact hw)
    refine gT_ok hK r2 hw rp (putT_agree e1 (by rw [← ho]; exact k2) l2) fun σ2 r3 l3 k3 => ⟨wipe_same (by rw [l3, wipe_length]) (by rw [ho] at k3 ⊢; exact k3), ?_⟩
    refine ⟨W2, ρ', M1, r3, ?_⟩
    show ∀ W' H'', G W2 H' W' H'' → StoR P W' M1 H'' → _
    intro W3 H3 g3 s3
    rw [if_pos rfl]
    refine ⟨W3, ρ', M1, r3.g g3 s3, R.sat_mono hc (fun r hr => ?_) fun _ _ h => h.elim⟩
    intro W4 yk H4 g4 s4 r4
    have g24 := g3.trans g4
    refine ⟨W4, ρ', r.2, r3.g g24 s4, R.sat_mono hr (fun q hq => ?_) fun _ _ h => h.elim⟩
    intro W5 yv H5 g5 s5 r5
    obtain ⟨ok, hq⟩ := hq
    have g25 := g24.trans g5
    have d5 : H5 D = some o := g25.kp _ _ d2 nι2 nF2
    have nF5 := g25.nF (some_ne d2) nF2
    have nι5 := g25.ni (some_ne d2) nι2
    have g15 := gy.trans g25
    have dr5 := dr.gw (g15.w s1.wf)
    obtain ⟨o', dp, dr6⟩ := dput ok ((r4.strict na).g g5 s4.wf).r (r5.strict nv) (by omega) d5 dr5
    have nt := nt_do d5 (dctR_do dr5).1
    refine ⟨_, dp, hlt, W5, q.2, keyPut acc r.1 q.1, o', (g1.trans g15).upd hD, s5.upd nF5 nι5 nt, nF5, nι5, upd_same .., dr6.gw (upd_gw nF5 nt), ?_, hq⟩
    have := keyPut_len acc r.1 q.1
    omega
  · have e : i = ds.length := by omega
    subst e
    refine .inl ⟨wk.stop W1 H1 _ g1 (Nat.le_refl _), ?_⟩
    rw [List.drop_length] at hc
    have hc : PF P W H Q (.dct b acc, M1) := hc
    obtain ⟨vs, a1, a2, a3⟩ := dr
    exact hc W1 _ H1 g1 s1 ⟨D, rfl, hD, nF, nι, o, vs, hd, a1, a2, a3⟩
theorem x_dcomp {b : Bool} {t : Tg} {a v it : E} {kx vx tg iter : Expr} {scope : Scope} {own : List (Str × Nat)} (ok : CtxOk g P c n X w) (hb : blkC X.N X.env.scope scope own = true) (ho : ownOf t tg = some own) (hw : ∀ i ∈ slots t, i ∉ ow) (hset : notSet iter = true) (hi : PI X tg iter (tI G P c ow w it))
    (ht : chkG (cellB scope) X.N (relS scope X.env.scope) t tg = true) (na : isBor a = false) (nv : isBor v = false)
    (hc : ∀ X' : Cx, CtxOk g P c n X' noW → X'.N = X.N → X'.env.scope = relS scope X.env.scope → PEE P c ow noW X' kx a ∧ PEE P c ow noW X' vx v) :
    PE X (.DictComp kx vx [⟨tg, iter, [], 0⟩] scope pos) (tF P c ow w (.dcomp b a v t it)) := by
  refine pe_imp (pe_dx (o0 := dO b) (g := gT X.K t) (tt := tC2 P c ow []) (tk := tE P c ow noW a) (tv := tE P c ow noW v) (by cases b <;> simp [dO]) (by have := ok.hu; omega) ok.calm ok.nd hi (blkOk_by hb) (fun s H C cl fp => pg_tgt (ok.blk ..) (fb := cellB scope) (fun x h => h) ht)
    (fun s H C cl fp => pts_cs (cs := []) (ifs := []) trivial) (fun s H C cl fp => (hc _ (ok.blk ..) rfl rfl).1) (fun s H C cl fp => (hc _ (ok.blk ..) rfl rfl).2) (notSet_fold hset _)) fun σ H Q h => ?_
  obtain ⟨W, ρ, M, rel, hs⟩ := h
  rw [evE, R.sat_bind] at hs
  refine ⟨W, ρ, M, rel, R.sat_mono hs (fun r hr => ?_) fun _ _ h => h⟩
  cases e : itemsW it r.1 with
  | none => rw [e] at hr; exact hr.elim
  | some ds =>
    rw [e] at hr
    refine ⟨ds, rfl, fun W1 H1 J g1 s1 wk => ?_⟩
    have hr : (if ds.length ≤ SZ then (dcompL b (evE c a) (evE c v) t ds ρ r.2 []).bind fun q => .ok (.dct b q.1, q.2) else .bad : R (D × Sto)).sat (PF P W H Q) (Xk P W H w σ) := hr
    split at hr
    · rename_i hl
      rw [R.sat_bind] at hr
      exact dcomp_turns ok.hK (rel.g g1 s1) (ownOf_slots ho) hw hl wk na nv (R.sat_mono hr (fun q hq W' v H' g' s' rf => hq W' v H' (g1.trans g') s' (repF_g g1 rf)) fun _ _ _ => trivial)
    · exact hr.elim
end
end Ev
set_option Elab.async false
set_option linter.all false
set_option autoImplicit false
set_option maxRecDepth 100000
set_option maxHeartbeats 4000000
namespace Ev
open PySem PySem.Spec PyProof.Rows L2
def rSetB : TSet := fun o i v H Q => rSetL o i v H Q ∨ rSetD o i v H Q
theorem set_box {X : Cx} (hu : X.A.units + 1 < cLine) : PSet X rSetB := by
  intro pins s σ H o i v ov iv u Q I ro ri rv h
  rcases h with h | h
  · exact set_list pins s σ H o i v ov iv u Q I ro ri rv h
  · exact set_dict hu pins s σ H o i v ov iv u Q I ro ri rv h
theorem KT.drop {H : Hp} {kvs : List (List Key × V)} {xs : List (List Key × Addr × Value)} (r : KT H kvs xs) (k : List Key) : KT H (dropK kvs k) (withoutH xs k) := by
  unfold dropK withoutH
  induction r with
  | nil => exact .nil
  | @cons p q ps qs h t ih =>
    rw [List.filter_cons, List.filter_cons, h.1]
    by_cases z : p.1 = k
    · rw [if_neg (by rw [← h.1]; simp [z]), if_neg (by rw [← h.1]; simp [z])]
      exact ih
    · rw [if_pos (by rw [← h.1]; simp [z]), if_pos (by rw [← h.1]; simp [z])]
      exact .cons h ih
def rPopK : V → List V → Hp → VK → Prop := fun x vs H Q => ∃ a, x = .ref a ∧ ((∃ kvs k v, H a = some (.dK kvs) ∧ vs = [kV k] ∧ valV kvs k = some v ∧ Q v (upd H a (.dK (dropK kvs k)))) ∨
  ∃ kvs ks b v, H a = some (.dT kvs) ∧ vs = [.ref b] ∧ H b = some (.tup (ks.map kV)) ∧ valV kvs ks = some v ∧ Q v (upd H a (.dT (dropK kvs ks))))
theorem mt_popK {X : Cx} (hu : X.A.units + 1 < cLine) : MtM X "dict.pop" rPopK := by
  intro pins s σ H x vs v us Q I rx rv h
  obtain ⟨a, rfl, h⟩ := h
  cases rx
  rcases h with ⟨kvs, k, y, hH, rfl, hv, q⟩ | ⟨kvs, k, b, y, hH, rfl, hb, hv, q⟩
  · obtain ⟨u, rfl, ru⟩ := rv.one
    exact d_pop I hH ru hv (.inl rfl) fun w' s' I' rw' => ⟨y, _, I', rw', q⟩
  · obtain ⟨u, rfl, ru⟩ := rv.one
    cases ru
    obtain ⟨z, hd, xs, rel, dd⟩ := dt_of I.hok hH
    have q0 := rel.val k
    rw [hv] at q0
    cases hp : atKey xs k with
    | none => rw [hp] at q0; exact (show False from q0).elim
    | some pp =>
      rw [hp] at q0
      have hz : xs.length ≤ sizeLine := by rw [← Paired.length rel]; exact z
      have hl : (dropK kvs k).length ≤ sizeLine := Nat.le_trans (dropK_le kvs k) z
      refine call_pop_heap (.inl rfl) (PySem.F.args_dict_pop_2 _ _) (tupleKind_room_in1 hu) (key_of I.hok hb) hd dd hp (fun h' dd' hs => ?_) hz
      obtain ⟨q', es, ep, hq, h2, h3, h4, _, h5⟩ := dd'
      refine ⟨y, upd H a (.dT (dropK kvs k)), d_write (ob := .dT (dropK kvs k)) I (by rw [hH]; exact True.intro) hs ⟨q', hq⟩ ⟨hl, hd, _, (KT.drop rel k).keeps fun c ys ec => ?_, q', es, ep, hq, h2, h3, h4, h5⟩, q0, q⟩
      rw [upd_ne (ne_of ec hH (fun z => nomatch z))]
      exact ec
def rUpd : V → List V → Hp → VK → Prop := fun x vs H Q => ∃ a b kvs more, x = .ref a ∧ vs = [.ref b] ∧ a ≠ b ∧ H a = some (.dK kvs) ∧ Rd H b (.dK more) ∧ kvs.length + more.length ≤ sizeLine ∧ Q .non (upd H a (.dK (mergeK kvs more)))
theorem mt_upd {X : Cx} : MtM X "dict.update" rUpd := by
  intro pins s σ H x vs v us Q I rx rv h
  obtain ⟨a, b, kvs, more, rfl, rfl, ne, hH, hB, hz, q⟩ := h
  cases rx
  obtain ⟨u, rfl, ru⟩ := rv.one
  cases ru
  obtain ⟨z, hd, xs, rel, dd⟩ := dk_of I.hok hH
  obtain ⟨z2, hd2, ys, rel2, dd2⟩ := dk_rd I.hok hB
  have hl : (mergeK kvs more).length ≤ sizeLine := by
    have := length_mergeK more kvs
    omega
  refine call_meetsIn PySem.F.slot_dict_update dd.typeIs PySem.F.entry_dict_update (PySem.F.args_dict_update_2 _ _) (meets_dict_update (mixKind X.prog X.w) a b ne hd2)
    ⟨xs, ys, dd, dd2, by rw [← rel.length, ← rel2.length]; exact hz, fun h' dd' _ hs => ?_⟩
  have he : ∃ q, h'.get? a = some q := let ⟨q, _, _, hq, _⟩ := dd'; ⟨q, hq⟩
  exact ⟨.non, _, d_write I (by rw [hH]; exact True.intro) hs he (dk_new hl hd (rel2.merge rel) dd'), rfl, q⟩
def rMu : Mu → V → List V → Hp → VK → Prop
  | .append => rAppend
  | .extend => rExtend
  | .pop => rPop
  | .popAt => rPopAt
  | .popK => rPopK
  | .upd => rUpd
  | .put => fun _ _ _ _ => False
structure MuOk (X : Cx) (m : Mu) : Prop where
  pa : PlainAttrs (muT m)
  sl : Slot (muT m) (muN m) (muI m)
  ty : typeOf (.builtin (muI m)) = pure (.type "method_descriptor")
  mt : MtM X (muI m) (rMu m)
theorem mu_k {X : Cx} (hu : X.A.units + 1 < cLine) : ∀ m : Mu, m ≠ .put → MuOk X m
  | .append, _ => ⟨F.plainAttrs_list, F.slot_list_append, F.type_list_append, mt_append⟩
  | .extend, _ => ⟨F.plainAttrs_list, F.slot_list_extend, F.type_list_extend, mt_extend⟩
  | .pop, _ => ⟨F.plainAttrs_list, F.slot_list_pop, F.type_list_pop, mt_pop⟩
  | .popAt, _ => ⟨F.plainAttrs_list, F.slot_list_pop, F.type_list_pop, mt_popAt⟩
  | .popK, _ => ⟨F.plainAttrs_dict, F.slot_dict_pop, F.type_dict_pop, mt_popK hu⟩
  | .upd, _ => ⟨F.plainAttrs_dict, F.slot_dict_update, F.type_dict_update, mt_upd⟩
  | .put, h => (h rfl).elim
def muAs (P : Par) (W : Wd) (H : Hp) (m : Mu) (as : List D) (vs : List V) : Prop := if muLet m = true then RepRs P W H as vs else Reps P W H as vs
section
variable {P : Par} {W : Wd} {H : Hp} {p : Addr} {d d' y : D} {m : Mu} {as : List D} {vs : List V}
theorem ixN_eq {n : Nat} {i : Int} {k : Nat} (h : ixN n i = some k) (hn : n ≤ SZ) : -(2 ^ 63) ≤ i ∧ i < 2 ^ 63 ∧ seqIndex? i n = some k := by
  have hz : (SZ : Int) < 2 ^ 62 := by decide
  unfold ixN at h
  unfold seqIndex?
  split at h
  · rename_i h0
    split at h
    · rename_i h1
      refine ⟨by omega, by omega, ?_⟩
      cases h
      have e : ¬ i < 0 := by omega
      simp only [e, if_false]
      rw [if_pos (by simp only [Bool.and_eq_true, decide_eq_true_eq]; omega)]
    · cases h
  · rename_i h0
    split at h
    · rename_i h1
      refine ⟨by omega, by omega, ?_⟩
      cases h
      have e : i < 0 := by omega
      simp only [e, if_true]
      rw [if_pos (by simp only [Bool.and_eq_true, decide_eq_true_eq]; omega)]
    · cases h
theorem merge_ok : ∀ {more : List (D × D)} {ms : List (Key × V)} {kvs : List (D × D)} {m : List (Key × V)}, more.map (·.1) = ms.map (fun p => kD p.1) → RepPs P W H more (ms.map (·.2)) → (∀ k ∈ more.map (·.1), kOk false k) →
    kvs.map (·.1) = m.map (fun p => kD p.1) → RepPs P W H kvs (m.map (·.2)) → (∀ k ∈ kvs.map (·.1), kOk false k) →
    (more.foldl (fun a p => keyPut a p.1 p.2) kvs).map (·.1) = (mergeK m ms).map (fun p => kD p.1) ∧ RepPs P W H (more.foldl (fun a p => keyPut a p.1 p.2) kvs) ((mergeK m ms).map (·.2)) ∧ (∀ k ∈ (more.foldl (fun a p => keyPut a p.1 p.2) kvs).map (·.1), kOk false k) ∧ (more.foldl (fun a p => keyPut a p.1 p.2) kvs).length ≤ kvs.length + more.length
  | [], [], kvs, m, _, _, _, h, r, k => ⟨h, r, k, Nat.le_refl _⟩
  | [], _ :: _, _, _, h, _, _, _, _, _ => by simp at h
  | _ :: _, [], _, _, h, _, _, _, _, _ => by simp at h
  | (a, d) :: more, (j, v) :: ms, kvs, m, h, r, ok, h2, r2, ok2 => by
    simp only [List.map_cons, List.cons.injEq] at h
    obtain ⟨rfl, h⟩ := h
    obtain ⟨v', r', e, hv, hr⟩ := r
    simp only [List.map_cons, List.cons.injEq] at e
    obtain ⟨rfl, rfl⟩ := e
    obtain ⟨q1, q2⟩ := key_put kD deq_kD j hv h2 r2
    have ok3 : ∀ k ∈ (keyPut kvs (kD j) d).map (·.1), kOk false k := fun k hk => by
      rcases keyPut_mem hk with hk | rfl
      · exact ok2 k hk
      · exact ok _ (by simp)
    obtain ⟨i1, i2, i3, i4⟩ := merge_ok h hr (fun k hk => ok k (by simp only [List.map_cons]; exact List.mem_cons_of_mem _ hk)) q1 q2 ok3
    refine ⟨i1, i2, i3, ?_⟩
    have := keyPut_len kvs (kD j) d
    show (more.foldl (fun a p => keyPut a p.1 p.2) (keyPut kvs (kD j) d)).length ≤ _
    rw [List.length_cons]
    omega
theorem mu_ok (nF : ¬ W.F p) (hb : BoxAt P W H p d) (e : muD m d as = some (y, d')) (hm : m ≠ .put) (ra : muAs P W H m as vs) :
    ∃ o' yv, (∀ Q : VK, Q yv (upd H p o') → rMu m (.ref p) vs H Q) ∧ BoxAt P W (upd H p o') p d' ∧ Rep P W (upd H p o') y yv := by
  have gw : ∀ o, Gw W H W (upd H p o) := fun o => upd_gw nF hb.nt
  unfold muD at e
  split at e
  · split at e
    · rename_i xs a hz
      cases e
      obtain ⟨v, r, rfl, rv, rn⟩ := (show Reps P W H [a] vs from ra)
      obtain rfl := rn
      obtain ⟨zs, e1, e2, e3⟩ := hb
      refine ⟨.lst (zs ++ [v]), .non, fun Q q => ⟨p, zs, v, rfl, rfl, e1, by rw [e3.length, ← SZ_line]; exact hz, q⟩, ⟨_, upd_same .., ?_, (e3.append (Reps.cons rv Reps.nil)).gw (gw _)⟩, rfl⟩
      rw [List.length_append, List.length_singleton]; omega
    · cases e
  · split at e
    · rename_i xs ys hz
      cases e
      obtain ⟨v, r, rfl, rv, rn⟩ := (show RepRs P W H [.lst ys] vs from ra)
      obtain rfl := rn
      obtain ⟨b, ws, rfl, eb, hlb, rb⟩ := rv
      obtain ⟨zs, e1, e2, e3⟩ := hb
      refine ⟨.lst (zs ++ ws), .non, fun Q q => ⟨p, b, zs, ws, rfl, rfl, e1, eb, by rw [e3.length, rb.length, ← SZ_line]; exact hz, q⟩, ⟨_, upd_same .., ?_, (e3.append rb).gw (gw _)⟩, rfl⟩
      rw [List.length_append]; exact hz
    · cases e
  · rename_i xs
    obtain rfl := (show Reps P W H [] vs from ra)
    obtain ⟨zs, e1, e2, e3⟩ := hb
    rw [List.getLast?_eq_getElem?] at e
    cases q1 : xs[xs.length - 1]? with
    | none => rw [q1] at e; cases e
    | some x =>
      rw [q1] at e
      cases e
      obtain ⟨v, hv, rv⟩ := e3.get q1
      refine ⟨.lst zs.dropLast, v, fun Q q => ⟨p, zs, v, rfl, rfl, e1, by rw [e3.length]; exact hv, q⟩, ⟨_, upd_same .., ?_, e3.dropLast.gw (gw _)⟩, rv.gw (gw _)⟩
      rw [List.length_dropLast]; omega
  · rename_i xs i
    obtain ⟨v, r, rfl, rv, rn⟩ := (show Reps P W H [.int i] vs from ra)
    obtain rfl := rn
    obtain rfl := rv
    obtain ⟨zs, e1, e2, e3⟩ := hb
    cases q1 : ixN xs.length i with
    | none => rw [q1] at e; cases e
    | some k =>
      rw [q1] at e
      have e : (xs[k]?).map (fun y => (y, D.lst (xs.eraseIdx k))) = some (y, d') := e
      cases q2 : xs[k]? with
      | none => rw [q2] at e; cases e
      | some x =>
        rw [q2] at e
        cases e
        obtain ⟨v, hv, rv⟩ := e3.get q2
        obtain ⟨b1, b2, b3⟩ := ixN_eq q1 e2
        refine ⟨.lst (zs.eraseIdx k), v, fun Q q => ⟨p, zs, i, k, v, rfl, rfl, e1, b1, b2, by rw [e3.length]; exact b3, hv, q⟩, ⟨_, upd_same .., ?_, (e3.eraseIdx k).gw (gw _)⟩, rv.gw (gw _)⟩
        have := len_erase xs k
        omega
  · exact (hm rfl).elim
  · exact (hm rfl).elim
  · rename_i t kvs k
    split at e
    · rename_i hk
      obtain ⟨v, r, rfl, rv, rn⟩ := (show Reps P W H [k] vs from ra)
      obtain rfl := rn
      obtain ⟨o, us, e1, dc, e2, rp⟩ := hb
      rcases key_cases hk with ⟨rfl, hk2⟩ | ⟨ks, rfl, rfl, hk2⟩
      · obtain ⟨mm, rfl, hks, rfl⟩ := dctK dc
        obtain ⟨kk, rfl, rfl, _⟩ := sc_key hk2 rv.r
        rcases key_find kD deq_kD kk hks rfl rp with ⟨q1, q2⟩ | ⟨x, xv, q1, q2, q3⟩
        · rw [q1] at e; cases e
        · rw [q1] at e
          cases e
          obtain ⟨i1, i2⟩ := key_drop kD deq_kD kk hks rp
          refine ⟨.dK (dropK mm kk), xv, fun Q q => ⟨p, rfl, .inl ⟨mm, kk, xv, e1, rfl, q2, q⟩⟩, ⟨_, _, upd_same .., ⟨fun j hj => dc.1 j (keyDrop_mem hj), _, rfl, i1, rfl⟩, ?_, i2.gw (gw _)⟩, q3.gw (gw _)⟩
          have := List.length_filter_le (fun p => !deq p.1 (kD kk)) kvs
          unfold keyDrop
          omega
      · obtain ⟨mm, rfl, hks, rfl⟩ := dctT dc
        obtain ⟨b, kk, rfl, hb, ek, _⟩ := tup_key hk2 rv.r
        rw [ek] at e
        rcases key_find kT deq_kT kk hks rfl rp with ⟨q1, q2⟩ | ⟨x, xv, q1, q2, q3⟩
        · rw [q1] at e; cases e
        · rw [q1] at e
          cases e
          obtain ⟨i1, i2⟩ := key_drop kT deq_kT kk hks rp
          refine ⟨.dT (dropK mm kk), xv, fun Q q => ⟨p, rfl, .inr ⟨mm, kk, b, xv, e1, rfl, hb, q2, q⟩⟩, ⟨_, _, upd_same .., ⟨fun j hj => dc.1 j (keyDrop_mem hj), _, rfl, i1, rfl⟩, ?_, i2.gw (gw _)⟩, q3.gw (gw _)⟩
          have := List.length_filter_le (fun p => !deq p.1 (kT kk)) kvs
          unfold keyDrop
          omega
    · cases e
  · rename_i t kvs s more
    split at e
    · rename_i hk
      cases e
      simp only [Bool.and_eq_true, Bool.not_eq_true', decide_eq_true_eq] at hk
      obtain ⟨⟨rfl, rfl⟩, hz⟩ := hk
      obtain ⟨v, r, rfl, rv, rn⟩ := (show Reps P W H [.dct false more] vs from ra)
      obtain rfl := rn
      obtain ⟨b, o2, us2, rfl, bF, e4, dc2, e5, rp2⟩ := rv
      obtain ⟨o, us, e1, dc, e2, rp⟩ := hb
      have ne : p ≠ b := fun z => nF (z ▸ bF)
      obtain ⟨mm, rfl, hks, rfl⟩ := dctK dc
      obtain ⟨ms, rfl, hks2, rfl⟩ := dctK dc2
      obtain ⟨i1, i2, i3, i4⟩ := merge_ok hks2 rp2 dc2.1 hks rp dc.1
      have l1 : mm.length = kvs.length := by simpa using (congrArg List.length hks).symm
      have l2 : ms.length = more.length := by simpa using (congrArg List.length hks2).symm
      exact ⟨.dK (mergeK mm ms), .non, fun Q q => ⟨p, b, mm, ms, rfl, rfl, ne, e1, e4, by rw [l1, l2, ← SZ_line]; exact hz, q⟩, ⟨_, _, upd_same .., ⟨i3, _, rfl, i1, rfl⟩, by omega, i2.gw (gw _)⟩, rfl⟩
    · cases e
  · cases e
theorem put_ok {iv u : V} {k v : D} (nF : ¬ W.F p) (hb : BoxAt P W H p d) (e : muD .put d [k, v] = some (y, d')) (rk : RepR P W H k iv) (rv : Rep P W H v u) :
    ∃ o', (∀ Q : Hp → Prop, Q (upd H p o') → rSetB (.ref p) iv u H Q) ∧ BoxAt P W (upd H p o') p d' := by
  have gw : ∀ o, Gw W H W (upd H p o) := fun o => upd_gw nF hb.nt
  cases d with
  | lst xs =>
    cases k with
    | int i =>
      have e : (ixN xs.length i).map (fun k => (D.non, D.lst (xs.set k v))) = some (y, d') := e
      cases q1 : ixN xs.length i with
      | none => rw [q1] at e; cases e
      | some k =>
        rw [q1] at e
        cases e
        obtain rfl : iv = .int i := rk
        obtain ⟨zs, e1, e2, e3⟩ := hb
        exact ⟨.lst (zs.set k u), fun Q q => .inl ⟨p, zs, i, k, rfl, rfl, e1, by rw [e3.length]; exact q1, q⟩, ⟨_, upd_same .., by rw [List.length_set]; exact e2, (Reps.set rv k e3).gw (gw _)⟩⟩
    | _ => cases (show (none : Option (D × D)) = some (y, d') from e)
  | dct t kvs =>
    have e : (if keyOk t k && decide (kvs.length < SZ) then some (D.non, D.dct t (keyPut kvs k v)) else none) = some (y, d') := e
    split at e
    · rename_i hk
      cases e
      rw [Bool.and_eq_true, decide_eq_true_eq] at hk
      obtain ⟨o, us, e1, dc, e2, rp⟩ := hb
      obtain ⟨o', q1, ⟨us', q2, q3, q4⟩⟩ := dput hk.1 rk rv hk.2 e1 ⟨us, dc, e2, rp⟩
      exact ⟨o', fun Q q => .inr ⟨p, _, rfl, q1, q⟩, ⟨o', us', upd_same .., q2, q3, q4.gw (gw _)⟩⟩
    · cases e
  | _ => cases (show (none : Option (D × D)) = some (y, d') from e)
theorem mu_ty {K : PySem.W.Frag} (hb : BoxAt P W H p d) (f : muFit m d = true) (hm : m ≠ .put) : tyV K (muT m) (.ref p) H := by
  have hl : ∀ {ds : List D}, d = .lst ds → ∃ xs, SqL K H p xs := fun {ds} e => by
    subst e
    obtain ⟨zs, e1, _⟩ := hb
    exact ⟨zs, .inl (.inl e1)⟩
  have hd : ∀ {t : Bool} {kvs : List (D × D)}, d = .dct t kvs → (∃ kvs, H p = some (.dK kvs)) ∨ ∃ kvs, H p = some (.dT kvs) := fun {t kvs} e => by
    subst e
    obtain ⟨o, us, e1, dc, _⟩ := hb
    cases t with
    | false =>
      obtain ⟨mm, rfl, _⟩ := dctK dc
      exact .inl ⟨_, e1⟩
    | true =>
      obtain ⟨mm, rfl, _⟩ := dctT dc
      exact .inr ⟨_, e1⟩
  cases m <;> cases d <;> first | cases f; done | exact .inl ⟨rfl, hl rfl⟩ | exact .inr (.inr (.inl ⟨rfl, hd rfl⟩)) | exact (hm rfl).elim
theorem mu_ne {m : Mu} {as : List E} {es : List Expr} (h : muB m as es = true) : m ≠ .put ∧ (muLet m = true ∨ (as.all fun a => !isBor a) = true) := by
  unfold muB at h
  simp only [Bool.and_eq_true, Bool.not_eq_true', decide_eq_false_iff_not, Bool.or_eq_true] at h
  exact ⟨h.1.1, h.2⟩
end
section
variable {P : Par} {c : Call} {ow : List Nat} {w : WX} {g : Cfg} {n : Nat} {X : Cx} {pos : Pos}
def tMu (K : PySem.W.Frag) (m : Mu) (to : TE) (t : TA) : TE := fun σ H Q => to σ H fun x H1 => tyV K (muT m) x H1 ∧ t σ H1 fun xs H2 => rMu m x xs H2 Q
theorem tE_mono {a : E} {σ : L2.St} {H : Hp} {Q Q' : VK} (h : tE P c ow w a σ H Q) (k : ∀ x H1, Q x H1 → Q' x H1) : tE P c ow w a σ H Q' := by
  obtain ⟨W, ρ, M, rel, hs⟩ := h
  exact ⟨W, ρ, M, rel, R.sat_mono hs (fun r hr W' v H' g1 s1 r1 => k _ _ (hr W' v H' g1 s1 r1)) fun _ _ h => h⟩
theorem tAs_nil {σ : L2.St} {H : Hp} {Q : List V → Hp → Prop} (h : tAs P c ow w [] σ H Q) : Q [] H := by
  obtain ⟨W, ρ, M, rel, hs⟩ := h
  rw [evEs] at hs
  exact (show ∀ W' vs H', G W H W' H' → StoR P W' M H' → RepQs P W' H' [] [] vs → Q vs H' from hs) W [] H .refl rel.sto ⟨rfl, rfl⟩
theorem pe_mu {m : Mu} (hu : X.A.units + 1 < cLine) {o : Expr} {es : List Expr} {apos : Pos} {to : TE} {as : List E} (h : muB m as es = true) (h0 : notCall0 o = true) (hl : (apos.endLine == pos.line) = true) (ho : PE X o to) (mono : ∀ σ H Q Q', to σ H Q → (∀ x H1, Q x H1 → Q' x H1) → to σ H Q') (hst : (es.all notStar) = true) (ha : PA X es (tAs P c ow w as)) (hle : as.length = es.length) :
    PE X (.Call (.Attribute o (muN m) apos) es [] pos) (tMu X.K m to (tAs P c ow w as)) := by
  have k := mu_k (X := X) hu m (mu_ne h).1
  match es, as, h, hst, ha, hle with
  | [], [], _, _, _, _ => exact pe_imp (pe_bm0 k.pa k.sl k.ty k.mt ho (notCall0_of h0 _ _) hl) fun σ H Q q => mono _ _ _ _ q fun x H1 q1 => ⟨q1.1, tAs_nil q1.2⟩
  | [e], _, _, hst, ha, _ =>
    have hst : notStar e = true := by simpa using hst
    exact pe_bm k.pa k.sl k.ty k.mt ho ha (notCall0_of h0 _ _) (by rw [notStar_of hst]; rfl) hl (notStar_of hst _ _) rfl
  | _ :: _ :: _, _, h, _, _, _ => simp [muB] at h
theorem muFitM_of {m : Mu} {M : Sto} {d : D} (h : muFitM m M d = true) : ∃ k u, d = .obj k ∧ M[k]? = some (.val u) ∧ muFit m u = true := by
  unfold muFitM at h
  split at h
  · split at h
    · rename_i q
      exact ⟨_, _, rfl, q, h⟩
    · cases h
  · cases h
theorem muAs_of {W : Wd} {H : Hp} {M : Sto} {m : Mu} {as : List E} {ds : List D} {vs : List V} (s : StoR P W M H) (h : muLet m = true ∨ (as.all fun a => !isBor a) = true) (r : RepQs P W H as ds vs) : muAs P W H m (muArg m M ds) vs := by
  unfold muAs
  cases m <;> first | exact r.r s | exact r.strict (h.resolve_left Bool.false_ne_true)
theorem x_mu {m : Mu} {a : E} {as : List E} {o : Expr} {es : List Expr} {apos : Pos} (ok : CtxOk g P c n X w) (h : muB m as es = true) (h0 : notCall0 o = true) (hl : (apos.endLine == pos.line) = true) (nb : isBor a = false) (ho : PEE P c ow w X o a) (hst : (es.all notStar) = true) (ha : PA X es (tAs P c ow w as)) (hle : as.length = es.length) :
    PEE P c ow w X (.Call (.Attribute o (muN m) apos) es [] pos) (.mu m a as) := by
  obtain ⟨hm, hlet⟩ := mu_ne h
  refine pe_imp (pe_mu (by have := ok.hu; omega) h h0 hl ho (fun σ H Q Q' q k => tE_mono q k) hst ha hle) fun σ H Q ⟨W, ρ, M, rel, hs⟩ => ?_
  rw [evE, R.sat_bind] at hs
  refine ⟨W, ρ, M, rel, R.sat_mono hs (fun q hq => ?_) fun _ _ h => h⟩
  intro W1 x H1 g1 s1 r1
  cases z : muFitM m q.2 q.1 with
  | false => rw [if_pos z] at hq; exact hq.elim
  | true =>
    rw [if_neg (by rw [z]; decide), R.sat_bind] at hq
    obtain ⟨k, u, ek, eu, fit⟩ := muFitM_of z
    have rs := r1.strict nb
    rw [ek] at rs
    obtain ⟨p, rfl, ep⟩ := rs
    obtain ⟨p', ep', hb⟩ := s1.at_ k _ eu
    rw [ep] at ep'
    cases ep'
    refine ⟨mu_ty hb fit hm, W1, ρ, q.2, rel.g g1 s1, R.sat_mono hq (fun r hr => ?_) fun _ _ h => h.g g1⟩
    intro W2 vs H2 g2 s2 r2
    have ep2 := g2.ix ep
    rw [ek] at hr
    unfold muM at hr
    cases e2 : r.2[k]? with
    | none => simp only [e2] at hr; exact hr.elim
    | some o2 =>
      cases o2 with
      | ins _ _ => simp only [e2] at hr; exact hr.elim
      | val u2 =>
        simp only [e2] at hr
        cases e3 : muD m u2 (muArg m r.2 r.1) with
        | none => rw [e3] at hr; exact hr.elim
        | some zz =>
          rw [e3] at hr
          have hr : PQ P W H (.mu m a as) Q (zz.1, r.2.set k (.val zz.2)) := hr
          obtain ⟨p'', ep'', hb2⟩ := s2.at_ k _ e2
          rw [ep2] at ep''
          cases ep''
          have nF : ¬ W2.F p := fun z => s2.wf.fi p z (List.mem_of_getElem? ep2)
          obtain ⟨o', yv, hQ, hb3, ry⟩ := mu_ok nF hb2 e3 hm (muAs_of s2 hlet r2)
          obtain ⟨s3, g3⟩ := sto_ok s2 e2 ep2 hb3
          exact hQ _ (hr W2 yv _ (g1.trans (g2.trans g3)) s3 (.of ry))
end
end Ev
set_option Elab.async false
set_option linter.all false
set_option autoImplicit false
set_option maxRecDepth 100000
set_option maxHeartbeats 4000000
namespace Ev
open PySem PySem.Spec PyProof.Rows L2
section
variable {P : Par} {c : Call} {ow : List Nat} {g : Cfg} {n : Nat}
theorem S'_of (x : Str) : S' x.cps.toList = x := by
  cases x
  simp [S']
theorem noI {a : E} (h : ∀ N ow sc tt x, chkI g N ow sc tt a x = false) : ∀ (X : Cx) (w : WX) (x tg : Expr), CtxOk g P c n X w → chkI g X.N ow X.env.scope (isTupX tg) a x = true → ∀ T, (∀ W H W' H', Wf W H → T W H W' H' → Gw W H W' H') → PI X tg x (tI T P c ow w a) := fun X w x tg _ hx => by
  rw [h] at hx; cases hx
theorem triE {X : Cx} {w : WX} {x : Expr} {a : E} (q : PEE P c ow w X x a) (nn : isNew a = false) (he : ∀ whole, isTrue x X.env whole = (do let v ← whole; standAt x.pos; holding [v] (truthy v))) (nb : ∀ op es p, x ≠ .BoolOp op es p) :
    PE X x (tX P c ow w a) ∧ (tstB a = true → PTT P c ow w X x a) ∧ ∀ op es p, x = .BoolOp op es p → PEE P c ow w X x a ∧ (tstB a = true → PW X x (tT P c ow w a)) := ⟨ofE q nn, fun _ => t_val q he, fun op es p e => (nb op es p e).elim⟩
theorem triF {X : Cx} {w : WX} {x : Expr} {a : E} (q : PE X x (tF P c ow w a)) (nn : isNew a = true) (he : ∀ whole, isTrue x X.env whole = (do let v ← whole; standAt x.pos; holding [v] (truthy v))) (nb : ∀ op es p, x ≠ .BoolOp op es p) :
    PE X x (tX P c ow w a) ∧ (tstB a = true → PTT P c ow w X x a) ∧ ∀ op es p, x = .BoolOp op es p → PEE P c ow w X x a ∧ (tstB a = true → PW X x (tT P c ow w a)) := ⟨ofF q nn, fun _ => t_val (toE (ofF q nn)) he, fun op es p e => (nb op es p e).elim⟩
theorem s_var (i : Nat) : Snd P c ow g n (.var i) := by
  refine .of (fun X w x ok hx => ?_) (noI fun _ _ _ _ _ => by simp [chkI])
  unfold chkE at hx
  split at hx
  · simp only [Bool.and_eq_true, Bool.not_eq_true'] at hx
    exact triE (x_var ok hx.1 hx.2) rfl (fun _ => rfl) fun _ _ _ e => nomatch e
  · cases hx
theorem s_bor (i : Nat) : Snd P c ow g n (.bor i) := by
  refine .of (fun X w x ok hx => ?_) (noI fun _ _ _ _ _ => by simp [chkI])
  unfold chkE at hx
  split at hx
  · exact triE (x_bor ok hx) rfl (fun _ => rfl) fun _ _ _ e => nomatch e
  · cases hx
theorem s_con (d : D) : Snd P c ow g n (.con d) := by
  refine .of (fun X w x ok hx => ?_) (noI fun _ _ _ _ _ => by simp [chkI])
  unfold chkE at hx
  split at hx
  · rw [same_eq _ _ hx]
    exact triE (x_con (P := P) (c := c) (ow := ow) (w := w) (d := .int _) (pe_int (X := X)) fun _ _ => rfl) rfl (fun _ => rfl) fun _ _ _ e => nomatch e
  · rw [same_eq _ _ hx]
    exact triE (x_con (P := P) (c := c) (ow := ow) (w := w) (d := .bl _) (pe_bl (X := X)) fun _ _ => rfl) rfl (fun _ => rfl) fun _ _ _ e => nomatch e
  · rw [same_eq _ _ hx]
    exact triE (x_con (P := P) (c := c) (ow := ow) (w := w) (d := .non) (pe_non (X := X)) fun _ _ => rfl) rfl (fun _ => rfl) fun _ _ _ e => nomatch e
  · rename_i y _ _ 
    simp only [Bool.and_eq_true, decide_eq_true_eq, List.all_eq_true] at hx
    rw [same_eq _ _ hx.1.1]
    exact triE (x_con (P := P) (c := c) (ow := ow) (w := w) (d := .str y.cps.toList) (pe_str (X := X)) fun _ _ => ⟨by rw [S'_of], by simpa using hx.1.2, hx.2⟩) rfl (fun _ => rfl) fun _ _ _ e => nomatch e
  · rename_i y p
    simp only [Bool.and_eq_true] at hx
    obtain ⟨⟨h1, h2⟩, h3⟩ := hx
    obtain ⟨k1, k2, k3⟩ := plainName_of h2
    split at h3
    · rename_i d' hd
      obtain ⟨u, v, m1, m2, m3⟩ := ok.gl y d' hd
      rw [same_eq _ _ h3]
      exact triE (x_con (P := P) (c := c) (ow := ow) (w := w) (pe_glob (pos := p) (glob_of h1) m1 m2 k1) m3) rfl (fun _ => rfl) fun _ _ _ e => nomatch e
    · split at h3
      · rename_i t m ht
        have e : t = m := by simpa using h3
        subst e
        obtain ⟨m1, m2⟩ := ok.ty y t ht
        exact triE (x_con (P := P) (c := c) (ow := ow) (w := w) (d := .ty t) (pe_bltn (v := .ty t) (pos := p) (glob_of h1) m1 m2 rfl k3 k1) fun _ _ => rfl) rfl (fun _ => rfl) fun _ _ _ e => nomatch e
      · cases h3
  · cases hx
theorem s_neg {a : E} (s : Snd P c ow g n a) : Snd P c ow g n (.neg a) := by
  refine .of (fun X w x ok hx => ?_) (noI fun _ _ _ _ _ => by simp [chkI])
  unfold chkE at hx
  split at hx
  · exact triE (x_neg (s.ee ok hx)) rfl (fun _ => rfl) fun _ _ _ e => nomatch e
  · cases hx
theorem s_bin {o : BO} {a b : E} (s : Snd P c ow g n a) (t : Snd P c ow g n b) : Snd P c ow g n (.bin o a b) := by
  refine .of (fun X w x ok hx => ?_) (noI fun _ _ _ _ _ => by simp [chkI])
  unfold chkE at hx
  split at hx
  · simp only [Bool.and_eq_true, decide_eq_true_eq] at hx
    obtain ⟨⟨rfl, h1⟩, h2⟩ := hx
    exact triF (x_bin ok (s.ee ok h1) (t.ee ok h2)) rfl (fun _ => rfl) fun _ _ _ e => nomatch e
  · cases hx
theorem s_cmp {o : CO} {a b : E} (s : Snd P c ow g n a) (t : Snd P c ow g n b) : Snd P c ow g n (.cmp o a b) := by
  refine .of (fun X w x ok hx => ?_) (noI fun _ _ _ _ _ => by simp [chkI])
  unfold chkE at hx
  split at hx
  · simp only [Bool.and_eq_true, decide_eq_true_eq] at hx
    obtain ⟨⟨⟨rfl, h0⟩, h1⟩, h2⟩ := hx
    exact ⟨ofE (x_cmp ok h0 (s.ee ok h1) (t.ee ok h2)) rfl, fun _ => t_cmp ok h0 (s.ee ok h1) (t.ee ok h2), fun _ _ _ e => nomatch e⟩
  · cases hx
theorem s_chain {o o' : CO} {a b d : E} (s : Snd P c ow g n a) (t : Snd P c ow g n b) (u : Snd P c ow g n d) : Snd P c ow g n (.chain o o' a b d) := by
  refine .of (fun X w x ok hx => ?_) (noI fun _ _ _ _ _ => by simp [chkI])
  unfold chkE at hx
  split at hx
  · simp only [Bool.and_eq_true, decide_eq_true_eq] at hx
    obtain ⟨⟨⟨⟨⟨⟨rfl, rfl⟩, h0⟩, h00⟩, h1⟩, h2⟩, h3⟩ := hx
    exact ⟨ofE (x_chain ok h00 (s.ee ok h1) (t.ee ok h2) (u.ee ok h3)) rfl, fun _ => t_chain ok h00 (s.ee ok h1) (t.ee ok h2) (u.ee ok h3), fun _ _ _ e => nomatch e⟩
  · cases hx
theorem s_and {a b : E} (s : Snd P c ow g n a) (t : Snd P c ow g n b) : Snd P c ow g n (.and a b) := by
  refine .of (fun X w x ok hx => ?_) (noI fun _ _ _ _ _ => by simp [chkI])
  unfold chkE at hx
  split at hx
  · rename_i y z r p
    simp only [Bool.and_eq_true, Bool.not_eq_true'] at hx
    obtain ⟨⟨h0, h1⟩, h2⟩ := hx
    have sb := t.b X w (.BoolOp .And (z :: r) p) ok h2 ⟨_, _, _, rfl⟩
    have q := x_and (pos := p) (s.ee ok h1) sb.1 h0
    have tq : tstB (.and a b) = true → PW X (.BoolOp .And (y :: z :: r) p) (tT P c ow w (.and a b)) := fun ht => by
      rw [tstB, Bool.and_eq_true] at ht
      exact t_and (s.t X w y ok h1 ht.1) (sb.2 ht.2)
    refine ⟨ofE q rfl, fun ht => (tq ht).pt, fun op es p' e => ?_⟩
    cases e
    exact ⟨q, tq⟩
  · cases hx
theorem s_or {a b : E} (s : Snd P c ow g n a) (t : Snd P c ow g n b) : Snd P c ow g n (.or a b) := by
  refine .of (fun X w x ok hx => ?_) (noI fun _ _ _ _ _ => by simp [chkI])
  unfold chkE at hx
  split at hx
  · rename_i y z r p
    simp only [Bool.and_eq_true, Bool.not_eq_true'] at hx
    obtain ⟨⟨h0, h1⟩, h2⟩ := hx
    have sb := t.b X w (.BoolOp .Or (z :: r) p) ok h2 ⟨_, _, _, rfl⟩
    have q := x_or (pos := p) (s.ee ok h1) sb.1 h0
    have tq : tstB (.or a b) = true → PW X (.BoolOp .Or (y :: z :: r) p) (tT P c ow w (.or a b)) := fun ht => by
      rw [tstB, Bool.and_eq_true] at ht
      exact t_or (s.t X w y ok h1 ht.1) (sb.2 ht.2)
    refine ⟨ofE q rfl, fun ht => (tq ht).pt, fun op es p' e => ?_⟩
    cases e
    exact ⟨q, tq⟩
  · cases hx
theorem s_not {a : E} (s : Snd P c ow g n a) : Snd P c ow g n (.not a) := by
  refine .of (fun X w x ok hx => ?_) (noI fun _ _ _ _ _ => by simp [chkI])
  unfold chkE at hx
  split at hx
  · rw [Bool.and_eq_true] at hx
    exact ⟨ofE (x_not (s.ee ok hx.1)) rfl, fun _ => t_not (s.t X w _ ok hx.1 hx.2), fun _ _ _ e => nomatch e⟩
  · cases hx
theorem s_ite {t a b : E} (r : Snd P c ow g n t) (s : Snd P c ow g n a) (u : Snd P c ow g n b) : Snd P c ow g n (.ite t a b) := by
  refine .of (fun X w x ok hx => ?_) (noI fun _ _ _ _ _ => by simp [chkI])
  unfold chkE at hx
  split at hx
  · simp only [Bool.and_eq_true, Bool.not_eq_true'] at hx
    obtain ⟨⟨⟨⟨⟨h0, h1⟩, h2⟩, h3⟩, h4⟩, h5⟩ := hx
    exact ⟨ofE (x_ite (r.t X w _ ok h1 h0) (s.ee ok h2) (u.ee ok h3) h4 h5) rfl, fun h => by simp [tstB] at h, fun _ _ _ e => nomatch e⟩
  · cases hx
theorem s_join {a b : E} (s : Snd P c ow g n a) (t : Snd P c ow g n b) : Snd P c ow g n (.join a b) := by
  refine .of (fun X w x ok hx => ?_) (noI fun _ _ _ _ _ => by simp [chkI])
  unfold chkE at hx
  split at hx
  · simp only [Bool.and_eq_true, decide_eq_true_eq] at hx
    obtain ⟨⟨⟨⟨⟨rfl, h0⟩, h1⟩, h2⟩, h3⟩, h4⟩ := hx
    exact triE (x_join ok h1 h2 h0 (s.ee ok h3) (t.ee ok h4)) rfl (fun _ => rfl) fun _ _ _ e => nomatch e
  · cases hx
theorem s_call {f : Nat} {as : List E} (s : Snds P c ow g n as) : Snd P c ow g n (.call f as) := by
  refine .of (fun X w x ok hx => ?_) (noI fun _ _ _ _ _ => by simp [chkI])
  unfold chkE at hx
  split at hx
  · rename_i y p es pos
    simp only [Bool.and_eq_true] at hx
    obtain ⟨⟨⟨⟨h0, h1⟩, h2⟩, h3⟩, h4⟩ := hx
    split at h2
    · rename_i d hd
      rw [same_eq _ _ h2] at hd
      have hs := chkEs_star h3
      exact triE (x_call (pos := pos) (p := p) ok h0 h1 hd (s.2 X w es ok h3) hs.1 hs.2 h4) rfl (fun _ => rfl) fun _ _ _ e => nomatch e
    · cases h2
  · cases hx
theorem s_bi {b : Bi} {as : List E} (s : Snds P c ow g n as) : Snd P c ow g n (.bi b as) := by
  refine .of (fun X w x ok hx => ?_) (fun X w x tg ok hx => ?_)
  · unfold chkE at hx
    split at hx
    · rename_i y p e es pos
      simp only [Bool.and_eq_true] at hx
      obtain ⟨⟨⟨⟨h0, h1⟩, h2⟩, h3⟩, h4⟩ := hx
      split at h2
      · rename_i b' hd
        have e : b = b' := by simpa using h2
        subst e
        exact triF (x_bi (pos := pos) (p := p) ok h0 h1 hd h3 (s.2 X w _ ok h4) (chkEs_star h4).1) rfl (fun _ => rfl) fun _ _ _ e => nomatch e
      · cases h2
    · cases hx
  · intro T hT
    unfold chkI at hx
    split at hx
    · rename_i y p es pos
      split at hx
      · simp only [Bool.and_eq_true, Bool.or_eq_true, decide_eq_true_eq] at hx
        obtain ⟨⟨⟨⟨h0, rfl⟩, h2⟩, h3⟩, h4⟩ := hx
        split at h2
        · rename_i b' hd
          have e : b' = .range := by simpa using h2
          subst e
          have hs := chkEs_star h3
          exact pi_rng ok h0 hd (s.2 X w es ok h3) hs.1 hs.2 (by rcases h4 with (h4 | h4) | h4 <;> simp [h4])
        · cases h2
      · simp only [Bool.and_eq_true, decide_eq_true_eq] at hx
        obtain ⟨⟨⟨⟨⟨⟨ht, h0⟩, rfl⟩, h2⟩, h3⟩, h4⟩, h5⟩ := hx
        split at h2
        · rename_i b' hd
          have e : b' = .enum := by simpa using h2
          subst e
          have hs := chkEs_star h3
          have pa := s.2 X w es ok h3
          match as, es, h3, h4, h5, hs, pa with
          | [a], [e], h3, _, h5, hs, pa =>
            simp only [List.all_cons, List.all_nil, Bool.and_true, Bool.not_eq_true'] at h5 hs
            exact pi_en ok hT ht h0 hd pa hs.1 h5
          | [], [_], h3, _, _, _, _ => simp [chkEs] at h3
          | _ :: _ :: _, [_], h3, _, _, _, _ => simp [chkEs] at h3
          | _, [], _, h4, _, _, _ => simp at h4
          | _, _ :: _ :: _, _, h4, _, _, _ => simp at h4
        · cases h2
      · simp only [Bool.and_eq_true, decide_eq_true_eq] at hx
        obtain ⟨⟨⟨⟨⟨⟨ht, h0⟩, rfl⟩, h2⟩, h3⟩, h4⟩, h5⟩ := hx
        split at h2
        · rename_i b' hd
          have e : b' = .zip := by simpa using h2
          subst e
          have hs := chkEs_star h3
          have pa := s.2 X w es ok h3
          match as, es, h3, h4, h5, hs, pa with
          | [a, b], [e, e2], h3, _, h5, hs, pa =>
            simp only [List.all_cons, List.all_nil, Bool.and_true, Bool.not_eq_true', Bool.and_eq_true] at h5 hs
            exact pi_zp ok hT ht h0 hd pa hs.1.1 hs.1.2 h5.1 h5.2
          | [], [_, _], h3, _, _, _, _ => simp [chkEs] at h3
          | [_], [_, _], h3, _, _, _, _ => simp [chkEs] at h3
          | _ :: _ :: _ :: _, [_, _], h3, _, _, _, _ => simp [chkEs] at h3
          | _, [], _, h4, _, _, _ => simp at h4
          | _, [_], _, h4, _, _, _ => simp at h4
          | _, _ :: _ :: _ :: _, _, h4, _, _, _ => simp at h4
        · cases h2
      · cases hx
    · cases hx
theorem s_tup {as : List E} (s : Snds P c ow g n as) : Snd P c ow g n (.tup as) := by
  refine .of (fun X w x ok hx => ?_) (noI fun _ _ _ _ _ => by simp [chkI])
  unfold chkE at hx
  split at hx
  · simp only [Bool.and_eq_true, decide_eq_true_eq] at hx
    exact triE (x_tup (s.2 X w _ ok hx.1.1) hx.1.2 hx.2) rfl (fun _ => rfl) fun _ _ _ e => nomatch e
  · cases hx
theorem s_lst {as : List E} (s : Snds P c ow g n as) : Snd P c ow g n (.lst as) := by
  refine .of (fun X w x ok hx => ?_) (noI fun _ _ _ _ _ => by simp [chkI])
  unfold chkE at hx
  split at hx
  · simp only [Bool.and_eq_true, decide_eq_true_eq] at hx
    exact triF (x_lst (s.2 X w _ ok hx.1.1) hx.1.2 hx.2) rfl (fun _ => rfl) fun _ _ _ e => nomatch e
  · cases hx
theorem s_sub {a b : E} (s : Snd P c ow g n a) (t : Snd P c ow g n b) : Snd P c ow g n (.sub a b) := by
  refine .of (fun X w x ok hx => ?_) (noI fun _ _ _ _ _ => by simp [chkI])
  unfold chkE at hx
  split at hx
  · simp only [Bool.and_eq_true] at hx
    exact triE (x_sub ok hx.1.1 (s.ee ok hx.1.2) (t.ee ok hx.2)) rfl (fun _ => rfl) fun _ _ _ e => nomatch e
  · cases hx
theorem s_slc {a l h : E} (s : Snd P c ow g n a) (t : Snd P c ow g n l) (u : Snd P c ow g n h) : Snd P c ow g n (.slc a l h) := by
  refine .of (fun X w x ok hx => ?_) (noI fun _ _ _ _ _ => by simp [chkI])
  unfold chkE at hx
  split at hx
  · rename_i y lo hi p p2
    simp only [Bool.and_eq_true] at hx
    obtain ⟨⟨h1, h2⟩, h3⟩ := hx
    have q := ofF (x_slc (pos := p2) (p2 := p) (lo := lo) (hi := hi) ok (s.ee ok h1) (l := l) (h := h) (by
      cases lo with
      | none => exact h2
      | some z =>
        have h2 : (!isNon l && chkE g X.N ow X.env.scope l z) = true := h2
        rw [Bool.and_eq_true, Bool.not_eq_true'] at h2
        exact ⟨h2.1, t.ee ok h2.2⟩) (by
      cases hi with
      | none => exact h3
      | some z =>
        have h3 : (!isNon h && chkE g X.N ow X.env.scope h z) = true := h3
        rw [Bool.and_eq_true, Bool.not_eq_true'] at h3
        exact ⟨h3.1, u.ee ok h3.2⟩)) rfl
    exact ⟨q, fun _ => t_val (toE q) fun _ => rfl, fun _ _ _ e => nomatch e⟩
  · cases hx
def CompP (P : Par) (c : Call) (ow : List Nat) (g : Cfg) (n : Nat) (w : WX) (X : Cx) (a : E) (t : Tg) (it : E) (cs : List E) (elt tg iter : Expr) (ifs : List Expr) (scope : Scope) (own : List (Str × Nat)) : Prop :=
  blkC X.N X.env.scope scope own = true ∧ ownOf t tg = some own ∧ (∀ i ∈ slots t, i ∉ ow) ∧ notSet iter = true ∧ PI X tg iter (tI G P c ow w it) ∧ chkG (cellB scope) X.N (relS scope X.env.scope) t tg = true ∧ isBor a = false ∧
    ∀ X' : Cx, CtxOk g P c n X' noW → X'.N = X.N → X'.env.scope = relS scope X.env.scope → (match cs, ifs with | [], [] => True | [a], [e] => PTT P c ow noW X' e a | _, _ => False) ∧ PEE P c ow noW X' elt a
theorem comp_parts {a : E} {t : Tg} {it : E} {cs : List E} (s : Snd P c ow g n a) (u : Snd P c ow g n it) (v : Snds P c ow g n cs) {X : Cx} {w : WX} {x : Expr} (ok : CtxOk g P c n X w) (hx : chkE g X.N ow X.env.scope (.comp a t it cs) x = true) :
    ∃ elt tg iter ifs scope pos own, x = .ListComp elt [⟨tg, iter, ifs, 0⟩] scope pos ∧ CompP P c ow g n w X a t it cs elt tg iter ifs scope own := by
  unfold chkE at hx
  split at hx
  · rename_i elt tg iter ifs scope pos
    split at hx
    · rename_i own ho
      simp only [Bool.and_eq_true, Bool.or_eq_true, decide_eq_true_eq, Bool.not_eq_true', List.all_eq_true] at hx
      obtain ⟨⟨⟨⟨⟨⟨⟨⟨⟨h1, h2⟩, h3⟩, h4⟩, h5⟩, h6⟩, h7⟩, h8⟩, h9⟩, h10⟩ := hx
      have hi : PI X tg iter (tI G P c ow w it) := by
        rcases h3 with h3 | h3
        · exact u.i X w iter tg ok h3 G (fun _ _ _ _ wf gg => gg.w wf)
        · exact pi_val ok.hK (fun _ _ _ _ wf gg => gg.w wf) (.inr fun _ _ _ _ gg => gg) (u.ee ok h3)
      refine ⟨elt, tg, iter, ifs, scope, pos, own, rfl, h1, ho, fun i hi' => ?_, h2, hi, h4, h6, fun X' ok' hN hsc => ⟨?_, ?_⟩⟩
      · rw [← ownOf_slots ho] at hi'
        obtain ⟨p, hp, rfl⟩ := List.mem_map.mp hi'
        simpa using h10 p hp
      · rw [← hN, ← hsc] at h7
        match cs, ifs, h7, h8, h9, v with
        | [], [], _, _, _, _ => trivial
        | [b], [e], h7, _, h9, v =>
          simp only [chkEs, Bool.and_eq_true] at h7
          exact (v.1 b List.mem_cons_self).t X' noW e ok' h7.1.2 (h9 b List.mem_cons_self)
        | [], _ :: _, h7, _, _, _ => simp [chkEs] at h7
        | [_], [], h7, _, _, _ => simp [chkEs] at h7
        | [_], _ :: _ :: _, h7, _, _, _ => simp [chkEs] at h7
        | _ :: _ :: _, _, _, h8, _, _ => simp at h8
      · rw [← hN, ← hsc] at h5
        exact s.ee ok' h5
    · cases hx
  · cases hx
theorem s_comp {a : E} {t : Tg} {it : E} {cs : List E} (s : Snd P c ow g n a) (u : Snd P c ow g n it) (v : Snds P c ow g n cs) : Snd P c ow g n (.comp a t it cs) := by
  refine .of (fun X w x ok hx => ?_) (noI fun _ _ _ _ _ => by simp [chkI])
  obtain ⟨elt, tg, iter, ifs, scope, pos, own, rfl, h1, h2, h3, h4, h5, h6, h7, h8⟩ := comp_parts s u v ok hx
  exact triF (x_comp (pos := pos) ok h1 h2 h3 h4 h5 h6 h7 h8) rfl (fun _ => rfl) fun _ _ _ e => nomatch e
theorem s_callv {m : Nat} {f : E} {as : List E} (s : Snd P c ow g n f) (t : Snds P c ow g n as) : Snd P c ow g n (.callv m f as) := by
  refine .of (fun X w x ok hx => ?_) (noI fun _ _ _ _ _ => by simp [chkI])
  unfold chkE at hx
  split at hx
  · rename_i fx es pos
    simp only [Bool.and_eq_true, decide_eq_true_eq, Bool.not_eq_true'] at hx
    obtain ⟨⟨⟨⟨⟨⟨h0, h1⟩, h2⟩, h3⟩, h4⟩, h5⟩, h6⟩ := hx
    cases fx with
    | Subscript y i p =>
      cases es with
      | nil => simp at h3
      | cons e es =>
        have hs := chkEs_star h4
        exact triE (x_callv (pos := pos) ok h0 (s.ee ok h2) h5 (t.2 X w _ ok h4) hs.1 h6) rfl (fun _ => rfl) fun _ _ _ e => nomatch e
    | _ => cases h1
  · cases hx
theorem s_me {m : Me} {a : E} {as : List E} (s : Snd P c ow g n a) (t : Snds P c ow g n as) : Snd P c ow g n (.me m a as) := by
  refine .of (fun X w x ok hx => ?_) (noI fun _ _ _ _ _ => by simp [chkI])
  unfold chkE at hx
  split at hx
  · rename_i o name apos es pos
    split at hx
    · simp only [Bool.and_eq_true, Bool.or_eq_true, decide_eq_true_eq] at hx
      obtain ⟨⟨⟨⟨⟨⟨rfl, h1⟩, h2⟩, h3⟩, h4⟩, h5⟩, h6⟩ := hx
      match as, es, h1, h5, h6, t with
      | [b], [e], _, h5, h6, t =>
        simp only [chkEs, Bool.and_eq_true, List.all_cons, List.all_nil, Bool.and_true, Bool.not_eq_true'] at h5 h6
        exact triE (x_get1 (pos := pos) ok h2 h3 h5.1.1 (s.ee ok h4) ((t.1 b List.mem_cons_self).ee ok h5.1.2) h6) rfl (fun _ => rfl) fun _ _ _ e => nomatch e
      | [b, b2], [e, e2], _, h5, h6, t =>
        simp only [chkEs, Bool.and_eq_true, List.all_cons, List.all_nil, Bool.and_true, Bool.not_eq_true'] at h5 h6
        exact triE (x_get2 (pos := pos) ok h2 h3 h5.1.1 h5.2.1.1 (s.ee ok h4) ((t.1 b List.mem_cons_self).ee ok h5.1.2) ((t.1 b2 (List.mem_cons_of_mem _ List.mem_cons_self)).ee ok h5.2.1.2) h6.1 h6.2) rfl (fun _ => rfl) fun _ _ _ e => nomatch e
      | [], [_], _, h5, _, _ => simp [chkEs] at h5
      | [], [_, _], _, h5, _, _ => simp [chkEs] at h5
      | [_], [_, _], _, h5, _, _ => simp [chkEs] at h5
      | _ :: _ :: _, [_], _, h5, _, _ => simp [chkEs] at h5
      | _ :: _ :: _ :: _, [_, _], _, h5, _, _ => simp [chkEs] at h5
      | _, [], h1, _, _, _ => simp at h1
      | _, _ :: _ :: _ :: _, h1, _, _, _ => simp at h1
    · cases hx
  · cases hx
theorem s_mu {m : Mu} {a : E} {as : List E} (s : Snd P c ow g n a) (t : Snds P c ow g n as) : Snd P c ow g n (.mu m a as) := by
  refine .of (fun X w x ok hx => ?_) (noI fun _ _ _ _ _ => by simp [chkI])
  unfold chkE at hx
  split at hx
  · rename_i o name apos es pos
    simp only [Bool.and_eq_true, Bool.not_eq_true'] at hx
    obtain ⟨⟨⟨⟨⟨⟨h1, h2⟩, h3⟩, h4⟩, h5⟩, h6⟩, h7⟩ := hx
    have h1 := of_decide_eq_true h1
    subst h1
    obtain ⟨q1, q2⟩ := chkEs_star h7
    exact triE (x_mu (pos := pos) ok h5 h2 h3 h4 (s.ee ok h6) q1 (t.2 X w _ ok h7) q2.symm) rfl (fun _ => rfl) fun _ _ _ e => nomatch e
  · cases hx
theorem s_dct {t : Bool} {as : List E} (s : Snds P c ow g n as) : Snd P c ow g n (.dct t as) := by
  refine .of (fun X w x ok hx => ?_) (noI fun _ _ _ _ _ => by simp [chkI])
  unfold chkE at hx
  split at hx
  · rename_i keys values pos
    split at hx
    · rename_i ks hk
      simp only [Bool.and_eq_true, Bool.or_eq_true, decide_eq_true_eq, Bool.not_eq_true'] at hx
      obtain ⟨⟨⟨⟨h1, h2⟩, h3⟩, h4⟩, h5⟩ := hx
      by_cases h0 : ks = []
      · subst h0
        have e1 := keysX_map hk
        have e2 : values = [] := List.length_eq_zero_iff.mp h1.symm
        subst e1 e2
        have e3 : as = [] := by
          cases as with
          | nil => rfl
          | cons a as => simp [chkEs, turnX] at h4
        subst e3
        exact triF x_dnew rfl (fun _ => rfl) fun _ _ _ e => nomatch e
      · have e : t = false := by
          rcases h3 with h3 | h3
          · exact h3
          · exact absurd (by simpa using h3) h0
        subst e
        exact triF (x_disp (pos := pos) hk h1 h2 h0 (fun a ha e he => (s.1 a ha).ee ok he) h4 h5) rfl (fun _ => rfl) fun _ _ _ e => nomatch e
    · cases hx
  · cases hx
theorem s_dcomp {b : Bool} {t : Tg} {a v it : E} (s : Snd P c ow g n a) (s2 : Snd P c ow g n v) (u : Snd P c ow g n it) : Snd P c ow g n (.dcomp b a v t it) := by
  refine .of (fun X w x ok hx => ?_) (noI fun _ _ _ _ _ => by simp [chkI])
  unfold chkE at hx
  split at hx
  · rename_i kx vx tg iter scope pos
    split at hx
    · rename_i own ho
      simp only [Bool.and_eq_true, Bool.or_eq_true, decide_eq_true_eq, Bool.not_eq_true', List.all_eq_true] at hx
      obtain ⟨⟨⟨⟨⟨⟨⟨⟨h1, h2⟩, h3⟩, h4⟩, h5⟩, h6⟩, h7⟩, h8⟩, h9⟩ := hx
      have hi : PI X tg iter (tI G P c ow w it) := by
        rcases h3 with h3 | h3
        · exact u.i X w iter tg ok h3 G (fun _ _ _ _ wf gg => gg.w wf)
        · exact pi_val ok.hK (fun _ _ _ _ wf gg => gg.w wf) (.inr fun _ _ _ _ gg => gg) (u.ee ok h3)
      refine triF (x_dcomp (pos := pos) ok h1 ho (fun i hi' => ?_) h2 hi h4 h6 h8 fun X' ok' hN hsc => ⟨?_, ?_⟩) rfl (fun _ => rfl) fun _ _ _ e => nomatch e
      · rw [← ownOf_slots ho] at hi'
        obtain ⟨p, hp, rfl⟩ := List.mem_map.mp hi'
        simpa using h9 p hp
      · rw [← hN, ← hsc] at h5
        exact s.ee ok' h5
      · rw [← hN, ← hsc] at h7
        exact s2.ee ok' h7
    · cases hx
  · cases hx
theorem plainE_he {x : Expr} (h : plainE x = true) (env : PySem.Env) (whole : Sem Value) : isTrue x env whole = (do let v ← whole; standAt x.pos; holding [v] (truthy v)) := by
  cases x <;> first | rfl | cases h
theorem s_alloc {a : E} (s : Snd P c ow g n a) : Snd P c ow g n (.alloc a) := by
  refine .of (fun X w x ok hx => ?_) (noI fun _ _ _ _ _ => by simp [chkI])
  unfold chkE at hx
  rw [Bool.and_eq_true, Bool.and_eq_true] at hx
  have q : PEE P c ow w X x (.alloc a) := by
    have z := s.e X w x ok hx.1.1
    unfold tX at z
    rw [if_pos hx.1.2] at z
    exact x_alloc z
  refine triE q rfl (plainE_he hx.2 _) fun op es p e => ?_
  subst e
  exact absurd hx.2 (by simp [plainE])
theorem s_dead : Snd P c ow g n .dead := by
  have e : ∀ (X : Cx) (w : WX) (x : Expr), PEE P c ow w X x .dead := fun X w x => ⟨fun pins s σ H Q I ⟨W, ρ, M, rel, hs⟩ => (show False from hs).elim⟩
  refine .of (fun X w x ok hx => ⟨ofE (e X w x) rfl, fun _ => ⟨fun pins s σ H Q I ⟨W, ρ, M, rel, hs⟩ => (show False from hs).elim⟩, fun op es p z => ⟨e X w x, fun _ => ⟨fun wh pins s σ H Q I ⟨W, ρ, M, rel, hs⟩ => (show False from hs).elim⟩⟩⟩) (noI fun _ _ _ _ _ => by simp [chkI])
theorem s_no {a : E} (h : ∀ N ow sc x, chkE g N ow sc a x = false) (hi : ∀ N ow sc tt x, chkI g N ow sc tt a x = false) : Snd P c ow g n a :=
  .of (fun X w x ok hx => by rw [h] at hx; cases hx) (noI fun N ow sc tt x => hi N ow sc tt x)
mutual
theorem snd : ∀ a : E, Snd P c ow g n a
  | .var i => s_var i
  | .bor i => s_bor i
  | .con d => s_con d
  | .neg a => s_neg (snd a)
  | .bin o a b => s_bin (snd a) (snd b)
  | .cmp o a b => s_cmp (snd a) (snd b)
  | .chain o o' a b d => s_chain (snd a) (snd b) (snd d)
  | .and a b => s_and (snd a) (snd b)
  | .or a b => s_or (snd a) (snd b)
  | .not a => s_not (snd a)
  | .ite t a b => s_ite (snd t) (snd a) (snd b)
  | .join a b => s_join (snd a) (snd b)
  | .call f as => s_call (snds as)
  | .callv n f as => s_callv (snd f) (snds as)
  | .bi b as => s_bi (snds as)
  | .me m a as => s_me (snd a) (snds as)
  | .mu m a as => s_mu (snd a) (snds as)
  | .tup as => s_tup (snds as)
  | .lst as => s_lst (snds as)
  | .dct t as => s_dct (snds as)
  | .sub a b => s_sub (snd a) (snd b)
  | .slc a l h => s_slc (snd a) (snd l) (snd h)
  | .comp a t it cs => s_comp (snd a) (snd it) (snds cs)
  | .dcomp b k v t it => s_dcomp (snd k) (snd v) (snd it)
  | .alloc a => s_alloc (snd a)
  | .dead => s_dead
theorem snds : ∀ as : List E, Snds P c ow g n as
  | [] => by
    refine ⟨fun _ h => (by cases h), fun X w es ok h => ?_⟩
    have e : es = [] := by simpa [chkEs] using h
    subst e
    exact x_nil
  | a :: as => by
    have s1 := snd a
    have s2 := snds as
    refine ⟨fun b hb => ?_, fun X w es ok h => ?_⟩
    · rcases List.mem_cons.mp hb with rfl | hb
      · exact s1
      · exact s2.1 b hb
    · unfold chkEs at h
      split at h
      · simp only [Bool.and_eq_true] at h
        exact x_cons h.1.1 (s1.ee ok h.1.2) (s2.2 X w _ ok h.2)
      · cases h
end
end
end Ev
set_option Elab.async false
set_option linter.all false
set_option autoImplicit false
set_option maxRecDepth 100000
set_option maxHeartbeats 4000000
namespace Ev
open PySem PySem.Spec PyProof.Rows L2
structure RelS (P : Par) (W0 : Wd) (H0 : Hp) (ow : List Nat) (W : Wd) (ρ : Env) (M : Sto) (σ : L2.St) (H : Hp) : Prop where
  rel : Rel P ow W ρ M σ H
  g0 : G W0 H0 W H
  new : ∀ i ∈ ow, ∀ d, get ρ i = some d → ∀ a, σ[i]? = some (some (.ref a)) → H0 a = none
theorem RelS.g {P : Par} {W0 W W' : Wd} {H0 H H' : Hp} {ow : List Nat} {ρ : Env} {M M' : Sto} {σ : L2.St} (r : RelS P W0 H0 ow W ρ M σ H) (g : G W H W' H') (s : StoR P W' M' H') : RelS P W0 H0 ow W' ρ M' σ H' := ⟨r.rel.g g s, r.g0.trans g, r.new⟩
abbrev RL := Wd → Env → Sto → L2.St → Hp → Prop
def Pst (P : Par) (Z : RL) (W0 : Wd) (H0 : Hp) (W : Wd) (H : Hp) (N : Ends) (w : WX) : RS → Prop
  | .ok .nx ρ M => ∀ W' σ H', Gw W H W' H' → Z W' ρ M σ H' → N.nx σ H'
  | .ok .bk ρ M => ∀ W' σ H', Gw W H W' H' → Z W' ρ M σ H' → N.bk σ H'
  | .ok .ct ρ M => ∀ W' σ H', Gw W H W' H' → Z W' ρ M σ H' → N.ct σ H'
  | .ok (.rt d) _ M => ∀ W' v H', G W0 H0 W' H' → StoR P W' M H' → Rep P W' H' d v → N.rt v H'
  | .exc e ρ M => ∀ W' σ H' cls dd, Gw W H W' H' → Z W' ρ M σ H' → XcR P e cls dd → w cls dd σ H'
  | .bad => False
theorem Pst.g {P : Par} {Z : RL} {W0 W W1 : Wd} {H0 H H1 : Hp} {N : Ends} {w : WX} {r : RS} (g : Gw W H W1 H1) (h : Pst P Z W0 H0 W H N w r) : Pst P Z W0 H0 W1 H1 N w r := by
  cases r with
  | bad => exact h
  | exc e ρ M => exact fun W' σ H' cls dd k => h W' σ H' cls dd (g.trans k)
  | ok f ρ M =>
    cases f with
    | nx => exact fun W' σ H' k => h W' σ H' (g.trans k)
    | bk => exact fun W' σ H' k => h W' σ H' (g.trans k)
    | ct => exact fun W' σ H' k => h W' σ H' (g.trans k)
    | rt d => exact h
theorem pst_toS {α : Type} {P : Par} {Z : RL} {W0 W : Wd} {H0 H : Hp} {N : Ends} {w : WX} {r : R α} {ρ : Env} {f : α → RS} (h : Pst P Z W0 H0 W H N w (r.toS ρ f)) : r.sat (fun a => Pst P Z W0 H0 W H N w (f a)) fun e M => Pst P Z W0 H0 W H N w (.exc e ρ M) := by
  cases r <;> exact h
theorem pst_then {P : Par} {Z : RL} {W0 W : Wd} {H0 H : Hp} {N : Ends} {w : WX} {r : RS} {f : Env → Sto → RS} (h : Pst P Z W0 H0 W H N w (r.then f)) : ∀ U : L2.St → Hp → Prop, (∀ ρ M, r = .ok .nx ρ M → Pst P Z W0 H0 W H N w (f ρ M) → ∀ W' σ H', Gw W H W' H' → Z W' ρ M σ H' → U σ H') → Pst P Z W0 H0 W H { N with nx := U } w r := by
  intro U k
  cases r with
  | bad => exact h
  | exc e ρ M => exact h
  | ok fl ρ M =>
    cases fl with
    | nx => exact k ρ M rfl h
    | bk => exact h
    | ct => exact h
    | rt d => exact h
section
variable (P : Par) (c : Call) (sub : Nat → Nat → Bool) (W0 : Wd) (H0 : Hp) (ow : List Nat) (w : WX)
def tSt (a : S) : TS := fun N σ H => ∃ W ρ M, RelS P W0 H0 ow W ρ M σ H ∧ Pst P (RelS P W0 H0 ow) W0 H0 W H N w (evS c sub a ρ M)
def tSs (a : List S) : TS := fun N σ H => ∃ W ρ M, RelS P W0 H0 ow W ρ M σ H ∧ Pst P (RelS P W0 H0 ow) W0 H0 W H N w (evSs c sub a ρ M)
end
theorem ps_imp {X : Cx} {e : Stmt} {t t' : TS} (h : PS X e t) (i : ∀ N σ H, t' N σ H → t N σ H) : PS X e t' := ⟨fun pins s σ H N I q => h.run pins s σ H N I (i N σ H q)⟩
theorem pss_imp {X : Cx} {e : List Stmt} {t t' : TS} (h : PSs X e t) (i : ∀ N σ H, t' N σ H → t N σ H) : PSs X e t' := ⟨fun pins s σ H N I q => h.run pins s σ H N I (i N σ H q)⟩
section
variable {P : Par} {c : Call} {sub : Nat → Nat → Bool} {W0 : Wd} {H0 : Hp} {ow : List Nat} {w : WX} {g : Cfg} {n : Nat} {X : Cx} {pos : Pos}
theorem xk_of {W : Wd} {ρ : Env} {M M' : Sto} {σ : L2.St} {H : Hp} {N : Ends} {e : Xc} (r : RelS P W0 H0 ow W ρ M σ H) (h : Pst P (RelS P W0 H0 ow) W0 H0 W H N w (.exc e ρ M')) : Xk P W H w σ e M' := fun W' H' cls d gg s x => h W' σ H' cls d (gg.w r.rel.sto.wf) (r.g gg s) x
theorem useE {a : E} {W : Wd} {ρ : Env} {M : Sto} {σ : L2.St} {H : Hp} {N : Ends} {f : D × Sto → RS} {Q : VK} (r : RelS P W0 H0 ow W ρ M σ H) (h : Pst P (RelS P W0 H0 ow) W0 H0 W H N w ((evE c a ρ M).toS ρ f))
    (k : ∀ d M' W' v H', G W H W' H' → RelS P W0 H0 ow W' ρ M' σ H' → RepQ a P W' H' d v → Pst P (RelS P W0 H0 ow) W0 H0 W H N w (f (d, M')) → Q v H') : tE P c ow w a σ H Q :=
  ⟨W, ρ, M, r.rel, R.sat_mono (pst_toS h) (fun q hq W' v H' gg s rp => k q.1 q.2 W' v H' gg (r.g gg s) rp hq) fun e M' hx => xk_of r hx⟩
theorem useF {a : E} {W : Wd} {ρ : Env} {M : Sto} {σ : L2.St} {H : Hp} {N : Ends} {f : D × Sto → RS} {Q : VK} (r : RelS P W0 H0 ow W ρ M σ H) (h : Pst P (RelS P W0 H0 ow) W0 H0 W H N w ((evE c a ρ M).toS ρ f))
    (k : ∀ d M' W' v H', G W H W' H' → RelS P W0 H0 ow W' ρ M' σ H' → RepF P W' H H' d v → Pst P (RelS P W0 H0 ow) W0 H0 W H N w (f (d, M')) → Q v H') : tF P c ow w a σ H Q :=
  ⟨W, ρ, M, r.rel, R.sat_mono (pst_toS h) (fun q hq W' v H' gg s rp => k q.1 q.2 W' v H' gg (r.g gg s) rp hq) fun e M' hx => xk_of r hx⟩
theorem useT {a : E} {W : Wd} {ρ : Env} {M : Sto} {σ : L2.St} {H : Hp} {N : Ends} {f : D × Sto → RS} {Q : Bool → Hp → Prop} (r : RelS P W0 H0 ow W ρ M σ H) (h : Pst P (RelS P W0 H0 ow) W0 H0 W H N w ((evE c a ρ M).toS ρ f))
    (hb : ∀ d M', Pst P (RelS P W0 H0 ow) W0 H0 W H N w (f (d, M')) → ∃ b, d = .bl b)
    (k : ∀ b M' W' H', G W H W' H' → RelS P W0 H0 ow W' ρ M' σ H' → Pst P (RelS P W0 H0 ow) W0 H0 W H N w (f (.bl b, M')) → Q b H') : tT P c ow w a σ H Q :=
  ⟨W, ρ, M, r.rel, R.sat_mono (pst_toS h) (fun q hq => by
    obtain ⟨d, M'⟩ := q
    obtain ⟨b, rfl⟩ := hb d M' hq
    exact ⟨b, rfl, fun W' H' gg s => k b M' W' H' gg (r.g gg s) hq⟩) fun e M' hx => xk_of r hx⟩
theorem useAs {as : List E} {W : Wd} {ρ : Env} {M : Sto} {σ : L2.St} {H : Hp} {N : Ends} {f : List D × Sto → RS} {Q : List V → Hp → Prop} (r : RelS P W0 H0 ow W ρ M σ H) (h : Pst P (RelS P W0 H0 ow) W0 H0 W H N w ((evEs c as ρ M).toS ρ f))
    (k : ∀ ds M' W' vs H', G W H W' H' → RelS P W0 H0 ow W' ρ M' σ H' → RepQs P W' H' as ds vs → Pst P (RelS P W0 H0 ow) W0 H0 W H N w (f (ds, M')) → Q vs H') : tAs P c ow w as σ H Q :=
  ⟨W, ρ, M, r.rel, R.sat_mono (pst_toS h) (fun q hq W' v H' gg s rp => k q.1 q.2 W' v H' gg (r.g gg s) rp hq) fun e M' hx => xk_of r hx⟩
theorem RelS.put {W : Wd} {ρ : Env} {M : Sto} {σ : L2.St} {H : Hp} {i : Nat} {d : D} {v : V} (r : RelS P W0 H0 ow W ρ M σ H) (n : i ∉ ow) (hv : Rep P W H d v) : RelS P W0 H0 ow W (Ev.put ρ i d) M (σ.set i (some v)) H := by
  refine ⟨r.rel.put n hv, r.g0, fun j hj d' e a ha => ?_⟩
  have z : i ≠ j := fun z => n (z ▸ hj)
  have e' := get_some e
  rw [Ev.put, List.getElem?_set_ne z] at e'
  rw [List.getElem?_set_ne z] at ha
  exact r.new j hj d' (by unfold get; rw [e']; rfl) a ha
theorem RelS.putO {W : Wd} {ρ : Env} {M : Sto} {σ : L2.St} {H : Hp} {i : Nat} {d : D} {p : Addr} (r : RelS P W0 H0 ow W ρ M σ H) (hi : i ∈ ow) (hv : Own P W H p d) (n0 : H0 p = none) (sep : ∀ j ∈ ow, j ≠ i → ∀ d', get ρ j = some d' → σ[j]? ≠ some (some (.ref p))) : RelS P W0 H0 ow W (Ev.put ρ i d) M (σ.set i (some (.ref p))) H := by
  have g1 : ∀ m, i ≠ m → get (Ev.put ρ i d) m = get ρ m := fun m hm => by
    unfold get
    rw [Ev.put, List.getElem?_set_ne hm]
  have g2 : ∀ d', get (Ev.put ρ i d) i = some d' → d' = d ∧ i < σ.length := fun d' e => by
    have e' := get_some e
    rw [Ev.put] at e'
    by_cases q : i < ρ.length
    · rw [List.getElem?_set_self q] at e'
      cases e'
      exact ⟨rfl, r.rel.len ▸ q⟩
    · rw [List.getElem?_eq_none (by rw [List.length_set]; omega)] at e'; cases e'
  refine ⟨⟨r.rel.sto, by rw [Ev.put, List.length_set, List.length_set, r.rel.len], fun j d' e nj => ?_, fun j d' e hj => ?_, fun j k a hj hk ne gj gk e e2 => ?_⟩, r.g0, fun j hj d' e a ha => ?_⟩
  · have z : i ≠ j := fun z => nj (z ▸ hi)
    rw [g1 j z] at e
    obtain ⟨u, h1, h2⟩ := r.rel.fz j d' e nj
    exact ⟨u, by rw [List.getElem?_set_ne z]; exact h1, h2⟩
  · by_cases z : i = j
    · subst z
      obtain ⟨rfl, hl⟩ := g2 d' e
      exact ⟨p, List.getElem?_set_self hl, hv⟩
    · rw [g1 j z] at e
      obtain ⟨u, h1, h2⟩ := r.rel.own j d' e hj
      exact ⟨u, by rw [List.getElem?_set_ne z]; exact h1, h2⟩
  · by_cases zj : i = j
    · subst zj
      obtain ⟨d', ed⟩ := Option.ne_none_iff_exists'.mp gj
      obtain ⟨rfl, hl⟩ := g2 d' ed
      rw [List.getElem?_set_self hl] at e
      cases e
      rw [List.getElem?_set_ne ne] at e2
      rw [g1 k ne] at gk
      obtain ⟨dk, edk⟩ := Option.ne_none_iff_exists'.mp gk
      exact sep k hk (fun z => ne z.symm) dk edk e2
    · by_cases zk : i = k
      · subst zk
        obtain ⟨d', ed⟩ := Option.ne_none_iff_exists'.mp gk
        obtain ⟨rfl, hl⟩ := g2 d' ed
        rw [List.getElem?_set_self hl] at e2
        cases e2
        rw [List.getElem?_set_ne zj] at e
        rw [g1 j zj] at gj
        obtain ⟨dj, edj⟩ := Option.ne_none_iff_exists'.mp gj
        exact sep j hj (fun z => zj z.symm) dj edj e
      · rw [g1 j zj] at gj
        rw [g1 k zk] at gk
        rw [List.getElem?_set_ne zj] at e
        rw [List.getElem?_set_ne zk] at e2
        exact r.rel.sep j k a hj hk ne gj gk e e2
  · by_cases z : i = j
    · subst z
      obtain ⟨rfl, hl⟩ := g2 d' e
      rw [List.getElem?_set_self hl] at ha
      cases ha
      exact n0
    · rw [g1 j z] at e
      rw [List.getElem?_set_ne z] at ha
      exact r.new j hj d' e a ha
theorem RelS.chg {W : Wd} {ρ : Env} {M : Sto} {σ : L2.St} {H : Hp} {i : Nat} {d d' : D} {p : Addr} {o : HO} (r : RelS P W0 H0 ow W ρ M σ H) (hi : i ∈ ow) (e : get ρ i = some d) (ep : σ[i]? = some (some (.ref p))) (hb : BoxAt P W (upd H p o) p d') :
    RelS P W0 H0 ow W (Ev.put ρ i d') M σ (upd H p o) ∧ Gw W H W (upd H p o) := by
  obtain ⟨p', ep', nF, nι, hb0⟩ := r.rel.own i d e hi
  rw [ep] at ep'
  cases ep'
  have n0 := r.new i hi d e p ep
  have nt := hb0.nt
  have gw : Gw W H W (upd H p o) := upd_gw nF nt
  have g1 : ∀ m, i ≠ m → get (Ev.put ρ i d') m = get ρ m := fun m hm => by
    unfold get
    rw [Ev.put, List.getElem?_set_ne hm]
  have g3 : ∀ m, get (Ev.put ρ i d') m ≠ none → get ρ m ≠ none := fun m hm => by
    by_cases z : i = m
    · subst z; rw [e]; exact fun z => nomatch z
    · rw [g1 m z] at hm; exact hm
  have g2 : get (Ev.put ρ i d') i = some d' := by
    have q := (List.getElem?_eq_some_iff.mp (get_some e)).1
    unfold get
    rw [Ev.put, List.getElem?_set_self q]
    rfl
  refine ⟨⟨⟨r.rel.sto.upd nF nι nt, by rw [Ev.put, List.length_set, r.rel.len], fun j dj ej nj => ?_, fun j dj ej hj => ?_, fun j k a hj hk ne gj gk => r.rel.sep j k a hj hk ne (g3 j gj) (g3 k gk)⟩, r.g0.upd n0, fun j hj dj ej a ha => ?_⟩, gw⟩
  · have z : i ≠ j := fun z => nj (z ▸ hi)
    rw [g1 j z] at ej
    obtain ⟨u, h1, h2⟩ := r.rel.fz j dj ej nj
    exact ⟨u, h1, h2.gw gw⟩
  · by_cases z : i = j
    · subst z
      rw [g2] at ej
      cases ej
      exact ⟨p, ep, nF, nι, hb⟩
    · rw [g1 j z] at ej
      obtain ⟨a, h1, h2, h3, h4⟩ := r.rel.own j dj ej hj
      have ne : a ≠ p := fun zz => by
        subst zz
        exact r.rel.sep i j a hi hj z (by rw [e]; exact fun z => nomatch z) (by rw [ej]; exact fun z => nomatch z) ep h1
      exact ⟨a, h1, h2, h3, h4.gw gw (upd_ne ne)⟩
  · obtain ⟨dj', ej'⟩ := Option.ne_none_iff_exists'.mp (g3 j (by rw [ej]; exact fun z => nomatch z))
    exact r.new j hj dj' ej' a ha
theorem RelS.few {W : Wd} {ρ : Env} {M : Sto} {σ : L2.St} {H : Hp} {ow2 : List Nat} (r : RelS P W0 H0 ow W ρ M σ H) (hs : ∀ i ∈ ow2, i ∈ ow) : ∃ W', RelS P W0 H0 ow2 W' ρ M σ H ∧ Gw W H W' H := by
  have fz : ∀ a, (∃ i ∈ ow, i ∉ ow2 ∧ get ρ i ≠ none ∧ σ[i]? = some (some (.ref a))) → a ∉ W.ι ∧ H a ≠ none ∧ H0 a = none ∧ ¬ W.F a := fun a ⟨i, h1, _, h2, h3⟩ => by
    obtain ⟨d, e⟩ := Option.ne_none_iff_exists'.mp h2
    obtain ⟨b, e1, nF, nι, hb⟩ := r.rel.own i d e h1
    rw [h3] at e1
    cases e1
    exact ⟨nι, hb.some, r.new i h1 d e a h3, nF⟩
  let W' : Wd := ⟨W.ι, fun a => W.F a ∨ ∃ i ∈ ow, i ∉ ow2 ∧ get ρ i ≠ none ∧ σ[i]? = some (some (.ref a))⟩
  have gw : Gw W H W' H := ⟨⟨[], by simp [W']⟩, fun a h => .inl h, fun _ _ => .refl, fun _ _ h => h⟩
  have st : StoR P W' M H := ⟨⟨fun a h => h.elim (r.rel.sto.wf.fi a) fun q => (fz a q).1, fun a h => h.elim (r.rel.sto.wf.fs a) fun q => (fz a q).2.1, r.rel.sto.wf.nd, r.rel.sto.wf.is⟩, r.rel.sto.len, fun k o e => by
    obtain ⟨a, e1, h⟩ := r.rel.sto.at_ k o e
    exact ⟨a, e1, h.gw gw rfl⟩⟩
  refine ⟨W', ⟨⟨st, r.rel.len, fun j d e nj => ?_, fun j d e hj => ?_, fun j k a hj hk ne gj gk => r.rel.sep j k a (hs j hj) (hs k hk) ne gj gk⟩, ⟨r.g0.io, fun a h => .inl (r.g0.fm a h), fun a h => ?_, r.g0.kp, r.g0.kf, r.g0.al, r.g0.tp⟩, fun j hj => r.new j (hs j hj)⟩, gw⟩
  · by_cases oj : j ∈ ow
    · obtain ⟨a, e1, nF, nι, hb⟩ := r.rel.own j d e oj
      refine ⟨.ref a, e1, ?_⟩
      cases d with
      | lst ds =>
        obtain ⟨vs, h1, h2, h3⟩ := hb
        exact ⟨a, vs, rfl, .inr ⟨j, oj, nj, (by rw [e]; exact fun z => nomatch z), e1⟩, h1, h2, h3.gw gw⟩
      | dct t kvs =>
        obtain ⟨o, vs, h1, h2, h3, h4⟩ := hb
        exact ⟨a, o, vs, rfl, .inr ⟨j, oj, nj, (by rw [e]; exact fun z => nomatch z), e1⟩, .inl h1, h2, h3, h4.gw gw⟩
      | _ => exact (show False from hb).elim
    · obtain ⟨v, e1, rp⟩ := r.rel.fz j d e oj
      exact ⟨v, e1, rp.gw gw⟩
  · obtain ⟨a, e1, nF, nι, hb⟩ := r.rel.own j d e (hs j hj)
    refine ⟨a, e1, fun z => ?_, nι, hb.gw gw rfl⟩
    rcases z with z | ⟨i, h1, h2, h3, h4⟩
    · exact nF z
    · have ne : i ≠ j := fun z => h2 (z ▸ hj)
      exact r.rel.sep i j a h1 (hs j hj) ne h3 (by rw [e]; exact fun z => nomatch z) h4 e1
  · rcases h with h | h
    · exact r.g0.fn a h
    · exact .inr (fz a h).2.2.1
theorem RelS.sto {W : Wd} {ρ : Env} {M : Sto} {σ : L2.St} {H : Hp} {k : Nat} {d d' : D} {p : Addr} {o : HO} (r : RelS P W0 H0 ow W ρ M σ H) (e : M[k]? = some (.val d)) (ep : W.ι[k]? = some p) (hb : BoxAt P W (L2.upd H p o) p d') :
    RelS P W0 H0 ow W ρ (M.set k (.val d')) σ (L2.upd H p o) ∧ Gw W H W (L2.upd H p o) := by
  obtain ⟨s, g⟩ := sto_ok r.rel.sto e ep hb
  exact ⟨r.g g s, g.w r.rel.sto.wf⟩
end
end Ev
set_option Elab.async false
set_option linter.all false
set_option autoImplicit false
set_option maxRecDepth 100000
set_option maxHeartbeats 4000000
namespace Ev
open PySem PySem.Spec PyProof.Rows L2
def noSw : Expr → Bool
  | .ListComp _ _ _ _ => false
  | .SetComp _ _ _ _ => false
  | .DictComp _ _ _ _ _ => false
  | _ => true
theorem noSw_of {e : Expr} (h : noSw e = true) (t : Option Expr) (l : Nat) (env : PySem.Env) : swapsWith e t l env = pure false := by
  cases e <;> first | rfl | cases h
theorem noSwS {e t : Expr} (h : noSw e = true) (l : Nat) (env : PySem.Env) : swapsWithSole [t] e l env = pure false := noSw_of h _ _ _
def cellSw (sc : Scope) (x : Str) : Expr → Bool
  | .ListComp _ _ _ _ => sc.names.lookup x == some .cell
  | .DictComp _ _ _ _ _ => sc.names.lookup x == some .cell
  | _ => false
theorem cellSw_of {e : Expr} {x : Str} {px : Pos} {env : PySem.Env} {l : Nat} (h : cellSw env.scope x e = true) : swapsWith e (some (.Name x px)) l env = pure false := by
  cases e with
  | ListComp elt gs scope p =>
    have h : (env.scope.names.lookup x == some .cell) = true := h
    have ky : env.kindOf x = some .cell := (show env.scope.names.lookup x = some .cell from by simpa using h)
    unfold swapsWith
    simp only [ky]
    show pure (((env.blockKind == .function && (some NameKind.cell == some .local)) && _) && _) = _
    rw [show (some NameKind.cell == some NameKind.local) = false from rfl, Bool.and_false, Bool.false_and, Bool.false_and]
  | DictComp kx vx gs scope p =>
    have h : (env.scope.names.lookup x == some .cell) = true := h
    have ky : env.kindOf x = some .cell := (show env.scope.names.lookup x = some .cell from by simpa using h)
    unfold swapsWith
    simp only [ky]
    show pure (((env.blockKind == .function && (some NameKind.cell == some .local)) && _) && _) = _
    rw [show (some NameKind.cell == some NameKind.local) = false from rfl, Bool.and_false, Bool.false_and, Bool.false_and]
  | _ => cases h
def notTup : Expr → Bool
  | .Tuple _ _ _ => false
  | _ => true
theorem swTup {es : List Expr} {k : Nat} {p : Pos} {e : Expr} (h : notTup e = true) (env : PySem.Env) : swappedStores [.Tuple es k p] e env = pure none := by
  cases e <;> first | rfl | cases h
theorem swSub {o i e : Expr} {p : Pos} (env : PySem.Env) : swappedStores [.Subscript o i p] e env = pure none := by
  cases e <;> rfl
def swB (sc : Scope) (x : Str) (px : Pos) (y : Str) (py : Pos) (a b : Expr) : Bool := decide (sc.names.lookup x = some .local) && (decide (sc.names.lookup y = some .local) && ((py.line == px.line) && (!(x == y) && (notStar a && (notStar b && (!(foldedForSure 8 a && foldedForSure 8 b) && !(constantsAlone 8 a && constantsAlone 8 b)))))))
theorem swPar {env : PySem.Env} {x y : Str} {px py pt p2 : Pos} {kt k2 : Nat} {a b : Expr} (hk : env.scope.kind = .function) (h : swB env.scope x px y py a b = true) : swappedStores [.Tuple [.Name x px, .Name y py] kt pt] (.Tuple [a, b] k2 p2) env = pure (some [x, y]) := by
  unfold swB at h
  simp only [Bool.and_eq_true, decide_eq_true_eq, Bool.not_eq_true'] at h
  obtain ⟨h1, h2, h3, h4, h5, h6, h7, h8⟩ := h
  have kx : env.kindOf x = some .local := h1
  have ky : env.kindOf y = some .local := h2
  have kb : env.blockKind = .function := by unfold Env.blockKind; rw [hk]; rfl
  have l1 : (Expr.Name x px).pos.line = px.line := rfl
  unfold swappedStores
  simp only [kb, List.length_cons, List.length_nil, List.any_cons, List.any_nil, List.all_cons, List.all_nil, Bool.and_true, h7, h8, List.head?_cons, Option.map_some, Option.getD_some, List.filterMap_cons, List.filterMap_nil, kx, ky, l1, h3]
  have h3' : py.line = px.line := by simpa using h3
  have h4' : (y == x) = false := by
    rw [beq_eq_false_iff_ne] at h4 ⊢
    exact fun z => h4 z.symm
  have ed : [x, y].eraseDups = [x, y] := by
    rw [List.eraseDups_cons, List.filter_cons]
    simp only [h4', Bool.not_false, if_true, List.filter_nil]
    rw [List.eraseDups_cons]
    rfl
  simp [ed, beq_self_eq_true, h7, h8]
  intro hh
  rcases hh with hh | hh
  · cases a <;> first | (cases hh; done) | cases h5
  · cases b <;> first | (cases hh; done) | cases h6
def swN (sc : Scope) : List Expr → Bool
  | [.Name x _, .Name y _] => !decide (sc.names.lookup x = some .local) || !decide (sc.names.lookup y = some .local)
  | _ => false
theorem swNo {env : PySem.Env} {x y : Str} {px py pt p2 : Pos} {kt k2 : Nat} {es : List Expr} (h : swN env.scope [.Name x px, .Name y py] = true) : swappedStores [.Tuple [.Name x px, .Name y py] kt pt] (.Tuple es k2 p2) env = pure none := by
  have hh : ¬ (env.kindOf x = some .local ∧ env.kindOf y = some .local) := by
    intro z
    have z1 : env.scope.names.lookup x = some .local := z.1
    have z2 : env.scope.names.lookup y = some .local := z.2
    simp [swN, z1, z2] at h
  unfold swappedStores
  simp only [List.length_cons, List.length_nil, List.filterMap_cons, List.filterMap_nil]
  split
  · rfl
  · split
    · rfl
    · by_cases hx : env.kindOf x = some .local
      · have hy : env.kindOf y ≠ some .local := fun z => hh ⟨hx, z⟩
        have hy' : (env.kindOf y == some .local) = false := beq_eq_false_iff_ne.mpr hy
        simp only [hy', Bool.false_and, Bool.false_eq_true, if_false]
        split <;> rfl
      · have hx' : (env.kindOf x == some .local) = false := beq_eq_false_iff_ne.mpr hx
        simp only [hx', Bool.false_and, Bool.false_eq_true, if_false]
        split <;> rfl
def swU (sc : Scope) (es : List Expr) (e : Expr) : Bool := notTup e || swN sc es
theorem swU_of {es : List Expr} {k : Nat} {p : Pos} {e : Expr} {env : PySem.Env} (h : swU env.scope es e = true) : swappedStores [.Tuple es k p] e env = pure none := by
  unfold swU at h
  rw [Bool.or_eq_true] at h
  rcases h with h | h
  · exact swTup h _
  · cases e with
    | Tuple vs k2 p2 =>
      have h0 := h
      unfold swN at h0
      split at h0
      · exact swNo h
      · cases h0
    | _ => exact swTup rfl _
structure BodyOk (X : Cx) : Prop where
  fn : ∀ x, X.fn x = true
  hs : X.stack = X.env :: X.outer
  hf : X.env.frame = some X.env.locals
  po : PassesOwn (model X.prog X.w) X.A X.env X.xe
structure ExcK (P : Par) (k : Nat) : Prop where
  lt : k < P.nc
  kp : PySem.W.keepIn P.K (.ref (P.ca k)) = true
  ra : PySem.W.subIn P.K (.ref (P.ca k)) (.type "BaseException") = some true ∧ PySem.W.typeIn P.K (.ref (P.ca k)) = some (.type "type")
  fx : ∃ bmB B newId initId, ExcBaseFacts B newId initId bmB ∧ PySem.W.excIn P.K (P.ca k) bmB newId = true
def SubOk (P : Par) (sub : Nat → Nat → Bool) : Prop := ∀ i j, i < P.nc → j < P.nc → PySem.W.exmOne P.K (.ref (P.ca i)) (.ref (P.ca j)) = some (sub i j)
section
variable {P : Par} {c : Call} {sub : Nat → Nat → Bool} {W0 : Wd} {H0 : Hp} {ow : List Nat} {w : WX} {g : Cfg} {n : Nat} {X : Cx} {pos : Pos}
abbrev PST (P : Par) (c : Call) (sub : Nat → Nat → Bool) (W0 : Wd) (H0 : Hp) (ow : List Nat) (w : WX) (X : Cx) (st : Stmt) (s : S) : Prop := PS X st (tSt P c sub W0 H0 ow w s)
abbrev PSS (P : Par) (c : Call) (sub : Nat → Nat → Bool) (W0 : Wd) (H0 : Hp) (ow : List Nat) (w : WX) (X : Cx) (st : List Stmt) (s : List S) : Prop := PSs X st (tSs P c sub W0 H0 ow w s)
theorem p_set {i : Nat} {a : E} {x : Str} {px : Pos} {e : Expr} (nd : X.N.Nodup) (fn : ∀ x, X.fn x = true) (hi : X.N[i]? = some x) (hx : Loc X.env.scope x) (ni : i ∉ ow) (nb : isBor a = false) (he : PEE P c ow w X e a) (hs : swapsWith e (some (.Name x px)) pos.line X.env = pure false) : PST P c sub W0 H0 ow w X (.Assign [.Name x px] e pos) (.set i a) :=
  ps_imp (ps_set nd hi hx he hs (.inl (fn x))) fun N σ H ⟨W, ρ, M, r, h⟩ => useE r h fun d M' W' v H' gg r' rp h' =>
    (show ∀ W' σ H', Gw W H W' H' → RelS P W0 H0 ow W' (put ρ i d) M' σ H' → N.nx σ H' from h') W' _ H' (gg.w r.rel.sto.wf) (r'.put ni (rp.strict nb))
theorem set_k {i : Nat} {a : E} {N : Ends} {σ : L2.St} {H : Hp} {W : Wd} {ρ : Env} {M : Sto} (ni : i ∉ ow) (r : RelS P W0 H0 ow W ρ M σ H) (h : Pst P (RelS P W0 H0 ow) W0 H0 W H N w (evS c sub (.set i a) ρ M)) : tF P c ow w a σ H fun x H1 => gName i x σ H1 N.nx := by
  rw [evS] at h
  refine useF r h fun d M' W' v H' gg r' rf h' => ?_
  obtain ⟨W2, g2, s2, rp⟩ := freeze gg r'.rel.sto rf
  exact (show ∀ W' σ H', Gw W H W' H' → RelS P W0 H0 ow W' (put ρ i d) M' σ H' → N.nx σ H' from h') W2 _ H' (g2.w r.rel.sto.wf) ((r.g g2 s2).put ni rp)
theorem own_k {i : Nat} {a : E} {N : Ends} {σ : L2.St} {H : Hp} {W : Wd} {ρ : Env} {M : Sto} (hi : i ∈ ow) (r : RelS P W0 H0 ow W ρ M σ H) (h : Pst P (RelS P W0 H0 ow) W0 H0 W H N w (evS c sub (.own i a) ρ M)) : tF P c ow w a σ H fun x H1 => gName i x σ H1 N.nx := by
  rw [evS] at h
  refine useF r h fun d M' W' v H' gg r' rf h' => ?_
  cases d with
  | lst ds =>
    obtain ⟨p, rfl, n0, nF, nι, hb⟩ := rf
    refine (show ∀ W' σ H', Gw W H W' H' → RelS P W0 H0 ow W' (put ρ i (.lst ds)) M' σ H' → N.nx σ H' from h') W' _ H' (gg.w r.rel.sto.wf) (r'.putO hi ⟨nF, nι, hb⟩ ?_ fun j hj ne dj ej => ?_)
    · cases z : H0 p with
      | none => rfl
      | some o => exact (r.g0.al p (by rw [z]; exact fun z => nomatch z) n0).elim
    · obtain ⟨a, e1, _, _, hb'⟩ := r.rel.own j dj ej hj
      rw [e1]
      intro z
      cases z
      exact hb'.some n0
  | dct t kvs =>
    obtain ⟨p, rfl, n0, nF, nι, hb⟩ := rf
    refine (show ∀ W' σ H', Gw W H W' H' → RelS P W0 H0 ow W' (put ρ i (.dct t kvs)) M' σ H' → N.nx σ H' from h') W' _ H' (gg.w r.rel.sto.wf) (r'.putO hi ⟨nF, nι, hb⟩ ?_ fun j hj ne dj ej => ?_)
    · cases z : H0 p with
      | none => rfl
      | some o => exact (r.g0.al p (by rw [z]; exact fun z => nomatch z) n0).elim
    · obtain ⟨a, e1, _, _, hb'⟩ := r.rel.own j dj ej hj
      rw [e1]
      intro z
      cases z
      exact hb'.some n0
  | _ => exact (show False from h').elim
theorem p_own {i : Nat} {a : E} {x : Str} {px : Pos} {e : Expr} (ok : CtxOk g P c n X w) (fn : ∀ x, X.fn x = true) (hi : X.N[i]? = some x) (hx : Loc X.env.scope x) (oi : i ∈ ow) (he : PE X e (tF P c ow w a)) (hs : swapsWith e (some (.Name x px)) pos.line X.env = pure false) : PST P c sub W0 H0 ow w X (.Assign [.Name x px] e pos) (.own i a) :=
  ps_imp (ps_set ok.nd hi hx he hs (.inl (fn x))) fun N σ H ⟨W, ρ, M, r, h⟩ => own_k oi r h
def swC (sc : Scope) (x : Str) (px : Pos) : Expr → Bool
  | .ListComp _ _ scope p => (px.line == p.line) && !(scope.names.any fun (n, k) => n == x && (k == .local || k == .cell))
  | _ => false
theorem p_lc {i : Nat} {x : Str} {px pos : Pos} {a it : E} {t : Tg} {cs : List E} {elt tg iter : Expr} {ifs : List Expr} {scope : Scope} {own : List (Str × Nat)} {pc : Pos} {T : TS} (ok : CtxOk g P c n X w) (hk : X.env.scope.kind = .function) (hi : X.N[i]? = some x) (hx : X.env.scope.names.lookup x = some .local)
    (hsw : swC X.env.scope x px (.ListComp elt [⟨tg, iter, ifs, 0⟩] scope pc) = true) (h : CompP P c ow g n w X a t it cs elt tg iter ifs scope own) (hT : ∀ N σ H, T N σ H → tF P c ow w (.comp a t it cs) σ H fun y H1 => gName i y σ H1 N.nx) :
    PS X (.Assign [.Name x px] (.ListComp elt [⟨tg, iter, ifs, 0⟩] scope pc) pos) T := by
  obtain ⟨h1, h2, h3, h4, h5, h6, h7, h8⟩ := h
  unfold swC at hsw
  rw [Bool.and_eq_true, Bool.not_eq_true'] at hsw
  refine ps_imp (ps_setLc (g := gT X.K t) (tt := tC2 P c ow cs) (te := tE P c ow noW a) ok.calm ok.nd hi hx (sw_true hk hx hsw.1 hsw.2) h5 (blkOk_by h1) (fun s H C cl fp => pg_tgt (ok.blk ..) (fb := cellB scope) (fun x h => h) h6) (fun s H C cl fp => pts_cs (h8 _ (ok.blk ..) rfl rfl).1) (fun s H C cl fp => (h8 _ (ok.blk ..) rfl rfl).2) (notSet_fold h4 _)) fun N σ H q => ?_
  exact comp_imp ok.hK h2 h3 h7 σ H _ (hT N σ H q)
theorem puts_out : ∀ {is : List Nat} {ds : List D} {ρ ρ' : Env}, puts ρ is ds = some ρ' → ∀ k, k ∉ is → ρ'[k]? = ρ[k]?
  | [], [], _, _, e, k, _ => by cases e; rfl
  | [], _ :: _, _, _, e, _, _ => by cases e
  | _ :: _, [], _, _, e, _, _ => by cases e
  | i :: is, d :: ds, ρ, _, e, k, hk => by
    rw [puts_out (is := is) (ds := ds) e k fun m => hk (List.mem_cons_of_mem _ m), put, List.getElem?_set_ne (fun z => hk (by rw [← z]; exact List.mem_cons_self))]
theorem putT_out {t : Tg} {d : D} {ρ ρ' : Env} (e : putT ρ t d = some ρ') : ∀ k, k ∉ slots t → ρ'[k]? = ρ[k]? := by
  cases t with
  | one i => exact puts_out (is := [i]) (ds := [d]) e
  | tup is => cases d <;> first | (cases e; done) | exact puts_out e
theorem RelS.tgt {t : Tg} {d : D} {W : Wd} {ρ ρ' : Env} {M : Sto} {σ σ' : L2.St} {H : Hp} (r : RelS P W0 H0 ow W ρ M σ H) (hw : ∀ i ∈ slots t, i ∉ ow) (e : putT ρ t d = some ρ') (r' : Rel P ow W ρ' M σ' H) (k : ∀ k, k ∉ slots t → σ'[k]? = σ[k]?) : RelS P W0 H0 ow W ρ' M σ' H := by
  refine ⟨r', r.g0, fun i hi d' ei a ea => ?_⟩
  have ni : i ∉ slots t := fun z => hw i z hi
  rw [k i ni] at ea
  refine r.new i hi d' ?_ a ea
  have := get_some ei
  rw [putT_out e i ni] at this
  unfold get; rw [this]; rfl
def gTL (K : PySem.W.Frag) (n : Nat) (t : TGs) : TG := fun v σ H Q => gTup K n t v σ H Q ∨ gLst K n t v σ H Q
theorem pg_tl {es : List Expr} {k : Nat} {t : TGs} {n : Nat} (hc : X.calm = true) (h : PGs X es t) (hn : (assignEach es X.env).length = n) (hst : (assignEach es X.env).findIdx? (·.1) = none) : PG X (.Tuple es k pos) (gTL X.K n t) := by
  refine ⟨fun pins s σ H v u Q I r hw => ?_⟩
  rcases hw with hw | hw
  · exact (pg_tup (pos := pos) hc h hn hst).run pins s σ H v u Q I r hw
  · exact (pg_lst (pos := pos) hc h hn hst).run pins s σ H v u Q I r hw
theorem p_unp {is : List Nat} {a : E} {es : List Expr} {kk : Nat} {tp : Pos} {e : Expr} (ok : CtxOk g P c n X w) (B : BodyOk X) (hn : namesC (fun _ => true) X.N X.env.scope is es = true) (hw : ∀ i ∈ is, i ∉ ow) (nb : isBor a = false) (he : PEE P c ow w X e a) (hs : noSw e = true) (ht : swappedStores [.Tuple es kk tp] e X.env = pure none) :
    PST P c sub W0 H0 ow w X (.Assign [.Tuple es kk tp] e pos) (.unp is a) := by
  obtain ⟨h1, h2, h3⟩ := pgs_names ok.nd (fun x _ => B.fn x) hn
  refine ps_imp (ps_asg he (pg_tl ok.calm h1 h2 h3) (noSwS hs _ _) ht rfl) fun N σ H ⟨W, ρ, M, r, h⟩ => ?_
  rw [evS] at h
  refine useE r h fun d M' W' v H' gg r' rp h' => ?_
  have h2 : Pst P (RelS P W0 H0 ow) W0 H0 W H N w (match (seqOf d).bind (puts ρ is) with | some ρ' => .ok .nx ρ' M' | none => .bad) := h'
  clear h'
  cases e1 : (seqOf d).bind (puts ρ is) with
  | none => rw [e1] at h2; exact h2.elim
  | some ρ' =>
    rw [e1] at h2
    have h' : ∀ W' σ H', Gw W H W' H' → RelS P W0 H0 ow W' ρ' M' σ H' → N.nx σ H' := h2
    clear h2
    cases d with
    | tup ds =>
      have e1 : puts ρ is ds = some ρ' := e1
      refine .inl (gT_ok (t := .tup is) ok.hK r'.rel hw (rp.strict nb) e1 fun σ' r3 l3 k3 => ?_)
      exact (show ∀ W' σ H', Gw W H W' H' → RelS P W0 H0 ow W' ρ' M' σ H' → N.nx σ H' from h') W' σ' H' (gg.w r.rel.sto.wf) (r'.tgt (t := .tup is) (d := .tup ds) hw e1 r3 k3)
    | lst ds =>
      have e1 : puts ρ is ds = some ρ' := e1
      obtain ⟨b, vs, rfl, _, eb, _, rs⟩ := rp.strict nb
      refine .inr ⟨b, vs, rfl, .inl (.inl eb), by rw [rs.length, (puts_len e1).1], gSl_ok r'.rel hw rs e1 fun σ' r3 l3 k3 => ?_⟩
      exact (show ∀ W' σ H', Gw W H W' H' → RelS P W0 H0 ow W' ρ' M' σ H' → N.nx σ H' from h') W' σ' H' (gg.w r.rel.sto.wf) (r'.tgt (t := .tup is) (d := .tup ds) hw e1 r3 k3)
    | _ => cases e1
theorem p_par {i j : Nat} {a b : E} {x y : Str} {px py pt p2 : Pos} {kt k2 : Nat} {ea eb : Expr} (ok : CtxOk g P c n X w) (hk : X.env.scope.kind = .function) (hi : X.N[i]? = some x) (hj : X.N[j]? = some y) (ij : i ≠ j) (ni : i ∉ ow) (nj : j ∉ ow) (hsw : swB X.env.scope x px y py ea eb = true) (ha : PA X [ea, eb] (tAs P c ow w [a, b])) (nb : isBor a = false) (nb2 : isBor b = false) :
    PST P c sub W0 H0 ow w X (.Assign [.Tuple [.Name x px, .Name y py] kt pt] (.Tuple [ea, eb] k2 p2) pos) (.par [i, j] [a, b]) := by
  have hx : X.env.scope.names.lookup x = some .local ∧ X.env.scope.names.lookup y = some .local := by
    unfold swB at hsw
    simp only [Bool.and_eq_true, decide_eq_true_eq] at hsw
    exact ⟨hsw.1, hsw.2.1⟩
  refine ps_imp (ps_par ok.calm ok.nd hi hj ij hx.1 hx.2 ha (swPar hk hsw) (noSwS rfl _ _)) fun N σ H ⟨W, ρ, M, r, h⟩ => ?_
  rw [evS] at h
  refine useAs r h fun ds M' W' vs H' gg r' rp h' => ?_
  obtain ⟨d1, ds1, v1, vs1, rfl, rfl, r1, rn⟩ := rp
  obtain ⟨d2, ds2, v2, vs2, rfl, rfl, r2, rn⟩ := rn
  obtain ⟨rfl, rfl⟩ := rn
  refine ⟨v1, v2, rfl, ?_⟩
  exact (show ∀ W' σ H', Gw W H W' H' → RelS P W0 H0 ow W' (put (put ρ i d1) j d2) M' σ H' → N.nx σ H' from h') W' _ H' (gg.w r.rel.sto.wf) ((r'.put ni (r1.strict nb)).put nj (r2.strict nb2))
theorem p_ex {a : E} {e : Expr} (he : PEE P c ow w X e a) (hs : noSw e = true) : PST P c sub W0 H0 ow w X (.Expr e pos) (.ex a) :=
  ps_imp (ps_expr he (noSw_of hs _ _ _)) fun N σ H ⟨W, ρ, M, r, h⟩ => by
    rw [evS] at h
    exact useE r h fun d M' W' v H' gg r' rp h' => (show ∀ W' σ H', Gw W H W' H' → RelS P W0 H0 ow W' ρ M' σ H' → N.nx σ H' from h') W' _ H' (gg.w r.rel.sto.wf) r'
theorem p_ret {a : E} {e : Expr} (nb : isBor a = false) (he : PEE P c ow w X e a) : PST P c sub W0 H0 ow w X (.Return (some e) pos) (.ret a) :=
  ps_imp (ps_ret he) fun N σ H ⟨W, ρ, M, r, h⟩ => by
    rw [evS] at h
    exact useE r h fun d M' W' v H' gg r' rp h' => (show ∀ W' v H', G W0 H0 W' H' → StoR P W' M' H' → Rep P W' H' d v → N.rt v H' from h') W' v H' r'.g0 r'.rel.sto (rp.strict nb)
theorem p_retf {a : E} {e : Expr} (nb : isBor a = false) (he : PEE P c [] w X e a) : PST P c sub W0 H0 ow w X (.Return (some e) pos) (.retf a) :=
  ps_imp (ps_ret he) fun N σ H ⟨W, ρ, M, r, h⟩ => by
    rw [evS] at h
    obtain ⟨W1, r1, g1⟩ := r.few (ow2 := []) (fun i hi => by cases hi)
    refine ⟨W1, ρ, M, r1.rel, ?_⟩
    revert h
    cases evE c a ρ M with
    | bad => intro h; exact h
    | exc e M' => intro h; exact (show False from h).elim
    | ok q =>
      intro h
      have h : ∀ W' v H', G W0 H0 W' H' → StoR P W' q.2 H' → Rep P W' H' q.1 v → N.rt v H' := h
      exact fun W' v H' gg s rp => h W' v H' (r1.g0.trans gg) s (rp.strict nb)
theorem p_reto {i : Nat} {x : Str} {p : Pos} (h : slotB X.N X.env.scope i x = true) (hi : i ∈ ow) : PST P c sub W0 H0 ow w X (.Return (some (.Name x p)) pos) (.reto i) := by
  unfold slotB at h
  simp only [Bool.and_eq_true, decide_eq_true_eq] at h
  obtain ⟨h1, h2, _⟩ := plainName_of h.2
  refine ps_imp (ps_ret (pe_var h.1.1 (vis_of h.1.2) h1 h2)) fun N σ H ⟨W, ρ, M, r, h⟩ => ?_
  rw [evS] at h
  cases e : get ρ i with
  | none => rw [e] at h; exact h.elim
  | some d =>
    rw [e] at h
    obtain ⟨a, e1, nF, nι, hb⟩ := r.rel.own i d e hi
    have rf : RepF P W H0 H d (.ref a) := by
      cases d with
      | lst ds => exact ⟨a, rfl, r.new i hi _ e a e1, nF, nι, hb⟩
      | dct t kvs => exact ⟨a, rfl, r.new i hi _ e a e1, nF, nι, hb⟩
      | _ => exact (show False from hb).elim
    obtain ⟨W2, g2, s2, rp⟩ := freeze r.g0 r.rel.sto rf
    exact ⟨_, e1, (show ∀ W' v H', G W0 H0 W' H' → StoR P W' M H' → Rep P W' H' d v → N.rt v H' from h) W2 _ H g2 s2 rp⟩
theorem p_retn : PST P c sub W0 H0 ow w X (.Return none pos) .retn :=
  ps_imp ps_retN fun N σ H ⟨W, ρ, M, r, h⟩ => by
    rw [evS] at h
    exact (show ∀ W' v H', G W0 H0 W' H' → StoR P W' M H' → Rep P W' H' .non v → N.rt v H' from h) W .non H r.g0 r.rel.sto rfl
theorem p_pass : PST P c sub W0 H0 ow w X (.Pass pos) .pass :=
  ps_imp ps_pass fun N σ H ⟨W, ρ, M, r, h⟩ => by
    rw [evS] at h
    exact (show ∀ W' σ H', Gw W H W' H' → RelS P W0 H0 ow W' ρ M σ H' → N.nx σ H' from h) W σ H .refl r
theorem p_brk : PST P c sub W0 H0 ow w X (.Break pos) .brk :=
  ps_imp ps_break fun N σ H ⟨W, ρ, M, r, h⟩ => by
    rw [evS] at h
    exact (show ∀ W' σ H', Gw W H W' H' → RelS P W0 H0 ow W' ρ M σ H' → N.bk σ H' from h) W σ H .refl r
theorem p_cnt : PST P c sub W0 H0 ow w X (.Continue pos) .cnt :=
  ps_imp ps_continue fun N σ H ⟨W, ρ, M, r, h⟩ => by
    rw [evS] at h
    exact (show ∀ W' σ H', Gw W H W' H' → RelS P W0 H0 ow W' ρ M σ H' → N.ct σ H' from h) W σ H .refl r
theorem p_dead {st : Stmt} : PST P c sub W0 H0 ow w X st .dead :=
  ps_imp ps_never fun N σ H ⟨W, ρ, M, r, h⟩ => by
    rw [evS] at h
    exact h
theorem p_doc {x : Str} {j : Nat} {p : Pos} : PST P c sub W0 H0 ow w X (.Expr (.Constant (.str x) j p) pos) .pass :=
  ps_imp ps_doc fun N σ H ⟨W, ρ, M, r, h⟩ => by
    rw [evS] at h
    exact (show ∀ W' σ H', Gw W H W' H' → RelS P W0 H0 ow W' ρ M σ H' → N.nx σ H' from h) W σ H .refl r
theorem pp_nil : PSS P c sub W0 H0 ow w X [] [] :=
  pss_imp pss_nil fun N σ H ⟨W, ρ, M, r, h⟩ => by
    rw [evSs] at h
    exact (show ∀ W' σ H', Gw W H W' H' → RelS P W0 H0 ow W' ρ M σ H' → N.nx σ H' from h) W σ H .refl r
theorem pp_cons {st : Stmt} {sts : List Stmt} {s : S} {ss : List S} (h1 : PST P c sub W0 H0 ow w X st s) (h2 : PSS P c sub W0 H0 ow w X sts ss) : PSS P c sub W0 H0 ow w X (st :: sts) (s :: ss) :=
  pss_imp (pss_cons h1 h2) fun N σ H ⟨W, ρ, M, r, h⟩ => by
    rw [evSs] at h
    exact ⟨W, ρ, M, r, pst_then h (tSs P c sub W0 H0 ow w ss N) fun ρ' M' e h' W' σ' H' gg r' => ⟨W', ρ', M', r', h'.g gg⟩⟩
theorem p_ite {a : E} {x y : List S} {e : Expr} {sx sy : List Stmt} (he : PTT P c ow w X e a) (hx : PSS P c sub W0 H0 ow w X sx x) (hy : PSS P c sub W0 H0 ow w X sy y) : PST P c sub W0 H0 ow w X (.If e sx sy pos) (.ite a x y) :=
  ps_imp (ps_if he hx hy) fun N σ H ⟨W, ρ, M, r, h⟩ => by
    rw [evS] at h
    refine useT r h (fun d M' hd => ?_) fun b M' W' H' gg r' h' => ?_
    · cases d <;> first | exact ⟨_, rfl⟩ | exact (show False from hd).elim
    · cases b with
      | true =>
        rw [if_pos rfl]
        exact ⟨W', ρ, M', r', Pst.g (gg.w r.rel.sto.wf) h'⟩
      | false =>
        rw [if_neg (by decide)]
        exact ⟨W', ρ, M', r', Pst.g (gg.w r.rel.sto.wf) h'⟩
theorem p_raise {k : Nat} {x : Str} {p pos' : Pos} (ok : CtxOk g P c n X w) (hg : glob X.env.scope x = true) (hp : plainName x = true) (hl : g.gl.lookup x = some (.cl k)) (F : ExcK P k) : PST P c sub W0 H0 ow w X (.Raise (some (.Call (.Name x p) [] [] pos)) none pos') (.raise k []) := by
  obtain ⟨u, v, m1, m2, m3⟩ := ok.gl x _ hl
  have ev : v = .ref (P.ca k) := m3 ⟨[], fun _ => False⟩ (fun _ => none)
  subst ev
  have eu : u = .ref (P.ca k) := m2
  subst eu
  obtain ⟨bmB, B, newId, initId, fx, ex⟩ := F.fx
  have ex' := ex
  rw [← ok.hK] at ex'
  have kp := F.kp
  rw [← ok.hK] at kp
  obtain ⟨h1, h2, _⟩ := plainName_of hp
  have ra : Raises X (.ref (P.ca k)) := raises_own (by rw [ok.hK]; exact F.ra.1) (by rw [ok.hK]; exact F.ra.2)
  have mk : PMk X (.Call (.Name x p) [] [] pos) fun σ H Q => Q (.ref (P.ca k)) none H := by
    intro pins s σ H Q I h
    refine wpAny_Call_Name_kw (ld_glob I (glob_of hg) m1 ?_ h1)
    refine PySem.W.callWith_K0 (first := []) I.kIn kp ?_
    show wpAny _ _ (call (.ref (P.ca k)) []) _ _ _
    obtain ⟨bm, N, nm, qn, bs, hdct, sn, sub, ab, col, dd, k0, k1, k2, k3, k5, mN, hC, hN, hni, T⟩ := exc_obj I.kIn ex'
    refine wpAny_call_exc_subT fx T hC hN hni (fun h' e hm => ?_) (by simp)
    exact mk_of I hm ra h (I.hok.gone hm.new)
  refine ps_imp (ps_raise ok.calm ok.tk mk) fun N σ H ⟨W, ρ, M, r, h⟩ => ?_
  rw [evS, evEs] at h
  exact (show ∀ W' σ H' cls dd, Gw W H W' H' → RelS P W0 H0 ow W' ρ M σ H' → XcR P ⟨k, []⟩ cls dd → w cls dd σ H' from h) W σ H _ none .refl r ⟨rfl, rfl, rfl, F.lt⟩
theorem p_sto {o ix v : E} {eo ei ev : Expr} {tp : Pos} (ok : CtxOk g P c n X w) (ho : PEE P c ow w X eo o) (hi : PEE P c ow w X ei ix) (hv : PEE P c ow w X ev v) (nb : isBor v = false) (hs : noSw ev = true) (hsl : notSlice ei = true) (hni : isBor ix = false) (hno : isBor o = false) :
    PST P c sub W0 H0 ow w X (.Assign [.Subscript eo ei tp] ev pos) (.sto o ix v) := by
  have ha : ∀ v, assign (.Subscript eo ei tp) X.env v = (do
      let ov ← holding [v] (eval eo X.env)
      let iv ← holding [v, ov] (eval ei X.env)
      standAt tp
      holding [v, ov, iv] (setItem ov iv v)
      release [v, ov, iv] []) := by
    intro v
    cases ei <;> first | rfl | cases hsl
  refine ps_imp (ps_asg hv (pg_sub ho hi (set_box (by have := ok.hu; omega)) ha) (noSwS hs _ _) (swSub _) rfl) fun N σ H ⟨W, ρ, M, r, h⟩ => ?_
  rw [evS] at h
  refine useE r h fun d M1 W1 x H1 g1 r1 rp1 h1 => ?_
  refine useE r1 (Pst.g (g1.w r.rel.sto.wf) h1) fun d2 M2 W2 y H2 g2 r2 rp2 h2 => ?_
  refine useE r2 (Pst.g (g2.w r1.rel.sto.wf) h2) fun d3 M3 W3 z H3 g3 r3 rp3 h3 => ?_
  have h3 : Pst P (RelS P W0 H0 ow) W0 H0 W2 H2 N w (match muM .put d2 [d3, d] M3 with | some z => .ok .nx ρ z.2 | none => .bad) := h3
  cases em : muM .put d2 [d3, d] M3 with
  | none => rw [em] at h3; exact h3.elim
  | some zz =>
    rw [em] at h3
    obtain ⟨k, u, q, ek, eu, e3, ez⟩ : ∃ k u q, d2 = .obj k ∧ M3[k]? = some (.val u) ∧ muD .put u [d3, d] = some q ∧ zz = (q.1, M3.set k (.val q.2)) := by
      unfold muM at em
      split at em
      · split at em
        · rename_i hk
          obtain ⟨q, hq, rfl⟩ := Option.map_eq_some_iff.mp em
          exact ⟨_, _, q, rfl, hk, hq, rfl⟩
        · cases em
      · cases em
    subst ek ez
    have r2s := rp2.strict hno
    obtain ⟨a, rfl, ea⟩ := r2s.g g3 r2.rel.sto.wf
    obtain ⟨a', ea', hb⟩ := r3.rel.sto.at_ k _ eu
    rw [ea] at ea'
    cases ea'
    have nF : ¬ W3.F a := fun z => r3.rel.sto.wf.fi a z (List.mem_of_getElem? ea)
    have rpv := ((rp1.strict nb).g g2 r1.rel.sto.wf).g g3 r2.rel.sto.wf
    obtain ⟨o', hQ, hb3⟩ := put_ok nF hb e3 (rp3.strict hni).r rpv
    obtain ⟨r4, gw4⟩ := r3.sto eu ea hb3
    refine hQ _ ?_
    exact (show ∀ W' σ H', Gw W2 H2 W' H' → RelS P W0 H0 ow W' ρ (M3.set k (.val q.2)) σ H' → N.nx σ H' from h3) W3 σ _ ((g3.w r2.rel.sto.wf).trans gw4) r4
theorem var_pe {i : Nat} {x : Str} {p : Pos} (h : slotB X.N X.env.scope i x = true) : PE X (.Name x p) (tVar i) := by
  unfold slotB at h
  simp only [Bool.and_eq_true, decide_eq_true_eq] at h
  obtain ⟨h1, h2, _⟩ := plainName_of h.2
  exact pe_var h.1.1 (vis_of h.1.2) h1 h2
theorem tVar_mono {i : Nat} (σ : L2.St) (H : Hp) (Q Q' : VK) (q : tVar i σ H Q) (k : ∀ x H1, Q x H1 → Q' x H1) : tVar i σ H Q' := by
  obtain ⟨v, e, h⟩ := q
  exact ⟨v, e, k _ _ h⟩
theorem p_omu {m : Mu} {i : Nat} {as : List E} {x : Str} {px apos cpos : Pos} {es : List Expr} (ok : CtxOk g P c n X w) (hx : slotB X.N X.env.scope i x = true) (hi : i ∈ ow) (h : muB m as es = true) (hln : (apos.endLine == cpos.line) = true) (hst : (es.all notStar) = true) (ha : PA X es (tAs P c ow w as)) (hle : as.length = es.length) :
    PST P c sub W0 H0 ow w X (.Expr (.Call (.Attribute (.Name x px) (muN m) apos) es [] cpos) pos) (.omu m i as) := by
  obtain ⟨hm, hlet⟩ := mu_ne h
  refine ps_imp (ps_expr (pe_mu (by have := ok.hu; omega) h rfl hln (var_pe hx) tVar_mono hst ha hle) (noSw_of rfl _ _ _)) fun N σ H ⟨W, ρ, M, r, h⟩ => ?_
  rw [evS] at h
  cases eg : get ρ i with
  | none => rw [eg] at h; exact h.elim
  | some d =>
    rw [eg] at h
    have h : Pst P (RelS P W0 H0 ow) W0 H0 W H N w (if muFit m d = true then (evEs c as ρ M).toS ρ fun r => match muD m d (muArg m r.2 r.1) with
        | some q => .ok .nx (put ρ i q.2) r.2
        | none => .bad
      else .bad) := h
    split at h
    · rename_i fit
      obtain ⟨p, ep, nF, nι, hb⟩ := r.rel.own i d eg hi
      refine ⟨.ref p, ep, mu_ty hb fit hm, ?_⟩
      refine useAs r h fun ds M' W' vs H' gg r' rp h' => ?_
      obtain ⟨p', ep', nF', nι', hb'⟩ := r'.rel.own i d eg hi
      rw [ep] at ep'
      cases ep'
      have h' : Pst P (RelS P W0 H0 ow) W0 H0 W H N w (match muD m d (muArg m M' ds) with
        | some q => .ok .nx (put ρ i q.2) M'
        | none => .bad) := h'
      cases e3 : muD m d (muArg m M' ds) with
      | none => rw [e3] at h'; exact h'.elim
      | some zz =>
        rw [e3] at h'
        obtain ⟨o', yv, hQ, hb3, ry⟩ := mu_ok nF' hb' e3 hm (muAs_of r'.rel.sto hlet rp)
        obtain ⟨r2, g2⟩ := r'.chg hi eg ep hb3
        refine hQ _ ?_
        exact (show ∀ W' σ H', Gw W H W' H' → RelS P W0 H0 ow W' (put ρ i zz.2) M' σ H' → N.nx σ H' from h') W' σ _ ((gg.w r.rel.sto.wf).trans g2) r2
    · exact h.elim
theorem p_osm {m : Mu} {i j : Nat} {as : List E} {x y : Str} {px py apos cpos : Pos} {es : List Expr} (ok : CtxOk g P c n X w) (nd : X.N.Nodup) (fn : ∀ x, X.fn x = true) (hN : X.N[j]? = some y) (hy : Loc X.env.scope y) (nj : j ∉ ow) (hx : slotB X.N X.env.scope i x = true) (hi : i ∈ ow) (h : muB m as es = true) (hlet0 : muLet m = false) (hln : (apos.endLine == cpos.line) = true) (hst : (es.all notStar) = true) (ha : PA X es (tAs P c ow w as)) (hle : as.length = es.length) :
    PST P c sub W0 H0 ow w X (.Assign [.Name y py] (.Call (.Attribute (.Name x px) (muN m) apos) es [] cpos) pos) (.osm j m i as) := by
  obtain ⟨hm, hlet⟩ := mu_ne h
  refine ps_imp (ps_set nd hN hy (pe_mu (by have := ok.hu; omega) h rfl hln (var_pe hx) tVar_mono hst ha hle) (noSw_of rfl _ _ _) (.inl (fn y))) fun N σ H ⟨W, ρ, M, r, h⟩ => ?_
  rw [evS] at h
  cases eg : get ρ i with
  | none => rw [eg] at h; exact h.elim
  | some d =>
    rw [eg] at h
    have h : Pst P (RelS P W0 H0 ow) W0 H0 W H N w (if muFit m d = true then (evEs c as ρ M).toS ρ fun r => match muD m d r.1 with
        | some q => .ok .nx (put (put ρ i q.2) j q.1) r.2
        | none => .bad
      else .bad) := h
    split at h
    · rename_i fit
      obtain ⟨p, ep, nF, nι, hb⟩ := r.rel.own i d eg hi
      refine ⟨.ref p, ep, mu_ty hb fit hm, ?_⟩
      refine useAs r h fun ds M' W' vs H' gg r' rp h' => ?_
      obtain ⟨p', ep', nF', nι', hb'⟩ := r'.rel.own i d eg hi
      rw [ep] at ep'
      cases ep'
      have h' : Pst P (RelS P W0 H0 ow) W0 H0 W H N w (match muD m d ds with
        | some q => .ok .nx (put (put ρ i q.2) j q.1) M'
        | none => .bad) := h'
      cases e3 : muD m d ds with
      | none => rw [e3] at h'; exact h'.elim
      | some zz =>
        rw [e3] at h'
        have ra := muAs_of r'.rel.sto hlet rp
        have e3' : muD m d (muArg m M' ds) = some zz := by
          cases m <;> first | exact e3 | cases hlet0
        obtain ⟨o', yv, hQ, hb3, ry⟩ := mu_ok nF' hb' e3' hm ra
        obtain ⟨r2, g2⟩ := r'.chg hi eg ep hb3
        refine hQ _ ?_
        exact (show ∀ W' σ H', Gw W H W' H' → RelS P W0 H0 ow W' (put (put ρ i zz.2) j zz.1) M' σ H' → N.nx σ H' from h') W' _ _ ((gg.w r.rel.sto.wf).trans g2) (r2.put nj ry)
    · exact h.elim
theorem p_oput {i : Nat} {ix v : E} {x : Str} {px : Pos} {ei ev : Expr} {tp : Pos} (ok : CtxOk g P c n X w) (hx : slotB X.N X.env.scope i x = true) (hi : i ∈ ow) (hix : PEE P c ow w X ei ix) (hv : PEE P c ow w X ev v) (nb : isBor v = false) (hs : noSw ev = true) (hsl : notSlice ei = true) (hni : isBor ix = false) :
    PST P c sub W0 H0 ow w X (.Assign [.Subscript (.Name x px) ei tp] ev pos) (.oput i ix v) := by
  have ha : ∀ v, assign (.Subscript (.Name x px) ei tp) X.env v = (do
      let ov ← holding [v] (eval (.Name x px) X.env)
      let iv ← holding [v, ov] (eval ei X.env)
      standAt tp
      holding [v, ov, iv] (setItem ov iv v)
      release [v, ov, iv] []) := by
    intro v
    cases ei <;> first | rfl | cases hsl
  refine ps_imp (ps_asg hv (pg_sub (var_pe hx) hix (set_box (by have := ok.hu; omega)) ha) (noSwS hs _ _) (swSub _) rfl) fun N σ H ⟨W, ρ, M, r, h⟩ => ?_
  rw [evS] at h
  refine useE r h fun d M1 W1 u H1 g1 r1 rp1 h1 => ?_
  have h1 : Pst P (RelS P W0 H0 ow) W0 H0 W H N w (match get ρ i with | some dd => (if isBox dd = true then (evE c ix ρ M1).toS ρ fun p => (match muD .put dd [p.1, d] with | some z => .ok .nx (put ρ i z.2) p.2 | none => .bad) else .bad) | _ => .bad) := h1
  cases eg : get ρ i with
  | none => rw [eg] at h1; exact h1.elim
  | some dd =>
    rw [eg] at h1
    have h1 : Pst P (RelS P W0 H0 ow) W0 H0 W H N w (if isBox dd = true then (evE c ix ρ M1).toS ρ fun p => (match muD .put dd [p.1, d] with | some z => .ok .nx (put ρ i z.2) p.2 | none => .bad) else .bad) := h1
    split at h1
    · obtain ⟨p, ep, nF, nι, hb⟩ := r1.rel.own i dd eg hi
      refine ⟨.ref p, ep, ?_⟩
      refine useE r1 (Pst.g (g1.w r.rel.sto.wf) h1) fun d3 M3 W3 z H3 g3 r3 rp3 h3 => ?_
      have h3 : Pst P (RelS P W0 H0 ow) W0 H0 W1 H1 N w (match muD .put dd [d3, d] with | some z => .ok .nx (put ρ i z.2) M3 | none => .bad) := h3
      cases e3 : muD .put dd [d3, d] with
      | none => rw [e3] at h3; exact h3.elim
      | some zz =>
        rw [e3] at h3
        obtain ⟨p', ep', nF', nι', hb'⟩ := r3.rel.own i dd eg hi
        rw [ep] at ep'
        cases ep'
        obtain ⟨o', hQ, hb3⟩ := put_ok nF' hb' e3 (rp3.strict hni).r ((rp1.strict nb).g g3 r1.rel.sto.wf)
        obtain ⟨r4, g4⟩ := r3.chg hi eg ep hb3
        refine hQ _ ?_
        exact (show ∀ W' σ H', Gw W1 H1 W' H' → RelS P W0 H0 ow W' (put ρ i zz.2) M3 σ H' → N.nx σ H' from h3) W3 σ _ ((g3.w r1.rel.sto.wf).trans g4) r4
    · exact h1.elim
theorem ip_aug {o : BO} (ho : o = .add ∨ o = .sub) : PIp X (boOp o) (fun x y H Q => ∃ W M a b d, StoR P W M H ∧ Rep P W H a x ∧ RepR P W H b y ∧ augD o a b = some d ∧ ∀ v, Rep P W H d v → Q v H) := by
  intro pins s σ H x y v u Q I rx ry h
  obtain ⟨W, M, a, b, d, st, ra, rb, e, q⟩ := h
  unfold augD at e
  split at e
  · cases e
    have ex : x = .int _ := ra
    have ey : y = .int _ := rb
    subst ex ey
    exact in_add pins s σ H _ _ v u Q I rx ry ⟨_, _, rfl, rfl, q _ rfl⟩
  · cases e
    have ex : x = .int _ := ra
    have ey : y = .int _ := rb
    subst ex ey
    exact in_sub pins s σ H _ _ v u Q I rx ry ⟨_, _, rfl, rfl, q _ rfl⟩
  · split at e
    · rename_i hz
      cases e
      obtain ⟨rfl, l1, c1⟩ := ra
      obtain ⟨rfl, l2, c2⟩ := rb
      refine iop_add_str pins s σ H _ _ v u Q I rx ry ⟨_, _, rfl, rfl, ?_, ?_⟩
      · rw [S'_len, S'_len, ← SZ_line]; exact hz
      · rw [S'_app]
        exact q _ ⟨rfl, by rw [List.length_append]; exact hz, fun z hz' => (List.mem_append.mp hz').elim (c1 z) (c2 z)⟩
    · cases e
  · cases e
theorem p_aug {i : Nat} {o : BO} {a : E} {x : Str} {px : Pos} {e : Expr} (nd : X.N.Nodup) (fn : ∀ x, X.fn x = true) (hN : X.N[i]? = some x) (hl : Loc X.env.scope x) (hi : i ∉ ow) (ho : o = .add ∨ o = .sub) (he : PEE P c ow w X e a) :
    PST P c sub W0 H0 ow w X (.AugAssign (.Name x px) (boOp o) e pos) (.aug i o a) := by
  refine ps_imp (ps_aug nd hN hl he (ip_aug (P := P) ho) (.inl (fn x))) fun N σ H ⟨W, ρ, M, r, h⟩ => ?_
  rw [evS] at h
  cases eg : get ρ i with
  | none => rw [eg] at h; exact h.elim
  | some d =>
    rw [eg] at h
    obtain ⟨v, ev, rv⟩ := r.rel.fz i d eg hi
    refine ⟨v, ev, useE r h fun d2 M' W' y H' gg r' rp h' => ?_⟩
    have h' : Pst P (RelS P W0 H0 ow) W0 H0 W H N w (match augD o d d2 with | some v => .ok .nx (put ρ i v) M' | none => .bad) := h'
    cases ea : augD o d d2 with
    | none => rw [ea] at h'; exact h'.elim
    | some z =>
      rw [ea] at h'
      refine ⟨W', M', d, d2, z, r'.rel.sto, rv.g gg r.rel.sto.wf, rp.w.rr, ea, fun v' rv' => ?_⟩
      exact (show ∀ W' σ H', Gw W H W' H' → RelS P W0 H0 ow W' (put ρ i z) M' σ H' → N.nx σ H' from h') W' _ H' (gg.w r.rel.sto.wf) (r'.put hi rv')
theorem whlN_succ {cond : Env → Sto → R (D × Sto)} {body : Env → Sto → RS} {k : Nat} {ρ : Env} {M : Sto} : whlN cond body (k + 1) ρ M = (cond ρ M).toS ρ fun r => match r.1 with
    | .bl false => .ok .nx ρ r.2
    | .bl true => (match body ρ r.2 with
      | .ok .nx ρ2 M2 => whlN cond body k ρ2 M2
      | .ok .ct ρ2 M2 => whlN cond body k ρ2 M2
      | .ok .bk ρ2 M2 => .ok .nx ρ2 M2
      | .ok (.rt d) ρ2 M2 => .ok (.rt d) ρ2 M2
      | .exc e ρ2 M2 => .exc e ρ2 M2
      | .bad => .bad)
    | _ => .bad := rfl
theorem loop_end {Z : RL} {W : Wd} {H : Hp} {N : Ends} {r : RS} {f : Env → Sto → RS} {U : L2.St → Hp → Prop} (h : Pst P Z W0 H0 W H N w (match r with
      | .ok .nx ρ2 M2 => f ρ2 M2
      | .ok .ct ρ2 M2 => f ρ2 M2
      | .ok .bk ρ2 M2 => .ok .nx ρ2 M2
      | .ok (.rt d) ρ2 M2 => .ok (.rt d) ρ2 M2
      | .exc e ρ2 M2 => .exc e ρ2 M2
      | .bad => .bad)) (k : ∀ ρ2 M2, Pst P Z W0 H0 W H N w (f ρ2 M2) → ∀ W' σ H', Gw W H W' H' → Z W' ρ2 M2 σ H' → U σ H') : Pst P Z W0 H0 W H { N with nx := U, ct := U, bk := N.nx } w r := by
  cases r with
  | bad => exact h
  | exc e ρ M => exact h
  | ok fl ρ M =>
    cases fl with
    | nx => exact k ρ M h
    | ct => exact k ρ M h
    | bk => exact h
    | rt d => exact h
theorem p_whl {a : E} {b : List S} {e : Expr} {body : List Stmt} (B : BodyOk X) (he : PTT P c ow w X e a) (hb : PSS P c sub W0 H0 ow w X body b) : PST P c sub W0 H0 ow w X (.While e body [] pos) (.whl a b) :=
  ps_imp (ps_while B.po he hb) fun N σ H ⟨W, ρ, M, r, h⟩ => by
    rw [evS] at h
    refine ⟨fun m σ' H' => ∃ W' ρ' M', RelS P W0 H0 ow W' ρ' M' σ' H' ∧ Pst P (RelS P W0 H0 ow) W0 H0 W' H' N w (whlN (evE c a) (evSs c sub b) m ρ' M'), ⟨WF, W, ρ, M, r, h⟩, ?_⟩
    rintro m σ1 H1 ⟨W1, ρ1, M1, r1, h1⟩
    cases m with
    | zero => exact h1.elim
    | succ m =>
      rw [whlN_succ] at h1
      refine useT r1 h1 (fun d M' hd => ?_) fun k M' W' H' gg r' h' => ?_
      · cases d <;> first | exact ⟨_, rfl⟩ | exact (show False from hd).elim
      · cases k with
        | false =>
          rw [if_neg (by decide)]
          exact (show ∀ W' σ H', Gw W1 H1 W' H' → RelS P W0 H0 ow W' ρ1 M' σ H' → N.nx σ H' from h') W' _ H' (gg.w r1.rel.sto.wf) r'
        | true =>
          rw [if_pos rfl]
          refine ⟨_, fun σ' H' h => ⟨m, Nat.lt_succ_self m, h⟩, W', ρ1, M', r', loop_end (Pst.g (gg.w r1.rel.sto.wf) h') fun ρ2 M2 h2 W2 σ2 H2 g2 r2 => ⟨W2, ρ2, M2, r2, h2.g g2⟩⟩
theorem forL_cons {body : Env → Sto → RS} {t : Tg} {d : D} {ds : List D} {ρ ρ' : Env} {M : Sto} (e : putT ρ t d = some ρ') : forL body t (d :: ds) ρ M = (match body ρ' M with
      | .ok .nx ρ2 M2 => forL body t ds ρ2 M2
      | .ok .ct ρ2 M2 => forL body t ds ρ2 M2
      | .ok .bk ρ2 M2 => .ok .nx ρ2 M2
      | .ok (.rt d) ρ2 M2 => .ok (.rt d) ρ2 M2
      | .exc e ρ2 M2 => .exc e ρ2 M2
      | .bad => .bad) := by
  rw [forL, e] <;> rfl
theorem forL_none {body : Env → Sto → RS} {t : Tg} {d : D} {ds : List D} {ρ : Env} {M : Sto} (e : putT ρ t d = none) : forL body t (d :: ds) ρ M = .bad := by
  rw [forL, e]
theorem p_for {t : Tg} {a : E} {b : List S} {tg iter : Expr} {body : List Stmt} (ok : CtxOk g P c n X w) (B : BodyOk X) (hi : PI X tg iter (tI Gw P c ow w a)) (hg : chkG (fun _ => true) X.N X.env.scope t tg = true) (hw : ∀ i ∈ slots t, i ∉ ow) (hset : notSet iter = true) (hb : PSS P c sub W0 H0 ow w X body b) :
    PST P c sub W0 H0 ow w X (.For tg iter body [] pos) (.for t a b) :=
  ps_imp (ps_for B.po ok.calm hi (pg_tgt ok (fun x _ => B.fn x) hg) hb (notSet_fold hset _)) fun N σ H ⟨W, ρ, M, r, h⟩ => by
    rw [evS] at h
    refine ⟨W, ρ, M, r.rel, R.sat_mono (pst_toS h) (fun q hq => ?_) fun e M' hx => xk_of r hx⟩
    cases e : itemsW a q.1 with
    | none => rw [e] at hq; exact hq.elim
    | some ds =>
      rw [e] at hq
      have hq : Pst P (RelS P W0 H0 ow) W0 H0 W H N w (forL (evSs c sub b) t ds ρ q.2) := hq
      refine ⟨ds, rfl, fun W1 H1 J g1 s1 wk => ?_⟩
      have r1 := r.g g1 s1
      refine ⟨fun i m σ' H' => m = ds.length - i ∧ i ≤ ds.length ∧ ∃ W' ρ' M', RelS P W0 H0 ow W' ρ' M' σ' H' ∧ Gw W1 H1 W' H' ∧ Pst P (RelS P W0 H0 ow) W0 H0 W' H' N w (forL (evSs c sub b) t (ds.drop i) ρ' M'),
        ⟨_, rfl, Nat.zero_le _, W1, ρ, q.2, r1, .refl, Pst.g (g1.w r.rel.sto.wf) (by simpa using hq)⟩, ?_⟩
      rintro i m σ2 H2 ⟨rfl, hle, W2, ρ2, M2, r2, g2, h2⟩
      by_cases hlt : i < ds.length
      · obtain ⟨go, yl⟩ := wk.go W2 H2 M2 i g2 r2.rel.sto hlt
        rw [List.drop_eq_getElem_cons hlt] at h2
        cases ep : putT ρ2 t ds[i] with
        | none => rw [forL_none ep] at h2; exact h2.elim
        | some ρ3 =>
          rw [forL_cons ep] at h2
          refine .inr ⟨go, fun σ' H' => i + 1 ≤ ds.length ∧ ∃ W' ρ' M', RelS P W0 H0 ow W' ρ' M' σ' H' ∧ Gw W1 H1 W' H' ∧ Pst P (RelS P W0 H0 ow) W0 H0 W' H' N w (forL (evSs c sub b) t (ds.drop (i + 1)) ρ' M'), fun σ' H' hh => ⟨_, by omega, rfl, hh⟩, fun x H' y => ?_⟩
          obtain ⟨W5, gy, s5, d, hd, rp⟩ := yl x H' y
          have r5 := r2.g gy s5
          have gyw := gy.w r2.rel.sto.wf
          rw [List.getElem?_eq_getElem hlt] at hd
          cases hd
          refine gT_ok ok.hK r5.rel hw rp ep fun σ3 r3 l3 k3 => ?_
          exact ⟨W5, ρ3, M2, r5.tgt hw ep r3 k3, loop_end (Pst.g gyw h2) fun ρ4 M4 h4 W4 σ4 H4 g4 r4 => ⟨hlt, W4, ρ4, M4, r4, (g2.trans gyw).trans g4, h4.g g4⟩⟩
      · have ei : i = ds.length := by omega
        subst ei
        refine .inl ⟨wk.stop W2 H2 _ g2 (Nat.le_refl _), ?_⟩
        rw [List.drop_length] at h2
        exact (show ∀ W' σ H', Gw W2 H2 W' H' → RelS P W0 H0 ow W' ρ2 M2 σ H' → N.nx σ H' from h2) W2 _ H2 .refl r2
def hdS (c : Call) (sub : Nat → Nat → Bool) (k : Nat) (h : List S) (k2 : Option Nat) (h2 : List S) (e : Xc) (ρ1 : Env) (M1 : Sto) : RS := if sub e.cls k then evSs c sub h ρ1 M1 else (match k2 with
        | none => .exc e ρ1 M1
        | some j => if sub e.cls j then evSs c sub h2 ρ1 M1 else .exc e ρ1 M1)
theorem CtxOk.tr {W' : WX} (o : CtxOk g P c n X w) (pn : List (Addr × Obj)) (xe : Value → Shared → Prop) (t : Takes (X.tr pn xe) W') : CtxOk g P c n (X.tr pn xe) W' := ⟨o.hK, o.hw, o.nd, o.calm, o.room, t, o.gl, o.fns, o.fv, o.bi, o.ty⟩
theorem try_body {b : List S} {W : Wd} {ρ : Env} {M : Sto} {H : Hp} {N : Ends} {f : Xc → Env → Sto → RS} {Wt : WX} (h : Pst P (RelS P W0 H0 ow) W0 H0 W H N w (match evSs c sub b ρ M with | .exc e ρ1 M1 => f e ρ1 M1 | r => r))
    (k : ∀ e ρ1 M1, Pst P (RelS P W0 H0 ow) W0 H0 W H N w (f e ρ1 M1) → ∀ W' σ H' cls dd, Gw W H W' H' → RelS P W0 H0 ow W' ρ1 M1 σ H' → XcR P e cls dd → Wt cls dd σ H') : Pst P (RelS P W0 H0 ow) W0 H0 W H N Wt (evSs c sub b ρ M) := by
  cases e : evSs c sub b ρ M with
  | bad => rw [e] at h; exact h
  | exc x ρ1 M1 => rw [e] at h; exact k x ρ1 M1 h
  | ok fl ρ1 M1 =>
    rw [e] at h
    cases fl with
    | nx => exact h
    | ct => exact h
    | bk => exact h
    | rt d => exact h
theorem p_try2 {b h h2 : List S} {k j : Nat} {x y : Str} {px py p1 p2 : Pos} {body : List Stmt} {b₁ b₂ : Stmt} {s₁ s₂ : List Stmt} (ok : CtxOk g P c n X w) (B : BodyOk X) (so : SubOk P sub) (gx : glob X.env.scope x = true) (plx : plainName x = true) (lx : g.gl.lookup x = some (.cl k)) (kl : k < P.nc)
    (gy : glob X.env.scope y = true) (ply : plainName y = true) (ly : g.gl.lookup y = some (.cl j)) (jl : j < P.nc)
    (hb : ∀ (W' : WX) (pn : List (Addr × Obj)) (xe : Value → Shared → Prop), Takes (X.tr pn xe) W' → PassesOwn (model X.prog X.w) X.A X.env xe → PSS P c sub W0 H0 ow W' (X.tr pn xe) body b)
    (hh : ∀ (a : Addr) (pn : List (Addr × Obj)), PSS P c sub W0 H0 ow w (X.suite a pn) (b₁ :: s₁) h) (hh2 : ∀ (a : Addr) (pn : List (Addr × Obj)), PSS P c sub W0 H0 ow w (X.suite a pn) (b₂ :: s₂) h2) :
    PST P c sub W0 H0 ow w X (.Try body [.ExceptHandler (some (.Name x px)) none (b₁ :: s₁) p1, .ExceptHandler (some (.Name y py)) none (b₂ :: s₂) p2] [] [] pos) (.try b k h (some j) h2) := by
  have nm : ∀ {z : Str} {i : Nat}, glob X.env.scope z = true → plainName z = true → g.gl.lookup z = some (.cl i) → Names X z (.ref (P.ca i)) := fun {z i} h1 h2 h3 => by
    obtain ⟨u, v, m1, m2, m3⟩ := ok.gl z _ h3
    have ev : v = .ref (P.ca i) := m3 ⟨[], fun _ => False⟩ (fun _ => none)
    subst ev
    have eu : u = .ref (P.ca i) := m2
    subst eu
    exact ⟨glob_of h1, (plainName_of h2).1, .inl m1⟩
  refine ps_imp (ps_try_many (tb := fun W' => tSs P c sub W0 H0 ow W' b) (l := [(.ref (P.ca k), fun _ _ _ => tSs P c sub W0 H0 ow w h), (.ref (P.ca j), fun _ _ _ => tSs P c sub W0 H0 ow w h2)]) B.hs B.hf ok.tk hb
    (.cons (nm gx plx lx) (fun a oe cls d pn _ _ => hh a _) (.cons (nm gy ply ly) (fun a oe cls d pn _ _ => hh2 a _) .nil))) fun N σ H ⟨W, ρ, M, r, hs⟩ => ?_
  rw [evS] at hs
  refine ⟨W, ρ, M, r, try_body (f := hdS c sub k h (some j) h2) hs fun e ρ1 M1 he W' σ' H' cls dd gg r' xr => ?_⟩
  obtain ⟨ec, _, ed, elt⟩ := xr
  subst ec ed
  unfold hdS at he
  refine ⟨sub e.cls k, by rw [ok.hK]; exact so _ _ elt kl, fun hy a _ => ?_, fun hn => ?_⟩
  · rw [if_pos hy] at he
    exact ⟨W', ρ1, M1, r', he.g gg⟩
  · rw [if_neg (by rw [hn]; exact Bool.false_ne_true)] at he
    have he : Pst P (RelS P W0 H0 ow) W0 H0 W H N w (if sub e.cls j then evSs c sub h2 ρ1 M1 else .exc e ρ1 M1) := he
    refine ⟨sub e.cls j, by rw [ok.hK]; exact so _ _ elt jl, fun hy a _ => ?_, fun hn2 => ?_⟩
    · rw [if_pos hy] at he
      exact ⟨W', ρ1, M1, r', he.g gg⟩
    · rw [if_neg (by rw [hn2]; exact Bool.false_ne_true)] at he
      exact (show ∀ W' σ H' cls dd, Gw W H W' H' → RelS P W0 H0 ow W' ρ1 M1 σ H' → XcR P e cls dd → w cls dd σ H' from he) W' σ' H' _ _ gg r' ⟨rfl, by assumption, rfl, elt⟩
theorem p_try1 {b h h2 : List S} {k : Nat} {x : Str} {px p1 : Pos} {body : List Stmt} {b₁ : Stmt} {s₁ : List Stmt} (ok : CtxOk g P c n X w) (B : BodyOk X) (so : SubOk P sub) (gx : glob X.env.scope x = true) (plx : plainName x = true) (lx : g.gl.lookup x = some (.cl k)) (kl : k < P.nc)
    (hb : ∀ (W' : WX) (pn : List (Addr × Obj)) (xe : Value → Shared → Prop), Takes (X.tr pn xe) W' → PassesOwn (model X.prog X.w) X.A X.env xe → PSS P c sub W0 H0 ow W' (X.tr pn xe) body b)
    (hh : ∀ (a : Addr) (pn : List (Addr × Obj)), PSS P c sub W0 H0 ow w (X.suite a pn) (b₁ :: s₁) h) :
    PST P c sub W0 H0 ow w X (.Try body [.ExceptHandler (some (.Name x px)) none (b₁ :: s₁) p1] [] [] pos) (.try b k h none h2) := by
  have nm : ∀ {z : Str} {i : Nat}, glob X.env.scope z = true → plainName z = true → g.gl.lookup z = some (.cl i) → Names X z (.ref (P.ca i)) := fun {z i} h1 h2 h3 => by
    obtain ⟨u, v, m1, m2, m3⟩ := ok.gl z _ h3
    have ev : v = .ref (P.ca i) := m3 ⟨[], fun _ => False⟩ (fun _ => none)
    subst ev
    have eu : u = .ref (P.ca i) := m2
    subst eu
    exact ⟨glob_of h1, (plainName_of h2).1, .inl m1⟩
  refine ps_imp (ps_try_many (tb := fun W' => tSs P c sub W0 H0 ow W' b) (l := [(.ref (P.ca k), fun _ _ _ => tSs P c sub W0 H0 ow w h)]) B.hs B.hf ok.tk hb
    (.cons (nm gx plx lx) (fun a oe cls d pn _ _ => hh a _) .nil)) fun N σ H ⟨W, ρ, M, r, hs⟩ => ?_
  rw [evS] at hs
  refine ⟨W, ρ, M, r, try_body (f := hdS c sub k h none h2) hs fun e ρ1 M1 he W' σ' H' cls dd gg r' xr => ?_⟩
  obtain ⟨ec, _, ed, elt⟩ := xr
  subst ec ed
  unfold hdS at he
  refine ⟨sub e.cls k, by rw [ok.hK]; exact so _ _ elt kl, fun hy a _ => ?_, fun hn => ?_⟩
  · rw [if_pos hy] at he
    exact ⟨W', ρ1, M1, r', he.g gg⟩
  · rw [if_neg (by rw [hn]; exact Bool.false_ne_true)] at he
    exact (show ∀ W' σ H' cls dd, Gw W H W' H' → RelS P W0 H0 ow W' ρ1 M1 σ H' → XcR P e cls dd → w cls dd σ H' from he) W' σ' H' _ _ gg r' ⟨rfl, by assumption, rfl, elt⟩
end
end Ev
set_option Elab.async false
set_option linter.all false
set_option autoImplicit false
set_option maxRecDepth 100000
set_option maxHeartbeats 4000000
namespace Ev
open PySem PySem.Spec PyProof.Rows L2
def litB (d : D) : Expr → Bool
  | .Constant (.int i) _ _ => same d (.int i)
  | .Constant (.bool b) _ _ => same d (.bl b)
  | .Constant .none _ _ => same d .non
  | .Constant (.str x) _ _ => same d (.str x.cps.toList) && decide (x.cps.size ≤ SZ) && x.cps.toList.all fun c => decide (c < 1114112)
  | _ => false
def chkH (N : List Str) (ow : List Nat) (sc : Scope) : S → Stmt → Bool
  | .set i (.con d), .Assign [.Name x _] e _ => decide (N[i]? = some x) && locl sc x && !ow.contains i && litB d e
  | .ret (.con d), .Return (some e) _ => litB d e
  | .pass, .Pass _ => true
  | .brk, .Break _ => true
  | .cnt, .Continue _ => true
  | .dead, _ => true
  | _, _ => false
def chkHs (N : List Str) (ow : List Nat) (sc : Scope) : List S → List Stmt → Bool
  | [], sts => sts.isEmpty
  | s :: ss, st :: sts => chkH N ow sc s st && chkHs N ow sc ss sts
  | _ :: _, [] => false
def isCompE : E → Bool
  | .comp _ _ _ _ => true
  | _ => false
def clsB (g : Cfg) (sc : Scope) (x : Str) (k : Nat) : Bool := glob sc x && plainName x && (match g.gl.lookup x with | some d => same d (.cl k) | none => false)
mutual
def chkS (g : Cfg) (N : List Str) (ow : List Nat) (sc : Scope) : S → Stmt → Bool
  | .set i a, st => (match st with
    | .Assign [.Name x px] e _ => decide (N[i]? = some x) && locl sc x && !ow.contains i && !isBor a && chkE g N ow sc a e && ((noSw e || cellSw sc x e) || (isCompE a && swC sc x px e && decide (sc.names.lookup x = some .local)))
    | _ => false)
  | .own i a, st => (match st with
    | .Assign [.Name x px] e _ => decide (N[i]? = some x) && locl sc x && ow.contains i && isNew a && chkE g N ow sc a e && ((noSw e || cellSw sc x e) || (isCompE a && swC sc x px e && decide (sc.names.lookup x = some .local)))
    | _ => false)
  | .unp is a, st => (match st with
    | .Assign [.Tuple es _ _] e _ => namesC (fun _ => true) N sc is es && (is.all fun i => !ow.contains i) && !isBor a && chkE g N ow sc a e && noSw e && swU sc es e
    | _ => false)
  | .ex a, st => (match st with
    | .Expr e _ => chkE g N ow sc a e && noSw e
    | _ => false)
  | .ret a, st => (match st with
    | .Return (some e) _ => !isBor a && chkE g N ow sc a e
    | _ => false)
  | .retf a, st => (match st with
    | .Return (some e) _ => !isBor a && chkE g N [] sc a e
    | _ => false)
  | .reto i, st => (match st with
    | .Return (some (.Name x _)) _ => slotB N sc i x && ow.contains i
    | _ => false)
  | .retn, st => (match st with
    | .Return none _ => true
    | _ => false)
  | .pass, st => (match st with
    | .Pass _ => true
    | .Expr (.Constant (.str _) _ _) _ => true
    | _ => false)
  | .brk, st => (match st with
    | .Break _ => true
    | _ => false)
  | .cnt, st => (match st with
    | .Continue _ => true
    | _ => false)
  | .dead, _ => true
  | .ite a x y, st => (match st with
    | .If e sx sy _ => tstB a && chkE g N ow sc a e && chkSs g N ow sc x sx && chkSs g N ow sc y sy
    | _ => false)
  | .whl a b, st => (match st with
    | .While e body [] _ => tstB a && chkE g N ow sc a e && chkSs g N ow sc b body
    | _ => false)
  | .for t a b, st => (match st with
    | .For tg iter body [] _ => chkG (fun _ => true) N sc t tg && ((slots t).all fun i => !ow.contains i) && notSet iter && (chkI g N ow sc (isTupX tg) a iter || (!isBor a && chkE g N ow sc a iter)) && chkSs g N ow sc b body
    | _ => false)
  | .raise k as, st => (match st with
    | .Raise (some (.Call (.Name x _) [] [] _)) none _ => as.isEmpty && clsB g sc x k && g.ex.contains k
    | _ => false)
  | .try b k h k2 h2, st => (match st with
    | .Try body [.ExceptHandler (some (.Name x _)) none (b₁ :: s₁) _] [] [] _ => k2.isNone && clsB g sc x k && decide (k < g.nc) && chkHs N ow sc h (b₁ :: s₁) && chkSs g N ow sc b body
    | .Try body [.ExceptHandler (some (.Name x _)) none (b₁ :: s₁) _, .ExceptHandler (some (.Name y _)) none (b₂ :: s₂) _] [] [] _ => (match k2 with
      | some j => clsB g sc x k && decide (k < g.nc) && chkHs N ow sc h (b₁ :: s₁) && clsB g sc y j && decide (j < g.nc) && chkHs N ow sc h2 (b₂ :: s₂) && chkSs g N ow sc b body
      | none => false)
    | _ => false)
  | .sto o ix v, st => (match st with
    | .Assign [.Subscript eo ei _] ev _ => noSw ev && notSlice ei && !isBor o && !isBor ix && !isBor v && chkE g N ow sc o eo && chkE g N ow sc ix ei && chkE g N ow sc v ev
    | _ => false)
  | .par is es, st => (match st with
    | .Assign [.Tuple [.Name x px, .Name y py] _ _] (.Tuple [ea, eb] _ _) _ => (match is, es with
      | [i, j], [a, b] => decide (N[i]? = some x) && decide (N[j]? = some y) && decide (i ≠ j) && !ow.contains i && !ow.contains j && swB sc x px y py ea eb && chkEs g N ow sc es [ea, eb] && !isBor a && !isBor b
      | _, _ => false)
    | _ => false)
  | .aug i o a, st => (match st with
    | .AugAssign (.Name x _) op e _ => decide (op = boOp o) && (decide (o = .add) || decide (o = .sub)) && decide (N[i]? = some x) && locl sc x && !ow.contains i && chkE g N ow sc a e
    | _ => false)
  | .omu m i as, st => (match st with
    | .Expr (.Call (.Attribute (.Name x _) name apos) es [] cpos) _ => decide (name = muN m) && slotB N sc i x && ow.contains i && (apos.endLine == cpos.line) && muB m as es && chkEs g N ow sc as es
    | _ => false)
  | .osm j m i as, st => (match st with
    | .Assign [.Name y _] (.Call (.Attribute (.Name x _) name apos) es [] cpos) _ => decide (name = muN m) && decide (N[j]? = some y) && locl sc y && !ow.contains j && slotB N sc i x && ow.contains i && (apos.endLine == cpos.line) && muB m as es && !muLet m && chkEs g N ow sc as es
    | _ => false)
  | .oput i ix v, st => (match st with
    | .Assign [.Subscript (.Name x _) ei _] ev _ => slotB N sc i x && ow.contains i && noSw ev && notSlice ei && !isBor ix && !isBor v && chkE g N ow sc ix ei && chkE g N ow sc v ev
    | _ => false)
def chkSs (g : Cfg) (N : List Str) (ow : List Nat) (sc : Scope) : List S → List Stmt → Bool
  | [], sts => sts.isEmpty
  | s :: ss, sts => (match sts with
    | st :: sts => chkS g N ow sc s st && chkSs g N ow sc ss sts
    | [] => false)
end
structure XsOk (g : Cfg) (P : Par) (sub : Nat → Nat → Bool) : Prop where
  so : SubOk P sub
  ex : ∀ k ∈ g.ex, ExcK P k
  nc : g.nc = P.nc
section
variable {P : Par} {c : Call} {sub : Nat → Nat → Bool} {W0 : Wd} {H0 : Hp} {ow : List Nat} {g : Cfg} {n : Nat}
theorem lit_e {X : Cx} {w : WX} {d : D} {e : Expr} (h : litB d e = true) : PEE P c ow w X e (.con d) ∧ noSw e = true := by
  unfold litB at h
  split at h
  · rw [same_eq _ _ h]
    exact ⟨x_con (d := .int _) (pe_int (X := X)) fun _ _ => rfl, rfl⟩
  · rw [same_eq _ _ h]
    exact ⟨x_con (d := .bl _) (pe_bl (X := X)) fun _ _ => rfl, rfl⟩
  · rw [same_eq _ _ h]
    exact ⟨x_con (d := .non) (pe_non (X := X)) fun _ _ => rfl, rfl⟩
  · rename_i y _ _
    simp only [Bool.and_eq_true, decide_eq_true_eq, List.all_eq_true] at h
    rw [same_eq _ _ h.1.1]
    exact ⟨x_con (d := .str y.cps.toList) (pe_str (X := X)) fun _ _ => ⟨by rw [S'_of], by simpa using h.1.2, h.2⟩, rfl⟩
  · cases h
theorem hdl {X : Cx} {w : WX} (nd : X.N.Nodup) (fn : ∀ x, X.fn x = true) : ∀ (ss : List S) (sts : List Stmt), chkHs X.N ow X.env.scope ss sts = true → PSS P c sub W0 H0 ow w X sts ss
  | [], sts, h => by
    have e : sts = [] := by simpa [chkHs] using h
    subst e
    exact pp_nil
  | s :: ss, [], h => by simp [chkHs] at h
  | s :: ss, st :: sts, h => by
    rw [chkHs, Bool.and_eq_true] at h
    refine pp_cons ?_ (hdl nd fn ss sts h.2)
    have h := h.1
    unfold chkH at h
    split at h
    · simp only [Bool.and_eq_true, decide_eq_true_eq, Bool.not_eq_true'] at h
      obtain ⟨⟨⟨h1, h2⟩, h3⟩, h4⟩ := h
      have l := lit_e (P := P) (c := c) (ow := ow) (w := w) (X := X) h4
      exact p_set nd fn h1 (locl_of h2) (by simpa using h3) rfl l.1 (noSw_of l.2 _ _ _)
    · exact p_ret rfl (lit_e h).1
    · exact p_pass
    · exact p_brk
    · exact p_cnt
    · exact p_dead
    · cases h
theorem clsB_of {X : Cx} {x : Str} {k : Nat} (h : clsB g X.env.scope x k = true) : glob X.env.scope x = true ∧ plainName x = true ∧ g.gl.lookup x = some (.cl k) := by
  unfold clsB at h
  simp only [Bool.and_eq_true] at h
  refine ⟨h.1.1, h.1.2, ?_⟩
  have h2 := h.2
  split at h2
  · rename_i d hd
    rw [hd, same_eq _ _ h2]
  · cases h2
theorem kind_of {X : Cx} (h : X.env.scope.kind = .function) : X.env.scope.kind = .function := h
def StmOk (P : Par) (c : Call) (sub : Nat → Nat → Bool) (W0 : Wd) (H0 : Hp) (ow : List Nat) (g : Cfg) (n : Nat) (s : S) : Prop := ∀ (X : Cx) (w : WX) (st : Stmt), CtxOk g P c n X w → BodyOk X → X.env.scope.kind = .function → chkS g X.N ow X.env.scope s st = true → PST P c sub W0 H0 ow w X st s
def StmsOk (P : Par) (c : Call) (sub : Nat → Nat → Bool) (W0 : Wd) (H0 : Hp) (ow : List Nat) (g : Cfg) (n : Nat) (s : List S) : Prop := ∀ (X : Cx) (w : WX) (st : List Stmt), CtxOk g P c n X w → BodyOk X → X.env.scope.kind = .function → chkSs g X.N ow X.env.scope s st = true → PSS P c sub W0 H0 ow w X st s
theorem isComp_of {a : E} (h : isCompE a = true) : ∃ e t it cs, a = .comp e t it cs := by
  cases a <;> first | exact ⟨_, _, _, _, rfl⟩ | cases h
theorem o_set {i : Nat} {a : E} : StmOk P c sub W0 H0 ow g n (.set i a) := fun X w st ok B hk h => by
  unfold chkS at h
  split at h
  · simp only [Bool.and_eq_true, decide_eq_true_eq, Bool.not_eq_true', Bool.or_eq_true] at h
    obtain ⟨⟨⟨⟨⟨h1, h2⟩, h3⟩, h4⟩, h5⟩, h6⟩ := h
    rcases h6 with h6 | h6
    · exact p_set ok.nd B.fn h1 (locl_of h2) (by simpa using h3) h4 ((snd a).ee ok h5) (h6.elim (fun h => noSw_of h _ _ _) cellSw_of)
    · obtain ⟨e', t, it, cs, rfl⟩ := isComp_of h6.1.1
      obtain ⟨elt, tg, iter, ifs, scope, pos, own, rfl, hp⟩ := comp_parts (snd e') (snd it) (snds cs) ok h5
      exact p_lc ok hk h1 h6.2 h6.1.2 hp fun N σ H ⟨W, ρ, M, r, h⟩ => set_k (by simpa using h3) r h
  · cases h
theorem o_own {i : Nat} {a : E} : StmOk P c sub W0 H0 ow g n (.own i a) := fun X w st ok B hk h => by
  unfold chkS at h
  split at h
  · simp only [Bool.and_eq_true, decide_eq_true_eq, Bool.not_eq_true', Bool.or_eq_true] at h
    obtain ⟨⟨⟨⟨⟨h1, h2⟩, h3⟩, h4⟩, h5⟩, h6⟩ := h
    have oi : i ∈ ow := by simpa using h3
    rcases h6 with h6 | h6
    · have q := (snd a).e X w _ ok h5
      unfold tX at q
      rw [if_pos h4] at q
      exact p_own ok B.fn h1 (locl_of h2) oi q (h6.elim (fun h => noSw_of h _ _ _) cellSw_of)
    · obtain ⟨e', t, it, cs, rfl⟩ := isComp_of h6.1.1
      obtain ⟨elt, tg, iter, ifs, scope, pos, own, rfl, hp⟩ := comp_parts (snd e') (snd it) (snds cs) ok h5
      exact p_lc ok hk h1 h6.2 h6.1.2 hp fun N σ H ⟨W, ρ, M, r, h⟩ => own_k oi r h
  · cases h
mutual
theorem stm (xs : XsOk g P sub) : ∀ s : S, StmOk P c sub W0 H0 ow g n s
  | .set i a => o_set
  | .own i a => o_own
  | .unp is a => fun X w st ok B hk h => by
    unfold chkS at h
    split at h
    · simp only [Bool.and_eq_true, Bool.not_eq_true', List.all_eq_true] at h
      obtain ⟨⟨⟨⟨⟨h1, h2⟩, h3⟩, h4⟩, h5⟩, h6⟩ := h
      exact p_unp ok B h1 (fun i hi => by simpa using h2 i hi) h3 ((snd a).ee ok h4) h5 (swU_of h6)
    · cases h
  | .ex a => fun X w st ok B hk h => by
    unfold chkS at h
    split at h
    · rw [Bool.and_eq_true] at h
      exact p_ex ((snd a).ee ok h.1) h.2
    · cases h
  | .ret a => fun X w st ok B hk h => by
    unfold chkS at h
    split at h
    · rw [Bool.and_eq_true, Bool.not_eq_true'] at h
      exact p_ret h.1 ((snd a).ee ok h.2)
    · cases h
  | .retf a => fun X w st ok B hk h => by
    unfold chkS at h
    split at h
    · rw [Bool.and_eq_true, Bool.not_eq_true'] at h
      exact p_retf h.1 ((snd a).ee ok h.2)
    · cases h
  | .reto i => fun X w st ok B hk h => by
    unfold chkS at h
    split at h
    · rw [Bool.and_eq_true] at h
      exact p_reto h.1 (by simpa using h.2)
    · cases h
  | .retn => fun X w st ok B hk h => by
    unfold chkS at h
    split at h
    · exact p_retn
    · cases h
  | .pass => fun X w st ok B hk h => by
    unfold chkS at h
    split at h
    · exact p_pass
    · exact p_doc
    · cases h
  | .brk => fun X w st ok B hk h => by
    unfold chkS at h
    split at h
    · exact p_brk
    · cases h
  | .cnt => fun X w st ok B hk h => by
    unfold chkS at h
    split at h
    · exact p_cnt
    · cases h
  | .dead => fun X w st ok B hk h => p_dead
  | .ite a x y => fun X w st ok B hk h => by
    unfold chkS at h
    split at h
    · simp only [Bool.and_eq_true] at h
      obtain ⟨⟨⟨h1, h2⟩, h3⟩, h4⟩ := h
      exact p_ite ((snd a).t X w _ ok h2 h1) (stms xs x X w _ ok B hk h3) (stms xs y X w _ ok B hk h4)
    · cases h
  | .whl a b => fun X w st ok B hk h => by
    unfold chkS at h
    split at h
    · simp only [Bool.and_eq_true] at h
      obtain ⟨⟨h1, h2⟩, h3⟩ := h
      exact p_whl B ((snd a).t X w _ ok h2 h1) (stms xs b X w _ ok B hk h3)
    · cases h
  | .for t a b => fun X w st ok B hk h => by
    unfold chkS at h
    split at h
    · rename_i tg iter body pos
      simp only [Bool.and_eq_true, Bool.or_eq_true, Bool.not_eq_true', List.all_eq_true] at h
      obtain ⟨⟨⟨⟨h1, h2⟩, h3⟩, h4⟩, h5⟩ := h
      have hi : PI X tg iter (tI Gw P c ow w a) := by
        rcases h4 with h4 | h4
        · exact (snd a).i X w iter tg ok h4 Gw (fun _ _ _ _ _ gg => gg)
        · exact pi_val ok.hK (fun _ _ _ _ _ gg => gg) (.inl h4.1) ((snd a).ee ok h4.2)
      exact p_for ok B hi h1 (fun i hi => by simpa using h2 i hi) h3 (stms xs b X w _ ok B hk h5)
    · cases h
  | .raise k as => fun X w st ok B hk h => by
    unfold chkS at h
    split at h
    · simp only [Bool.and_eq_true] at h
      obtain ⟨⟨h1, h2⟩, h3⟩ := h
      have e : as = [] := by simpa using h1
      subst e
      obtain ⟨k1, k2, k3⟩ := clsB_of h2
      exact p_raise ok k1 k2 k3 (xs.ex k (by simpa using h3))
    · cases h
  | .try b k h' k2 h2' => fun X w st ok B hk h => by
    unfold chkS at h
    split at h
    · simp only [Bool.and_eq_true, decide_eq_true_eq] at h
      obtain ⟨⟨⟨⟨h1, h2⟩, h3⟩, h4⟩, h5⟩ := h
      have e : k2 = none := by simpa using h1
      subst e
      obtain ⟨a1, a2, a3⟩ := clsB_of h2
      exact p_try1 ok B xs.so a1 a2 a3 (by rw [← xs.nc]; exact h3) (fun W' pn xe tk po => stms xs b _ W' _ (ok.tr pn xe tk) ⟨B.fn, B.hs, B.hf, po⟩ hk h5) fun a pn => hdl (X := X.suite a pn) ok.nd B.fn _ _ h4
    · split at h
      · simp only [Bool.and_eq_true, decide_eq_true_eq] at h
        obtain ⟨⟨⟨⟨⟨⟨h1, h2⟩, h3⟩, h4⟩, h5⟩, h6⟩, h7⟩ := h
        obtain ⟨a1, a2, a3⟩ := clsB_of h1
        obtain ⟨b1, b2, b3⟩ := clsB_of h4
        exact p_try2 ok B xs.so a1 a2 a3 (by rw [← xs.nc]; exact h2) b1 b2 b3 (by rw [← xs.nc]; exact h5) (fun W' pn xe tk po => stms xs b _ W' _ (ok.tr pn xe tk) ⟨B.fn, B.hs, B.hf, po⟩ hk h7) (fun a pn => hdl (X := X.suite a pn) ok.nd B.fn _ _ h3) fun a pn => hdl (X := X.suite a pn) ok.nd B.fn _ _ h6
      · cases h
    · cases h
  | .sto o ix v => fun X w st ok B hk h => by
    unfold chkS at h
    split at h
    · simp only [Bool.and_eq_true, Bool.not_eq_true'] at h
      obtain ⟨⟨⟨⟨⟨⟨⟨h1, h2⟩, h3⟩, h4⟩, h5⟩, h6⟩, h7⟩, h8⟩ := h
      exact p_sto ok ((snd o).ee ok h6) ((snd ix).ee ok h7) ((snd v).ee ok h8) h5 h1 h2 h4 h3
    · cases h
  | .par is es => fun X w st ok B hk h => by
    unfold chkS at h
    split at h
    · split at h
      · simp only [Bool.and_eq_true, Bool.not_eq_true', decide_eq_true_eq] at h
        obtain ⟨⟨⟨⟨⟨⟨⟨⟨h1, h2⟩, h3⟩, h4⟩, h5⟩, h6⟩, h7⟩, h8⟩, h9⟩ := h
        exact p_par ok hk h1 h2 h3 (by simpa using h4) (by simpa using h5) h6 ((snds _).2 X w _ ok h7) h8 h9
      · cases h
    · cases h
  | .aug i o a => fun X w st ok B hk h => by
    unfold chkS at h
    split at h
    · simp only [Bool.and_eq_true, Bool.or_eq_true, Bool.not_eq_true', decide_eq_true_eq] at h
      obtain ⟨⟨⟨⟨⟨rfl, h1⟩, h2⟩, h3⟩, h4⟩, h5⟩ := h
      exact p_aug ok.nd B.fn h2 (locl_of h3) (by simpa using h4) h1 ((snd a).ee ok h5)
    · cases h
  | .omu m i as => fun X w st ok B hk h => by
    unfold chkS at h
    split at h
    · simp only [Bool.and_eq_true] at h
      obtain ⟨⟨⟨⟨⟨h1, h2⟩, h3⟩, h4⟩, h5⟩, h6⟩ := h
      have h1 := of_decide_eq_true h1
      subst h1
      obtain ⟨q1, q2⟩ := chkEs_star h6
      exact p_omu ok h2 (by simpa using h3) h5 h4 q1 ((snds as).2 X w _ ok h6) q2.symm
    · cases h
  | .osm j m i as => fun X w st ok B hk h => by
    unfold chkS at h
    split at h
    · simp only [Bool.and_eq_true, Bool.not_eq_true'] at h
      obtain ⟨⟨⟨⟨⟨⟨⟨⟨⟨h1, h2⟩, h3⟩, h4⟩, h5⟩, h6⟩, h7⟩, h8⟩, h9⟩, h10⟩ := h
      have h1 := of_decide_eq_true h1
      subst h1
      obtain ⟨q1, q2⟩ := chkEs_star h10
      exact p_osm ok ok.nd B.fn (of_decide_eq_true h2) (locl_of h3) (by simpa using h4) h5 (by simpa using h6) h8 h9 h7 q1 ((snds as).2 X w _ ok h10) q2.symm
    · cases h
  | .oput i ix v => fun X w st ok B hk h => by
    unfold chkS at h
    split at h
    · simp only [Bool.and_eq_true, Bool.not_eq_true'] at h
      obtain ⟨⟨⟨⟨⟨⟨⟨h1, h2⟩, h3⟩, h4⟩, h5⟩, h6⟩, h7⟩, h8⟩ := h
      exact p_oput ok h1 (by simpa using h2) ((snd ix).ee ok h7) ((snd v).ee ok h8) h6 h3 h4 h5
    · cases h
theorem stms (xs : XsOk g P sub) : ∀ ss : List S, StmsOk P c sub W0 H0 ow g n ss
  | [] => fun X w st ok B hk h => by
    have e : st = [] := by simpa [chkSs] using h
    subst e
    exact pp_nil
  | s :: ss => fun X w st ok B hk h => by
    unfold chkSs at h
    split at h
    · rw [Bool.and_eq_true] at h
      exact pp_cons (stm xs s X w _ ok B hk h.1) (stms xs ss X w _ ok B hk h.2)
    · cases h
end
def Z0 (P : Par) (W0 : Wd) (H0 : Hp) : RL := fun W _ M _ H => G W0 H0 W H ∧ StoR P W M H
theorem pst_sub {Z Z' : RL} {W : Wd} {H : Hp} {N : Ends} {w : WX} {r : RS} (z : ∀ W ρ M σ H, Z' W ρ M σ H → Z W ρ M σ H) (h : Pst P Z W0 H0 W H N w r) : Pst P Z' W0 H0 W H N w r := by
  cases r with
  | bad => exact h
  | exc e ρ M => exact fun W' σ H' cls dd g1 r => h W' σ H' cls dd g1 (z _ _ _ _ _ r)
  | ok fl ρ M =>
    cases fl with
    | nx => exact fun W' σ H' g1 r => h W' σ H' g1 (z _ _ _ _ _ r)
    | bk => exact fun W' σ H' g1 r => h W' σ H' g1 (z _ _ _ _ _ r)
    | ct => exact fun W' σ H' g1 r => h W' σ H' g1 (z _ _ _ _ _ r)
    | rt d => exact h
theorem relS_z {ow : List Nat} (W : Wd) (ρ : Env) (M : Sto) (σ : L2.St) (H : Hp) (r : RelS P W0 H0 ow W ρ M σ H) : Z0 P W0 H0 W ρ M σ H := ⟨r.g0, r.rel.sto⟩
def tTwo (P : Par) (c : Call) (sub : Nat → Nat → Bool) (W0 : Wd) (H0 : Hp) (ow : List Nat) (w : WX) (a : List S) : TS := fun N σ H => ∃ W ρ M, RelS P W0 H0 ow W ρ M σ H ∧ Pst P (Z0 P W0 H0) W0 H0 W H N w (evSs c sub a ρ M)
theorem two_ok {X : Cx} {w : WX} {ow2 : List Nat} (xs : XsOk g P sub) (ok : CtxOk g P c n X w) (B : BodyOk X) (hk : X.env.scope.kind = .function) (hs : ∀ i ∈ ow2, i ∈ ow) (b : List S) : ∀ (k : Nat) (b1 : List S) (sts : List Stmt),
    chkSs g X.N ow X.env.scope b1 (sts.take k) = true → chkSs g X.N ow2 X.env.scope b (sts.drop k) = true → PSs X sts (tTwo P c sub W0 H0 ow w (b1 ++ b))
  | k, [], sts, h1, h2 => by
    have e : sts.take k = [] := by simpa [chkSs] using h1
    have e2 : sts = sts.drop k := by
      have := List.take_append_drop k sts
      rw [e] at this
      exact this.symm
    rw [← e2] at h2
    refine pss_imp (stms (W0 := W0) (H0 := H0) xs b X w sts ok B hk h2) fun N σ H ⟨W, ρ, M, r, h⟩ => ?_
    obtain ⟨W1, r1, g1⟩ := r.few hs
    exact ⟨W1, ρ, M, r1, Pst.g g1 (pst_sub relS_z h)⟩
  | 0, s :: ss, sts, h1, h2 => by simp [chkSs] at h1
  | k + 1, s :: ss, [], h1, h2 => by simp [chkSs] at h1
  | k + 1, s :: ss, st :: sts, h1, h2 => by
    simp only [List.take_succ_cons, List.drop_succ_cons] at h1 h2
    rw [chkSs, Bool.and_eq_true] at h1
    refine pss_imp (pss_cons (stm (W0 := W0) (H0 := H0) xs s X w st ok B hk h1.1) (two_ok xs ok B hk hs b k ss sts h1.2 h2)) fun N σ H ⟨W, ρ, M, r, h⟩ => ?_
    have h : Pst P (Z0 P W0 H0) W0 H0 W H N w ((evS c sub s ρ M).then (evSs c sub (ss ++ b))) := by
      rw [List.cons_append, evSs] at h
      exact h
    refine ⟨W, ρ, M, r, ?_⟩
    revert h
    cases evS c sub s ρ M with
    | bad => intro h; exact h
    | exc e ρ' M' => intro h; exact pst_sub relS_z (show Pst P (Z0 P W0 H0) W0 H0 W H N w (.exc e ρ' M') from h)
    | ok fl ρ' M' =>
      cases fl with
      | nx => intro h; exact fun W' σ' H' gg r' => ⟨W', ρ', M', r', Pst.g gg h⟩
      | bk => intro h; exact fun W' σ' H' gg r' => (show ∀ W' σ H', Gw W H W' H' → Z0 P W0 H0 W' ρ' M' σ H' → N.bk σ H' from h) W' σ' H' gg (relS_z _ _ _ _ _ r')
      | ct => intro h; exact fun W' σ' H' gg r' => (show ∀ W' σ H', Gw W H W' H' → Z0 P W0 H0 W' ρ' M' σ H' → N.ct σ H' from h) W' σ' H' gg (relS_z _ _ _ _ _ r')
      | rt d => intro h; exact h
end
end Ev
set_option Elab.async false
set_option linter.all false
set_option autoImplicit false
set_option maxRecDepth 100000
set_option maxHeartbeats 4000000
namespace Ev
open PySem PySem.Spec PyProof.Rows L2
structure Df where
  gn : Str
  name : Str
  st : Stmt
  N : List Str
  ps : List Str
  fn : Fn
  k : Nat
  ow2 : List Nat
def scB (N P : List Str) (sc : Scope) : Bool := (match sc.kind with | .function => true | _ => false) && !sc.isCoroutine && !sc.isGenerator && decide N.Nodup && decide (N.take P.length = P) &&
  (P.all fun x => decide (sc.names.lookup x = some .local) || decide (sc.names.lookup x = some .cell)) && (sc.names.all fun y => match y.2 with | .free => false | _ => true)
theorem scB_ok {N P : List Str} {sc : Scope} (h : scB N P sc = true) : FnScope N P sc := by
  unfold scB at h
  simp only [Bool.and_eq_true, List.all_eq_true, decide_eq_true_eq, Bool.not_eq_true', Bool.or_eq_true] at h
  obtain ⟨⟨⟨⟨⟨⟨h1, h2⟩, h3⟩, h4⟩, h5⟩, h6⟩, h7⟩ := h
  refine ⟨?_, h2, h3, h4, h5, h6, fun y hy e => ?_⟩
  · split at h1
    · assumption
    · cases h1
  · have := h7 y hy
    rw [e] at this
    cases this
def dfOk (g : Cfg) (d : Df) : Bool := scB d.N d.ps (defScope d.st) && decide (d.ps.length = d.fn.np) && decide (d.N.length = d.fn.ns) && decide (d.fn.np ≤ d.fn.ns) && (d.fn.ow.all fun i => decide (d.fn.np ≤ i)) && chkSs g d.N d.fn.ow (defScope d.st) (d.fn.body.take d.k) ((defBody d.st).take d.k) && chkSs g d.N d.ow2 (defScope d.st) (d.fn.body.drop d.k) ((defBody d.st).drop d.k) && (d.ow2.all fun i => d.fn.ow.contains i)
def Bnd (d : Df) : Prop := ∀ (kV doc pm : Value) (an : Option Addr) (cdv ct : Value) (us : List Value), us.length = d.ps.length → bindArgs (PySem.W.fnOf d.name d.name (defArgs d.st) (defBody d.st) (defScope d.st) .none kV doc pm an cdv ct) ⟨us, []⟩ = pure (d.ps.zip us)
def Bnds : List Df → Prop
  | [] => True
  | d :: r => Bnd d ∧ Bnds r
theorem Bnds.get : ∀ {ds : List Df} {i : Nat} {d : Df}, Bnds ds → ds[i]? = some d → Bnd d
  | [], _, _, _, e => by simp at e
  | _ :: _, 0, _, h, e => by simp at e; subst e; exact h.1
  | _ :: _, i + 1, _, h, e => Bnds.get h.2 (by simpa using e)
abbrev FnP (K : PySem.W.Frag) (d : Df) (f : Addr) (fd : FuncData) : Prop := FunD K d.name d.name (defArgs d.st) (defBody d.st) (defScope d.st) [] [] f fd
structure ModOk (g : Cfg) (P : Par) (w : World) (mg : Str → Option Value) (ds : List Df) : Prop where
  hw : P.w = w
  nf : g.nf = ds.length
  gl : ∀ x d, g.gl.lookup x = some d → ∃ u v, mg x = some u ∧ RelV v u ∧ ∀ W H, Rep P W H d v
  fn : ∀ x f, g.gl.lookup x = some (.fn f) → ∃ d, ds[f]? = some d ∧ mg x = some (.ref (P.fa f))
  bi : ∀ x b, g.bi.lookup x = some b → mg x = none ∧ bootBuiltins x = some (biVal b)
  ty : ∀ x t, g.ty.lookup x = some t → mg x = none ∧ bootBuiltins x = some (.type t)
section
variable {g : Cfg} {P : Par} {sub : Nat → Nat → Bool} {ds : List Df} {prog : Program} {w : World} {mg : Str → Option Value} {base : Heap}
theorem start_get {ds' : List D} {k i : Nat} {d : D} (h : get (ds'.map some ++ List.replicate k none) i = some d) : ds'[i]? = some d := by
  have e := get_some h
  by_cases hi : i < ds'.length
  · rw [List.getElem?_append_left (by simpa using hi), List.getElem?_map] at e
    cases q : ds'[i]? with
    | none => rw [q] at e; cases e
    | some z => rw [q] at e; cases e; rfl
  · rw [List.getElem?_append_right (by simpa using hi), List.getElem?_replicate] at e
    split at e <;> cases e
theorem run_succ {Γ : List Fn} {n f : Nat} {ds : List D} {M : Sto} : run sub Γ (n + 1) f ds M = match Γ[f]? with
    | none => .bad
    | some F => if ds.length = F.np then (evSs (run sub Γ n) sub F.body (startE F ds) M).out else .bad := rfl
theorem defs_ok (mo : ModOk g P w mg ds) (xs : XsOk g P sub) (bn : Bnds ds) (fd : ∀ i d, ds[i]? = some d → ∃ fd, FnP P.K d (P.fa i) fd) (ck : ds.all (dfOk g) = true) :
    ∀ n i d, ds[i]? = some d → ∀ fd, FnP P.K d (P.fa i) fd → FnOk prog w P.K mg base (L2.CX prog w) n (P.fa i) fd d.ps (spF P (run sub (ds.map (·.fn)) n) i)
  | 0, i, d, hd, fd, F => by
    have no : ∀ vs H Q E, ¬ spF P (run sub (ds.map (·.fn)) 0) i vs H Q E := fun vs H Q E ⟨W, M, ds', st, rp, hs⟩ => hs
    exact ⟨fun vs H Q E h => (no _ _ _ _ h).elim, fun A outer s H args us vs Q E _ _ _ _ h => (no _ _ _ _ h).elim⟩
  | n + 1, i, d, hd, fd', F => by
    have ih := defs_ok mo xs bn fd ck n
    have ok : dfOk g d = true := List.all_eq_true.mp ck d (List.mem_of_getElem? hd)
    unfold dfOk at ok
    simp only [Bool.and_eq_true, decide_eq_true_eq, List.all_eq_true] at ok
    obtain ⟨⟨⟨⟨⟨⟨⟨k1, k2⟩, k3⟩, k4⟩, k5⟩, k6⟩, k7⟩, k8⟩ := ok
    have S := scB_ok k1
    have hΓ : (ds.map (·.fn))[i]? = some d.fn := by rw [List.getElem?_map, hd]; rfl
    have un : ∀ vs H Q E, spF P (run sub (ds.map (·.fn)) (n + 1)) i vs H Q E → ∃ W M ds', StoR P W M H ∧ Reps P W H ds' vs ∧ ds'.length = d.fn.np ∧
        ((evSs (run sub (ds.map (·.fn)) n) sub d.fn.body (startE d.fn ds') M).out).sat (fun r => ∀ W' v H', G W H W' H' → StoR P W' r.2 H' → Rep P W' H' r.1 v → Q v H') fun e M' => ∀ W' H' cls dd, G W H W' H' → StoR P W' M' H' → XcR P e cls dd → E cls dd H' := fun vs H Q E ⟨W, M, ds', st, rp, hs⟩ => by
      rw [run_succ, hΓ] at hs
      have hs : (if ds'.length = d.fn.np then (evSs (run sub (ds.map (·.fn)) n) sub d.fn.body (startE d.fn ds') M).out else .bad : R (D × Sto)).sat (fun r => ∀ W' v H', G W H W' H' → StoR P W' r.2 H' → Rep P W' H' r.1 v → Q v H') (fun e M' => ∀ W' H' cls dd, G W H W' H' → StoR P W' M' H' → XcR P e cls dd → E cls dd H') := hs
      split at hs
      · rename_i hl
        exact ⟨W, M, ds', st, rp, hl, hs⟩
      · exact hs.elim
    refine F.ok S (fun vs H Q E h => ?_) (fun cdv A outer s H vs Q E hr h => ?_)
    · obtain ⟨W, M, ds', st, rp, hl, _⟩ := un vs H Q E h
      rw [rp.length, hl, k2]
    · obtain ⟨W, M, ds', st, rp, hl, hs⟩ := un vs H Q E h
      let X := cxOf (L2.CX prog w) prog w P.K mg base d.N d.name (defScope d.st) (P.fa i) cdv A outer s H E
      have cx : CtxOk g P (run sub (ds.map (·.fn)) n) n X (fun cls dd _ H' => E cls dd H') :=
        ⟨rfl, mo.hw.symm, S.nd, rfl, hr, takes_of rfl rfl rfl rfl, mo.gl, fun x f hx => by
          obtain ⟨d2, h2, m2⟩ := mo.fn x f hx
          refine ⟨m2, ?_⟩
          rw [mo.nf]
          exact (List.getElem?_eq_some_iff.mp h2).1, fun f hf => by
          rw [mo.nf] at hf
          have h2 := List.getElem?_eq_getElem hf
          obtain ⟨fd2, F2⟩ := fd f _ h2
          exact ⟨fd2, _, F2.kp, F2.bindsN (bn.get h2), ih f _ h2 fd2 F2⟩, mo.bi, mo.ty⟩
      have bo : BodyOk X := ⟨fun _ => rfl, rfl, rfl, passes_of rfl⟩
      refine ⟨tTwo P (run sub (ds.map (·.fn)) n) sub W H d.fn.ow (fun cls dd _ H' => E cls dd H') d.fn.body, (by
        have q := two_ok (W0 := W) (H0 := H) xs cx bo S.kind (fun i hi => by simpa using k8 i hi) (d.fn.body.drop d.k) d.k (d.fn.body.take d.k) _ k6 k7
        rw [List.take_append_drop] at q
        exact q), W, startE d.fn ds', M, ?_, ?_⟩
      · have nul : ∀ j ∈ d.fn.ow, get (startE d.fn ds') j = none := fun j hj => by
          cases e : get (startE d.fn ds') j with
          | none => rfl
          | some z =>
            have := (List.getElem?_eq_some_iff.mp (start_get e)).1
            have := k5 j hj
            omega
        refine ⟨⟨st, ?_, fun j z e nj => ?_, fun j z e hj => (by rw [nul j hj] at e; cases e), fun a b p ha hb ne ga => (ga (nul a ha)).elim⟩, .refl, fun j hj z e => (by rw [nul j hj] at e; cases e)⟩
        · unfold startE L2.start
          simp only [List.length_append, List.length_map, List.length_replicate]
          rw [rp.length, k3]
        · obtain ⟨v, e1, r1⟩ := rp.get (start_get e)
          refine ⟨v, ?_, r1⟩
          unfold L2.start
          have hj := (List.getElem?_eq_some_iff.mp e1).1
          rw [List.getElem?_append_left (by simpa using hj), List.getElem?_map, e1]
          rfl
      · generalize evSs (run sub (ds.map (·.fn)) n) sub d.fn.body (startE d.fn ds') M = r at hs
        cases r with
        | bad => exact hs
        | exc e ρ M' => exact fun W' σ H' cls dd gg r' x => hs W' H' cls dd r'.1 r'.2 x
        | ok f ρ M' =>
          cases f with
          | nx => exact fun W' σ H' gg r' => hs W' .non H' r'.1 r'.2 rfl
          | bk => exact hs.elim
          | ct => exact hs.elim
          | rt z => exact hs
theorem ints_rep {P : Par} {W : Wd} {H : Hp} : ∀ ns : List Int, Reps P W H (ns.map D.int) (ns.map V.int)
  | [] => Reps.nil
  | n :: r => Reps.cons rfl (ints_rep r)
theorem law_sp {c : Call} {il : Nat} {a : Addr} {ns : List Int} {H : Hp} (hS : SqL P.K H a (ns.map V.int)) (hl : ns.length ≤ 63) (h : ∃ M, c il [.scr (ns.map D.int)] [] = .ok (.bl true, M)) :
    spF P c il [.ref a] H (fun v _ => v = .bl true) fun _ _ _ => False := by
  obtain ⟨M, h⟩ := h
  have key : ∀ W, StoR P W [] H → ScrAt P W H a (ns.map V.int) → spF P c il [.ref a] H (fun v _ => v = .bl true) fun _ _ _ => False := fun W st sc => by
    refine ⟨W, [], [.scr (ns.map D.int)], st, Reps.cons ⟨a, _, rfl, sc, by rw [List.length_map]; exact Nat.le_trans hl (by decide), ints_rep ns⟩ Reps.nil, ?_⟩
    rw [h]
    exact fun W' v H' _ _ rp => rp
  rcases hS with hS | hS
  · refine key ⟨[], fun b => b = a⟩ ⟨⟨fun b _ z => (nomatch z), fun b z => ?_, List.nodup_nil, fun b z => (nomatch z)⟩, rfl, fun k o e => by simp at e⟩ (.inl ⟨rfl, hS⟩)
    have z : b = a := z
    subst z
    rcases hS with hS | ⟨u, hS⟩
    · rw [hS]; exact fun z => nomatch z
    · rw [hS]; exact fun z => nomatch z
  · exact key ⟨[], fun _ => False⟩ ⟨⟨fun b z => z.elim, fun b z => z.elim, List.nodup_nil, fun b z => (nomatch z)⟩, rfl, fun k o e => by simp at e⟩ (.inr hS)
end
mutual
def valB (K : PySem.W.Frag) (fa ca : Nat → Addr) : D → Value → Bool
  | .non, u => (match u with
    | .none => true
    | _ => false)
  | .bl b, u => (match u with
    | .bool c => b == c
    | _ => false)
  | .int i, u => (match u with
    | .int j _ => decide (j = i)
    | _ => false)
  | .str x, u => (match u with
    | .str y _ => decide (y = S' x) && (decide (x.length ≤ SZ) && x.all fun c => decide (c < 1114112))
    | _ => false)
  | .fn f, u => (match u with
    | .ref a => decide (a = fa f)
    | _ => false)
  | .cl k, u => (match u with
    | .ref a => decide (a = ca k)
    | _ => false)
  | .ty n, u => (match u with
    | .type m => decide (m = n)
    | _ => false)
  | .tup ds, u => (match u with
    | .ref a => (match K.lookup a with
      | some ⟨.type c, _, .seq its _, _⟩ => decide (c = "tuple") && (decide (its.size ≤ sizeLine) && (wrOk ds && (decide (ds.length ≤ SZ) && valBs K fa ca ds its.toList)))
      | _ => false)
    | _ => false)
  | _, _ => false
def valBs (K : PySem.W.Frag) (fa ca : Nat → Addr) : List D → List Value → Bool
  | [], us => us.isEmpty
  | d :: ds, us => (match us with
    | u :: r => valB K fa ca d u && valBs K fa ca ds r
    | [] => false)
end
def valK (K : PySem.W.Frag) (fa ca : Nat → Addr) (a : Addr) (p : List Nat × D) : Bool := match PySem.W.nsIn K a (S' p.1) with
  | some (some u) => valB K fa ca p.2 u
  | _ => false
def keyIs (kvs : List (List Nat × D)) (e : DictEntry) : Bool := match e.key with
  | .str s _ => kvs.any fun p => decide (S' p.1 = s)
  | _ => false
def entsB (K : PySem.W.Frag) (a : Addr) (kvs : List (List Nat × D)) : Bool := match K.lookup a with
  | some ⟨_, _, .dict es _, _⟩ => es.toList.all (keyIs kvs)
  | _ => false
def valG (K : PySem.W.Frag) (fa ca : Nat → Addr) (x : Str) (d : D) (u : Value) : Bool := match d with
  | .kd kvs => (match u with
    | .ref a => decide (a = He.ga K x) && (entsB K a kvs && kvs.all (valK K fa ca a))
    | _ => false)
  | d => valB K fa ca d u
def exB (g : Cfg) (fa ca : PySem.W.Frag → Nat → Addr) (K : PySem.W.Frag) : Bool := g.gl.all fun p => match PySem.W.nsIn K mainGlobals p.1 with
  | some (some u) => valG K (fa K) (ca K) p.1 p.2 u
  | _ => false
section
variable {P : Par}
mutual
theorem valB_ok : ∀ {d : D} {u : Value}, valB P.K P.fa P.ca d u = true → ∃ v, RelV v u ∧ ∀ W H, Rep P W H d v
  | .non, u, h => by
    unfold valB at h
    split at h
    · exact ⟨.non, rfl, fun _ _ => rfl⟩
    · cases h
  | .bl b, u, h => by
    unfold valB at h
    split at h
    · rw [beq_iff_eq] at h
      subst h
      exact ⟨.bl b, rfl, fun _ _ => rfl⟩
    · cases h
  | .int i, u, h => by
    unfold valB at h
    split at h
    · have h := of_decide_eq_true h
      subst h
      exact ⟨.int _, ⟨_, rfl⟩, fun _ _ => rfl⟩
    · cases h
  | .str x, u, h => by
    unfold valB at h
    split at h
    · simp only [Bool.and_eq_true, decide_eq_true_eq, List.all_eq_true] at h
      obtain ⟨rfl, h2, h3⟩ := h
      exact ⟨.str (S' x), ⟨_, rfl⟩, fun _ _ => ⟨rfl, h2, h3⟩⟩
    · cases h
  | .fn f, u, h => by
    unfold valB at h
    split at h
    · have h := of_decide_eq_true h
      subst h
      exact ⟨.ref _, rfl, fun _ _ => rfl⟩
    · cases h
  | .cl k, u, h => by
    unfold valB at h
    split at h
    · have h := of_decide_eq_true h
      subst h
      exact ⟨.ref _, rfl, fun _ _ => rfl⟩
    · cases h
  | .ty n, u, h => by
    unfold valB at h
    split at h
    · have h := of_decide_eq_true h
      subst h
      exact ⟨.ty _, rfl, fun _ _ => rfl⟩
    · cases h
  | .tup ds, u, h => by
    unfold valB at h
    split at h
    · rename_i a
      split at h
      · rename_i c od its n sl q
        simp only [Bool.and_eq_true, decide_eq_true_eq] at h
        obtain ⟨rfl, h2, h3, h4, h5⟩ := h
        obtain ⟨vs, r1, r2⟩ := valBs_ok h5
        exact ⟨.ref a, rfl, fun W H => ⟨a, vs, rfl, .inr ⟨h3, _, its, n, q, rfl, rfl, h2, r1⟩, h4, r2 W H⟩⟩
      · cases h
    · cases h
  | .lst _, _, h => by simp [valB] at h
  | .dct _ _, _, h => by simp [valB] at h
  | .itr _, _, h => by simp [valB] at h
  | .obj _, _, h => by simp [valB] at h
  | .scr _, _, h => by simp [valB] at h
  | .kd _, _, h => by simp [valB] at h
theorem valBs_ok : ∀ {ds : List D} {us : List Value}, valBs P.K P.fa P.ca ds us = true → ∃ vs, Vals vs us ∧ ∀ W H, Reps P W H ds vs
  | [], us, h => by
    have e : us = [] := by simpa [valBs] using h
    subst e
    exact ⟨[], .nil, fun _ _ => rfl⟩
  | d :: ds, us, h => by
    unfold valBs at h
    split at h
    · rw [Bool.and_eq_true] at h
      obtain ⟨v, h1, h2⟩ := valB_ok h.1
      obtain ⟨vs, h3, h4⟩ := valBs_ok h.2
      exact ⟨v :: vs, .cons h1 h3, fun W H => ⟨v, vs, rfl, h2 W H, h4 W H⟩⟩
    · cases h
end
theorem valKs_ok {a : Addr} {W : Wd} {H : Hp} : ∀ {kvs : List (List Nat × D)}, (∀ p ∈ kvs, valK P.K P.fa P.ca a p = true) → RepKs P W H a kvs
  | [], _ => trivial
  | (x, d) :: r, h => by
    refine ⟨?_, valKs_ok fun p hp => h p (List.mem_cons_of_mem _ hp)⟩
    have q := h _ List.mem_cons_self
    unfold valK at q
    split at q
    · rename_i u e
      obtain ⟨v, r1, r2⟩ := valB_ok q
      exact ⟨u, v, e, r1, r2 W H⟩
    · cases q
theorem lookup_any {x : List Nat} : ∀ {kvs : List (List Nat × D)}, kvs.lookup x = none → (kvs.any fun p => decide (S' p.1 = S' x)) = false
  | [], _ => rfl
  | (y, d) :: r, h => by
    rw [List.lookup_cons] at h
    split at h
    · cases h
    · rename_i q
      rw [List.any_cons, lookup_any h, Bool.or_false]
      refine decide_eq_false fun e => ?_
      have e2 := S'_inj e
      subst e2
      simp at q
theorem ents_none {a : Addr} {kvs : List (List Nat × D)} (h : entsB P.K a kvs = true) (x : List Nat) (e : kvs.lookup x = none) : PySem.W.nsIn P.K a (S' x) = some none := by
  unfold entsB at h
  split at h
  · rename_i oc od es n sl q
    rw [List.all_eq_true] at h
    have no : ∀ y ∈ es.toList, y.key.isStr (S' x) = false ∧ y.refKey = false := fun y hy => by
      have q1 := h y hy
      unfold keyIs at q1
      split at q1
      · rename_i s t ek
        refine ⟨?_, by unfold DictEntry.refKey; rw [ek]⟩
        rw [ek]
        show (s == S' x) = false
        rw [beq_eq_false_iff_ne]
        intro z
        subst z
        rw [lookup_any e] at q1
        cases q1
      · cases q1
    unfold PySem.W.nsIn
    rw [q]
    have f : es.toList.find? (·.key.isStr (S' x)) = none := List.find?_eq_none.mpr fun y hy => by rw [(no y hy).1]; exact Bool.false_ne_true
    have f2 : es.toList.any (·.refKey) = false := List.any_eq_false.mpr fun y hy => by rw [(no y hy).2]; exact Bool.false_ne_true
    simp only [f, f2]
    rfl
  · cases h
theorem valG_ok {x : Str} {d : D} {u : Value} (h : valG P.K P.fa P.ca x d u = true) (hk : ∀ kvs, d = .kd kvs → ∃ es n, KDict P.K P.w (He.ga P.K x) es n) : ∃ v, RelV v u ∧ ∀ W H, Rep P W H d v := by
  unfold valG at h
  split at h
  · rename_i kvs
    split at h
    · rename_i a
      simp only [Bool.and_eq_true, decide_eq_true_eq, List.all_eq_true] at h
      obtain ⟨rfl, h2, h3⟩ := h
      obtain ⟨es, n, kd⟩ := hk kvs rfl
      exact ⟨.ref _, rfl, fun W H => ⟨_, es, n, rfl, kd, fun x e => ents_none h2 x e, valKs_ok h3⟩⟩
    · cases h
  · exact valB_ok h
end
def faAt (ds : List Df) (K : PySem.W.Frag) (f : Nat) : Addr := He.ga K ((ds.map (·.gn)).getD f Str.empty)
def caAt (cls : List Str) (K : PySem.W.Frag) (k : Nat) : Addr := He.ga K (cls.getD k Str.empty)
def faOf (g : Cfg) (cls : List Str) (sub : Nat → Nat → Bool) : List He.Fa :=
  (g.bi.map fun p => He.Fa.free p.1) ++ (g.ty.map fun p => He.Fa.free p.1) ++
    (g.ex.map fun k => He.Fa.exc (cls.getD k Str.empty)) ++ ((List.range cls.length).flatMap fun i => (List.range cls.length).map fun j => He.Fa.exm (cls.getD i Str.empty) (cls.getD j Str.empty) (sub i j))
def fnsOf (ds : List Df) : List He.DefD := ds.map fun d => ⟨(d.gn, none), d.name, d.name, defArgs d.st, defBody d.st, defScope d.st, [], []⟩
def tsOf : List (Str × D) → List He.Tab
  | [] => []
  | p :: r => (match p.2 with
    | .kd kvs => [((fun K => He.ga K p.1), kvs.map fun q => S' q.1)]
    | _ => []) ++ tsOf r
def exOf (g : Cfg) (ds : List Df) (cls : List Str) : PySem.W.Frag → Bool := exB g (faAt ds) (caAt cls)
def parOf (w : World) (K : PySem.W.Frag) (ds : List Df) (cls : List Str) : Par := ⟨w, K, faAt ds K, caAt cls K, cls.length⟩
def glB (g : Cfg) (ds : List Df) (cls : List Str) : Bool := (g.gl.all fun p => match p.2 with
  | .fn f => decide (f < ds.length)
  | _ => true) && (g.bi.all fun p => decide (bootBuiltins p.1 = some (biVal p.2))) && (g.ty.all fun p => decide (bootBuiltins p.1 = some (.type p.2))) && (g.ex.all fun k => decide (k < cls.length)) && decide (g.nc = cls.length) && decide (g.nf = ds.length)
section
variable {g : Cfg} {cls : List Str} {sub : Nat → Nat → Bool} {ds : List Df} {K : PySem.W.Frag} {h : Heap} {mg : Str → Option Value} {w : World}
theorem lookup_mem' {α : Type} {x : Str} {d : α} : ∀ {l : List (Str × α)}, l.lookup x = some d → (x, d) ∈ l
  | [], h => by cases h
  | (y, e) :: r, h => by
    rw [List.lookup_cons] at h
    split at h
    · rename_i q
      cases h
      rw [beq_iff_eq.mp q]
      exact List.mem_cons_self
    · exact List.mem_cons_of_mem _ (lookup_mem' h)
theorem tsOf_mem {x : Str} {kvs : List (List Nat × D)} : ∀ {l : List (Str × D)}, (x, .kd kvs) ∈ l → ∃ i : Nat, (tsOf l)[i]? = some ((fun K => He.ga K x), kvs.map fun q => S' q.1)
  | [], h => by cases h
  | p :: r, h => by
    rcases List.mem_cons.mp h with rfl | h
    · exact ⟨0, rfl⟩
    · obtain ⟨i, e⟩ := tsOf_mem h
      have e2 : ∀ l : List He.Tab, (l ++ tsOf r)[l.length + i]? = some ((fun K => He.ga K x), kvs.map fun q => S' q.1) := fun l => by
        rw [List.getElem?_append_right (by omega)]
        simpa using e
      unfold tsOf
      exact ⟨_, e2 _⟩
theorem modOk {fn : List He.DefD} (X : K.In h) (G : h.Ns mainGlobals mg) (c : ∀ f ∈ faOf g cls sub, f.ok K = true) (ct : He.SaysT (faOf g cls sub) fn (tsOf g.gl) w K) (ex : exOf g ds cls K = true) (b : glB g ds cls = true) : ModOk g (parOf w K ds cls) w mg ds := by
  unfold glB at b
  simp only [Bool.and_eq_true, List.all_eq_true, decide_eq_true_eq] at b
  obtain ⟨⟨⟨⟨⟨b1, b2⟩, b3⟩, b4⟩, b5⟩, b6⟩ := b
  have cb : ∀ p ∈ g.bi, (He.Fa.free p.1).ok K = true := fun p hp => c _ (by
    unfold faOf
    exact List.mem_append_left _ (List.mem_append_left _ (List.mem_append_left _ (List.mem_map.mpr ⟨p, hp, rfl⟩))))
  have cy : ∀ p ∈ g.ty, (He.Fa.free p.1).ok K = true := fun p hp => c _ (by
    unfold faOf
    exact List.mem_append_left _ (List.mem_append_left _ (List.mem_append_right _ (List.mem_map.mpr ⟨p, hp, rfl⟩))))
  have key : ∀ x d, g.gl.lookup x = some d → ∃ u, PySem.W.nsIn K mainGlobals x = some (some u) ∧ valG K (faAt ds K) (caAt cls K) x d u = true := fun x d e => by
    have q := List.all_eq_true.mp ex _ (lookup_mem' e)
    revert q
    cases z : PySem.W.nsIn K mainGlobals x with
    | none => intro q; simp only [z] at q; cases q
    | some o =>
      cases o with
      | none => intro q; simp only [z] at q; cases q
      | some u => intro q; simp only [z] at q; exact ⟨u, rfl, q⟩
  refine ⟨rfl, b6, fun x d e => ?_, fun x f e => ?_, fun x b' e => ?_, fun x t e => ?_⟩
  · obtain ⟨u, e1, e2⟩ := key x d e
    obtain ⟨v, r1, r2⟩ := valG_ok (P := parOf w K ds cls) e2 fun kvs ek => by
      subst ek
      obtain ⟨i, hi⟩ := tsOf_mem (lookup_mem' e)
      exact ct.tab i hi
    exact ⟨u, v, PySem.W.mg_of X G e1, r1, r2⟩
  · obtain ⟨u, e1, e2⟩ := key x _ e
    have hf : f < ds.length := by simpa using b1 _ (lookup_mem' e)
    refine ⟨ds[f], List.getElem?_eq_getElem hf, ?_⟩
    have e3 : valB K (faAt ds K) (caAt cls K) (.fn f) u = true := e2
    unfold valB at e3
    split at e3
    · have e3 := of_decide_eq_true e3
      subst e3
      exact PySem.W.mg_of X G e1
    · cases e3
  · have m := lookup_mem' e
    exact ⟨He.free_ok X G (cb _ m), b2 _ m⟩
  · have m := lookup_mem' e
    exact ⟨He.free_ok X G (cy _ m), b3 _ m⟩
theorem xsOk (c : ∀ f ∈ faOf g cls sub, f.ok K = true) (b : glB g ds cls = true) : XsOk g (parOf w K ds cls) sub := by
  unfold glB at b
  simp only [Bool.and_eq_true, List.all_eq_true, decide_eq_true_eq] at b
  obtain ⟨⟨⟨⟨⟨b1, b2⟩, b3⟩, b4⟩, b5⟩, b6⟩ := b
  refine ⟨fun i j hi hj => ?_, fun k hk => ?_, b5⟩
  · have q := c (.exm (cls.getD i Str.empty) (cls.getD j Str.empty) (sub i j)) (by
      unfold faOf
      exact List.mem_append_right _ (List.mem_flatMap.mpr ⟨i, List.mem_range.mpr hi, List.mem_map.mpr ⟨j, List.mem_range.mpr hj, rfl⟩⟩))
    exact He.exm_ok q
  · have q := c (.exc (cls.getD k Str.empty)) (by
      unfold faOf
      exact List.mem_append_left _ (List.mem_append_right _ (List.mem_map.mpr ⟨k, hk, rfl⟩)))
    obtain ⟨e1, e2, e3, e4⟩ := He.exc_ok q
    exact ⟨b4 k hk, e2, ⟨e3, e4⟩, _, _, _, _, PySem.F.excBase_ValueError, e1⟩
theorem says_all {fa : List He.Fa} {fn : List He.DefD} (c : He.SaysD fa fn K) : ∀ q ∈ fa, q.ok K = true := fun q hq => by
  obtain ⟨i, hi, e⟩ := List.mem_iff_getElem.mp hq
  exact He.SaysD.fact c i (by rw [List.getElem?_eq_getElem hi, e])
def CXe (P : Program) : CXT := fun outer H s E e s' => ∃ w, L2.CX P w outer H s E e s'
theorem cxe {P : Program} {w : World} {base : Heap} {k : Nat} {f : Addr} {fd : FuncData} {ps : List Str} {sp : Sp} (F : FnOk P w K mg base (L2.CX P w) k f fd ps sp) : FnOk P w K mg base (CXe P) k f fd ps sp :=
  ⟨F.len, fun A outer s H args us vs Q E hr e0 hb r hsp => codeAny_mono (F.run A outer s H args us vs Q E hr e0 hb r hsp) fun r s' hq => by
    cases r with
    | error e => exact ⟨w, hq⟩
    | ok fl => cases fl <;> exact hq⟩
theorem cxe0 (P : Program) : ∀ (H : Hp) (s : Shared) (e : Value) (s' : Shared), CXe P [] H s (fun _ _ _ => False) e s' → False := fun H s e s' ⟨_, _, _, _, _, _, _, _, _, _, _, _, _, h⟩ => h
theorem law_facts {Γ : List Fn} (hΓ : ds.map (·.fn) = Γ) {P : Program} {f : Addr} {il n : Nat} {dl : Df} {x : Str} (X : K.In h) (G : h.Ns mainGlobals mg) (hfa : mg ("law" : Str) = some (.ref f)) (c : He.SaysX (faOf g cls sub) (fnsOf ds) (tsOf g.gl) [] (exOf g ds cls) w h K) (glb : glB g ds cls = true) (ck : ds.all (dfOk g) = true) (bn : Bnds ds) (hd : ds[il]? = some dl) (hg : g.gl.lookup ("law" : Str) = some (.fn il)) (hp : dl.ps = [x]) :
    ∃ fd : FuncData, (∀ (s : Shared) (v : Value), BindsTo s fd ⟨[v], []⟩ [(x, v)]) ∧ ∀ base : Heap, K.In base → base.Ns mainGlobals mg → FnOk P w K mg base (CXe P) n f fd [x] (spF (parOf w K ds cls) (Ev.run sub Γ n) il) := by
  subst hΓ
  have cf := says_all c.t.d
  have fd : ∀ i d, ds[i]? = some d → ∃ fd, FnP K d ((parOf w K ds cls).fa i) fd := fun i d hd => by
    have e : (fnsOf ds)[i]? = some ⟨(d.gn, none), d.name, d.name, defArgs d.st, defBody d.st, defScope d.st, [], []⟩ := by
      show (ds.map _)[i]? = _
      rw [List.getElem?_map, hd]; rfl
    obtain ⟨fd, F⟩ := He.SaysD.def_ c.t.d i e
    have ea : (parOf w K ds cls).fa i = He.ga K d.gn := by
      show He.ga K ((ds.map (·.gn)).getD i Str.empty) = _
      rw [List.getD_eq_getElem?_getD, List.getElem?_map, hd]; rfl
    rw [ea]
    exact ⟨fd, F⟩
  have mo := modOk (w := w) X G cf c.t c.more glb
  obtain ⟨fdl, F⟩ := fd il dl hd
  obtain ⟨d2, h2, m2⟩ := mo.fn "law" il hg
  have e := hfa.symm.trans m2
  cases e
  have bl : Bnd dl := bn.get hd
  refine ⟨fdl, fun s v => ?_, fun base _ _ => ?_⟩
  · have q := F.bindsA (ps := dl.ps) bl s [v] (by rw [hp]; rfl)
    rw [hp] at q
    exact q
  · have q := defs_ok (prog := P) (w := w) (base := base) mo (xsOk (w := w) cf glb) bn fd ck n il dl hd fdl F
    rw [hp] at q
    exact cxe q
end
def setB (w : World) (b : Bool) : World := { w with params := { w.params with followText := fun s => if s = "special-get-raises" then b else w.params.followText s } }
theorem setB_eq (w : World) : setB w (w.params.followText "special-get-raises") = w := by
  obtain ⟨dr, p⟩ := w
  have e : (fun s => if s = "special-get-raises" then p.followText "special-get-raises" else p.followText s) = p.followText := by
    funext s
    split
    · rename_i z; rw [z]
    · rfl
  show World.mk dr { p with followText := fun s => if s = "special-get-raises" then p.followText "special-get-raises" else p.followText s } = World.mk dr p
  rw [e]
theorem run_of {r : PySem.W.OpenRow} {q : Program} {H : PySem.W.Hook} {ob : PySem.W.SharedT → H.α} {M : Nat} {loose : List Str} (h : ∀ w b, HandSHeadRun.RunEq r q H ob M loose (setB w b)) (w : World) : HandSHeadRun.RunEq r q H ob M loose w := by
  have := h w (w.params.followText "special-get-raises")
  rw [setB_eq] at this
  exact this
end Ev
set_option Elab.async false
set_option linter.all false
set_option autoImplicit false
set_option maxRecDepth 100000
set_option maxHeartbeats 4000000
namespace Ev
theorem call_of {sub : Nat → Nat → Bool} {Γ : List Fn} {n f : Nat} {F : Fn} {ds : List D} {M : Sto} (h : Γ[f]? = some F) (hl : ds.length = F.np) : run sub Γ (n + 1) f ds M = (evSs (run sub Γ n) sub F.body (startE F ds) M).out := by
  show (match Γ[f]? with | none => R.bad | some F => if ds.length = F.np then (evSs (run sub Γ n) sub F.body (startE F ds) M).out else .bad) = _
  rw [h]
  exact if_pos hl
theorem sat_eq {α : Type} {r : R α} {P : α → Prop} (h : ∃ a, r = .ok a ∧ P a) : r.sat P fun _ _ => False := by
  obtain ⟨a, rfl, h⟩ := h
  exact h
theorem compL_pure {c : Call} {el : Env → Sto → R (D × Sto)} {t : Tg} {ρ : Env} {M : Sto} {f : D → D} : ∀ {ds : List D}, (∀ d ∈ ds, ∃ ρ', putT ρ t d = some ρ' ∧ el ρ' M = .ok (f d, M)) → compL (evCs c []) el t ds ρ M = .ok (ds.map f, M)
  | [], _ => rfl
  | d :: ds, h => by
    obtain ⟨ρ', h1, h2⟩ := h d List.mem_cons_self
    have ih := compL_pure (c := c) (ds := ds) fun e he => h e (List.mem_cons_of_mem _ he)
    unfold compL
    rw [h1]
    show (match el ρ' M with | .ok (y, M2) => (match compL (evCs c []) el t ds ρ M2 with | .ok (ys, M3) => R.ok (y :: ys, M3) | _ => .bad) | _ => .bad) = _
    rw [h2]
    show (match compL (evCs c []) el t ds ρ M with | .ok (ys, M3) => R.ok (f d :: ys, M3) | _ => .bad) = _
    rw [ih]
    rfl
theorem compL_st {c : Call} {el : Env → Sto → R (D × Sto)} {t : Tg} {ρ : Env} {I : Sto → Prop} {Q : D → Prop} : ∀ {ds : List D} {M : Sto}, I M → (∀ d ∈ ds, ∀ M, I M → ∃ ρ', putT ρ t d = some ρ' ∧ ∃ y M', el ρ' M = .ok (y, M') ∧ I M' ∧ Q y) → ∃ ys M', compL (evCs c []) el t ds ρ M = .ok (ys, M') ∧ I M' ∧ ys.length = ds.length ∧ ∀ y ∈ ys, Q y
  | [], M, hM, _ => ⟨[], M, rfl, hM, rfl, fun _ h => by cases h⟩
  | d :: ds, M, hM, h => by
    obtain ⟨ρ', h1, y, M1, h2, h3, h4⟩ := h d List.mem_cons_self M hM
    obtain ⟨ys, M2, e, h5, h6, h7⟩ := compL_st (c := c) (ds := ds) h3 fun e he => h e (List.mem_cons_of_mem _ he)
    refine ⟨y :: ys, M2, ?_, h5, by rw [List.length_cons, List.length_cons, h6], fun z hz => ?_⟩
    · unfold compL
      rw [h1]
      show (match el ρ' M with | .ok (y, M2) => (match compL (evCs c []) el t ds ρ M2 with | .ok (ys, M3) => R.ok (y :: ys, M3) | _ => .bad) | _ => .bad) = _
      rw [h2]
      show (match compL (evCs c []) el t ds ρ M1 with | .ok (ys, M3) => R.ok (y :: ys, M3) | _ => .bad) = _
      rw [e]
    · rcases List.mem_cons.mp hz with rfl | hz
      · exact h4
      · exact h7 z hz
theorem forL_st {body : Env → Sto → RS} {t : Tg} {I : Env → Sto → Prop} : ∀ {ds : List D} {ρ : Env} {M : Sto}, I ρ M → (∀ d ∈ ds, ∀ ρ M, I ρ M → ∃ ρ1, putT ρ t d = some ρ1 ∧ ∃ ρ2 M2, body ρ1 M = .ok .nx ρ2 M2 ∧ I ρ2 M2) → ∃ ρ' M', forL body t ds ρ M = .ok .nx ρ' M' ∧ I ρ' M'
  | [], ρ, M, h, _ => ⟨ρ, M, rfl, h⟩
  | d :: ds, ρ, M, h, hb => by
    obtain ⟨ρ1, h1, ρ2, M2, h2, h3⟩ := hb d List.mem_cons_self ρ M h
    obtain ⟨ρ', M', e, h4⟩ := forL_st (ds := ds) h3 fun e he => hb e (List.mem_cons_of_mem _ he)
    refine ⟨ρ', M', ?_, h4⟩
    rw [forL, h1]
    show (match body ρ1 M with | .ok .nx ρ2 M2 => forL body t ds ρ2 M2 | .ok .ct ρ2 M2 => forL body t ds ρ2 M2 | .ok .bk ρ2 M2 => .ok .nx ρ2 M2 | .ok (.rt d) ρ2 M2 => .ok (.rt d) ρ2 M2 | .exc e ρ2 M2 => .exc e ρ2 M2 | .bad => .bad) = _
    rw [h2]
    exact e
theorem boolsD_map (f : D → Bool) : ∀ ds : List D, boolsD (ds.map fun d => .bl (f d)) = some (ds.map f)
  | [] => rfl
  | d :: ds => by
    show (boolsD (ds.map fun d => .bl (f d))).map (f d :: ·) = _
    rw [boolsD_map f ds]; rfl
theorem strsD_map : ∀ xs : List (List Nat), strsD (xs.map D.str) = some xs
  | [] => rfl
  | x :: xs => by
    show (strsD (xs.map D.str)).map (x :: ·) = _
    rw [strsD_map xs]; rfl
theorem gluei_nil : ∀ xs : List (List Nat), gluei [] xs = xs.flatten
  | [] => rfl
  | [x] => by simp [gluei]
  | x :: y :: r => by
    show x ++ ([] ++ gluei [] (y :: r)) = _
    rw [gluei_nil (y :: r), List.nil_append]; rfl
theorem eqOk_ints (i j : Int) : eqOk (.int i) (.int j) = true := of_eq_true (eq_self _)
theorem cmp_eq_int (i j : Int) : cmpD .eq (.int i) (.int j) = some (i == j) := of_eq_true (eq_self _)
theorem cmp_ne_int (i j : Int) : cmpD .ne (.int i) (.int j) = some (!(i == j)) := of_eq_true (eq_self _)
theorem cmp_lt_int (i j : Int) : cmpD .lt (.int i) (.int j) = some (decide (i < j)) := of_eq_true (eq_self _)
theorem cmp_gt_int (i j : Int) : cmpD .gt (.int i) (.int j) = some (decide (j < i)) := of_eq_true (eq_self _)
theorem cmp_le_int (i j : Int) : cmpD .le (.int i) (.int j) = some (!decide (j < i)) := of_eq_true (eq_self _)
theorem cmp_ge_int (i j : Int) : cmpD .ge (.int i) (.int j) = some (!decide (i < j)) := of_eq_true (eq_self _)
theorem bin_add_int (i j : Int) : binD .add (.int i) (.int j) = some (.int (i + j)) := of_eq_true (eq_self _)
theorem bin_sub_int (i j : Int) : binD .sub (.int i) (.int j) = some (.int (i - j)) := of_eq_true (eq_self _)
theorem bin_mul_int {i j : Int} (h : mulOk i j = true) : binD .mul (.int i) (.int j) = some (.int (i * j)) := by
  show (if mulOk i j then some (D.int (i * j)) else none) = _
  rw [if_pos h]
theorem bin_fdiv_int {i j : Int} (h : divOk j = true) : binD .fdiv (.int i) (.int j) = some (.int (i / j)) := by
  show (if divOk j then some (D.int (i / j)) else none) = _
  rw [if_pos h]
theorem bin_mod_int {i j : Int} (h : 0 < j) : binD .mod (.int i) (.int j) = some (.int (i % j)) := by
  show (if decide (0 < j) then some (D.int (i % j)) else none) = _
  rw [if_pos (decide_eq_true h)]
theorem mulOk_r {i j : Int} (h : j.natAbs < 2 ^ 64) : mulOk i j = true := by
  unfold mulOk
  rw [decide_eq_true h, Bool.or_true, Bool.true_or]
theorem mulOk_l {i j : Int} (h : i.natAbs < 2 ^ 64) : mulOk i j = true := by
  unfold mulOk
  rw [decide_eq_true h, Bool.true_or, Bool.true_or]
theorem wlk_len : isWlk .len = false := of_eq_true (eq_self _)
theorem wlk_isinst : isWlk .isinst = false := of_eq_true (eq_self _)
theorem wlk_tuple : isWlk .tuple = false := of_eq_true (eq_self _)
theorem wlk_list : isWlk .list = false := of_eq_true (eq_self _)
theorem wlk_all : isWlk .all = false := of_eq_true (eq_self _)
theorem wlk_any : isWlk .any = false := of_eq_true (eq_self _)
theorem wlk_sorted : isWlk .sorted = false := of_eq_true (eq_self _)
theorem wlk_sum : isWlk .sum = false := of_eq_true (eq_self _)
theorem wlk_max : isWlk .max = false := of_eq_true (eq_self _)
theorem wlk_min : isWlk .min = false := of_eq_true (eq_self _)
theorem wlk_abs : isWlk .abs = false := of_eq_true (eq_self _)
theorem wlk_int : isWlk .int = false := of_eq_true (eq_self _)
theorem wlk_str : isWlk .str = false := of_eq_true (eq_self _)
theorem wlk_range : isWlk .range = false := of_eq_true (eq_self _)
theorem wlk_enum : isWlk .enum = true := of_eq_true (eq_self _)
theorem wlk_zip : isWlk .zip = true := of_eq_true (eq_self _)
theorem ite_ff {α : Type} {a b : α} : (if (false : Bool) = true then a else b) = b := if_neg Bool.false_ne_true
theorem ite_tt {α : Type} {a b : α} : (if (true : Bool) = true then a else b) = a := if_pos rfl
theorem map1 {α β : Type} (f : α → β) (a : α) : List.map f [a] = [f a] := of_eq_true (eq_self _)
theorem map2 {α β : Type} (f : α → β) (a b : α) : List.map f [a, b] = [f a, f b] := of_eq_true (eq_self _)
theorem map3 {α β : Type} (f : α → β) (a b c : α) : List.map f [a, b, c] = [f a, f b, f c] := of_eq_true (eq_self _)
theorem r_bind_ok {α β : Type} (a : α) (f : α → R β) : (R.ok a).bind f = f a := of_eq_true (eq_self _)
theorem r_bind_exc {α β : Type} (e : Xc) (M : Sto) (f : α → R β) : (R.exc e M : R α).bind f = .exc e M := of_eq_true (eq_self _)
theorem r_of_some {α : Type} (a : α) : R.of (some a) = .ok a := of_eq_true (eq_self _)
theorem r_toS_ok {α : Type} (a : α) (ρ : Env) (f : α → RS) : (R.ok a).toS ρ f = f a := of_eq_true (eq_self _)
theorem r_toS_exc {α : Type} (e : Xc) (M : Sto) (ρ : Env) (f : α → RS) : (R.exc e M : R α).toS ρ f = .exc e ρ M := of_eq_true (eq_self _)
theorem rs_nx (ρ : Env) (M : Sto) (f : Env → Sto → RS) : (RS.ok .nx ρ M).then f = f ρ M := of_eq_true (eq_self _)
theorem rs_rt (d : D) (ρ : Env) (M : Sto) (f : Env → Sto → RS) : (RS.ok (.rt d) ρ M).then f = .ok (.rt d) ρ M := of_eq_true (eq_self _)
theorem rs_exc (e : Xc) (ρ : Env) (M : Sto) (f : Env → Sto → RS) : (RS.exc e ρ M).then f = .exc e ρ M := of_eq_true (eq_self _)
theorem out_rt (d : D) (ρ : Env) (M : Sto) : RS.out (.ok (.rt d) ρ M) = .ok (d, M) := of_eq_true (eq_self _)
theorem out_nx (ρ : Env) (M : Sto) : RS.out (.ok .nx ρ M) = .ok (.non, M) := of_eq_true (eq_self _)
theorem out_exc (e : Xc) (ρ : Env) (M : Sto) : RS.out (.exc e ρ M) = .exc e M := of_eq_true (eq_self _)
theorem nrm_int (M : Sto) (i : Int) : nrm M (.int i) = .int i := of_eq_true (eq_self _)
theorem nrm_bl (M : Sto) (i : Bool) : nrm M (.bl i) = .bl i := of_eq_true (eq_self _)
theorem nrm_non (M : Sto) : nrm M .non = .non := of_eq_true (eq_self _)
theorem nrm_str (M : Sto) (i : List Nat) : nrm M (.str i) = .str i := of_eq_true (eq_self _)
theorem nrm_lst (M : Sto) (i : List D) : nrm M (.lst i) = .lst i := of_eq_true (eq_self _)
theorem nrm_tup (M : Sto) (i : List D) : nrm M (.tup i) = .tup i := of_eq_true (eq_self _)
theorem nrm_scr (M : Sto) (i : List D) : nrm M (.scr i) = .scr i := of_eq_true (eq_self _)
theorem nrm_ty (M : Sto) (i : String) : nrm M (.ty i) = .ty i := of_eq_true (eq_self _)
theorem nrm_obj0 (d : D) (M : Sto) : nrm (.val d :: M) (.obj 0) = d := of_eq_true (eq_self _)
theorem nrm_dct (M : Sto) (t : Bool) (i : List (D × D)) : nrm M (.dct t i) = .dct t i := of_eq_true (eq_self _)
theorem bi_int_int (i : Int) : biD .int [.int i] = some (.int i) := of_eq_true (eq_self _)
theorem bi_len_str (x : List Nat) : biD .len [.str x] = some (.int x.length) := of_eq_true (eq_self _)
theorem bi_len_tup (x : List D) : biD .len [.tup x] = some (.int x.length) := of_eq_true (eq_self _)
theorem bi_len_lst (x : List D) : biD .len [.lst x] = some (.int x.length) := of_eq_true (eq_self _)
theorem bi_tuple_lst (x : List D) : biD .tuple [.lst x] = some (.tup x) := of_eq_true (eq_self _)
theorem bi_tuple_tup (x : List D) : biD .tuple [.tup x] = some (.tup x) := of_eq_true (eq_self _)
theorem bi_list_lst (x : List D) : biD .list [.lst x] = some (.lst x) := of_eq_true (eq_self _)
theorem bi_max_int (i j : Int) : biD .max [.int i, .int j] = some (.int (if j > i then j else i)) := of_eq_true (eq_self _)
theorem bi_all (x : List D) : biD .all [.lst x] = (boolsD x).map fun bs => .bl (bs.all id) := of_eq_true (eq_self _)
theorem bi_range1 {j : Int} (h : okRange j = true) : biD .range [.int j] = some (.itr (intsFrom 0 1 j.toNat)) := by
  show (if okRange j then some (D.itr (intsFrom 0 1 j.toNat)) else none) = _
  rw [if_pos h]
theorem okRange_of {j : Int} (h : -1000000 ≤ j) (h2 : j ≤ 1000000) : okRange j = true := by
  unfold okRange
  rw [Bool.and_eq_true, decide_eq_true_eq, decide_eq_true_eq]
  omega
theorem isi_str (x : List Nat) : biD .isinst [.str x, .ty "str"] = some (.bl true) := of_eq_true (eq_self _)
theorem isi_tup_tup (x : List D) : biD .isinst [.tup x, .ty "tuple"] = some (.bl true) := of_eq_true (eq_self _)
theorem items_lst (x : List D) : itemsOf (.lst x) = some x := of_eq_true (eq_self _)
theorem items_tup (x : List D) : itemsOf (.tup x) = some x := of_eq_true (eq_self _)
theorem items_itr (x : List D) : itemsOf (.itr x) = some x := of_eq_true (eq_self _)
theorem items_str (x : List Nat) : itemsOf (.str x) = some (x.map fun c => .str [c]) := of_eq_true (eq_self _)
theorem putT_one (ρ : Env) (i : Nat) (d : D) : putT ρ (.one i) d = some (put ρ i d) := of_eq_true (eq_self _)
theorem ixN_nat {n i : Nat} (h : i < n) : ixN n (i : Int) = some i := by
  unfold ixN
  rw [if_pos (by omega), if_pos (by omega)]
  simp
theorem atI_nat {α : Type} {xs : List α} {i : Nat} (h : i < xs.length) : atI xs (i : Int) = some xs[i] := by
  unfold atI
  rw [ixN_nat h]
  simp [h]
theorem sub_lst {xs : List D} {i : Nat} (h : i < xs.length) : subD (.lst xs) (.int (i : Int)) = some xs[i] := atI_nat h
theorem sub_tup {xs : List D} {i : Nat} (h : i < xs.length) : subD (.tup xs) (.int (i : Int)) = some xs[i] := atI_nat h
theorem sub_str {xs : List Nat} {i : Nat} (h : i < xs.length) : subD (.str xs) (.int (i : Int)) = some (.str [xs[i]]) := by
  show (atI xs (i : Int)).map _ = _
  rw [atI_nat h]; rfl
theorem intsFrom_map (a k : Int) : ∀ m : Nat, intsFrom a k m = (List.range m).map fun (i : Nat) => D.int (a + (i : Int) * k)
  | 0 => rfl
  | m + 1 => by
    rw [intsFrom, intsFrom_map (a + k) k m, List.range_succ_eq_map, List.map_cons, List.map_map]
    congr 1
    · simp
    · refine List.map_congr_left fun i _ => ?_
      show D.int _ = D.int _
      congr 1
      show a + k + (i : Int) * k = a + ((i + 1 : Nat) : Int) * k
      rw [Int.natCast_add, Int.natCast_one, Int.add_mul, Int.one_mul]
      omega
theorem cut_nat {α : Type} (xs : List α) (a b : Nat) : cut xs (some (a : Int)) (some (b : Int)) = (xs.drop a).take (b - a) := by
  have e : ∀ n v : Nat, ∀ d, sIx n d (some (v : Int)) = min v n := fun n v d => by
    show (if (v : Int) < 0 then ((v : Int) + (n : Int)).toNat else min (v : Int).toNat n) = _
    rw [if_neg (by omega)]
    simp
  unfold cut
  rw [e, e]
  by_cases h : a ≤ xs.length
  · rw [Nat.min_eq_left h]
    by_cases h2 : b ≤ xs.length
    · rw [Nat.min_eq_left h2]
    · rw [Nat.min_eq_right (by omega), List.take_of_length_le (by rw [List.length_drop]; omega), List.take_of_length_le (by rw [List.length_drop]; omega)]
  · rw [Nat.min_eq_right (a := a) (b := xs.length) (by omega), List.drop_of_length_le (Nat.le_refl _), List.drop_of_length_le (by omega)]
    simp
section
set_option autoImplicit true
variable {c : Call} {sub : Nat → Nat → Bool} {ρ : Env} {M : Sto}
theorem ev_var : evE c (.var i) ρ M = R.of ((get ρ i).map fun d => (d, M)) := of_eq_true (eq_self _)
theorem ev_bor : evE c (.bor i) ρ M = R.of ((get ρ i).map fun d => (d, M)) := of_eq_true (eq_self _)
theorem ev_con : evE c (.con d) ρ M = .ok (d, M) := of_eq_true (eq_self _)
theorem ev_neg : evE c (.neg a) ρ M = ((evE c a ρ M).bind fun r => match r.1 with
    | .int i => .ok (.int (-i), r.2)
    | _ => .bad) := of_eq_true (eq_self _)
theorem ev_bin : evE c (.bin o a b) ρ M = (evE c a ρ M).bind fun r => (evE c b ρ r.2).bind fun q => R.of ((binD o (nrm q.2 r.1) (nrm q.2 q.1)).map fun d => (d, q.2)) := of_eq_true (eq_self _)
theorem ev_cmp : evE c (.cmp o a b) ρ M = (evE c a ρ M).bind fun r => (evE c b ρ r.2).bind fun q => R.of ((cmpD o (nrm q.2 r.1) (nrm q.2 q.1)).map fun d => (.bl d, q.2)) := of_eq_true (eq_self _)
theorem ev_chain : evE c (.chain o o' a b e) ρ M = ((evE c a ρ M).bind fun r => (evE c b ρ r.2).bind fun q => match cmpD o (nrm q.2 r.1) (nrm q.2 q.1) with
    | some true => (evE c e ρ q.2).bind fun p => R.of ((cmpD o' (nrm p.2 q.1) (nrm p.2 p.1)).map fun d => (.bl d, p.2))
    | some false => .ok (.bl false, q.2)
    | none => .bad) := of_eq_true (eq_self _)
theorem ev_and : evE c (.and a b) ρ M = ((evE c a ρ M).bind fun r => match r.1 with
    | .bl true => evE c b ρ r.2
    | .bl false => .ok (.bl false, r.2)
    | _ => .bad) := of_eq_true (eq_self _)
theorem ev_or : evE c (.or a b) ρ M = ((evE c a ρ M).bind fun r => match r.1 with
    | .bl true => .ok (.bl true, r.2)
    | .bl false => evE c b ρ r.2
    | _ => .bad) := of_eq_true (eq_self _)
theorem ev_not : evE c (.not a) ρ M = ((evE c a ρ M).bind fun r => match r.1 with
    | .bl x => .ok (.bl (!x), r.2)
    | _ => .bad) := of_eq_true (eq_self _)
theorem ev_ite : evE c (.ite x a b) ρ M = ((evE c x ρ M).bind fun r => match r.1 with
    | .bl true => evE c a ρ r.2
    | .bl false => evE c b ρ r.2
    | _ => .bad) := of_eq_true (eq_self _)
theorem ev_join : evE c (.join a b) ρ M = ((evE c a ρ M).bind fun r => match r.1 with
    | .str s => (evE c b ρ r.2).bind fun q => R.of ((meD .join (.str s) [nrm q.2 q.1]).map fun d => (d, q.2))
    | _ => .bad) := of_eq_true (eq_self _)
theorem ev_call : evE c (.call f as) ρ M = (evEs c as ρ M).bind fun r => c f r.1 r.2 := of_eq_true (eq_self _)
theorem ev_callv : evE c (.callv n f as) ρ M = ((evE c f ρ M).bind fun q => match q.1 with
    | .fn g => if g < n then (evEs c as ρ q.2).bind fun r => c g r.1 r.2 else .bad
    | _ => .bad) := of_eq_true (eq_self _)
theorem ev_bi : evE c (.bi b as) ρ M = (evEs c as ρ M).bind fun r => R.of ((biD b (if isWlk b then r.1 else r.1.map (nrm r.2))).map fun d => (d, r.2)) := of_eq_true (eq_self _)
theorem ev_me : evE c (.me m a as) ρ M = (evE c a ρ M).bind fun q => if isDct (nrm q.2 q.1) = false then .bad else (evEs c as ρ q.2).bind fun r => R.of ((meD m (nrm r.2 q.1) (match m with | .get => r.1 | _ => r.1.map (nrm r.2))).map fun d => (d, r.2)) := of_eq_true (eq_self _)
theorem ev_mu : evE c (.mu m a as) ρ M = (evE c a ρ M).bind fun q => if muFitM m q.2 q.1 = false then .bad else (evEs c as ρ q.2).bind fun r => R.of (muM m q.1 r.1 r.2) := of_eq_true (eq_self _)
theorem ev_tup : evE c (.tup as) ρ M = (evEs c as ρ M).bind fun r => .ok (.tup r.1, r.2) := of_eq_true (eq_self _)
theorem ev_lst : evE c (.lst as) ρ M = (evEs c as ρ M).bind fun r => .ok (.lst r.1, r.2) := of_eq_true (eq_self _)
theorem ev_dct : evE c (.dct t as) ρ M = (evEs c as ρ M).bind fun r => R.of ((dctOf t r.1 []).map fun kvs => (.dct t kvs, r.2)) := of_eq_true (eq_self _)
theorem ev_sub : evE c (.sub a i) ρ M = (evE c a ρ M).bind fun r => (evE c i ρ r.2).bind fun q => R.of ((subD (nrm q.2 r.1) q.1).map fun d => (d, q.2)) := of_eq_true (eq_self _)
theorem ev_slc : evE c (.slc a l h) ρ M = (evE c a ρ M).bind fun r => (evE c l ρ r.2).bind fun q => (R.of (bnd (isNon l) q.1)).bind fun lo => (evE c h ρ q.2).bind fun p => (R.of (bnd (isNon h) p.1)).bind fun hi => R.of ((slcD (nrm p.2 r.1) lo hi).map fun d => (d, p.2)) := of_eq_true (eq_self _)
theorem ev_comp : evE c (.comp e t it cs) ρ M = ((evE c it ρ M).bind fun r => match itemsW it r.1 with
    | some ds => if ds.length ≤ SZ then (compL (evCs c cs) (evE c e) t ds ρ r.2).bind fun q => .ok (.lst q.1, q.2) else .bad
    | none => .bad) := of_eq_true (eq_self _)
theorem ev_dcomp : evE c (.dcomp b k v t it) ρ M = ((evE c it ρ M).bind fun r => match itemsW it r.1 with
    | some ds => if ds.length ≤ SZ then (dcompL b (evE c k) (evE c v) t ds ρ r.2 []).bind fun q => .ok (.dct b q.1, q.2) else .bad
    | none => .bad) := of_eq_true (eq_self _)
theorem ev_dead : evE c (.dead) ρ M = .bad := of_eq_true (eq_self _)
theorem ev_alloc : evE c (.alloc a) ρ M = (evE c a ρ M).bind fun r => if isBox r.1 then .ok (.obj r.2.length, r.2 ++ [.val r.1]) else .bad := of_eq_true (eq_self _)
theorem evs_nil : evEs c [] ρ M = .ok ([], M) := of_eq_true (eq_self _)
theorem evs_cons : evEs c (e :: es) ρ M = (evE c e ρ M).bind fun r => (evEs c es ρ r.2).bind fun q => .ok (r.1 :: q.1, q.2) := of_eq_true (eq_self _)
theorem es_set : evS c sub (.set i e) ρ M = (evE c e ρ M).toS ρ fun r => .ok .nx (put ρ i r.1) r.2 := of_eq_true (eq_self _)
theorem es_own : evS c sub (.own i e) ρ M = (evE c e ρ M).toS ρ fun r => if isBox r.1 then .ok .nx (put ρ i r.1) r.2 else .bad := of_eq_true (eq_self _)
theorem es_unp : evS c sub (.unp is e) ρ M = ((evE c e ρ M).toS ρ fun r => match (seqOf r.1).bind (puts ρ is) with
    | some ρ' => .ok .nx ρ' r.2
    | none => .bad) := of_eq_true (eq_self _)
theorem es_par : evS c sub (.par is es) ρ M = ((evEs c es ρ M).toS ρ fun r => match puts ρ is r.1 with
    | some ρ' => .ok .nx ρ' r.2
    | none => .bad) := of_eq_true (eq_self _)
theorem es_aug : evS c sub (.aug i o e) ρ M = (match get ρ i with
    | none => .bad
    | some d => (evE c e ρ M).toS ρ fun r => match augD o d r.1 with
      | some v => .ok .nx (put ρ i v) r.2
      | none => .bad) := of_eq_true (eq_self _)
theorem es_ex : evS c sub (.ex e) ρ M = (evE c e ρ M).toS ρ fun r => .ok .nx ρ r.2 := of_eq_true (eq_self _)
theorem es_omu : evS c sub (.omu m i as) ρ M = (match get ρ i with
    | some d => if muFit m d then (evEs c as ρ M).toS ρ fun r => match muD m d (muArg m r.2 r.1) with
        | some q => .ok .nx (put ρ i q.2) r.2
        | none => .bad
      else .bad
    | _ => .bad) := of_eq_true (eq_self _)
theorem es_osm : evS c sub (.osm j m i as) ρ M = (match get ρ i with
    | some d => if muFit m d then (evEs c as ρ M).toS ρ fun r => match muD m d r.1 with
        | some q => .ok .nx (put (put ρ i q.2) j q.1) r.2
        | none => .bad
      else .bad
    | _ => .bad) := of_eq_true (eq_self _)
theorem es_ret : evS c sub (.ret e) ρ M = (evE c e ρ M).toS ρ fun r => .ok (.rt r.1) ρ r.2 := of_eq_true (eq_self _)
theorem es_retf : evS c sub (.retf e) ρ M = ((match evE c e ρ M with
    | .ok r => .ok (.rt r.1) ρ r.2
    | _ => .bad)) := of_eq_true (eq_self _)
theorem es_reto : evS c sub (.reto i) ρ M = ((match get ρ i with
    | some d => .ok (.rt d) ρ M
    | none => .bad)) := of_eq_true (eq_self _)
theorem es_retn : evS c sub (.retn) ρ M = .ok (.rt .non) ρ M := of_eq_true (eq_self _)
theorem es_ite : evS c sub (.ite x a b) ρ M = ((evE c x ρ M).toS ρ fun r => match r.1 with
    | .bl true => evSs c sub a ρ r.2
    | .bl false => evSs c sub b ρ r.2
    | _ => .bad) := of_eq_true (eq_self _)
theorem es_whl : evS c sub (.whl x b) ρ M = whlN (evE c x) (evSs c sub b) WF ρ M := of_eq_true (eq_self _)
theorem es_for : evS c sub (.for t it b) ρ M = ((evE c it ρ M).toS ρ fun r => match itemsW it r.1 with
    | some ds => forL (evSs c sub b) t ds ρ r.2
    | none => .bad) := of_eq_true (eq_self _)
theorem es_brk : evS c sub (.brk) ρ M = .ok .bk ρ M := of_eq_true (eq_self _)
theorem es_cnt : evS c sub (.cnt) ρ M = .ok .ct ρ M := of_eq_true (eq_self _)
theorem es_pass : evS c sub (.pass) ρ M = .ok .nx ρ M := of_eq_true (eq_self _)
theorem es_raise : evS c sub (.raise k as) ρ M = (evEs c as ρ M).toS ρ fun r => .exc ⟨k, r.1⟩ ρ r.2 := of_eq_true (eq_self _)
theorem es_try : evS c sub (.try b k h k2 h2) ρ M = (match evSs c sub b ρ M with
    | .exc e ρ1 M1 => if sub e.cls k then evSs c sub h ρ1 M1 else (match k2 with
        | none => .exc e ρ1 M1
        | some j => if sub e.cls j then evSs c sub h2 ρ1 M1 else .exc e ρ1 M1)
    | r => r) := of_eq_true (eq_self _)
theorem es_sto : evS c sub (.sto o ix v) ρ M = ((evE c v ρ M).toS ρ fun r => (evE c o ρ r.2).toS ρ fun q => (evE c ix ρ q.2).toS ρ fun p => match muM .put q.1 [p.1, r.1] p.2 with
    | some z => .ok .nx ρ z.2
    | none => .bad) := of_eq_true (eq_self _)
theorem es_oput : evS c sub (.oput i ix v) ρ M = ((evE c v ρ M).toS ρ fun r => match get ρ i with
    | some d => if isBox d then (evE c ix ρ r.2).toS ρ fun p => match muD .put d [p.1, r.1] with
        | some z => .ok .nx (put ρ i z.2) p.2
        | none => .bad
      else .bad
    | _ => .bad) := of_eq_true (eq_self _)
theorem es_dead : evS c sub (.dead) ρ M = .bad := of_eq_true (eq_self _)
theorem ess_nil : evSs c sub [] ρ M = .ok .nx ρ M := of_eq_true (eq_self _)
theorem ess_cons : evSs c sub (s :: ss) ρ M = (evS c sub s ρ M).then (evSs c sub ss) := of_eq_true (eq_self _)
end
theorem ev_comp_of {c : Call} {e it : E} {t : Tg} {cs : List E} {ρ : Env} {M M1 M2 : Sto} {d : D} {ds ys : List D} (h1 : evE c it ρ M = .ok (d, M1)) (h2 : itemsW it d = some ds) (h3 : ds.length ≤ SZ) (h4 : compL (evCs c cs) (evE c e) t ds ρ M1 = .ok (ys, M2)) :
    evE c (.comp e t it cs) ρ M = .ok (.lst ys, M2) := by
  rw [ev_comp, h1, R.bind_ok]
  show (match itemsW it d with | some ds => if ds.length ≤ SZ then (compL (evCs c cs) (evE c e) t ds ρ M1).bind fun q => R.ok (D.lst q.1, q.2) else R.bad | none => R.bad) = _
  rw [h2]
  show (if ds.length ≤ SZ then (compL (evCs c cs) (evE c e) t ds ρ M1).bind fun q => R.ok (D.lst q.1, q.2) else R.bad) = _
  rw [if_pos h3, h4]
  rfl
end Ev
set_option Elab.async false
set_option linter.all false
set_option autoImplicit false
set_option maxRecDepth 100000
set_option maxHeartbeats 4000000
namespace Ev
theorem slt_irr : ∀ x : List Nat, slt x x = false
  | [] => rfl
  | c :: x => by
    show (if c == c then slt x x else decide (c < c)) = false
    rw [if_pos (by simp), slt_irr x]
theorem slt_trans : ∀ x y z : List Nat, slt x y = true → slt y z = true → slt x z = true
  | [], [], _, h, _ => by cases h
  | [], _ :: _, [], _, h => by cases h
  | [], _ :: _, _ :: _, _, _ => rfl
  | _ :: _, [], _, h, _ => by cases h
  | _ :: _, _ :: _, [], _, h => by cases h
  | a :: x, b :: y, c :: z, h1, h2 => by
    have h1 : (if a == b then slt x y else decide (a < b)) = true := h1
    have h2 : (if b == c then slt y z else decide (b < c)) = true := h2
    show (if a == c then slt x z else decide (a < c)) = true
    by_cases e1 : a = b
    · by_cases e2 : b = c
      · subst e1 e2
        rw [if_pos (by simp)] at h1 h2 ⊢
        exact slt_trans x y z h1 h2
      · subst e1
        rw [if_neg (by simpa using e2)] at h2 ⊢
        exact h2
    · by_cases e2 : b = c
      · subst e2
        rw [if_neg (by simpa using e1)] at h1 ⊢
        exact h1
      · rw [if_neg (by simpa using e1)] at h1
        rw [if_neg (by simpa using e2)] at h2
        have h1 := of_decide_eq_true h1
        have h2 := of_decide_eq_true h2
        rw [if_neg (by simp; omega)]
        exact decide_eq_true (by omega)
theorem slt_tot : ∀ x y : List Nat, slt x y = false → slt y x = false → x = y
  | [], [], _, _ => rfl
  | [], _ :: _, h, _ => by cases h
  | _ :: _, [], _, h => by cases h
  | a :: x, b :: y, h1, h2 => by
    have h1 : (if a == b then slt x y else decide (a < b)) = false := h1
    have h2 : (if b == a then slt y x else decide (b < a)) = false := h2
    by_cases e1 : a = b
    · subst e1
      rw [if_pos (by simp)] at h1 h2
      rw [slt_tot x y h1 h2]
    · rw [if_neg (by simpa using e1)] at h1
      rw [if_neg (by simpa using fun z => e1 z.symm)] at h2
      have h1 := of_decide_eq_false h1
      have h2 := of_decide_eq_false h2
      omega
mutual
theorem deq_iff : ∀ {a b : D}, alike a b = true → (deq a b = true ↔ a = b)
  | .non, b, h => by cases b <;> first | (cases h; done) | exact ⟨fun _ => rfl, fun _ => rfl⟩
  | .bl x, b, h => by cases b <;> first | (cases h; done) | exact ⟨fun z => by simpa [deq] using z, fun z => by simpa [deq] using z⟩
  | .int x, b, h => by cases b <;> first | (cases h; done) | exact ⟨fun z => by simpa [deq] using z, fun z => by simpa [deq] using z⟩
  | .str x, b, h => by cases b <;> first | (cases h; done) | exact ⟨fun z => by simpa [deq] using z, fun z => by simpa [deq] using z⟩
  | .tup xs, b, h => by
    cases b with
    | tup ys =>
      have q := deqs_iff (xs := xs) (ys := ys) h
      exact ⟨fun z => by rw [q.mp z], fun z => q.mpr (by simpa using z)⟩
    | _ => cases h
  | .lst xs, b, h => by
    cases b with
    | lst ys =>
      have q := deqs_iff (xs := xs) (ys := ys) h
      exact ⟨fun z => by rw [q.mp z], fun z => q.mpr (by simpa using z)⟩
    | _ => cases h
  | .dct _ _, b, h => by cases b <;> cases h
  | .itr _, b, h => by cases b <;> cases h
  | .obj _, b, h => by cases b <;> cases h
  | .fn _, b, h => by cases b <;> cases h
  | .cl _, b, h => by cases b <;> cases h
  | .ty _, b, h => by cases b <;> cases h
  | .scr _, b, h => by cases b <;> cases h
  | .kd _, b, h => by cases b <;> cases h
theorem deqs_iff : ∀ {xs ys : List D}, alikes xs ys = true → (deqs xs ys = true ↔ xs = ys)
  | [], [], _ => ⟨fun _ => rfl, fun _ => rfl⟩
  | [], _ :: _, _ => ⟨fun z => (by cases z), fun z => (by cases z)⟩
  | _ :: _, [], _ => ⟨fun z => (by cases z), fun z => (by cases z)⟩
  | x :: xs, y :: ys, h => by
    have h : (alike x y && alikes xs ys) = true := h
    rw [Bool.and_eq_true] at h
    have q1 := deq_iff h.1
    have q2 := deqs_iff h.2
    show (deq x y && deqs xs ys) = true ↔ _
    rw [Bool.and_eq_true, q1, q2, List.cons.injEq]
end
theorem ite_bl {b c d : Bool} {p : Prop} [Decidable p] (h : (if p then c else d) = b) : (p ∧ c = b) ∨ (¬ p ∧ d = b) := by
  split at h
  · exact .inl ⟨by assumption, h⟩
  · exact .inr ⟨by assumption, h⟩
mutual
theorem dlt_irr : ∀ a : D, dlt a a = false
  | .non => rfl
  | .bl b => by cases b <;> rfl
  | .int i => decide_eq_false (Int.lt_irrefl i)
  | .str x => slt_irr x
  | .tup xs => dlts_irr xs
  | .lst xs => dlts_irr xs
  | .dct _ _ => rfl
  | .itr _ => rfl
  | .obj _ => rfl
  | .fn _ => rfl
  | .cl _ => rfl
  | .ty _ => rfl
  | .scr _ => rfl
  | .kd _ => rfl
theorem dlts_irr : ∀ xs : List D, dlts xs xs = false
  | [] => rfl
  | x :: xs => by
    show (if deq x x then dlts xs xs else dlt x x) = false
    rw [dlts_irr xs, dlt_irr x, ite_self]
end
mutual
theorem dlt_trans : ∀ {a b c : D}, alike a b = true → alike b c = true → alike a c = true → dlt a b = true → dlt b c = true → dlt a c = true
  | .non, b, _, h, _, _, d, _ => by cases b <;> first | (cases h; done) | cases d
  | .bl x, b, c, h, h2, h3, d, d2 => by
    cases b with
    | bl y =>
      cases c with
      | bl z => cases x <;> cases y <;> cases z <;> first | rfl | (cases d; done) | cases d2
      | _ => cases h2
    | _ => cases h
  | .int x, b, c, h, h2, h3, d, d2 => by
    cases b with
    | int y =>
      cases c with
      | int z =>
        have d := of_decide_eq_true (show decide (x < y) = true from d)
        have d2 := of_decide_eq_true (show decide (y < z) = true from d2)
        exact decide_eq_true (by omega)
      | _ => cases h2
    | _ => cases h
  | .str x, b, c, h, h2, h3, d, d2 => by
    cases b with
    | str y =>
      cases c with
      | str z => exact slt_trans x y z d d2
      | _ => cases h2
    | _ => cases h
  | .tup xs, b, c, h, h2, h3, d, d2 => by
    cases b with
    | tup ys =>
      cases c with
      | tup zs => exact dlts_trans (xs := xs) (ys := ys) (zs := zs) h h2 h3 d d2
      | _ => cases h2
    | _ => cases h
  | .lst xs, b, c, h, h2, h3, d, d2 => by
    cases b with
    | lst ys =>
      cases c with
      | lst zs => exact dlts_trans (xs := xs) (ys := ys) (zs := zs) h h2 h3 d d2
      | _ => cases h2
    | _ => cases h
  | .dct _ _, b, _, h, _, _, _, _ => by cases b <;> cases h
  | .itr _, b, _, h, _, _, _, _ => by cases b <;> cases h
  | .obj _, b, _, h, _, _, _, _ => by cases b <;> cases h
  | .fn _, b, _, h, _, _, _, _ => by cases b <;> cases h
  | .cl _, b, _, h, _, _, _, _ => by cases b <;> cases h
  | .ty _, b, _, h, _, _, _, _ => by cases b <;> cases h
  | .scr _, b, _, h, _, _, _, _ => by cases b <;> cases h
  | .kd _, b, _, h, _, _, _, _ => by cases b <;> cases h
theorem dlts_trans : ∀ {xs ys zs : List D}, alikes xs ys = true → alikes ys zs = true → alikes xs zs = true → dlts xs ys = true → dlts ys zs = true → dlts xs zs = true
  | [], [], _, _, _, _, d, _ => by cases d
  | [], _ :: _, [], _, _, _, _, d => by cases d
  | [], _ :: _, _ :: _, _, _, _, _, _ => rfl
  | _ :: _, [], _, _, _, _, d, _ => by cases d
  | _ :: _, _ :: _, [], _, _, _, _, d => by cases d
  | x :: xs, y :: ys, z :: zs, h1, h2, h3, d1, d2 => by
    have h3 : (alike x z && alikes xs zs) = true := h3
    rw [Bool.and_eq_true] at h3
    have h1 : (alike x y && alikes xs ys) = true := h1
    have h2 : (alike y z && alikes ys zs) = true := h2
    rw [Bool.and_eq_true] at h1 h2
    have d1 : (if deq x y then dlts xs ys else dlt x y) = true := d1
    have d2 : (if deq y z then dlts ys zs else dlt y z) = true := d2
    show (if deq x z then dlts xs zs else dlt x z) = true
    rcases ite_bl d1 with ⟨e1, k1⟩ | ⟨e1, k1⟩
    · have e1 := (deq_iff h1.1).mp e1
      subst e1
      rcases ite_bl d2 with ⟨e2, k2⟩ | ⟨e2, k2⟩
      · rw [if_pos e2]
        exact dlts_trans h1.2 h2.2 h3.2 k1 k2
      · rw [if_neg e2]
        exact k2
    · rcases ite_bl d2 with ⟨e2, k2⟩ | ⟨e2, k2⟩
      · have e2 := (deq_iff h2.1).mp e2
        subst e2
        rw [if_neg e1]
        exact k1
      · have q := dlt_trans h1.1 h2.1 h3.1 k1 k2
        by_cases e3 : deq x z = true
        · exact absurd q (by
            have e4 := (deq_iff h3.1).mp e3
            subst e4
            rw [dlt_irr]
            exact Bool.false_ne_true)
        · rw [if_neg e3]
          exact q
end
mutual
theorem dlt_tot : ∀ {a b : D}, alike a b = true → dlt a b = false → dlt b a = false → a = b
  | .non, b, h, _, _ => by cases b <;> first | (cases h; done) | rfl
  | .bl x, b, h, d, d2 => by
    cases b with
    | bl y => cases x <;> cases y <;> first | rfl | (cases d; done) | cases d2
    | _ => cases h
  | .int x, b, h, d, d2 => by
    cases b with
    | int y =>
      have d := of_decide_eq_false (show decide (x < y) = false from d)
      have d2 := of_decide_eq_false (show decide (y < x) = false from d2)
      have e : x = y := by omega
      rw [e]
    | _ => cases h
  | .str x, b, h, d, d2 => by
    cases b with
    | str y => rw [slt_tot x y d d2]
    | _ => cases h
  | .tup xs, b, h, d, d2 => by
    cases b with
    | tup ys => rw [dlts_tot (xs := xs) (ys := ys) h d d2]
    | _ => cases h
  | .lst xs, b, h, d, d2 => by
    cases b with
    | lst ys => rw [dlts_tot (xs := xs) (ys := ys) h d d2]
    | _ => cases h
  | .dct _ _, b, h, _, _ => by cases b <;> cases h
  | .itr _, b, h, _, _ => by cases b <;> cases h
  | .obj _, b, h, _, _ => by cases b <;> cases h
  | .fn _, b, h, _, _ => by cases b <;> cases h
  | .cl _, b, h, _, _ => by cases b <;> cases h
  | .ty _, b, h, _, _ => by cases b <;> cases h
  | .scr _, b, h, _, _ => by cases b <;> cases h
  | .kd _, b, h, _, _ => by cases b <;> cases h
theorem dlts_tot : ∀ {xs ys : List D}, alikes xs ys = true → dlts xs ys = false → dlts ys xs = false → xs = ys
  | [], [], _, _, _ => rfl
  | [], _ :: _, _, d, _ => by cases d
  | _ :: _, [], _, _, d => by cases d
  | x :: xs, y :: ys, h, d1, d2 => by
    have h : (alike x y && alikes xs ys) = true := h
    rw [Bool.and_eq_true] at h
    have d1 : (if deq x y then dlts xs ys else dlt x y) = false := d1
    have d2 : (if deq y x then dlts ys xs else dlt y x) = false := d2
    rcases ite_bl d1 with ⟨e1, k1⟩ | ⟨e1, k1⟩
    · have e1 := (deq_iff h.1).mp e1
      subst e1
      rcases ite_bl d2 with ⟨e2, k2⟩ | ⟨e2, k2⟩
      · rw [dlts_tot h.2 k1 k2]
      · exact absurd ((deq_iff h.1).mpr rfl) e2
    · rcases ite_bl d2 with ⟨e2, k2⟩ | ⟨e2, k2⟩
      · exact absurd ((deq_iff h.1).mpr (deq_sym e2 h.1)) e1
      · exact absurd ((deq_iff h.1).mpr (dlt_tot h.1 k1 k2)) e1
theorem deq_sym : ∀ {a b : D}, deq b a = true → alike a b = true → a = b
  | .non, b, d, h => by cases b <;> first | (cases h; done) | rfl
  | .bl x, b, d, h => by cases b <;> first | (cases h; done) | (simp [deq] at d; rw [d])
  | .int x, b, d, h => by cases b <;> first | (cases h; done) | (simp [deq] at d; rw [d])
  | .str x, b, d, h => by cases b <;> first | (cases h; done) | (simp [deq] at d; rw [d])
  | .tup xs, b, d, h => by
    cases b with
    | tup ys => rw [deqs_sym (xs := xs) (ys := ys) d h]
    | _ => cases h
  | .lst xs, b, d, h => by
    cases b with
    | lst ys => rw [deqs_sym (xs := xs) (ys := ys) d h]
    | _ => cases h
  | .dct _ _, b, _, h => by cases b <;> cases h
  | .itr _, b, _, h => by cases b <;> cases h
  | .obj _, b, _, h => by cases b <;> cases h
  | .fn _, b, _, h => by cases b <;> cases h
  | .cl _, b, _, h => by cases b <;> cases h
  | .ty _, b, _, h => by cases b <;> cases h
  | .scr _, b, _, h => by cases b <;> cases h
  | .kd _, b, _, h => by cases b <;> cases h
theorem deqs_sym : ∀ {xs ys : List D}, deqs ys xs = true → alikes xs ys = true → xs = ys
  | [], [], _, _ => rfl
  | [], _ :: _, d, _ => by cases d
  | _ :: _, [], d, _ => by cases d
  | x :: xs, y :: ys, d, h => by
    have h : (alike x y && alikes xs ys) = true := h
    have d : (deq y x && deqs ys xs) = true := d
    rw [Bool.and_eq_true] at h d
    rw [deq_sym d.1 h.1, deqs_sym d.2 h.2]
end
theorem sort_pw {ds : List D} (ok : ∀ a ∈ ds, ∀ b ∈ ds, alike a b = true) : (ds.mergeSort dle).Pairwise fun a b => dlt b a = false := by
  have e := List.map_mergeSort (f := fun x : {x // x ∈ ds} => x.1) (r := fun a b => dle a.1 b.1) (s := dle) (l := ds.attach) (fun _ _ _ _ => rfl)
  rw [List.attach_map_subtype_val] at e
  rw [← e, List.pairwise_map]
  refine (List.pairwise_mergeSort (le := fun a b : {x // x ∈ ds} => dle a.1 b.1) ?_ ?_ ds.attach).imp fun {a b} h => by simpa [dle] using h
  · intro a b c h1 h2
    have h1 : dlt b.1 a.1 = false := by simpa [dle] using h1
    have h2 : dlt c.1 b.1 = false := by simpa [dle] using h2
    show (!dlt c.1 a.1) = true
    rw [Bool.not_eq_true']
    cases h3 : dlt c.1 a.1 with
    | false => rfl
    | true =>
      exfalso
      cases h4 : dlt a.1 b.1 with
      | true =>
        have := dlt_trans (ok _ c.2 _ a.2) (ok _ a.2 _ b.2) (ok _ c.2 _ b.2) h3 h4
        rw [h2] at this; cases this
      | false =>
        have e := dlt_tot (ok _ a.2 _ b.2) h4 h1
        rw [e, h2] at h3; cases h3
  · intro a b
    show (!dlt b.1 a.1 || !dlt a.1 b.1) = true
    cases h1 : dlt b.1 a.1 with
    | false => rfl
    | true =>
      cases h2 : dlt a.1 b.1 with
      | false => rfl
      | true =>
        have := dlt_trans (ok _ a.2 _ b.2) (ok _ b.2 _ a.2) (ok _ a.2 _ a.2) h2 h1
        rw [dlt_irr] at this; cases this
def Asc (ds : List D) : Prop := ds.Pairwise fun a b => dlt a b = true
theorem sort_asc {ds : List D} (ok : ∀ a ∈ ds, ∀ b ∈ ds, alike a b = true) (nd : ds.Nodup) : Asc (ds.mergeSort dle) := by
  have pm := List.mergeSort_perm ds dle
  have nd2 : (ds.mergeSort dle).Nodup := pm.nodup_iff.mpr nd
  have h := (sort_pw ok).and nd2
  refine List.Pairwise.imp_of_mem (fun {a b} ha hb h => ?_) h
  cases q : dlt a b with
  | true => rfl
  | false => exact absurd (dlt_tot (ok a (pm.mem_iff.mp ha) b (pm.mem_iff.mp hb)) q h.1) h.2
theorem perm_eq {α : Type} {r : α → α → Prop} (anti : ∀ a b, r a b → r b a → False) : ∀ {l l' : List α}, l.Perm l' → l.Pairwise r → l'.Pairwise r → l = l'
  | [], l', p, _, _ => (List.nil_perm.mp p).symm
  | a :: t, [], p, _, _ => by
    have := p.length_eq
    simp at this
  | a :: t, b :: t', p, h1, h2 => by
    have ha : a ∈ b :: t' := p.subset List.mem_cons_self
    have hb : b ∈ a :: t := p.symm.subset List.mem_cons_self
    by_cases e : a = b
    · subst e
      rw [perm_eq anti ((List.perm_cons a).mp p) (List.pairwise_cons.mp h1).2 (List.pairwise_cons.mp h2).2]
    · rcases List.mem_cons.mp ha with ha | ha
      · exact absurd ha e
      · rcases List.mem_cons.mp hb with hb | hb
        · exact absurd hb.symm e
        · exact (anti a b ((List.pairwise_cons.mp h1).1 b hb) ((List.pairwise_cons.mp h2).1 a ha)).elim
section
variable {c : Call} {e it : E} {t : Tg} {ρ : Env} {M : Sto} {d : D} {ds : List D}
theorem comp_map {f : D → D} (h1 : evE c it ρ M = .ok (d, M)) (h2 : itemsW it d = some ds) (h3 : ds.length ≤ SZ) (h : ∀ x ∈ ds, ∃ ρ', putT ρ t x = some ρ' ∧ evE c e ρ' M = .ok (f x, M)) : evE c (.comp e t it []) ρ M = .ok (.lst (ds.map f), M) :=
  ev_comp_of h1 h2 h3 (compL_pure h)
theorem compL_flt {cond el : E} {f : D → D} {p : D → Bool} : ∀ {ds : List D}, (∀ x ∈ ds, ∃ ρ', putT ρ t x = some ρ' ∧ evE c cond ρ' M = .ok (.bl (p x), M) ∧ (p x = true → evE c el ρ' M = .ok (f x, M))) → compL (evCs c [cond]) (evE c el) t ds ρ M = .ok ((ds.filter p).map f, M)
  | [], _ => rfl
  | x :: ds, h => by
    obtain ⟨ρ', h1, h2, h3⟩ := h x List.mem_cons_self
    have ih := compL_flt (ds := ds) fun e he => h e (List.mem_cons_of_mem _ he)
    have hc : evCs c [cond] ρ' M = .ok (p x, M) := by
      rw [evCs, h2, R.bind_ok]
      cases p x <;> rfl
    unfold compL
    rw [h1]
    simp only [hc]
    cases hp : p x with
    | true =>
      simp only [h3 hp, ih]
      rw [List.filter_cons_of_pos hp]
      rfl
    | false =>
      simp only [ih]
      rw [List.filter_cons_of_neg (by rw [hp]; exact Bool.false_ne_true)]
theorem comp_flt {cond : E} {f : D → D} {p : D → Bool} (h1 : evE c it ρ M = .ok (d, M)) (h2 : itemsW it d = some ds) (h3 : ds.length ≤ SZ) (h : ∀ x ∈ ds, ∃ ρ', putT ρ t x = some ρ' ∧ evE c cond ρ' M = .ok (.bl (p x), M) ∧ (p x = true → evE c e ρ' M = .ok (f x, M))) :
    evE c (.comp e t it [cond]) ρ M = .ok (.lst ((ds.filter p).map f), M) := ev_comp_of h1 h2 h3 (compL_flt h)
theorem comp_st {I : Sto → Prop} {Q : D → Prop} {M1 : Sto} (h1 : evE c it ρ M = .ok (d, M1)) (h2 : itemsW it d = some ds) (h3 : ds.length ≤ SZ) (hM : I M1) (h : ∀ x ∈ ds, ∀ M, I M → ∃ ρ', putT ρ t x = some ρ' ∧ ∃ y M', evE c e ρ' M = .ok (y, M') ∧ I M' ∧ Q y) :
    ∃ ys M', evE c (.comp e t it []) ρ M = .ok (.lst ys, M') ∧ I M' ∧ ys.length = ds.length ∧ ∀ y ∈ ys, Q y := by
  obtain ⟨ys, M', e1, e2⟩ := compL_st (c := c) (el := evE c e) (t := t) (ρ := ρ) hM h
  exact ⟨ys, M', ev_comp_of h1 h2 h3 e1, e2⟩
theorem all_true : ∀ ds : List D, boolsD (ds.map fun _ => .bl true) = some (ds.map fun _ => true)
  | [] => rfl
  | d :: ds => by
    show (boolsD (ds.map fun _ => .bl true)).map (true :: ·) = _
    rw [all_true ds]; rfl
theorem bi_all_t (ds : List D) : biD .all [.lst (ds.map fun _ => .bl true)] = some (.bl true) := by
  rw [bi_all, all_true]
  simp
theorem all_comp (h1 : evE c it ρ M = .ok (d, M)) (h2 : itemsW it d = some ds) (h3 : ds.length ≤ SZ) (h : ∀ x ∈ ds, ∃ ρ', putT ρ t x = some ρ' ∧ evE c e ρ' M = .ok (.bl true, M)) : evE c (.bi .all [.comp e t it []]) ρ M = .ok (.bl true, M) := by
  rw [ev_bi, evs_cons, comp_map (f := fun _ => .bl true) h1 h2 h3 h, R.bind_ok, evs_nil, R.bind_ok, R.bind_ok]
  show R.of ((biD .all [nrm M (.lst (ds.map fun _ => .bl true))]).map fun d => (d, M)) = _
  rw [nrm_lst, bi_all_t]
  rfl
theorem all_comp2 (h1 : evE c it ρ M = .ok (d, M)) (h2 : itemsW it d = some ds) (h3 : ds.length ≤ SZ) (h : ∀ x ∈ ds, ∃ ρ', putT ρ t x = some ρ' ∧ evE c e ρ' M = .ok (.bl true, M)) : ∃ zs, evE c (.comp e t it []) ρ M = .ok (.lst zs, M) ∧ biD .all [.lst zs] = some (.bl true) :=
  ⟨_, comp_map (f := fun _ => .bl true) h1 h2 h3 h, bi_all_t ds⟩
end
theorem dec_lt_t {i j : Int} (h : i < j) : decide (i < j) = true := decide_eq_true h
theorem dec_lt_f {i j : Int} (h : j ≤ i) : decide (i < j) = false := decide_eq_false (by omega)
theorem beq_t {i j : Int} (h : i = j) : (i == j) = true := by simp [h]
theorem beq_f {i j : Int} (h : i ≠ j) : (i == j) = false := by simp [h]
section
variable {M : Sto} {it : E} {ρ : Env}
theorem nrm_plain {d : D} (h : plain d = true) : nrm M d = d := by
  cases d <;> first | rfl | cases h
theorem itw_lst (x : List D) : itemsW it (.lst x) = some x := of_eq_true (eq_self _)
theorem itw_tup (x : List D) : itemsW it (.tup x) = some x := of_eq_true (eq_self _)
theorem itw_itr (x : List D) : itemsW it (.itr x) = some x := of_eq_true (eq_self _)
theorem itw_str (x : List Nat) : itemsW it (.str x) = some (x.map fun c => .str [c]) := of_eq_true (eq_self _)
theorem itw_dct {t : Bool} {kvs : List (D × D)} (h : isBor it = false) : itemsW it (.dct t kvs) = some (kvs.map (·.1)) := by
  show (if isBor it then none else some (kvs.map (·.1))) = _
  rw [h]; rfl
theorem mua_append (ds : List D) : muArg .append M ds = ds := of_eq_true (eq_self _)
theorem mua_popK (ds : List D) : muArg .popK M ds = ds := of_eq_true (eq_self _)
theorem mua_upd (ds : List D) : muArg .upd M ds = ds := of_eq_true (eq_self _)
theorem fit_append (ds : List D) : muFit .append (.lst ds) = true := of_eq_true (eq_self _)
theorem fit_popK (t : Bool) (ds : List (D × D)) : muFit .popK (.dct t ds) = true := of_eq_true (eq_self _)
theorem box_lst (ds : List D) : isBox (.lst ds) = true := of_eq_true (eq_self _)
theorem box_dct (t : Bool) (ds : List (D × D)) : isBox (.dct t ds) = true := of_eq_true (eq_self _)
theorem dct_dct (t : Bool) (ds : List (D × D)) : isDct (.dct t ds) = true := of_eq_true (eq_self _)
theorem mu_append {xs : List D} {a : D} (h : xs.length < SZ) : muD .append (.lst xs) [a] = some (.non, .lst (xs ++ [a])) := if_pos h
theorem puts_cons (i : Nat) (is : List Nat) (d : D) (ds : List D) : puts ρ (i :: is) (d :: ds) = puts (put ρ i d) is ds := of_eq_true (eq_self _)
theorem puts_nil : puts ρ [] [] = some ρ := of_eq_true (eq_self _)
theorem seq_tup (ds : List D) : seqOf (.tup ds) = some ds := of_eq_true (eq_self _)
theorem seq_lst (ds : List D) : seqOf (.lst ds) = some ds := of_eq_true (eq_self _)
theorem putT_tup (is : List Nat) (ds : List D) : putT ρ (.tup is) (.tup ds) = puts ρ is ds := of_eq_true (eq_self _)
theorem nrm_ty' (n : String) : nrm M (.ty n) = .ty n := of_eq_true (eq_self _)
theorem nrm_fn (n : Nat) : nrm M (.fn n) = .fn n := of_eq_true (eq_self _)
theorem nrm_kd (k : List (List Nat × D)) : nrm M (.kd k) = .kd k := of_eq_true (eq_self _)
theorem nrm_itr (k : List D) : nrm M (.itr k) = .itr k := of_eq_true (eq_self _)
theorem ite_tf {α : Type} {a b : α} : (if (true : Bool) = false then a else b) = b := if_neg (by decide)
theorem ite_ft {α : Type} {a b : α} : (if (false : Bool) = false then a else b) = a := if_pos rfl
theorem truth_match (b : Bool) : (match D.bl b with | .bl x => some x | _ => none) = some b := rfl
end
theorem is_non_int  : biD .isinst [.non, .ty "int"] = some (.bl false) := of_eq_true (eq_self _)
theorem is_non_bool  : biD .isinst [.non, .ty "bool"] = some (.bl false) := of_eq_true (eq_self _)
theorem is_non_str  : biD .isinst [.non, .ty "str"] = some (.bl false) := of_eq_true (eq_self _)
theorem is_non_tuple  : biD .isinst [.non, .ty "tuple"] = some (.bl false) := of_eq_true (eq_self _)
theorem is_non_list  : biD .isinst [.non, .ty "list"] = some (.bl false) := of_eq_true (eq_self _)
theorem is_non_dict  : biD .isinst [.non, .ty "dict"] = some (.bl false) := of_eq_true (eq_self _)
theorem is_bl_int (b : Bool) : biD .isinst [(.bl b), .ty "int"] = some (.bl true) := of_eq_true (eq_self _)
theorem is_bl_bool (b : Bool) : biD .isinst [(.bl b), .ty "bool"] = some (.bl true) := of_eq_true (eq_self _)
theorem is_bl_str (b : Bool) : biD .isinst [(.bl b), .ty "str"] = some (.bl false) := of_eq_true (eq_self _)
theorem is_bl_tuple (b : Bool) : biD .isinst [(.bl b), .ty "tuple"] = some (.bl false) := of_eq_true (eq_self _)
theorem is_bl_list (b : Bool) : biD .isinst [(.bl b), .ty "list"] = some (.bl false) := of_eq_true (eq_self _)
theorem is_bl_dict (b : Bool) : biD .isinst [(.bl b), .ty "dict"] = some (.bl false) := of_eq_true (eq_self _)
theorem is_int_int (i : Int) : biD .isinst [(.int i), .ty "int"] = some (.bl true) := of_eq_true (eq_self _)
theorem is_int_bool (i : Int) : biD .isinst [(.int i), .ty "bool"] = some (.bl false) := of_eq_true (eq_self _)
theorem is_int_str (i : Int) : biD .isinst [(.int i), .ty "str"] = some (.bl false) := of_eq_true (eq_self _)
theorem is_int_tuple (i : Int) : biD .isinst [(.int i), .ty "tuple"] = some (.bl false) := of_eq_true (eq_self _)
theorem is_int_list (i : Int) : biD .isinst [(.int i), .ty "list"] = some (.bl false) := of_eq_true (eq_self _)
theorem is_int_dict (i : Int) : biD .isinst [(.int i), .ty "dict"] = some (.bl false) := of_eq_true (eq_self _)
theorem is_str_int (x : List Nat) : biD .isinst [(.str x), .ty "int"] = some (.bl false) := of_eq_true (eq_self _)
theorem is_str_bool (x : List Nat) : biD .isinst [(.str x), .ty "bool"] = some (.bl false) := of_eq_true (eq_self _)
theorem is_str_str (x : List Nat) : biD .isinst [(.str x), .ty "str"] = some (.bl true) := of_eq_true (eq_self _)
theorem is_str_tuple (x : List Nat) : biD .isinst [(.str x), .ty "tuple"] = some (.bl false) := of_eq_true (eq_self _)
theorem is_str_list (x : List Nat) : biD .isinst [(.str x), .ty "list"] = some (.bl false) := of_eq_true (eq_self _)
theorem is_str_dict (x : List Nat) : biD .isinst [(.str x), .ty "dict"] = some (.bl false) := of_eq_true (eq_self _)
theorem is_tup_int (xs : List D) : biD .isinst [(.tup xs), .ty "int"] = some (.bl false) := of_eq_true (eq_self _)
theorem is_tup_bool (xs : List D) : biD .isinst [(.tup xs), .ty "bool"] = some (.bl false) := of_eq_true (eq_self _)
theorem is_tup_str (xs : List D) : biD .isinst [(.tup xs), .ty "str"] = some (.bl false) := of_eq_true (eq_self _)
theorem is_tup_tuple (xs : List D) : biD .isinst [(.tup xs), .ty "tuple"] = some (.bl true) := of_eq_true (eq_self _)
theorem is_tup_list (xs : List D) : biD .isinst [(.tup xs), .ty "list"] = some (.bl false) := of_eq_true (eq_self _)
theorem is_tup_dict (xs : List D) : biD .isinst [(.tup xs), .ty "dict"] = some (.bl false) := of_eq_true (eq_self _)
theorem is_lst_int (xs : List D) : biD .isinst [(.lst xs), .ty "int"] = some (.bl false) := of_eq_true (eq_self _)
theorem is_lst_bool (xs : List D) : biD .isinst [(.lst xs), .ty "bool"] = some (.bl false) := of_eq_true (eq_self _)
theorem is_lst_str (xs : List D) : biD .isinst [(.lst xs), .ty "str"] = some (.bl false) := of_eq_true (eq_self _)
theorem is_lst_tuple (xs : List D) : biD .isinst [(.lst xs), .ty "tuple"] = some (.bl false) := of_eq_true (eq_self _)
theorem is_lst_list (xs : List D) : biD .isinst [(.lst xs), .ty "list"] = some (.bl true) := of_eq_true (eq_self _)
theorem is_lst_dict (xs : List D) : biD .isinst [(.lst xs), .ty "dict"] = some (.bl false) := of_eq_true (eq_self _)
theorem bi_sorted_lst {xs : List D} (h : sortOk xs = true) : biD .sorted [.lst xs] = some (.lst (xs.mergeSort dle)) := by
  show (if sortOk xs then some (D.lst (xs.mergeSort dle)) else none) = _
  rw [h]; rfl
theorem bi_sorted_dct {t : Bool} {kvs : List (D × D)} (h : sortOk (kvs.map (·.1)) = true) : biD .sorted [.dct t kvs] = some (.lst ((kvs.map (·.1)).mergeSort dle)) := by
  show (if sortOk (kvs.map (·.1)) then some (D.lst ((kvs.map (·.1)).mergeSort dle)) else none) = _
  rw [h]; rfl
theorem bin_add_str' {x y : List Nat} (h : x.length + y.length ≤ SZ) : binD .add (.str x) (.str y) = some (.str (x ++ y)) := if_pos h
theorem bin_add_lst' {x y : List D} (h : x.length + y.length ≤ SZ) : binD .add (.lst x) (.lst y) = some (.lst (x ++ y)) := if_pos h
theorem bin_add_tup' {x y : List D} (h : x.length + y.length ≤ SZ) : binD .add (.tup x) (.tup y) = some (.tup (x ++ y)) := if_pos h
theorem ints_len {m : Int} : (intsFrom 0 1 m.toNat).length = m.toNat := by
  rw [intsFrom_map, List.length_map, List.length_range]
theorem range_ev {c : Call} {e : E} {ρ : Env} {M M' : Sto} {m : Int} (h : evE c e ρ M = .ok (.int m, M')) (h1 : -1000000 ≤ m) (h2 : m ≤ 1000000) : evE c (.bi .range [e]) ρ M = .ok (.itr (intsFrom 0 1 m.toNat), M') := by
  rw [ev_bi, evs_cons, h, R.bind_ok, evs_nil, R.bind_ok, R.bind_ok]
  show R.of ((biD .range [nrm M' (.int m)]).map fun d => (d, M')) = _
  rw [nrm_int, bi_range1 (okRange_of h1 h2)]
  rfl
theorem ints_mem {m : Nat} {d : D} (h : d ∈ intsFrom 0 1 m) : ∃ i : Nat, i < m ∧ d = .int (i : Int) := by
  rw [intsFrom_map] at h
  obtain ⟨i, hi, rfl⟩ := List.mem_map.mp h
  exact ⟨i, List.mem_range.mp hi, by simp⟩
theorem sz_m {n : Nat} (h : n ≤ 1000000) : n ≤ SZ := Nat.le_trans h (by decide)
theorem lt_of_ok {a b : D} (h : ltOk a b = true) : cmpD .lt a b = some (dlt a b) := by
  show (if ltOk a b then some (dlt a b) else none) = _
  rw [h]; rfl
theorem ltOk_plain {a b : D} (h : ltOk a b = true) : plain a = true ∧ plain b = true ∧ alike a b = true := by
  unfold ltOk at h
  simp only [Bool.and_eq_true] at h
  exact ⟨h.1.1.1.1, h.1.1.1.2, h.1.1.2⟩
theorem strs_form {Q : List Nat → Prop} : ∀ {ys : List D}, (∀ y ∈ ys, ∃ x, y = .str x ∧ Q x) → ∃ xs : List (List Nat), ys = xs.map D.str ∧ ∀ x ∈ xs, Q x
  | [], _ => ⟨[], rfl, fun _ h => by cases h⟩
  | y :: ys, h => by
    obtain ⟨x, rfl, hx⟩ := h y List.mem_cons_self
    obtain ⟨xs, rfl, hs⟩ := strs_form (ys := ys) fun z hz => h z (List.mem_cons_of_mem _ hz)
    refine ⟨x :: xs, rfl, fun z hz => ?_⟩
    rcases List.mem_cons.mp hz with rfl | hz
    · exact hx
    · exact hs z hz
theorem sing_form {Q : Nat → Prop} : ∀ {xs : List (List Nat)}, (∀ x ∈ xs, ∃ c, x = [c] ∧ Q c) → xs.flatten.length = xs.length ∧ ∀ c ∈ xs.flatten, Q c
  | [], _ => ⟨rfl, fun _ h => by simp at h⟩
  | x :: xs, h => by
    obtain ⟨c, rfl, hc⟩ := h x List.mem_cons_self
    obtain ⟨h1, h2⟩ := sing_form (xs := xs) fun z hz => h z (List.mem_cons_of_mem _ hz)
    refine ⟨by rw [List.flatten_cons, List.length_append, List.length_singleton, List.length_cons, h1]; omega, fun z hz => ?_⟩
    rw [List.flatten_cons] at hz
    rcases List.mem_append.mp hz with hz | hz
    · rw [List.mem_singleton.mp hz]; exact hc
    · exact h2 z hz
theorem join_spl (xs : List (List Nat)) (h : (xs.map List.length).sum ≤ SZ) : meD .join (.str []) [.lst (xs.map D.str)] = some (.str xs.flatten) := by
  show ((strsD (xs.map D.str)).bind fun ys => if (ys.map List.length).sum + ys.length * ([] : List Nat).length ≤ SZ then some (D.str (gluei [] ys)) else none) = _
  rw [strsD_map, Option.bind_some, if_pos (by simpa using h), gluei_nil]
theorem chars_join {P : Nat → Prop} {ys : List D} (h : ∀ y ∈ ys, ∃ c, y = .str [c] ∧ P c) (hl : ys.length ≤ 100000) : ∃ x : List Nat, meD .join (.str []) [.lst ys] = some (.str x) ∧ x.length = ys.length ∧ ∀ c ∈ x, P c := by
  obtain ⟨xs, rfl, hx⟩ := strs_form (Q := fun x => ∃ c, x = [c] ∧ P c) fun y hy => by
    obtain ⟨c, e, hc⟩ := h y hy
    exact ⟨[c], e, c, rfl, hc⟩
  obtain ⟨f1, f2⟩ := sing_form hx
  rw [List.length_map] at hl
  refine ⟨xs.flatten, join_spl xs ?_, by rw [f1, List.length_map], f2⟩
  rw [← List.length_flatten, f1]
  exact sz_m (by omega)
theorem forL_rest {body : Env → Sto → RS} {t : Tg} {I : List D → Env → Sto → Prop} : ∀ {ds : List D} {ρ : Env} {M : Sto}, I ds ρ M → (∀ d ds ρ M, I (d :: ds) ρ M → ∃ ρ1, putT ρ t d = some ρ1 ∧ ∃ ρ2 M2, body ρ1 M = .ok .nx ρ2 M2 ∧ I ds ρ2 M2) → ∃ ρ' M', forL body t ds ρ M = .ok .nx ρ' M' ∧ I [] ρ' M'
  | [], ρ, M, h, _ => ⟨ρ, M, rfl, h⟩
  | d :: ds, ρ, M, h, hb => by
    obtain ⟨ρ1, h1, ρ2, M2, h2, h3⟩ := hb d ds ρ M h
    obtain ⟨ρ', M', e, h4⟩ := forL_rest (ds := ds) h3 hb
    refine ⟨ρ', M', ?_, h4⟩
    rw [forL, h1]
    show (match body ρ1 M with | .ok .nx ρ2 M2 => forL body t ds ρ2 M2 | .ok .ct ρ2 M2 => forL body t ds ρ2 M2 | .ok .bk ρ2 M2 => .ok .nx ρ2 M2 | .ok (.rt d) ρ2 M2 => .ok (.rt d) ρ2 M2 | .exc e ρ2 M2 => .exc e ρ2 M2 | .bad => .bad) = _
    rw [h2]
    exact e
theorem for_rest {c : Call} {sub : Nat → Nat → Bool} {it : E} {b : List S} {t : Tg} {I : List D → Env → Sto → Prop} {ds : List D} {d : D} {ρ : Env} {M M1 : Sto} (h1 : evE c it ρ M = .ok (d, M1)) (h2 : itemsW it d = some ds) (h : I ds ρ M1) (hb : ∀ d ds ρ M, I (d :: ds) ρ M → ∃ ρ1, putT ρ t d = some ρ1 ∧ ∃ ρ2 M2, evSs c sub b ρ1 M = .ok .nx ρ2 M2 ∧ I ds ρ2 M2) :
    ∃ ρ' M', evS c sub (.for t it b) ρ M = .ok .nx ρ' M' ∧ I [] ρ' M' := by
  obtain ⟨ρ', M', e, h4⟩ := forL_rest h hb
  refine ⟨ρ', M', ?_, h4⟩
  rw [es_for, h1, r_toS_ok]
  show (match itemsW it d with | some ds => forL (evSs c sub b) t ds ρ M1 | none => RS.bad) = _
  rw [h2]
  exact e
theorem sortOk_parts {ds : List D} (h : sortOk ds = true) : (∀ a ∈ ds, plain a = true ∧ depth a ≤ 64) ∧ (∀ a ∈ ds, ∀ b ∈ ds, alike a b = true) := by
  unfold sortOk at h
  simp only [Bool.and_eq_true, List.all_eq_true, decide_eq_true_eq] at h
  exact ⟨fun a ha => (h.1 a ha).1, fun a ha => (h.1 a ha).2⟩
theorem sortOk_sub {ds fs : List D} (h : sortOk ds = true) (hs : ∀ x ∈ fs, x ∈ ds) : sortOk fs = true := by
  unfold sortOk at h ⊢
  simp only [Bool.and_eq_true, Bool.or_eq_true, List.all_eq_true, decide_eq_true_eq] at h ⊢
  refine ⟨fun a ha => ⟨(h.1 a (hs a ha)).1, fun b hb => (h.1 a (hs a ha)).2 b (hs b hb)⟩, ?_⟩
  rcases h.2 with h2 | h2
  · exact .inl fun a ha => h2 a (hs a ha)
  · exact .inr fun a ha => h2 a (hs a ha)
theorem plains_of : ∀ {ds : List D}, (∀ a ∈ ds, plain a = true) → plains ds = true
  | [], _ => rfl
  | d :: ds, h => by
    show (plain d && plains ds) = true
    rw [h d List.mem_cons_self, plains_of fun a ha => h a (List.mem_cons_of_mem _ ha)]; rfl
theorem any_mem {a : D} {fs : List D} (h : ∀ y ∈ fs, alike y a = true) : (fs.any fun y => deq y a) = true ↔ a ∈ fs := by
  rw [List.any_eq_true]
  constructor
  · rintro ⟨y, hy, e⟩
    rw [← (deq_iff (h y hy)).mp e]; exact hy
  · intro ha
    exact ⟨a, ha, (deq_iff (h a ha)).mpr rfl⟩
theorem notin_lst {a : D} {fs : List D} (hp : plain a = true) (hd : depth a ≤ 64) (hf : ∀ y ∈ fs, plain y = true) : cmpD .notin a (.lst fs) = some (!(fs.any fun y => deq y a)) := by
  have e : eqOk a (.lst fs) = true := by
    unfold eqOk
    rw [hp, show plain (.lst fs) = plains fs from rfl, plains_of hf, decide_eq_true hd]; rfl
  show (if eqOk a (.lst fs) then some (fs.any fun y => deq y a) else none).map (!·) = _
  rw [e]; rfl
theorem sub_lst_mem {ds : List D} {j : Int} (h0 : 0 ≤ j) (h1 : j < ds.length) : ∃ d, subD (.lst ds) (.int j) = some d ∧ d ∈ ds := by
  have hj : j.toNat < ds.length := by omega
  have := sub_lst (xs := ds) (i := j.toNat) hj
  rw [show ((j.toNat : Nat) : Int) = j by omega] at this
  exact ⟨_, this, List.getElem_mem hj⟩
end Ev
set_option Elab.async false
set_option linter.all false
set_option autoImplicit false
set_option maxRecDepth 100000
set_option maxHeartbeats 4000000
namespace Ev
inductive Lk {α : Type} (a : α) : Type
  | mk
def R.wp (r : R (D × Sto)) (Q : D → Sto → Prop) (X : Xc → Sto → Prop) (_ : Lk Q := .mk) (_ : Lk X := .mk) : Prop := match r with
  | .ok a => Q a.1 a.2
  | .exc e M => X e M
  | .bad => False
def R.wps (r : R (List D × Sto)) (Q : List D → Sto → Prop) (X : Xc → Sto → Prop) (_ : Lk Q := .mk) (_ : Lk X := .mk) : Prop := match r with
  | .ok a => Q a.1 a.2
  | .exc e M => X e M
  | .bad => False
def RS.wp (r : RS) (K : Fl → Env → Sto → Prop) (X : Xc → Env → Sto → Prop) (_ : Lk K := .mk) (_ : Lk X := .mk) : Prop := match r with
  | .ok f ρ M => K f ρ M
  | .exc e ρ M => X e ρ M
  | .bad => False
@[irreducible] def R.wq (r : R (D × Sto)) (Q : D → Sto → Prop) (X : Xc → Sto → Prop) (_ : Lk Q := .mk) (_ : Lk X := .mk) : Prop := r.wp Q X
theorem wq_def (r : R (D × Sto)) (Q : D → Sto → Prop) (X : Xc → Sto → Prop) : r.wq Q X = r.wp Q X := by unfold R.wq; rfl
@[irreducible] def wE (c : Call) (e : E) (ρ : Env) (M : Sto) (Q : D → Sto → Prop) (X : Xc → Sto → Prop) (_ : Lk Q := .mk) (_ : Lk X := .mk) : Prop := (evE c e ρ M).wp Q X
@[irreducible] def wEs (c : Call) (e : List E) (ρ : Env) (M : Sto) (Q : List D → Sto → Prop) (X : Xc → Sto → Prop) (_ : Lk Q := .mk) (_ : Lk X := .mk) : Prop := (evEs c e ρ M).wps Q X
@[irreducible] def wS (c : Call) (sub : Nat → Nat → Bool) (s : S) (ρ : Env) (M : Sto) (K : Fl → Env → Sto → Prop) (X : Xc → Env → Sto → Prop) (_ : Lk K := .mk) (_ : Lk X := .mk) : Prop := (evS c sub s ρ M).wp K X
@[irreducible] def wSs (c : Call) (sub : Nat → Nat → Bool) (s : List S) (ρ : Env) (M : Sto) (K : Fl → Env → Sto → Prop) (X : Xc → Env → Sto → Prop) (_ : Lk K := .mk) (_ : Lk X := .mk) : Prop := (evSs c sub s ρ M).wp K X
def wO {α : Type} (o : Option α) (Q : α → Prop) (_ : Lk Q := .mk) : Prop := match o with
  | some a => Q a
  | none => False
def wB (d : D) (P Q : Prop) (_ : Lk P := .mk) (_ : Lk Q := .mk) : Prop := match d with
  | .bl true => P
  | .bl false => Q
  | _ => False
def seqK (c : Call) (sub : Nat → Nat → Bool) (ss : List S) (K : Fl → Env → Sto → Prop) (X : Xc → Env → Sto → Prop) (f : Fl) (ρ : Env) (M : Sto) (_ : Lk K := .mk) (_ : Lk X := .mk) : Prop := match f with
  | .nx => wSs c sub ss ρ M K X
  | f => K f ρ M
def outK (Q : D → Sto → Prop) (f : Fl) (_ : Env) (M : Sto) (_ : Lk Q := .mk) : Prop := match f with
  | .nx => Q .non M
  | .rt d => Q d M
  | _ => False
def outX (X : Xc → Sto → Prop) (e : Xc) (_ : Env) (M : Sto) (_ : Lk X := .mk) : Prop := X e M
def noX (_ : Xc) (_ : Sto) : Prop := False
@[irreducible] def wCL (c : Call) (cs : List E) (e : E) (t : Tg) (ds : List D) (ρ : Env) (M : Sto) (Q : List D → Sto → Prop) (_ : Lk Q := .mk) : Prop := (compL (evCs c cs) (evE c e) t ds ρ M).wps Q noX
@[irreducible] def wFor (c : Call) (sub : Nat → Nat → Bool) (b : List S) (t : Tg) (ds : List D) (ρ : Env) (M : Sto) (K : Fl → Env → Sto → Prop) (X : Xc → Env → Sto → Prop) (_ : Lk K := .mk) (_ : Lk X := .mk) : Prop := (forL (evSs c sub b) t ds ρ M).wp K X
def tryX (c : Call) (sub : Nat → Nat → Bool) (k : Nat) (h : List S) (k2 : Option Nat) (h2 : List S) (K : Fl → Env → Sto → Prop) (X : Xc → Env → Sto → Prop) (e : Xc) (ρ : Env) (M : Sto) (_ : Lk K := .mk) (_ : Lk X := .mk) : Prop :=
  if sub e.cls k then wSs c sub h ρ M K X else match k2 with
    | none => X e ρ M
    | some j => if sub e.cls j then wSs c sub h2 ρ M K X else X e ρ M
theorem wp_cgQ {r : R (D × Sto)} {Q Q' : D → Sto → Prop} {X : Xc → Sto → Prop} (h : ∀ d M, Q d M = Q' d M) : r.wp Q X = r.wp Q' X := by
  cases r <;> first | exact h _ _ | rfl
theorem wps_cgQ {r : R (List D × Sto)} {Q Q' : List D → Sto → Prop} {X : Xc → Sto → Prop} (h : ∀ d M, Q d M = Q' d M) : r.wps Q X = r.wps Q' X := by
  cases r <;> first | exact h _ _ | rfl
theorem wO_cgQ {α : Type} {o : Option α} {Q Q' : α → Prop} (h : ∀ a, Q a = Q' a) : wO o Q = wO o Q' := by
  cases o <;> first | exact h _ | rfl
theorem wO_some {α : Type} (a : α) (Q : α → Prop) : wO (some a) Q = Q a := of_eq_true (eq_self _)
theorem wO_none {α : Type} (Q : α → Prop) : wO (none : Option α) Q = False := of_eq_true (eq_self _)
theorem wO_map {α β : Type} (o : Option α) (f : α → β) (Q : β → Prop) : wO (o.map f) Q = wO o fun a => Q (f a) := by cases o <;> rfl
theorem wO_if {α : Type} (b : Prop) [Decidable b] (a : α) (Q : α → Prop) : wO (if b then some a else none) Q = (b ∧ Q a) := by
  by_cases h : b
  · rw [if_pos h]; exact propext ⟨fun q => ⟨h, q⟩, fun q => q.2⟩
  · rw [if_neg h]; exact propext ⟨fun q => q.elim, fun q => h q.1⟩
theorem wO_of {α : Type} {o : Option α} {a : α} {Q : α → Prop} (h : o = some a) (q : Q a) : wO o Q := by rw [h]; exact q
theorem wB_t (P Q : Prop) : wB (.bl true) P Q = P := of_eq_true (eq_self _)
theorem wB_f (P Q : Prop) : wB (.bl false) P Q = Q := of_eq_true (eq_self _)
theorem wB_sp {b : Bool} {P Q : Prop} (h1 : b = true → P) (h2 : b = false → Q) : wB (.bl b) P Q := by
  cases b
  · exact h2 rfl
  · exact h1 rfl
theorem wp_ok (d : D) (M : Sto) (Q : D → Sto → Prop) (X : Xc → Sto → Prop) : R.wq (.ok (d, M)) Q X = Q d M := by rw [wq_def]; rfl
theorem wp_ok' (d : D × Sto) (Q : D → Sto → Prop) (X : Xc → Sto → Prop) : R.wp (.ok d) Q X = Q d.1 d.2 := of_eq_true (eq_self _)
theorem wp_exc (e : Xc) (M : Sto) (Q : D → Sto → Prop) (X : Xc → Sto → Prop) : R.wp (.exc e M) Q X = X e M := of_eq_true (eq_self _)
theorem seqK_nx {c : Call} {sub : Nat → Nat → Bool} {ss : List S} {ρ : Env} {M : Sto} {K : Fl → Env → Sto → Prop} {X : Xc → Env → Sto → Prop} : seqK c sub ss K X .nx ρ M = wSs c sub ss ρ M K X := of_eq_true (eq_self _)
theorem seqK_rt {c : Call} {sub : Nat → Nat → Bool} {ss : List S} {d : D} {ρ : Env} {M : Sto} {K : Fl → Env → Sto → Prop} {X : Xc → Env → Sto → Prop} : seqK c sub ss K X (.rt d) ρ M = K (.rt d) ρ M := of_eq_true (eq_self _)
theorem seqK_bk {c : Call} {sub : Nat → Nat → Bool} {ss : List S} {ρ : Env} {M : Sto} {K : Fl → Env → Sto → Prop} {X : Xc → Env → Sto → Prop} : seqK c sub ss K X .bk ρ M = K .bk ρ M := of_eq_true (eq_self _)
theorem seqK_ct {c : Call} {sub : Nat → Nat → Bool} {ss : List S} {ρ : Env} {M : Sto} {K : Fl → Env → Sto → Prop} {X : Xc → Env → Sto → Prop} : seqK c sub ss K X .ct ρ M = K .ct ρ M := of_eq_true (eq_self _)
theorem outK_nx {Q : D → Sto → Prop} {ρ : Env} {M : Sto} : outK Q .nx ρ M = Q .non M := of_eq_true (eq_self _)
theorem outK_rt {Q : D → Sto → Prop} {ρ : Env} {M : Sto} {d : D} : outK Q (.rt d) ρ M = Q d M := of_eq_true (eq_self _)
theorem outX_ {X : Xc → Sto → Prop} {e : Xc} {ρ : Env} {M : Sto} : outX X e ρ M = X e M := of_eq_true (eq_self _)
theorem noX_ {e : Xc} {M : Sto} : noX e M = False := of_eq_true (eq_self _)
section
set_option autoImplicit true
variable {c : Call} {sub : Nat → Nat → Bool} {ρ : Env} {M : Sto} {Q : D → Sto → Prop} {X : Xc → Sto → Prop} {K : Fl → Env → Sto → Prop} {Y : Xc → Env → Sto → Prop} {QL : List D → Sto → Prop}
theorem wp_bind {r : R (D × Sto)} {f : D × Sto → R (D × Sto)} : (r.bind f).wp Q X = r.wp (fun d M => (f (d, M)).wp Q X) X := by cases r <;> rfl
theorem wps_bind {r : R (List D × Sto)} {f : List D × Sto → R (D × Sto)} : (r.bind f).wp Q X = r.wps (fun d M => (f (d, M)).wp Q X) X := by cases r <;> rfl
theorem wp_of {o : Option (D × Sto)} : (R.of o).wp Q X = wO o fun a => Q a.1 a.2 := by cases o <;> rfl
theorem wp_bindo {α : Type} {o : Option α} {f : α → R (D × Sto)} : ((R.of o).bind f).wp Q X = wO o fun a => (f a).wp Q X := by cases o <;> rfl
theorem wE_var : wE c (.var i) ρ M Q X = wO (get ρ i) fun d => Q d M := by
  try unfold wE
  try unfold wEs
  try unfold wS
  try unfold wSs
  try unfold wFor
  try unfold wCL
  skip; rw [ev_var, wp_of]; cases get ρ i <;> rfl
theorem wE_bor : wE c (.bor i) ρ M Q X = wO (get ρ i) fun d => Q d M := by
  try unfold wE
  try unfold wEs
  try unfold wS
  try unfold wSs
  try unfold wFor
  try unfold wCL
  skip; rw [ev_bor, wp_of]; cases get ρ i <;> rfl
theorem wE_con : wE c (.con d) ρ M Q X = Q d M := by unfold wE; first | rfl | (unfold wE; rfl)
theorem wE_neg : wE c (.neg a) ρ M Q X = wE c a ρ M (fun d M => wO (match d with | .int i => some i | _ => none) fun i => Q (.int (-i)) M) X := by
  try unfold wE
  try unfold wEs
  try unfold wS
  try unfold wSs
  try unfold wFor
  try unfold wCL
  skip; rw [ev_neg, wp_bind]; (first | refine wp_cgQ fun d M => ?_ | refine wps_cgQ fun d M => ?_); cases d <;> rfl
theorem wE_bin : wE c (.bin o a b) ρ M Q X = wE c a ρ M (fun x M1 => wE c b ρ M1 (fun y M2 => wO (binD o (nrm M2 x) (nrm M2 y)) fun d => Q d M2) X) X := by
  try unfold wE
  try unfold wEs
  try unfold wS
  try unfold wSs
  try unfold wFor
  try unfold wCL
  skip; rw [ev_bin, wp_bind]; (first | refine wp_cgQ fun d M => ?_ | refine wps_cgQ fun d M => ?_); rw [wp_bind]; (first | refine wp_cgQ fun d' M' => ?_ | refine wps_cgQ fun d' M' => ?_)
  show (R.of ((binD o (nrm M' d) (nrm M' d')).map fun d => (d, M'))).wp Q X = _
  rw [wp_of, wO_map]
theorem wE_cmp : wE c (.cmp o a b) ρ M Q X = wE c a ρ M (fun x M1 => wE c b ρ M1 (fun y M2 => wO (cmpD o (nrm M2 x) (nrm M2 y)) fun d => Q (.bl d) M2) X) X := by
  try unfold wE
  try unfold wEs
  try unfold wS
  try unfold wSs
  try unfold wFor
  try unfold wCL
  skip; rw [ev_cmp, wp_bind]; (first | refine wp_cgQ fun d M => ?_ | refine wps_cgQ fun d M => ?_); rw [wp_bind]; (first | refine wp_cgQ fun d' M' => ?_ | refine wps_cgQ fun d' M' => ?_)
  show (R.of ((cmpD o (nrm M' d) (nrm M' d')).map fun d => (D.bl d, M'))).wp Q X = _
  rw [wp_of, wO_map]
theorem wE_chain : wE c (.chain o o' a b e) ρ M Q X = wE c a ρ M (fun x M1 => wE c b ρ M1 (fun y M2 => wO (cmpD o (nrm M2 x) (nrm M2 y)) fun t => wB (.bl t) (wE c e ρ M2 (fun z M3 => wO (cmpD o' (nrm M3 y) (nrm M3 z)) fun d => Q (.bl d) M3) X) (Q (.bl false) M2)) X) X := by
  try unfold wE
  try unfold wEs
  try unfold wS
  try unfold wSs
  try unfold wFor
  try unfold wCL
  skip; rw [ev_chain, wp_bind]; (first | refine wp_cgQ fun d M => ?_ | refine wps_cgQ fun d M => ?_); rw [wp_bind]; (first | refine wp_cgQ fun d' M' => ?_ | refine wps_cgQ fun d' M' => ?_)
  show R.wp (match cmpD o (nrm M' d) (nrm M' d') with
    | some true => (evE c e ρ M').bind fun p => R.of ((cmpD o' (nrm p.2 d') (nrm p.2 p.1)).map fun d => (D.bl d, p.2))
    | some false => .ok (.bl false, M')
    | none => .bad) Q X = _
  cases cmpD o (nrm M' d) (nrm M' d') with
  | none => rfl
  | some b => cases b with
    | false => rfl
    | true =>
      rw [wO_some, wB_t]
      show ((evE c e ρ M').bind fun p => R.of ((cmpD o' (nrm p.2 d') (nrm p.2 p.1)).map fun d => (D.bl d, p.2))).wp Q X = _
      rw [wp_bind]; (first | refine wp_cgQ fun z M3 => ?_ | refine wps_cgQ fun z M3 => ?_)
      show (R.of ((cmpD o' (nrm M3 d') (nrm M3 z)).map fun d => (D.bl d, M3))).wp Q X = _
      rw [wp_of, wO_map]
theorem wE_and : wE c (.and a b) ρ M Q X = wE c a ρ M (fun d M => wB d (wE c b ρ M Q X) (Q (.bl false) M)) X := by
  try unfold wE
  try unfold wEs
  try unfold wS
  try unfold wSs
  try unfold wFor
  try unfold wCL
  skip; rw [ev_and, wp_bind]; (first | refine wp_cgQ fun d M => ?_ | refine wps_cgQ fun d M => ?_)
  cases d with
  | bl b => cases b <;> rfl
  | _ => rfl
theorem wE_or : wE c (.or a b) ρ M Q X = wE c a ρ M (fun d M => wB d (Q (.bl true) M) (wE c b ρ M Q X)) X := by
  try unfold wE
  try unfold wEs
  try unfold wS
  try unfold wSs
  try unfold wFor
  try unfold wCL
  skip; rw [ev_or, wp_bind]; (first | refine wp_cgQ fun d M => ?_ | refine wps_cgQ fun d M => ?_)
  cases d with
  | bl b => cases b <;> rfl
  | _ => rfl
theorem wE_not : wE c (.not a) ρ M Q X = wE c a ρ M (fun d M => wO (match d with | .bl b => some b | _ => none) fun b => Q (.bl (!b)) M) X := by
  try unfold wE
  try unfold wEs
  try unfold wS
  try unfold wSs
  try unfold wFor
  try unfold wCL
  skip; rw [ev_not, wp_bind]; (first | refine wp_cgQ fun d M => ?_ | refine wps_cgQ fun d M => ?_); cases d <;> rfl
theorem wE_ite : wE c (.ite x a b) ρ M Q X = wE c x ρ M (fun d M => wB d (wE c a ρ M Q X) (wE c b ρ M Q X)) X := by
  try unfold wE
  try unfold wEs
  try unfold wS
  try unfold wSs
  try unfold wFor
  try unfold wCL
  skip; rw [ev_ite, wp_bind]; (first | refine wp_cgQ fun d M => ?_ | refine wps_cgQ fun d M => ?_)
  cases d with
  | bl b => cases b <;> rfl
  | _ => rfl
theorem wE_join : wE c (.join a b) ρ M Q X = wE c a ρ M (fun d M => wO (match d with | .str s => some s | _ => none) fun s => wE c b ρ M (fun y M2 => wO (meD .join (.str s) [nrm M2 y]) fun d => Q d M2) X) X := by
  try unfold wE
  try unfold wEs
  try unfold wS
  try unfold wSs
  try unfold wFor
  try unfold wCL
  skip; rw [ev_join, wp_bind]; (first | refine wp_cgQ fun d M => ?_ | refine wps_cgQ fun d M => ?_)
  cases d with
  | str s =>
    show ((evE c b ρ M).bind fun q => R.of ((meD .join (.str s) [nrm q.2 q.1]).map fun d => (d, q.2))).wp Q X = wO (some s) fun s => (evE c b ρ M).wp (fun y M2 => wO (meD .join (.str s) [nrm M2 y]) fun d => Q d M2) X
    rw [wO_some, wp_bind]; (first | refine wp_cgQ fun y M2 => ?_ | refine wps_cgQ fun y M2 => ?_)
    show (R.of ((meD .join (.str s) [nrm M2 y]).map fun d => (d, M2))).wp Q X = _
    rw [wp_of, wO_map]
  | _ => rfl
theorem wE_call : wE c (.call f as) ρ M Q X = wEs c as ρ M (fun ds M => (c f ds M).wq Q X) X := by
  unfold wE wEs; rw [ev_call, wps_bind]
  exact wps_cgQ fun ds M => (wq_def _ _ _).symm
theorem wE_callv : wE c (.callv n f as) ρ M Q X = wE c f ρ M (fun d M => wO (match d with | .fn g => if g < n then some g else none | _ => none) fun g => wEs c as ρ M (fun ds M => (c g ds M).wq Q X) X) X := by
  unfold wE wEs; rw [ev_callv, wp_bind]; refine wp_cgQ fun d M => ?_
  cases d with
  | fn g =>
    show (if g < n then (evEs c as ρ M).bind fun r => c g r.1 r.2 else R.bad).wp Q X = wO (if g < n then some g else none) _
    split
    · rw [wps_bind]
      exact wps_cgQ fun ds M => (wq_def _ _ _).symm
    · rfl
  | _ => rfl
theorem wE_bi : wE c (.bi b as) ρ M Q X = wEs c as ρ M (fun ds M => wO (biD b (if isWlk b then ds else ds.map (nrm M))) fun d => Q d M) X := by
  try unfold wE
  try unfold wEs
  try unfold wS
  try unfold wSs
  try unfold wFor
  try unfold wCL
  skip; rw [ev_bi, wps_bind]; (first | refine wp_cgQ fun ds M => ?_ | refine wps_cgQ fun ds M => ?_)
  show (R.of ((biD b (if isWlk b then ds else ds.map (nrm M))).map fun d => (d, M))).wp Q X = _
  rw [wp_of, wO_map]
theorem wE_me : wE c (.me m a as) ρ M Q X = wE c a ρ M (fun d M => isDct (nrm M d) = true ∧ wEs c as ρ M (fun ds M2 => wO (meD m (nrm M2 d) (match m with | .get => ds | _ => ds.map (nrm M2))) fun v => Q v M2) X) X := by
  try unfold wE
  try unfold wEs
  try unfold wS
  try unfold wSs
  try unfold wFor
  try unfold wCL
  skip; rw [ev_me, wp_bind]; (first | refine wp_cgQ fun d M => ?_ | refine wps_cgQ fun d M => ?_)
  show (if isDct (nrm M d) = false then R.bad else (evEs c as ρ M).bind fun r => R.of ((meD m (nrm r.2 d) (match m with | .get => r.1 | _ => r.1.map (nrm r.2))).map fun d => (d, r.2))).wp Q X = _
  cases isDct (nrm M d) with
  | false => exact propext ⟨fun h => h.elim, fun h => by cases h.1⟩
  | true =>
    rw [if_neg (by decide), wps_bind]
    refine propext ⟨fun h => ⟨rfl, ?_⟩, fun h => ?_⟩
    · refine cast ?_ h; (first | refine wp_cgQ fun ds M2 => ?_ | refine wps_cgQ fun ds M2 => ?_)
      rw [wp_of, wO_map]
    · refine cast ?_ h.2; (first | refine wp_cgQ fun ds M2 => ?_ | refine wps_cgQ fun ds M2 => ?_)
      rw [wp_of, wO_map]
theorem wE_mu : wE c (.mu m a as) ρ M Q X = wE c a ρ M (fun d M => muFitM m M d = true ∧ wEs c as ρ M (fun ds M2 => wO (muM m d ds M2) fun v => Q v.1 v.2) X) X := by
  try unfold wE
  try unfold wEs
  try unfold wS
  try unfold wSs
  try unfold wFor
  try unfold wCL
  skip; rw [ev_mu, wp_bind]; (first | refine wp_cgQ fun d M => ?_ | refine wps_cgQ fun d M => ?_)
  show (if muFitM m M d = false then R.bad else (evEs c as ρ M).bind fun r => R.of (muM m d r.1 r.2)).wp Q X = _
  cases muFitM m M d with
  | false => exact propext ⟨fun h => h.elim, fun h => by cases h.1⟩
  | true =>
    rw [if_neg (by decide), wps_bind]
    refine propext ⟨fun h => ⟨rfl, ?_⟩, fun h => ?_⟩
    · refine cast ?_ h; (first | refine wp_cgQ fun ds M2 => ?_ | refine wps_cgQ fun ds M2 => ?_)
      rw [wp_of]
    · refine cast ?_ h.2; (first | refine wp_cgQ fun ds M2 => ?_ | refine wps_cgQ fun ds M2 => ?_)
      rw [wp_of]
theorem wE_tup : wE c (.tup as) ρ M Q X = wEs c as ρ M (fun ds M => Q (.tup ds) M) X := by
  try unfold wE
  try unfold wEs
  try unfold wS
  try unfold wSs
  try unfold wFor
  try unfold wCL
  skip; rw [ev_tup, wps_bind]; rfl
theorem wE_lst : wE c (.lst as) ρ M Q X = wEs c as ρ M (fun ds M => Q (.lst ds) M) X := by
  try unfold wE
  try unfold wEs
  try unfold wS
  try unfold wSs
  try unfold wFor
  try unfold wCL
  skip; rw [ev_lst, wps_bind]; rfl
theorem wE_dct : wE c (.dct t as) ρ M Q X = wEs c as ρ M (fun ds M => wO (dctOf t ds []) fun kvs => Q (.dct t kvs) M) X := by
  try unfold wE
  try unfold wEs
  try unfold wS
  try unfold wSs
  try unfold wFor
  try unfold wCL
  skip; rw [ev_dct, wps_bind]; (first | refine wp_cgQ fun ds M => ?_ | refine wps_cgQ fun ds M => ?_)
  show (R.of ((dctOf t ds []).map fun kvs => (D.dct t kvs, M))).wp Q X = _
  rw [wp_of, wO_map]
theorem wE_sub : wE c (.sub a i) ρ M Q X = wE c a ρ M (fun x M1 => wE c i ρ M1 (fun y M2 => wO (subD (nrm M2 x) y) fun d => Q d M2) X) X := by
  try unfold wE
  try unfold wEs
  try unfold wS
  try unfold wSs
  try unfold wFor
  try unfold wCL
  skip; rw [ev_sub, wp_bind]; (first | refine wp_cgQ fun d M => ?_ | refine wps_cgQ fun d M => ?_); rw [wp_bind]; (first | refine wp_cgQ fun d' M' => ?_ | refine wps_cgQ fun d' M' => ?_)
  show (R.of ((subD (nrm M' d) d').map fun d => (d, M'))).wp Q X = _
  rw [wp_of, wO_map]
theorem wE_slc : wE c (.slc a l h) ρ M Q X = wE c a ρ M (fun x M1 => wE c l ρ M1 (fun y M2 => wO (bnd (isNon l) y) fun lo => wE c h ρ M2 (fun z M3 => wO (bnd (isNon h) z) fun hi => wO (slcD (nrm M3 x) lo hi) fun d => Q d M3) X) X) X := by
  try unfold wE
  try unfold wEs
  try unfold wS
  try unfold wSs
  try unfold wFor
  try unfold wCL
  skip; rw [ev_slc, wp_bind]; (first | refine wp_cgQ fun d M => ?_ | refine wps_cgQ fun d M => ?_); rw [wp_bind]; (first | refine wp_cgQ fun d' M' => ?_ | refine wps_cgQ fun d' M' => ?_); rw [wp_bindo]; refine wO_cgQ fun lo => ?_; rw [wp_bind]; (first | refine wp_cgQ fun z M3 => ?_ | refine wps_cgQ fun z M3 => ?_); rw [wp_bindo]; refine wO_cgQ fun hi => ?_
  rw [wp_of, wO_map]
theorem wE_comp : wE c (.comp e t it cs) ρ M Q X = wE c it ρ M (fun d M => wO (itemsW it d) fun ds => ds.length ≤ SZ ∧ wCL c cs e t ds ρ M fun ys M => Q (.lst ys) M) X := by
  have nox : ∀ (ds : List D) (M : Sto), (∃ a, compL (evCs c cs) (evE c e) t ds ρ M = .ok a) ∨ compL (evCs c cs) (evE c e) t ds ρ M = .bad := fun ds => by
    induction ds with
    | nil => exact fun M => .inl ⟨_, rfl⟩
    | cons d ds ih =>
      intro M
      unfold compL
      cases putT ρ t d with
      | none => exact .inr rfl
      | some ρ' =>
        show (∃ a, (match evCs c cs ρ' M with | .ok (true, M1) => (match evE c e ρ' M1 with | .ok (y, M2) => (match compL (evCs c cs) (evE c e) t ds ρ M2 with | .ok (ys, M3) => R.ok (y :: ys, M3) | _ => .bad) | _ => .bad) | .ok (false, M1) => compL (evCs c cs) (evE c e) t ds ρ M1 | _ => .bad) = .ok a) ∨ (match evCs c cs ρ' M with | .ok (true, M1) => (match evE c e ρ' M1 with | .ok (y, M2) => (match compL (evCs c cs) (evE c e) t ds ρ M2 with | .ok (ys, M3) => R.ok (y :: ys, M3) | _ => .bad) | _ => .bad) | .ok (false, M1) => compL (evCs c cs) (evE c e) t ds ρ M1 | _ => .bad) = .bad
        cases evCs c cs ρ' M with
        | exc => exact .inr rfl
        | bad => exact .inr rfl
        | ok a =>
          obtain ⟨b, M1⟩ := a
          cases b with
          | false => exact ih M1
          | true =>
            show (∃ a, (match evE c e ρ' M1 with | .ok (y, M2) => (match compL (evCs c cs) (evE c e) t ds ρ M2 with | .ok (ys, M3) => R.ok (y :: ys, M3) | _ => .bad) | _ => .bad) = .ok a) ∨ (match evE c e ρ' M1 with | .ok (y, M2) => (match compL (evCs c cs) (evE c e) t ds ρ M2 with | .ok (ys, M3) => R.ok (y :: ys, M3) | _ => .bad) | _ => .bad) = .bad
            cases evE c e ρ' M1 with
            | exc => exact .inr rfl
            | bad => exact .inr rfl
            | ok a =>
              obtain ⟨y, M2⟩ := a
              show (∃ a, (match compL (evCs c cs) (evE c e) t ds ρ M2 with | .ok (ys, M3) => R.ok (y :: ys, M3) | _ => .bad) = .ok a) ∨ (match compL (evCs c cs) (evE c e) t ds ρ M2 with | .ok (ys, M3) => R.ok (y :: ys, M3) | _ => .bad) = .bad
              rcases ih M2 with ⟨a, h⟩ | h
              · rw [h]; exact .inl ⟨_, rfl⟩
              · rw [h]; exact .inr rfl
  try unfold wE
  try unfold wEs
  try unfold wS
  try unfold wSs
  try unfold wFor
  try unfold wCL
  skip; rw [ev_comp, wp_bind]; (first | refine wp_cgQ fun d M => ?_ | refine wps_cgQ fun d M => ?_)
  show R.wp (match itemsW it d with | some ds => if ds.length ≤ SZ then (compL (evCs c cs) (evE c e) t ds ρ M).bind fun q => .ok (.lst q.1, q.2) else .bad | none => .bad) Q X = _
  cases itemsW it d with
  | none => rfl
  | some ds =>
    show R.wp (if ds.length ≤ SZ then (compL (evCs c cs) (evE c e) t ds ρ M).bind fun q => .ok (.lst q.1, q.2) else .bad) Q X = (ds.length ≤ SZ ∧ _)
    by_cases h : ds.length ≤ SZ
    · rw [if_pos h]
      rcases nox ds M with ⟨a, e⟩ | e
      · rw [e]; exact propext ⟨fun q => ⟨h, q⟩, fun q => q.2⟩
      · rw [e]; exact propext ⟨fun q => q.elim, fun q => q.2.elim⟩
    · rw [if_neg h]; exact propext ⟨fun q => q.elim, fun q => h q.1⟩
theorem wE_alloc : wE c (.alloc a) ρ M Q X = wE c a ρ M (fun d M => isBox d = true ∧ Q (.obj M.length) (M ++ [.val d])) X := by
  try unfold wE
  try unfold wEs
  try unfold wS
  try unfold wSs
  try unfold wFor
  try unfold wCL
  skip; rw [ev_alloc, wp_bind]; (first | refine wp_cgQ fun d M => ?_ | refine wps_cgQ fun d M => ?_)
  show R.wp (if isBox d = true then .ok (.obj M.length, M ++ [.val d]) else .bad) Q X = _
  by_cases h : isBox d = true
  · rw [if_pos h]; exact propext ⟨fun q => ⟨h, q⟩, fun q => q.2⟩
  · rw [if_neg h]; exact propext ⟨fun q => q.elim, fun q => h q.1⟩
theorem wEs_nil : wEs c [] ρ M QL X = QL [] M := by unfold wEs; first | rfl | (unfold wEs; rfl)
theorem wEs_cons : wEs c (e :: es) ρ M QL X = wE c e ρ M (fun d M => wEs c es ρ M (fun ds M => QL (d :: ds) M) X) X := by
  try unfold wE
  try unfold wEs
  try unfold wS
  try unfold wSs
  try unfold wFor
  try unfold wCL
  skip; rw [evs_cons]
  cases evE c e ρ M with
  | ok a =>
    rw [wp_ok']
    show R.wps ((evEs c es ρ a.2).bind fun q => R.ok (a.1 :: q.1, q.2)) QL X = _
    cases evEs c es ρ a.2 <;> rfl
  | exc => rfl
  | bad => rfl
theorem wp_toS {r : R (D × Sto)} {f : D × Sto → RS} : (r.toS ρ f).wp K Y = r.wp (fun d M => (f (d, M)).wp K Y) (fun e M => Y e ρ M) := by cases r <;> rfl
theorem wps_toS {r : R (List D × Sto)} {f : List D × Sto → RS} : (r.toS ρ f).wp K Y = r.wps (fun d M => (f (d, M)).wp K Y) (fun e M => Y e ρ M) := by cases r <;> rfl
theorem wS_set : wS c sub (.set i e) ρ M K Y = wE c e ρ M (fun d M => K .nx (put ρ i d) M) (fun e M => Y e ρ M) := by
  try unfold wE
  try unfold wEs
  try unfold wS
  try unfold wSs
  try unfold wFor
  try unfold wCL
  skip; rw [es_set, wp_toS]; rfl
theorem wS_own : wS c sub (.own i e) ρ M K Y = wE c e ρ M (fun d M => isBox d = true ∧ K .nx (put ρ i d) M) (fun e M => Y e ρ M) := by
  try unfold wE
  try unfold wEs
  try unfold wS
  try unfold wSs
  try unfold wFor
  try unfold wCL
  skip; rw [es_own, wp_toS]; (first | refine wp_cgQ fun d M => ?_ | refine wps_cgQ fun d M => ?_)
  show RS.wp (if isBox d = true then .ok .nx (put ρ i d) M else .bad) K Y = _
  by_cases h : isBox d = true
  · rw [if_pos h]; exact propext ⟨fun q => ⟨h, q⟩, fun q => q.2⟩
  · rw [if_neg h]; exact propext ⟨fun q => q.elim, fun q => h q.1⟩
theorem wS_unp : wS c sub (.unp is e) ρ M K Y = wE c e ρ M (fun d M => wO ((seqOf d).bind (puts ρ is)) fun ρ' => K .nx ρ' M) (fun e M => Y e ρ M) := by
  try unfold wE
  try unfold wEs
  try unfold wS
  try unfold wSs
  try unfold wFor
  try unfold wCL
  skip; rw [es_unp, wp_toS]; (first | refine wp_cgQ fun d M => ?_ | refine wps_cgQ fun d M => ?_)
  show RS.wp (match (seqOf d).bind (puts ρ is) with | some ρ' => .ok .nx ρ' M | none => .bad) K Y = _
  cases (seqOf d).bind (puts ρ is) <;> rfl
theorem wS_par : wS c sub (.par is es) ρ M K Y = wEs c es ρ M (fun ds M => wO (puts ρ is ds) fun ρ' => K .nx ρ' M) (fun e M => Y e ρ M) := by
  try unfold wE
  try unfold wEs
  try unfold wS
  try unfold wSs
  try unfold wFor
  try unfold wCL
  skip; rw [es_par, wps_toS]; (first | refine wp_cgQ fun d M => ?_ | refine wps_cgQ fun d M => ?_)
  show RS.wp (match puts ρ is d with | some ρ' => .ok .nx ρ' M | none => .bad) K Y = _
  cases puts ρ is d <;> rfl
theorem wS_aug : wS c sub (.aug i o e) ρ M K Y = wO (get ρ i) fun d => wE c e ρ M (fun y M => wO (augD o d y) fun v => K .nx (put ρ i v) M) (fun e M => Y e ρ M) := by
  try unfold wE
  try unfold wEs
  try unfold wS
  try unfold wSs
  try unfold wFor
  try unfold wCL
  skip; rw [es_aug]
  cases get ρ i with
  | none => rfl
  | some d =>
    rw [wO_some]
    show RS.wp ((evE c e ρ M).toS ρ fun r => match augD o d r.1 with | some v => .ok .nx (put ρ i v) r.2 | none => .bad) K Y = _
    rw [wp_toS]; (first | refine wp_cgQ fun y M => ?_ | refine wps_cgQ fun y M => ?_)
    show RS.wp (match augD o d y with | some v => .ok .nx (put ρ i v) M | none => .bad) K Y = _
    cases augD o d y <;> rfl
theorem wS_ex : wS c sub (.ex e) ρ M K Y = wE c e ρ M (fun _ M => K .nx ρ M) (fun e M => Y e ρ M) := by
  try unfold wE
  try unfold wEs
  try unfold wS
  try unfold wSs
  try unfold wFor
  try unfold wCL
  skip; rw [es_ex, wp_toS]; rfl
theorem wS_omu : wS c sub (.omu m i as) ρ M K Y = wO (get ρ i) fun d => muFit m d = true ∧ wEs c as ρ M (fun ds M => wO (muD m d (muArg m M ds)) fun q => K .nx (put ρ i q.2) M) (fun e M => Y e ρ M) := by
  try unfold wE
  try unfold wEs
  try unfold wS
  try unfold wSs
  try unfold wFor
  try unfold wCL
  skip; rw [es_omu]
  cases get ρ i with
  | none => rfl
  | some d =>
    show RS.wp (if muFit m d = true then (evEs c as ρ M).toS ρ fun r => match muD m d (muArg m r.2 r.1) with | some q => .ok .nx (put ρ i q.2) r.2 | none => .bad else .bad) K Y = (muFit m d = true ∧ _)
    have e : ((evEs c as ρ M).toS ρ fun r => match muD m d (muArg m r.2 r.1) with | some q => .ok .nx (put ρ i q.2) r.2 | none => .bad).wp K Y = (evEs c as ρ M).wps (fun ds M => wO (muD m d (muArg m M ds)) fun q => K .nx (put ρ i q.2) M) (fun e M => Y e ρ M) := by
      rw [wps_toS]; (first | refine wp_cgQ fun ds M => ?_ | refine wps_cgQ fun ds M => ?_)
      show RS.wp (match muD m d (muArg m M ds) with | some q => .ok .nx (put ρ i q.2) M | none => .bad) K Y = _
      cases muD m d (muArg m M ds) <;> rfl
    by_cases h : muFit m d = true
    · rw [if_pos h, e]; exact propext ⟨fun q => ⟨h, q⟩, fun q => q.2⟩
    · rw [if_neg h]; exact propext ⟨fun q => q.elim, fun q => h q.1⟩
theorem wS_osm : wS c sub (.osm j m i as) ρ M K Y = wO (get ρ i) fun d => muFit m d = true ∧ wEs c as ρ M (fun ds M => wO (muD m d ds) fun q => K .nx (put (put ρ i q.2) j q.1) M) (fun e M => Y e ρ M) := by
  try unfold wE
  try unfold wEs
  try unfold wS
  try unfold wSs
  try unfold wFor
  try unfold wCL
  skip; rw [es_osm]
  cases get ρ i with
  | none => rfl
  | some d =>
    show RS.wp (if muFit m d = true then (evEs c as ρ M).toS ρ fun r => match muD m d r.1 with | some q => .ok .nx (put (put ρ i q.2) j q.1) r.2 | none => .bad else .bad) K Y = (muFit m d = true ∧ _)
    have e : ((evEs c as ρ M).toS ρ fun r => match muD m d r.1 with | some q => .ok .nx (put (put ρ i q.2) j q.1) r.2 | none => .bad).wp K Y = (evEs c as ρ M).wps (fun ds M => wO (muD m d ds) fun q => K .nx (put (put ρ i q.2) j q.1) M) (fun e M => Y e ρ M) := by
      rw [wps_toS]; (first | refine wp_cgQ fun ds M => ?_ | refine wps_cgQ fun ds M => ?_)
      show RS.wp (match muD m d ds with | some q => .ok .nx (put (put ρ i q.2) j q.1) M | none => .bad) K Y = _
      cases muD m d ds <;> rfl
    by_cases h : muFit m d = true
    · rw [if_pos h, e]; exact propext ⟨fun q => ⟨h, q⟩, fun q => q.2⟩
    · rw [if_neg h]; exact propext ⟨fun q => q.elim, fun q => h q.1⟩
theorem wS_ret : wS c sub (.ret e) ρ M K Y = wE c e ρ M (fun d M => K (.rt d) ρ M) (fun e M => Y e ρ M) := by
  try unfold wE
  try unfold wEs
  try unfold wS
  try unfold wSs
  try unfold wFor
  try unfold wCL
  skip; rw [es_ret, wp_toS]; rfl
theorem wS_retf : wS c sub (.retf e) ρ M K Y = wE c e ρ M (fun d M => K (.rt d) ρ M) noX := by
  try unfold wE
  try unfold wEs
  try unfold wS
  try unfold wSs
  try unfold wFor
  try unfold wCL
  skip; rw [es_retf]; cases evE c e ρ M <;> rfl
theorem wS_reto : wS c sub (.reto i) ρ M K Y = wO (get ρ i) fun d => K (.rt d) ρ M := by
  try unfold wE
  try unfold wEs
  try unfold wS
  try unfold wSs
  try unfold wFor
  try unfold wCL
  skip; rw [es_reto]; cases get ρ i <;> rfl
theorem wS_retn : wS c sub .retn ρ M K Y = K (.rt .non) ρ M := by unfold wS; first | rfl | (unfold wS; rfl)
theorem wS_ite : wS c sub (.ite x a b) ρ M K Y = wE c x ρ M (fun d M => wB d (wSs c sub a ρ M K Y) (wSs c sub b ρ M K Y)) (fun e M => Y e ρ M) := by
  try unfold wE
  try unfold wEs
  try unfold wS
  try unfold wSs
  try unfold wFor
  try unfold wCL
  skip; rw [es_ite, wp_toS]; (first | refine wp_cgQ fun d M => ?_ | refine wps_cgQ fun d M => ?_)
  cases d with
  | bl b => cases b <;> rfl
  | _ => rfl
theorem wS_for : wS c sub (.for t it b) ρ M K Y = wE c it ρ M (fun d M => wO (itemsW it d) fun ds => wFor c sub b t ds ρ M K Y) (fun e M => Y e ρ M) := by
  try unfold wE
  try unfold wEs
  try unfold wS
  try unfold wSs
  try unfold wFor
  try unfold wCL
  skip; rw [es_for, wp_toS]; (first | refine wp_cgQ fun d M => ?_ | refine wps_cgQ fun d M => ?_)
  show RS.wp (match itemsW it d with | some ds => forL (evSs c sub b) t ds ρ M | none => .bad) K Y = _
  cases itemsW it d <;> rfl
theorem wS_brk : wS c sub .brk ρ M K Y = K .bk ρ M := by unfold wS; first | rfl | (unfold wS; rfl)
theorem wS_cnt : wS c sub .cnt ρ M K Y = K .ct ρ M := by unfold wS; first | rfl | (unfold wS; rfl)
theorem wS_pass : wS c sub .pass ρ M K Y = K .nx ρ M := by unfold wS; first | rfl | (unfold wS; rfl)
theorem wS_raise : wS c sub (.raise k as) ρ M K Y = wEs c as ρ M (fun ds M => Y ⟨k, ds⟩ ρ M) (fun e M => Y e ρ M) := by
  try unfold wE
  try unfold wEs
  try unfold wS
  try unfold wSs
  try unfold wFor
  try unfold wCL
  skip; rw [es_raise, wps_toS]; rfl
theorem wS_try : wS c sub (.try b k h k2 h2) ρ M K Y = wSs c sub b ρ M K (fun e ρ M => tryX c sub k h k2 h2 K Y e ρ M) := by
  try unfold wE
  try unfold wEs
  try unfold wS
  try unfold wSs
  try unfold wFor
  try unfold wCL
  skip; rw [es_try]
  cases evSs c sub b ρ M with
  | ok => rfl
  | bad => rfl
  | exc e ρ1 M1 =>
    show RS.wp (if sub e.cls k = true then evSs c sub h ρ1 M1 else match k2 with | none => .exc e ρ1 M1 | some j => if sub e.cls j = true then evSs c sub h2 ρ1 M1 else .exc e ρ1 M1) K Y = tryX c sub k h k2 h2 K Y e ρ1 M1
    unfold tryX wSs
    split
    · rfl
    · cases k2 with
      | none => rfl
      | some j =>
        show RS.wp (if sub e.cls j = true then evSs c sub h2 ρ1 M1 else .exc e ρ1 M1) K Y = if sub e.cls j = true then _ else _
        split <;> rfl
theorem wS_sto : wS c sub (.sto o ix v) ρ M K Y = wE c v ρ M (fun r M => wE c o ρ M (fun q M => wE c ix ρ M (fun p M => wO (muM .put q [p, r] M) fun z => K .nx ρ z.2) (fun e M => Y e ρ M)) (fun e M => Y e ρ M)) (fun e M => Y e ρ M) := by
  try unfold wE
  try unfold wEs
  try unfold wS
  try unfold wSs
  try unfold wFor
  try unfold wCL
  skip; rw [es_sto, wp_toS]; (first | refine wp_cgQ fun r M => ?_ | refine wps_cgQ fun r M => ?_); rw [wp_toS]; (first | refine wp_cgQ fun q M => ?_ | refine wps_cgQ fun q M => ?_); rw [wp_toS]; (first | refine wp_cgQ fun p M => ?_ | refine wps_cgQ fun p M => ?_)
  show RS.wp (match muM .put q [p, r] M with | some z => .ok .nx ρ z.2 | none => .bad) K Y = _
  cases muM .put q [p, r] M <;> rfl
theorem wS_oput : wS c sub (.oput i ix v) ρ M K Y = wE c v ρ M (fun r M => wO (get ρ i) fun d => isBox d = true ∧ wE c ix ρ M (fun p M => wO (muD .put d [p, r]) fun z => K .nx (put ρ i z.2) M) (fun e M => Y e ρ M)) (fun e M => Y e ρ M) := by
  try unfold wE
  try unfold wEs
  try unfold wS
  try unfold wSs
  try unfold wFor
  try unfold wCL
  skip; rw [es_oput, wp_toS]; (first | refine wp_cgQ fun r M => ?_ | refine wps_cgQ fun r M => ?_)
  show RS.wp (match get ρ i with | some d => if isBox d = true then (evE c ix ρ M).toS ρ fun p => match muD .put d [p.1, r] with | some z => .ok .nx (put ρ i z.2) p.2 | none => .bad else .bad | _ => .bad) K Y = _
  cases get ρ i with
  | none => rfl
  | some d =>
    show RS.wp (if isBox d = true then (evE c ix ρ M).toS ρ fun p => match muD .put d [p.1, r] with | some z => .ok .nx (put ρ i z.2) p.2 | none => .bad else .bad) K Y = (isBox d = true ∧ _)
    have e : ((evE c ix ρ M).toS ρ fun p => match muD .put d [p.1, r] with | some z => .ok .nx (put ρ i z.2) p.2 | none => .bad).wp K Y = (evE c ix ρ M).wp (fun p M => wO (muD .put d [p, r]) fun z => K .nx (put ρ i z.2) M) (fun e M => Y e ρ M) := by
      rw [wp_toS]; (first | refine wp_cgQ fun p M => ?_ | refine wps_cgQ fun p M => ?_)
      show RS.wp (match muD .put d [p, r] with | some z => .ok .nx (put ρ i z.2) M | none => .bad) K Y = _
      cases muD .put d [p, r] <;> rfl
    by_cases h : isBox d = true
    · rw [if_pos h, e]; exact propext ⟨fun q => ⟨h, q⟩, fun q => q.2⟩
    · rw [if_neg h]; exact propext ⟨fun q => q.elim, fun q => h q.1⟩
theorem wSs_nil : wSs c sub [] ρ M K Y = K .nx ρ M := by unfold wSs; first | rfl | (unfold wSs; rfl)
theorem wSs_cons : wSs c sub (s :: ss) ρ M K Y = wS c sub s ρ M (fun f ρ M => seqK c sub ss K Y f ρ M) Y := by
  unfold wSs wS; rw [ess_cons]
  cases evS c sub s ρ M with
  | ok f ρ' M' =>
    cases f with
    | nx =>
      show _ = seqK c sub ss K Y .nx ρ' M'
      unfold seqK wSs
      rfl
    | _ => rfl
  | exc => rfl
  | bad => rfl
end
theorem wp_call {sub : Nat → Nat → Bool} {Γ : List Fn} {n f : Nat} {F : Fn} {ds : List D} {M : Sto} {Q : D → Sto → Prop} {X : Xc → Sto → Prop} (h : Γ[f]? = some F) (hl : ds.length = F.np) (hw : wSs (run sub Γ n) sub F.body (startE F ds) M (fun f ρ M => outK Q f ρ M) (fun e ρ M => outX X e ρ M)) : (run sub Γ (n + 1) f ds M).wq Q X := by
  rw [wq_def, call_of h hl]
  unfold wSs at hw
  revert hw
  cases evSs (run sub Γ n) sub F.body (startE F ds) M with
  | ok f ρ M => cases f <;> exact id
  | exc => exact id
  | bad => exact id
theorem wp_eq {r : R (D × Sto)} {d : D} {M : Sto} {Q : D → Sto → Prop} {X : Xc → Sto → Prop} (h : r = .ok (d, M)) (q : Q d M) : r.wq Q X := by rw [wq_def, h]; exact q
theorem wp_ex {r : R (D × Sto)} {P Q : D → Sto → Prop} {X : Xc → Sto → Prop} (h : r.wq P noX) (q : ∀ d M, P d M → Q d M) : r.wq Q X := by
  rw [wq_def] at h ⊢
  cases r with
  | ok a => exact q _ _ h
  | exc => exact h.elim
  | bad => exact h.elim
theorem wp_mono {r : R (D × Sto)} {P Q : D → Sto → Prop} {X Z : Xc → Sto → Prop} (h : r.wq P Z) (q : ∀ d M, P d M → Q d M) (x : ∀ e M, Z e M → X e M) : r.wq Q X := by
  rw [wq_def] at h ⊢
  cases r with
  | ok a => exact q _ _ h
  | exc => exact x _ _ h
  | bad => exact h.elim
theorem of_wp {r : R (D × Sto)} {P : D → Sto → Prop} (h : r.wq P noX) : ∃ d M, r = .ok (d, M) ∧ P d M := by
  rw [wq_def] at h
  cases r with
  | ok a => exact ⟨a.1, a.2, rfl, h⟩
  | exc => exact h.elim
  | bad => exact h.elim
theorem wp_ex1 {α : Type} {r : R (D × Sto)} {f : α → D} {P : α → Sto → Prop} {Q : D → Sto → Prop} {X : Xc → Sto → Prop} (h : ∃ a M, r = .ok (f a, M) ∧ P a M) (q : ∀ a M, P a M → Q (f a) M) : r.wq Q X := by
  obtain ⟨a, M, rfl, h⟩ := h
  rw [wq_def]
  exact q _ _ h
theorem eq_of_wp {r : R (D × Sto)} {d : D} {M : Sto} (h : r.wq (fun x N => x = d ∧ N = M) noX) : r = .ok (d, M) := by
  obtain ⟨_, _, rfl, rfl, rfl⟩ := of_wp h
  rfl
theorem of_wp0 {r : R (D × Sto)} {P : D → Sto → Prop} (h : r.wp P noX) : ∃ d M, r = .ok (d, M) ∧ P d M := by
  cases r with
  | ok a => exact ⟨a.1, a.2, rfl, h⟩
  | exc => exact h.elim
  | bad => exact h.elim
theorem of_wE {c : Call} {e : E} {ρ : Env} {M : Sto} {P : D → Sto → Prop} (h : wE c e ρ M P noX) : ∃ d M', evE c e ρ M = .ok (d, M') ∧ P d M' := by
  unfold wE at h
  exact of_wp0 h
theorem eq_of_wE {c : Call} {e : E} {ρ : Env} {M M' : Sto} {d : D} (h : wE c e ρ M (fun x N => x = d ∧ N = M') noX) : evE c e ρ M = .ok (d, M') := by
  obtain ⟨_, _, e, rfl, rfl⟩ := of_wE h
  exact e
section
variable {c : Call} {sub : Nat → Nat → Bool} {cs : List E} {e : E} {t : Tg} {ds : List D} {ρ : Env} {M : Sto} {Q : List D → Sto → Prop}
theorem wCL_st {I : Sto → Prop} {P : D → Prop} (hM : I M) (h : ∀ x ∈ ds, ∀ M, I M → ∃ ρ', putT ρ t x = some ρ' ∧ wE c e ρ' M (fun y M' => I M' ∧ P y) noX) (hQ : ∀ ys M', I M' → ys.length = ds.length → (∀ y ∈ ys, P y) → Q ys M') : wCL c [] e t ds ρ M Q := by
  obtain ⟨ys, M', e1, h1, h2, h3⟩ := compL_st (c := c) (el := evE c e) (t := t) (ρ := ρ) (I := I) (Q := P) hM fun x hx M hI => by
    obtain ⟨ρ', h1, h2⟩ := h x hx M hI
    obtain ⟨y, M', e1, h3, h4⟩ := of_wE h2
    exact ⟨ρ', h1, y, M', e1, h3, h4⟩
  unfold wCL
  rw [e1]
  exact hQ _ _ h1 h2 h3
theorem wCL_map {f : D → D} (h : ∀ x ∈ ds, ∃ ρ', putT ρ t x = some ρ' ∧ wE c e ρ' M (fun y M' => y = f x ∧ M' = M) noX) (hQ : Q (ds.map f) M) : wCL c [] e t ds ρ M Q := by
  have e1 := compL_pure (c := c) (el := evE c e) (t := t) (ρ := ρ) (M := M) (f := f) fun x hx => by
    obtain ⟨ρ', h1, h2⟩ := h x hx
    exact ⟨ρ', h1, eq_of_wE h2⟩
  unfold wCL
  rw [e1]
  exact hQ
theorem wCL_flt {cond : E} {f : D → D} {p : D → Bool} (h : ∀ x ∈ ds, ∃ ρ', putT ρ t x = some ρ' ∧ wE c cond ρ' M (fun y M' => y = .bl (p x) ∧ M' = M) noX ∧ (p x = true → wE c e ρ' M (fun y M' => y = f x ∧ M' = M) noX)) (hQ : Q ((ds.filter p).map f) M) : wCL c [cond] e t ds ρ M Q := by
  have e1 := compL_flt (c := c) (cond := cond) (el := e) (t := t) (ρ := ρ) (M := M) (f := f) (p := p) fun x hx => by
    obtain ⟨ρ', h1, h2, h3⟩ := h x hx
    exact ⟨ρ', h1, eq_of_wE h2, fun hp => eq_of_wE (h3 hp)⟩
  unfold wCL
  rw [e1]
  exact hQ
theorem wFor_inv {b : List S} {K : Fl → Env → Sto → Prop} {X : Xc → Env → Sto → Prop} {I : List D → Env → Sto → Prop} : ∀ {ds : List D} {ρ : Env} {M : Sto}, I ds ρ M → (∀ d ds ρ M, I (d :: ds) ρ M → ∃ ρ1, putT ρ t d = some ρ1 ∧ wSs c sub b ρ1 M (fun f ρ2 M2 => match f with
    | .nx => I ds ρ2 M2
    | .ct => I ds ρ2 M2
    | .bk => K .nx ρ2 M2
    | .rt d => K (.rt d) ρ2 M2) X) → (∀ ρ M, I [] ρ M → K .nx ρ M) → wFor c sub b t ds ρ M K X
  | [], ρ, M, h, _, hk => by
    unfold wFor
    exact hk ρ M h
  | d :: ds, ρ, M, h, hb, hk => by
    obtain ⟨ρ1, h1, h2⟩ := hb d ds ρ M h
    unfold wFor
    rw [forL, h1]
    show RS.wp (match evSs c sub b ρ1 M with | .ok .nx ρ2 M2 => forL (evSs c sub b) t ds ρ2 M2 | .ok .ct ρ2 M2 => forL (evSs c sub b) t ds ρ2 M2 | .ok .bk ρ2 M2 => .ok .nx ρ2 M2 | .ok (.rt d) ρ2 M2 => .ok (.rt d) ρ2 M2 | .exc e ρ2 M2 => .exc e ρ2 M2 | .bad => .bad) K X
    unfold wSs at h2
    revert h2
    cases evSs c sub b ρ1 M with
    | exc => exact id
    | bad => exact id
    | ok f ρ2 M2 =>
      cases f with
      | nx => 
        intro h2
        have h3 : I ds ρ2 M2 := h2
        have := wFor_inv (I := I) h3 hb hk
        unfold wFor at this
        show (forL (evSs c sub b) t ds ρ2 M2).wp K X
        exact this
      | ct => 
        intro h2
        have h3 : I ds ρ2 M2 := h2
        have := wFor_inv (I := I) h3 hb hk
        unfold wFor at this
        show (forL (evSs c sub b) t ds ρ2 M2).wp K X
        exact this
      | bk => exact id
      | rt d => exact id
end
def intsIn (lo hi : Int) : List D → Bool
  | [] => true
  | .int i :: r => decide (lo ≤ i) && (decide (i ≤ hi) && intsIn lo hi r)
  | _ => false
theorem intsIn_mem {lo hi : Int} : ∀ {xs : List D}, intsIn lo hi xs = true → ∀ d ∈ xs, ∃ m, d = .int m ∧ lo ≤ m ∧ m ≤ hi
  | [], _, d, hd => by cases hd
  | x :: r, h, d, hd => by
    cases x with
    | int i =>
      have h : (decide (lo ≤ i) && (decide (i ≤ hi) && intsIn lo hi r)) = true := h
      rw [Bool.and_eq_true, Bool.and_eq_true, decide_eq_true_eq, decide_eq_true_eq] at h
      rcases List.mem_cons.mp hd with rfl | hd
      · exact ⟨i, rfl, h.1, h.2.1⟩
      · exact intsIn_mem h.2.2 d hd
    | _ => cases h
theorem wO_pickI {xs : List D} {k lo hi : Int} {Q : D → Prop} (hx : intsIn lo hi xs = true) (h0 : 0 ≤ k) (h1 : k < (xs.length : Int)) (hQ : ∀ m, lo ≤ m → m ≤ hi → Q (.int m)) : wO (subD (.lst xs) (.int k)) Q := by
  obtain ⟨d, e, hd⟩ := sub_lst_mem h0 h1
  obtain ⟨m, rfl, a, b⟩ := intsIn_mem hx d hd
  rw [e]
  exact hQ m a b
theorem wO_pick {xs : List D} {k : Int} {P : D → Prop} {Q : D → Prop} (hx : ∀ d ∈ xs, P d) (h0 : 0 ≤ k) (h1 : k < (xs.length : Int)) (hQ : ∀ d, P d → Q d) : wO (subD (.lst xs) (.int k)) Q := by
  obtain ⟨d, e, hd⟩ := sub_lst_mem h0 h1
  rw [e]
  exact hQ d (hx d hd)
theorem wO_pickS {a : List Nat} {ys : List D} {k : Int} {Q : D → Prop} (h0 : 0 ≤ k) (h1 : k < (((D.str a :: ys).length : Nat) : Int)) (hQ : ∀ d, d ∈ D.str a :: ys → Q d) : wO (subD (.lst (.str a :: ys)) (.int k)) Q := wO_pick (P := fun d => d ∈ D.str a :: ys) (fun _ h => h) h0 h1 hQ
theorem wO_pickC {xs : List Nat} {L : Nat} {k : Int} {P : Nat → Prop} {Q : D → Prop} (hx : ∀ d ∈ xs, P d) (hl : xs.length = L) (h0 : 0 ≤ k) (h1 : k < (L : Int)) (hQ : ∀ d, P d → Q (.str [d])) : wO (subD (.str xs) (.int k)) Q := by
  have hj : k.toNat < xs.length := by omega
  have es := sub_str (xs := xs) (i := k.toNat) hj
  rw [show ((k.toNat : Nat) : Int) = k by omega] at es
  rw [es]
  exact hQ _ (hx _ (List.getElem_mem hj))
end Ev
set_option Elab.async false
set_option linter.all false
set_option autoImplicit false
set_option maxRecDepth 100000
set_option maxHeartbeats 4000000
namespace Ev
theorem bi_rangeW {j : Int} (h1 : -1000000 ≤ j) (h2 : j ≤ 1000000) : biD .range [.int j] = some (.itr (intsFrom 0 1 j.toNat)) := bi_range1 (okRange_of h1 h2)
theorem bi_range2W {i j : Int} (h1 : -1000000 ≤ i) (h2 : i ≤ 1000000) (h3 : -1000000 ≤ j) (h4 : j ≤ 1000000) : biD .range [.int i, .int j] = some (.itr (intsFrom i 1 (j - i).toNat)) := by
  show (if okRange i && okRange j then some (D.itr (intsFrom i 1 (j - i).toNat)) else none) = _
  rw [okRange_of h1 h2, okRange_of h3 h4]; rfl
theorem wO_join {P : Nat → Prop} {ys : List D} {Q : D → Prop} (h : ∀ y ∈ ys, ∃ c, y = .str [c] ∧ P c) (hl : ys.length ≤ 100000) (hQ : ∀ x, x.length = ys.length → (∀ c ∈ x, P c) → Q (.str x)) : wO (meD .join (.str []) [.lst ys]) Q := by
  obtain ⟨x, e, h1, h2⟩ := chars_join h hl
  exact wO_of e (hQ x h1 h2)
structure DictOk (PK PV : D → Prop) (kvs : List (D × D)) : Prop where
  nd : (kvs.map (·.1)).Nodup
  pk : ∀ p ∈ kvs, PK p.1
  pv : ∀ p ∈ kvs, PV p.2
structure KeyP (t : Bool) (PK : D → Prop) : Prop where
  al : ∀ a b, PK a → PK b → alike a b = true
  ok : ∀ a, PK a → keyOk t a = true
theorem dict_nil (PK PV : D → Prop) : DictOk PK PV [] := ⟨List.nodup_nil, (fun _ h => (by cases h)), (fun _ h => (by cases h))⟩
section
variable {t : Bool} {PK PV : D → Prop} {kvs : List (D × D)}
theorem keyPut_le1 (kvs : List (D × D)) (k v : D) : (keyPut kvs k v).length ≤ kvs.length + 1 := by
  unfold keyPut
  split
  · rw [List.length_map]; omega
  · rw [List.length_append]; simp
open Classical in
theorem keyPut_keys {k v : D} (al : ∀ a b, PK a → PK b → alike a b = true) (h : DictOk PK PV kvs) (hk : PK k) : (keyPut kvs k v).map (·.1) = if k ∈ kvs.map (·.1) then kvs.map (·.1) else kvs.map (·.1) ++ [k] := by
  have e : (kvs.any fun p => deq p.1 k) = true ↔ k ∈ kvs.map (·.1) := by
    rw [List.any_eq_true, List.mem_map]
    exact ⟨fun ⟨p, hp, q⟩ => ⟨p, hp, (deq_iff (al _ _ (h.pk p hp) hk)).mp q⟩, fun ⟨p, hp, q⟩ => ⟨p, hp, (deq_iff (al _ _ (h.pk p hp) hk)).mpr q⟩⟩
  unfold keyPut
  by_cases c : k ∈ kvs.map (·.1)
  · rw [if_pos (e.mpr c), if_pos c, List.map_map]
    refine List.map_congr_left fun p _ => ?_
    show (if deq p.1 k then (p.1, v) else p).1 = p.1
    split <;> rfl
  · rw [if_neg (fun z => c (e.mp z)), if_neg c, List.map_append]; rfl
theorem dict_put {k v : D} (al : ∀ a b, PK a → PK b → alike a b = true) (h : DictOk PK PV kvs) (hk : PK k) (hv : PV v) : DictOk PK PV (keyPut kvs k v) := by
  have m : ∀ p ∈ keyPut kvs k v, PK p.1 ∧ PV p.2 := fun p hp => by
    unfold keyPut at hp
    split at hp
    · obtain ⟨q, hq, rfl⟩ := List.mem_map.mp hp
      by_cases c : deq q.1 k = true
      · rw [if_pos c]; exact ⟨h.pk q hq, hv⟩
      · rw [if_neg c]; exact ⟨h.pk q hq, h.pv q hq⟩
    · rcases List.mem_append.mp hp with hp | hp
      · exact ⟨h.pk p hp, h.pv p hp⟩
      · rw [List.mem_singleton.mp hp]; exact ⟨hk, hv⟩
  refine ⟨?_, fun p hp => (m p hp).1, fun p hp => (m p hp).2⟩
  rw [keyPut_keys al h hk]
  by_cases c : k ∈ kvs.map (·.1)
  · rw [if_pos c]; exact h.nd
  · rw [if_neg c]
    exact List.nodup_append.mpr ⟨h.nd, by simp, fun a ha b hb z => c (by rw [List.mem_singleton.mp hb] at z; exact z ▸ ha)⟩
theorem dict_find (al : ∀ a b, PK a → PK b → alike a b = true) : ∀ {kvs : List (D × D)} {k : D}, DictOk PK PV kvs → k ∈ kvs.map (·.1) → ∃ v, keyFind kvs k = some v ∧ PV v ∧ (k, v) ∈ kvs
  | [], k, _, hk => by cases hk
  | (x, v) :: r, k, h, hk => by
    have hkk : PK k := by obtain ⟨p, hp, rfl⟩ := List.mem_map.mp hk; exact h.pk p hp
    have hx := h.pk (x, v) List.mem_cons_self
    have hr : DictOk PK PV r := ⟨(List.nodup_cons.mp h.nd).2, fun p hp => h.pk p (List.mem_cons_of_mem _ hp), fun p hp => h.pv p (List.mem_cons_of_mem _ hp)⟩
    show ∃ w, (if deq x k then some v else keyFind r k) = some w ∧ _
    by_cases c : deq x k = true
    · rw [if_pos c]
      refine ⟨v, rfl, h.pv (x, v) List.mem_cons_self, ?_⟩
      have z : x = k := (deq_iff (al _ _ hx hkk)).mp c
      rw [z]
      exact List.mem_cons_self
    · rw [if_neg c]
      rcases List.mem_cons.mp hk with z | hk
      · exact absurd ((deq_iff (al _ _ hx hkk)).mpr z.symm) c
      · obtain ⟨w, e1, e2, e3⟩ := dict_find al hr hk
        exact ⟨w, e1, e2, List.mem_cons_of_mem _ e3⟩
theorem dict_sort {Q : D → Prop} (al : ∀ a b, PK a → PK b → alike a b = true) (h : DictOk PK PV kvs) (hs : sortOk (kvs.map (·.1)) = true) (hQ : ∀ ks, Asc ks → (∀ k, k ∈ ks ↔ k ∈ kvs.map (·.1)) → ks.length = kvs.length → Q (.lst ks)) : wO (biD .sorted [.dct t kvs]) Q := by
  have pm := List.mergeSort_perm (kvs.map (·.1)) dle
  refine wO_of (bi_sorted_dct hs) (hQ _ (sort_asc (fun a ha b hb => ?_) h.nd) (fun k => pm.mem_iff) (by rw [pm.length_eq, List.length_map]))
  obtain ⟨p, hp, rfl⟩ := List.mem_map.mp ha
  obtain ⟨q, hq, rfl⟩ := List.mem_map.mp hb
  exact al _ _ (h.pk p hp) (h.pk q hq)
end
theorem sub_dct {t : Bool} {kvs : List (D × D)} {k v : D} (h : keyOk t k = true) (hf : keyFind kvs k = some v) : subD (.dct t kvs) k = some v := by
  show (if keyOk t k then keyFind kvs k else none) = _
  rw [if_pos h, hf]
theorem mu_putD {t : Bool} {kvs : List (D × D)} {k v : D} (h : keyOk t k = true) (hl : kvs.length < SZ) : muD .put (.dct t kvs) [k, v] = some (.non, .dct t (keyPut kvs k v)) := by
  show (if keyOk t k && decide (kvs.length < SZ) then some (D.non, D.dct t (keyPut kvs k v)) else none) = _
  rw [h, decide_eq_true hl]; rfl
theorem dctOf_nil (t : Bool) : dctOf t [] [] = some [] := if_pos (Nat.zero_le _)
theorem sz_lt {n : Nat} (h : n ≤ 1000000) : n < SZ := Nat.lt_of_le_of_lt h (by decide)
theorem form_map {α : Type} {f : α → D} {P : α → Prop} : ∀ {ys : List D}, (∀ y ∈ ys, ∃ a, y = f a ∧ P a) → ∃ xs : List α, ys = xs.map f ∧ ∀ x ∈ xs, P x
  | [], _ => ⟨[], rfl, (fun _ h => (by cases h))⟩
  | y :: ys, h => by
    obtain ⟨a, rfl, ha⟩ := h y List.mem_cons_self
    obtain ⟨xs, rfl, hx⟩ := form_map fun z hz => h z (List.mem_cons_of_mem _ hz)
    exact ⟨a :: xs, rfl, fun x hx' => by
      rcases List.mem_cons.mp hx' with rfl | hx'
      · exact ha
      · exact hx x hx'⟩
theorem sortOk_of {ds : List D} (h1 : ∀ a ∈ ds, plain a = true ∧ depth a ≤ 64) (h2 : ∀ a ∈ ds, ∀ b ∈ ds, alike a b = true) (h3 : (∀ a ∈ ds, ∃ x xs, a = .tup (x :: xs)) ∨ ∀ a ∈ ds, ∃ x, a = .str x) : sortOk ds = true := by
  unfold sortOk
  rw [Bool.and_eq_true, Bool.or_eq_true]
  refine ⟨List.all_eq_true.mpr fun a ha => ?_, ?_⟩
  · rw [Bool.and_eq_true, Bool.and_eq_true, decide_eq_true_eq]
    exact ⟨h1 a ha, List.all_eq_true.mpr fun b hb => h2 a ha b hb⟩
  · rcases h3 with h3 | h3
    · refine .inl (List.all_eq_true.mpr fun a ha => ?_)
      obtain ⟨x, xs, rfl⟩ := h3 a ha
      rfl
    · refine .inr (List.all_eq_true.mpr fun a ha => ?_)
      obtain ⟨x, rfl⟩ := h3 a ha
      rfl
theorem wE_of {c : Call} {e : E} {ρ : Env} {M M' : Sto} {d : D} {Q : D → Sto → Prop} {X : Xc → Sto → Prop} (h : evE c e ρ M = .ok (d, M')) : wE c e ρ M Q X = Q d M' := by
  unfold wE; rw [h]; rfl
theorem bin_shr {i : Int} {k : Nat} : binD .shr (.int i) (.int (k : Int)) = some (.int (i / 2 ^ k)) := by
  show (if decide (0 ≤ (k : Int)) then some (D.int (i / 2 ^ ((k : Int)).toNat)) else none) = _
  rw [if_pos (decide_eq_true (by omega))]
  rfl
theorem tt1_0 {x0 : D} : subD (.tup [x0]) (.int 0) = some x0 := of_eq_true (eq_self _)
theorem tt2_0 {x0 x1 : D} : subD (.tup [x0, x1]) (.int 0) = some x0 := of_eq_true (eq_self _)
theorem tt2_1 {x0 x1 : D} : subD (.tup [x0, x1]) (.int 1) = some x1 := of_eq_true (eq_self _)
theorem tt3_0 {x0 x1 x2 : D} : subD (.tup [x0, x1, x2]) (.int 0) = some x0 := of_eq_true (eq_self _)
theorem tt3_1 {x0 x1 x2 : D} : subD (.tup [x0, x1, x2]) (.int 1) = some x1 := of_eq_true (eq_self _)
theorem tt3_2 {x0 x1 x2 : D} : subD (.tup [x0, x1, x2]) (.int 2) = some x2 := of_eq_true (eq_self _)
theorem tt4_0 {x0 x1 x2 x3 : D} : subD (.tup [x0, x1, x2, x3]) (.int 0) = some x0 := of_eq_true (eq_self _)
theorem tt4_1 {x0 x1 x2 x3 : D} : subD (.tup [x0, x1, x2, x3]) (.int 1) = some x1 := of_eq_true (eq_self _)
theorem tt4_2 {x0 x1 x2 x3 : D} : subD (.tup [x0, x1, x2, x3]) (.int 2) = some x2 := of_eq_true (eq_self _)
theorem tt4_3 {x0 x1 x2 x3 : D} : subD (.tup [x0, x1, x2, x3]) (.int 3) = some x3 := of_eq_true (eq_self _)
theorem tt5_0 {x0 x1 x2 x3 x4 : D} : subD (.tup [x0, x1, x2, x3, x4]) (.int 0) = some x0 := of_eq_true (eq_self _)
theorem tt5_1 {x0 x1 x2 x3 x4 : D} : subD (.tup [x0, x1, x2, x3, x4]) (.int 1) = some x1 := of_eq_true (eq_self _)
theorem tt5_2 {x0 x1 x2 x3 x4 : D} : subD (.tup [x0, x1, x2, x3, x4]) (.int 2) = some x2 := of_eq_true (eq_self _)
theorem tt5_3 {x0 x1 x2 x3 x4 : D} : subD (.tup [x0, x1, x2, x3, x4]) (.int 3) = some x3 := of_eq_true (eq_self _)
theorem tt5_4 {x0 x1 x2 x3 x4 : D} : subD (.tup [x0, x1, x2, x3, x4]) (.int 4) = some x4 := of_eq_true (eq_self _)
theorem tt6_0 {x0 x1 x2 x3 x4 x5 : D} : subD (.tup [x0, x1, x2, x3, x4, x5]) (.int 0) = some x0 := of_eq_true (eq_self _)
theorem tt6_1 {x0 x1 x2 x3 x4 x5 : D} : subD (.tup [x0, x1, x2, x3, x4, x5]) (.int 1) = some x1 := of_eq_true (eq_self _)
theorem tt6_2 {x0 x1 x2 x3 x4 x5 : D} : subD (.tup [x0, x1, x2, x3, x4, x5]) (.int 2) = some x2 := of_eq_true (eq_self _)
theorem tt6_3 {x0 x1 x2 x3 x4 x5 : D} : subD (.tup [x0, x1, x2, x3, x4, x5]) (.int 3) = some x3 := of_eq_true (eq_self _)
theorem tt6_4 {x0 x1 x2 x3 x4 x5 : D} : subD (.tup [x0, x1, x2, x3, x4, x5]) (.int 4) = some x4 := of_eq_true (eq_self _)
theorem tt6_5 {x0 x1 x2 x3 x4 x5 : D} : subD (.tup [x0, x1, x2, x3, x4, x5]) (.int 5) = some x5 := of_eq_true (eq_self _)
theorem tt10_0 {x0 x1 x2 x3 x4 x5 x6 x7 x8 x9 : D} : subD (.tup [x0, x1, x2, x3, x4, x5, x6, x7, x8, x9]) (.int 0) = some x0 := of_eq_true (eq_self _)
theorem tt10_1 {x0 x1 x2 x3 x4 x5 x6 x7 x8 x9 : D} : subD (.tup [x0, x1, x2, x3, x4, x5, x6, x7, x8, x9]) (.int 1) = some x1 := of_eq_true (eq_self _)
theorem tt10_2 {x0 x1 x2 x3 x4 x5 x6 x7 x8 x9 : D} : subD (.tup [x0, x1, x2, x3, x4, x5, x6, x7, x8, x9]) (.int 2) = some x2 := of_eq_true (eq_self _)
theorem tt10_3 {x0 x1 x2 x3 x4 x5 x6 x7 x8 x9 : D} : subD (.tup [x0, x1, x2, x3, x4, x5, x6, x7, x8, x9]) (.int 3) = some x3 := of_eq_true (eq_self _)
theorem tt10_4 {x0 x1 x2 x3 x4 x5 x6 x7 x8 x9 : D} : subD (.tup [x0, x1, x2, x3, x4, x5, x6, x7, x8, x9]) (.int 4) = some x4 := of_eq_true (eq_self _)
theorem tt10_5 {x0 x1 x2 x3 x4 x5 x6 x7 x8 x9 : D} : subD (.tup [x0, x1, x2, x3, x4, x5, x6, x7, x8, x9]) (.int 5) = some x5 := of_eq_true (eq_self _)
theorem tt10_6 {x0 x1 x2 x3 x4 x5 x6 x7 x8 x9 : D} : subD (.tup [x0, x1, x2, x3, x4, x5, x6, x7, x8, x9]) (.int 6) = some x6 := of_eq_true (eq_self _)
theorem tt10_7 {x0 x1 x2 x3 x4 x5 x6 x7 x8 x9 : D} : subD (.tup [x0, x1, x2, x3, x4, x5, x6, x7, x8, x9]) (.int 7) = some x7 := of_eq_true (eq_self _)
theorem tt10_8 {x0 x1 x2 x3 x4 x5 x6 x7 x8 x9 : D} : subD (.tup [x0, x1, x2, x3, x4, x5, x6, x7, x8, x9]) (.int 8) = some x8 := of_eq_true (eq_self _)
theorem tt10_9 {x0 x1 x2 x3 x4 x5 x6 x7 x8 x9 : D} : subD (.tup [x0, x1, x2, x3, x4, x5, x6, x7, x8, x9]) (.int 9) = some x9 := of_eq_true (eq_self _)
theorem sl2_1 {x0 x1 : D} : slcD (.tup [x0, x1]) (some 1) none = some (.tup [x1]) := of_eq_true (eq_self _)
theorem sh2_1 {x0 x1 : D} : slcD (.tup [x0, x1]) none (some 1) = some (.tup [x0]) := of_eq_true (eq_self _)
theorem sl3_1 {x0 x1 x2 : D} : slcD (.tup [x0, x1, x2]) (some 1) none = some (.tup [x1, x2]) := of_eq_true (eq_self _)
theorem sh3_1 {x0 x1 x2 : D} : slcD (.tup [x0, x1, x2]) none (some 1) = some (.tup [x0]) := of_eq_true (eq_self _)
theorem sl3_2 {x0 x1 x2 : D} : slcD (.tup [x0, x1, x2]) (some 2) none = some (.tup [x2]) := of_eq_true (eq_self _)
theorem sh3_2 {x0 x1 x2 : D} : slcD (.tup [x0, x1, x2]) none (some 2) = some (.tup [x0, x1]) := of_eq_true (eq_self _)
theorem sl4_1 {x0 x1 x2 x3 : D} : slcD (.tup [x0, x1, x2, x3]) (some 1) none = some (.tup [x1, x2, x3]) := of_eq_true (eq_self _)
theorem sh4_1 {x0 x1 x2 x3 : D} : slcD (.tup [x0, x1, x2, x3]) none (some 1) = some (.tup [x0]) := of_eq_true (eq_self _)
theorem sl4_2 {x0 x1 x2 x3 : D} : slcD (.tup [x0, x1, x2, x3]) (some 2) none = some (.tup [x2, x3]) := of_eq_true (eq_self _)
theorem sh4_2 {x0 x1 x2 x3 : D} : slcD (.tup [x0, x1, x2, x3]) none (some 2) = some (.tup [x0, x1]) := of_eq_true (eq_self _)
theorem sl4_3 {x0 x1 x2 x3 : D} : slcD (.tup [x0, x1, x2, x3]) (some 3) none = some (.tup [x3]) := of_eq_true (eq_self _)
theorem sh4_3 {x0 x1 x2 x3 : D} : slcD (.tup [x0, x1, x2, x3]) none (some 3) = some (.tup [x0, x1, x2]) := of_eq_true (eq_self _)
theorem sl5_1 {x0 x1 x2 x3 x4 : D} : slcD (.tup [x0, x1, x2, x3, x4]) (some 1) none = some (.tup [x1, x2, x3, x4]) := of_eq_true (eq_self _)
theorem sh5_1 {x0 x1 x2 x3 x4 : D} : slcD (.tup [x0, x1, x2, x3, x4]) none (some 1) = some (.tup [x0]) := of_eq_true (eq_self _)
theorem sl5_2 {x0 x1 x2 x3 x4 : D} : slcD (.tup [x0, x1, x2, x3, x4]) (some 2) none = some (.tup [x2, x3, x4]) := of_eq_true (eq_self _)
theorem sh5_2 {x0 x1 x2 x3 x4 : D} : slcD (.tup [x0, x1, x2, x3, x4]) none (some 2) = some (.tup [x0, x1]) := of_eq_true (eq_self _)
theorem sl5_3 {x0 x1 x2 x3 x4 : D} : slcD (.tup [x0, x1, x2, x3, x4]) (some 3) none = some (.tup [x3, x4]) := of_eq_true (eq_self _)
theorem sh5_3 {x0 x1 x2 x3 x4 : D} : slcD (.tup [x0, x1, x2, x3, x4]) none (some 3) = some (.tup [x0, x1, x2]) := of_eq_true (eq_self _)
theorem sl5_4 {x0 x1 x2 x3 x4 : D} : slcD (.tup [x0, x1, x2, x3, x4]) (some 4) none = some (.tup [x4]) := of_eq_true (eq_self _)
theorem sh5_4 {x0 x1 x2 x3 x4 : D} : slcD (.tup [x0, x1, x2, x3, x4]) none (some 4) = some (.tup [x0, x1, x2, x3]) := of_eq_true (eq_self _)
theorem sl6_1 {x0 x1 x2 x3 x4 x5 : D} : slcD (.tup [x0, x1, x2, x3, x4, x5]) (some 1) none = some (.tup [x1, x2, x3, x4, x5]) := of_eq_true (eq_self _)
theorem sh6_1 {x0 x1 x2 x3 x4 x5 : D} : slcD (.tup [x0, x1, x2, x3, x4, x5]) none (some 1) = some (.tup [x0]) := of_eq_true (eq_self _)
theorem sl6_2 {x0 x1 x2 x3 x4 x5 : D} : slcD (.tup [x0, x1, x2, x3, x4, x5]) (some 2) none = some (.tup [x2, x3, x4, x5]) := of_eq_true (eq_self _)
theorem sh6_2 {x0 x1 x2 x3 x4 x5 : D} : slcD (.tup [x0, x1, x2, x3, x4, x5]) none (some 2) = some (.tup [x0, x1]) := of_eq_true (eq_self _)
theorem sl6_3 {x0 x1 x2 x3 x4 x5 : D} : slcD (.tup [x0, x1, x2, x3, x4, x5]) (some 3) none = some (.tup [x3, x4, x5]) := of_eq_true (eq_self _)
theorem sh6_3 {x0 x1 x2 x3 x4 x5 : D} : slcD (.tup [x0, x1, x2, x3, x4, x5]) none (some 3) = some (.tup [x0, x1, x2]) := of_eq_true (eq_self _)
theorem sl6_4 {x0 x1 x2 x3 x4 x5 : D} : slcD (.tup [x0, x1, x2, x3, x4, x5]) (some 4) none = some (.tup [x4, x5]) := of_eq_true (eq_self _)
theorem sh6_4 {x0 x1 x2 x3 x4 x5 : D} : slcD (.tup [x0, x1, x2, x3, x4, x5]) none (some 4) = some (.tup [x0, x1, x2, x3]) := of_eq_true (eq_self _)
theorem sl6_5 {x0 x1 x2 x3 x4 x5 : D} : slcD (.tup [x0, x1, x2, x3, x4, x5]) (some 5) none = some (.tup [x5]) := of_eq_true (eq_self _)
theorem sh6_5 {x0 x1 x2 x3 x4 x5 : D} : slcD (.tup [x0, x1, x2, x3, x4, x5]) none (some 5) = some (.tup [x0, x1, x2, x3, x4]) := of_eq_true (eq_self _)
theorem sl10_1 {x0 x1 x2 x3 x4 x5 x6 x7 x8 x9 : D} : slcD (.tup [x0, x1, x2, x3, x4, x5, x6, x7, x8, x9]) (some 1) none = some (.tup [x1, x2, x3, x4, x5, x6, x7, x8, x9]) := of_eq_true (eq_self _)
theorem sh10_1 {x0 x1 x2 x3 x4 x5 x6 x7 x8 x9 : D} : slcD (.tup [x0, x1, x2, x3, x4, x5, x6, x7, x8, x9]) none (some 1) = some (.tup [x0]) := of_eq_true (eq_self _)
theorem sl10_2 {x0 x1 x2 x3 x4 x5 x6 x7 x8 x9 : D} : slcD (.tup [x0, x1, x2, x3, x4, x5, x6, x7, x8, x9]) (some 2) none = some (.tup [x2, x3, x4, x5, x6, x7, x8, x9]) := of_eq_true (eq_self _)
theorem sh10_2 {x0 x1 x2 x3 x4 x5 x6 x7 x8 x9 : D} : slcD (.tup [x0, x1, x2, x3, x4, x5, x6, x7, x8, x9]) none (some 2) = some (.tup [x0, x1]) := of_eq_true (eq_self _)
theorem sl10_3 {x0 x1 x2 x3 x4 x5 x6 x7 x8 x9 : D} : slcD (.tup [x0, x1, x2, x3, x4, x5, x6, x7, x8, x9]) (some 3) none = some (.tup [x3, x4, x5, x6, x7, x8, x9]) := of_eq_true (eq_self _)
theorem sh10_3 {x0 x1 x2 x3 x4 x5 x6 x7 x8 x9 : D} : slcD (.tup [x0, x1, x2, x3, x4, x5, x6, x7, x8, x9]) none (some 3) = some (.tup [x0, x1, x2]) := of_eq_true (eq_self _)
theorem sl10_4 {x0 x1 x2 x3 x4 x5 x6 x7 x8 x9 : D} : slcD (.tup [x0, x1, x2, x3, x4, x5, x6, x7, x8, x9]) (some 4) none = some (.tup [x4, x5, x6, x7, x8, x9]) := of_eq_true (eq_self _)
theorem sh10_4 {x0 x1 x2 x3 x4 x5 x6 x7 x8 x9 : D} : slcD (.tup [x0, x1, x2, x3, x4, x5, x6, x7, x8, x9]) none (some 4) = some (.tup [x0, x1, x2, x3]) := of_eq_true (eq_self _)
theorem sl10_5 {x0 x1 x2 x3 x4 x5 x6 x7 x8 x9 : D} : slcD (.tup [x0, x1, x2, x3, x4, x5, x6, x7, x8, x9]) (some 5) none = some (.tup [x5, x6, x7, x8, x9]) := of_eq_true (eq_self _)
theorem sh10_5 {x0 x1 x2 x3 x4 x5 x6 x7 x8 x9 : D} : slcD (.tup [x0, x1, x2, x3, x4, x5, x6, x7, x8, x9]) none (some 5) = some (.tup [x0, x1, x2, x3, x4]) := of_eq_true (eq_self _)
theorem sl10_6 {x0 x1 x2 x3 x4 x5 x6 x7 x8 x9 : D} : slcD (.tup [x0, x1, x2, x3, x4, x5, x6, x7, x8, x9]) (some 6) none = some (.tup [x6, x7, x8, x9]) := of_eq_true (eq_self _)
theorem sh10_6 {x0 x1 x2 x3 x4 x5 x6 x7 x8 x9 : D} : slcD (.tup [x0, x1, x2, x3, x4, x5, x6, x7, x8, x9]) none (some 6) = some (.tup [x0, x1, x2, x3, x4, x5]) := of_eq_true (eq_self _)
theorem sl10_7 {x0 x1 x2 x3 x4 x5 x6 x7 x8 x9 : D} : slcD (.tup [x0, x1, x2, x3, x4, x5, x6, x7, x8, x9]) (some 7) none = some (.tup [x7, x8, x9]) := of_eq_true (eq_self _)
theorem sh10_7 {x0 x1 x2 x3 x4 x5 x6 x7 x8 x9 : D} : slcD (.tup [x0, x1, x2, x3, x4, x5, x6, x7, x8, x9]) none (some 7) = some (.tup [x0, x1, x2, x3, x4, x5, x6]) := of_eq_true (eq_self _)
theorem sl10_8 {x0 x1 x2 x3 x4 x5 x6 x7 x8 x9 : D} : slcD (.tup [x0, x1, x2, x3, x4, x5, x6, x7, x8, x9]) (some 8) none = some (.tup [x8, x9]) := of_eq_true (eq_self _)
theorem sh10_8 {x0 x1 x2 x3 x4 x5 x6 x7 x8 x9 : D} : slcD (.tup [x0, x1, x2, x3, x4, x5, x6, x7, x8, x9]) none (some 8) = some (.tup [x0, x1, x2, x3, x4, x5, x6, x7]) := of_eq_true (eq_self _)
theorem sl10_9 {x0 x1 x2 x3 x4 x5 x6 x7 x8 x9 : D} : slcD (.tup [x0, x1, x2, x3, x4, x5, x6, x7, x8, x9]) (some 9) none = some (.tup [x9]) := of_eq_true (eq_self _)
theorem sh10_9 {x0 x1 x2 x3 x4 x5 x6 x7 x8 x9 : D} : slcD (.tup [x0, x1, x2, x3, x4, x5, x6, x7, x8, x9]) none (some 9) = some (.tup [x0, x1, x2, x3, x4, x5, x6, x7, x8]) := of_eq_true (eq_self _)
theorem sl_1 {x : D} {xs : List D} : slcD (.tup (x :: xs)) (some 1) none = some (.tup xs) := by
  show some (D.tup (cut (x :: xs) (some 1) none)) = _
  unfold cut
  have e1 : sIx (x :: xs).length 0 (some 1) = 1 := by
    unfold sIx
    simp
  have e2 : sIx (x :: xs).length (x :: xs).length none = (x :: xs).length := rfl
  rw [e1, e2]
  simp
theorem tt_0 {x : D} {xs : List D} : subD (.tup (x :: xs)) (.int 0) = some x := sub_tup (xs := x :: xs) (i := 0) (by simp)
theorem beqS_cc {a b : Nat} {x y : List Nat} : ((a :: x) == (b :: y)) = ((a == b) && (x == y)) := of_eq_true (eq_self _)
theorem beqS_nn : (([] : List Nat) == []) = true := of_eq_true (eq_self _)
theorem beqS_cn {a : Nat} {x : List Nat} : ((a :: x) == []) = false := of_eq_true (eq_self _)
theorem beqS_nc {a : Nat} {x : List Nat} : ([] == (a :: x)) = false := of_eq_true (eq_self _)
theorem eqS (x y : List Nat) : cmpD .eq (.str x) (.str y) = some (x == y) := of_eq_true (eq_self _)
theorem neS (x y : List Nat) : cmpD .ne (.str x) (.str y) = some (!(x == y)) := of_eq_true (eq_self _)
theorem wO_fn {g n : Nat} (h : g < n) : (if g < n then some g else none) = some g := if_pos h
theorem is_nn' : cmpD .is .non .non = some true := of_eq_true (eq_self _)
theorem is_tn' (xs : List D) : cmpD .is (.tup xs) .non = some false := of_eq_true (eq_self _)
theorem isnt_nn' : cmpD .isnt .non .non = some false := of_eq_true (eq_self _)
theorem isnt_tn' (xs : List D) : cmpD .isnt (.tup xs) .non = some true := of_eq_true (eq_self _)
theorem is_sn' (xs : List Nat) : cmpD .is (.str xs) .non = some false := of_eq_true (eq_self _)
theorem isnt_sn' (xs : List Nat) : cmpD .isnt (.str xs) .non = some true := of_eq_true (eq_self _)
theorem is_in' (i : Int) : cmpD .is (.int i) .non = some false := of_eq_true (eq_self _)
theorem isnt_in' (i : Int) : cmpD .isnt (.int i) .non = some true := of_eq_true (eq_self _)
theorem tadd1 {x : D} {y : List D} (h : y.length ≤ 100000) : binD .add (.tup [x]) (.tup y) = some (.tup (x :: y)) := bin_add_tup' (x := [x]) (sz_m (by rw [List.length_singleton]; omega))
theorem tadd2 {x x2 : D} {y : List D} (h : y.length ≤ 100000) : binD .add (.tup [x, x2]) (.tup y) = some (.tup (x :: x2 :: y)) := bin_add_tup' (x := [x, x2]) (sz_m (by simp; omega))
theorem tadd3 {x x2 x3 : D} {y : List D} (h : y.length ≤ 100000) : binD .add (.tup [x, x2, x3]) (.tup y) = some (.tup (x :: x2 :: x3 :: y)) := bin_add_tup' (x := [x, x2, x3]) (sz_m (by simp; omega))
theorem len1 {x0 : D} : [x0].length ≤ 100000 := by simp
theorem len2 {x0 x1 : D} : [x0, x1].length ≤ 100000 := by simp
theorem len3 {x0 x1 x2 : D} : [x0, x1, x2].length ≤ 100000 := by simp
theorem len4 {x0 x1 x2 x3 : D} : [x0, x1, x2, x3].length ≤ 100000 := by simp
theorem len5 {x0 x1 x2 x3 x4 : D} : [x0, x1, x2, x3, x4].length ≤ 100000 := by simp
theorem bi_zip_tup (xs ys : List D) : biD .zip [.tup xs, .tup ys] = some (.itr (zip2 xs ys)) := of_eq_true (eq_self _)
theorem bi_enum_lst (xs : List D) : biD .enum [.lst xs] = some (.itr (enumFrom 0 xs)) := of_eq_true (eq_self _)
theorem bi_list_scr (xs : List D) : biD .list [.scr xs] = some (.lst xs) := of_eq_true (eq_self _)
theorem bi_list_tup (xs : List D) : biD .list [.tup xs] = some (.lst xs) := of_eq_true (eq_self _)
@[irreducible] def wDC (c : Call) (b : Bool) (k v : E) (t : Tg) (ds : List D) (ρ : Env) (M : Sto) (acc : List (D × D)) (Q : List (D × D) → Sto → Prop) (_ : Lk Q := .mk) : Prop := match dcompL b (evE c k) (evE c v) t ds ρ M acc with
  | .ok a => Q a.1 a.2
  | _ => False
theorem dc_nox {c : Call} {b : Bool} {k v : E} {t : Tg} : ∀ (ds : List D) (ρ : Env) (M : Sto) (acc : List (D × D)), (∃ a, dcompL b (evE c k) (evE c v) t ds ρ M acc = .ok a) ∨ dcompL b (evE c k) (evE c v) t ds ρ M acc = .bad
  | [], _, _, _ => .inl ⟨_, rfl⟩
  | d :: ds, ρ, M, acc => by
    unfold dcompL
    cases putT ρ t d with
    | none => exact .inr rfl
    | some ρ' =>
      show (∃ a, (match evE c k ρ' M with | .ok (k', M1) => (match evE c v ρ' M1 with | .ok (v', M2) => if keyOk b k' then dcompL b (evE c k) (evE c v) t ds ρ M2 (keyPut acc k' v') else .bad | _ => .bad) | _ => .bad) = .ok a) ∨ (match evE c k ρ' M with | .ok (k', M1) => (match evE c v ρ' M1 with | .ok (v', M2) => if keyOk b k' then dcompL b (evE c k) (evE c v) t ds ρ M2 (keyPut acc k' v') else .bad | _ => .bad) | _ => .bad) = .bad
      cases evE c k ρ' M with
      | exc => exact .inr rfl
      | bad => exact .inr rfl
      | ok a =>
        obtain ⟨k', M1⟩ := a
        show (∃ a, (match evE c v ρ' M1 with | .ok (v', M2) => if keyOk b k' then dcompL b (evE c k) (evE c v) t ds ρ M2 (keyPut acc k' v') else .bad | _ => .bad) = .ok a) ∨ (match evE c v ρ' M1 with | .ok (v', M2) => if keyOk b k' then dcompL b (evE c k) (evE c v) t ds ρ M2 (keyPut acc k' v') else .bad | _ => .bad) = .bad
        cases evE c v ρ' M1 with
        | exc => exact .inr rfl
        | bad => exact .inr rfl
        | ok a =>
          obtain ⟨v', M2⟩ := a
          show (∃ a, (if keyOk b k' then dcompL b (evE c k) (evE c v) t ds ρ M2 (keyPut acc k' v') else .bad) = .ok a) ∨ (if keyOk b k' then dcompL b (evE c k) (evE c v) t ds ρ M2 (keyPut acc k' v') else .bad) = .bad
          split
          · exact dc_nox ds ρ M2 _
          · exact .inr rfl
theorem wE_dcomp {c : Call} {b : Bool} {k v it : E} {t : Tg} {ρ : Env} {M : Sto} {Q : D → Sto → Prop} {X : Xc → Sto → Prop} : wE c (.dcomp b k v t it) ρ M Q X = wE c it ρ M (fun d M => wO (itemsW it d) fun ds => ds.length ≤ SZ ∧ wDC c b k v t ds ρ M [] fun kvs M => Q (.dct b kvs) M) X := by
  unfold wE; rw [ev_dcomp, wp_bind]; refine wp_cgQ fun d M => ?_
  show R.wp (match itemsW it d with | some ds => if ds.length ≤ SZ then (dcompL b (evE c k) (evE c v) t ds ρ M []).bind fun q => .ok (.dct b q.1, q.2) else .bad | none => .bad) Q X = _
  cases itemsW it d with
  | none => rfl
  | some ds =>
    show R.wp (if ds.length ≤ SZ then (dcompL b (evE c k) (evE c v) t ds ρ M []).bind fun q => .ok (.dct b q.1, q.2) else .bad) Q X = (ds.length ≤ SZ ∧ _)
    unfold wDC
    by_cases h : ds.length ≤ SZ
    · rw [if_pos h]
      rcases dc_nox (c := c) (b := b) (k := k) (v := v) (t := t) ds ρ M [] with ⟨a, e⟩ | e
      · rw [e]; exact propext ⟨fun q => ⟨h, q⟩, fun q => q.2⟩
      · rw [e]; exact propext ⟨fun q => q.elim, fun q => q.2.elim⟩
    · rw [if_neg h]; exact propext ⟨fun q => q.elim, fun q => h q.1⟩
theorem wDC_pure {c : Call} {b : Bool} {k v : E} {t : Tg} {ρ : Env} {M : Sto} {Q : List (D × D) → Sto → Prop} {f g : D → D} : ∀ {ds : List D} {acc : List (D × D)}, (∀ x ∈ ds, ∃ ρ', putT ρ t x = some ρ' ∧ wE c k ρ' M (fun y M' => y = f x ∧ M' = M) noX ∧ wE c v ρ' M (fun y M' => y = g x ∧ M' = M) noX ∧ keyOk b (f x) = true) → Q (ds.foldl (fun a x => keyPut a (f x) (g x)) acc) M → wDC c b k v t ds ρ M acc Q
  | [], acc, _, hq => by unfold wDC; exact hq
  | d :: ds, acc, h, hq => by
    obtain ⟨ρ', h1, h2, h3, h4⟩ := h d List.mem_cons_self
    have ih := wDC_pure (c := c) (b := b) (k := k) (v := v) (t := t) (ρ := ρ) (M := M) (Q := Q) (f := f) (g := g) (ds := ds) (acc := keyPut acc (f d) (g d)) (fun x hx => h x (List.mem_cons_of_mem _ hx)) hq
    unfold wDC at ih ⊢
    unfold dcompL
    simp only [h1, eq_of_wE h2, eq_of_wE h3, h4, if_true]
    exact ih
section
variable {PK PV : D → Prop}
theorem dict_put_keys {kvs : List (D × D)} {k v : D} (al : ∀ a b, PK a → PK b → alike a b = true) (h : DictOk PK PV kvs) (hk : PK k) (j : D) : j ∈ (keyPut kvs k v).map (·.1) ↔ j ∈ kvs.map (·.1) ∨ j = k := by
  rw [keyPut_keys al h hk]
  by_cases c : k ∈ kvs.map (·.1)
  · rw [if_pos c]
    exact ⟨.inl, fun z => z.elim id fun z => z ▸ c⟩
  · rw [if_neg c, List.mem_append, List.mem_singleton]
theorem dict_fold {f g : D → D} (al : ∀ a b, PK a → PK b → alike a b = true) : ∀ {ds : List D} {kvs : List (D × D)}, DictOk PK PV kvs → (∀ x ∈ ds, PK (f x) ∧ PV (g x)) → DictOk PK PV (ds.foldl (fun a x => keyPut a (f x) (g x)) kvs) ∧ (∀ j, j ∈ (ds.foldl (fun a x => keyPut a (f x) (g x)) kvs).map (·.1) ↔ j ∈ kvs.map (·.1) ∨ ∃ x ∈ ds, j = f x) ∧ (ds.foldl (fun a x => keyPut a (f x) (g x)) kvs).length ≤ kvs.length + ds.length
  | [], kvs, h, _ => ⟨h, fun j => by simp, by simp⟩
  | d :: ds, kvs, h, hx => by
    obtain ⟨h1, h2⟩ := hx d List.mem_cons_self
    obtain ⟨a, b, c⟩ := dict_fold (f := f) (g := g) al (ds := ds) (dict_put al h h1 h2) fun x hx' => hx x (List.mem_cons_of_mem _ hx')
    refine ⟨a, fun j => (b j).trans ?_, Nat.le_trans c ?_⟩
    · rw [dict_put_keys al h h1]
      constructor
      · rintro ((z | z) | ⟨x, hx, z⟩)
        · exact .inl z
        · exact .inr ⟨d, List.mem_cons_self, z⟩
        · exact .inr ⟨x, List.mem_cons_of_mem _ hx, z⟩
      · rintro (z | ⟨x, hx, z⟩)
        · exact .inl (.inl z)
        · rcases List.mem_cons.mp hx with rfl | hx
          · exact .inl (.inr z)
          · exact .inr ⟨x, hx, z⟩
    · have := keyPut_le1 kvs (f d) (g d)
      rw [List.length_cons]
      omega
theorem dict_has (al : ∀ a b, PK a → PK b → alike a b = true) {kvs : List (D × D)} {k : D} (h : DictOk PK PV kvs) (hk : PK k) : (keyFind kvs k).isSome = true ↔ k ∈ kvs.map (·.1) := by
  induction kvs with
  | nil => simp [keyFind]
  | cons p r ih =>
    obtain ⟨x, v⟩ := p
    have hx := h.pk (x, v) List.mem_cons_self
    have hr : DictOk PK PV r := ⟨(List.nodup_cons.mp h.nd).2, fun p hp => h.pk p (List.mem_cons_of_mem _ hp), fun p hp => h.pv p (List.mem_cons_of_mem _ hp)⟩
    show (if deq x k then some v else keyFind r k).isSome = true ↔ _
    rw [List.map_cons, List.mem_cons]
    by_cases c : deq x k = true
    · rw [if_pos c]
      exact ⟨fun _ => .inl ((deq_iff (al _ _ hx hk)).mp c).symm, fun _ => rfl⟩
    · rw [if_neg c, ih hr]
      exact ⟨.inr, fun z => z.elim (fun z => absurd ((deq_iff (al _ _ hx hk)).mpr z.symm) c) id⟩
end
theorem in_dct {t : Bool} {kvs : List (D × D)} {a : D} (h : keyOk t a = true) : cmpD .isin a (.dct t kvs) = some (keyFind kvs a).isSome := by
  show (if keyOk t a then some (keyFind kvs a).isSome else none) = _
  rw [if_pos h]
theorem notin_dct {t : Bool} {kvs : List (D × D)} {a : D} (h : keyOk t a = true) : cmpD .notin a (.dct t kvs) = some !(keyFind kvs a).isSome := by
  show ((if keyOk t a then some (keyFind kvs a).isSome else none)).map (!·) = _
  rw [if_pos h]; rfl
theorem in_lst {a : D} {fs : List D} (hp : plain a = true) (hd : depth a ≤ 64) (hf : ∀ y ∈ fs, plain y = true) : cmpD .isin a (.lst fs) = some (fs.any fun y => deq y a) := by
  have := notin_lst hp hd hf
  have e : (inD a (.lst fs)).map (!·) = some (!(fs.any fun y => deq y a)) := this
  show inD a (.lst fs) = _
  cases z : inD a (.lst fs) with
  | none => rw [z] at e; cases e
  | some b =>
    rw [z] at e
    have e := Option.some.inj e
    congr 1
    cases b <;> cases h : (fs.any fun y => deq y a) <;> rw [h] at e <;> first | rfl | cases e
theorem mu_extend {xs ys : List D} (h : xs.length + ys.length ≤ SZ) : muD .extend (.lst xs) [.lst ys] = some (.non, .lst (xs ++ ys)) := if_pos h
theorem mu_extend_arg {M : Sto} {ys : List D} : muArg .extend M [.lst ys] = [.lst ys] := of_eq_true (eq_self _)
theorem fit_extend (ds : List D) : muFit .extend (.lst ds) = true := of_eq_true (eq_self _)
end Ev
set_option Elab.async false
set_option linter.all false
set_option autoImplicit false
set_option maxRecDepth 1000000
set_option maxHeartbeats 0
namespace K10
open Ev
def c_FIRST_STAMP : D := .tup [.int 0, .int 0]
def c_FIRST_HEAD : D := .tup [.tup [.int 0, .int 0], .non]
def c_TO_HOMES : D := .kd [([97, 115, 107], .fn 42), ([108, 105, 115, 116], .fn 30), ([103, 101, 116], .fn 43), ([112, 117, 116], .fn 27), ([104, 101, 97, 100], .fn 17), ([108, 101, 97, 115, 101], .fn 42), ([102, 114, 101, 101], .fn 42), ([112, 114, 101, 112, 97, 114, 101], .fn 28), ([97, 99, 99, 101, 112, 116], .fn 21), ([115, 101, 97, 108], .fn 29)]
def c_TO_HANDS : D := .kd [([116, 111, 108, 100], .fn 17), ([110, 97, 109, 101, 115], .fn 46), ([98, 108, 111, 99, 107], .fn 27), ([110, 111, 110, 101], .fn 43), ([104, 97, 118, 101], .fn 43), ([107, 101, 112, 116], .fn 44), ([108, 97, 99, 107, 115], .fn 45), ([108, 101, 97, 115, 101, 100], .fn 30), ([103, 114, 97, 110, 116, 101, 100], .fn 17), ([102, 114, 101, 101, 100], .fn 42), ([112, 114, 111, 109, 105, 115, 101, 100], .fn 47), ([118, 111, 116, 101, 100], .fn 28), ([98, 101, 97, 116, 101, 110], .fn 28), ([115, 101, 97, 108, 101, 100], .fn 48), ([115, 116, 111, 111, 100], .fn 48), ([105, 110, 115, 116, 97, 108, 108, 101, 100], .fn 30), ([109, 111, 118, 101, 100], .fn 49), ([98, 101, 104, 105, 110, 100], .fn 30)]
def c_BETWEEN : D := .kd [([115, 117, 109, 115], .fn 50), ([118, 97, 108, 117, 101, 115], .fn 51), ([114, 111, 111, 116, 115], .fn 52), ([104, 101, 97, 100, 115], .fn 31)]
def c_WORDS : D := .kd [([97, 115, 107], .fn 94), ([108, 105, 115, 116], .fn 95), ([103, 101, 116], .fn 96), ([112, 117, 116], .fn 97), ([104, 101, 97, 100], .fn 98), ([108, 101, 97, 115, 101], .fn 99), ([102, 114, 101, 101], .fn 100), ([112, 114, 101, 112, 97, 114, 101], .fn 101), ([97, 99, 99, 101, 112, 116], .fn 102), ([115, 101, 97, 108], .fn 103)]
def b_is_integer : List S := [
  .ret (.and (.bi .isinst [.var 0, .con (.ty "int")]) (.not (.bi .isinst [.var 0, .con (.ty "bool")])))]
def f_is_integer : Fn := ⟨1, 1, [], b_is_integer⟩
def b_is_between : List S := [
  .ret (.and (.call 0 [.var 0]) (.chain .le .le (.var 1) (.var 0) (.var 2)))]
def f_is_between : Fn := ⟨3, 3, [], b_is_between⟩
def b_is_count : List S := [
  .ret (.and (.call 0 [.var 0]) (.cmp .ge (.var 0) (.con (.int 0))))]
def f_is_count : Fn := ⟨1, 1, [], b_is_count⟩
def b_is_tuple_of : List S := [
  .ret (.and (.bi .isinst [.var 0, .con (.ty "tuple")]) (.cmp .eq (.bi .len [.var 0]) (.var 1)))]
def f_is_tuple_of : Fn := ⟨2, 2, [], b_is_tuple_of⟩
def b_is_pair_of_numbers : List S := [
  .ret (.and (.call 3 [.var 0, .con (.int 2)]) (.and (.call 2 [.sub (.var 0) (.con (.int 0))]) (.call 2 [.sub (.var 0) (.con (.int 1))])))]
def f_is_pair_of_numbers : Fn := ⟨1, 1, [], b_is_pair_of_numbers⟩
def q_are_ascending_0 : E := .comp (.cmp .lt (.sub (.var 0) (.var 1)) (.sub (.var 0) (.bin .add (.var 1) (.con (.int 1))))) (.one 1) (.bi .range [.bin .sub (.bi .len [.var 0]) (.con (.int 1))]) []
def b_are_ascending : List S := [
  .ret (.bi .all [q_are_ascending_0])]
def f_are_ascending : Fn := ⟨1, 2, [], b_are_ascending⟩
def b_is_home : List S := [
  .ret (.call 1 [.var 0, .con (.int 0), .bin .sub (.con (.int 9)) (.con (.int 1))])]
def f_is_home : Fn := ⟨1, 1, [], b_is_home⟩
def b_is_hand : List S := [
  .ret (.call 1 [.var 0, .con (.int 1), .con (.int 99)])]
def f_is_hand : Fn := ⟨1, 1, [], b_is_hand⟩
def q_is_name_0 : E := .comp (.cmp .isin (.var 1) (.con (.str [97, 98, 99, 100, 101, 102, 103, 104, 105, 106, 107, 108, 109, 110, 111, 112, 113, 114, 115, 116, 117, 118, 119, 120, 121, 122]))) (.one 1) (.var 0) []
def b_is_name : List S := [
  .ret (.and (.bi .isinst [.var 0, .con (.ty "str")]) (.and (.chain .le .le (.con (.int 1)) (.bi .len [.var 0]) (.con (.int 8))) (.bi .all [q_is_name_0])))]
def f_is_name : Fn := ⟨1, 2, [], b_is_name⟩
def q_are_signs_0 : E := .comp (.chain .le .le (.con (.str [32])) (.var 3) (.con (.str [126]))) (.one 3) (.var 0) []
def b_are_signs : List S := [
  .ret (.and (.bi .isinst [.var 0, .con (.ty "str")]) (.and (.chain .le .le (.var 1) (.bi .len [.var 0]) (.var 2)) (.bi .all [q_are_signs_0])))]
def f_are_signs : Fn := ⟨3, 4, [], b_are_signs⟩
def b_is_piece : List S := [
  .ret (.call 9 [.var 0, .con (.int 1), .con (.int 8)])]
def f_is_piece : Fn := ⟨1, 1, [], b_is_piece⟩
def b_is_id : List S := [
  .ret (.and (.call 4 [.var 0]) (.and (.call 7 [.sub (.var 0) (.con (.int 0))]) (.cmp .ge (.sub (.var 0) (.con (.int 1))) (.con (.int 1)))))]
def f_is_id : Fn := ⟨1, 1, [], b_is_id⟩
def q_is_row_0 : E := .comp (.call 11 [.var 1]) (.one 1) (.var 0) []
def b_is_row : List S := [
  .ite (.cmp .is (.var 0) (.con (.non))) [.ret (.con (.bl true))] [],
  .ret (.and (.bi .isinst [.var 0, .con (.ty "tuple")]) (.and (.cmp .le (.bi .len [.var 0]) (.con (.int 12))) (.bi .all [q_is_row_0])))]
def f_is_row : Fn := ⟨1, 2, [], b_is_row⟩
def b_is_stamp : List S := [
  .ite (.not (.call 4 [.var 0])) [.ret (.con (.bl false))] [],
  .ret (.or (.cmp .eq (.var 0) (.con c_FIRST_STAMP)) (.and (.cmp .ge (.sub (.var 0) (.con (.int 0))) (.con (.int 1))) (.call 7 [.sub (.var 0) (.con (.int 1))])))]
def f_is_stamp : Fn := ⟨1, 1, [], b_is_stamp⟩
def q_is_members_0 : E := .comp (.call 6 [.var 1]) (.one 1) (.var 0) []
def b_is_members : List S := [
  .ite (.or (.not (.bi .isinst [.var 0, .con (.ty "tuple")])) (.not (.chain .le .le (.con (.int 1)) (.bi .len [.var 0]) (.con (.int 9))))) [.ret (.con (.bl false))] [],
  .ret (.and (.bi .all [q_is_members_0]) (.call 5 [.var 0]))]
def f_is_members : Fn := ⟨1, 2, [], b_is_members⟩
def q_ids_of_0 : E := .dcomp true (.var 1) (.con (.bl true)) (.one 1) (.var 0)
def b_ids_of : List S := [
  .ret (.ite (.cmp .is (.var 0) (.con (.non))) (.lst []) (.bi .sorted [q_ids_of_0]))]
def f_ids_of : Fn := ⟨1, 2, [], b_ids_of⟩
def q_are_heads_0 : E := .comp (.call 17 [.var 1]) (.one 1) (.var 0) []
def q_are_heads_1 : E := .comp (.sub (.var 1) (.con (.int 0))) (.one 1) (.var 0) []
def b_are_heads : List S := [
  .ite (.or (.not (.bi .isinst [.var 0, .con (.ty "tuple")])) (.not (.bi .all [q_are_heads_0]))) [.ret (.con (.bl false))] [],
  .ret (.call 5 [q_are_heads_1])]
def f_are_heads : Fn := ⟨1, 2, [], b_are_heads⟩
def b_is_named_head : List S := [
  .ret (.and (.call 3 [.var 0, .con (.int 3)]) (.and (.call 8 [.sub (.var 0) (.con (.int 0))]) (.and (.call 13 [.sub (.var 0) (.con (.int 1))]) (.call 12 [.sub (.var 0) (.con (.int 2))]))))]
def f_is_named_head : Fn := ⟨1, 1, [], b_is_named_head⟩
def q_are_blocks_0 : E := .comp (.and (.call 3 [.var 1, .con (.int 2)]) (.and (.call 11 [.sub (.var 1) (.con (.int 0))]) (.call 10 [.sub (.var 1) (.con (.int 1))]))) (.one 1) (.var 0) []
def q_are_blocks_1 : E := .comp (.sub (.var 1) (.con (.int 0))) (.one 1) (.var 0) []
def b_are_blocks : List S := [
  .ite (.not (.bi .isinst [.var 0, .con (.ty "tuple")])) [.ret (.con (.bl false))] [],
  .ite (.not (.bi .all [q_are_blocks_0])) [.ret (.con (.bl false))] [],
  .ret (.call 5 [q_are_blocks_1])]
def f_are_blocks : Fn := ⟨1, 2, [], b_are_blocks⟩
def q_are_leases_0 : E := .comp (.and (.call 3 [.var 1, .con (.int 4)]) (.call 20 [.slc (.var 1) (.con .non) (.con (.int 3))])) (.one 1) (.var 0) []
def q_are_leases_1 : E := .comp (.slc (.var 1) (.con .non) (.con (.int 2))) (.one 1) (.var 0) []
def q_are_leases_2 : E := .comp (.call 2 [.sub (.var 1) (.con (.int 3))]) (.one 1) (.var 0) []
def b_are_leases : List S := [
  .ite (.or (.not (.bi .isinst [.var 0, .con (.ty "tuple")])) (.not (.bi .all [q_are_leases_0]))) [.ret (.con (.bl false))] [],
  .ret (.and (.bi .all [q_are_leases_2]) (.call 5 [q_are_leases_1]))]
def f_are_leases : Fn := ⟨1, 2, [], b_are_leases⟩
def b_is_held : List S := [
  .ret (.and (.call 3 [.var 0, .con (.int 3)]) (.and (.call 8 [.sub (.var 0) (.con (.int 0))]) (.and (.call 7 [.sub (.var 0) (.con (.int 1))]) (.call 2 [.sub (.var 0) (.con (.int 2))]))))]
def f_is_held : Fn := ⟨1, 1, [], b_is_held⟩
def b_is_vote : List S := [
  .ret (.and (.call 3 [.var 0, .con (.int 2)]) (.and (.call 13 [.sub (.var 0) (.con (.int 0))]) (.call 14 [.sub (.var 0) (.con (.int 1))])))]
def f_is_vote : Fn := ⟨1, 1, [], b_is_vote⟩
def b_is_ahead : List S := [
  .ret (.or (.call 14 [.var 0]) (.and (.bi .isinst [.var 0, .con (.ty "tuple")]) (.cmp .eq (.bi .len [.var 0]) (.con (.int 0)))))]
def f_is_ahead : Fn := ⟨1, 1, [], b_is_ahead⟩
def b_is_kept_tables : List S := [
  .ite (.or (.not (.call 3 [.var 0, .con (.int 10)])) (.or (.not (.call 22 [.sub (.var 0) (.con (.int 2))])) (.not (.call 2 [.sub (.var 0) (.con (.int 3))])))) [.ret (.con (.bl false))] [],
  .ite (.or (.not (.call 16 [.sub (.var 0) (.con (.int 4))])) (.or (.not (.call 18 [.sub (.var 0) (.con (.int 5))])) (.not (.call 19 [.sub (.var 0) (.con (.int 6))])))) [.ret (.con (.bl false))] [],
  .ite (.or (.not (.call 13 [.sub (.var 0) (.con (.int 7))])) (.and (.cmp .isnt (.sub (.var 0) (.con (.int 8))) (.con (.non))) (.not (.call 21 [.sub (.var 0) (.con (.int 8))])))) [.ret (.con (.bl false))] [],
  .ret (.or (.cmp .is (.sub (.var 0) (.con (.int 9))) (.con (.non))) (.call 14 [.sub (.var 0) (.con (.int 9))]))]
def f_is_kept_tables : Fn := ⟨1, 1, [], b_is_kept_tables⟩
def q_is_table_0 : E := .comp (.sub (.var 0) (.var 1)) (.one 1) (.tup [.con (.int 1), .con (.int 2), .con (.int 4), .con (.int 5)]) []
def b_is_table : List S := [
  .ite (.not (.call 23 [.var 0])) [.ret (.con (.bl false))] [],
  .ite (.call 2 [.sub (.var 0) (.con (.int 0))]) [.ret (.call 14 [.sub (.var 0) (.con (.int 1))])] [],
  .ite (.or (.not (.bi .isinst [.sub (.var 0) (.con (.int 0)), .con (.ty "int")])) (.cmp .ne (.sub (.var 0) (.con (.int 0))) (.neg (.con (.int 1))))) [.ret (.con (.bl false))] [],
  .ret (.cmp .eq q_is_table_0 (.lst [.tup [], .tup [], .tup [], .tup []]))]
def f_is_table : Fn := ⟨1, 2, [], b_is_table⟩
def b_check_table : List S := [
  .ite (.not (.call 24 [.var 0])) [.raise 1 []] []]
def f_check_table : Fn := ⟨1, 1, [], b_check_table⟩
def b_is_install : List S := [
  .ite (.or (.not (.call 3 [.var 0, .con (.int 5)])) (.or (.not (.call 2 [.sub (.var 0) (.con (.int 0))])) (.or (.not (.call 14 [.sub (.var 0) (.con (.int 1))])) (.not (.call 22 [.sub (.var 0) (.con (.int 2))]))))) [.ret (.con (.bl false))] [],
  .ret (.and (.call 16 [.sub (.var 0) (.con (.int 3))]) (.call 18 [.sub (.var 0) (.con (.int 4))]))]
def f_is_install : Fn := ⟨1, 1, [], b_is_install⟩
def b_is_put : List S := [
  .ret (.and (.call 3 [.var 0, .con (.int 2)]) (.and (.call 11 [.sub (.var 0) (.con (.int 0))]) (.call 10 [.sub (.var 0) (.con (.int 1))])))]
def f_is_put : Fn := ⟨1, 1, [], b_is_put⟩
def b_is_promise : List S := [
  .ret (.and (.call 3 [.var 0, .con (.int 1)]) (.call 13 [.sub (.var 0) (.con (.int 0))]))]
def f_is_promise : Fn := ⟨1, 1, [], b_is_promise⟩
def b_is_seal : List S := [
  .ret (.and (.call 3 [.var 0, .con (.int 1)]) (.call 14 [.sub (.var 0) (.con (.int 0))]))]
def f_is_seal : Fn := ⟨1, 1, [], b_is_seal⟩
def b_is_nothing : List S := [
  .ret (.call 3 [.var 0, .con (.int 0)])]
def f_is_nothing : Fn := ⟨1, 1, [], b_is_nothing⟩
def b_is_mend : List S := [
  .ret (.and (.call 3 [.var 0, .con (.int 2)]) (.and (.call 16 [.sub (.var 0) (.con (.int 0))]) (.call 18 [.sub (.var 0) (.con (.int 1))])))]
def f_is_mend : Fn := ⟨1, 1, [], b_is_mend⟩
def l_raw_head_0 : List S := [.ite (.cmp .eq (.var 2) (.var 1)) [.ret (.tup [.var 3, .var 4])] []]
def b_raw_head : List S := [
  .for (.tup [2, 3, 4]) (.sub (.var 0) (.con (.int 4))) l_raw_head_0,
  .ret (.con c_FIRST_HEAD)]
def f_raw_head : Fn := ⟨2, 5, [], b_raw_head⟩
def l_ids_led_0 : List S := [.oput 1 (.var 4) (.con (.bl true))]
def l_ids_led_1 : List S := [.for (.one 4) (.call 15 [.var 3]) l_ids_led_0]
def b_ids_led : List S := [
  .own 1 (.dct true []),
  .for (.tup [2, 2, 3]) (.var 0) l_ids_led_1,
  .reto 1]
def f_ids_led : Fn := ⟨1, 5, [1], b_ids_led⟩
def q_raw_led_0 : E := .comp (.var 2) (.one 2) (.sub (.var 0) (.con (.int 5))) [.cmp .isin (.sub (.var 2) (.con (.int 0))) (.var 1)]
def b_raw_led : List S := [
  .set 1 (.call 33 [.sub (.var 0) (.con (.int 4))]),
  .ret (.bi .tuple [q_raw_led_0])]
def f_raw_led : Fn := ⟨1, 3, [], b_raw_led⟩
def b_is_in_force : List S := [
  .ret (.cmp .lt (.sub (.var 0) (.con (.int 3))) (.sub (.var 1) (.con (.int 3))))]
def f_is_in_force : Fn := ⟨2, 2, [], b_is_in_force⟩
def b_is_elder : List S := [
  .ret (.and (.cmp .eq (.slc (.var 0) (.con .non) (.con (.int 2))) (.slc (.var 1) (.con .non) (.con (.int 2)))) (.cmp .lt (.sub (.var 0) (.con (.int 2))) (.sub (.var 1) (.con (.int 2)))))]
def f_is_elder : Fn := ⟨2, 2, [], b_is_elder⟩
def q_are_ids_0 : E := .comp (.call 11 [.var 1]) (.one 1) (.var 0) []
def b_are_ids : List S := [
  .ret (.and (.bi .isinst [.var 0, .con (.ty "tuple")]) (.and (.bi .all [q_are_ids_0]) (.call 5 [.var 0])))]
def f_are_ids : Fn := ⟨1, 2, [], b_are_ids⟩
def q_are_names_0 : E := .comp (.call 8 [.var 1]) (.one 1) (.var 0) []
def b_are_names : List S := [
  .ret (.and (.bi .isinst [.var 0, .con (.ty "tuple")]) (.and (.bi .all [q_are_names_0]) (.call 5 [.var 0])))]
def f_are_names : Fn := ⟨1, 2, [], b_are_names⟩
def b_is_voted : List S := [
  .ret (.or (.cmp .is (.var 0) (.con (.non))) (.call 21 [.var 0]))]
def f_is_voted : Fn := ⟨1, 1, [], b_is_voted⟩
def q_are_counts_0 : E := .comp (.call 2 [.var 2]) (.one 2) (.var 0) []
def b_are_counts : List S := [
  .ret (.and (.bi .isinst [.var 0, .con (.ty "tuple")]) (.and (.cmp .le (.bi .len [.var 0]) (.var 1)) (.bi .all [q_are_counts_0])))]
def f_are_counts : Fn := ⟨2, 3, [], b_are_counts⟩
def b_is_place_count : List S := [
  .ret (.call 1 [.var 0, .con (.int 1), .con (.int 64)])]
def f_is_place_count : Fn := ⟨1, 1, [], b_is_place_count⟩
def b_is_only_name : List S := [
  .ret (.and (.call 3 [.var 0, .con (.int 1)]) (.call 8 [.sub (.var 0) (.con (.int 0))]))]
def f_is_only_name : Fn := ⟨1, 1, [], b_is_only_name⟩
def b_is_only_id : List S := [
  .ret (.and (.call 3 [.var 0, .con (.int 1)]) (.call 11 [.sub (.var 0) (.con (.int 0))]))]
def f_is_only_id : Fn := ⟨1, 1, [], b_is_only_id⟩
def b_is_kept : List S := [
  .ret (.and (.call 3 [.var 0, .con (.int 2)]) (.and (.call 8 [.sub (.var 0) (.con (.int 0))]) (.call 13 [.sub (.var 0) (.con (.int 1))])))]
def f_is_kept : Fn := ⟨1, 1, [], b_is_kept⟩
def b_is_lacks : List S := [
  .ret (.and (.call 3 [.var 0, .con (.int 3)]) (.and (.call 44 [.slc (.var 0) (.con .non) (.con (.int 2))]) (.call 37 [.sub (.var 0) (.con (.int 2))])))]
def f_is_lacks : Fn := ⟨1, 1, [], b_is_lacks⟩
def b_is_names : List S := [
  .ret (.and (.call 3 [.var 0, .con (.int 1)]) (.call 38 [.sub (.var 0) (.con (.int 0))]))]
def f_is_names : Fn := ⟨1, 1, [], b_is_names⟩
def b_is_promised : List S := [
  .ret (.and (.call 3 [.var 0, .con (.int 2)]) (.and (.call 13 [.sub (.var 0) (.con (.int 0))]) (.call 39 [.sub (.var 0) (.con (.int 1))])))]
def f_is_promised : Fn := ⟨1, 1, [], b_is_promised⟩
def b_is_carried : List S := [
  .ret (.and (.call 3 [.var 0, .con (.int 3)]) (.and (.call 14 [.sub (.var 0) (.con (.int 0))]) (.call 31 [.slc (.var 0) (.con (.int 1)) (.con .non)])))]
def f_is_carried : Fn := ⟨1, 1, [], b_is_carried⟩
def b_is_place : List S := [
  .ret (.and (.call 3 [.var 0, .con (.int 3)]) (.and (.call 2 [.sub (.var 0) (.con (.int 0))]) (.and (.call 14 [.sub (.var 0) (.con (.int 1))]) (.call 22 [.sub (.var 0) (.con (.int 2))]))))]
def f_is_place : Fn := ⟨1, 1, [], b_is_place⟩
def b_is_sums : List S := [
  .ret (.and (.call 3 [.var 0, .con (.int 1)]) (.call 41 [.sub (.var 0) (.con (.int 0))]))]
def f_is_sums : Fn := ⟨1, 1, [], b_is_sums⟩
def b_is_values : List S := [
  .ret (.and (.call 3 [.var 0, .con (.int 3)]) (.and (.call 41 [.sub (.var 0) (.con (.int 0))]) (.and (.call 2 [.sub (.var 0) (.con (.int 1))]) (.call 40 [.sub (.var 0) (.con (.int 2)), .con (.int 64)]))))]
def f_is_values : Fn := ⟨1, 1, [], b_is_values⟩
def b_is_roots : List S := [
  .ret (.and (.call 3 [.var 0, .con (.int 1)]) (.call 40 [.sub (.var 0) (.con (.int 0)), .bin .add (.con (.int 64)) (.con (.int 1))]))]
def f_is_roots : Fn := ⟨1, 1, [], b_is_roots⟩
def b_is_machine : List S := [
  .ite (.or (.not (.call 3 [.var 0, .con (.int 2)])) (.not (.bi .isinst [.sub (.var 0) (.con (.int 0)), .con (.ty "str")]))) [.ret (.con (.bl false))] [],
  .ret (.or (.and (.cmp .eq (.sub (.var 0) (.con (.int 0))) (.con (.str [104, 111, 109, 101]))) (.call 6 [.sub (.var 0) (.con (.int 1))])) (.and (.cmp .eq (.sub (.var 0) (.con (.int 0))) (.con (.str [104, 97, 110, 100]))) (.call 7 [.sub (.var 0) (.con (.int 1))])))]
def f_is_machine : Fn := ⟨1, 1, [], b_is_machine⟩
def b_is_word : List S := [
  .ite (.and (.cmp .eq (.sub (.var 0) (.con (.int 0))) (.con (.str [104, 111, 109, 101]))) (.cmp .eq (.sub (.var 1) (.con (.int 0))) (.con (.str [104, 111, 109, 101])))) [.ret (.and (.cmp .ne (.var 0) (.var 1)) (.and (.cmp .isin (.var 2) (.con c_BETWEEN)) (.callv 124 (.sub (.con c_BETWEEN) (.var 2)) [.var 3])))] [],
  .ite (.cmp .eq (.sub (.var 0) (.con (.int 0))) (.con (.str [104, 97, 110, 100]))) [.ret (.and (.cmp .eq (.sub (.var 1) (.con (.int 0))) (.con (.str [104, 111, 109, 101]))) (.and (.cmp .isin (.var 2) (.con c_TO_HANDS)) (.callv 124 (.sub (.con c_TO_HANDS) (.var 2)) [.var 3])))] [],
  .ret (.and (.cmp .isin (.var 2) (.con c_TO_HOMES)) (.callv 124 (.sub (.con c_TO_HOMES) (.var 2)) [.var 3]))]
def f_is_word : Fn := ⟨4, 4, [], b_is_word⟩
def b_is_letter : List S := [
  .ite (.or (.not (.call 3 [.var 0, .con (.int 5)])) (.or (.not (.call 53 [.sub (.var 0) (.con (.int 0))])) (.or (.not (.call 53 [.sub (.var 0) (.con (.int 1))])) (.not (.call 2 [.sub (.var 0) (.con (.int 2))]))))) [.ret (.con (.bl false))] [],
  .unp [1, 2, 3, 4, 5] (.var 0),
  .ite (.or (.not (.bi .isinst [.var 4, .con (.ty "str")])) (.or (.not (.bi .isinst [.var 5, .con (.ty "tuple")])) (.or (.cmp .eq (.bi .len [.var 5]) (.con (.int 0))) (.not (.call 2 [.sub (.var 5) (.con (.int 0))]))))) [.ret (.con (.bl false))] [],
  .ite (.and (.cmp .eq (.var 4) (.con (.str [105, 110, 115, 116, 97, 108, 108]))) (.and (.cmp .eq (.sub (.var 1) (.con (.int 0))) (.con (.str [104, 111, 109, 101]))) (.cmp .eq (.sub (.var 2) (.con (.int 0))) (.con (.str [104, 97, 110, 100]))))) [.ret (.call 26 [.var 5])] [],
  .ret (.call 54 [.var 1, .var 2, .var 4, .slc (.var 5) (.con (.int 1)) (.con .non)])]
def f_is_letter : Fn := ⟨1, 6, [], b_is_letter⟩
def b_inverse : List S := [
  .dead,
  .dead,
  .dead,
  .dead]
def f_inverse : Fn := ⟨2, 7, [], b_inverse⟩
def l_trimmed_0 : List S := [.aug 1 .sub (.con (.int 1))]
def b_trimmed : List S := [
  .set 1 (.bi .len [.var 0]),
  .whl (.and (.cmp .gt (.var 1) (.con (.int 0))) (.cmp .eq (.sub (.var 0) (.bin .sub (.var 1) (.con (.int 1)))) (.con (.int 0)))) l_trimmed_0,
  .ret (.bi .list [.slc (.var 0) (.con .non) (.var 1)])]
def f_trimmed : Fn := ⟨1, 2, [], b_trimmed⟩
def l_at_place_0 : List S := [.set 3 (.bin .mod (.bin .add (.bin .mul (.var 3) (.var 2)) (.var 4)) (.var 0))]
def b_at_place : List S := [
  .set 3 (.con (.int 0)),
  .for (.one 4) .dead l_at_place_0,
  .ret (.var 3)]
def f_at_place : Fn := ⟨3, 5, [], b_at_place⟩
def q_monic_0 : E := .comp (.bin .mod (.bin .mul (.var 3) (.var 2)) (.var 0)) (.one 3) (.var 1) []
def b_monic : List S := [
  .set 2 (.call 56 [.var 0, .sub (.var 1) (.neg (.con (.int 1)))]),
  .ret q_monic_0]
def f_monic : Fn := ⟨2, 4, [], b_monic⟩
def q_parted_0 : E := .comp (.bin .mul (.var 9) (.var 7)) (.one 9) (.var 2) []
def q_parted_1 : E := .comp (.bin .mod (.bin .sub (.var 10) (.var 11)) (.var 0)) (.tup [10, 11]) (.bi .zip [.var 3, .var 8]) []
def l_parted_2 : List S := [.set 6 (.bin .sub (.bi .len [.var 3]) (.bi .len [.var 2])), .set 7 (.bin .mod (.bin .mul (.sub (.var 3) (.neg (.con (.int 1)))) (.var 4)) (.var 0)), .oput 5 (.var 6) (.var 7), .set 8 (.bin .add (.bin .mul (.lst [.con (.int 0)]) (.var 6)) q_parted_0), .set 3 (.call 57 [q_parted_1])]
def b_parted : List S := [
  .set 3 (.call 57 [.var 1]),
  .set 4 (.call 56 [.var 0, .sub (.var 2) (.neg (.con (.int 1)))]),
  .own 5 (.bin .mul (.lst [.con (.int 0)]) (.bi .max [.bin .add (.bin .sub (.bi .len [.var 3]) (.bi .len [.var 2])) (.con (.int 1)), .con (.int 0)])),
  .whl (.cmp .ge (.bi .len [.var 3]) (.bi .len [.var 2])) l_parted_2,
  .retf (.tup [.var 5, .var 3])]
def f_parted : Fn := ⟨3, 12, [5], b_parted⟩
def l_common_0 : List S := [.par [1, 2] [.var 2, .sub (.call 60 [.var 0, .var 1, .var 2]) (.con (.int 1))]]
def b_common : List S := [
  .par [1, 2] [.call 57 [.var 1], .call 57 [.var 2]],
  .whl (.cmp .gt (.bi .len [.var 2]) (.con (.int 0))) l_common_0,
  .ret (.call 59 [.var 0, .var 1])]
def f_common : Fn := ⟨3, 3, [], b_common⟩
def q_with_pivot_0 : E := .comp (.bin .mod (.bin .mul (.var 10) (.var 4)) (.var 0)) (.one 10) (.sub (.var 1) (.var 2)) []
def q_with_pivot_1 : E := .comp (.bin .mod (.bin .sub (.var 10) (.bin .mul (.var 9) (.var 11))) (.var 0)) (.tup [10, 11]) (.bi .zip [.var 8, .var 5]) []
def l_with_pivot_2 : List S := [.set 9 (.sub (.var 8) (.var 3)), .ite (.cmp .eq (.var 7) (.var 2)) [.omu .append 6 [.var 5]] [.omu .append 6 [q_with_pivot_1]]]
def b_with_pivot : List S := [
  .set 4 (.call 56 [.var 0, .sub (.sub (.var 1) (.var 2)) (.var 3)]),
  .set 5 q_with_pivot_0,
  .own 6 (.lst []),
  .for (.tup [7, 8]) (.bi .enum [.var 1]) l_with_pivot_2,
  .reto 6]
def f_with_pivot : Fn := ⟨4, 12, [6], b_with_pivot⟩
def q_solved_0 : E := .comp (.var 6) (.tup [6, 7]) (.bi .enum [.var 1]) [.and (.cmp .ne (.sub (.var 7) (.var 4)) (.con (.int 0))) (.cmp .notin (.var 6) (.bor 3))]
def l_solved_1 : List S := [.set 5 q_solved_0, .ite (.cmp .gt (.bi .len [.var 5]) (.con (.int 0))) [.set 1 (.call 62 [.var 0, .var 1, .sub (.var 5) (.con (.int 0)), .var 4]), .omu .append 3 [.sub (.var 5) (.con (.int 0))]] [.omu .append 3 [.con (.non)]]]
def q_solved_2 : E := .comp (.cmp .ne (.sub (.var 7) (.neg (.con (.int 1)))) (.con (.int 0))) (.tup [6, 7]) (.bi .enum [.var 1]) [.cmp .notin (.var 6) (.bor 3)]
def q_solved_3 : E := .comp (.ite (.cmp .is (.var 6) (.con (.non))) (.con (.int 0)) (.sub (.sub (.var 1) (.var 6)) (.neg (.con (.int 1))))) (.one 6) (.bor 3) []
def b_solved : List S := [
  .own 3 (.lst []),
  .for (.one 4) (.bi .range [.var 2]) l_solved_1,
  .ite (.bi .any [q_solved_2]) [.ret (.con (.non))] [],
  .ret q_solved_3]
def f_solved : Fn := ⟨3, 8, [3], b_solved⟩
def l_raw_values_0 : List S := [.set 5 (.bin .mod (.bin .mul (.var 5) (.bin .sub (.var 4) (.var 6))) (.var 0))]
def l_raw_values_1 : List S := [.set 5 (.con (.int 1)), .for (.one 6) (.var 1) l_raw_values_0, .omu .append 3 [.var 5]]
def b_raw_values : List S := [
  .own 3 (.lst []),
  .for (.one 4) (.var 2) l_raw_values_1,
  .ret (.bi .tuple [.bor 3])]
def f_raw_values : Fn := ⟨3, 7, [3], b_raw_values⟩
def l_powers_0 : List S := [.omu .append 3 [.var 4], .set 4 (.bin .mod (.bin .mul (.var 4) (.var 1)) (.var 0))]
def b_powers : List S := [
  .own 3 (.lst []),
  .set 4 (.con (.int 1)),
  .for (.one 5) (.bi .range [.var 2]) l_powers_0,
  .reto 3]
def f_powers : Fn := ⟨3, 6, [3], b_powers⟩
def q_equation_0 : E := .comp (.bin .mod (.bin .mul (.neg (.var 8)) (.var 2)) (.var 0)) (.one 8) (.slc (.var 6) (.con .non) (.var 4)) []
def b_equation : List S := [
  .set 5 (.call 65 [.var 0, .var 1, .bin .add (.var 3) (.con (.int 1))]),
  .set 6 (.call 65 [.var 0, .var 1, .bin .add (.var 4) (.con (.int 1))]),
  .set 7 (.bin .add (.slc (.var 5) (.con .non) (.var 3)) q_equation_0),
  .ret (.bin .add (.var 7) (.lst [.bin .mod (.bin .sub (.bin .mul (.sub (.var 6) (.var 4)) (.var 2)) (.sub (.var 5) (.var 3))) (.var 0)]))]
def f_equation : Fn := ⟨5, 9, [], b_equation⟩
def b_reduced : List S := [
  .par [5, 6] [.bin .add (.slc (.var 3) (.con .non) (.var 1)) (.lst [.con (.int 1)]), .bin .add (.slc (.var 3) (.var 1) (.con .non)) (.lst [.con (.int 1)])],
  .set 4 (.call 61 [.var 0, .var 5, .var 6]),
  .ret (.tup [.call 59 [.var 0, .sub (.call 60 [.var 0, .var 5, .var 4]) (.con (.int 0))], .call 59 [.var 0, .sub (.call 60 [.var 0, .var 6, .var 4]) (.con (.int 0))]])]
def f_reduced : Fn := ⟨4, 7, [], b_reduced⟩
def q_raw_roots_0 : E := .comp (.var 3) (.one 3) (.var 2) [.cmp .eq (.call 58 [.var 0, .var 1, .var 3]) (.con (.int 0))]
def b_raw_roots : List S := [
  .ret (.bi .tuple [q_raw_roots_0])]
def f_raw_roots : Fn := ⟨3, 4, [], b_raw_roots⟩
def b_fit : List S := [
  .dead,
  .dead]
def f_fit : Fn := ⟨5, 8, [], b_fit⟩
def b_raw_difference : List S := [
  .dead,
  .dead,
  .dead,
  .dead,
  .dead,
  .dead,
  .dead,
  .dead,
  .dead,
  .dead,
  .dead]
def f_raw_difference : Fn := ⟨6, 17, [8], b_raw_difference⟩
def l_raw_number_of_0 : List S := [.set 2 (.bin .sub (.bin .add (.bin .mul (.var 2) (.con (.int 27))) .dead) (.con (.int 96)))]
def b_raw_number_of : List S := [
  .set 2 (.con (.int 0)),
  .for (.one 3) (.var 0) l_raw_number_of_0,
  .ret (.bin .add (.bin .mul (.bin .add (.bin .mul (.var 2) (.bin .pow (.con (.int 10)) (.con (.int 6)))) (.sub (.var 1) (.con (.int 0)))) (.con (.int 100))) (.sub (.var 1) (.con (.int 1))))]
def f_raw_number_of : Fn := ⟨2, 4, [], b_raw_number_of⟩
def q_places_of_0 : E := .comp (.bin .sub (.bin .sub (.con (.int 618970019642690137449562111)) (.con (.int 1))) (.var 1)) (.one 1) (.bi .range [.var 0]) []
def b_places_of : List S := [
  .ret (.bi .tuple [q_places_of_0])]
def f_places_of : Fn := ⟨1, 2, [], b_places_of⟩
def q_numbers_of_0 : E := .comp (.call 71 [.var 1, .var 2]) (.tup [1, 2, 3]) (.sub (.var 0) (.con (.int 4))) []
def b_numbers_of : List S := [
  .ret (.bi .tuple [.bi .sorted [q_numbers_of_0]])]
def f_numbers_of : Fn := ⟨1, 4, [], b_numbers_of⟩
def b_keeps : List S := [
  .ret (.and (.cmp .ge (.sub (.var 0) (.con (.int 0))) (.con (.int 0))) (.cmp .is (.sub (.var 0) (.con (.int 9))) (.con (.non))))]
def f_keeps : Fn := ⟨1, 1, [], b_keeps⟩
def b_written : List S := [
  .ret (.tup [.tup [.tup [.con (.str [104, 111, 109, 101]), .var 1], .tup [.con (.str [104, 111, 109, 101]), .var 0], .con (.int 0), .var 2, .var 3]])]
def f_written : Fn := ⟨4, 4, [], b_written⟩
def b_to_sums : List S := [
  .unp [3, 4] (.var 1),
  .set 2 (.call 73 [.var 0]),
  .ret (.tup [.con (.str [118, 97, 108, 117, 101, 115]), .tup [.var 3, .var 4, .bi .len [.var 2], .call 64 [.con (.int 618970019642690137449562111), .var 2, .call 72 [.var 4]]]])]
def f_to_sums : Fn := ⟨2, 5, [], b_to_sums⟩
def q_to_values_0 : E := .comp (.chain .lt .lt (.con (.int 0)) (.var 7) (.con (.int 618970019642690137449562111))) (.one 7) (.var 6) []
def b_to_values : List S := [
  .unp [3, 4, 5, 6] (.var 1),
  .ite (.or (.cmp .ne (.bi .len [.var 6]) (.var 4)) (.or (.cmp .gt (.var 5) (.con (.int 200))) (.not (.bi .all [q_to_values_0])))) [.ret (.con (.non))] [],
  .set 2 (.call 70 [.con (.int 618970019642690137449562111), .call 73 [.var 0], .var 5, .call 72 [.var 4], .var 6, .var 4]),
  .ite (.cmp .isnt (.var 2) (.con (.non))) [.ret (.ite (.cmp .gt (.bi .len [.sub (.var 2) (.con (.int 0))]) (.con (.int 1))) (.tup [.con (.str [114, 111, 111, 116, 115]), .tup [.var 3, .sub (.var 2) (.con (.int 0))]]) (.con (.non)))] [],
  .ret (.ite (.cmp .le (.bin .mul (.con (.int 2)) (.var 4)) (.con (.int 64))) (.tup [.con (.str [115, 117, 109, 115]), .tup [.var 3, .bin .mul (.con (.int 2)) (.var 4)]]) (.tup [.con (.str [114, 111, 111, 116, 115]), .tup [.var 3, .tup []]]))]
def f_to_values : Fn := ⟨2, 8, [], b_to_values⟩
def l_wanted_0 : List S := [.ite (.cmp .gt (.bi .len [.call 68 [.con (.int 618970019642690137449562111), .var 1, .tup [.call 71 [.sub (.var 3) (.con (.int 0)), .sub (.var 3) (.con (.int 1))]]]]) (.con (.int 0))) [.omu .append 2 [.var 3]] []]
def b_wanted : List S := [
  .ite (.cmp .eq (.bi .len [.var 1]) (.con (.int 0))) [.ret (.sub (.var 0) (.con (.int 4)))] [],
  .own 2 (.lst []),
  .for (.one 3) (.sub (.var 0) (.con (.int 4))) l_wanted_0,
  .ret (.bi .tuple [.bor 2])]
def f_wanted : Fn := ⟨2, 4, [2], b_wanted⟩
def q_led_by_0 : E := .comp (.var 3) (.one 3) (.var 1) [.cmp .isin (.sub (.var 3) (.con (.int 0))) (.var 2)]
def b_led_by : List S := [
  .set 2 (.call 33 [.var 0]),
  .ret (.bi .tuple [q_led_by_0])]
def f_led_by : Fn := ⟨2, 4, [], b_led_by⟩
def b_to_roots : List S := [
  .unp [3, 4] (.var 1),
  .set 2 (.call 78 [.var 0, .var 4]),
  .ret (.ite (.cmp .gt (.bi .len [.var 2]) (.con (.int 0))) (.tup [.con (.str [104, 101, 97, 100, 115]), .tup [.var 3, .var 2, .call 79 [.var 2, .sub (.var 0) (.con (.int 5))]]]) (.con (.non)))]
def f_to_roots : Fn := ⟨2, 5, [], b_to_roots⟩
def q_is_free_0 : E := .comp (.and (.cmp .eq (.sub (.var 2) (.con (.int 0))) (.var 1)) (.call 35 [.var 0, .var 2])) (.one 2) (.sub (.var 0) (.con (.int 6))) []
def b_is_free : List S := [
  .ret (.not (.bi .any [q_is_free_0]))]
def f_is_free : Fn := ⟨2, 3, [], b_is_free⟩
def q_taken_0 : E := .dcomp false (.sub (.var 8) (.con (.int 0))) (.con (.bl true)) (.one 8) (.bin .add (.sub (.var 0) (.con (.int 5))) (.var 2))
def q_taken_1 : E := .comp (.cmp .isin (.var 9) (.var 3)) (.one 9) (.call 15 [.var 7]) []
def l_taken_2 : List S := [.ite (.and (.call 81 [.var 0, .var 5]) (.cmp .gt (.var 6) (.sub (.call 32 [.var 0, .var 5]) (.con (.int 0))))) [.ite (.bi .all [q_taken_1]) [.omu .append 4 [.tup [.var 5, .var 6, .var 7]]] []] []]
def b_taken : List S := [
  .set 3 q_taken_0,
  .own 4 (.lst []),
  .for (.tup [5, 6, 7]) (.var 1) l_taken_2,
  .ret (.bi .tuple [.bor 4])]
def f_taken : Fn := ⟨3, 10, [4], b_taken⟩
def b_mend_deeds : List S := [
  .unp [3, 4, 5] (.var 1),
  .set 2 (.call 82 [.var 0, .var 4, .var 5]),
  .ret (.ite (.cmp .gt (.bi .len [.var 2]) (.con (.int 0))) (.tup [.tup [.con (.str [109, 101, 110, 100]), .var 2, .call 79 [.var 2, .var 5]]]) (.tup []))]
def f_mend_deeds : Fn := ⟨2, 6, [], b_mend_deeds⟩
def b_told_between : List S := [
  .ite (.cmp .eq (.var 1) (.con (.str [115, 117, 109, 115]))) [.ret (.call 76 [.var 0, .var 2])] [],
  .ite (.cmp .eq (.var 1) (.con (.str [118, 97, 108, 117, 101, 115]))) [.ret (.call 77 [.var 0, .var 2])] [],
  .ret (.call 80 [.var 0, .var 2])]
def f_told_between : Fn := ⟨3, 3, [], b_told_between⟩
def b_answer_between : List S := [
  .par [4, 5] [.sub (.var 2) (.con (.int 3)), .sub (.var 2) (.con (.int 4))],
  .ite (.or (.not (.call 74 [.var 1])) (.cmp .ne (.sub (.var 5) (.con (.int 0))) (.sub (.var 1) (.con (.int 0))))) [.ret (.tup [.tup [], .tup []])] [],
  .ite (.cmp .eq (.var 4) (.con (.str [104, 101, 97, 100, 115]))) [.ret (.tup [.call 83 [.var 1, .var 5], .tup []])] [],
  .set 3 (.call 84 [.var 1, .var 4, .var 5]),
  .ret (.ite (.cmp .is (.var 3) (.con (.non))) (.tup [.tup [], .tup []]) (.tup [.tup [], .call 75 [.var 0, .sub (.sub (.var 2) (.con (.int 1))) (.con (.int 1)), .sub (.var 3) (.con (.int 0)), .sub (.var 3) (.con (.int 1))]]))]
def f_answer_between : Fn := ⟨3, 6, [], b_answer_between⟩
def l_piece_of_0 : List S := [.ite (.cmp .eq (.var 2) (.var 1)) [.ret (.var 3)] []]
def b_piece_of : List S := [
  .for (.tup [2, 3]) (.sub (.var 0) (.con (.int 5))) l_piece_of_0,
  .ret (.con (.non))]
def f_piece_of : Fn := ⟨2, 4, [], b_piece_of⟩
def q_is_leased_0 : E := .comp (.and (.cmp .eq (.sub (.var 3) (.con (.int 0))) (.var 1)) (.and (.cmp .ne (.sub (.var 3) (.con (.int 1))) (.var 2)) (.call 35 [.var 0, .var 3]))) (.one 3) (.sub (.var 0) (.con (.int 6))) []
def b_is_leased : List S := [
  .ret (.bi .any [q_is_leased_0])]
def f_is_leased : Fn := ⟨3, 4, [], b_is_leased⟩
def q_lacking_0 : E := .comp (.var 2) (.one 2) (.call 15 [.var 1]) [.cmp .is (.call 86 [.var 0, .var 2]) (.con (.non))]
def b_lacking : List S := [
  .ret (.bi .tuple [q_lacking_0])]
def f_lacking : Fn := ⟨2, 3, [], b_lacking⟩
def b_only : List S := [
  .ret (.tup [.tup [], .tup [.var 0, .var 1]])]
def f_only : Fn := ⟨2, 2, [], b_only⟩
def b_done : List S := [
  .ret (.tup [.tup [.var 0], .tup [.var 1, .var 2]])]
def f_done : Fn := ⟨3, 3, [], b_done⟩
def b_to_install : List S := [
  .set 2 (.sub (.var 1) (.con (.int 0))),
  .ite (.cmp .lt (.sub (.var 0) (.con (.int 0))) (.var 2)) [.ret (.call 90 [.bin .add (.tup [.con (.str [105, 110, 115, 116, 97, 108, 108])]) (.var 1), .con (.str [105, 110, 115, 116, 97, 108, 108, 101, 100]), .tup [.var 2]])] [],
  .ret (.ite (.cmp .eq (.sub (.var 0) (.con (.int 0))) (.var 2)) (.call 89 [.con (.str [105, 110, 115, 116, 97, 108, 108, 101, 100]), .tup [.var 2]]) (.con (.non)))]
def f_to_install : Fn := ⟨2, 3, [], b_to_install⟩
def b_to_later : List S := [
  .ite (.and (.cmp .eq (.var 2) (.con (.str [115, 101, 97, 108]))) (.cmp .eq (.sub (.var 0) (.con (.int 0))) (.bin .add (.var 1) (.con (.int 1))))) [.ret (.call 89 [.con (.str [115, 116, 111, 111, 100]), .tup [.var 1, .sub (.var 0) (.con (.int 1)), .sub (.var 0) (.con (.int 4)), .call 34 [.var 0]]])] [],
  .ret (.call 89 [.con (.str [109, 111, 118, 101, 100]), .tup [.var 1, .sub (.var 0) (.con (.int 0)), .sub (.var 0) (.con (.int 1)), .sub (.var 0) (.con (.int 2))]])]
def f_to_later : Fn := ⟨3, 3, [], b_to_later⟩
def b_to_sealed : List S := [
  .ite (.cmp .eq (.var 2) (.con (.str [115, 101, 97, 108]))) [.ret (.call 89 [.con (.str [115, 101, 97, 108, 101, 100]), .tup [.var 1, .sub (.var 0) (.con (.int 9)), .sub (.var 0) (.con (.int 4)), .call 34 [.var 0]]])] [],
  .ret (.call 89 [.con (.str [109, 111, 118, 101, 100]), .tup [.var 1, .bin .add (.var 1) (.con (.int 1)), .sub (.var 0) (.con (.int 9)), .sub (.var 0) (.con (.int 1))]])]
def f_to_sealed : Fn := ⟨3, 3, [], b_to_sealed⟩
def b_to_ask : List S := [
  .ret (.call 89 [.con (.str [116, 111, 108, 100]), .bin .add (.tup [.var 2, .sub (.var 3) (.con (.int 0))]) (.call 32 [.var 0, .sub (.var 3) (.con (.int 0))])])]
def f_to_ask : Fn := ⟨4, 4, [], b_to_ask⟩
def q_to_list_0 : E := .comp (.var 4) (.tup [4, 5, 6]) (.sub (.var 0) (.con (.int 4))) [.cmp .isnt (.var 6) (.con (.non))]
def b_to_list : List S := [
  .ret (.call 89 [.con (.str [110, 97, 109, 101, 115]), .tup [.var 2, .bi .tuple [q_to_list_0]]])]
def f_to_list : Fn := ⟨4, 7, [], b_to_list⟩
def b_to_get : List S := [
  .set 4 (.call 86 [.var 0, .sub (.var 3) (.con (.int 0))]),
  .ret (.ite (.cmp .is (.var 4) (.con (.non))) (.call 89 [.con (.str [110, 111, 110, 101]), .tup [.var 2, .sub (.var 3) (.con (.int 0))]]) (.call 89 [.con (.str [98, 108, 111, 99, 107]), .tup [.var 2, .sub (.var 3) (.con (.int 0)), .var 4]]))]
def f_to_get : Fn := ⟨4, 5, [], b_to_get⟩
def b_to_put : List S := [
  .ite (.cmp .isnt (.call 86 [.var 0, .sub (.var 3) (.con (.int 0))]) (.con (.non))) [.ret (.call 89 [.con (.str [104, 97, 118, 101]), .tup [.var 2, .sub (.var 3) (.con (.int 0))]])] [],
  .ret (.call 90 [.bin .add (.tup [.con (.str [112, 117, 116])]) (.var 3), .con (.str [104, 97, 118, 101]), .tup [.var 2, .sub (.var 3) (.con (.int 0))]])]
def f_to_put : Fn := ⟨4, 4, [], b_to_put⟩
def b_to_head : List S := [
  .unp [5, 6, 7] (.var 3),
  .ite (.cmp .le (.var 6) (.sub (.call 32 [.var 0, .var 5]) (.con (.int 0)))) [.ret (.call 89 [.con (.str [107, 101, 112, 116]), .tup [.var 2, .var 5, .var 6]])] [],
  .ite (.call 87 [.var 0, .var 5, .sub (.var 1) (.con (.int 0))]) [.ret (.call 89 [.con (.str [108, 101, 97, 115, 101, 100]), .tup [.var 2]])] [],
  .set 4 (.call 88 [.var 0, .var 7]),
  .ite (.cmp .gt (.bi .len [.var 4]) (.con (.int 0))) [.ret (.call 89 [.con (.str [108, 97, 99, 107, 115]), .tup [.var 2, .var 5, .var 6, .var 4]])] [],
  .ret (.call 90 [.bin .add (.tup [.con (.str [104, 101, 97, 100])]) (.var 3), .con (.str [107, 101, 112, 116]), .tup [.var 2, .var 5, .var 6]])]
def f_to_head : Fn := ⟨4, 8, [], b_to_head⟩
def b_to_lease : List S := [
  .ret (.call 90 [.bin .add (.tup [.con (.str [108, 101, 97, 115, 101]), .sub (.var 3) (.con (.int 0))]) (.var 1), .con (.str [103, 114, 97, 110, 116, 101, 100]), .bin .add (.tup [.var 2, .sub (.var 3) (.con (.int 0))]) (.call 32 [.var 0, .sub (.var 3) (.con (.int 0))])])]
def f_to_lease : Fn := ⟨4, 4, [], b_to_lease⟩
def q_to_free_0 : E := .comp (.call 36 [.var 5, .var 4]) (.one 5) (.sub (.var 0) (.con (.int 6))) []
def b_to_free : List S := [
  .set 4 (.bin .add (.tup [.sub (.var 3) (.con (.int 0))]) (.var 1)),
  .ite (.bi .any [q_to_free_0]) [.ret (.call 90 [.bin .add (.tup [.con (.str [102, 114, 101, 101])]) (.var 4), .con (.str [102, 114, 101, 101, 100]), .tup [.var 2, .sub (.var 3) (.con (.int 0))]])] [],
  .ret (.call 89 [.con (.str [102, 114, 101, 101, 100]), .tup [.var 2, .sub (.var 3) (.con (.int 0))]])]
def f_to_free : Fn := ⟨4, 6, [], b_to_free⟩
def b_to_prepare : List S := [
  .ite (.cmp .lt (.sub (.var 3) (.con (.int 0))) (.sub (.var 0) (.con (.int 7)))) [.ret (.call 89 [.con (.str [98, 101, 97, 116, 101, 110]), .tup [.var 2, .sub (.var 0) (.con (.int 7))]])] [],
  .set 4 (.tup [.var 2, .sub (.var 3) (.con (.int 0)), .sub (.var 0) (.con (.int 8))]),
  .ret (.ite (.cmp .eq (.sub (.var 3) (.con (.int 0))) (.sub (.var 0) (.con (.int 7)))) (.call 89 [.con (.str [112, 114, 111, 109, 105, 115, 101, 100]), .var 4]) (.call 90 [.tup [.con (.str [112, 114, 111, 109, 105, 115, 101]), .sub (.var 3) (.con (.int 0))], .con (.str [112, 114, 111, 109, 105, 115, 101, 100]), .var 4]))]
def f_to_prepare : Fn := ⟨4, 5, [], b_to_prepare⟩
def b_to_accept : List S := [
  .ite (.cmp .lt (.sub (.var 3) (.con (.int 0))) (.sub (.var 0) (.con (.int 7)))) [.ret (.call 89 [.con (.str [98, 101, 97, 116, 101, 110]), .tup [.var 2, .sub (.var 0) (.con (.int 7))]])] [],
  .set 4 (.tup [.var 2, .sub (.var 3) (.con (.int 0))]),
  .ret (.ite (.cmp .eq (.sub (.var 0) (.con (.int 8))) (.var 3)) (.call 89 [.con (.str [118, 111, 116, 101, 100]), .var 4]) (.call 90 [.bin .add (.tup [.con (.str [118, 111, 116, 101])]) (.var 3), .con (.str [118, 111, 116, 101, 100]), .var 4]))]
def f_to_accept : Fn := ⟨4, 5, [], b_to_accept⟩
def q_to_seal_0 : E := .comp (.call 35 [.var 0, .var 4]) (.one 4) (.sub (.var 0) (.con (.int 6))) []
def b_to_seal : List S := [
  .ite (.bi .any [q_to_seal_0]) [.ret (.call 89 [.con (.str [108, 101, 97, 115, 101, 100]), .tup [.var 2]])] [],
  .ret (.call 90 [.tup [.con (.str [115, 101, 97, 108]), .sub (.var 3) (.con (.int 0))], .con (.str [115, 101, 97, 108, 101, 100]), .tup [.var 2, .sub (.var 3) (.con (.int 0)), .sub (.var 0) (.con (.int 4)), .call 34 [.var 0]]])]
def f_to_seal : Fn := ⟨4, 5, [], b_to_seal⟩
def b_told_to_hand : List S := [
  .set 4 (.sub (.var 3) (.con (.int 0))),
  .ite (.cmp .eq (.var 2) (.con (.str [105, 110, 115, 116, 97, 108, 108]))) [.set 5 (.call 91 [.var 0, .var 3]), .ret (.ite (.cmp .isnt (.var 5) (.con (.non))) (.var 5) (.call 92 [.var 0, .var 4, .var 2]))] [],
  .ite (.cmp .gt (.sub (.var 0) (.con (.int 0))) (.var 4)) [.ret (.call 92 [.var 0, .var 4, .var 2])] [],
  .ite (.cmp .lt (.sub (.var 0) (.con (.int 0))) (.var 4)) [.ret (.call 89 [.con (.str [98, 101, 104, 105, 110, 100]), .tup [.var 4]])] [],
  .ite (.cmp .isnt (.sub (.var 0) (.con (.int 9))) (.con (.non))) [.ret (.call 93 [.var 0, .var 4, .var 2])] [],
  .ret (.callv 124 (.sub (.con c_WORDS) (.var 2)) [.var 0, .var 1, .var 4, .slc (.var 3) (.con (.int 1)) (.con .non)])]
def f_told_to_hand : Fn := ⟨4, 6, [], b_told_to_hand⟩
def b_raw_answer : List S := [
  .unp [3, 4, 5, 6, 7] (.var 2),
  .ite (.cmp .eq (.sub (.var 4) (.con (.int 0))) (.con (.str [104, 111, 109, 101]))) [.ret (.call 85 [.var 0, .var 1, .var 2])] [],
  .unp [8, 9] (.call 104 [.var 1, .tup [.sub (.var 4) (.con (.int 1)), .var 5], .var 6, .var 7]),
  .ret (.tup [.var 8, .tup [.bin .add (.tup [.var 4, .var 3, .var 5]) (.var 9)]])]
def f_raw_answer : Fn := ⟨3, 10, [], b_raw_answer⟩
def b_answer : List S := [
  .ite (.not (.call 6 [.var 0])) [.raise 2 []] [],
  .ex (.call 25 [.var 1]),
  .ite (.or (.not (.call 55 [.var 2])) (.cmp .ne (.sub (.var 2) (.con (.int 0))) (.tup [.con (.str [104, 111, 109, 101]), .var 0]))) [.raise 3 []] [],
  .ret (.call 105 [.var 0, .var 1, .var 2])]
def f_answer : Fn := ⟨3, 3, [], b_answer⟩
def b__law_hat : List S := [
  .set 2 (.bin .mul (.bin .mul (.bin .mul (.bin .pow (.con (.int 10)) (.con (.int 64))) (.bin .pow (.con (.int 10)) (.con (.int 64)))) (.bin .pow (.con (.int 10)) (.con (.int 64)))) (.bin .pow (.con (.int 10)) (.con (.int 64)))),
  .set 3 (.bin .mod (.bi .int [.var 0]) (.var 2)),
  .ite (.cmp .ge (.var 3) (.bin .pow (.con (.int 10)) (.con (.int 18)))) [.ret (.alloc (.lst [.var 3, .bin .add (.bin .mod (.bi .int [.var 3]) (.con (.int 2147483563))) (.var 1)]))] [],
  .ret (.alloc (.lst [.con (.int 0), .bin .mod (.bin .add (.bin .add (.bin .mul (.bin .mod (.bi .int [.var 3]) (.con (.int 2147483647))) (.con (.int 48271))) (.bin .mul (.con (.int 7919)) (.var 1))) (.con (.int 1))) (.con (.int 2147483647))]))]
def f__law_hat : Fn := ⟨2, 4, [], b__law_hat⟩
def b__law_draw : List S := [
  .ite (.cmp .gt (.sub (.var 0) (.con (.int 0))) (.con (.int 0))) [.set 2 (.bin .mod (.bi .int [.sub (.var 0) (.con (.int 0))]) (.var 1)), .sto (.var 0) (.con (.int 0)) (.bin .fdiv (.sub (.var 0) (.con (.int 0))) (.var 1)), .ret (.var 2)] [],
  .sto (.var 0) (.con (.int 1)) (.bin .mod (.bin .add (.bin .mul (.bi .int [.sub (.var 0) (.con (.int 1))]) (.con (.int 48271))) (.con (.int 11))) (.con (.int 2147483647))),
  .sto (.var 0) (.con (.int 1)) (.bin .mod (.bin .add (.bin .mul (.bi .int [.sub (.var 0) (.con (.int 1))]) (.bin .add (.bin .mod (.bin .fdiv (.sub (.var 0) (.con (.int 1))) (.con (.int 1009))) (.con (.int 65521))) (.con (.int 69621)))) (.con (.int 7))) (.con (.int 2147483629))),
  .ret (.bin .mod (.bin .fdiv (.sub (.var 0) (.con (.int 1))) (.con (.int 16))) (.var 1))]
def f__law_draw : Fn := ⟨2, 3, [], b__law_draw⟩
def l__law_same_0 : List S := [.ite (.not (.call 109 [.var 2, .var 3])) [.ret (.con (.bl false))] []]
def b__law_same : List S := [
  .ite (.bi .isinst [.var 1, .con (.ty "tuple")]) [.ite (.or (.not (.bi .isinst [.var 0, .con (.ty "tuple")])) (.cmp .ne (.bi .len [.var 0]) (.bi .len [.var 1]))) [.ret (.con (.bl false))] [], .for (.tup [2, 3]) (.bi .zip [.var 0, .var 1]) l__law_same_0, .ret (.con (.bl true))] [],
  .ite (.cmp .is (.var 1) (.con (.non))) [.ret (.cmp .is (.var 0) (.con (.non)))] [],
  .ite (.bi .isinst [.var 1, .con (.ty "str")]) [.ret (.and (.bi .isinst [.var 0, .con (.ty "str")]) (.cmp .eq (.var 0) (.var 1)))] [],
  .ret (.and (.bi .isinst [.var 0, .con (.ty "int")]) (.and (.not (.bi .isinst [.var 0, .con (.ty "bool")])) (.cmp .eq (.var 0) (.var 1))))]
def f__law_same : Fn := ⟨2, 4, [], b__law_same⟩
def q__law_name_0 : E := .comp (.sub (.con (.str [97, 98, 99, 100, 101, 102, 103, 104, 105, 106, 107, 108, 109, 110, 111, 112, 113, 114, 115, 116, 117, 118, 119, 120, 121, 122])) (.call 108 [.var 0, .con (.int 26)])) (.one 2) (.bi .range [.var 1]) []
def q__law_name_1 : E := .comp (.sub (.con (.str [109, 122])) (.call 108 [.var 0, .con (.int 2)])) (.one 2) (.bi .range [.var 1]) []
def b__law_name : List S := [
  .set 1 (.sub (.lst [.con (.int 1), .con (.int 1), .con (.int 1), .con (.int 1), .con (.int 2), .con (.int 3), .con (.int 5), .con (.int 8)]) (.call 108 [.var 0, .con (.int 8)])),
  .ite (.cmp .eq (.call 108 [.var 0, .con (.int 3)]) (.con (.int 0))) [.ret (.join (.con (.str [])) q__law_name_0)] [],
  .ret (.join (.con (.str [])) q__law_name_1)]
def f__law_name : Fn := ⟨1, 3, [], b__law_name⟩
def b__law_id : List S := [
  .ite (.cmp .eq (.call 108 [.var 0, .con (.int 6)]) (.con (.int 0))) [.ret (.tup [.bin .add (.con (.int 1)) (.call 108 [.var 0, .con (.int 99)]), .bin .add (.con (.int 1)) (.call 108 [.var 0, .bin .pow (.con (.int 10)) (.con (.int 11))])])] [],
  .ret (.tup [.bin .add (.con (.int 1)) (.call 108 [.var 0, .con (.int 2)]), .bin .add (.con (.int 1)) (.call 108 [.var 0, .con (.int 4)])])]
def f__law_id : Fn := ⟨1, 1, [], b__law_id⟩
def q__law_piece_0 : E := .comp (.sub (.var 1) (.call 108 [.var 0, .con (.int 94)])) (.one 3) (.bi .range [.var 2]) []
def b__law_piece : List S := [
  .set 1 (.con (.str [32, 33, 34, 35, 36, 38, 39, 40, 41, 42, 43, 44, 45, 46, 47, 48, 49, 50, 51, 52, 53, 54, 55, 56, 57, 58, 59, 60, 61, 62, 63, 64, 65, 66, 67, 68, 69, 70, 71, 72, 73, 74, 75, 76, 77, 78, 79, 80, 81, 82, 83, 84, 85, 86, 87, 88, 89, 90, 91, 92, 93, 94, 95, 96])),
  .set 1 (.bin .add (.var 1) (.con (.str [97, 98, 99, 100, 101, 102, 103, 104, 105, 106, 107, 108, 109, 110, 111, 112, 113, 114, 115, 116, 117, 118, 119, 120, 121, 122, 123, 124, 125, 126]))),
  .set 2 (.sub (.lst [.con (.int 1), .con (.int 1), .con (.int 1), .con (.int 2), .con (.int 3), .con (.int 8)]) (.call 108 [.var 0, .con (.int 6)])),
  .ret (.join (.con (.str [])) q__law_piece_0)]
def f__law_piece : Fn := ⟨1, 4, [], b__law_piece⟩
def b__law_stamp : List S := [
  .set 1 (.call 108 [.var 0, .con (.int 8)]),
  .ite (.cmp .eq (.var 1) (.con (.int 0))) [.ret (.tup [.con (.int 0), .con (.int 0)])] [],
  .ite (.cmp .eq (.var 1) (.con (.int 1))) [.ret (.tup [.bin .add (.con (.int 1)) (.call 108 [.var 0, .bin .pow (.con (.int 10)) (.con (.int 11))]), .bin .add (.con (.int 1)) (.call 108 [.var 0, .con (.int 99)])])] [],
  .ret (.tup [.bin .add (.con (.int 1)) (.call 108 [.var 0, .con (.int 4)]), .bin .add (.con (.int 1)) (.call 108 [.var 0, .con (.int 3)])])]
def f__law_stamp : Fn := ⟨1, 2, [], b__law_stamp⟩
def q__law_members_0 : E := .comp (.var 2) (.one 2) (.bi .range [.con (.int 9)]) [.cmp .eq (.bin .mod (.bin .shr (.var 1) (.var 2)) (.con (.int 2))) (.con (.int 1))]
def b__law_members : List S := [
  .set 1 (.bin .add (.con (.int 1)) (.call 108 [.var 0, .con (.int 511)])),
  .ret (.bi .tuple [q__law_members_0])]
def f__law_members : Fn := ⟨1, 3, [], b__law_members⟩
def q__law_row_0 : E := .comp (.sub (.var 1) (.call 108 [.var 0, .bi .len [.var 1]])) (.one 3) (.bi .range [.var 2]) []
def b__law_row : List S := [
  .set 2 (.sub (.lst [.neg (.con (.int 1)), .con (.int 0), .con (.int 1), .con (.int 1), .con (.int 2), .con (.int 3), .con (.int 5), .con (.int 12)]) (.call 108 [.var 0, .con (.int 8)])),
  .ite (.cmp .lt (.var 2) (.con (.int 0))) [.ret (.con (.non))] [],
  .ret (.bi .tuple [q__law_row_0])]
def f__law_row : Fn := ⟨2, 4, [], b__law_row⟩
def l__law_heads_0 : List S := [.ite (.cmp .gt (.call 108 [.var 0, .con (.int 3)]) (.con (.int 0))) [.oput 3 (.var 4) (.tup [.call 113 [.var 0], .call 115 [.var 0, .var 2]])] []]
def q__law_heads_1 : E := .comp (.bin .add (.tup [.var 4]) (.sub (.bor 3) (.var 4))) (.one 4) (.bi .sorted [.bor 3]) []
def b__law_heads : List S := [
  .own 3 (.dct false []),
  .for (.one 4) (.var 1) l__law_heads_0,
  .ret (.bi .tuple [q__law_heads_1])]
def f__law_heads : Fn := ⟨3, 5, [3], b__law_heads⟩
def l__law_blocks_0 : List S := [.ite (.cmp .gt (.call 108 [.var 0, .con (.int 3)]) (.con (.int 0))) [.oput 2 (.var 3) (.call 112 [.var 0])] []]
def q__law_blocks_1 : E := .comp (.tup [.var 3, .sub (.bor 2) (.var 3)]) (.one 3) (.bi .sorted [.bor 2]) []
def b__law_blocks : List S := [
  .own 2 (.dct true []),
  .for (.one 3) (.var 1) l__law_blocks_0,
  .ret (.bi .tuple [q__law_blocks_1])]
def f__law_blocks : Fn := ⟨2, 4, [2], b__law_blocks⟩
def l__law_leases_0 : List S := [.set 5 (.tup [.sub (.var 1) (.call 108 [.var 0, .bi .len [.var 1]]), .bin .add (.con (.int 1)) (.call 108 [.var 0, .con (.int 3)])]), .oput 3 (.var 5) (.tup [.call 108 [.var 0, .con (.int 5)], .bi .max [.con (.int 0), .bin .sub (.bin .add (.var 2) (.call 108 [.var 0, .con (.int 11)])) (.con (.int 2))]])]
def q__law_leases_1 : E := .comp (.bin .add (.var 5) (.sub (.bor 3) (.var 5))) (.one 5) (.bi .sorted [.bor 3]) []
def b__law_leases : List S := [
  .own 3 (.dct true []),
  .for (.one 4) (.bi .range [.sub (.lst [.con (.int 0), .con (.int 0), .con (.int 1), .con (.int 2), .con (.int 4)]) (.call 108 [.var 0, .con (.int 5)])]) l__law_leases_0,
  .ret (.bi .tuple [q__law_leases_1])]
def f__law_leases : Fn := ⟨3, 6, [3], b__law_leases⟩
def b__law_table : List S := [
  .set 3 (.sub (.lst [.con (.int 0), .con (.int 1), .con (.int 2), .con (.int 7), .bin .pow (.con (.int 10)) (.con (.int 11))]) (.call 108 [.var 0, .con (.int 5)])),
  .set 4 (.sub (.lst [.con (.int 0), .con (.int 1), .con (.int 6), .con (.int 20), .bin .pow (.con (.int 10)) (.con (.int 11))]) (.call 108 [.var 0, .con (.int 5)])),
  .set 5 (.call 114 [.var 0]),
  .set 6 (.tup []),
  .ite (.cmp .eq (.call 108 [.var 0, .con (.int 2)]) (.con (.int 1))) [.set 6 (.call 114 [.var 0])] [],
  .set 7 (.call 118 [.var 0, .var 1, .var 4]),
  .set 8 (.tup [.con (.int 0), .con (.int 0)]),
  .set 9 (.con (.non)),
  .ite (.cmp .eq (.call 108 [.var 0, .con (.int 2)]) (.con (.int 1))) [.set 8 (.call 113 [.var 0]), .set 9 (.tup [.call 113 [.var 0], .call 114 [.var 0]])] [],
  .set 10 (.call 116 [.var 0, .var 1, .var 2]),
  .ret (.tup [.var 3, .var 5, .var 6, .var 4, .var 10, .call 117 [.var 0, .var 2], .var 7, .var 8, .var 9, .con (.non)])]
def f__law_table : Fn := ⟨3, 11, [], b__law_table⟩
def b__law_rest : List S := [
  .ite (.cmp .eq (.var 1) (.con (.str [97, 115, 107]))) [.ret (.tup [.sub (.var 2) (.call 108 [.var 0, .bi .len [.var 2]])])] [],
  .ite (.cmp .eq (.var 1) (.con (.str [108, 105, 115, 116]))) [.ret (.tup [])] [],
  .ret (.tup [.sub (.var 3) (.call 108 [.var 0, .bi .len [.var 3]])])]
def f__law_rest : Fn := ⟨4, 4, [], b__law_rest⟩
def l__law_told_0 : List S := [.ite (.cmp .eq (.var 6) (.sub (.var 2) (.con (.int 0)))) [.ret (.tup [.con (.str [116, 111, 108, 100]), .tup [.var 3, .var 6, .var 7, .var 8]])] []]
def q__law_told_1 : E := .comp (.var 6) (.tup [6, 7, 8]) (.sub (.var 0) (.con (.int 4))) [.cmp .isnt (.var 8) (.con (.non))]
def l__law_told_2 : List S := [.ite (.cmp .eq (.var 4) (.sub (.var 2) (.con (.int 0)))) [.ret (.tup [.con (.str [98, 108, 111, 99, 107]), .tup [.var 3, .var 4, .var 5]])] []]
def b__law_told : List S := [
  .set 3 (.sub (.var 0) (.con (.int 0))),
  .ite (.cmp .eq (.var 1) (.con (.str [97, 115, 107]))) [.for (.tup [6, 7, 8]) (.sub (.var 0) (.con (.int 4))) l__law_told_0, .ret (.tup [.con (.str [116, 111, 108, 100]), .tup [.var 3, .sub (.var 2) (.con (.int 0)), .tup [.con (.int 0), .con (.int 0)], .con (.non)]])] [],
  .ite (.cmp .eq (.var 1) (.con (.str [108, 105, 115, 116]))) [.ret (.tup [.con (.str [110, 97, 109, 101, 115]), .tup [.var 3, .bi .tuple [q__law_told_1]]])] [],
  .for (.tup [4, 5]) (.sub (.var 0) (.con (.int 5))) l__law_told_2,
  .ret (.tup [.con (.str [110, 111, 110, 101]), .tup [.var 3, .sub (.var 2) (.con (.int 0))]])]
def f__law_told : Fn := ⟨3, 9, [], b__law_told⟩
def q__law_one_0 : E := .comp (.call 110 [.var 0]) (.one 13) (.bi .range [.sub (.lst [.con (.int 4), .con (.int 4), .con (.int 4), .con (.int 4), .con (.int 4), .con (.int 4), .con (.int 4), .con (.int 44)]) (.call 108 [.var 0, .con (.int 8)])]) []
def q__law_one_1 : E := .comp (.call 111 [.var 0]) (.one 13) (.bi .range [.con (.int 7)]) []
def b__law_one : List S := [
  .set 1 (.sub (.lst [.con (.str [97, 115, 107]), .con (.str [108, 105, 115, 116]), .con (.str [103, 101, 116])]) (.call 108 [.var 0, .con (.int 3)])),
  .set 2 (.call 108 [.var 0, .con (.int 9)]),
  .set 3 (.bin .add (.con (.int 1)) (.call 108 [.var 0, .sub (.lst [.con (.int 3), .con (.int 99)]) (.call 108 [.var 0, .con (.int 2)])])),
  .set 4 (.call 108 [.var 0, .sub (.lst [.con (.int 4), .bin .pow (.con (.int 10)) (.con (.int 11))]) (.call 108 [.var 0, .con (.int 2)])]),
  .set 5 q__law_one_0,
  .set 6 q__law_one_1,
  .set 7 (.call 120 [.var 0, .var 1, .var 5, .var 6]),
  .set 8 (.call 119 [.var 0, .var 5, .var 6]),
  .set 9 (.tup [.con (.str [104, 111, 109, 101]), .var 2]),
  .set 10 (.tup [.con (.str [104, 97, 110, 100]), .var 3]),
  .set 11 (.call 121 [.var 8, .var 1, .var 7]),
  .set 12 (.tup [.tup [], .tup [.tup [.var 10, .var 9, .var 4, .sub (.var 11) (.con (.int 0)), .sub (.var 11) (.con (.int 1))]]]),
  .ret (.call 109 [.call 106 [.var 2, .var 8, .tup [.var 9, .var 10, .var 4, .var 1, .bin .add (.tup [.sub (.var 8) (.con (.int 0))]) (.var 7)]], .var 12])]
def f__law_one : Fn := ⟨1, 14, [], b__law_one⟩
def l_law_0 : List S := [.ite (.not (.call 122 [.call 107 [.var 2, .var 1]])) [.ret (.con (.bl false))] []]
def b_law : List S := [
  .for (.tup [1, 2]) (.bi .enum [.bin .add (.bi .list [.var 0]) (.lst [.con (.int 5), .con (.int 17), .con (.int 90)])]) l_law_0,
  .ret (.con (.bl true))]
def f_law : Fn := ⟨1, 3, [], b_law⟩
def Γ : List Fn := [f_is_integer, f_is_between, f_is_count, f_is_tuple_of, f_is_pair_of_numbers, f_are_ascending, f_is_home, f_is_hand, f_is_name, f_are_signs, f_is_piece, f_is_id, f_is_row, f_is_stamp, f_is_members, f_ids_of, f_are_heads, f_is_named_head, f_are_blocks, f_are_leases, f_is_held, f_is_vote, f_is_ahead, f_is_kept_tables, f_is_table, f_check_table, f_is_install, f_is_put, f_is_promise, f_is_seal, f_is_nothing, f_is_mend, f_raw_head, f_ids_led, f_raw_led, f_is_in_force, f_is_elder, f_are_ids, f_are_names, f_is_voted, f_are_counts, f_is_place_count, f_is_only_name, f_is_only_id, f_is_kept, f_is_lacks, f_is_names, f_is_promised, f_is_carried, f_is_place, f_is_sums, f_is_values, f_is_roots, f_is_machine, f_is_word, f_is_letter, f_inverse, f_trimmed, f_at_place, f_monic, f_parted, f_common, f_with_pivot, f_solved, f_raw_values, f_powers, f_equation, f_reduced, f_raw_roots, f_fit, f_raw_difference, f_raw_number_of, f_places_of, f_numbers_of, f_keeps, f_written, f_to_sums, f_to_values, f_wanted, f_led_by, f_to_roots, f_is_free, f_taken, f_mend_deeds, f_told_between, f_answer_between, f_piece_of, f_is_leased, f_lacking, f_only, f_done, f_to_install, f_to_later, f_to_sealed, f_to_ask, f_to_list, f_to_get, f_to_put, f_to_head, f_to_lease, f_to_free, f_to_prepare, f_to_accept, f_to_seal, f_told_to_hand, f_raw_answer, f_answer, f__law_hat, f__law_draw, f__law_same, f__law_name, f__law_id, f__law_piece, f__law_stamp, f__law_members, f__law_row, f__law_heads, f__law_blocks, f__law_leases, f__law_table, f__law_rest, f__law_told, f__law_one, f_law]
def subT : List (List Bool) := [[true, false, false, false], [true, true, false, false], [true, false, true, false], [true, false, false, true]]
def sub (i j : Nat) : Bool := (subT.getD i []).getD j false
end K10
set_option Elab.async false
set_option linter.all false
set_option autoImplicit false
set_option maxRecDepth 1000000
set_option maxHeartbeats 4000000
namespace K10
open Ev
theorem mod_lt {i m : Int} (h : 0 < m) : 0 ≤ i % m ∧ i % m < m := ⟨Int.emod_nonneg _ (by omega), Int.emod_lt_of_pos _ h⟩
section
variable {x0 x1 x2 x3 v : D}
theorem w_sub0 : subD (.lst [x0, x1, x2, x3]) (.int 0) = some x0 := of_eq_true (eq_self _)
theorem w_sub1 : subD (.lst [x0, x1, x2, x3]) (.int 1) = some x1 := of_eq_true (eq_self _)
theorem w_sub2 : subD (.lst [x0, x1, x2, x3]) (.int 2) = some x2 := of_eq_true (eq_self _)
theorem w_sub3 : subD (.lst [x0, x1, x2, x3]) (.int 3) = some x3 := of_eq_true (eq_self _)
theorem w_put1 : muM .put (.obj 0) [.int 1, v] [.val (.lst [x0, x1, x2, x3])] = some (.non, [.val (.lst [x0, v, x2, x3])]) := of_eq_true (eq_self _)
theorem w_put2 : muM .put (.obj 0) [.int 2, v] [.val (.lst [x0, x1, x2, x3])] = some (.non, [.val (.lst [x0, x1, v, x3])]) := of_eq_true (eq_self _)
theorem w_put3 : muM .put (.obj 0) [.int 3, v] [.val (.lst [x0, x1, x2, x3])] = some (.non, [.val (.lst [x0, x1, x2, v])]) := of_eq_true (eq_self _)
end
local macro_rules | `(tactic| delta $xs:ident*) => `(tactic| simp (disch := first | assumption | omega) only [startE, wE_var, wE_bor, wE_con, wE_neg, wE_bin, wE_cmp, wE_chain, wE_and, wE_or, wE_not, wE_ite, wE_join, wE_call, wE_callv, wE_bi, wE_me, wE_mu, wE_tup, wE_lst, wE_dct, wE_sub, wE_slc, wE_comp, wE_alloc, wEs_nil, wEs_cons, wS_set, wS_own, wS_unp, wS_par, wS_aug, wS_ex, wS_omu, wS_osm, wS_ret, wS_retf, wS_reto, wS_retn, wS_ite, wS_for, wS_brk, wS_cnt, wS_pass, wS_raise, wS_try, wS_sto, wS_oput, wSs_nil, wSs_cons, dctOf_nil, true_and, and_true, wO_some, wB_t, wB_f, wp_ok, seqK_nx, seqK_rt, seqK_bk, seqK_ct, outK_nx, outK_rt, outX_, Ev.get, Ev.put, map1, map2, map3, List.length_cons, List.length_nil, List.replicate, List.cons_append, List.nil_append, List.getElem?_cons_zero, List.getElem?_cons_succ, List.set_cons_zero, List.set_cons_succ, Option.bind_some, id, Option.map_some, nrm_int, nrm_bl, nrm_non, nrm_str, nrm_lst, nrm_tup, nrm_scr, nrm_ty, nrm_dct, nrm_kd, nrm_itr, nrm_fn, nrm_obj0, bin_mul_int, bin_add_int, bin_sub_int, bin_mod_int, bin_fdiv_int, bi_int_int, Nat.sub_self, w_sub0, w_sub1, w_sub2, w_sub3, w_put1, w_put2, w_put3, cmp_eq_int, cmp_ne_int, cmp_lt_int, cmp_gt_int, cmp_le_int, cmp_ge_int, bi_len_str, bi_len_tup, bi_len_lst, bi_tuple_lst, bi_list_lst, bi_max_int, itw_lst, itw_tup, itw_itr, itw_str, putT_one, putT_tup, puts_cons, puts_nil, seq_tup, seq_lst, mua_append, mua_popK, mua_upd, fit_append, fit_popK, box_lst, box_dct, dct_dct, bi_rangeW, bi_range2W, ite_tt, ite_ff, ite_tf, ite_ft, dec_lt_t, dec_lt_f, beq_t, beq_f, Bool.not_true, Bool.not_false, Bool.true_and, Bool.and_true, wlk_len, wlk_isinst, wlk_tuple, wlk_list, wlk_all, wlk_any, wlk_sorted, wlk_sum, wlk_max, wlk_min, wlk_abs, wlk_int, wlk_str, wlk_range, Bool.false_eq_true, if_false, if_true, isNon, bnd, is_non_int, is_non_bool, is_non_str, is_non_tuple, is_non_list, is_non_dict, is_bl_int, is_bl_bool, is_bl_str, is_bl_tuple, is_bl_list, is_bl_dict, is_int_int, is_int_bool, is_int_str, is_int_tuple, is_int_list, is_int_dict, is_str_int, is_str_bool, is_str_str, is_str_tuple, is_str_list, is_str_dict, is_tup_int, is_tup_bool, is_tup_str, is_tup_tuple, is_tup_list, is_tup_dict, is_lst_int, is_lst_bool, is_lst_str, is_lst_tuple, is_lst_list, is_lst_dict, wE_dcomp, mu_extend_arg, fit_extend, List.map_cons, List.map_nil, beqS_cc, beqS_nn, beqS_cn, beqS_nc, Nat.reduceBEq, Bool.false_and, Bool.and_false, eqS, neS, wO_fn, is_nn', is_tn', isnt_nn', isnt_tn', is_sn', isnt_sn', is_in', isnt_in', bi_zip_tup, bi_enum_lst, bi_list_scr, bi_list_tup, bi_tuple_tup, tadd1 len1, tadd1 len2, tadd1 len3, tadd1 len4, tadd1 len5, tadd2 len1, tadd2 len2, tadd2 len3, tadd3 len1, tadd3 len2, tadd3 len3, Ev.puts_cons, Ev.puts_nil, sl_1, tt_0, tt1_0, tt2_0, tt2_1, tt3_0, tt3_1, tt3_2, tt4_0, tt4_1, tt4_2, tt4_3, tt5_0, tt5_1, tt5_2, tt5_3, tt5_4, tt6_0, tt6_1, tt6_2, tt6_3, tt6_4, tt6_5, tt10_0, tt10_1, tt10_2, tt10_3, tt10_4, tt10_5, tt10_6, tt10_7, tt10_8, tt10_9, sl2_1, sh2_1, sl3_1, sh3_1, sl3_2, sh3_2, sl4_1, sh4_1, sl4_2, sh4_2, sl4_3, sh4_3, sl5_1, sh5_1, sl5_2, sh5_2, sl5_3, sh5_3, sl5_4, sh5_4, sl6_1, sh6_1, sl6_2, sh6_2, sl6_3, sh6_3, sl6_4, sh6_4, sl6_5, sh6_5, sl10_1, sh10_1, sl10_2, sh10_2, sl10_3, sh10_3, sl10_4, sh10_4, sl10_5, sh10_5, sl10_6, sh10_6, sl10_7, sh10_7, sl10_8, sh10_8, sl10_9, sh10_9, $[$xs:ident],*])
section
variable {N : Nat} {M : Sto}
theorem is_integer_ok {i : Int} (h : 1 ≤ N) : Ev.run sub Γ N 0 [.int i] M = .ok (.bl true, M) := by
  (obtain ⟨n, rfl⟩ : ∃ n, N = n + 1 := ⟨N - 1, by omega⟩; rw [call_of (F := f_is_integer) rfl rfl]; simp (disch := first | assumption | omega) only [f_is_integer, b_is_integer, startE, ev_var, ev_bor, ev_con, ev_neg, ev_bin, ev_cmp, ev_chain, ev_and, ev_or, ev_not, ev_ite, ev_join, ev_call, ev_callv, ev_bi, ev_tup, ev_lst, ev_sub, ev_slc, ev_me, ev_dct, ev_alloc, evs_nil, evs_cons, es_set, es_own, es_unp, es_ex, es_ret, es_retf, es_reto, es_retn, es_ite, es_whl, es_for, es_brk, es_cnt, es_pass, es_raise, es_try, es_sto, es_oput, es_omu, ess_nil, ess_cons, Ev.get, Ev.put, map1, map2, map3, List.length_cons, List.length_nil, List.replicate, List.cons_append, List.nil_append, List.getElem?_cons_zero, List.getElem?_cons_succ, List.set_cons_zero, List.set_cons_succ, Option.bind_some, id, Option.map_some, r_bind_ok, r_of_some, r_toS_ok, rs_nx, rs_rt, rs_exc, r_bind_exc, r_toS_exc, out_rt, out_nx, out_exc, nrm_int, nrm_bl, nrm_non, nrm_str, nrm_lst, nrm_tup, nrm_scr, nrm_ty, nrm_dct, nrm_kd, nrm_itr, nrm_fn, nrm_obj0, bin_mul_int, bin_add_int, bin_sub_int, bin_mod_int, bin_fdiv_int, bi_int_int, Nat.sub_self, w_sub0, w_sub1, w_sub2, w_sub3, w_put1, w_put2, w_put3, cmp_eq_int, cmp_ne_int, cmp_lt_int, cmp_gt_int, cmp_le_int, cmp_ge_int, bi_len_str, bi_len_tup, bi_len_lst, bi_tuple_lst, bi_list_lst, bi_max_int, itw_lst, itw_tup, itw_itr, itw_str, putT_one, putT_tup, puts_cons, puts_nil, seq_tup, seq_lst, mua_append, mua_popK, mua_upd, fit_append, fit_popK, box_lst, box_dct, dct_dct, bi_rangeW, bi_range2W, ite_tt, ite_ff, ite_tf, ite_ft, dec_lt_t, dec_lt_f, beq_t, beq_f, Bool.not_true, Bool.not_false, Bool.true_and, Bool.and_true, wlk_len, wlk_isinst, wlk_tuple, wlk_list, wlk_all, wlk_any, wlk_sorted, wlk_sum, wlk_max, wlk_min, wlk_abs, wlk_int, wlk_str, wlk_range, Bool.false_eq_true, if_false, if_true, isNon, bnd, is_non_int, is_non_bool, is_non_str, is_non_tuple, is_non_list, is_non_dict, is_bl_int, is_bl_bool, is_bl_str, is_bl_tuple, is_bl_list, is_bl_dict, is_int_int, is_int_bool, is_int_str, is_int_tuple, is_int_list, is_int_dict, is_str_int, is_str_bool, is_str_str, is_str_tuple, is_str_list, is_str_dict, is_tup_int, is_tup_bool, is_tup_str, is_tup_tuple, is_tup_list, is_tup_dict, is_lst_int, is_lst_bool, is_lst_str, is_lst_tuple, is_lst_list, is_lst_dict])
theorem is_between_ok {i a b : Int} (h : 2 ≤ N) (h1 : a ≤ i) (h2 : i ≤ b) : Ev.run sub Γ N 1 [.int i, .int a, .int b] M = .ok (.bl true, M) := by
  (obtain ⟨n, rfl⟩ : ∃ n, N = n + 1 := ⟨N - 1, by omega⟩; rw [call_of (F := f_is_between) rfl rfl]; simp (disch := first | assumption | omega) only [f_is_between, b_is_between, startE, ev_var, ev_bor, ev_con, ev_neg, ev_bin, ev_cmp, ev_chain, ev_and, ev_or, ev_not, ev_ite, ev_join, ev_call, ev_callv, ev_bi, ev_tup, ev_lst, ev_sub, ev_slc, ev_me, ev_dct, ev_alloc, evs_nil, evs_cons, es_set, es_own, es_unp, es_ex, es_ret, es_retf, es_reto, es_retn, es_ite, es_whl, es_for, es_brk, es_cnt, es_pass, es_raise, es_try, es_sto, es_oput, es_omu, ess_nil, ess_cons, Ev.get, Ev.put, map1, map2, map3, List.length_cons, List.length_nil, List.replicate, List.cons_append, List.nil_append, List.getElem?_cons_zero, List.getElem?_cons_succ, List.set_cons_zero, List.set_cons_succ, Option.bind_some, id, Option.map_some, r_bind_ok, r_of_some, r_toS_ok, rs_nx, rs_rt, rs_exc, r_bind_exc, r_toS_exc, out_rt, out_nx, out_exc, nrm_int, nrm_bl, nrm_non, nrm_str, nrm_lst, nrm_tup, nrm_scr, nrm_ty, nrm_dct, nrm_kd, nrm_itr, nrm_fn, nrm_obj0, bin_mul_int, bin_add_int, bin_sub_int, bin_mod_int, bin_fdiv_int, bi_int_int, Nat.sub_self, w_sub0, w_sub1, w_sub2, w_sub3, w_put1, w_put2, w_put3, cmp_eq_int, cmp_ne_int, cmp_lt_int, cmp_gt_int, cmp_le_int, cmp_ge_int, bi_len_str, bi_len_tup, bi_len_lst, bi_tuple_lst, bi_list_lst, bi_max_int, itw_lst, itw_tup, itw_itr, itw_str, putT_one, putT_tup, puts_cons, puts_nil, seq_tup, seq_lst, mua_append, mua_popK, mua_upd, fit_append, fit_popK, box_lst, box_dct, dct_dct, bi_rangeW, bi_range2W, ite_tt, ite_ff, ite_tf, ite_ft, dec_lt_t, dec_lt_f, beq_t, beq_f, Bool.not_true, Bool.not_false, Bool.true_and, Bool.and_true, wlk_len, wlk_isinst, wlk_tuple, wlk_list, wlk_all, wlk_any, wlk_sorted, wlk_sum, wlk_max, wlk_min, wlk_abs, wlk_int, wlk_str, wlk_range, Bool.false_eq_true, if_false, if_true, isNon, bnd, is_non_int, is_non_bool, is_non_str, is_non_tuple, is_non_list, is_non_dict, is_bl_int, is_bl_bool, is_bl_str, is_bl_tuple, is_bl_list, is_bl_dict, is_int_int, is_int_bool, is_int_str, is_int_tuple, is_int_list, is_int_dict, is_str_int, is_str_bool, is_str_str, is_str_tuple, is_str_list, is_str_dict, is_tup_int, is_tup_bool, is_tup_str, is_tup_tuple, is_tup_list, is_tup_dict, is_lst_int, is_lst_bool, is_lst_str, is_lst_tuple, is_lst_list, is_lst_dict, is_integer_ok])
theorem is_count_ok {i : Int} (h : 2 ≤ N) (h1 : 0 ≤ i) : Ev.run sub Γ N 2 [.int i] M = .ok (.bl true, M) := by
  (obtain ⟨n, rfl⟩ : ∃ n, N = n + 1 := ⟨N - 1, by omega⟩; rw [call_of (F := f_is_count) rfl rfl]; simp (disch := first | assumption | omega) only [f_is_count, b_is_count, startE, ev_var, ev_bor, ev_con, ev_neg, ev_bin, ev_cmp, ev_chain, ev_and, ev_or, ev_not, ev_ite, ev_join, ev_call, ev_callv, ev_bi, ev_tup, ev_lst, ev_sub, ev_slc, ev_me, ev_dct, ev_alloc, evs_nil, evs_cons, es_set, es_own, es_unp, es_ex, es_ret, es_retf, es_reto, es_retn, es_ite, es_whl, es_for, es_brk, es_cnt, es_pass, es_raise, es_try, es_sto, es_oput, es_omu, ess_nil, ess_cons, Ev.get, Ev.put, map1, map2, map3, List.length_cons, List.length_nil, List.replicate, List.cons_append, List.nil_append, List.getElem?_cons_zero, List.getElem?_cons_succ, List.set_cons_zero, List.set_cons_succ, Option.bind_some, id, Option.map_some, r_bind_ok, r_of_some, r_toS_ok, rs_nx, rs_rt, rs_exc, r_bind_exc, r_toS_exc, out_rt, out_nx, out_exc, nrm_int, nrm_bl, nrm_non, nrm_str, nrm_lst, nrm_tup, nrm_scr, nrm_ty, nrm_dct, nrm_kd, nrm_itr, nrm_fn, nrm_obj0, bin_mul_int, bin_add_int, bin_sub_int, bin_mod_int, bin_fdiv_int, bi_int_int, Nat.sub_self, w_sub0, w_sub1, w_sub2, w_sub3, w_put1, w_put2, w_put3, cmp_eq_int, cmp_ne_int, cmp_lt_int, cmp_gt_int, cmp_le_int, cmp_ge_int, bi_len_str, bi_len_tup, bi_len_lst, bi_tuple_lst, bi_list_lst, bi_max_int, itw_lst, itw_tup, itw_itr, itw_str, putT_one, putT_tup, puts_cons, puts_nil, seq_tup, seq_lst, mua_append, mua_popK, mua_upd, fit_append, fit_popK, box_lst, box_dct, dct_dct, bi_rangeW, bi_range2W, ite_tt, ite_ff, ite_tf, ite_ft, dec_lt_t, dec_lt_f, beq_t, beq_f, Bool.not_true, Bool.not_false, Bool.true_and, Bool.and_true, wlk_len, wlk_isinst, wlk_tuple, wlk_list, wlk_all, wlk_any, wlk_sorted, wlk_sum, wlk_max, wlk_min, wlk_abs, wlk_int, wlk_str, wlk_range, Bool.false_eq_true, if_false, if_true, isNon, bnd, is_non_int, is_non_bool, is_non_str, is_non_tuple, is_non_list, is_non_dict, is_bl_int, is_bl_bool, is_bl_str, is_bl_tuple, is_bl_list, is_bl_dict, is_int_int, is_int_bool, is_int_str, is_int_tuple, is_int_list, is_int_dict, is_str_int, is_str_bool, is_str_str, is_str_tuple, is_str_list, is_str_dict, is_tup_int, is_tup_bool, is_tup_str, is_tup_tuple, is_tup_list, is_tup_dict, is_lst_int, is_lst_bool, is_lst_str, is_lst_tuple, is_lst_list, is_lst_dict, is_integer_ok])
theorem is_tuple_of_ok {xs : List D} {k : Int} (h : 1 ≤ N) (h1 : (xs.length : Int) = k) : Ev.run sub Γ N 3 [.tup xs, .int k] M = .ok (.bl true, M) := by
  (obtain ⟨n, rfl⟩ : ∃ n, N = n + 1 := ⟨N - 1, by omega⟩; rw [call_of (F := f_is_tuple_of) rfl rfl]; simp (disch := first | assumption | omega) only [f_is_tuple_of, b_is_tuple_of, startE, ev_var, ev_bor, ev_con, ev_neg, ev_bin, ev_cmp, ev_chain, ev_and, ev_or, ev_not, ev_ite, ev_join, ev_call, ev_callv, ev_bi, ev_tup, ev_lst, ev_sub, ev_slc, ev_me, ev_dct, ev_alloc, evs_nil, evs_cons, es_set, es_own, es_unp, es_ex, es_ret, es_retf, es_reto, es_retn, es_ite, es_whl, es_for, es_brk, es_cnt, es_pass, es_raise, es_try, es_sto, es_oput, es_omu, ess_nil, ess_cons, Ev.get, Ev.put, map1, map2, map3, List.length_cons, List.length_nil, List.replicate, List.cons_append, List.nil_append, List.getElem?_cons_zero, List.getElem?_cons_succ, List.set_cons_zero, List.set_cons_succ, Option.bind_some, id, Option.map_some, r_bind_ok, r_of_some, r_toS_ok, rs_nx, rs_rt, rs_exc, r_bind_exc, r_toS_exc, out_rt, out_nx, out_exc, nrm_int, nrm_bl, nrm_non, nrm_str, nrm_lst, nrm_tup, nrm_scr, nrm_ty, nrm_dct, nrm_kd, nrm_itr, nrm_fn, nrm_obj0, bin_mul_int, bin_add_int, bin_sub_int, bin_mod_int, bin_fdiv_int, bi_int_int, Nat.sub_self, w_sub0, w_sub1, w_sub2, w_sub3, w_put1, w_put2, w_put3, cmp_eq_int, cmp_ne_int, cmp_lt_int, cmp_gt_int, cmp_le_int, cmp_ge_int, bi_len_str, bi_len_tup, bi_len_lst, bi_tuple_lst, bi_list_lst, bi_max_int, itw_lst, itw_tup, itw_itr, itw_str, putT_one, putT_tup, puts_cons, puts_nil, seq_tup, seq_lst, mua_append, mua_popK, mua_upd, fit_append, fit_popK, box_lst, box_dct, dct_dct, bi_rangeW, bi_range2W, ite_tt, ite_ff, ite_tf, ite_ft, dec_lt_t, dec_lt_f, beq_t, beq_f, Bool.not_true, Bool.not_false, Bool.true_and, Bool.and_true, wlk_len, wlk_isinst, wlk_tuple, wlk_list, wlk_all, wlk_any, wlk_sorted, wlk_sum, wlk_max, wlk_min, wlk_abs, wlk_int, wlk_str, wlk_range, Bool.false_eq_true, if_false, if_true, isNon, bnd, is_non_int, is_non_bool, is_non_str, is_non_tuple, is_non_list, is_non_dict, is_bl_int, is_bl_bool, is_bl_str, is_bl_tuple, is_bl_list, is_bl_dict, is_int_int, is_int_bool, is_int_str, is_int_tuple, is_int_list, is_int_dict, is_str_int, is_str_bool, is_str_str, is_str_tuple, is_str_list, is_str_dict, is_tup_int, is_tup_bool, is_tup_str, is_tup_tuple, is_tup_list, is_tup_dict, is_lst_int, is_lst_bool, is_lst_str, is_lst_tuple, is_lst_list, is_lst_dict])
theorem sub2_0 {a b : D} : subD (.tup [a, b]) (.int 0) = some a := of_eq_true (eq_self _)
theorem sub2_1 {a b : D} : subD (.tup [a, b]) (.int 1) = some b := of_eq_true (eq_self _)
theorem is_pair_ok {a b : Int} (h : 3 ≤ N) (h1 : 0 ≤ a) (h2 : 0 ≤ b) : Ev.run sub Γ N 4 [.tup [.int a, .int b]] M = .ok (.bl true, M) := by
  have e : ([D.int a, D.int b].length : Int) = 2 := rfl
  (obtain ⟨n, rfl⟩ : ∃ n, N = n + 1 := ⟨N - 1, by omega⟩; rw [call_of (F := f_is_pair_of_numbers) rfl rfl]; simp (disch := first | assumption | omega) only [f_is_pair_of_numbers, b_is_pair_of_numbers, startE, ev_var, ev_bor, ev_con, ev_neg, ev_bin, ev_cmp, ev_chain, ev_and, ev_or, ev_not, ev_ite, ev_join, ev_call, ev_callv, ev_bi, ev_tup, ev_lst, ev_sub, ev_slc, ev_me, ev_dct, ev_alloc, evs_nil, evs_cons, es_set, es_own, es_unp, es_ex, es_ret, es_retf, es_reto, es_retn, es_ite, es_whl, es_for, es_brk, es_cnt, es_pass, es_raise, es_try, es_sto, es_oput, es_omu, ess_nil, ess_cons, Ev.get, Ev.put, map1, map2, map3, List.length_cons, List.length_nil, List.replicate, List.cons_append, List.nil_append, List.getElem?_cons_zero, List.getElem?_cons_succ, List.set_cons_zero, List.set_cons_succ, Option.bind_some, id, Option.map_some, r_bind_ok, r_of_some, r_toS_ok, rs_nx, rs_rt, rs_exc, r_bind_exc, r_toS_exc, out_rt, out_nx, out_exc, nrm_int, nrm_bl, nrm_non, nrm_str, nrm_lst, nrm_tup, nrm_scr, nrm_ty, nrm_dct, nrm_kd, nrm_itr, nrm_fn, nrm_obj0, bin_mul_int, bin_add_int, bin_sub_int, bin_mod_int, bin_fdiv_int, bi_int_int, Nat.sub_self, w_sub0, w_sub1, w_sub2, w_sub3, w_put1, w_put2, w_put3, cmp_eq_int, cmp_ne_int, cmp_lt_int, cmp_gt_int, cmp_le_int, cmp_ge_int, bi_len_str, bi_len_tup, bi_len_lst, bi_tuple_lst, bi_list_lst, bi_max_int, itw_lst, itw_tup, itw_itr, itw_str, putT_one, putT_tup, puts_cons, puts_nil, seq_tup, seq_lst, mua_append, mua_popK, mua_upd, fit_append, fit_popK, box_lst, box_dct, dct_dct, bi_rangeW, bi_range2W, ite_tt, ite_ff, ite_tf, ite_ft, dec_lt_t, dec_lt_f, beq_t, beq_f, Bool.not_true, Bool.not_false, Bool.true_and, Bool.and_true, wlk_len, wlk_isinst, wlk_tuple, wlk_list, wlk_all, wlk_any, wlk_sorted, wlk_sum, wlk_max, wlk_min, wlk_abs, wlk_int, wlk_str, wlk_range, Bool.false_eq_true, if_false, if_true, isNon, bnd, is_non_int, is_non_bool, is_non_str, is_non_tuple, is_non_list, is_non_dict, is_bl_int, is_bl_bool, is_bl_str, is_bl_tuple, is_bl_list, is_bl_dict, is_int_int, is_int_bool, is_int_str, is_int_tuple, is_int_list, is_int_dict, is_str_int, is_str_bool, is_str_str, is_str_tuple, is_str_list, is_str_dict, is_tup_int, is_tup_bool, is_tup_str, is_tup_tuple, is_tup_list, is_tup_dict, is_lst_int, is_lst_bool, is_lst_str, is_lst_tuple, is_lst_list, is_lst_dict, is_tuple_of_ok, is_count_ok, sub2_0, sub2_1])
theorem are_ascending_ok {ds : List D} (h : 1 ≤ N) (ha : Asc ds) (hc : ∀ a ∈ ds, ∀ b ∈ ds, ltOk a b = true) (hl : ds.length ≤ 100000) : Ev.run sub Γ N 5 [.lst ds] M = .ok (.bl true, M) := by
  obtain ⟨n, rfl⟩ : ∃ n, N = n + 1 := ⟨N - 1, by omega⟩
  rw [call_of (F := f_are_ascending) rfl rfl]
  have hr : evE (Ev.run sub Γ n) (.bi .range [.bin .sub (.bi .len [.var 0]) (.con (.int 1))]) [some (.lst ds), none] M = .ok (.itr (intsFrom 0 1 ((ds.length : Int) - 1).toNat), M) := range_ev (by simp only [startE, ev_var, ev_bor, ev_con, ev_neg, ev_bin, ev_cmp, ev_chain, ev_and, ev_or, ev_not, ev_ite, ev_join, ev_call, ev_callv, ev_bi, ev_tup, ev_lst, ev_sub, ev_slc, ev_me, ev_dct, ev_alloc, evs_nil, evs_cons, es_set, es_own, es_unp, es_ex, es_ret, es_retf, es_reto, es_retn, es_ite, es_whl, es_for, es_brk, es_cnt, es_pass, es_raise, es_try, es_sto, es_oput, es_omu, ess_nil, ess_cons, Ev.get, Ev.put, map1, map2, map3, List.length_cons, List.length_nil, List.replicate, List.cons_append, List.nil_append, List.getElem?_cons_zero, List.getElem?_cons_succ, List.set_cons_zero, List.set_cons_succ, Option.bind_some, id, Option.map_some, r_bind_ok, r_of_some, r_toS_ok, rs_nx, rs_rt, rs_exc, r_bind_exc, r_toS_exc, out_rt, out_nx, out_exc, nrm_int, nrm_bl, nrm_non, nrm_str, nrm_lst, nrm_tup, nrm_scr, nrm_ty, nrm_dct, nrm_kd, nrm_itr, nrm_fn, nrm_obj0, bin_mul_int, bin_add_int, bin_sub_int, bin_mod_int, bin_fdiv_int, bi_int_int, Nat.sub_self, w_sub0, w_sub1, w_sub2, w_sub3, w_put1, w_put2, w_put3, cmp_eq_int, cmp_ne_int, cmp_lt_int, cmp_gt_int, cmp_le_int, cmp_ge_int, bi_len_str, bi_len_tup, bi_len_lst, bi_tuple_lst, bi_list_lst, bi_max_int, itw_lst, itw_tup, itw_itr, itw_str, putT_one, putT_tup, puts_cons, puts_nil, seq_tup, seq_lst, mua_append, mua_popK, mua_upd, fit_append, fit_popK, box_lst, box_dct, dct_dct, bi_rangeW, bi_range2W, ite_tt, ite_ff, ite_tf, ite_ft, dec_lt_t, dec_lt_f, beq_t, beq_f, Bool.not_true, Bool.not_false, Bool.true_and, Bool.and_true, wlk_len, wlk_isinst, wlk_tuple, wlk_list, wlk_all, wlk_any, wlk_sorted, wlk_sum, wlk_max, wlk_min, wlk_abs, wlk_int, wlk_str, wlk_range, Bool.false_eq_true, if_false, if_true, isNon, bnd, is_non_int, is_non_bool, is_non_str, is_non_tuple, is_non_list, is_non_dict, is_bl_int, is_bl_bool, is_bl_str, is_bl_tuple, is_bl_list, is_bl_dict, is_int_int, is_int_bool, is_int_str, is_int_tuple, is_int_list, is_int_dict, is_str_int, is_str_bool, is_str_str, is_str_tuple, is_str_list, is_str_dict, is_tup_int, is_tup_bool, is_tup_str, is_tup_tuple, is_tup_list, is_tup_dict, is_lst_int, is_lst_bool, is_lst_str, is_lst_tuple, is_lst_list, is_lst_dict]) (by omega) (by omega)
  obtain ⟨zs, hq, hz⟩ : ∃ zs, evE (Ev.run sub Γ n) q_are_ascending_0 [some (.lst ds), none] M = .ok (.lst zs, M) ∧ biD .all [.lst zs] = some (.bl true) := all_comp2 hr rfl (by rw [ints_len]; exact sz_m (by omega)) fun x hx => by
    obtain ⟨i, hi, rfl⟩ := ints_mem hx
    have i1 : i < ds.length := by omega
    have i2 : i + 1 < ds.length := by omega
    refine ⟨[some (.lst ds), some (.int i)], rfl, ?_⟩
    have s1 : subD (.lst ds) (.int (i : Int)) = some ds[i] := sub_lst i1
    have s2 : subD (.lst ds) (.int ((i : Int) + 1)) = some ds[i + 1] := by
      have := sub_lst (xs := ds) (i := i + 1) i2
      rw [← this]; simp
    have lt := hc _ (List.getElem_mem i1) _ (List.getElem_mem i2)
    obtain ⟨p1, p2, _⟩ := ltOk_plain lt
    have dl : dlt ds[i] ds[i + 1] = true := (List.pairwise_iff_getElem.mp ha) i (i + 1) i1 i2 (by omega)
    simp only [startE, ev_var, ev_bor, ev_con, ev_neg, ev_bin, ev_cmp, ev_chain, ev_and, ev_or, ev_not, ev_ite, ev_join, ev_call, ev_callv, ev_bi, ev_tup, ev_lst, ev_sub, ev_slc, ev_me, ev_dct, ev_alloc, evs_nil, evs_cons, es_set, es_own, es_unp, es_ex, es_ret, es_retf, es_reto, es_retn, es_ite, es_whl, es_for, es_brk, es_cnt, es_pass, es_raise, es_try, es_sto, es_oput, es_omu, ess_nil, ess_cons, Ev.get, Ev.put, map1, map2, map3, List.length_cons, List.length_nil, List.replicate, List.cons_append, List.nil_append, List.getElem?_cons_zero, List.getElem?_cons_succ, List.set_cons_zero, List.set_cons_succ, Option.bind_some, id, Option.map_some, r_bind_ok, r_of_some, r_toS_ok, rs_nx, rs_rt, rs_exc, r_bind_exc, r_toS_exc, out_rt, out_nx, out_exc, nrm_int, nrm_bl, nrm_non, nrm_str, nrm_lst, nrm_tup, nrm_scr, nrm_ty, nrm_dct, nrm_kd, nrm_itr, nrm_fn, nrm_obj0, bin_mul_int, bin_add_int, bin_sub_int, bin_mod_int, bin_fdiv_int, bi_int_int, Nat.sub_self, w_sub0, w_sub1, w_sub2, w_sub3, w_put1, w_put2, w_put3, cmp_eq_int, cmp_ne_int, cmp_lt_int, cmp_gt_int, cmp_le_int, cmp_ge_int, bi_len_str, bi_len_tup, bi_len_lst, bi_tuple_lst, bi_list_lst, bi_max_int, itw_lst, itw_tup, itw_itr, itw_str, putT_one, putT_tup, puts_cons, puts_nil, seq_tup, seq_lst, mua_append, mua_popK, mua_upd, fit_append, fit_popK, box_lst, box_dct, dct_dct, bi_rangeW, bi_range2W, ite_tt, ite_ff, ite_tf, ite_ft, dec_lt_t, dec_lt_f, beq_t, beq_f, Bool.not_true, Bool.not_false, Bool.true_and, Bool.and_true, wlk_len, wlk_isinst, wlk_tuple, wlk_list, wlk_all, wlk_any, wlk_sorted, wlk_sum, wlk_max, wlk_min, wlk_abs, wlk_int, wlk_str, wlk_range, Bool.false_eq_true, if_false, if_true, isNon, bnd, is_non_int, is_non_bool, is_non_str, is_non_tuple, is_non_list, is_non_dict, is_bl_int, is_bl_bool, is_bl_str, is_bl_tuple, is_bl_list, is_bl_dict, is_int_int, is_int_bool, is_int_str, is_int_tuple, is_int_list, is_int_dict, is_str_int, is_str_bool, is_str_str, is_str_tuple, is_str_list, is_str_dict, is_tup_int, is_tup_bool, is_tup_str, is_tup_tuple, is_tup_list, is_tup_dict, is_lst_int, is_lst_bool, is_lst_str, is_lst_tuple, is_lst_list, is_lst_dict, s1, s2, nrm_plain p1, nrm_plain p2, lt_of_ok lt, dl]
  simp only [f_are_ascending, b_are_ascending, startE, ev_var, ev_bor, ev_con, ev_neg, ev_bin, ev_cmp, ev_chain, ev_and, ev_or, ev_not, ev_ite, ev_join, ev_call, ev_callv, ev_bi, ev_tup, ev_lst, ev_sub, ev_slc, ev_me, ev_dct, ev_alloc, evs_nil, evs_cons, es_set, es_own, es_unp, es_ex, es_ret, es_retf, es_reto, es_retn, es_ite, es_whl, es_for, es_brk, es_cnt, es_pass, es_raise, es_try, es_sto, es_oput, es_omu, ess_nil, ess_cons, Ev.get, Ev.put, map1, map2, map3, List.length_cons, List.length_nil, List.replicate, List.cons_append, List.nil_append, List.getElem?_cons_zero, List.getElem?_cons_succ, List.set_cons_zero, List.set_cons_succ, Option.bind_some, id, Option.map_some, r_bind_ok, r_of_some, r_toS_ok, rs_nx, rs_rt, rs_exc, r_bind_exc, r_toS_exc, out_rt, out_nx, out_exc, nrm_int, nrm_bl, nrm_non, nrm_str, nrm_lst, nrm_tup, nrm_scr, nrm_ty, nrm_dct, nrm_kd, nrm_itr, nrm_fn, nrm_obj0, bin_mul_int, bin_add_int, bin_sub_int, bin_mod_int, bin_fdiv_int, bi_int_int, Nat.sub_self, w_sub0, w_sub1, w_sub2, w_sub3, w_put1, w_put2, w_put3, cmp_eq_int, cmp_ne_int, cmp_lt_int, cmp_gt_int, cmp_le_int, cmp_ge_int, bi_len_str, bi_len_tup, bi_len_lst, bi_tuple_lst, bi_list_lst, bi_max_int, itw_lst, itw_tup, itw_itr, itw_str, putT_one, putT_tup, puts_cons, puts_nil, seq_tup, seq_lst, mua_append, mua_popK, mua_upd, fit_append, fit_popK, box_lst, box_dct, dct_dct, bi_rangeW, bi_range2W, ite_tt, ite_ff, ite_tf, ite_ft, dec_lt_t, dec_lt_f, beq_t, beq_f, Bool.not_true, Bool.not_false, Bool.true_and, Bool.and_true, wlk_len, wlk_isinst, wlk_tuple, wlk_list, wlk_all, wlk_any, wlk_sorted, wlk_sum, wlk_max, wlk_min, wlk_abs, wlk_int, wlk_str, wlk_range, Bool.false_eq_true, if_false, if_true, isNon, bnd, is_non_int, is_non_bool, is_non_str, is_non_tuple, is_non_list, is_non_dict, is_bl_int, is_bl_bool, is_bl_str, is_bl_tuple, is_bl_list, is_bl_dict, is_int_int, is_int_bool, is_int_str, is_int_tuple, is_int_list, is_int_dict, is_str_int, is_str_bool, is_str_str, is_str_tuple, is_str_list, is_str_dict, is_tup_int, is_tup_bool, is_tup_str, is_tup_tuple, is_tup_list, is_tup_dict, is_lst_int, is_lst_bool, is_lst_str, is_lst_tuple, is_lst_list, is_lst_dict, hq, hz]
theorem are_ascending_tup {ds : List D} (h : 1 ≤ N) (ha : Asc ds) (hc : ∀ a ∈ ds, ∀ b ∈ ds, ltOk a b = true) (hl : ds.length ≤ 100000) : Ev.run sub Γ N 5 [.tup ds] M = .ok (.bl true, M) := by
  obtain ⟨n, rfl⟩ : ∃ n, N = n + 1 := ⟨N - 1, by omega⟩
  rw [call_of (F := f_are_ascending) rfl rfl]
  have hr : evE (Ev.run sub Γ n) (.bi .range [.bin .sub (.bi .len [.var 0]) (.con (.int 1))]) [some (.tup ds), none] M = .ok (.itr (intsFrom 0 1 ((ds.length : Int) - 1).toNat), M) := range_ev (by simp only [startE, ev_var, ev_bor, ev_con, ev_neg, ev_bin, ev_cmp, ev_chain, ev_and, ev_or, ev_not, ev_ite, ev_join, ev_call, ev_callv, ev_bi, ev_tup, ev_lst, ev_sub, ev_slc, ev_me, ev_dct, ev_alloc, evs_nil, evs_cons, es_set, es_own, es_unp, es_ex, es_ret, es_retf, es_reto, es_retn, es_ite, es_whl, es_for, es_brk, es_cnt, es_pass, es_raise, es_try, es_sto, es_oput, es_omu, ess_nil, ess_cons, Ev.get, Ev.put, map1, map2, map3, List.length_cons, List.length_nil, List.replicate, List.cons_append, List.nil_append, List.getElem?_cons_zero, List.getElem?_cons_succ, List.set_cons_zero, List.set_cons_succ, Option.bind_some, id, Option.map_some, r_bind_ok, r_of_some, r_toS_ok, rs_nx, rs_rt, rs_exc, r_bind_exc, r_toS_exc, out_rt, out_nx, out_exc, nrm_int, nrm_bl, nrm_non, nrm_str, nrm_lst, nrm_tup, nrm_scr, nrm_ty, nrm_dct, nrm_kd, nrm_itr, nrm_fn, nrm_obj0, bin_mul_int, bin_add_int, bin_sub_int, bin_mod_int, bin_fdiv_int, bi_int_int, Nat.sub_self, w_sub0, w_sub1, w_sub2, w_sub3, w_put1, w_put2, w_put3, cmp_eq_int, cmp_ne_int, cmp_lt_int, cmp_gt_int, cmp_le_int, cmp_ge_int, bi_len_str, bi_len_tup, bi_len_lst, bi_tuple_lst, bi_list_lst, bi_max_int, itw_lst, itw_tup, itw_itr, itw_str, putT_one, putT_tup, puts_cons, puts_nil, seq_tup, seq_lst, mua_append, mua_popK, mua_upd, fit_append, fit_popK, box_lst, box_dct, dct_dct, bi_rangeW, bi_range2W, ite_tt, ite_ff, ite_tf, ite_ft, dec_lt_t, dec_lt_f, beq_t, beq_f, Bool.not_true, Bool.not_false, Bool.true_and, Bool.and_true, wlk_len, wlk_isinst, wlk_tuple, wlk_list, wlk_all, wlk_any, wlk_sorted, wlk_sum, wlk_max, wlk_min, wlk_abs, wlk_int, wlk_str, wlk_range, Bool.false_eq_true, if_false, if_true, isNon, bnd, is_non_int, is_non_bool, is_non_str, is_non_tuple, is_non_list, is_non_dict, is_bl_int, is_bl_bool, is_bl_str, is_bl_tuple, is_bl_list, is_bl_dict, is_int_int, is_int_bool, is_int_str, is_int_tuple, is_int_list, is_int_dict, is_str_int, is_str_bool, is_str_str, is_str_tuple, is_str_list, is_str_dict, is_tup_int, is_tup_bool, is_tup_str, is_tup_tuple, is_tup_list, is_tup_dict, is_lst_int, is_lst_bool, is_lst_str, is_lst_tuple, is_lst_list, is_lst_dict]) (by omega) (by omega)
  obtain ⟨zs, hq, hz⟩ : ∃ zs, evE (Ev.run sub Γ n) q_are_ascending_0 [some (.tup ds), none] M = .ok (.lst zs, M) ∧ biD .all [.lst zs] = some (.bl true) := all_comp2 hr rfl (by rw [ints_len]; exact sz_m (by omega)) fun x hx => by
    obtain ⟨i, hi, rfl⟩ := ints_mem hx
    have i1 : i < ds.length := by omega
    have i2 : i + 1 < ds.length := by omega
    refine ⟨[some (.tup ds), some (.int i)], rfl, ?_⟩
    have s1 : subD (.tup ds) (.int (i : Int)) = some ds[i] := sub_tup i1
    have s2 : subD (.tup ds) (.int ((i : Int) + 1)) = some ds[i + 1] := by
      have := sub_tup (xs := ds) (i := i + 1) i2
      rw [← this]; simp
    have lt := hc _ (List.getElem_mem i1) _ (List.getElem_mem i2)
    obtain ⟨p1, p2, _⟩ := ltOk_plain lt
    have dl : dlt ds[i] ds[i + 1] = true := (List.pairwise_iff_getElem.mp ha) i (i + 1) i1 i2 (by omega)
    simp only [startE, ev_var, ev_bor, ev_con, ev_neg, ev_bin, ev_cmp, ev_chain, ev_and, ev_or, ev_not, ev_ite, ev_join, ev_call, ev_callv, ev_bi, ev_tup, ev_lst, ev_sub, ev_slc, ev_me, ev_dct, ev_alloc, evs_nil, evs_cons, es_set, es_own, es_unp, es_ex, es_ret, es_retf, es_reto, es_retn, es_ite, es_whl, es_for, es_brk, es_cnt, es_pass, es_raise, es_try, es_sto, es_oput, es_omu, ess_nil, ess_cons, Ev.get, Ev.put, map1, map2, map3, List.length_cons, List.length_nil, List.replicate, List.cons_append, List.nil_append, List.getElem?_cons_zero, List.getElem?_cons_succ, List.set_cons_zero, List.set_cons_succ, Option.bind_some, id, Option.map_some, r_bind_ok, r_of_some, r_toS_ok, rs_nx, rs_rt, rs_exc, r_bind_exc, r_toS_exc, out_rt, out_nx, out_exc, nrm_int, nrm_bl, nrm_non, nrm_str, nrm_lst, nrm_tup, nrm_scr, nrm_ty, nrm_dct, nrm_kd, nrm_itr, nrm_fn, nrm_obj0, bin_mul_int, bin_add_int, bin_sub_int, bin_mod_int, bin_fdiv_int, bi_int_int, Nat.sub_self, w_sub0, w_sub1, w_sub2, w_sub3, w_put1, w_put2, w_put3, cmp_eq_int, cmp_ne_int, cmp_lt_int, cmp_gt_int, cmp_le_int, cmp_ge_int, bi_len_str, bi_len_tup, bi_len_lst, bi_tuple_lst, bi_list_lst, bi_max_int, itw_lst, itw_tup, itw_itr, itw_str, putT_one, putT_tup, puts_cons, puts_nil, seq_tup, seq_lst, mua_append, mua_popK, mua_upd, fit_append, fit_popK, box_lst, box_dct, dct_dct, bi_rangeW, bi_range2W, ite_tt, ite_ff, ite_tf, ite_ft, dec_lt_t, dec_lt_f, beq_t, beq_f, Bool.not_true, Bool.not_false, Bool.true_and, Bool.and_true, wlk_len, wlk_isinst, wlk_tuple, wlk_list, wlk_all, wlk_any, wlk_sorted, wlk_sum, wlk_max, wlk_min, wlk_abs, wlk_int, wlk_str, wlk_range, Bool.false_eq_true, if_false, if_true, isNon, bnd, is_non_int, is_non_bool, is_non_str, is_non_tuple, is_non_list, is_non_dict, is_bl_int, is_bl_bool, is_bl_str, is_bl_tuple, is_bl_list, is_bl_dict, is_int_int, is_int_bool, is_int_str, is_int_tuple, is_int_list, is_int_dict, is_str_int, is_str_bool, is_str_str, is_str_tuple, is_str_list, is_str_dict, is_tup_int, is_tup_bool, is_tup_str, is_tup_tuple, is_tup_list, is_tup_dict, is_lst_int, is_lst_bool, is_lst_str, is_lst_tuple, is_lst_list, is_lst_dict, s1, s2, nrm_plain p1, nrm_plain p2, lt_of_ok lt, dl]
  simp only [f_are_ascending, b_are_ascending, startE, ev_var, ev_bor, ev_con, ev_neg, ev_bin, ev_cmp, ev_chain, ev_and, ev_or, ev_not, ev_ite, ev_join, ev_call, ev_callv, ev_bi, ev_tup, ev_lst, ev_sub, ev_slc, ev_me, ev_dct, ev_alloc, evs_nil, evs_cons, es_set, es_own, es_unp, es_ex, es_ret, es_retf, es_reto, es_retn, es_ite, es_whl, es_for, es_brk, es_cnt, es_pass, es_raise, es_try, es_sto, es_oput, es_omu, ess_nil, ess_cons, Ev.get, Ev.put, map1, map2, map3, List.length_cons, List.length_nil, List.replicate, List.cons_append, List.nil_append, List.getElem?_cons_zero, List.getElem?_cons_succ, List.set_cons_zero, List.set_cons_succ, Option.bind_some, id, Option.map_some, r_bind_ok, r_of_some, r_toS_ok, rs_nx, rs_rt, rs_exc, r_bind_exc, r_toS_exc, out_rt, out_nx, out_exc, nrm_int, nrm_bl, nrm_non, nrm_str, nrm_lst, nrm_tup, nrm_scr, nrm_ty, nrm_dct, nrm_kd, nrm_itr, nrm_fn, nrm_obj0, bin_mul_int, bin_add_int, bin_sub_int, bin_mod_int, bin_fdiv_int, bi_int_int, Nat.sub_self, w_sub0, w_sub1, w_sub2, w_sub3, w_put1, w_put2, w_put3, cmp_eq_int, cmp_ne_int, cmp_lt_int, cmp_gt_int, cmp_le_int, cmp_ge_int, bi_len_str, bi_len_tup, bi_len_lst, bi_tuple_lst, bi_list_lst, bi_max_int, itw_lst, itw_tup, itw_itr, itw_str, putT_one, putT_tup, puts_cons, puts_nil, seq_tup, seq_lst, mua_append, mua_popK, mua_upd, fit_append, fit_popK, box_lst, box_dct, dct_dct, bi_rangeW, bi_range2W, ite_tt, ite_ff, ite_tf, ite_ft, dec_lt_t, dec_lt_f, beq_t, beq_f, Bool.not_true, Bool.not_false, Bool.true_and, Bool.and_true, wlk_len, wlk_isinst, wlk_tuple, wlk_list, wlk_all, wlk_any, wlk_sorted, wlk_sum, wlk_max, wlk_min, wlk_abs, wlk_int, wlk_str, wlk_range, Bool.false_eq_true, if_false, if_true, isNon, bnd, is_non_int, is_non_bool, is_non_str, is_non_tuple, is_non_list, is_non_dict, is_bl_int, is_bl_bool, is_bl_str, is_bl_tuple, is_bl_list, is_bl_dict, is_int_int, is_int_bool, is_int_str, is_int_tuple, is_int_list, is_int_dict, is_str_int, is_str_bool, is_str_str, is_str_tuple, is_str_list, is_str_dict, is_tup_int, is_tup_bool, is_tup_str, is_tup_tuple, is_tup_list, is_tup_dict, is_lst_int, is_lst_bool, is_lst_str, is_lst_tuple, is_lst_list, is_lst_dict, hq, hz]
theorem is_home_ok {i : Int} (h : 3 ≤ N) (h1 : 0 ≤ i) (h2 : i ≤ 8) : Ev.run sub Γ N 6 [.int i] M = .ok (.bl true, M) := by
  (obtain ⟨n, rfl⟩ : ∃ n, N = n + 1 := ⟨N - 1, by omega⟩; rw [call_of (F := f_is_home) rfl rfl]; simp (disch := first | assumption | omega) only [f_is_home, b_is_home, startE, ev_var, ev_bor, ev_con, ev_neg, ev_bin, ev_cmp, ev_chain, ev_and, ev_or, ev_not, ev_ite, ev_join, ev_call, ev_callv, ev_bi, ev_tup, ev_lst, ev_sub, ev_slc, ev_me, ev_dct, ev_alloc, evs_nil, evs_cons, es_set, es_own, es_unp, es_ex, es_ret, es_retf, es_reto, es_retn, es_ite, es_whl, es_for, es_brk, es_cnt, es_pass, es_raise, es_try, es_sto, es_oput, es_omu, ess_nil, ess_cons, Ev.get, Ev.put, map1, map2, map3, List.length_cons, List.length_nil, List.replicate, List.cons_append, List.nil_append, List.getElem?_cons_zero, List.getElem?_cons_succ, List.set_cons_zero, List.set_cons_succ, Option.bind_some, id, Option.map_some, r_bind_ok, r_of_some, r_toS_ok, rs_nx, rs_rt, rs_exc, r_bind_exc, r_toS_exc, out_rt, out_nx, out_exc, nrm_int, nrm_bl, nrm_non, nrm_str, nrm_lst, nrm_tup, nrm_scr, nrm_ty, nrm_dct, nrm_kd, nrm_itr, nrm_fn, nrm_obj0, bin_mul_int, bin_add_int, bin_sub_int, bin_mod_int, bin_fdiv_int, bi_int_int, Nat.sub_self, w_sub0, w_sub1, w_sub2, w_sub3, w_put1, w_put2, w_put3, cmp_eq_int, cmp_ne_int, cmp_lt_int, cmp_gt_int, cmp_le_int, cmp_ge_int, bi_len_str, bi_len_tup, bi_len_lst, bi_tuple_lst, bi_list_lst, bi_max_int, itw_lst, itw_tup, itw_itr, itw_str, putT_one, putT_tup, puts_cons, puts_nil, seq_tup, seq_lst, mua_append, mua_popK, mua_upd, fit_append, fit_popK, box_lst, box_dct, dct_dct, bi_rangeW, bi_range2W, ite_tt, ite_ff, ite_tf, ite_ft, dec_lt_t, dec_lt_f, beq_t, beq_f, Bool.not_true, Bool.not_false, Bool.true_and, Bool.and_true, wlk_len, wlk_isinst, wlk_tuple, wlk_list, wlk_all, wlk_any, wlk_sorted, wlk_sum, wlk_max, wlk_min, wlk_abs, wlk_int, wlk_str, wlk_range, Bool.false_eq_true, if_false, if_true, isNon, bnd, is_non_int, is_non_bool, is_non_str, is_non_tuple, is_non_list, is_non_dict, is_bl_int, is_bl_bool, is_bl_str, is_bl_tuple, is_bl_list, is_bl_dict, is_int_int, is_int_bool, is_int_str, is_int_tuple, is_int_list, is_int_dict, is_str_int, is_str_bool, is_str_str, is_str_tuple, is_str_list, is_str_dict, is_tup_int, is_tup_bool, is_tup_str, is_tup_tuple, is_tup_list, is_tup_dict, is_lst_int, is_lst_bool, is_lst_str, is_lst_tuple, is_lst_list, is_lst_dict, is_between_ok])
theorem is_hand_ok {i : Int} (h : 3 ≤ N) (h1 : 1 ≤ i) (h2 : i ≤ 99) : Ev.run sub Γ N 7 [.int i] M = .ok (.bl true, M) := by
  (obtain ⟨n, rfl⟩ : ∃ n, N = n + 1 := ⟨N - 1, by omega⟩; rw [call_of (F := f_is_hand) rfl rfl]; simp (disch := first | assumption | omega) only [f_is_hand, b_is_hand, startE, ev_var, ev_bor, ev_con, ev_neg, ev_bin, ev_cmp, ev_chain, ev_and, ev_or, ev_not, ev_ite, ev_join, ev_call, ev_callv, ev_bi, ev_tup, ev_lst, ev_sub, ev_slc, ev_me, ev_dct, ev_alloc, evs_nil, evs_cons, es_set, es_own, es_unp, es_ex, es_ret, es_retf, es_reto, es_retn, es_ite, es_whl, es_for, es_brk, es_cnt, es_pass, es_raise, es_try, es_sto, es_oput, es_omu, ess_nil, ess_cons, Ev.get, Ev.put, map1, map2, map3, List.length_cons, List.length_nil, List.replicate, List.cons_append, List.nil_append, List.getElem?_cons_zero, List.getElem?_cons_succ, List.set_cons_zero, List.set_cons_succ, Option.bind_some, id, Option.map_some, r_bind_ok, r_of_some, r_toS_ok, rs_nx, rs_rt, rs_exc, r_bind_exc, r_toS_exc, out_rt, out_nx, out_exc, nrm_int, nrm_bl, nrm_non, nrm_str, nrm_lst, nrm_tup, nrm_scr, nrm_ty, nrm_dct, nrm_kd, nrm_itr, nrm_fn, nrm_obj0, bin_mul_int, bin_add_int, bin_sub_int, bin_mod_int, bin_fdiv_int, bi_int_int, Nat.sub_self, w_sub0, w_sub1, w_sub2, w_sub3, w_put1, w_put2, w_put3, cmp_eq_int, cmp_ne_int, cmp_lt_int, cmp_gt_int, cmp_le_int, cmp_ge_int, bi_len_str, bi_len_tup, bi_len_lst, bi_tuple_lst, bi_list_lst, bi_max_int, itw_lst, itw_tup, itw_itr, itw_str, putT_one, putT_tup, puts_cons, puts_nil, seq_tup, seq_lst, mua_append, mua_popK, mua_upd, fit_append, fit_popK, box_lst, box_dct, dct_dct, bi_rangeW, bi_range2W, ite_tt, ite_ff, ite_tf, ite_ft, dec_lt_t, dec_lt_f, beq_t, beq_f, Bool.not_true, Bool.not_false, Bool.true_and, Bool.and_true, wlk_len, wlk_isinst, wlk_tuple, wlk_list, wlk_all, wlk_any, wlk_sorted, wlk_sum, wlk_max, wlk_min, wlk_abs, wlk_int, wlk_str, wlk_range, Bool.false_eq_true, if_false, if_true, isNon, bnd, is_non_int, is_non_bool, is_non_str, is_non_tuple, is_non_list, is_non_dict, is_bl_int, is_bl_bool, is_bl_str, is_bl_tuple, is_bl_list, is_bl_dict, is_int_int, is_int_bool, is_int_str, is_int_tuple, is_int_list, is_int_dict, is_str_int, is_str_bool, is_str_str, is_str_tuple, is_str_list, is_str_dict, is_tup_int, is_tup_bool, is_tup_str, is_tup_tuple, is_tup_list, is_tup_dict, is_lst_int, is_lst_bool, is_lst_str, is_lst_tuple, is_lst_list, is_lst_dict, is_between_ok])
def NameOk (x : List Nat) : Prop := 1 ≤ x.length ∧ x.length ≤ 8 ∧ ∀ c ∈ x, 97 ≤ c ∧ c ≤ 122
def LETTERS : List Nat := [97, 98, 99, 100, 101, 102, 103, 104, 105, 106, 107, 108, 109, 110, 111, 112, 113, 114, 115, 116, 117, 118, 119, 120, 121, 122]
theorem letter_in {c : Nat} (h : 97 ≤ c ∧ c ≤ 122) : cmpD .isin (.str [c]) (.str LETTERS) = some true := by
  show some (decide (c ∈ LETTERS)) = some true
  have : c ∈ LETTERS := by
    have key : ∀ k : Fin 26, (97 + k.val) ∈ LETTERS := by decide
    have := key ⟨c - 97, by omega⟩
    simpa [show 97 + (c - 97) = c by omega] using this
  rw [decide_eq_true this]
theorem is_name_ok {x : List Nat} (h : 1 ≤ N) (hx : NameOk x) : Ev.run sub Γ N 8 [.str x] M = .ok (.bl true, M) := by
  obtain ⟨n, rfl⟩ : ∃ n, N = n + 1 := ⟨N - 1, by omega⟩
  obtain ⟨h1, h2, h3⟩ := hx
  rw [call_of (F := f_is_name) rfl rfl]
  obtain ⟨zs, hq, hz⟩ : ∃ zs, evE (Ev.run sub Γ n) q_is_name_0 [some (.str x), none] M = .ok (.lst zs, M) ∧ biD .all [.lst zs] = some (.bl true) := all_comp2 (d := .str x) rfl rfl (by rw [List.length_map]; exact sz_m (by omega)) fun y hy => by
    obtain ⟨c, hc, rfl⟩ := List.mem_map.mp hy
    refine ⟨[some (.str x), some (.str [c])], rfl, ?_⟩
    have e := letter_in (h3 c hc)
    unfold LETTERS at e
    simp only [startE, ev_var, ev_bor, ev_con, ev_neg, ev_bin, ev_cmp, ev_chain, ev_and, ev_or, ev_not, ev_ite, ev_join, ev_call, ev_callv, ev_bi, ev_tup, ev_lst, ev_sub, ev_slc, ev_me, ev_dct, ev_alloc, evs_nil, evs_cons, es_set, es_own, es_unp, es_ex, es_ret, es_retf, es_reto, es_retn, es_ite, es_whl, es_for, es_brk, es_cnt, es_pass, es_raise, es_try, es_sto, es_oput, es_omu, ess_nil, ess_cons, Ev.get, Ev.put, map1, map2, map3, List.length_cons, List.length_nil, List.replicate, List.cons_append, List.nil_append, List.getElem?_cons_zero, List.getElem?_cons_succ, List.set_cons_zero, List.set_cons_succ, Option.bind_some, id, Option.map_some, r_bind_ok, r_of_some, r_toS_ok, rs_nx, rs_rt, rs_exc, r_bind_exc, r_toS_exc, out_rt, out_nx, out_exc, nrm_int, nrm_bl, nrm_non, nrm_str, nrm_lst, nrm_tup, nrm_scr, nrm_ty, nrm_dct, nrm_kd, nrm_itr, nrm_fn, nrm_obj0, bin_mul_int, bin_add_int, bin_sub_int, bin_mod_int, bin_fdiv_int, bi_int_int, Nat.sub_self, w_sub0, w_sub1, w_sub2, w_sub3, w_put1, w_put2, w_put3, cmp_eq_int, cmp_ne_int, cmp_lt_int, cmp_gt_int, cmp_le_int, cmp_ge_int, bi_len_str, bi_len_tup, bi_len_lst, bi_tuple_lst, bi_list_lst, bi_max_int, itw_lst, itw_tup, itw_itr, itw_str, putT_one, putT_tup, puts_cons, puts_nil, seq_tup, seq_lst, mua_append, mua_popK, mua_upd, fit_append, fit_popK, box_lst, box_dct, dct_dct, bi_rangeW, bi_range2W, ite_tt, ite_ff, ite_tf, ite_ft, dec_lt_t, dec_lt_f, beq_t, beq_f, Bool.not_true, Bool.not_false, Bool.true_and, Bool.and_true, wlk_len, wlk_isinst, wlk_tuple, wlk_list, wlk_all, wlk_any, wlk_sorted, wlk_sum, wlk_max, wlk_min, wlk_abs, wlk_int, wlk_str, wlk_range, Bool.false_eq_true, if_false, if_true, isNon, bnd, is_non_int, is_non_bool, is_non_str, is_non_tuple, is_non_list, is_non_dict, is_bl_int, is_bl_bool, is_bl_str, is_bl_tuple, is_bl_list, is_bl_dict, is_int_int, is_int_bool, is_int_str, is_int_tuple, is_int_list, is_int_dict, is_str_int, is_str_bool, is_str_str, is_str_tuple, is_str_list, is_str_dict, is_tup_int, is_tup_bool, is_tup_str, is_tup_tuple, is_tup_list, is_tup_dict, is_lst_int, is_lst_bool, is_lst_str, is_lst_tuple, is_lst_list, is_lst_dict, e]
  simp (disch := omega) only [f_is_name, b_is_name, ev_chain, startE, ev_var, ev_bor, ev_con, ev_neg, ev_bin, ev_cmp, ev_chain, ev_and, ev_or, ev_not, ev_ite, ev_join, ev_call, ev_callv, ev_bi, ev_tup, ev_lst, ev_sub, ev_slc, ev_me, ev_dct, ev_alloc, evs_nil, evs_cons, es_set, es_own, es_unp, es_ex, es_ret, es_retf, es_reto, es_retn, es_ite, es_whl, es_for, es_brk, es_cnt, es_pass, es_raise, es_try, es_sto, es_oput, es_omu, ess_nil, ess_cons, Ev.get, Ev.put, map1, map2, map3, List.length_cons, List.length_nil, List.replicate, List.cons_append, List.nil_append, List.getElem?_cons_zero, List.getElem?_cons_succ, List.set_cons_zero, List.set_cons_succ, Option.bind_some, id, Option.map_some, r_bind_ok, r_of_some, r_toS_ok, rs_nx, rs_rt, rs_exc, r_bind_exc, r_toS_exc, out_rt, out_nx, out_exc, nrm_int, nrm_bl, nrm_non, nrm_str, nrm_lst, nrm_tup, nrm_scr, nrm_ty, nrm_dct, nrm_kd, nrm_itr, nrm_fn, nrm_obj0, bin_mul_int, bin_add_int, bin_sub_int, bin_mod_int, bin_fdiv_int, bi_int_int, Nat.sub_self, w_sub0, w_sub1, w_sub2, w_sub3, w_put1, w_put2, w_put3, cmp_eq_int, cmp_ne_int, cmp_lt_int, cmp_gt_int, cmp_le_int, cmp_ge_int, bi_len_str, bi_len_tup, bi_len_lst, bi_tuple_lst, bi_list_lst, bi_max_int, itw_lst, itw_tup, itw_itr, itw_str, putT_one, putT_tup, puts_cons, puts_nil, seq_tup, seq_lst, mua_append, mua_popK, mua_upd, fit_append, fit_popK, box_lst, box_dct, dct_dct, bi_rangeW, bi_range2W, ite_tt, ite_ff, ite_tf, ite_ft, dec_lt_t, dec_lt_f, beq_t, beq_f, Bool.not_true, Bool.not_false, Bool.true_and, Bool.and_true, wlk_len, wlk_isinst, wlk_tuple, wlk_list, wlk_all, wlk_any, wlk_sorted, wlk_sum, wlk_max, wlk_min, wlk_abs, wlk_int, wlk_str, wlk_range, Bool.false_eq_true, if_false, if_true, isNon, bnd, is_non_int, is_non_bool, is_non_str, is_non_tuple, is_non_list, is_non_dict, is_bl_int, is_bl_bool, is_bl_str, is_bl_tuple, is_bl_list, is_bl_dict, is_int_int, is_int_bool, is_int_str, is_int_tuple, is_int_list, is_int_dict, is_str_int, is_str_bool, is_str_str, is_str_tuple, is_str_list, is_str_dict, is_tup_int, is_tup_bool, is_tup_str, is_tup_tuple, is_tup_list, is_tup_dict, is_lst_int, is_lst_bool, is_lst_str, is_lst_tuple, is_lst_list, is_lst_dict, hq, hz]
def SignsOk (x : List Nat) : Prop := ∀ c ∈ x, 32 ≤ c ∧ c ≤ 126
theorem le_sign (a b : List Nat) : cmpD .le (.str a) (.str b) = some (!slt b a) := of_eq_true (eq_self _)
theorem slt1 {a b : Nat} (h : a ≤ b) : slt [b] [a] = false := by
  show (if b == a then false else decide (b < a)) = false
  split
  · rfl
  · exact decide_eq_false (by omega)
theorem are_signs_ok {x : List Nat} {a b : Int} (h : 1 ≤ N) (hx : SignsOk x) (h1 : a ≤ x.length) (h2 : (x.length : Int) ≤ b) (h3 : b ≤ 1000) : Ev.run sub Γ N 9 [.str x, .int a, .int b] M = .ok (.bl true, M) := by
  obtain ⟨n, rfl⟩ : ∃ n, N = n + 1 := ⟨N - 1, by omega⟩
  rw [call_of (F := f_are_signs) rfl rfl]
  obtain ⟨zs, hq, hz⟩ : ∃ zs, evE (Ev.run sub Γ n) q_are_signs_0 [some (.str x), some (.int a), some (.int b), none] M = .ok (.lst zs, M) ∧ biD .all [.lst zs] = some (.bl true) := all_comp2 (d := .str x) rfl rfl (by rw [List.length_map]; exact sz_m (by omega)) fun y hy => by
    obtain ⟨c, hc, rfl⟩ := List.mem_map.mp hy
    refine ⟨[some (.str x), some (.int a), some (.int b), some (.str [c])], rfl, ?_⟩
    simp only [startE, ev_var, ev_bor, ev_con, ev_neg, ev_bin, ev_cmp, ev_chain, ev_and, ev_or, ev_not, ev_ite, ev_join, ev_call, ev_callv, ev_bi, ev_tup, ev_lst, ev_sub, ev_slc, ev_me, ev_dct, ev_alloc, evs_nil, evs_cons, es_set, es_own, es_unp, es_ex, es_ret, es_retf, es_reto, es_retn, es_ite, es_whl, es_for, es_brk, es_cnt, es_pass, es_raise, es_try, es_sto, es_oput, es_omu, ess_nil, ess_cons, Ev.get, Ev.put, map1, map2, map3, List.length_cons, List.length_nil, List.replicate, List.cons_append, List.nil_append, List.getElem?_cons_zero, List.getElem?_cons_succ, List.set_cons_zero, List.set_cons_succ, Option.bind_some, id, Option.map_some, r_bind_ok, r_of_some, r_toS_ok, rs_nx, rs_rt, rs_exc, r_bind_exc, r_toS_exc, out_rt, out_nx, out_exc, nrm_int, nrm_bl, nrm_non, nrm_str, nrm_lst, nrm_tup, nrm_scr, nrm_ty, nrm_dct, nrm_kd, nrm_itr, nrm_fn, nrm_obj0, bin_mul_int, bin_add_int, bin_sub_int, bin_mod_int, bin_fdiv_int, bi_int_int, Nat.sub_self, w_sub0, w_sub1, w_sub2, w_sub3, w_put1, w_put2, w_put3, cmp_eq_int, cmp_ne_int, cmp_lt_int, cmp_gt_int, cmp_le_int, cmp_ge_int, bi_len_str, bi_len_tup, bi_len_lst, bi_tuple_lst, bi_list_lst, bi_max_int, itw_lst, itw_tup, itw_itr, itw_str, putT_one, putT_tup, puts_cons, puts_nil, seq_tup, seq_lst, mua_append, mua_popK, mua_upd, fit_append, fit_popK, box_lst, box_dct, dct_dct, bi_rangeW, bi_range2W, ite_tt, ite_ff, ite_tf, ite_ft, dec_lt_t, dec_lt_f, beq_t, beq_f, Bool.not_true, Bool.not_false, Bool.true_and, Bool.and_true, wlk_len, wlk_isinst, wlk_tuple, wlk_list, wlk_all, wlk_any, wlk_sorted, wlk_sum, wlk_max, wlk_min, wlk_abs, wlk_int, wlk_str, wlk_range, Bool.false_eq_true, if_false, if_true, isNon, bnd, is_non_int, is_non_bool, is_non_str, is_non_tuple, is_non_list, is_non_dict, is_bl_int, is_bl_bool, is_bl_str, is_bl_tuple, is_bl_list, is_bl_dict, is_int_int, is_int_bool, is_int_str, is_int_tuple, is_int_list, is_int_dict, is_str_int, is_str_bool, is_str_str, is_str_tuple, is_str_list, is_str_dict, is_tup_int, is_tup_bool, is_tup_str, is_tup_tuple, is_tup_list, is_tup_dict, is_lst_int, is_lst_bool, is_lst_str, is_lst_tuple, is_lst_list, is_lst_dict, le_sign, slt1 (hx c hc).1, slt1 (hx c hc).2]
  simp (disch := omega) only [f_are_signs, b_are_signs, startE, ev_var, ev_bor, ev_con, ev_neg, ev_bin, ev_cmp, ev_chain, ev_and, ev_or, ev_not, ev_ite, ev_join, ev_call, ev_callv, ev_bi, ev_tup, ev_lst, ev_sub, ev_slc, ev_me, ev_dct, ev_alloc, evs_nil, evs_cons, es_set, es_own, es_unp, es_ex, es_ret, es_retf, es_reto, es_retn, es_ite, es_whl, es_for, es_brk, es_cnt, es_pass, es_raise, es_try, es_sto, es_oput, es_omu, ess_nil, ess_cons, Ev.get, Ev.put, map1, map2, map3, List.length_cons, List.length_nil, List.replicate, List.cons_append, List.nil_append, List.getElem?_cons_zero, List.getElem?_cons_succ, List.set_cons_zero, List.set_cons_succ, Option.bind_some, id, Option.map_some, r_bind_ok, r_of_some, r_toS_ok, rs_nx, rs_rt, rs_exc, r_bind_exc, r_toS_exc, out_rt, out_nx, out_exc, nrm_int, nrm_bl, nrm_non, nrm_str, nrm_lst, nrm_tup, nrm_scr, nrm_ty, nrm_dct, nrm_kd, nrm_itr, nrm_fn, nrm_obj0, bin_mul_int, bin_add_int, bin_sub_int, bin_mod_int, bin_fdiv_int, bi_int_int, Nat.sub_self, w_sub0, w_sub1, w_sub2, w_sub3, w_put1, w_put2, w_put3, cmp_eq_int, cmp_ne_int, cmp_lt_int, cmp_gt_int, cmp_le_int, cmp_ge_int, bi_len_str, bi_len_tup, bi_len_lst, bi_tuple_lst, bi_list_lst, bi_max_int, itw_lst, itw_tup, itw_itr, itw_str, putT_one, putT_tup, puts_cons, puts_nil, seq_tup, seq_lst, mua_append, mua_popK, mua_upd, fit_append, fit_popK, box_lst, box_dct, dct_dct, bi_rangeW, bi_range2W, ite_tt, ite_ff, ite_tf, ite_ft, dec_lt_t, dec_lt_f, beq_t, beq_f, Bool.not_true, Bool.not_false, Bool.true_and, Bool.and_true, wlk_len, wlk_isinst, wlk_tuple, wlk_list, wlk_all, wlk_any, wlk_sorted, wlk_sum, wlk_max, wlk_min, wlk_abs, wlk_int, wlk_str, wlk_range, Bool.false_eq_true, if_false, if_true, isNon, bnd, is_non_int, is_non_bool, is_non_str, is_non_tuple, is_non_list, is_non_dict, is_bl_int, is_bl_bool, is_bl_str, is_bl_tuple, is_bl_list, is_bl_dict, is_int_int, is_int_bool, is_int_str, is_int_tuple, is_int_list, is_int_dict, is_str_int, is_str_bool, is_str_str, is_str_tuple, is_str_list, is_str_dict, is_tup_int, is_tup_bool, is_tup_str, is_tup_tuple, is_tup_list, is_tup_dict, is_lst_int, is_lst_bool, is_lst_str, is_lst_tuple, is_lst_list, is_lst_dict, hq, hz]
theorem is_piece_ok {x : List Nat} (h : 2 ≤ N) (hx : SignsOk x) (h1 : 1 ≤ x.length) (h2 : x.length ≤ 8) : Ev.run sub Γ N 10 [.str x] M = .ok (.bl true, M) := by
  (obtain ⟨n, rfl⟩ : ∃ n, N = n + 1 := ⟨N - 1, by omega⟩; rw [call_of (F := f_is_piece) rfl rfl]; simp (disch := first | assumption | omega) only [f_is_piece, b_is_piece, startE, ev_var, ev_bor, ev_con, ev_neg, ev_bin, ev_cmp, ev_chain, ev_and, ev_or, ev_not, ev_ite, ev_join, ev_call, ev_callv, ev_bi, ev_tup, ev_lst, ev_sub, ev_slc, ev_me, ev_dct, ev_alloc, evs_nil, evs_cons, es_set, es_own, es_unp, es_ex, es_ret, es_retf, es_reto, es_retn, es_ite, es_whl, es_for, es_brk, es_cnt, es_pass, es_raise, es_try, es_sto, es_oput, es_omu, ess_nil, ess_cons, Ev.get, Ev.put, map1, map2, map3, List.length_cons, List.length_nil, List.replicate, List.cons_append, List.nil_append, List.getElem?_cons_zero, List.getElem?_cons_succ, List.set_cons_zero, List.set_cons_succ, Option.bind_some, id, Option.map_some, r_bind_ok, r_of_some, r_toS_ok, rs_nx, rs_rt, rs_exc, r_bind_exc, r_toS_exc, out_rt, out_nx, out_exc, nrm_int, nrm_bl, nrm_non, nrm_str, nrm_lst, nrm_tup, nrm_scr, nrm_ty, nrm_dct, nrm_kd, nrm_itr, nrm_fn, nrm_obj0, bin_mul_int, bin_add_int, bin_sub_int, bin_mod_int, bin_fdiv_int, bi_int_int, Nat.sub_self, w_sub0, w_sub1, w_sub2, w_sub3, w_put1, w_put2, w_put3, cmp_eq_int, cmp_ne_int, cmp_lt_int, cmp_gt_int, cmp_le_int, cmp_ge_int, bi_len_str, bi_len_tup, bi_len_lst, bi_tuple_lst, bi_list_lst, bi_max_int, itw_lst, itw_tup, itw_itr, itw_str, putT_one, putT_tup, puts_cons, puts_nil, seq_tup, seq_lst, mua_append, mua_popK, mua_upd, fit_append, fit_popK, box_lst, box_dct, dct_dct, bi_rangeW, bi_range2W, ite_tt, ite_ff, ite_tf, ite_ft, dec_lt_t, dec_lt_f, beq_t, beq_f, Bool.not_true, Bool.not_false, Bool.true_and, Bool.and_true, wlk_len, wlk_isinst, wlk_tuple, wlk_list, wlk_all, wlk_any, wlk_sorted, wlk_sum, wlk_max, wlk_min, wlk_abs, wlk_int, wlk_str, wlk_range, Bool.false_eq_true, if_false, if_true, isNon, bnd, is_non_int, is_non_bool, is_non_str, is_non_tuple, is_non_list, is_non_dict, is_bl_int, is_bl_bool, is_bl_str, is_bl_tuple, is_bl_list, is_bl_dict, is_int_int, is_int_bool, is_int_str, is_int_tuple, is_int_list, is_int_dict, is_str_int, is_str_bool, is_str_str, is_str_tuple, is_str_list, is_str_dict, is_tup_int, is_tup_bool, is_tup_str, is_tup_tuple, is_tup_list, is_tup_dict, is_lst_int, is_lst_bool, is_lst_str, is_lst_tuple, is_lst_list, is_lst_dict, are_signs_ok])
theorem is_id_ok {a b : Int} (h : 4 ≤ N) (h1 : 1 ≤ a) (h2 : a ≤ 99) (h3 : 1 ≤ b) : Ev.run sub Γ N 11 [.tup [.int a, .int b]] M = .ok (.bl true, M) := by
  (obtain ⟨n, rfl⟩ : ∃ n, N = n + 1 := ⟨N - 1, by omega⟩; rw [call_of (F := f_is_id) rfl rfl]; simp (disch := first | assumption | omega) only [f_is_id, b_is_id, startE, ev_var, ev_bor, ev_con, ev_neg, ev_bin, ev_cmp, ev_chain, ev_and, ev_or, ev_not, ev_ite, ev_join, ev_call, ev_callv, ev_bi, ev_tup, ev_lst, ev_sub, ev_slc, ev_me, ev_dct, ev_alloc, evs_nil, evs_cons, es_set, es_own, es_unp, es_ex, es_ret, es_retf, es_reto, es_retn, es_ite, es_whl, es_for, es_brk, es_cnt, es_pass, es_raise, es_try, es_sto, es_oput, es_omu, ess_nil, ess_cons, Ev.get, Ev.put, map1, map2, map3, List.length_cons, List.length_nil, List.replicate, List.cons_append, List.nil_append, List.getElem?_cons_zero, List.getElem?_cons_succ, List.set_cons_zero, List.set_cons_succ, Option.bind_some, id, Option.map_some, r_bind_ok, r_of_some, r_toS_ok, rs_nx, rs_rt, rs_exc, r_bind_exc, r_toS_exc, out_rt, out_nx, out_exc, nrm_int, nrm_bl, nrm_non, nrm_str, nrm_lst, nrm_tup, nrm_scr, nrm_ty, nrm_dct, nrm_kd, nrm_itr, nrm_fn, nrm_obj0, bin_mul_int, bin_add_int, bin_sub_int, bin_mod_int, bin_fdiv_int, bi_int_int, Nat.sub_self, w_sub0, w_sub1, w_sub2, w_sub3, w_put1, w_put2, w_put3, cmp_eq_int, cmp_ne_int, cmp_lt_int, cmp_gt_int, cmp_le_int, cmp_ge_int, bi_len_str, bi_len_tup, bi_len_lst, bi_tuple_lst, bi_list_lst, bi_max_int, itw_lst, itw_tup, itw_itr, itw_str, putT_one, putT_tup, puts_cons, puts_nil, seq_tup, seq_lst, mua_append, mua_popK, mua_upd, fit_append, fit_popK, box_lst, box_dct, dct_dct, bi_rangeW, bi_range2W, ite_tt, ite_ff, ite_tf, ite_ft, dec_lt_t, dec_lt_f, beq_t, beq_f, Bool.not_true, Bool.not_false, Bool.true_and, Bool.and_true, wlk_len, wlk_isinst, wlk_tuple, wlk_list, wlk_all, wlk_any, wlk_sorted, wlk_sum, wlk_max, wlk_min, wlk_abs, wlk_int, wlk_str, wlk_range, Bool.false_eq_true, if_false, if_true, isNon, bnd, is_non_int, is_non_bool, is_non_str, is_non_tuple, is_non_list, is_non_dict, is_bl_int, is_bl_bool, is_bl_str, is_bl_tuple, is_bl_list, is_bl_dict, is_int_int, is_int_bool, is_int_str, is_int_tuple, is_int_list, is_int_dict, is_str_int, is_str_bool, is_str_str, is_str_tuple, is_str_list, is_str_dict, is_tup_int, is_tup_bool, is_tup_str, is_tup_tuple, is_tup_list, is_tup_dict, is_lst_int, is_lst_bool, is_lst_str, is_lst_tuple, is_lst_list, is_lst_dict, is_pair_ok, is_hand_ok, sub2_0, sub2_1])
def IdD (d : D) : Prop := ∃ a b : Int, d = .tup [.int a, .int b] ∧ 1 ≤ a ∧ a ≤ 99 ∧ 1 ≤ b
def RowD (d : D) : Prop := d = .non ∨ ∃ ds : List D, d = .tup ds ∧ ds.length ≤ 12 ∧ ∀ x ∈ ds, IdD x
theorem is_row_ok {d : D} (h : 5 ≤ N) (hd : RowD d) : Ev.run sub Γ N 12 [d] M = .ok (.bl true, M) := by
  obtain ⟨n, rfl⟩ : ∃ n, N = n + 1 := ⟨N - 1, by omega⟩
  rw [call_of (F := f_is_row) rfl rfl]
  have i1 : cmpD .is .non .non = some true := rfl
  rcases hd with rfl | ⟨ds, rfl, hl, hx⟩
  · simp only [f_is_row, b_is_row, startE, ev_var, ev_bor, ev_con, ev_neg, ev_bin, ev_cmp, ev_chain, ev_and, ev_or, ev_not, ev_ite, ev_join, ev_call, ev_callv, ev_bi, ev_tup, ev_lst, ev_sub, ev_slc, ev_me, ev_dct, ev_alloc, evs_nil, evs_cons, es_set, es_own, es_unp, es_ex, es_ret, es_retf, es_reto, es_retn, es_ite, es_whl, es_for, es_brk, es_cnt, es_pass, es_raise, es_try, es_sto, es_oput, es_omu, ess_nil, ess_cons, Ev.get, Ev.put, map1, map2, map3, List.length_cons, List.length_nil, List.replicate, List.cons_append, List.nil_append, List.getElem?_cons_zero, List.getElem?_cons_succ, List.set_cons_zero, List.set_cons_succ, Option.bind_some, id, Option.map_some, r_bind_ok, r_of_some, r_toS_ok, rs_nx, rs_rt, rs_exc, r_bind_exc, r_toS_exc, out_rt, out_nx, out_exc, nrm_int, nrm_bl, nrm_non, nrm_str, nrm_lst, nrm_tup, nrm_scr, nrm_ty, nrm_dct, nrm_kd, nrm_itr, nrm_fn, nrm_obj0, bin_mul_int, bin_add_int, bin_sub_int, bin_mod_int, bin_fdiv_int, bi_int_int, Nat.sub_self, w_sub0, w_sub1, w_sub2, w_sub3, w_put1, w_put2, w_put3, cmp_eq_int, cmp_ne_int, cmp_lt_int, cmp_gt_int, cmp_le_int, cmp_ge_int, bi_len_str, bi_len_tup, bi_len_lst, bi_tuple_lst, bi_list_lst, bi_max_int, itw_lst, itw_tup, itw_itr, itw_str, putT_one, putT_tup, puts_cons, puts_nil, seq_tup, seq_lst, mua_append, mua_popK, mua_upd, fit_append, fit_popK, box_lst, box_dct, dct_dct, bi_rangeW, bi_range2W, ite_tt, ite_ff, ite_tf, ite_ft, dec_lt_t, dec_lt_f, beq_t, beq_f, Bool.not_true, Bool.not_false, Bool.true_and, Bool.and_true, wlk_len, wlk_isinst, wlk_tuple, wlk_list, wlk_all, wlk_any, wlk_sorted, wlk_sum, wlk_max, wlk_min, wlk_abs, wlk_int, wlk_str, wlk_range, Bool.false_eq_true, if_false, if_true, isNon, bnd, is_non_int, is_non_bool, is_non_str, is_non_tuple, is_non_list, is_non_dict, is_bl_int, is_bl_bool, is_bl_str, is_bl_tuple, is_bl_list, is_bl_dict, is_int_int, is_int_bool, is_int_str, is_int_tuple, is_int_list, is_int_dict, is_str_int, is_str_bool, is_str_str, is_str_tuple, is_str_list, is_str_dict, is_tup_int, is_tup_bool, is_tup_str, is_tup_tuple, is_tup_list, is_tup_dict, is_lst_int, is_lst_bool, is_lst_str, is_lst_tuple, is_lst_list, is_lst_dict, i1]
  · have i2 : cmpD .is (.tup ds) .non = some false := rfl
    obtain ⟨zs, hq, hz⟩ : ∃ zs, evE (Ev.run sub Γ n) q_is_row_0 [some (.tup ds), none] M = .ok (.lst zs, M) ∧ biD .all [.lst zs] = some (.bl true) := all_comp2 (d := .tup ds) rfl rfl (sz_m (by omega)) fun y hy => by
      obtain ⟨a, b, rfl, h1, h2, h3⟩ := hx y hy
      refine ⟨[some (.tup ds), some (.tup [.int a, .int b])], rfl, ?_⟩
      have e := is_id_ok (N := n) (M := M) (by omega) h1 h2 h3
      simp only [startE, ev_var, ev_bor, ev_con, ev_neg, ev_bin, ev_cmp, ev_chain, ev_and, ev_or, ev_not, ev_ite, ev_join, ev_call, ev_callv, ev_bi, ev_tup, ev_lst, ev_sub, ev_slc, ev_me, ev_dct, ev_alloc, evs_nil, evs_cons, es_set, es_own, es_unp, es_ex, es_ret, es_retf, es_reto, es_retn, es_ite, es_whl, es_for, es_brk, es_cnt, es_pass, es_raise, es_try, es_sto, es_oput, es_omu, ess_nil, ess_cons, Ev.get, Ev.put, map1, map2, map3, List.length_cons, List.length_nil, List.replicate, List.cons_append, List.nil_append, List.getElem?_cons_zero, List.getElem?_cons_succ, List.set_cons_zero, List.set_cons_succ, Option.bind_some, id, Option.map_some, r_bind_ok, r_of_some, r_toS_ok, rs_nx, rs_rt, rs_exc, r_bind_exc, r_toS_exc, out_rt, out_nx, out_exc, nrm_int, nrm_bl, nrm_non, nrm_str, nrm_lst, nrm_tup, nrm_scr, nrm_ty, nrm_dct, nrm_kd, nrm_itr, nrm_fn, nrm_obj0, bin_mul_int, bin_add_int, bin_sub_int, bin_mod_int, bin_fdiv_int, bi_int_int, Nat.sub_self, w_sub0, w_sub1, w_sub2, w_sub3, w_put1, w_put2, w_put3, cmp_eq_int, cmp_ne_int, cmp_lt_int, cmp_gt_int, cmp_le_int, cmp_ge_int, bi_len_str, bi_len_tup, bi_len_lst, bi_tuple_lst, bi_list_lst, bi_max_int, itw_lst, itw_tup, itw_itr, itw_str, putT_one, putT_tup, puts_cons, puts_nil, seq_tup, seq_lst, mua_append, mua_popK, mua_upd, fit_append, fit_popK, box_lst, box_dct, dct_dct, bi_rangeW, bi_range2W, ite_tt, ite_ff, ite_tf, ite_ft, dec_lt_t, dec_lt_f, beq_t, beq_f, Bool.not_true, Bool.not_false, Bool.true_and, Bool.and_true, wlk_len, wlk_isinst, wlk_tuple, wlk_list, wlk_all, wlk_any, wlk_sorted, wlk_sum, wlk_max, wlk_min, wlk_abs, wlk_int, wlk_str, wlk_range, Bool.false_eq_true, if_false, if_true, isNon, bnd, is_non_int, is_non_bool, is_non_str, is_non_tuple, is_non_list, is_non_dict, is_bl_int, is_bl_bool, is_bl_str, is_bl_tuple, is_bl_list, is_bl_dict, is_int_int, is_int_bool, is_int_str, is_int_tuple, is_int_list, is_int_dict, is_str_int, is_str_bool, is_str_str, is_str_tuple, is_str_list, is_str_dict, is_tup_int, is_tup_bool, is_tup_str, is_tup_tuple, is_tup_list, is_tup_dict, is_lst_int, is_lst_bool, is_lst_str, is_lst_tuple, is_lst_list, is_lst_dict, e]
    simp (disch := omega) only [f_is_row, b_is_row, startE, ev_var, ev_bor, ev_con, ev_neg, ev_bin, ev_cmp, ev_chain, ev_and, ev_or, ev_not, ev_ite, ev_join, ev_call, ev_callv, ev_bi, ev_tup, ev_lst, ev_sub, ev_slc, ev_me, ev_dct, ev_alloc, evs_nil, evs_cons, es_set, es_own, es_unp, es_ex, es_ret, es_retf, es_reto, es_retn, es_ite, es_whl, es_for, es_brk, es_cnt, es_pass, es_raise, es_try, es_sto, es_oput, es_omu, ess_nil, ess_cons, Ev.get, Ev.put, map1, map2, map3, List.length_cons, List.length_nil, List.replicate, List.cons_append, List.nil_append, List.getElem?_cons_zero, List.getElem?_cons_succ, List.set_cons_zero, List.set_cons_succ, Option.bind_some, id, Option.map_some, r_bind_ok, r_of_some, r_toS_ok, rs_nx, rs_rt, rs_exc, r_bind_exc, r_toS_exc, out_rt, out_nx, out_exc, nrm_int, nrm_bl, nrm_non, nrm_str, nrm_lst, nrm_tup, nrm_scr, nrm_ty, nrm_dct, nrm_kd, nrm_itr, nrm_fn, nrm_obj0, bin_mul_int, bin_add_int, bin_sub_int, bin_mod_int, bin_fdiv_int, bi_int_int, Nat.sub_self, w_sub0, w_sub1, w_sub2, w_sub3, w_put1, w_put2, w_put3, cmp_eq_int, cmp_ne_int, cmp_lt_int, cmp_gt_int, cmp_le_int, cmp_ge_int, bi_len_str, bi_len_tup, bi_len_lst, bi_tuple_lst, bi_list_lst, bi_max_int, itw_lst, itw_tup, itw_itr, itw_str, putT_one, putT_tup, puts_cons, puts_nil, seq_tup, seq_lst, mua_append, mua_popK, mua_upd, fit_append, fit_popK, box_lst, box_dct, dct_dct, bi_rangeW, bi_range2W, ite_tt, ite_ff, ite_tf, ite_ft, dec_lt_t, dec_lt_f, beq_t, beq_f, Bool.not_true, Bool.not_false, Bool.true_and, Bool.and_true, wlk_len, wlk_isinst, wlk_tuple, wlk_list, wlk_all, wlk_any, wlk_sorted, wlk_sum, wlk_max, wlk_min, wlk_abs, wlk_int, wlk_str, wlk_range, Bool.false_eq_true, if_false, if_true, isNon, bnd, is_non_int, is_non_bool, is_non_str, is_non_tuple, is_non_list, is_non_dict, is_bl_int, is_bl_bool, is_bl_str, is_bl_tuple, is_bl_list, is_bl_dict, is_int_int, is_int_bool, is_int_str, is_int_tuple, is_int_list, is_int_dict, is_str_int, is_str_bool, is_str_str, is_str_tuple, is_str_list, is_str_dict, is_tup_int, is_tup_bool, is_tup_str, is_tup_tuple, is_tup_list, is_tup_dict, is_lst_int, is_lst_bool, is_lst_str, is_lst_tuple, is_lst_list, is_lst_dict, i2, hq, hz]
def StampD (d : D) : Prop := d = .tup [.int 0, .int 0] ∨ ∃ a b : Int, d = .tup [.int a, .int b] ∧ 1 ≤ a ∧ 1 ≤ b ∧ b ≤ 99
theorem eq_pair {a b c e : Int} : cmpD .eq (.tup [.int a, .int b]) (.tup [.int c, .int e]) = some ((a == c) && ((b == e) && true)) := by
  rfl
theorem is_stamp_ok {d : D} (h : 4 ≤ N) (hd : StampD d) : Ev.run sub Γ N 13 [d] M = .ok (.bl true, M) := by
  obtain ⟨n, rfl⟩ : ∃ n, N = n + 1 := ⟨N - 1, by omega⟩
  rw [call_of (F := f_is_stamp) rfl rfl]
  rcases hd with rfl | ⟨a, b, rfl, h1, h2, h3⟩
  · have e := is_pair_ok (N := n) (M := M) (a := 0) (b := 0) (by omega) (by omega) (by omega)
    simp (disch := omega) only [f_is_stamp, b_is_stamp, c_FIRST_STAMP, startE, ev_var, ev_bor, ev_con, ev_neg, ev_bin, ev_cmp, ev_chain, ev_and, ev_or, ev_not, ev_ite, ev_join, ev_call, ev_callv, ev_bi, ev_tup, ev_lst, ev_sub, ev_slc, ev_me, ev_dct, ev_alloc, evs_nil, evs_cons, es_set, es_own, es_unp, es_ex, es_ret, es_retf, es_reto, es_retn, es_ite, es_whl, es_for, es_brk, es_cnt, es_pass, es_raise, es_try, es_sto, es_oput, es_omu, ess_nil, ess_cons, Ev.get, Ev.put, map1, map2, map3, List.length_cons, List.length_nil, List.replicate, List.cons_append, List.nil_append, List.getElem?_cons_zero, List.getElem?_cons_succ, List.set_cons_zero, List.set_cons_succ, Option.bind_some, id, Option.map_some, r_bind_ok, r_of_some, r_toS_ok, rs_nx, rs_rt, rs_exc, r_bind_exc, r_toS_exc, out_rt, out_nx, out_exc, nrm_int, nrm_bl, nrm_non, nrm_str, nrm_lst, nrm_tup, nrm_scr, nrm_ty, nrm_dct, nrm_kd, nrm_itr, nrm_fn, nrm_obj0, bin_mul_int, bin_add_int, bin_sub_int, bin_mod_int, bin_fdiv_int, bi_int_int, Nat.sub_self, w_sub0, w_sub1, w_sub2, w_sub3, w_put1, w_put2, w_put3, cmp_eq_int, cmp_ne_int, cmp_lt_int, cmp_gt_int, cmp_le_int, cmp_ge_int, bi_len_str, bi_len_tup, bi_len_lst, bi_tuple_lst, bi_list_lst, bi_max_int, itw_lst, itw_tup, itw_itr, itw_str, putT_one, putT_tup, puts_cons, puts_nil, seq_tup, seq_lst, mua_append, mua_popK, mua_upd, fit_append, fit_popK, box_lst, box_dct, dct_dct, bi_rangeW, bi_range2W, ite_tt, ite_ff, ite_tf, ite_ft, dec_lt_t, dec_lt_f, beq_t, beq_f, Bool.not_true, Bool.not_false, Bool.true_and, Bool.and_true, wlk_len, wlk_isinst, wlk_tuple, wlk_list, wlk_all, wlk_any, wlk_sorted, wlk_sum, wlk_max, wlk_min, wlk_abs, wlk_int, wlk_str, wlk_range, Bool.false_eq_true, if_false, if_true, isNon, bnd, is_non_int, is_non_bool, is_non_str, is_non_tuple, is_non_list, is_non_dict, is_bl_int, is_bl_bool, is_bl_str, is_bl_tuple, is_bl_list, is_bl_dict, is_int_int, is_int_bool, is_int_str, is_int_tuple, is_int_list, is_int_dict, is_str_int, is_str_bool, is_str_str, is_str_tuple, is_str_list, is_str_dict, is_tup_int, is_tup_bool, is_tup_str, is_tup_tuple, is_tup_list, is_tup_dict, is_lst_int, is_lst_bool, is_lst_str, is_lst_tuple, is_lst_list, is_lst_dict, e, eq_pair]
  · have e := is_pair_ok (N := n) (M := M) (a := a) (b := b) (by omega) (by omega) (by omega)
    have e2 := is_hand_ok (N := n) (M := M) (i := b) (by omega) (by omega) (by omega)
    have n1 : (a == 0) = false := by rw [beq_eq_false_iff_ne]; omega
    simp (disch := omega) only [f_is_stamp, b_is_stamp, c_FIRST_STAMP, startE, ev_var, ev_bor, ev_con, ev_neg, ev_bin, ev_cmp, ev_chain, ev_and, ev_or, ev_not, ev_ite, ev_join, ev_call, ev_callv, ev_bi, ev_tup, ev_lst, ev_sub, ev_slc, ev_me, ev_dct, ev_alloc, evs_nil, evs_cons, es_set, es_own, es_unp, es_ex, es_ret, es_retf, es_reto, es_retn, es_ite, es_whl, es_for, es_brk, es_cnt, es_pass, es_raise, es_try, es_sto, es_oput, es_omu, ess_nil, ess_cons, Ev.get, Ev.put, map1, map2, map3, List.length_cons, List.length_nil, List.replicate, List.cons_append, List.nil_append, List.getElem?_cons_zero, List.getElem?_cons_succ, List.set_cons_zero, List.set_cons_succ, Option.bind_some, id, Option.map_some, r_bind_ok, r_of_some, r_toS_ok, rs_nx, rs_rt, rs_exc, r_bind_exc, r_toS_exc, out_rt, out_nx, out_exc, nrm_int, nrm_bl, nrm_non, nrm_str, nrm_lst, nrm_tup, nrm_scr, nrm_ty, nrm_dct, nrm_kd, nrm_itr, nrm_fn, nrm_obj0, bin_mul_int, bin_add_int, bin_sub_int, bin_mod_int, bin_fdiv_int, bi_int_int, Nat.sub_self, w_sub0, w_sub1, w_sub2, w_sub3, w_put1, w_put2, w_put3, cmp_eq_int, cmp_ne_int, cmp_lt_int, cmp_gt_int, cmp_le_int, cmp_ge_int, bi_len_str, bi_len_tup, bi_len_lst, bi_tuple_lst, bi_list_lst, bi_max_int, itw_lst, itw_tup, itw_itr, itw_str, putT_one, putT_tup, puts_cons, puts_nil, seq_tup, seq_lst, mua_append, mua_popK, mua_upd, fit_append, fit_popK, box_lst, box_dct, dct_dct, bi_rangeW, bi_range2W, ite_tt, ite_ff, ite_tf, ite_ft, dec_lt_t, dec_lt_f, beq_t, beq_f, Bool.not_true, Bool.not_false, Bool.true_and, Bool.and_true, wlk_len, wlk_isinst, wlk_tuple, wlk_list, wlk_all, wlk_any, wlk_sorted, wlk_sum, wlk_max, wlk_min, wlk_abs, wlk_int, wlk_str, wlk_range, Bool.false_eq_true, if_false, if_true, isNon, bnd, is_non_int, is_non_bool, is_non_str, is_non_tuple, is_non_list, is_non_dict, is_bl_int, is_bl_bool, is_bl_str, is_bl_tuple, is_bl_list, is_bl_dict, is_int_int, is_int_bool, is_int_str, is_int_tuple, is_int_list, is_int_dict, is_str_int, is_str_bool, is_str_str, is_str_tuple, is_str_list, is_str_dict, is_tup_int, is_tup_bool, is_tup_str, is_tup_tuple, is_tup_list, is_tup_dict, is_lst_int, is_lst_bool, is_lst_str, is_lst_tuple, is_lst_list, is_lst_dict, e, e2, eq_pair, n1, sub2_0, sub2_1, Bool.false_and]
def MembersD (d : D) : Prop := ∃ ns : List Int, d = .tup (ns.map .int) ∧ 1 ≤ ns.length ∧ ns.length ≤ 9 ∧ (∀ i ∈ ns, 0 ≤ i ∧ i ≤ 8) ∧ ns.Pairwise (· < ·)
theorem is_members_ok {d : D} (h : 4 ≤ N) (hd : MembersD d) : Ev.run sub Γ N 14 [d] M = .ok (.bl true, M) := by
  obtain ⟨n, rfl⟩ : ∃ n, N = n + 1 := ⟨N - 1, by omega⟩
  obtain ⟨ns, rfl, h1, h2, h3, h4⟩ := hd
  rw [call_of (F := f_is_members) rfl rfl]
  obtain ⟨zs, hq, hz⟩ : ∃ zs, evE (Ev.run sub Γ n) q_is_members_0 [some (.tup (ns.map .int)), none] M = .ok (.lst zs, M) ∧ biD .all [.lst zs] = some (.bl true) := all_comp2 (d := .tup (ns.map .int)) rfl rfl (by rw [List.length_map]; exact sz_m (by omega)) fun y hy => by
    obtain ⟨i, hi, rfl⟩ := List.mem_map.mp hy
    refine ⟨[some (.tup (ns.map .int)), some (.int i)], rfl, ?_⟩
    have e := is_home_ok (N := n) (M := M) (by omega) (h3 i hi).1 (h3 i hi).2
    simp only [startE, ev_var, ev_bor, ev_con, ev_neg, ev_bin, ev_cmp, ev_chain, ev_and, ev_or, ev_not, ev_ite, ev_join, ev_call, ev_callv, ev_bi, ev_tup, ev_lst, ev_sub, ev_slc, ev_me, ev_dct, ev_alloc, evs_nil, evs_cons, es_set, es_own, es_unp, es_ex, es_ret, es_retf, es_reto, es_retn, es_ite, es_whl, es_for, es_brk, es_cnt, es_pass, es_raise, es_try, es_sto, es_oput, es_omu, ess_nil, ess_cons, Ev.get, Ev.put, map1, map2, map3, List.length_cons, List.length_nil, List.replicate, List.cons_append, List.nil_append, List.getElem?_cons_zero, List.getElem?_cons_succ, List.set_cons_zero, List.set_cons_succ, Option.bind_some, id, Option.map_some, r_bind_ok, r_of_some, r_toS_ok, rs_nx, rs_rt, rs_exc, r_bind_exc, r_toS_exc, out_rt, out_nx, out_exc, nrm_int, nrm_bl, nrm_non, nrm_str, nrm_lst, nrm_tup, nrm_scr, nrm_ty, nrm_dct, nrm_kd, nrm_itr, nrm_fn, nrm_obj0, bin_mul_int, bin_add_int, bin_sub_int, bin_mod_int, bin_fdiv_int, bi_int_int, Nat.sub_self, w_sub0, w_sub1, w_sub2, w_sub3, w_put1, w_put2, w_put3, cmp_eq_int, cmp_ne_int, cmp_lt_int, cmp_gt_int, cmp_le_int, cmp_ge_int, bi_len_str, bi_len_tup, bi_len_lst, bi_tuple_lst, bi_list_lst, bi_max_int, itw_lst, itw_tup, itw_itr, itw_str, putT_one, putT_tup, puts_cons, puts_nil, seq_tup, seq_lst, mua_append, mua_popK, mua_upd, fit_append, fit_popK, box_lst, box_dct, dct_dct, bi_rangeW, bi_range2W, ite_tt, ite_ff, ite_tf, ite_ft, dec_lt_t, dec_lt_f, beq_t, beq_f, Bool.not_true, Bool.not_false, Bool.true_and, Bool.and_true, wlk_len, wlk_isinst, wlk_tuple, wlk_list, wlk_all, wlk_any, wlk_sorted, wlk_sum, wlk_max, wlk_min, wlk_abs, wlk_int, wlk_str, wlk_range, Bool.false_eq_true, if_false, if_true, isNon, bnd, is_non_int, is_non_bool, is_non_str, is_non_tuple, is_non_list, is_non_dict, is_bl_int, is_bl_bool, is_bl_str, is_bl_tuple, is_bl_list, is_bl_dict, is_int_int, is_int_bool, is_int_str, is_int_tuple, is_int_list, is_int_dict, is_str_int, is_str_bool, is_str_str, is_str_tuple, is_str_list, is_str_dict, is_tup_int, is_tup_bool, is_tup_str, is_tup_tuple, is_tup_list, is_tup_dict, is_lst_int, is_lst_bool, is_lst_str, is_lst_tuple, is_lst_list, is_lst_dict, e]
  have ha : ∀ M, Ev.run sub Γ n 5 [.tup (ns.map .int)] M = .ok (.bl true, M) := fun M => are_ascending_tup (by omega) (List.pairwise_map.mpr (h4.imp fun h => decide_eq_true h)) (fun a ha b hb => by
    obtain ⟨i, _, rfl⟩ := List.mem_map.mp ha
    obtain ⟨j, _, rfl⟩ := List.mem_map.mp hb
    rfl) (by rw [List.length_map]; omega)
  simp (disch := omega) only [f_is_members, b_is_members, startE, ev_var, ev_bor, ev_con, ev_neg, ev_bin, ev_cmp, ev_chain, ev_and, ev_or, ev_not, ev_ite, ev_join, ev_call, ev_callv, ev_bi, ev_tup, ev_lst, ev_sub, ev_slc, ev_me, ev_dct, ev_alloc, evs_nil, evs_cons, es_set, es_own, es_unp, es_ex, es_ret, es_retf, es_reto, es_retn, es_ite, es_whl, es_for, es_brk, es_cnt, es_pass, es_raise, es_try, es_sto, es_oput, es_omu, ess_nil, ess_cons, Ev.get, Ev.put, map1, map2, map3, List.length_cons, List.length_nil, List.replicate, List.cons_append, List.nil_append, List.getElem?_cons_zero, List.getElem?_cons_succ, List.set_cons_zero, List.set_cons_succ, Option.bind_some, id, Option.map_some, r_bind_ok, r_of_some, r_toS_ok, rs_nx, rs_rt, rs_exc, r_bind_exc, r_toS_exc, out_rt, out_nx, out_exc, nrm_int, nrm_bl, nrm_non, nrm_str, nrm_lst, nrm_tup, nrm_scr, nrm_ty, nrm_dct, nrm_kd, nrm_itr, nrm_fn, nrm_obj0, bin_mul_int, bin_add_int, bin_sub_int, bin_mod_int, bin_fdiv_int, bi_int_int, Nat.sub_self, w_sub0, w_sub1, w_sub2, w_sub3, w_put1, w_put2, w_put3, cmp_eq_int, cmp_ne_int, cmp_lt_int, cmp_gt_int, cmp_le_int, cmp_ge_int, bi_len_str, bi_len_tup, bi_len_lst, bi_tuple_lst, bi_list_lst, bi_max_int, itw_lst, itw_tup, itw_itr, itw_str, putT_one, putT_tup, puts_cons, puts_nil, seq_tup, seq_lst, mua_append, mua_popK, mua_upd, fit_append, fit_popK, box_lst, box_dct, dct_dct, bi_rangeW, bi_range2W, ite_tt, ite_ff, ite_tf, ite_ft, dec_lt_t, dec_lt_f, beq_t, beq_f, Bool.not_true, Bool.not_false, Bool.true_and, Bool.and_true, wlk_len, wlk_isinst, wlk_tuple, wlk_list, wlk_all, wlk_any, wlk_sorted, wlk_sum, wlk_max, wlk_min, wlk_abs, wlk_int, wlk_str, wlk_range, Bool.false_eq_true, if_false, if_true, isNon, bnd, is_non_int, is_non_bool, is_non_str, is_non_tuple, is_non_list, is_non_dict, is_bl_int, is_bl_bool, is_bl_str, is_bl_tuple, is_bl_list, is_bl_dict, is_int_int, is_int_bool, is_int_str, is_int_tuple, is_int_list, is_int_dict, is_str_int, is_str_bool, is_str_str, is_str_tuple, is_str_list, is_str_dict, is_tup_int, is_tup_bool, is_tup_str, is_tup_tuple, is_tup_list, is_tup_dict, is_lst_int, is_lst_bool, is_lst_str, is_lst_tuple, is_lst_list, is_lst_dict, hq, hz, ha, List.length_map]
end
section
variable {N : Nat} {M : Sto}
section
variable {x0 x1 x2 x3 x4 x5 x6 x7 x8 x9 : D}
theorem sub1_0 : subD (.tup [x0]) (.int 0) = some x0 := of_eq_true (eq_self _)
theorem sub3_0 : subD (.tup [x0, x1, x2]) (.int 0) = some x0 := of_eq_true (eq_self _)
theorem sub3_1 : subD (.tup [x0, x1, x2]) (.int 1) = some x1 := of_eq_true (eq_self _)
theorem sub3_2 : subD (.tup [x0, x1, x2]) (.int 2) = some x2 := of_eq_true (eq_self _)
theorem sub4_0 : subD (.tup [x0, x1, x2, x3]) (.int 0) = some x0 := of_eq_true (eq_self _)
theorem sub4_1 : subD (.tup [x0, x1, x2, x3]) (.int 1) = some x1 := of_eq_true (eq_self _)
theorem sub4_2 : subD (.tup [x0, x1, x2, x3]) (.int 2) = some x2 := of_eq_true (eq_self _)
theorem sub4_3 : subD (.tup [x0, x1, x2, x3]) (.int 3) = some x3 := of_eq_true (eq_self _)
theorem slc4_h3 : slcD (.tup [x0, x1, x2, x3]) none (some 3) = some (.tup [x0, x1, x2]) := of_eq_true (eq_self _)
theorem slc4_h2 : slcD (.tup [x0, x1, x2, x3]) none (some 2) = some (.tup [x0, x1]) := of_eq_true (eq_self _)
theorem slc4_l1 : slcD (.tup [x0, x1, x2, x3]) (some 1) none = some (.tup [x1, x2, x3]) := of_eq_true (eq_self _)
theorem slc4_l2 : slcD (.tup [x0, x1, x2, x3]) (some 2) none = some (.tup [x2, x3]) := of_eq_true (eq_self _)
theorem slc4_13 : slcD (.tup [x0, x1, x2, x3]) (some 1) (some 3) = some (.tup [x1, x2]) := of_eq_true (eq_self _)
theorem slc3_h2 : slcD (.tup [x0, x1, x2]) none (some 2) = some (.tup [x0, x1]) := of_eq_true (eq_self _)
theorem slc1_l1 : slcD (.tup [x0]) (some 1) none = some (.tup []) := of_eq_true (eq_self _)
theorem sub10_0 : subD (.tup [x0, x1, x2, x3, x4, x5, x6, x7, x8, x9]) (.int 0) = some x0 := of_eq_true (eq_self _)
theorem sub10_1 : subD (.tup [x0, x1, x2, x3, x4, x5, x6, x7, x8, x9]) (.int 1) = some x1 := of_eq_true (eq_self _)
theorem sub10_2 : subD (.tup [x0, x1, x2, x3, x4, x5, x6, x7, x8, x9]) (.int 2) = some x2 := of_eq_true (eq_self _)
theorem sub10_3 : subD (.tup [x0, x1, x2, x3, x4, x5, x6, x7, x8, x9]) (.int 3) = some x3 := of_eq_true (eq_self _)
theorem sub10_4 : subD (.tup [x0, x1, x2, x3, x4, x5, x6, x7, x8, x9]) (.int 4) = some x4 := of_eq_true (eq_self _)
theorem sub10_5 : subD (.tup [x0, x1, x2, x3, x4, x5, x6, x7, x8, x9]) (.int 5) = some x5 := of_eq_true (eq_self _)
theorem sub10_6 : subD (.tup [x0, x1, x2, x3, x4, x5, x6, x7, x8, x9]) (.int 6) = some x6 := of_eq_true (eq_self _)
theorem sub10_7 : subD (.tup [x0, x1, x2, x3, x4, x5, x6, x7, x8, x9]) (.int 7) = some x7 := of_eq_true (eq_self _)
theorem sub10_8 : subD (.tup [x0, x1, x2, x3, x4, x5, x6, x7, x8, x9]) (.int 8) = some x8 := of_eq_true (eq_self _)
theorem sub10_9 : subD (.tup [x0, x1, x2, x3, x4, x5, x6, x7, x8, x9]) (.int 9) = some x9 := of_eq_true (eq_self _)
end
theorem is_nn : cmpD .is .non .non = some true := of_eq_true (eq_self _)
theorem is_tn (xs : List D) : cmpD .is (.tup xs) .non = some false := of_eq_true (eq_self _)
theorem isnt_nn : cmpD .isnt .non .non = some false := of_eq_true (eq_self _)
theorem isnt_tn (xs : List D) : cmpD .isnt (.tup xs) .non = some true := of_eq_true (eq_self _)
def fstD : D → D
  | .tup (a :: _) => a
  | d => d
def HeadD (d : D) : Prop := ∃ x s r, d = .tup [.str x, s, r] ∧ NameOk x ∧ StampD s ∧ RowD r
theorem is_named_head_ok {d : D} (h : 7 ≤ N) (hd : HeadD d) : Ev.run sub Γ N 17 [d] M = .ok (.bl true, M) := by
  obtain ⟨x, s, r, rfl, h1, h2, h3⟩ := hd
  have e : ([D.str x, s, r].length : Int) = 3 := rfl
  (obtain ⟨n, rfl⟩ : ∃ n, N = n + 1 := ⟨N - 1, by omega⟩; rw [call_of (F := f_is_named_head) rfl rfl]; simp (disch := first | assumption | omega) only [f_is_named_head, b_is_named_head, startE, ev_var, ev_bor, ev_con, ev_neg, ev_bin, ev_cmp, ev_chain, ev_and, ev_or, ev_not, ev_ite, ev_join, ev_call, ev_callv, ev_bi, ev_tup, ev_lst, ev_sub, ev_slc, ev_me, ev_dct, ev_alloc, evs_nil, evs_cons, es_set, es_own, es_unp, es_ex, es_ret, es_retf, es_reto, es_retn, es_ite, es_whl, es_for, es_brk, es_cnt, es_pass, es_raise, es_try, es_sto, es_oput, es_omu, ess_nil, ess_cons, Ev.get, Ev.put, map1, map2, map3, List.length_cons, List.length_nil, List.replicate, List.cons_append, List.nil_append, List.getElem?_cons_zero, List.getElem?_cons_succ, List.set_cons_zero, List.set_cons_succ, Option.bind_some, id, Option.map_some, r_bind_ok, r_of_some, r_toS_ok, rs_nx, rs_rt, rs_exc, r_bind_exc, r_toS_exc, out_rt, out_nx, out_exc, nrm_int, nrm_bl, nrm_non, nrm_str, nrm_lst, nrm_tup, nrm_scr, nrm_ty, nrm_dct, nrm_kd, nrm_itr, nrm_fn, nrm_obj0, bin_mul_int, bin_add_int, bin_sub_int, bin_mod_int, bin_fdiv_int, bi_int_int, Nat.sub_self, w_sub0, w_sub1, w_sub2, w_sub3, w_put1, w_put2, w_put3, cmp_eq_int, cmp_ne_int, cmp_lt_int, cmp_gt_int, cmp_le_int, cmp_ge_int, bi_len_str, bi_len_tup, bi_len_lst, bi_tuple_lst, bi_list_lst, bi_max_int, itw_lst, itw_tup, itw_itr, itw_str, putT_one, putT_tup, puts_cons, puts_nil, seq_tup, seq_lst, mua_append, mua_popK, mua_upd, fit_append, fit_popK, box_lst, box_dct, dct_dct, bi_rangeW, bi_range2W, ite_tt, ite_ff, ite_tf, ite_ft, dec_lt_t, dec_lt_f, beq_t, beq_f, Bool.not_true, Bool.not_false, Bool.true_and, Bool.and_true, wlk_len, wlk_isinst, wlk_tuple, wlk_list, wlk_all, wlk_any, wlk_sorted, wlk_sum, wlk_max, wlk_min, wlk_abs, wlk_int, wlk_str, wlk_range, Bool.false_eq_true, if_false, if_true, isNon, bnd, is_non_int, is_non_bool, is_non_str, is_non_tuple, is_non_list, is_non_dict, is_bl_int, is_bl_bool, is_bl_str, is_bl_tuple, is_bl_list, is_bl_dict, is_int_int, is_int_bool, is_int_str, is_int_tuple, is_int_list, is_int_dict, is_str_int, is_str_bool, is_str_str, is_str_tuple, is_str_list, is_str_dict, is_tup_int, is_tup_bool, is_tup_str, is_tup_tuple, is_tup_list, is_tup_dict, is_lst_int, is_lst_bool, is_lst_str, is_lst_tuple, is_lst_list, is_lst_dict, is_tuple_of_ok, is_name_ok, is_stamp_ok, is_row_ok, sub3_0, sub3_1, sub3_2])
def HeadsD (d : D) : Prop := ∃ hs : List D, d = .tup hs ∧ hs.length ≤ 1000 ∧ (∀ h ∈ hs, HeadD h) ∧ Asc (hs.map fstD)
theorem are_heads_ok {d : D} (h : 8 ≤ N) (hd : HeadsD d) : Ev.run sub Γ N 16 [d] M = .ok (.bl true, M) := by
  obtain ⟨n, rfl⟩ : ∃ n, N = n + 1 := ⟨N - 1, by omega⟩
  obtain ⟨hs, rfl, hl, hh, ha⟩ := hd
  rw [call_of (F := f_are_heads) rfl rfl]
  obtain ⟨zs, hq, hz⟩ : ∃ zs, evE (Ev.run sub Γ n) q_are_heads_0 [some (.tup hs), none] M = .ok (.lst zs, M) ∧ biD .all [.lst zs] = some (.bl true) := all_comp2 (d := .tup hs) rfl rfl (sz_m (by omega)) fun y hy => by
    refine ⟨[some (.tup hs), some y], rfl, ?_⟩
    have e := is_named_head_ok (N := n) (M := M) (by omega) (hh y hy)
    simp only [startE, ev_var, ev_bor, ev_con, ev_neg, ev_bin, ev_cmp, ev_chain, ev_and, ev_or, ev_not, ev_ite, ev_join, ev_call, ev_callv, ev_bi, ev_tup, ev_lst, ev_sub, ev_slc, ev_me, ev_dct, ev_alloc, evs_nil, evs_cons, es_set, es_own, es_unp, es_ex, es_ret, es_retf, es_reto, es_retn, es_ite, es_whl, es_for, es_brk, es_cnt, es_pass, es_raise, es_try, es_sto, es_oput, es_omu, ess_nil, ess_cons, Ev.get, Ev.put, map1, map2, map3, List.length_cons, List.length_nil, List.replicate, List.cons_append, List.nil_append, List.getElem?_cons_zero, List.getElem?_cons_succ, List.set_cons_zero, List.set_cons_succ, Option.bind_some, id, Option.map_some, r_bind_ok, r_of_some, r_toS_ok, rs_nx, rs_rt, rs_exc, r_bind_exc, r_toS_exc, out_rt, out_nx, out_exc, nrm_int, nrm_bl, nrm_non, nrm_str, nrm_lst, nrm_tup, nrm_scr, nrm_ty, nrm_dct, nrm_kd, nrm_itr, nrm_fn, nrm_obj0, bin_mul_int, bin_add_int, bin_sub_int, bin_mod_int, bin_fdiv_int, bi_int_int, Nat.sub_self, w_sub0, w_sub1, w_sub2, w_sub3, w_put1, w_put2, w_put3, cmp_eq_int, cmp_ne_int, cmp_lt_int, cmp_gt_int, cmp_le_int, cmp_ge_int, bi_len_str, bi_len_tup, bi_len_lst, bi_tuple_lst, bi_list_lst, bi_max_int, itw_lst, itw_tup, itw_itr, itw_str, putT_one, putT_tup, puts_cons, puts_nil, seq_tup, seq_lst, mua_append, mua_popK, mua_upd, fit_append, fit_popK, box_lst, box_dct, dct_dct, bi_rangeW, bi_range2W, ite_tt, ite_ff, ite_tf, ite_ft, dec_lt_t, dec_lt_f, beq_t, beq_f, Bool.not_true, Bool.not_false, Bool.true_and, Bool.and_true, wlk_len, wlk_isinst, wlk_tuple, wlk_list, wlk_all, wlk_any, wlk_sorted, wlk_sum, wlk_max, wlk_min, wlk_abs, wlk_int, wlk_str, wlk_range, Bool.false_eq_true, if_false, if_true, isNon, bnd, is_non_int, is_non_bool, is_non_str, is_non_tuple, is_non_list, is_non_dict, is_bl_int, is_bl_bool, is_bl_str, is_bl_tuple, is_bl_list, is_bl_dict, is_int_int, is_int_bool, is_int_str, is_int_tuple, is_int_list, is_int_dict, is_str_int, is_str_bool, is_str_str, is_str_tuple, is_str_list, is_str_dict, is_tup_int, is_tup_bool, is_tup_str, is_tup_tuple, is_tup_list, is_tup_dict, is_lst_int, is_lst_bool, is_lst_str, is_lst_tuple, is_lst_list, is_lst_dict, e]
  have h2 : evE (Ev.run sub Γ n) q_are_heads_1 [some (.tup hs), none] M = .ok (.lst (hs.map fstD), M) := comp_map (d := .tup hs) rfl rfl (sz_m (by omega)) fun y hy => by
    obtain ⟨x, s, r, rfl, _, _, _⟩ := hh y hy
    refine ⟨[some (.tup hs), some (.tup [.str x, s, r])], rfl, ?_⟩
    simp only [startE, ev_var, ev_bor, ev_con, ev_neg, ev_bin, ev_cmp, ev_chain, ev_and, ev_or, ev_not, ev_ite, ev_join, ev_call, ev_callv, ev_bi, ev_tup, ev_lst, ev_sub, ev_slc, ev_me, ev_dct, ev_alloc, evs_nil, evs_cons, es_set, es_own, es_unp, es_ex, es_ret, es_retf, es_reto, es_retn, es_ite, es_whl, es_for, es_brk, es_cnt, es_pass, es_raise, es_try, es_sto, es_oput, es_omu, ess_nil, ess_cons, Ev.get, Ev.put, map1, map2, map3, List.length_cons, List.length_nil, List.replicate, List.cons_append, List.nil_append, List.getElem?_cons_zero, List.getElem?_cons_succ, List.set_cons_zero, List.set_cons_succ, Option.bind_some, id, Option.map_some, r_bind_ok, r_of_some, r_toS_ok, rs_nx, rs_rt, rs_exc, r_bind_exc, r_toS_exc, out_rt, out_nx, out_exc, nrm_int, nrm_bl, nrm_non, nrm_str, nrm_lst, nrm_tup, nrm_scr, nrm_ty, nrm_dct, nrm_kd, nrm_itr, nrm_fn, nrm_obj0, bin_mul_int, bin_add_int, bin_sub_int, bin_mod_int, bin_fdiv_int, bi_int_int, Nat.sub_self, w_sub0, w_sub1, w_sub2, w_sub3, w_put1, w_put2, w_put3, cmp_eq_int, cmp_ne_int, cmp_lt_int, cmp_gt_int, cmp_le_int, cmp_ge_int, bi_len_str, bi_len_tup, bi_len_lst, bi_tuple_lst, bi_list_lst, bi_max_int, itw_lst, itw_tup, itw_itr, itw_str, putT_one, putT_tup, puts_cons, puts_nil, seq_tup, seq_lst, mua_append, mua_popK, mua_upd, fit_append, fit_popK, box_lst, box_dct, dct_dct, bi_rangeW, bi_range2W, ite_tt, ite_ff, ite_tf, ite_ft, dec_lt_t, dec_lt_f, beq_t, beq_f, Bool.not_true, Bool.not_false, Bool.true_and, Bool.and_true, wlk_len, wlk_isinst, wlk_tuple, wlk_list, wlk_all, wlk_any, wlk_sorted, wlk_sum, wlk_max, wlk_min, wlk_abs, wlk_int, wlk_str, wlk_range, Bool.false_eq_true, if_false, if_true, isNon, bnd, is_non_int, is_non_bool, is_non_str, is_non_tuple, is_non_list, is_non_dict, is_bl_int, is_bl_bool, is_bl_str, is_bl_tuple, is_bl_list, is_bl_dict, is_int_int, is_int_bool, is_int_str, is_int_tuple, is_int_list, is_int_dict, is_str_int, is_str_bool, is_str_str, is_str_tuple, is_str_list, is_str_dict, is_tup_int, is_tup_bool, is_tup_str, is_tup_tuple, is_tup_list, is_tup_dict, is_lst_int, is_lst_bool, is_lst_str, is_lst_tuple, is_lst_list, is_lst_dict, sub3_0, fstD]
  have h3 := are_ascending_ok (N := n) (M := M) (ds := hs.map fstD) (by omega) ha (fun a ha b hb => by
    obtain ⟨y, hy, rfl⟩ := List.mem_map.mp ha
    obtain ⟨z, hz, rfl⟩ := List.mem_map.mp hb
    obtain ⟨x, s, r, rfl, _, _, _⟩ := hh y hy
    obtain ⟨x', s', r', rfl, _, _, _⟩ := hh z hz
    rfl) (by rw [List.length_map]; omega)
  simp (disch := omega) only [f_are_heads, b_are_heads, startE, ev_var, ev_bor, ev_con, ev_neg, ev_bin, ev_cmp, ev_chain, ev_and, ev_or, ev_not, ev_ite, ev_join, ev_call, ev_callv, ev_bi, ev_tup, ev_lst, ev_sub, ev_slc, ev_me, ev_dct, ev_alloc, evs_nil, evs_cons, es_set, es_own, es_unp, es_ex, es_ret, es_retf, es_reto, es_retn, es_ite, es_whl, es_for, es_brk, es_cnt, es_pass, es_raise, es_try, es_sto, es_oput, es_omu, ess_nil, ess_cons, Ev.get, Ev.put, map1, map2, map3, List.length_cons, List.length_nil, List.replicate, List.cons_append, List.nil_append, List.getElem?_cons_zero, List.getElem?_cons_succ, List.set_cons_zero, List.set_cons_succ, Option.bind_some, id, Option.map_some, r_bind_ok, r_of_some, r_toS_ok, rs_nx, rs_rt, rs_exc, r_bind_exc, r_toS_exc, out_rt, out_nx, out_exc, nrm_int, nrm_bl, nrm_non, nrm_str, nrm_lst, nrm_tup, nrm_scr, nrm_ty, nrm_dct, nrm_kd, nrm_itr, nrm_fn, nrm_obj0, bin_mul_int, bin_add_int, bin_sub_int, bin_mod_int, bin_fdiv_int, bi_int_int, Nat.sub_self, w_sub0, w_sub1, w_sub2, w_sub3, w_put1, w_put2, w_put3, cmp_eq_int, cmp_ne_int, cmp_lt_int, cmp_gt_int, cmp_le_int, cmp_ge_int, bi_len_str, bi_len_tup, bi_len_lst, bi_tuple_lst, bi_list_lst, bi_max_int, itw_lst, itw_tup, itw_itr, itw_str, putT_one, putT_tup, puts_cons, puts_nil, seq_tup, seq_lst, mua_append, mua_popK, mua_upd, fit_append, fit_popK, box_lst, box_dct, dct_dct, bi_rangeW, bi_range2W, ite_tt, ite_ff, ite_tf, ite_ft, dec_lt_t, dec_lt_f, beq_t, beq_f, Bool.not_true, Bool.not_false, Bool.true_and, Bool.and_true, wlk_len, wlk_isinst, wlk_tuple, wlk_list, wlk_all, wlk_any, wlk_sorted, wlk_sum, wlk_max, wlk_min, wlk_abs, wlk_int, wlk_str, wlk_range, Bool.false_eq_true, if_false, if_true, isNon, bnd, is_non_int, is_non_bool, is_non_str, is_non_tuple, is_non_list, is_non_dict, is_bl_int, is_bl_bool, is_bl_str, is_bl_tuple, is_bl_list, is_bl_dict, is_int_int, is_int_bool, is_int_str, is_int_tuple, is_int_list, is_int_dict, is_str_int, is_str_bool, is_str_str, is_str_tuple, is_str_list, is_str_dict, is_tup_int, is_tup_bool, is_tup_str, is_tup_tuple, is_tup_list, is_tup_dict, is_lst_int, is_lst_bool, is_lst_str, is_lst_tuple, is_lst_list, is_lst_dict, hq, hz, h2, h3]
def BlockD (d : D) : Prop := ∃ i x, d = .tup [i, .str x] ∧ IdD i ∧ SignsOk x ∧ 1 ≤ x.length ∧ x.length ≤ 8
def BlocksD (d : D) : Prop := ∃ hs : List D, d = .tup hs ∧ hs.length ≤ 1000 ∧ (∀ h ∈ hs, BlockD h) ∧ Asc (hs.map fstD)
theorem are_blocks_ok {d : D} (h : 8 ≤ N) (hd : BlocksD d) : Ev.run sub Γ N 18 [d] M = .ok (.bl true, M) := by
  obtain ⟨n, rfl⟩ : ∃ n, N = n + 1 := ⟨N - 1, by omega⟩
  obtain ⟨hs, rfl, hl, hh, ha⟩ := hd
  rw [call_of (F := f_are_blocks) rfl rfl]
  obtain ⟨zs, hq, hz⟩ : ∃ zs, evE (Ev.run sub Γ n) q_are_blocks_0 [some (.tup hs), none] M = .ok (.lst zs, M) ∧ biD .all [.lst zs] = some (.bl true) := all_comp2 (d := .tup hs) rfl rfl (sz_m (by omega)) fun y hy => by
    obtain ⟨i, x, rfl, ⟨a, b, rfl, i1, i2, i3⟩, hx, x1, x2⟩ := hh y hy
    refine ⟨[some (.tup hs), some (.tup [.tup [.int a, .int b], .str x])], rfl, ?_⟩
    have e := is_id_ok (N := n) (M := M) (by omega) i1 i2 i3
    have e2 := is_piece_ok (N := n) (M := M) (by omega) hx x1 x2
    have e3 := is_tuple_of_ok (N := n) (M := M) (xs := [.tup [.int a, .int b], .str x]) (k := 2) (by omega) rfl
    simp only [startE, ev_var, ev_bor, ev_con, ev_neg, ev_bin, ev_cmp, ev_chain, ev_and, ev_or, ev_not, ev_ite, ev_join, ev_call, ev_callv, ev_bi, ev_tup, ev_lst, ev_sub, ev_slc, ev_me, ev_dct, ev_alloc, evs_nil, evs_cons, es_set, es_own, es_unp, es_ex, es_ret, es_retf, es_reto, es_retn, es_ite, es_whl, es_for, es_brk, es_cnt, es_pass, es_raise, es_try, es_sto, es_oput, es_omu, ess_nil, ess_cons, Ev.get, Ev.put, map1, map2, map3, List.length_cons, List.length_nil, List.replicate, List.cons_append, List.nil_append, List.getElem?_cons_zero, List.getElem?_cons_succ, List.set_cons_zero, List.set_cons_succ, Option.bind_some, id, Option.map_some, r_bind_ok, r_of_some, r_toS_ok, rs_nx, rs_rt, rs_exc, r_bind_exc, r_toS_exc, out_rt, out_nx, out_exc, nrm_int, nrm_bl, nrm_non, nrm_str, nrm_lst, nrm_tup, nrm_scr, nrm_ty, nrm_dct, nrm_kd, nrm_itr, nrm_fn, nrm_obj0, bin_mul_int, bin_add_int, bin_sub_int, bin_mod_int, bin_fdiv_int, bi_int_int, Nat.sub_self, w_sub0, w_sub1, w_sub2, w_sub3, w_put1, w_put2, w_put3, cmp_eq_int, cmp_ne_int, cmp_lt_int, cmp_gt_int, cmp_le_int, cmp_ge_int, bi_len_str, bi_len_tup, bi_len_lst, bi_tuple_lst, bi_list_lst, bi_max_int, itw_lst, itw_tup, itw_itr, itw_str, putT_one, putT_tup, puts_cons, puts_nil, seq_tup, seq_lst, mua_append, mua_popK, mua_upd, fit_append, fit_popK, box_lst, box_dct, dct_dct, bi_rangeW, bi_range2W, ite_tt, ite_ff, ite_tf, ite_ft, dec_lt_t, dec_lt_f, beq_t, beq_f, Bool.not_true, Bool.not_false, Bool.true_and, Bool.and_true, wlk_len, wlk_isinst, wlk_tuple, wlk_list, wlk_all, wlk_any, wlk_sorted, wlk_sum, wlk_max, wlk_min, wlk_abs, wlk_int, wlk_str, wlk_range, Bool.false_eq_true, if_false, if_true, isNon, bnd, is_non_int, is_non_bool, is_non_str, is_non_tuple, is_non_list, is_non_dict, is_bl_int, is_bl_bool, is_bl_str, is_bl_tuple, is_bl_list, is_bl_dict, is_int_int, is_int_bool, is_int_str, is_int_tuple, is_int_list, is_int_dict, is_str_int, is_str_bool, is_str_str, is_str_tuple, is_str_list, is_str_dict, is_tup_int, is_tup_bool, is_tup_str, is_tup_tuple, is_tup_list, is_tup_dict, is_lst_int, is_lst_bool, is_lst_str, is_lst_tuple, is_lst_list, is_lst_dict, e, e2, e3, sub2_0, sub2_1]
  have h2 : evE (Ev.run sub Γ n) q_are_blocks_1 [some (.tup hs), none] M = .ok (.lst (hs.map fstD), M) := comp_map (d := .tup hs) rfl rfl (sz_m (by omega)) fun y hy => by
    obtain ⟨i, x, rfl, _⟩ := hh y hy
    refine ⟨[some (.tup hs), some (.tup [i, .str x])], rfl, ?_⟩
    simp only [startE, ev_var, ev_bor, ev_con, ev_neg, ev_bin, ev_cmp, ev_chain, ev_and, ev_or, ev_not, ev_ite, ev_join, ev_call, ev_callv, ev_bi, ev_tup, ev_lst, ev_sub, ev_slc, ev_me, ev_dct, ev_alloc, evs_nil, evs_cons, es_set, es_own, es_unp, es_ex, es_ret, es_retf, es_reto, es_retn, es_ite, es_whl, es_for, es_brk, es_cnt, es_pass, es_raise, es_try, es_sto, es_oput, es_omu, ess_nil, ess_cons, Ev.get, Ev.put, map1, map2, map3, List.length_cons, List.length_nil, List.replicate, List.cons_append, List.nil_append, List.getElem?_cons_zero, List.getElem?_cons_succ, List.set_cons_zero, List.set_cons_succ, Option.bind_some, id, Option.map_some, r_bind_ok, r_of_some, r_toS_ok, rs_nx, rs_rt, rs_exc, r_bind_exc, r_toS_exc, out_rt, out_nx, out_exc, nrm_int, nrm_bl, nrm_non, nrm_str, nrm_lst, nrm_tup, nrm_scr, nrm_ty, nrm_dct, nrm_kd, nrm_itr, nrm_fn, nrm_obj0, bin_mul_int, bin_add_int, bin_sub_int, bin_mod_int, bin_fdiv_int, bi_int_int, Nat.sub_self, w_sub0, w_sub1, w_sub2, w_sub3, w_put1, w_put2, w_put3, cmp_eq_int, cmp_ne_int, cmp_lt_int, cmp_gt_int, cmp_le_int, cmp_ge_int, bi_len_str, bi_len_tup, bi_len_lst, bi_tuple_lst, bi_list_lst, bi_max_int, itw_lst, itw_tup, itw_itr, itw_str, putT_one, putT_tup, puts_cons, puts_nil, seq_tup, seq_lst, mua_append, mua_popK, mua_upd, fit_append, fit_popK, box_lst, box_dct, dct_dct, bi_rangeW, bi_range2W, ite_tt, ite_ff, ite_tf, ite_ft, dec_lt_t, dec_lt_f, beq_t, beq_f, Bool.not_true, Bool.not_false, Bool.true_and, Bool.and_true, wlk_len, wlk_isinst, wlk_tuple, wlk_list, wlk_all, wlk_any, wlk_sorted, wlk_sum, wlk_max, wlk_min, wlk_abs, wlk_int, wlk_str, wlk_range, Bool.false_eq_true, if_false, if_true, isNon, bnd, is_non_int, is_non_bool, is_non_str, is_non_tuple, is_non_list, is_non_dict, is_bl_int, is_bl_bool, is_bl_str, is_bl_tuple, is_bl_list, is_bl_dict, is_int_int, is_int_bool, is_int_str, is_int_tuple, is_int_list, is_int_dict, is_str_int, is_str_bool, is_str_str, is_str_tuple, is_str_list, is_str_dict, is_tup_int, is_tup_bool, is_tup_str, is_tup_tuple, is_tup_list, is_tup_dict, is_lst_int, is_lst_bool, is_lst_str, is_lst_tuple, is_lst_list, is_lst_dict, sub2_0, fstD]
  have h3 := are_ascending_ok (N := n) (M := M) (ds := hs.map fstD) (by omega) ha (fun a ha b hb => by
    obtain ⟨y, hy, rfl⟩ := List.mem_map.mp ha
    obtain ⟨z, hz, rfl⟩ := List.mem_map.mp hb
    obtain ⟨i, x, rfl, ⟨a, b, rfl, _⟩, _⟩ := hh y hy
    obtain ⟨i', x', rfl, ⟨a', b', rfl, _⟩, _⟩ := hh z hz
    rfl) (by rw [List.length_map]; omega)
  simp (disch := omega) only [f_are_blocks, b_are_blocks, startE, ev_var, ev_bor, ev_con, ev_neg, ev_bin, ev_cmp, ev_chain, ev_and, ev_or, ev_not, ev_ite, ev_join, ev_call, ev_callv, ev_bi, ev_tup, ev_lst, ev_sub, ev_slc, ev_me, ev_dct, ev_alloc, evs_nil, evs_cons, es_set, es_own, es_unp, es_ex, es_ret, es_retf, es_reto, es_retn, es_ite, es_whl, es_for, es_brk, es_cnt, es_pass, es_raise, es_try, es_sto, es_oput, es_omu, ess_nil, ess_cons, Ev.get, Ev.put, map1, map2, map3, List.length_cons, List.length_nil, List.replicate, List.cons_append, List.nil_append, List.getElem?_cons_zero, List.getElem?_cons_succ, List.set_cons_zero, List.set_cons_succ, Option.bind_some, id, Option.map_some, r_bind_ok, r_of_some, r_toS_ok, rs_nx, rs_rt, rs_exc, r_bind_exc, r_toS_exc, out_rt, out_nx, out_exc, nrm_int, nrm_bl, nrm_non, nrm_str, nrm_lst, nrm_tup, nrm_scr, nrm_ty, nrm_dct, nrm_kd, nrm_itr, nrm_fn, nrm_obj0, bin_mul_int, bin_add_int, bin_sub_int, bin_mod_int, bin_fdiv_int, bi_int_int, Nat.sub_self, w_sub0, w_sub1, w_sub2, w_sub3, w_put1, w_put2, w_put3, cmp_eq_int, cmp_ne_int, cmp_lt_int, cmp_gt_int, cmp_le_int, cmp_ge_int, bi_len_str, bi_len_tup, bi_len_lst, bi_tuple_lst, bi_list_lst, bi_max_int, itw_lst, itw_tup, itw_itr, itw_str, putT_one, putT_tup, puts_cons, puts_nil, seq_tup, seq_lst, mua_append, mua_popK, mua_upd, fit_append, fit_popK, box_lst, box_dct, dct_dct, bi_rangeW, bi_range2W, ite_tt, ite_ff, ite_tf, ite_ft, dec_lt_t, dec_lt_f, beq_t, beq_f, Bool.not_true, Bool.not_false, Bool.true_and, Bool.and_true, wlk_len, wlk_isinst, wlk_tuple, wlk_list, wlk_all, wlk_any, wlk_sorted, wlk_sum, wlk_max, wlk_min, wlk_abs, wlk_int, wlk_str, wlk_range, Bool.false_eq_true, if_false, if_true, isNon, bnd, is_non_int, is_non_bool, is_non_str, is_non_tuple, is_non_list, is_non_dict, is_bl_int, is_bl_bool, is_bl_str, is_bl_tuple, is_bl_list, is_bl_dict, is_int_int, is_int_bool, is_int_str, is_int_tuple, is_int_list, is_int_dict, is_str_int, is_str_bool, is_str_str, is_str_tuple, is_str_list, is_str_dict, is_tup_int, is_tup_bool, is_tup_str, is_tup_tuple, is_tup_list, is_tup_dict, is_lst_int, is_lst_bool, is_lst_str, is_lst_tuple, is_lst_list, is_lst_dict, hq, hz, h2, h3]
theorem is_held_ok {x : List Nat} {a b : Int} (h : 4 ≤ N) (hx : NameOk x) (h1 : 1 ≤ a) (h2 : a ≤ 99) (h3 : 0 ≤ b) : Ev.run sub Γ N 20 [.tup [.str x, .int a, .int b]] M = .ok (.bl true, M) := by
  have e : ([D.str x, D.int a, D.int b].length : Int) = 3 := rfl
  (obtain ⟨n, rfl⟩ : ∃ n, N = n + 1 := ⟨N - 1, by omega⟩; rw [call_of (F := f_is_held) rfl rfl]; simp (disch := first | assumption | omega) only [f_is_held, b_is_held, startE, ev_var, ev_bor, ev_con, ev_neg, ev_bin, ev_cmp, ev_chain, ev_and, ev_or, ev_not, ev_ite, ev_join, ev_call, ev_callv, ev_bi, ev_tup, ev_lst, ev_sub, ev_slc, ev_me, ev_dct, ev_alloc, evs_nil, evs_cons, es_set, es_own, es_unp, es_ex, es_ret, es_retf, es_reto, es_retn, es_ite, es_whl, es_for, es_brk, es_cnt, es_pass, es_raise, es_try, es_sto, es_oput, es_omu, ess_nil, ess_cons, Ev.get, Ev.put, map1, map2, map3, List.length_cons, List.length_nil, List.replicate, List.cons_append, List.nil_append, List.getElem?_cons_zero, List.getElem?_cons_succ, List.set_cons_zero, List.set_cons_succ, Option.bind_some, id, Option.map_some, r_bind_ok, r_of_some, r_toS_ok, rs_nx, rs_rt, rs_exc, r_bind_exc, r_toS_exc, out_rt, out_nx, out_exc, nrm_int, nrm_bl, nrm_non, nrm_str, nrm_lst, nrm_tup, nrm_scr, nrm_ty, nrm_dct, nrm_kd, nrm_itr, nrm_fn, nrm_obj0, bin_mul_int, bin_add_int, bin_sub_int, bin_mod_int, bin_fdiv_int, bi_int_int, Nat.sub_self, w_sub0, w_sub1, w_sub2, w_sub3, w_put1, w_put2, w_put3, cmp_eq_int, cmp_ne_int, cmp_lt_int, cmp_gt_int, cmp_le_int, cmp_ge_int, bi_len_str, bi_len_tup, bi_len_lst, bi_tuple_lst, bi_list_lst, bi_max_int, itw_lst, itw_tup, itw_itr, itw_str, putT_one, putT_tup, puts_cons, puts_nil, seq_tup, seq_lst, mua_append, mua_popK, mua_upd, fit_append, fit_popK, box_lst, box_dct, dct_dct, bi_rangeW, bi_range2W, ite_tt, ite_ff, ite_tf, ite_ft, dec_lt_t, dec_lt_f, beq_t, beq_f, Bool.not_true, Bool.not_false, Bool.true_and, Bool.and_true, wlk_len, wlk_isinst, wlk_tuple, wlk_list, wlk_all, wlk_any, wlk_sorted, wlk_sum, wlk_max, wlk_min, wlk_abs, wlk_int, wlk_str, wlk_range, Bool.false_eq_true, if_false, if_true, isNon, bnd, is_non_int, is_non_bool, is_non_str, is_non_tuple, is_non_list, is_non_dict, is_bl_int, is_bl_bool, is_bl_str, is_bl_tuple, is_bl_list, is_bl_dict, is_int_int, is_int_bool, is_int_str, is_int_tuple, is_int_list, is_int_dict, is_str_int, is_str_bool, is_str_str, is_str_tuple, is_str_list, is_str_dict, is_tup_int, is_tup_bool, is_tup_str, is_tup_tuple, is_tup_list, is_tup_dict, is_lst_int, is_lst_bool, is_lst_str, is_lst_tuple, is_lst_list, is_lst_dict, is_tuple_of_ok, is_name_ok, is_hand_ok, is_count_ok, sub3_0, sub3_1, sub3_2])
structure Ls where
  n : List Nat
  h : Int
  t : Int
  u : Int
def lD (l : Ls) : D := .tup [.str l.n, .int l.h, .int l.t, .int l.u]
def kD' (l : Ls) : D := .tup [.str l.n, .int l.h]
def LsOk (l : Ls) : Prop := NameOk l.n ∧ 1 ≤ l.h ∧ l.h ≤ 99 ∧ 0 ≤ l.t ∧ 0 ≤ l.u
def KAsc (L : List Ls) : Prop := L.Pairwise fun a b => dlt (kD' a) (kD' b) = true
def LsD (L : List Ls) : D := .tup (L.map lD)
def LsOks (L : List Ls) : Prop := L.length ≤ 1000 ∧ (∀ l ∈ L, LsOk l) ∧ KAsc L
theorem are_leases_ok {L : List Ls} (h : 6 ≤ N) (hL : LsOks L) : Ev.run sub Γ N 19 [.tup (L.map lD)] M = .ok (.bl true, M) := by
  obtain ⟨n, rfl⟩ : ∃ n, N = n + 1 := ⟨N - 1, by omega⟩
  obtain ⟨hl, hh, ha⟩ := hL
  have hz0 : (L.map lD).length ≤ SZ := by rw [List.length_map]; exact sz_m (by omega)
  rw [call_of (F := f_are_leases) rfl rfl]
  obtain ⟨zs, hq, hz⟩ : ∃ zs, evE (Ev.run sub Γ n) q_are_leases_0 [some (.tup (L.map lD)), none] M = .ok (.lst zs, M) ∧ biD .all [.lst zs] = some (.bl true) := all_comp2 (d := .tup (L.map lD)) rfl rfl hz0 fun y hy => by
    obtain ⟨l, hl, rfl⟩ := List.mem_map.mp hy
    obtain ⟨h1, h2, h3, h4, h5⟩ := hh l hl
    refine ⟨[some (.tup (L.map lD)), some (lD l)], rfl, ?_⟩
    have e := is_held_ok (N := n) (M := M) (by omega) h1 h2 h3 h4
    have e3 := is_tuple_of_ok (N := n) (M := M) (xs := [.str l.n, .int l.h, .int l.t, .int l.u]) (k := 4) (by omega) rfl
    simp only [startE, ev_var, ev_bor, ev_con, ev_neg, ev_bin, ev_cmp, ev_chain, ev_and, ev_or, ev_not, ev_ite, ev_join, ev_call, ev_callv, ev_bi, ev_tup, ev_lst, ev_sub, ev_slc, ev_me, ev_dct, ev_alloc, evs_nil, evs_cons, es_set, es_own, es_unp, es_ex, es_ret, es_retf, es_reto, es_retn, es_ite, es_whl, es_for, es_brk, es_cnt, es_pass, es_raise, es_try, es_sto, es_oput, es_omu, ess_nil, ess_cons, Ev.get, Ev.put, map1, map2, map3, List.length_cons, List.length_nil, List.replicate, List.cons_append, List.nil_append, List.getElem?_cons_zero, List.getElem?_cons_succ, List.set_cons_zero, List.set_cons_succ, Option.bind_some, id, Option.map_some, r_bind_ok, r_of_some, r_toS_ok, rs_nx, rs_rt, rs_exc, r_bind_exc, r_toS_exc, out_rt, out_nx, out_exc, nrm_int, nrm_bl, nrm_non, nrm_str, nrm_lst, nrm_tup, nrm_scr, nrm_ty, nrm_dct, nrm_kd, nrm_itr, nrm_fn, nrm_obj0, bin_mul_int, bin_add_int, bin_sub_int, bin_mod_int, bin_fdiv_int, bi_int_int, Nat.sub_self, w_sub0, w_sub1, w_sub2, w_sub3, w_put1, w_put2, w_put3, cmp_eq_int, cmp_ne_int, cmp_lt_int, cmp_gt_int, cmp_le_int, cmp_ge_int, bi_len_str, bi_len_tup, bi_len_lst, bi_tuple_lst, bi_list_lst, bi_max_int, itw_lst, itw_tup, itw_itr, itw_str, putT_one, putT_tup, puts_cons, puts_nil, seq_tup, seq_lst, mua_append, mua_popK, mua_upd, fit_append, fit_popK, box_lst, box_dct, dct_dct, bi_rangeW, bi_range2W, ite_tt, ite_ff, ite_tf, ite_ft, dec_lt_t, dec_lt_f, beq_t, beq_f, Bool.not_true, Bool.not_false, Bool.true_and, Bool.and_true, wlk_len, wlk_isinst, wlk_tuple, wlk_list, wlk_all, wlk_any, wlk_sorted, wlk_sum, wlk_max, wlk_min, wlk_abs, wlk_int, wlk_str, wlk_range, Bool.false_eq_true, if_false, if_true, isNon, bnd, is_non_int, is_non_bool, is_non_str, is_non_tuple, is_non_list, is_non_dict, is_bl_int, is_bl_bool, is_bl_str, is_bl_tuple, is_bl_list, is_bl_dict, is_int_int, is_int_bool, is_int_str, is_int_tuple, is_int_list, is_int_dict, is_str_int, is_str_bool, is_str_str, is_str_tuple, is_str_list, is_str_dict, is_tup_int, is_tup_bool, is_tup_str, is_tup_tuple, is_tup_list, is_tup_dict, is_lst_int, is_lst_bool, is_lst_str, is_lst_tuple, is_lst_list, is_lst_dict, isNon, bnd, lD, e, e3, slc4_h3]
  obtain ⟨zs2, hq2, hz2⟩ : ∃ zs, evE (Ev.run sub Γ n) q_are_leases_2 [some (.tup (L.map lD)), none] M = .ok (.lst zs, M) ∧ biD .all [.lst zs] = some (.bl true) := all_comp2 (d := .tup (L.map lD)) rfl rfl hz0 fun y hy => by
    obtain ⟨l, hl, rfl⟩ := List.mem_map.mp hy
    obtain ⟨h1, h2, h3, h4, h5⟩ := hh l hl
    refine ⟨[some (.tup (L.map lD)), some (lD l)], rfl, ?_⟩
    have e := is_count_ok (N := n) (M := M) (by omega) h5
    simp only [startE, ev_var, ev_bor, ev_con, ev_neg, ev_bin, ev_cmp, ev_chain, ev_and, ev_or, ev_not, ev_ite, ev_join, ev_call, ev_callv, ev_bi, ev_tup, ev_lst, ev_sub, ev_slc, ev_me, ev_dct, ev_alloc, evs_nil, evs_cons, es_set, es_own, es_unp, es_ex, es_ret, es_retf, es_reto, es_retn, es_ite, es_whl, es_for, es_brk, es_cnt, es_pass, es_raise, es_try, es_sto, es_oput, es_omu, ess_nil, ess_cons, Ev.get, Ev.put, map1, map2, map3, List.length_cons, List.length_nil, List.replicate, List.cons_append, List.nil_append, List.getElem?_cons_zero, List.getElem?_cons_succ, List.set_cons_zero, List.set_cons_succ, Option.bind_some, id, Option.map_some, r_bind_ok, r_of_some, r_toS_ok, rs_nx, rs_rt, rs_exc, r_bind_exc, r_toS_exc, out_rt, out_nx, out_exc, nrm_int, nrm_bl, nrm_non, nrm_str, nrm_lst, nrm_tup, nrm_scr, nrm_ty, nrm_dct, nrm_kd, nrm_itr, nrm_fn, nrm_obj0, bin_mul_int, bin_add_int, bin_sub_int, bin_mod_int, bin_fdiv_int, bi_int_int, Nat.sub_self, w_sub0, w_sub1, w_sub2, w_sub3, w_put1, w_put2, w_put3, cmp_eq_int, cmp_ne_int, cmp_lt_int, cmp_gt_int, cmp_le_int, cmp_ge_int, bi_len_str, bi_len_tup, bi_len_lst, bi_tuple_lst, bi_list_lst, bi_max_int, itw_lst, itw_tup, itw_itr, itw_str, putT_one, putT_tup, puts_cons, puts_nil, seq_tup, seq_lst, mua_append, mua_popK, mua_upd, fit_append, fit_popK, box_lst, box_dct, dct_dct, bi_rangeW, bi_range2W, ite_tt, ite_ff, ite_tf, ite_ft, dec_lt_t, dec_lt_f, beq_t, beq_f, Bool.not_true, Bool.not_false, Bool.true_and, Bool.and_true, wlk_len, wlk_isinst, wlk_tuple, wlk_list, wlk_all, wlk_any, wlk_sorted, wlk_sum, wlk_max, wlk_min, wlk_abs, wlk_int, wlk_str, wlk_range, Bool.false_eq_true, if_false, if_true, isNon, bnd, is_non_int, is_non_bool, is_non_str, is_non_tuple, is_non_list, is_non_dict, is_bl_int, is_bl_bool, is_bl_str, is_bl_tuple, is_bl_list, is_bl_dict, is_int_int, is_int_bool, is_int_str, is_int_tuple, is_int_list, is_int_dict, is_str_int, is_str_bool, is_str_str, is_str_tuple, is_str_list, is_str_dict, is_tup_int, is_tup_bool, is_tup_str, is_tup_tuple, is_tup_list, is_tup_dict, is_lst_int, is_lst_bool, is_lst_str, is_lst_tuple, is_lst_list, is_lst_dict, lD, e, sub4_3]
  have hk : evE (Ev.run sub Γ n) q_are_leases_1 [some (.tup (L.map lD)), none] M = .ok (.lst ((L.map lD).map fun d => match d with | .tup (a :: b :: _) => .tup [a, b] | d => d), M) := comp_map (d := .tup (L.map lD)) rfl rfl hz0 fun y hy => by
    obtain ⟨l, hl, rfl⟩ := List.mem_map.mp hy
    refine ⟨[some (.tup (L.map lD)), some (lD l)], rfl, ?_⟩
    simp only [startE, ev_var, ev_bor, ev_con, ev_neg, ev_bin, ev_cmp, ev_chain, ev_and, ev_or, ev_not, ev_ite, ev_join, ev_call, ev_callv, ev_bi, ev_tup, ev_lst, ev_sub, ev_slc, ev_me, ev_dct, ev_alloc, evs_nil, evs_cons, es_set, es_own, es_unp, es_ex, es_ret, es_retf, es_reto, es_retn, es_ite, es_whl, es_for, es_brk, es_cnt, es_pass, es_raise, es_try, es_sto, es_oput, es_omu, ess_nil, ess_cons, Ev.get, Ev.put, map1, map2, map3, List.length_cons, List.length_nil, List.replicate, List.cons_append, List.nil_append, List.getElem?_cons_zero, List.getElem?_cons_succ, List.set_cons_zero, List.set_cons_succ, Option.bind_some, id, Option.map_some, r_bind_ok, r_of_some, r_toS_ok, rs_nx, rs_rt, rs_exc, r_bind_exc, r_toS_exc, out_rt, out_nx, out_exc, nrm_int, nrm_bl, nrm_non, nrm_str, nrm_lst, nrm_tup, nrm_scr, nrm_ty, nrm_dct, nrm_kd, nrm_itr, nrm_fn, nrm_obj0, bin_mul_int, bin_add_int, bin_sub_int, bin_mod_int, bin_fdiv_int, bi_int_int, Nat.sub_self, w_sub0, w_sub1, w_sub2, w_sub3, w_put1, w_put2, w_put3, cmp_eq_int, cmp_ne_int, cmp_lt_int, cmp_gt_int, cmp_le_int, cmp_ge_int, bi_len_str, bi_len_tup, bi_len_lst, bi_tuple_lst, bi_list_lst, bi_max_int, itw_lst, itw_tup, itw_itr, itw_str, putT_one, putT_tup, puts_cons, puts_nil, seq_tup, seq_lst, mua_append, mua_popK, mua_upd, fit_append, fit_popK, box_lst, box_dct, dct_dct, bi_rangeW, bi_range2W, ite_tt, ite_ff, ite_tf, ite_ft, dec_lt_t, dec_lt_f, beq_t, beq_f, Bool.not_true, Bool.not_false, Bool.true_and, Bool.and_true, wlk_len, wlk_isinst, wlk_tuple, wlk_list, wlk_all, wlk_any, wlk_sorted, wlk_sum, wlk_max, wlk_min, wlk_abs, wlk_int, wlk_str, wlk_range, Bool.false_eq_true, if_false, if_true, isNon, bnd, is_non_int, is_non_bool, is_non_str, is_non_tuple, is_non_list, is_non_dict, is_bl_int, is_bl_bool, is_bl_str, is_bl_tuple, is_bl_list, is_bl_dict, is_int_int, is_int_bool, is_int_str, is_int_tuple, is_int_list, is_int_dict, is_str_int, is_str_bool, is_str_str, is_str_tuple, is_str_list, is_str_dict, is_tup_int, is_tup_bool, is_tup_str, is_tup_tuple, is_tup_list, is_tup_dict, is_lst_int, is_lst_bool, is_lst_str, is_lst_tuple, is_lst_list, is_lst_dict, isNon, bnd, lD, slc4_h2]
  rw [List.map_map] at hk
  have h3 := are_ascending_ok (N := n) (M := M) (ds := L.map kD') (by omega) (List.pairwise_map.mpr ha) (fun a ha b hb => by
    obtain ⟨y, hy, rfl⟩ := List.mem_map.mp ha
    obtain ⟨z, hz, rfl⟩ := List.mem_map.mp hb
    rfl) (by rw [List.length_map]; omega)
  have hk : evE (Ev.run sub Γ n) q_are_leases_1 [some (.tup (L.map lD)), none] M = .ok (.lst (L.map kD'), M) := hk
  simp (disch := omega) only [f_are_leases, b_are_leases, startE, ev_var, ev_bor, ev_con, ev_neg, ev_bin, ev_cmp, ev_chain, ev_and, ev_or, ev_not, ev_ite, ev_join, ev_call, ev_callv, ev_bi, ev_tup, ev_lst, ev_sub, ev_slc, ev_me, ev_dct, ev_alloc, evs_nil, evs_cons, es_set, es_own, es_unp, es_ex, es_ret, es_retf, es_reto, es_retn, es_ite, es_whl, es_for, es_brk, es_cnt, es_pass, es_raise, es_try, es_sto, es_oput, es_omu, ess_nil, ess_cons, Ev.get, Ev.put, map1, map2, map3, List.length_cons, List.length_nil, List.replicate, List.cons_append, List.nil_append, List.getElem?_cons_zero, List.getElem?_cons_succ, List.set_cons_zero, List.set_cons_succ, Option.bind_some, id, Option.map_some, r_bind_ok, r_of_some, r_toS_ok, rs_nx, rs_rt, rs_exc, r_bind_exc, r_toS_exc, out_rt, out_nx, out_exc, nrm_int, nrm_bl, nrm_non, nrm_str, nrm_lst, nrm_tup, nrm_scr, nrm_ty, nrm_dct, nrm_kd, nrm_itr, nrm_fn, nrm_obj0, bin_mul_int, bin_add_int, bin_sub_int, bin_mod_int, bin_fdiv_int, bi_int_int, Nat.sub_self, w_sub0, w_sub1, w_sub2, w_sub3, w_put1, w_put2, w_put3, cmp_eq_int, cmp_ne_int, cmp_lt_int, cmp_gt_int, cmp_le_int, cmp_ge_int, bi_len_str, bi_len_tup, bi_len_lst, bi_tuple_lst, bi_list_lst, bi_max_int, itw_lst, itw_tup, itw_itr, itw_str, putT_one, putT_tup, puts_cons, puts_nil, seq_tup, seq_lst, mua_append, mua_popK, mua_upd, fit_append, fit_popK, box_lst, box_dct, dct_dct, bi_rangeW, bi_range2W, ite_tt, ite_ff, ite_tf, ite_ft, dec_lt_t, dec_lt_f, beq_t, beq_f, Bool.not_true, Bool.not_false, Bool.true_and, Bool.and_true, wlk_len, wlk_isinst, wlk_tuple, wlk_list, wlk_all, wlk_any, wlk_sorted, wlk_sum, wlk_max, wlk_min, wlk_abs, wlk_int, wlk_str, wlk_range, Bool.false_eq_true, if_false, if_true, isNon, bnd, is_non_int, is_non_bool, is_non_str, is_non_tuple, is_non_list, is_non_dict, is_bl_int, is_bl_bool, is_bl_str, is_bl_tuple, is_bl_list, is_bl_dict, is_int_int, is_int_bool, is_int_str, is_int_tuple, is_int_list, is_int_dict, is_str_int, is_str_bool, is_str_str, is_str_tuple, is_str_list, is_str_dict, is_tup_int, is_tup_bool, is_tup_str, is_tup_tuple, is_tup_list, is_tup_dict, is_lst_int, is_lst_bool, is_lst_str, is_lst_tuple, is_lst_list, is_lst_dict, hq, hz, hq2, hz2, hk, h3]
theorem is_vote_ok {s m : D} (h : 6 ≤ N) (hs : StampD s) (hm : MembersD m) : Ev.run sub Γ N 21 [.tup [s, m]] M = .ok (.bl true, M) := by
  have e : ([s, m].length : Int) = 2 := rfl
  (obtain ⟨n, rfl⟩ : ∃ n, N = n + 1 := ⟨N - 1, by omega⟩; rw [call_of (F := f_is_vote) rfl rfl]; simp (disch := first | assumption | omega) only [f_is_vote, b_is_vote, startE, ev_var, ev_bor, ev_con, ev_neg, ev_bin, ev_cmp, ev_chain, ev_and, ev_or, ev_not, ev_ite, ev_join, ev_call, ev_callv, ev_bi, ev_tup, ev_lst, ev_sub, ev_slc, ev_me, ev_dct, ev_alloc, evs_nil, evs_cons, es_set, es_own, es_unp, es_ex, es_ret, es_retf, es_reto, es_retn, es_ite, es_whl, es_for, es_brk, es_cnt, es_pass, es_raise, es_try, es_sto, es_oput, es_omu, ess_nil, ess_cons, Ev.get, Ev.put, map1, map2, map3, List.length_cons, List.length_nil, List.replicate, List.cons_append, List.nil_append, List.getElem?_cons_zero, List.getElem?_cons_succ, List.set_cons_zero, List.set_cons_succ, Option.bind_some, id, Option.map_some, r_bind_ok, r_of_some, r_toS_ok, rs_nx, rs_rt, rs_exc, r_bind_exc, r_toS_exc, out_rt, out_nx, out_exc, nrm_int, nrm_bl, nrm_non, nrm_str, nrm_lst, nrm_tup, nrm_scr, nrm_ty, nrm_dct, nrm_kd, nrm_itr, nrm_fn, nrm_obj0, bin_mul_int, bin_add_int, bin_sub_int, bin_mod_int, bin_fdiv_int, bi_int_int, Nat.sub_self, w_sub0, w_sub1, w_sub2, w_sub3, w_put1, w_put2, w_put3, cmp_eq_int, cmp_ne_int, cmp_lt_int, cmp_gt_int, cmp_le_int, cmp_ge_int, bi_len_str, bi_len_tup, bi_len_lst, bi_tuple_lst, bi_list_lst, bi_max_int, itw_lst, itw_tup, itw_itr, itw_str, putT_one, putT_tup, puts_cons, puts_nil, seq_tup, seq_lst, mua_append, mua_popK, mua_upd, fit_append, fit_popK, box_lst, box_dct, dct_dct, bi_rangeW, bi_range2W, ite_tt, ite_ff, ite_tf, ite_ft, dec_lt_t, dec_lt_f, beq_t, beq_f, Bool.not_true, Bool.not_false, Bool.true_and, Bool.and_true, wlk_len, wlk_isinst, wlk_tuple, wlk_list, wlk_all, wlk_any, wlk_sorted, wlk_sum, wlk_max, wlk_min, wlk_abs, wlk_int, wlk_str, wlk_range, Bool.false_eq_true, if_false, if_true, isNon, bnd, is_non_int, is_non_bool, is_non_str, is_non_tuple, is_non_list, is_non_dict, is_bl_int, is_bl_bool, is_bl_str, is_bl_tuple, is_bl_list, is_bl_dict, is_int_int, is_int_bool, is_int_str, is_int_tuple, is_int_list, is_int_dict, is_str_int, is_str_bool, is_str_str, is_str_tuple, is_str_list, is_str_dict, is_tup_int, is_tup_bool, is_tup_str, is_tup_tuple, is_tup_list, is_tup_dict, is_lst_int, is_lst_bool, is_lst_str, is_lst_tuple, is_lst_list, is_lst_dict, is_tuple_of_ok, is_stamp_ok, is_members_ok, sub2_0, sub2_1])
theorem is_members_nil (h : 1 ≤ N) : Ev.run sub Γ N 14 [.tup []] M = .ok (.bl false, M) := by
  have e : decide ((([] : List D).length : Int) < 1) = true := rfl
  (obtain ⟨n, rfl⟩ : ∃ n, N = n + 1 := ⟨N - 1, by omega⟩; rw [call_of (F := f_is_members) rfl rfl]; simp (disch := first | assumption | omega) only [f_is_members, b_is_members, startE, ev_var, ev_bor, ev_con, ev_neg, ev_bin, ev_cmp, ev_chain, ev_and, ev_or, ev_not, ev_ite, ev_join, ev_call, ev_callv, ev_bi, ev_tup, ev_lst, ev_sub, ev_slc, ev_me, ev_dct, ev_alloc, evs_nil, evs_cons, es_set, es_own, es_unp, es_ex, es_ret, es_retf, es_reto, es_retn, es_ite, es_whl, es_for, es_brk, es_cnt, es_pass, es_raise, es_try, es_sto, es_oput, es_omu, ess_nil, ess_cons, Ev.get, Ev.put, map1, map2, map3, List.length_cons, List.length_nil, List.replicate, List.cons_append, List.nil_append, List.getElem?_cons_zero, List.getElem?_cons_succ, List.set_cons_zero, List.set_cons_succ, Option.bind_some, id, Option.map_some, r_bind_ok, r_of_some, r_toS_ok, rs_nx, rs_rt, rs_exc, r_bind_exc, r_toS_exc, out_rt, out_nx, out_exc, nrm_int, nrm_bl, nrm_non, nrm_str, nrm_lst, nrm_tup, nrm_scr, nrm_ty, nrm_dct, nrm_kd, nrm_itr, nrm_fn, nrm_obj0, bin_mul_int, bin_add_int, bin_sub_int, bin_mod_int, bin_fdiv_int, bi_int_int, Nat.sub_self, w_sub0, w_sub1, w_sub2, w_sub3, w_put1, w_put2, w_put3, cmp_eq_int, cmp_ne_int, cmp_lt_int, cmp_gt_int, cmp_le_int, cmp_ge_int, bi_len_str, bi_len_tup, bi_len_lst, bi_tuple_lst, bi_list_lst, bi_max_int, itw_lst, itw_tup, itw_itr, itw_str, putT_one, putT_tup, puts_cons, puts_nil, seq_tup, seq_lst, mua_append, mua_popK, mua_upd, fit_append, fit_popK, box_lst, box_dct, dct_dct, bi_rangeW, bi_range2W, ite_tt, ite_ff, ite_tf, ite_ft, dec_lt_t, dec_lt_f, beq_t, beq_f, Bool.not_true, Bool.not_false, Bool.true_and, Bool.and_true, wlk_len, wlk_isinst, wlk_tuple, wlk_list, wlk_all, wlk_any, wlk_sorted, wlk_sum, wlk_max, wlk_min, wlk_abs, wlk_int, wlk_str, wlk_range, Bool.false_eq_true, if_false, if_true, isNon, bnd, is_non_int, is_non_bool, is_non_str, is_non_tuple, is_non_list, is_non_dict, is_bl_int, is_bl_bool, is_bl_str, is_bl_tuple, is_bl_list, is_bl_dict, is_int_int, is_int_bool, is_int_str, is_int_tuple, is_int_list, is_int_dict, is_str_int, is_str_bool, is_str_str, is_str_tuple, is_str_list, is_str_dict, is_tup_int, is_tup_bool, is_tup_str, is_tup_tuple, is_tup_list, is_tup_dict, is_lst_int, is_lst_bool, is_lst_str, is_lst_tuple, is_lst_list, is_lst_dict, e])
def AheadD (d : D) : Prop := d = .tup [] ∨ MembersD d
theorem is_ahead_ok {d : D} (h : 6 ≤ N) (hd : AheadD d) : Ev.run sub Γ N 22 [d] M = .ok (.bl true, M) := by
  have e0 : ((([] : List D).length : Int) == 0) = true := rfl
  rcases hd with rfl | hd
  · (obtain ⟨n, rfl⟩ : ∃ n, N = n + 1 := ⟨N - 1, by omega⟩; rw [call_of (F := f_is_ahead) rfl rfl]; simp (disch := first | assumption | omega) only [f_is_ahead, b_is_ahead, startE, ev_var, ev_bor, ev_con, ev_neg, ev_bin, ev_cmp, ev_chain, ev_and, ev_or, ev_not, ev_ite, ev_join, ev_call, ev_callv, ev_bi, ev_tup, ev_lst, ev_sub, ev_slc, ev_me, ev_dct, ev_alloc, evs_nil, evs_cons, es_set, es_own, es_unp, es_ex, es_ret, es_retf, es_reto, es_retn, es_ite, es_whl, es_for, es_brk, es_cnt, es_pass, es_raise, es_try, es_sto, es_oput, es_omu, ess_nil, ess_cons, Ev.get, Ev.put, map1, map2, map3, List.length_cons, List.length_nil, List.replicate, List.cons_append, List.nil_append, List.getElem?_cons_zero, List.getElem?_cons_succ, List.set_cons_zero, List.set_cons_succ, Option.bind_some, id, Option.map_some, r_bind_ok, r_of_some, r_toS_ok, rs_nx, rs_rt, rs_exc, r_bind_exc, r_toS_exc, out_rt, out_nx, out_exc, nrm_int, nrm_bl, nrm_non, nrm_str, nrm_lst, nrm_tup, nrm_scr, nrm_ty, nrm_dct, nrm_kd, nrm_itr, nrm_fn, nrm_obj0, bin_mul_int, bin_add_int, bin_sub_int, bin_mod_int, bin_fdiv_int, bi_int_int, Nat.sub_self, w_sub0, w_sub1, w_sub2, w_sub3, w_put1, w_put2, w_put3, cmp_eq_int, cmp_ne_int, cmp_lt_int, cmp_gt_int, cmp_le_int, cmp_ge_int, bi_len_str, bi_len_tup, bi_len_lst, bi_tuple_lst, bi_list_lst, bi_max_int, itw_lst, itw_tup, itw_itr, itw_str, putT_one, putT_tup, puts_cons, puts_nil, seq_tup, seq_lst, mua_append, mua_popK, mua_upd, fit_append, fit_popK, box_lst, box_dct, dct_dct, bi_rangeW, bi_range2W, ite_tt, ite_ff, ite_tf, ite_ft, dec_lt_t, dec_lt_f, beq_t, beq_f, Bool.not_true, Bool.not_false, Bool.true_and, Bool.and_true, wlk_len, wlk_isinst, wlk_tuple, wlk_list, wlk_all, wlk_any, wlk_sorted, wlk_sum, wlk_max, wlk_min, wlk_abs, wlk_int, wlk_str, wlk_range, Bool.false_eq_true, if_false, if_true, isNon, bnd, is_non_int, is_non_bool, is_non_str, is_non_tuple, is_non_list, is_non_dict, is_bl_int, is_bl_bool, is_bl_str, is_bl_tuple, is_bl_list, is_bl_dict, is_int_int, is_int_bool, is_int_str, is_int_tuple, is_int_list, is_int_dict, is_str_int, is_str_bool, is_str_str, is_str_tuple, is_str_list, is_str_dict, is_tup_int, is_tup_bool, is_tup_str, is_tup_tuple, is_tup_list, is_tup_dict, is_lst_int, is_lst_bool, is_lst_str, is_lst_tuple, is_lst_list, is_lst_dict, is_members_nil, e0])
  · (obtain ⟨n, rfl⟩ : ∃ n, N = n + 1 := ⟨N - 1, by omega⟩; rw [call_of (F := f_is_ahead) rfl rfl]; simp (disch := first | assumption | omega) only [f_is_ahead, b_is_ahead, startE, ev_var, ev_bor, ev_con, ev_neg, ev_bin, ev_cmp, ev_chain, ev_and, ev_or, ev_not, ev_ite, ev_join, ev_call, ev_callv, ev_bi, ev_tup, ev_lst, ev_sub, ev_slc, ev_me, ev_dct, ev_alloc, evs_nil, evs_cons, es_set, es_own, es_unp, es_ex, es_ret, es_retf, es_reto, es_retn, es_ite, es_whl, es_for, es_brk, es_cnt, es_pass, es_raise, es_try, es_sto, es_oput, es_omu, ess_nil, ess_cons, Ev.get, Ev.put, map1, map2, map3, List.length_cons, List.length_nil, List.replicate, List.cons_append, List.nil_append, List.getElem?_cons_zero, List.getElem?_cons_succ, List.set_cons_zero, List.set_cons_succ, Option.bind_some, id, Option.map_some, r_bind_ok, r_of_some, r_toS_ok, rs_nx, rs_rt, rs_exc, r_bind_exc, r_toS_exc, out_rt, out_nx, out_exc, nrm_int, nrm_bl, nrm_non, nrm_str, nrm_lst, nrm_tup, nrm_scr, nrm_ty, nrm_dct, nrm_kd, nrm_itr, nrm_fn, nrm_obj0, bin_mul_int, bin_add_int, bin_sub_int, bin_mod_int, bin_fdiv_int, bi_int_int, Nat.sub_self, w_sub0, w_sub1, w_sub2, w_sub3, w_put1, w_put2, w_put3, cmp_eq_int, cmp_ne_int, cmp_lt_int, cmp_gt_int, cmp_le_int, cmp_ge_int, bi_len_str, bi_len_tup, bi_len_lst, bi_tuple_lst, bi_list_lst, bi_max_int, itw_lst, itw_tup, itw_itr, itw_str, putT_one, putT_tup, puts_cons, puts_nil, seq_tup, seq_lst, mua_append, mua_popK, mua_upd, fit_append, fit_popK, box_lst, box_dct, dct_dct, bi_rangeW, bi_range2W, ite_tt, ite_ff, ite_tf, ite_ft, dec_lt_t, dec_lt_f, beq_t, beq_f, Bool.not_true, Bool.not_false, Bool.true_and, Bool.and_true, wlk_len, wlk_isinst, wlk_tuple, wlk_list, wlk_all, wlk_any, wlk_sorted, wlk_sum, wlk_max, wlk_min, wlk_abs, wlk_int, wlk_str, wlk_range, Bool.false_eq_true, if_false, if_true, isNon, bnd, is_non_int, is_non_bool, is_non_str, is_non_tuple, is_non_list, is_non_dict, is_bl_int, is_bl_bool, is_bl_str, is_bl_tuple, is_bl_list, is_bl_dict, is_int_int, is_int_bool, is_int_str, is_int_tuple, is_int_list, is_int_dict, is_str_int, is_str_bool, is_str_str, is_str_tuple, is_str_list, is_str_dict, is_tup_int, is_tup_bool, is_tup_str, is_tup_tuple, is_tup_list, is_tup_dict, is_lst_int, is_lst_bool, is_lst_str, is_lst_tuple, is_lst_list, is_lst_dict, is_members_ok])
end
section
variable {N : Nat} {M : Sto}
structure Tb where
  e : Int
  m : D
  a : D
  c : Int
  h : D
  b : D
  L : List Ls
  p : D
  v : D
  x : D
def tD (T : Tb) : D := .tup [.int T.e, T.m, T.a, .int T.c, T.h, T.b, .tup (T.L.map lD), T.p, T.v, T.x]
def VotedD (v : D) : Prop := v = .non ∨ ∃ s m, v = .tup [s, m] ∧ StampD s ∧ MembersD m
def NextD (x : D) : Prop := x = .non ∨ MembersD x
structure TbOk (k : Nat) (T : Tb) : Prop where
  e : 0 ≤ T.e
  m : MembersD T.m
  a : AheadD T.a
  c : 0 ≤ T.c
  h : HeadsD T.h
  b : BlocksD T.b
  ln : T.L.length ≤ k
  lo : ∀ l ∈ T.L, LsOk l
  ls : KAsc T.L
  p : StampD T.p
  v : VotedD T.v
  x : NextD T.x
theorem is_kept_ok {k : Nat} {T : Tb} (h : 9 ≤ N) (hT : TbOk k T) (hk : k ≤ 1000) : Ev.run sub Γ N 23 [tD T] M = .ok (.bl true, M) := by
  obtain ⟨n, rfl⟩ : ∃ n, N = n + 1 := ⟨N - 1, by omega⟩
  obtain ⟨e, m, a, c, hh, b, L, p, v, x⟩ := T
  obtain ⟨t1, t2, t3, t4, t5, t6, t7, t8, t9, t10, t11, t12⟩ := hT
  have f1 := is_tuple_of_ok (N := n) (M := M) (xs := [.int e, m, a, .int c, hh, b, .tup (L.map lD), p, v, x]) (k := 10) (by omega) rfl
  have f2 := is_ahead_ok (N := n) (M := M) (by omega) t3
  have f3 := is_count_ok (N := n) (M := M) (by omega) t4
  have f4 := are_heads_ok (N := n) (M := M) (by omega) t5
  have f5 := are_blocks_ok (N := n) (M := M) (by omega) t6
  have f6 := are_leases_ok (N := n) (M := M) (by omega) ⟨Nat.le_trans t7 hk, t8, t9⟩
  have f7 := is_stamp_ok (N := n) (M := M) (by omega) t10
  rw [call_of (F := f_is_kept_tables) rfl rfl]
  rcases t11 with rfl | ⟨s, mm, rfl, s1, s2⟩
  · rcases t12 with rfl | t12
    · simp only [f_is_kept_tables, b_is_kept_tables, tD, startE, ev_var, ev_bor, ev_con, ev_neg, ev_bin, ev_cmp, ev_chain, ev_and, ev_or, ev_not, ev_ite, ev_join, ev_call, ev_callv, ev_bi, ev_tup, ev_lst, ev_sub, ev_slc, ev_me, ev_dct, ev_alloc, evs_nil, evs_cons, es_set, es_own, es_unp, es_ex, es_ret, es_retf, es_reto, es_retn, es_ite, es_whl, es_for, es_brk, es_cnt, es_pass, es_raise, es_try, es_sto, es_oput, es_omu, ess_nil, ess_cons, Ev.get, Ev.put, map1, map2, map3, List.length_cons, List.length_nil, List.replicate, List.cons_append, List.nil_append, List.getElem?_cons_zero, List.getElem?_cons_succ, List.set_cons_zero, List.set_cons_succ, Option.bind_some, id, Option.map_some, r_bind_ok, r_of_some, r_toS_ok, rs_nx, rs_rt, rs_exc, r_bind_exc, r_toS_exc, out_rt, out_nx, out_exc, nrm_int, nrm_bl, nrm_non, nrm_str, nrm_lst, nrm_tup, nrm_scr, nrm_ty, nrm_dct, nrm_kd, nrm_itr, nrm_fn, nrm_obj0, bin_mul_int, bin_add_int, bin_sub_int, bin_mod_int, bin_fdiv_int, bi_int_int, Nat.sub_self, w_sub0, w_sub1, w_sub2, w_sub3, w_put1, w_put2, w_put3, cmp_eq_int, cmp_ne_int, cmp_lt_int, cmp_gt_int, cmp_le_int, cmp_ge_int, bi_len_str, bi_len_tup, bi_len_lst, bi_tuple_lst, bi_list_lst, bi_max_int, itw_lst, itw_tup, itw_itr, itw_str, putT_one, putT_tup, puts_cons, puts_nil, seq_tup, seq_lst, mua_append, mua_popK, mua_upd, fit_append, fit_popK, box_lst, box_dct, dct_dct, bi_rangeW, bi_range2W, ite_tt, ite_ff, ite_tf, ite_ft, dec_lt_t, dec_lt_f, beq_t, beq_f, Bool.not_true, Bool.not_false, Bool.true_and, Bool.and_true, wlk_len, wlk_isinst, wlk_tuple, wlk_list, wlk_all, wlk_any, wlk_sorted, wlk_sum, wlk_max, wlk_min, wlk_abs, wlk_int, wlk_str, wlk_range, Bool.false_eq_true, if_false, if_true, isNon, bnd, is_non_int, is_non_bool, is_non_str, is_non_tuple, is_non_list, is_non_dict, is_bl_int, is_bl_bool, is_bl_str, is_bl_tuple, is_bl_list, is_bl_dict, is_int_int, is_int_bool, is_int_str, is_int_tuple, is_int_list, is_int_dict, is_str_int, is_str_bool, is_str_str, is_str_tuple, is_str_list, is_str_dict, is_tup_int, is_tup_bool, is_tup_str, is_tup_tuple, is_tup_list, is_tup_dict, is_lst_int, is_lst_bool, is_lst_str, is_lst_tuple, is_lst_list, is_lst_dict, f1, f2, f3, f4, f5, f6, f7, sub10_2, sub10_3, sub10_4, sub10_5, sub10_6, sub10_7, sub10_8, sub10_9, is_nn, isnt_nn]
    · have f8 := is_members_ok (N := n) (M := M) (by omega) t12
      obtain ⟨ns, rfl, _⟩ := t12
      simp only [f_is_kept_tables, b_is_kept_tables, tD, startE, ev_var, ev_bor, ev_con, ev_neg, ev_bin, ev_cmp, ev_chain, ev_and, ev_or, ev_not, ev_ite, ev_join, ev_call, ev_callv, ev_bi, ev_tup, ev_lst, ev_sub, ev_slc, ev_me, ev_dct, ev_alloc, evs_nil, evs_cons, es_set, es_own, es_unp, es_ex, es_ret, es_retf, es_reto, es_retn, es_ite, es_whl, es_for, es_brk, es_cnt, es_pass, es_raise, es_try, es_sto, es_oput, es_omu, ess_nil, ess_cons, Ev.get, Ev.put, map1, map2, map3, List.length_cons, List.length_nil, List.replicate, List.cons_append, List.nil_append, List.getElem?_cons_zero, List.getElem?_cons_succ, List.set_cons_zero, List.set_cons_succ, Option.bind_some, id, Option.map_some, r_bind_ok, r_of_some, r_toS_ok, rs_nx, rs_rt, rs_exc, r_bind_exc, r_toS_exc, out_rt, out_nx, out_exc, nrm_int, nrm_bl, nrm_non, nrm_str, nrm_lst, nrm_tup, nrm_scr, nrm_ty, nrm_dct, nrm_kd, nrm_itr, nrm_fn, nrm_obj0, bin_mul_int, bin_add_int, bin_sub_int, bin_mod_int, bin_fdiv_int, bi_int_int, Nat.sub_self, w_sub0, w_sub1, w_sub2, w_sub3, w_put1, w_put2, w_put3, cmp_eq_int, cmp_ne_int, cmp_lt_int, cmp_gt_int, cmp_le_int, cmp_ge_int, bi_len_str, bi_len_tup, bi_len_lst, bi_tuple_lst, bi_list_lst, bi_max_int, itw_lst, itw_tup, itw_itr, itw_str, putT_one, putT_tup, puts_cons, puts_nil, seq_tup, seq_lst, mua_append, mua_popK, mua_upd, fit_append, fit_popK, box_lst, box_dct, dct_dct, bi_rangeW, bi_range2W, ite_tt, ite_ff, ite_tf, ite_ft, dec_lt_t, dec_lt_f, beq_t, beq_f, Bool.not_true, Bool.not_false, Bool.true_and, Bool.and_true, wlk_len, wlk_isinst, wlk_tuple, wlk_list, wlk_all, wlk_any, wlk_sorted, wlk_sum, wlk_max, wlk_min, wlk_abs, wlk_int, wlk_str, wlk_range, Bool.false_eq_true, if_false, if_true, isNon, bnd, is_non_int, is_non_bool, is_non_str, is_non_tuple, is_non_list, is_non_dict, is_bl_int, is_bl_bool, is_bl_str, is_bl_tuple, is_bl_list, is_bl_dict, is_int_int, is_int_bool, is_int_str, is_int_tuple, is_int_list, is_int_dict, is_str_int, is_str_bool, is_str_str, is_str_tuple, is_str_list, is_str_dict, is_tup_int, is_tup_bool, is_tup_str, is_tup_tuple, is_tup_list, is_tup_dict, is_lst_int, is_lst_bool, is_lst_str, is_lst_tuple, is_lst_list, is_lst_dict, f1, f2, f3, f4, f5, f6, f7, f8, sub10_2, sub10_3, sub10_4, sub10_5, sub10_6, sub10_7, sub10_8, sub10_9, is_tn, isnt_nn]
  · have f9 := is_vote_ok (N := n) (M := M) (by omega) s1 s2
    rcases t12 with rfl | t12
    · simp only [f_is_kept_tables, b_is_kept_tables, tD, startE, ev_var, ev_bor, ev_con, ev_neg, ev_bin, ev_cmp, ev_chain, ev_and, ev_or, ev_not, ev_ite, ev_join, ev_call, ev_callv, ev_bi, ev_tup, ev_lst, ev_sub, ev_slc, ev_me, ev_dct, ev_alloc, evs_nil, evs_cons, es_set, es_own, es_unp, es_ex, es_ret, es_retf, es_reto, es_retn, es_ite, es_whl, es_for, es_brk, es_cnt, es_pass, es_raise, es_try, es_sto, es_oput, es_omu, ess_nil, ess_cons, Ev.get, Ev.put, map1, map2, map3, List.length_cons, List.length_nil, List.replicate, List.cons_append, List.nil_append, List.getElem?_cons_zero, List.getElem?_cons_succ, List.set_cons_zero, List.set_cons_succ, Option.bind_some, id, Option.map_some, r_bind_ok, r_of_some, r_toS_ok, rs_nx, rs_rt, rs_exc, r_bind_exc, r_toS_exc, out_rt, out_nx, out_exc, nrm_int, nrm_bl, nrm_non, nrm_str, nrm_lst, nrm_tup, nrm_scr, nrm_ty, nrm_dct, nrm_kd, nrm_itr, nrm_fn, nrm_obj0, bin_mul_int, bin_add_int, bin_sub_int, bin_mod_int, bin_fdiv_int, bi_int_int, Nat.sub_self, w_sub0, w_sub1, w_sub2, w_sub3, w_put1, w_put2, w_put3, cmp_eq_int, cmp_ne_int, cmp_lt_int, cmp_gt_int, cmp_le_int, cmp_ge_int, bi_len_str, bi_len_tup, bi_len_lst, bi_tuple_lst, bi_list_lst, bi_max_int, itw_lst, itw_tup, itw_itr, itw_str, putT_one, putT_tup, puts_cons, puts_nil, seq_tup, seq_lst, mua_append, mua_popK, mua_upd, fit_append, fit_popK, box_lst, box_dct, dct_dct, bi_rangeW, bi_range2W, ite_tt, ite_ff, ite_tf, ite_ft, dec_lt_t, dec_lt_f, beq_t, beq_f, Bool.not_true, Bool.not_false, Bool.true_and, Bool.and_true, wlk_len, wlk_isinst, wlk_tuple, wlk_list, wlk_all, wlk_any, wlk_sorted, wlk_sum, wlk_max, wlk_min, wlk_abs, wlk_int, wlk_str, wlk_range, Bool.false_eq_true, if_false, if_true, isNon, bnd, is_non_int, is_non_bool, is_non_str, is_non_tuple, is_non_list, is_non_dict, is_bl_int, is_bl_bool, is_bl_str, is_bl_tuple, is_bl_list, is_bl_dict, is_int_int, is_int_bool, is_int_str, is_int_tuple, is_int_list, is_int_dict, is_str_int, is_str_bool, is_str_str, is_str_tuple, is_str_list, is_str_dict, is_tup_int, is_tup_bool, is_tup_str, is_tup_tuple, is_tup_list, is_tup_dict, is_lst_int, is_lst_bool, is_lst_str, is_lst_tuple, is_lst_list, is_lst_dict, f1, f2, f3, f4, f5, f6, f7, f9, sub10_2, sub10_3, sub10_4, sub10_5, sub10_6, sub10_7, sub10_8, sub10_9, is_nn, isnt_tn]
    · have f8 := is_members_ok (N := n) (M := M) (by omega) t12
      obtain ⟨ns, rfl, _⟩ := t12
      simp only [f_is_kept_tables, b_is_kept_tables, tD, startE, ev_var, ev_bor, ev_con, ev_neg, ev_bin, ev_cmp, ev_chain, ev_and, ev_or, ev_not, ev_ite, ev_join, ev_call, ev_callv, ev_bi, ev_tup, ev_lst, ev_sub, ev_slc, ev_me, ev_dct, ev_alloc, evs_nil, evs_cons, es_set, es_own, es_unp, es_ex, es_ret, es_retf, es_reto, es_retn, es_ite, es_whl, es_for, es_brk, es_cnt, es_pass, es_raise, es_try, es_sto, es_oput, es_omu, ess_nil, ess_cons, Ev.get, Ev.put, map1, map2, map3, List.length_cons, List.length_nil, List.replicate, List.cons_append, List.nil_append, List.getElem?_cons_zero, List.getElem?_cons_succ, List.set_cons_zero, List.set_cons_succ, Option.bind_some, id, Option.map_some, r_bind_ok, r_of_some, r_toS_ok, rs_nx, rs_rt, rs_exc, r_bind_exc, r_toS_exc, out_rt, out_nx, out_exc, nrm_int, nrm_bl, nrm_non, nrm_str, nrm_lst, nrm_tup, nrm_scr, nrm_ty, nrm_dct, nrm_kd, nrm_itr, nrm_fn, nrm_obj0, bin_mul_int, bin_add_int, bin_sub_int, bin_mod_int, bin_fdiv_int, bi_int_int, Nat.sub_self, w_sub0, w_sub1, w_sub2, w_sub3, w_put1, w_put2, w_put3, cmp_eq_int, cmp_ne_int, cmp_lt_int, cmp_gt_int, cmp_le_int, cmp_ge_int, bi_len_str, bi_len_tup, bi_len_lst, bi_tuple_lst, bi_list_lst, bi_max_int, itw_lst, itw_tup, itw_itr, itw_str, putT_one, putT_tup, puts_cons, puts_nil, seq_tup, seq_lst, mua_append, mua_popK, mua_upd, fit_append, fit_popK, box_lst, box_dct, dct_dct, bi_rangeW, bi_range2W, ite_tt, ite_ff, ite_tf, ite_ft, dec_lt_t, dec_lt_f, beq_t, beq_f, Bool.not_true, Bool.not_false, Bool.true_and, Bool.and_true, wlk_len, wlk_isinst, wlk_tuple, wlk_list, wlk_all, wlk_any, wlk_sorted, wlk_sum, wlk_max, wlk_min, wlk_abs, wlk_int, wlk_str, wlk_range, Bool.false_eq_true, if_false, if_true, isNon, bnd, is_non_int, is_non_bool, is_non_str, is_non_tuple, is_non_list, is_non_dict, is_bl_int, is_bl_bool, is_bl_str, is_bl_tuple, is_bl_list, is_bl_dict, is_int_int, is_int_bool, is_int_str, is_int_tuple, is_int_list, is_int_dict, is_str_int, is_str_bool, is_str_str, is_str_tuple, is_str_list, is_str_dict, is_tup_int, is_tup_bool, is_tup_str, is_tup_tuple, is_tup_list, is_tup_dict, is_lst_int, is_lst_bool, is_lst_str, is_lst_tuple, is_lst_list, is_lst_dict, f1, f2, f3, f4, f5, f6, f7, f8, f9, sub10_2, sub10_3, sub10_4, sub10_5, sub10_6, sub10_7, sub10_8, sub10_9, is_tn, isnt_tn]
theorem is_table_ok {k : Nat} {T : Tb} (h : 10 ≤ N) (hT : TbOk k T) (hk : k ≤ 1000) : Ev.run sub Γ N 24 [tD T] M = .ok (.bl true, M) := by
  obtain ⟨n, rfl⟩ : ∃ n, N = n + 1 := ⟨N - 1, by omega⟩
  have f1 := is_kept_ok (N := n) (M := M) (by omega) hT hk
  have f2 := is_count_ok (N := n) (M := M) (by omega) hT.e
  have f3 := is_members_ok (N := n) (M := M) (by omega) hT.m
  rw [call_of (F := f_is_table) rfl rfl]
  unfold tD at f1 ⊢
  simp only [f_is_table, b_is_table, startE, ev_var, ev_bor, ev_con, ev_neg, ev_bin, ev_cmp, ev_chain, ev_and, ev_or, ev_not, ev_ite, ev_join, ev_call, ev_callv, ev_bi, ev_tup, ev_lst, ev_sub, ev_slc, ev_me, ev_dct, ev_alloc, evs_nil, evs_cons, es_set, es_own, es_unp, es_ex, es_ret, es_retf, es_reto, es_retn, es_ite, es_whl, es_for, es_brk, es_cnt, es_pass, es_raise, es_try, es_sto, es_oput, es_omu, ess_nil, ess_cons, Ev.get, Ev.put, map1, map2, map3, List.length_cons, List.length_nil, List.replicate, List.cons_append, List.nil_append, List.getElem?_cons_zero, List.getElem?_cons_succ, List.set_cons_zero, List.set_cons_succ, Option.bind_some, id, Option.map_some, r_bind_ok, r_of_some, r_toS_ok, rs_nx, rs_rt, rs_exc, r_bind_exc, r_toS_exc, out_rt, out_nx, out_exc, nrm_int, nrm_bl, nrm_non, nrm_str, nrm_lst, nrm_tup, nrm_scr, nrm_ty, nrm_dct, nrm_kd, nrm_itr, nrm_fn, nrm_obj0, bin_mul_int, bin_add_int, bin_sub_int, bin_mod_int, bin_fdiv_int, bi_int_int, Nat.sub_self, w_sub0, w_sub1, w_sub2, w_sub3, w_put1, w_put2, w_put3, cmp_eq_int, cmp_ne_int, cmp_lt_int, cmp_gt_int, cmp_le_int, cmp_ge_int, bi_len_str, bi_len_tup, bi_len_lst, bi_tuple_lst, bi_list_lst, bi_max_int, itw_lst, itw_tup, itw_itr, itw_str, putT_one, putT_tup, puts_cons, puts_nil, seq_tup, seq_lst, mua_append, mua_popK, mua_upd, fit_append, fit_popK, box_lst, box_dct, dct_dct, bi_rangeW, bi_range2W, ite_tt, ite_ff, ite_tf, ite_ft, dec_lt_t, dec_lt_f, beq_t, beq_f, Bool.not_true, Bool.not_false, Bool.true_and, Bool.and_true, wlk_len, wlk_isinst, wlk_tuple, wlk_list, wlk_all, wlk_any, wlk_sorted, wlk_sum, wlk_max, wlk_min, wlk_abs, wlk_int, wlk_str, wlk_range, Bool.false_eq_true, if_false, if_true, isNon, bnd, is_non_int, is_non_bool, is_non_str, is_non_tuple, is_non_list, is_non_dict, is_bl_int, is_bl_bool, is_bl_str, is_bl_tuple, is_bl_list, is_bl_dict, is_int_int, is_int_bool, is_int_str, is_int_tuple, is_int_list, is_int_dict, is_str_int, is_str_bool, is_str_str, is_str_tuple, is_str_list, is_str_dict, is_tup_int, is_tup_bool, is_tup_str, is_tup_tuple, is_tup_list, is_tup_dict, is_lst_int, is_lst_bool, is_lst_str, is_lst_tuple, is_lst_list, is_lst_dict, f1, f2, f3, sub10_0, sub10_1]
theorem check_table_ok {k : Nat} {T : Tb} (h : 11 ≤ N) (hT : TbOk k T) (hk : k ≤ 1000) : Ev.run sub Γ N 25 [tD T] M = .ok (.non, M) := by
  obtain ⟨n, rfl⟩ : ∃ n, N = n + 1 := ⟨N - 1, by omega⟩
  have f1 := is_table_ok (N := n) (M := M) (by omega) hT hk
  rw [call_of (F := f_check_table) rfl rfl]
  simp only [f_check_table, b_check_table, startE, ev_var, ev_bor, ev_con, ev_neg, ev_bin, ev_cmp, ev_chain, ev_and, ev_or, ev_not, ev_ite, ev_join, ev_call, ev_callv, ev_bi, ev_tup, ev_lst, ev_sub, ev_slc, ev_me, ev_dct, ev_alloc, evs_nil, evs_cons, es_set, es_own, es_unp, es_ex, es_ret, es_retf, es_reto, es_retn, es_ite, es_whl, es_for, es_brk, es_cnt, es_pass, es_raise, es_try, es_sto, es_oput, es_omu, ess_nil, ess_cons, Ev.get, Ev.put, map1, map2, map3, List.length_cons, List.length_nil, List.replicate, List.cons_append, List.nil_append, List.getElem?_cons_zero, List.getElem?_cons_succ, List.set_cons_zero, List.set_cons_succ, Option.bind_some, id, Option.map_some, r_bind_ok, r_of_some, r_toS_ok, rs_nx, rs_rt, rs_exc, r_bind_exc, r_toS_exc, out_rt, out_nx, out_exc, nrm_int, nrm_bl, nrm_non, nrm_str, nrm_lst, nrm_tup, nrm_scr, nrm_ty, nrm_dct, nrm_kd, nrm_itr, nrm_fn, nrm_obj0, bin_mul_int, bin_add_int, bin_sub_int, bin_mod_int, bin_fdiv_int, bi_int_int, Nat.sub_self, w_sub0, w_sub1, w_sub2, w_sub3, w_put1, w_put2, w_put3, cmp_eq_int, cmp_ne_int, cmp_lt_int, cmp_gt_int, cmp_le_int, cmp_ge_int, bi_len_str, bi_len_tup, bi_len_lst, bi_tuple_lst, bi_list_lst, bi_max_int, itw_lst, itw_tup, itw_itr, itw_str, putT_one, putT_tup, puts_cons, puts_nil, seq_tup, seq_lst, mua_append, mua_popK, mua_upd, fit_append, fit_popK, box_lst, box_dct, dct_dct, bi_rangeW, bi_range2W, ite_tt, ite_ff, ite_tf, ite_ft, dec_lt_t, dec_lt_f, beq_t, beq_f, Bool.not_true, Bool.not_false, Bool.true_and, Bool.and_true, wlk_len, wlk_isinst, wlk_tuple, wlk_list, wlk_all, wlk_any, wlk_sorted, wlk_sum, wlk_max, wlk_min, wlk_abs, wlk_int, wlk_str, wlk_range, Bool.false_eq_true, if_false, if_true, isNon, bnd, is_non_int, is_non_bool, is_non_str, is_non_tuple, is_non_list, is_non_dict, is_bl_int, is_bl_bool, is_bl_str, is_bl_tuple, is_bl_list, is_bl_dict, is_int_int, is_int_bool, is_int_str, is_int_tuple, is_int_list, is_int_dict, is_str_int, is_str_bool, is_str_str, is_str_tuple, is_str_list, is_str_dict, is_tup_int, is_tup_bool, is_tup_str, is_tup_tuple, is_tup_list, is_tup_dict, is_lst_int, is_lst_bool, is_lst_str, is_lst_tuple, is_lst_list, is_lst_dict, f1]
end
end K10
set_option Elab.async false
set_option linter.all false
set_option autoImplicit false
set_option maxRecDepth 1000000
set_option maxHeartbeats 4000000
namespace K10
open Ev
local macro_rules | `(tactic| delta $xs:ident*) => `(tactic| simp (disch := first | assumption | omega) only [startE, wE_var, wE_bor, wE_con, wE_neg, wE_bin, wE_cmp, wE_chain, wE_and, wE_or, wE_not, wE_ite, wE_join, wE_call, wE_callv, wE_bi, wE_me, wE_mu, wE_tup, wE_lst, wE_dct, wE_sub, wE_slc, wE_comp, wE_alloc, wEs_nil, wEs_cons, wS_set, wS_own, wS_unp, wS_par, wS_aug, wS_ex, wS_omu, wS_osm, wS_ret, wS_retf, wS_reto, wS_retn, wS_ite, wS_for, wS_brk, wS_cnt, wS_pass, wS_raise, wS_try, wS_sto, wS_oput, wSs_nil, wSs_cons, dctOf_nil, true_and, and_true, wO_some, wB_t, wB_f, wp_ok, seqK_nx, seqK_rt, seqK_bk, seqK_ct, outK_nx, outK_rt, outX_, Ev.get, Ev.put, map1, map2, map3, List.length_cons, List.length_nil, List.replicate, List.cons_append, List.nil_append, List.getElem?_cons_zero, List.getElem?_cons_succ, List.set_cons_zero, List.set_cons_succ, Option.bind_some, id, Option.map_some, nrm_int, nrm_bl, nrm_non, nrm_str, nrm_lst, nrm_tup, nrm_scr, nrm_ty, nrm_dct, nrm_kd, nrm_itr, nrm_fn, nrm_obj0, bin_mul_int, bin_add_int, bin_sub_int, bin_mod_int, bin_fdiv_int, bi_int_int, Nat.sub_self, w_sub0, w_sub1, w_sub2, w_sub3, w_put1, w_put2, w_put3, cmp_eq_int, cmp_ne_int, cmp_lt_int, cmp_gt_int, cmp_le_int, cmp_ge_int, bi_len_str, bi_len_tup, bi_len_lst, bi_tuple_lst, bi_list_lst, bi_max_int, itw_lst, itw_tup, itw_itr, itw_str, putT_one, putT_tup, puts_cons, puts_nil, seq_tup, seq_lst, mua_append, mua_popK, mua_upd, fit_append, fit_popK, box_lst, box_dct, dct_dct, bi_rangeW, bi_range2W, ite_tt, ite_ff, ite_tf, ite_ft, dec_lt_t, dec_lt_f, beq_t, beq_f, Bool.not_true, Bool.not_false, Bool.true_and, Bool.and_true, wlk_len, wlk_isinst, wlk_tuple, wlk_list, wlk_all, wlk_any, wlk_sorted, wlk_sum, wlk_max, wlk_min, wlk_abs, wlk_int, wlk_str, wlk_range, Bool.false_eq_true, if_false, if_true, isNon, bnd, is_non_int, is_non_bool, is_non_str, is_non_tuple, is_non_list, is_non_dict, is_bl_int, is_bl_bool, is_bl_str, is_bl_tuple, is_bl_list, is_bl_dict, is_int_int, is_int_bool, is_int_str, is_int_tuple, is_int_list, is_int_dict, is_str_int, is_str_bool, is_str_str, is_str_tuple, is_str_list, is_str_dict, is_tup_int, is_tup_bool, is_tup_str, is_tup_tuple, is_tup_list, is_tup_dict, is_lst_int, is_lst_bool, is_lst_str, is_lst_tuple, is_lst_list, is_lst_dict, wE_dcomp, mu_extend_arg, fit_extend, List.map_cons, List.map_nil, beqS_cc, beqS_nn, beqS_cn, beqS_nc, Nat.reduceBEq, Bool.false_and, Bool.and_false, eqS, neS, wO_fn, is_nn', is_tn', isnt_nn', isnt_tn', is_sn', isnt_sn', is_in', isnt_in', bi_zip_tup, bi_enum_lst, bi_list_scr, bi_list_tup, bi_tuple_tup, tadd1 len1, tadd1 len2, tadd1 len3, tadd1 len4, tadd1 len5, tadd2 len1, tadd2 len2, tadd2 len3, tadd3 len1, tadd3 len2, tadd3 len3, Ev.puts_cons, Ev.puts_nil, sl_1, tt_0, tt1_0, tt2_0, tt2_1, tt3_0, tt3_1, tt3_2, tt4_0, tt4_1, tt4_2, tt4_3, tt5_0, tt5_1, tt5_2, tt5_3, tt5_4, tt6_0, tt6_1, tt6_2, tt6_3, tt6_4, tt6_5, tt10_0, tt10_1, tt10_2, tt10_3, tt10_4, tt10_5, tt10_6, tt10_7, tt10_8, tt10_9, sl2_1, sh2_1, sl3_1, sh3_1, sl3_2, sh3_2, sl4_1, sh4_1, sl4_2, sh4_2, sl4_3, sh4_3, sl5_1, sh5_1, sl5_2, sh5_2, sl5_3, sh5_3, sl5_4, sh5_4, sl6_1, sh6_1, sl6_2, sh6_2, sl6_3, sh6_3, sl6_4, sh6_4, sl6_5, sh6_5, sl10_1, sh10_1, sl10_2, sh10_2, sl10_3, sh10_3, sl10_4, sh10_4, sl10_5, sh10_5, sl10_6, sh10_6, sl10_7, sh10_7, sl10_8, sh10_8, sl10_9, sh10_9, $[$xs:ident],*])
theorem p64 : binD .pow (.int 10) (.int 64) = some (.int (10 ^ 64)) := by
  show (if powOk 10 64 then some (D.int (10 ^ (64 : Int).toNat)) else none) = _
  rw [if_pos (by decide)]
  rfl
theorem pow18 : binD .pow (.int 10) (.int 18) = some (.int (10 ^ 18)) := by
  show (if powOk 10 18 then some (D.int (10 ^ (18 : Int).toNat)) else none) = _
  rw [if_pos (by decide)]
  rfl
theorem pow11 : binD .pow (.int 10) (.int 11) = some (.int 100000000000) := by
  show (if powOk 10 11 then some (D.int (10 ^ (11 : Int).toNat)) else none) = _
  rw [if_pos (by decide)]
  rfl
def HatM (o : Nat) (M : Sto) : Prop := ∃ a b : Int, M[o]? = some (.val (.lst [.int a, .int b]))
theorem nrm_hat {o : Nat} {M : Sto} {d : D} (h : M[o]? = some (.val d)) : nrm M (.obj o) = d := by
  show (match M[o]? with | some (.val d) => d | _ => D.obj o) = d
  rw [h]
theorem sub_h0 {a b : D} : subD (.lst [a, b]) (.int 0) = some a := of_eq_true (eq_self _)
theorem sub_h1 {a b : D} : subD (.lst [a, b]) (.int 1) = some b := of_eq_true (eq_self _)
theorem put_h0 {o : Nat} {M : Sto} {a b v : D} (h : M[o]? = some (.val (.lst [a, b]))) : muM .put (.obj o) [.int 0, v] M = some (.non, M.set o (.val (.lst [v, b]))) := by
  unfold muM
  simp only [h]; rfl
theorem put_h1 {o : Nat} {M : Sto} {a b v : D} (h : M[o]? = some (.val (.lst [a, b]))) : muM .put (.obj o) [.int 1, v] M = some (.non, M.set o (.val (.lst [a, v]))) := by
  unfold muM
  simp only [h]; rfl
theorem set_h {o : Nat} {M : Sto} {x y : MO} (h : M[o]? = some x) : (M.set o y)[o]? = some y := by
  have : o < M.length := (List.getElem?_eq_some_iff.mp h).1
  rw [List.getElem?_set_self this]
section
variable {N o : Nat} {M : Sto} {Q : D → Sto → Prop} {X : Xc → Sto → Prop}
theorem divOk_of {m : Int} (h1 : 0 < m) (h2 : m < 2 ^ 64) : divOk m = true := by
  unfold divOk
  rw [decide_eq_true h1, Bool.true_and, decide_eq_true_eq]
  have z : m.natAbs ≠ 0 := by omega
  have := (Nat.log2_lt (k := 64) z).mpr (by omega)
  exact Nat.lt_trans this (by decide)
theorem draw_wp {m : Int} (h : 1 ≤ N) (hM : HatM o M) (h1 : 0 < m) (h2 : m < 2 ^ 64) (hQ : ∀ j M', HatM o M' → 0 ≤ j → j < m → Q (.int j) M') : (Ev.run sub Γ N 108 [.obj o, .int m] M).wq Q X := by
  have dm := divOk_of h1 h2
  obtain ⟨a, b, hM⟩ := hM
  (obtain ⟨n, rfl⟩ : ∃ n, N = n + 1 := ⟨N - 1, by omega⟩; refine wp_call (F := f__law_draw) rfl (Eq.refl 2) ?_; delta wO_some f__law_draw b__law_draw)
  have n0 := nrm_hat hM
  delta wO_some n0 sub_h0
  refine wB_sp (fun hb => ?_) (fun hb => ?_)
  · simp (disch := first | assumption | omega) only [startE, wE_var, wE_bor, wE_con, wE_neg, wE_bin, wE_cmp, wE_chain, wE_and, wE_or, wE_not, wE_ite, wE_join, wE_call, wE_callv, wE_bi, wE_me, wE_mu, wE_tup, wE_lst, wE_dct, wE_sub, wE_slc, wE_comp, wE_alloc, wEs_nil, wEs_cons, wS_set, wS_own, wS_unp, wS_par, wS_aug, wS_ex, wS_omu, wS_osm, wS_ret, wS_retf, wS_reto, wS_retn, wS_ite, wS_for, wS_brk, wS_cnt, wS_pass, wS_raise, wS_try, wS_sto, wS_oput, wSs_nil, wSs_cons, dctOf_nil, true_and, and_true, wO_some, wB_t, wB_f, wp_ok, seqK_nx, seqK_rt, seqK_bk, seqK_ct, outK_nx, outK_rt, outX_, Ev.get, Ev.put, map1, map2, map3, List.length_cons, List.length_nil, List.replicate, List.cons_append, List.nil_append, List.getElem?_cons_zero, List.getElem?_cons_succ, List.set_cons_zero, List.set_cons_succ, Option.bind_some, id, Option.map_some, nrm_int, nrm_bl, nrm_non, nrm_str, nrm_lst, nrm_tup, nrm_scr, nrm_ty, nrm_dct, nrm_kd, nrm_itr, nrm_fn, nrm_obj0, bin_mul_int, bin_add_int, bin_sub_int, bin_mod_int, bin_fdiv_int, bi_int_int, Nat.sub_self, w_sub0, w_sub1, w_sub2, w_sub3, w_put1, w_put2, w_put3, cmp_eq_int, cmp_ne_int, cmp_lt_int, cmp_gt_int, cmp_le_int, cmp_ge_int, bi_len_str, bi_len_tup, bi_len_lst, bi_tuple_lst, bi_list_lst, bi_max_int, itw_lst, itw_tup, itw_itr, itw_str, putT_one, putT_tup, puts_cons, puts_nil, seq_tup, seq_lst, mua_append, mua_popK, mua_upd, fit_append, fit_popK, box_lst, box_dct, dct_dct, bi_rangeW, bi_range2W, ite_tt, ite_ff, ite_tf, ite_ft, dec_lt_t, dec_lt_f, beq_t, beq_f, Bool.not_true, Bool.not_false, Bool.true_and, Bool.and_true, wlk_len, wlk_isinst, wlk_tuple, wlk_list, wlk_all, wlk_any, wlk_sorted, wlk_sum, wlk_max, wlk_min, wlk_abs, wlk_int, wlk_str, wlk_range, Bool.false_eq_true, if_false, if_true, isNon, bnd, is_non_int, is_non_bool, is_non_str, is_non_tuple, is_non_list, is_non_dict, is_bl_int, is_bl_bool, is_bl_str, is_bl_tuple, is_bl_list, is_bl_dict, is_int_int, is_int_bool, is_int_str, is_int_tuple, is_int_list, is_int_dict, is_str_int, is_str_bool, is_str_str, is_str_tuple, is_str_list, is_str_dict, is_tup_int, is_tup_bool, is_tup_str, is_tup_tuple, is_tup_list, is_tup_dict, is_lst_int, is_lst_bool, is_lst_str, is_lst_tuple, is_lst_list, is_lst_dict, wE_dcomp, mu_extend_arg, fit_extend, List.map_cons, List.map_nil, beqS_cc, beqS_nn, beqS_cn, beqS_nc, Nat.reduceBEq, Bool.false_and, Bool.and_false, eqS, neS, wO_fn, is_nn', is_tn', isnt_nn', isnt_tn', is_sn', isnt_sn', is_in', isnt_in', bi_zip_tup, bi_enum_lst, bi_list_scr, bi_list_tup, bi_tuple_tup, tadd1 len1, tadd1 len2, tadd1 len3, tadd1 len4, tadd1 len5, tadd2 len1, tadd2 len2, tadd2 len3, tadd3 len1, tadd3 len2, tadd3 len3, Ev.puts_cons, Ev.puts_nil, sl_1, tt_0, tt1_0, tt2_0, tt2_1, tt3_0, tt3_1, tt3_2, tt4_0, tt4_1, tt4_2, tt4_3, tt5_0, tt5_1, tt5_2, tt5_3, tt5_4, tt6_0, tt6_1, tt6_2, tt6_3, tt6_4, tt6_5, tt10_0, tt10_1, tt10_2, tt10_3, tt10_4, tt10_5, tt10_6, tt10_7, tt10_8, tt10_9, sl2_1, sh2_1, sl3_1, sh3_1, sl3_2, sh3_2, sl4_1, sh4_1, sl4_2, sh4_2, sl4_3, sh4_3, sl5_1, sh5_1, sl5_2, sh5_2, sl5_3, sh5_3, sl5_4, sh5_4, sl6_1, sh6_1, sl6_2, sh6_2, sl6_3, sh6_3, sl6_4, sh6_4, sl6_5, sh6_5, sl10_1, sh10_1, sl10_2, sh10_2, sl10_3, sh10_3, sl10_4, sh10_4, sl10_5, sh10_5, sl10_6, sh10_6, sl10_7, sh10_7, sl10_8, sh10_8, sl10_9, sh10_9, n0, sub_h0, dm, put_h0 hM]
    exact hQ _ _ ⟨_, _, set_h hM⟩ (mod_lt h1).1 (mod_lt h1).2
  · have d1 : divOk 1009 = true := by decide
    have d2 : divOk 16 = true := by decide
    have e1 : mulOk b 48271 = true := mulOk_r (by decide)
    obtain ⟨b1, b2⟩ := mod_lt (i := b * 48271 + 11) (m := 2147483647) (by decide)
    simp (disch := first | assumption | omega) only [startE, wE_var, wE_bor, wE_con, wE_neg, wE_bin, wE_cmp, wE_chain, wE_and, wE_or, wE_not, wE_ite, wE_join, wE_call, wE_callv, wE_bi, wE_me, wE_mu, wE_tup, wE_lst, wE_dct, wE_sub, wE_slc, wE_comp, wE_alloc, wEs_nil, wEs_cons, wS_set, wS_own, wS_unp, wS_par, wS_aug, wS_ex, wS_omu, wS_osm, wS_ret, wS_retf, wS_reto, wS_retn, wS_ite, wS_for, wS_brk, wS_cnt, wS_pass, wS_raise, wS_try, wS_sto, wS_oput, wSs_nil, wSs_cons, dctOf_nil, true_and, and_true, wO_some, wB_t, wB_f, wp_ok, seqK_nx, seqK_rt, seqK_bk, seqK_ct, outK_nx, outK_rt, outX_, Ev.get, Ev.put, map1, map2, map3, List.length_cons, List.length_nil, List.replicate, List.cons_append, List.nil_append, List.getElem?_cons_zero, List.getElem?_cons_succ, List.set_cons_zero, List.set_cons_succ, Option.bind_some, id, Option.map_some, nrm_int, nrm_bl, nrm_non, nrm_str, nrm_lst, nrm_tup, nrm_scr, nrm_ty, nrm_dct, nrm_kd, nrm_itr, nrm_fn, nrm_obj0, bin_mul_int, bin_add_int, bin_sub_int, bin_mod_int, bin_fdiv_int, bi_int_int, Nat.sub_self, w_sub0, w_sub1, w_sub2, w_sub3, w_put1, w_put2, w_put3, cmp_eq_int, cmp_ne_int, cmp_lt_int, cmp_gt_int, cmp_le_int, cmp_ge_int, bi_len_str, bi_len_tup, bi_len_lst, bi_tuple_lst, bi_list_lst, bi_max_int, itw_lst, itw_tup, itw_itr, itw_str, putT_one, putT_tup, puts_cons, puts_nil, seq_tup, seq_lst, mua_append, mua_popK, mua_upd, fit_append, fit_popK, box_lst, box_dct, dct_dct, bi_rangeW, bi_range2W, ite_tt, ite_ff, ite_tf, ite_ft, dec_lt_t, dec_lt_f, beq_t, beq_f, Bool.not_true, Bool.not_false, Bool.true_and, Bool.and_true, wlk_len, wlk_isinst, wlk_tuple, wlk_list, wlk_all, wlk_any, wlk_sorted, wlk_sum, wlk_max, wlk_min, wlk_abs, wlk_int, wlk_str, wlk_range, Bool.false_eq_true, if_false, if_true, isNon, bnd, is_non_int, is_non_bool, is_non_str, is_non_tuple, is_non_list, is_non_dict, is_bl_int, is_bl_bool, is_bl_str, is_bl_tuple, is_bl_list, is_bl_dict, is_int_int, is_int_bool, is_int_str, is_int_tuple, is_int_list, is_int_dict, is_str_int, is_str_bool, is_str_str, is_str_tuple, is_str_list, is_str_dict, is_tup_int, is_tup_bool, is_tup_str, is_tup_tuple, is_tup_list, is_tup_dict, is_lst_int, is_lst_bool, is_lst_str, is_lst_tuple, is_lst_list, is_lst_dict, wE_dcomp, mu_extend_arg, fit_extend, List.map_cons, List.map_nil, beqS_cc, beqS_nn, beqS_cn, beqS_nc, Nat.reduceBEq, Bool.false_and, Bool.and_false, eqS, neS, wO_fn, is_nn', is_tn', isnt_nn', isnt_tn', is_sn', isnt_sn', is_in', isnt_in', bi_zip_tup, bi_enum_lst, bi_list_scr, bi_list_tup, bi_tuple_tup, tadd1 len1, tadd1 len2, tadd1 len3, tadd1 len4, tadd1 len5, tadd2 len1, tadd2 len2, tadd2 len3, tadd3 len1, tadd3 len2, tadd3 len3, Ev.puts_cons, Ev.puts_nil, sl_1, tt_0, tt1_0, tt2_0, tt2_1, tt3_0, tt3_1, tt3_2, tt4_0, tt4_1, tt4_2, tt4_3, tt5_0, tt5_1, tt5_2, tt5_3, tt5_4, tt6_0, tt6_1, tt6_2, tt6_3, tt6_4, tt6_5, tt10_0, tt10_1, tt10_2, tt10_3, tt10_4, tt10_5, tt10_6, tt10_7, tt10_8, tt10_9, sl2_1, sh2_1, sl3_1, sh3_1, sl3_2, sh3_2, sl4_1, sh4_1, sl4_2, sh4_2, sl4_3, sh4_3, sl5_1, sh5_1, sl5_2, sh5_2, sl5_3, sh5_3, sl5_4, sh5_4, sl6_1, sh6_1, sl6_2, sh6_2, sl6_3, sh6_3, sl6_4, sh6_4, sl6_5, sh6_5, sl10_1, sh10_1, sl10_2, sh10_2, sl10_3, sh10_3, sl10_4, sh10_4, sl10_5, sh10_5, sl10_6, sh10_6, sl10_7, sh10_7, sl10_8, sh10_8, sl10_9, sh10_9, n0, sub_h1, e1, put_h1 hM]
    generalize hj : (b * 48271 + 11) % 2147483647 = j at b1 b2
    have e2 : mulOk j (j / 1009 % 65521 + 69621) = true := mulOk_l (by omega)
    have hM1 : (M.set o (.val (.lst [.int a, .int j])))[o]? = some (.val (.lst [.int a, .int j])) := set_h hM
    have n1 := nrm_hat hM1
    simp (disch := first | assumption | omega) only [startE, wE_var, wE_bor, wE_con, wE_neg, wE_bin, wE_cmp, wE_chain, wE_and, wE_or, wE_not, wE_ite, wE_join, wE_call, wE_callv, wE_bi, wE_me, wE_mu, wE_tup, wE_lst, wE_dct, wE_sub, wE_slc, wE_comp, wE_alloc, wEs_nil, wEs_cons, wS_set, wS_own, wS_unp, wS_par, wS_aug, wS_ex, wS_omu, wS_osm, wS_ret, wS_retf, wS_reto, wS_retn, wS_ite, wS_for, wS_brk, wS_cnt, wS_pass, wS_raise, wS_try, wS_sto, wS_oput, wSs_nil, wSs_cons, dctOf_nil, true_and, and_true, wO_some, wB_t, wB_f, wp_ok, seqK_nx, seqK_rt, seqK_bk, seqK_ct, outK_nx, outK_rt, outX_, Ev.get, Ev.put, map1, map2, map3, List.length_cons, List.length_nil, List.replicate, List.cons_append, List.nil_append, List.getElem?_cons_zero, List.getElem?_cons_succ, List.set_cons_zero, List.set_cons_succ, Option.bind_some, id, Option.map_some, nrm_int, nrm_bl, nrm_non, nrm_str, nrm_lst, nrm_tup, nrm_scr, nrm_ty, nrm_dct, nrm_kd, nrm_itr, nrm_fn, nrm_obj0, bin_mul_int, bin_add_int, bin_sub_int, bin_mod_int, bin_fdiv_int, bi_int_int, Nat.sub_self, w_sub0, w_sub1, w_sub2, w_sub3, w_put1, w_put2, w_put3, cmp_eq_int, cmp_ne_int, cmp_lt_int, cmp_gt_int, cmp_le_int, cmp_ge_int, bi_len_str, bi_len_tup, bi_len_lst, bi_tuple_lst, bi_list_lst, bi_max_int, itw_lst, itw_tup, itw_itr, itw_str, putT_one, putT_tup, puts_cons, puts_nil, seq_tup, seq_lst, mua_append, mua_popK, mua_upd, fit_append, fit_popK, box_lst, box_dct, dct_dct, bi_rangeW, bi_range2W, ite_tt, ite_ff, ite_tf, ite_ft, dec_lt_t, dec_lt_f, beq_t, beq_f, Bool.not_true, Bool.not_false, Bool.true_and, Bool.and_true, wlk_len, wlk_isinst, wlk_tuple, wlk_list, wlk_all, wlk_any, wlk_sorted, wlk_sum, wlk_max, wlk_min, wlk_abs, wlk_int, wlk_str, wlk_range, Bool.false_eq_true, if_false, if_true, isNon, bnd, is_non_int, is_non_bool, is_non_str, is_non_tuple, is_non_list, is_non_dict, is_bl_int, is_bl_bool, is_bl_str, is_bl_tuple, is_bl_list, is_bl_dict, is_int_int, is_int_bool, is_int_str, is_int_tuple, is_int_list, is_int_dict, is_str_int, is_str_bool, is_str_str, is_str_tuple, is_str_list, is_str_dict, is_tup_int, is_tup_bool, is_tup_str, is_tup_tuple, is_tup_list, is_tup_dict, is_lst_int, is_lst_bool, is_lst_str, is_lst_tuple, is_lst_list, is_lst_dict, wE_dcomp, mu_extend_arg, fit_extend, List.map_cons, List.map_nil, beqS_cc, beqS_nn, beqS_cn, beqS_nc, Nat.reduceBEq, Bool.false_and, Bool.and_false, eqS, neS, wO_fn, is_nn', is_tn', isnt_nn', isnt_tn', is_sn', isnt_sn', is_in', isnt_in', bi_zip_tup, bi_enum_lst, bi_list_scr, bi_list_tup, bi_tuple_tup, tadd1 len1, tadd1 len2, tadd1 len3, tadd1 len4, tadd1 len5, tadd2 len1, tadd2 len2, tadd2 len3, tadd3 len1, tadd3 len2, tadd3 len3, Ev.puts_cons, Ev.puts_nil, sl_1, tt_0, tt1_0, tt2_0, tt2_1, tt3_0, tt3_1, tt3_2, tt4_0, tt4_1, tt4_2, tt4_3, tt5_0, tt5_1, tt5_2, tt5_3, tt5_4, tt6_0, tt6_1, tt6_2, tt6_3, tt6_4, tt6_5, tt10_0, tt10_1, tt10_2, tt10_3, tt10_4, tt10_5, tt10_6, tt10_7, tt10_8, tt10_9, sl2_1, sh2_1, sl3_1, sh3_1, sl3_2, sh3_2, sl4_1, sh4_1, sl4_2, sh4_2, sl4_3, sh4_3, sl5_1, sh5_1, sl5_2, sh5_2, sl5_3, sh5_3, sl5_4, sh5_4, sl6_1, sh6_1, sl6_2, sh6_2, sl6_3, sh6_3, sl6_4, sh6_4, sl6_5, sh6_5, sl10_1, sh10_1, sl10_2, sh10_2, sl10_3, sh10_3, sl10_4, sh10_4, sl10_5, sh10_5, sl10_6, sh10_6, sl10_7, sh10_7, sl10_8, sh10_8, sl10_9, sh10_9, n1, sub_h1, e2, d1, put_h1 hM1]
    have hM2 := set_h (y := .val (.lst [.int a, .int ((j * (j / 1009 % 65521 + 69621) + 7) % 2147483629)])) hM1
    have n2 := nrm_hat hM2
    delta wO_some n2 sub_h1 d2
    exact hQ _ _ ⟨_, _, hM2⟩ (mod_lt h1).1 (mod_lt h1).2
theorem wide_ev : ∃ w : Int, 0 < w ∧ ∀ (c : Call) (ρ : Env) (M : Sto), evE c (.bin .mul (.bin .mul (.bin .mul (.bin .pow (.con (.int 10)) (.con (.int 64))) (.bin .pow (.con (.int 10)) (.con (.int 64)))) (.bin .pow (.con (.int 10)) (.con (.int 64)))) (.bin .pow (.con (.int 10)) (.con (.int 64)))) ρ M = .ok (.int w, M) := by
  obtain ⟨a, ha⟩ : ∃ a : Int, a = 10 ^ 64 := ⟨_, rfl⟩
  have p : binD .pow (.int 10) (.int 64) = some (.int a) := by rw [ha]; exact p64
  have m1 : ∃ b, b = a * a ∧ mulOk a a = true := ⟨_, rfl, by subst ha; decide +kernel⟩
  obtain ⟨b, hb, m1⟩ := m1
  have m2 : ∃ c, c = b * a ∧ mulOk b a = true := ⟨_, rfl, by subst hb ha; decide +kernel⟩
  obtain ⟨c, hc, m2⟩ := m2
  have m3 : mulOk c a = true := by subst hc hb ha; decide +kernel
  have hp : 0 < c * a := by subst hc hb ha; decide +kernel
  refine ⟨c * a, hp, fun _ _ _ => ?_⟩
  simp (disch := assumption) only [ev_bin, ev_con, r_bind_ok, r_of_some, nrm_int, p, Option.map_some, bin_mul_int, ← hb, ← hc]
theorem hat_wp {i k : Int} (h : 1 ≤ N) (hQ : ∀ o M', HatM o M' → Q (.obj o) M') : (Ev.run sub Γ N 107 [.int i, .int k] M).wq Q X := by
  have al : ∀ d, (M ++ [MO.val d])[M.length]? = some (.val d) := fun d => by simp
  obtain ⟨w, w0, hw⟩ := wide_ev
  obtain ⟨n, rfl⟩ : ∃ n, N = n + 1 := ⟨N - 1, by omega⟩
  refine wp_call (F := f__law_hat) rfl (Eq.refl 2) ?_
  unfold f__law_hat b__law_hat
  rw [wSs_cons, wS_set, wE_of (hw _ _ _)]
  have m5 : mulOk (i % w % 2147483647) 48271 = true := mulOk_r (by decide)
  have m6 : mulOk 7919 k = true := mulOk_l (by decide)
  delta wO_some pow18
  refine wB_sp (fun hb => ?_) (fun hb => ?_)
  · delta wO_some
    exact hQ _ _ ⟨_, _, al _⟩
  · delta wO_some
    exact hQ _ _ ⟨_, _, al _⟩
theorem stamp_wp (h : 2 ≤ N) (hM : HatM o M) (hQ : ∀ d M', HatM o M' → StampD d → Q d M') : (Ev.run sub Γ N 113 [.obj o] M).wq Q X := by
  (obtain ⟨n, rfl⟩ : ∃ n, N = n + 1 := ⟨N - 1, by omega⟩; refine wp_call (F := f__law_stamp) rfl (Eq.refl 1) ?_; delta wO_some f__law_stamp b__law_stamp)
  repeat' (first | (delta wO_some pow11) | (refine draw_wp (by omega) (by assumption) (by first | decide | omega) (by first | decide | omega) ?_; intro j M1 w1 j0 j1) | (refine wB_sp (fun hb => ?_) (fun hb => ?_) <;> try simp only [decide_eq_true_eq, decide_eq_false_iff_not, beq_iff_eq, beq_eq_false_iff_ne, Bool.not_eq_true, Bool.not_eq_false, Bool.not_true, Bool.not_false, ne_eq, Int.not_lt, Bool.not_eq_true', Bool.not_eq_false'] at hb))
  all_goals refine hQ _ _ (by assumption) ?_
  · exact .inl rfl
  · exact .inr ⟨_, _, rfl, by omega, by omega, by omega⟩
  · exact .inr ⟨_, _, rfl, by omega, by omega, by omega⟩
theorem id_wp (h : 2 ≤ N) (hM : HatM o M) (hQ : ∀ d M', HatM o M' → IdD d → Q d M') : (Ev.run sub Γ N 111 [.obj o] M).wq Q X := by
  (obtain ⟨n, rfl⟩ : ∃ n, N = n + 1 := ⟨N - 1, by omega⟩; refine wp_call (F := f__law_id) rfl (Eq.refl 1) ?_; delta wO_some f__law_id b__law_id)
  repeat' (first | (delta wO_some pow11) | (refine draw_wp (by omega) (by assumption) (by first | decide | omega) (by first | decide | omega) ?_; intro j M1 w1 j0 j1) | (refine wB_sp (fun hb => ?_) (fun hb => ?_) <;> try simp only [decide_eq_true_eq, decide_eq_false_iff_not, beq_iff_eq, beq_eq_false_iff_ne, Bool.not_eq_true, Bool.not_eq_false, Bool.not_true, Bool.not_false, ne_eq, Int.not_lt, Bool.not_eq_true', Bool.not_eq_false'] at hb))
  all_goals exact hQ _ _ (by assumption) ⟨_, _, rfl, by omega, by omega, by omega⟩
def LCh (d : D) : Prop := ∃ c, d = .str [c] ∧ (97 ≤ c ∧ c ≤ 122)
theorem name_wp (h : 2 ≤ N) (hM : HatM o M) (hQ : ∀ x M', HatM o M' → NameOk x → Q (.str x) M') : (Ev.run sub Γ N 110 [.obj o] M).wq Q X := by
  (obtain ⟨n, rfl⟩ : ∃ n, N = n + 1 := ⟨N - 1, by omega⟩; refine wp_call (F := f__law_name) rfl (Eq.refl 1) ?_; delta wO_some f__law_name b__law_name)
  repeat' (first | (delta wO_some q__law_name_0 q__law_name_1) | (refine draw_wp (by omega) (by assumption) (by first | decide | omega) (by first | decide | omega) ?_; intro j M1 w1 j0 j1) | (refine wO_pickI (lo := 1) (hi := 8) (by decide) (by omega) (by simp only [List.length_cons, List.length_nil]; omega) (fun m m0 m1 => ?_)) | (refine ⟨by first | (rw [ints_len]; exact sz_m (by omega)) | exact sz_m (by omega), wCL_st (I := HatM o) (P := LCh) (by assumption) (fun x hx M2 w2 => ⟨_, rfl, ?_⟩) (fun ys M3 w3 yl yP => ?_)⟩ <;> (try rw [ints_len] at yl)) | (refine wO_join (by assumption) (by omega) (fun x xl xc => ?_)) | (refine wO_pickC (xs := LETTERS) (L := 26) (P := fun c => 97 ≤ c ∧ c ≤ 122) (by decide +kernel) (by decide +kernel) (by omega) (by omega) (fun c hc => ?_)) | (refine wO_pickC (xs := [109, 122]) (L := 2) (P := fun c => 97 ≤ c ∧ c ≤ 122) (by decide +kernel) (by decide +kernel) (by omega) (by omega) (fun c hc => ?_)) | (refine wB_sp (fun hb => ?_) (fun hb => ?_) <;> try simp only [decide_eq_true_eq, decide_eq_false_iff_not, beq_iff_eq, beq_eq_false_iff_ne, Bool.not_eq_true, Bool.not_eq_false, Bool.not_true, Bool.not_false, ne_eq, Int.not_lt, Bool.not_eq_true', Bool.not_eq_false'] at hb))
  all_goals first
    | exact ⟨by assumption, _, rfl, by assumption⟩
    | exact hQ _ _ (by assumption) ⟨by omega, by omega, by assumption⟩
def SG : List Nat := [32, 33, 34, 35, 36, 38, 39, 40, 41, 42, 43, 44, 45, 46, 47, 48, 49, 50, 51, 52, 53, 54, 55, 56, 57, 58, 59, 60, 61, 62, 63, 64, 65, 66, 67, 68, 69, 70, 71, 72, 73, 74, 75, 76, 77, 78, 79, 80, 81, 82, 83, 84, 85, 86, 87, 88, 89, 90, 91, 92, 93, 94, 95, 96] ++ [97, 98, 99, 100, 101, 102, 103, 104, 105, 106, 107, 108, 109, 110, 111, 112, 113, 114, 115, 116, 117, 118, 119, 120, 121, 122, 123, 124, 125, 126]
theorem SG_ok : SG.length = 94 ∧ ∀ c ∈ SG, 32 ≤ c ∧ c ≤ 126 := by decide +kernel
theorem SG_len : SG.length = 94 := SG_ok.1
theorem sg_ev : binD .add (.str [32, 33, 34, 35, 36, 38, 39, 40, 41, 42, 43, 44, 45, 46, 47, 48, 49, 50, 51, 52, 53, 54, 55, 56, 57, 58, 59, 60, 61, 62, 63, 64, 65, 66, 67, 68, 69, 70, 71, 72, 73, 74, 75, 76, 77, 78, 79, 80, 81, 82, 83, 84, 85, 86, 87, 88, 89, 90, 91, 92, 93, 94, 95, 96]) (.str [97, 98, 99, 100, 101, 102, 103, 104, 105, 106, 107, 108, 109, 110, 111, 112, 113, 114, 115, 116, 117, 118, 119, 120, 121, 122, 123, 124, 125, 126]) = some (.str SG) := by
  unfold SG
  exact bin_add_str' (sz_m (by decide))
def SCh (d : D) : Prop := ∃ c, d = .str [c] ∧ (32 ≤ c ∧ c ≤ 126)
theorem piece_wp (h : 2 ≤ N) (hM : HatM o M) (hQ : ∀ x M', HatM o M' → SignsOk x → 1 ≤ x.length → x.length ≤ 8 → Q (.str x) M') : (Ev.run sub Γ N 112 [.obj o] M).wq Q X := by
  (obtain ⟨n, rfl⟩ : ∃ n, N = n + 1 := ⟨N - 1, by omega⟩; refine wp_call (F := f__law_piece) rfl (Eq.refl 1) ?_; delta wO_some f__law_piece b__law_piece)
  repeat' (first | (delta wO_some q__law_piece_0 sg_ev) | (refine draw_wp (by omega) (by assumption) (by first | decide | omega) (by first | decide | omega) ?_; intro j M1 w1 j0 j1) | (refine wO_pickI (lo := 1) (hi := 8) (by decide) (by omega) (by simp only [List.length_cons, List.length_nil]; omega) (fun m m0 m1 => ?_)) | (refine ⟨by first | (rw [ints_len]; exact sz_m (by omega)) | exact sz_m (by omega), wCL_st (I := HatM o) (P := SCh) (by assumption) (fun x hx M2 w2 => ⟨_, rfl, ?_⟩) (fun ys M3 w3 yl yP => ?_)⟩ <;> (try rw [ints_len] at yl)) | (refine wO_join (by assumption) (by omega) (fun x xl xc => ?_)) | (refine wO_pickC (xs := SG) (L := 94) (P := fun c => 32 ≤ c ∧ c ≤ 126) (by decide +kernel) (by decide +kernel) (by omega) (by omega) (fun c hc => ?_)) | (refine wB_sp (fun hb => ?_) (fun hb => ?_) <;> try simp only [decide_eq_true_eq, decide_eq_false_iff_not, beq_iff_eq, beq_eq_false_iff_ne, Bool.not_eq_true, Bool.not_eq_false, Bool.not_true, Bool.not_false, ne_eq, Int.not_lt, Bool.not_eq_true', Bool.not_eq_false'] at hb))
  all_goals first
    | exact ⟨by assumption, _, rfl, by assumption⟩
    | exact hQ _ _ (by assumption) (by assumption) (by omega) (by omega)
theorem bits_some : ∀ b : Fin 512, b.val ≠ 0 → ((List.range 9).filter fun i => ((b.val : Int) / 2 ^ i % 2 == 1)) ≠ [] := by decide +kernel
theorem members_wp (h : 2 ≤ N) (hM : HatM o M) (hQ : ∀ d M', HatM o M' → MembersD d → Q d M') : (Ev.run sub Γ N 114 [.obj o] M).wq Q X := by
  (obtain ⟨n, rfl⟩ : ∃ n, N = n + 1 := ⟨N - 1, by omega⟩; refine wp_call (F := f__law_members) rfl (Eq.refl 1) ?_; delta wO_some f__law_members b__law_members)
  refine draw_wp (by omega) (by assumption) (by decide) (by decide) ?_
  intro k M1 w1 k0 k1
  delta wO_some q__law_members_0
  refine ⟨by rw [ints_len]; exact sz_m (by omega), wCL_flt (f := fun d => d) (p := fun d => match d with | .int i => (1 + k) / 2 ^ i.toNat % 2 == 1 | _ => false) (fun x hx => ?_) ?_⟩
  · obtain ⟨i, hi, rfl⟩ := ints_mem hx
    refine ⟨_, rfl, ?_, fun _ => ?_⟩
    · delta wO_some bin_shr
      rfl
    · delta wO_some
  · have e2 : (((intsFrom 0 1 (9 : Int).toNat).filter (fun d => match d with | .int i => (1 + k) / 2 ^ i.toNat % 2 == 1 | _ => false)).map fun d => d) = (((List.range 9).filter fun i => ((1 + k) / 2 ^ i % 2 == 1)).map fun (i : Nat) => (i : Int)).map D.int := by
      rw [List.map_id', intsFrom_map, List.filter_map, List.map_map]
      have : ((fun d => match d with | D.int i => (1 + k) / 2 ^ i.toNat % 2 == 1 | _ => false) ∘ fun (i : Nat) => D.int (0 + (i : Int) * 1)) = fun (i : Nat) => ((1 + k) / 2 ^ i % 2 == 1) := by
        funext i
        simp
      rw [this]
      refine List.map_congr_left fun i _ => ?_
      simp
    have ne : ((List.range 9).filter fun i => ((1 + k) / 2 ^ i % 2 == 1)) ≠ [] := by
      have := bits_some ⟨(1 + k).toNat, by omega⟩ (by show (1 + k).toNat ≠ 0; omega)
      rw [show (((1 + k).toNat : Nat) : Int) = 1 + k by omega] at this
      exact this
    rw [e2]
    delta wO_some
    refine hQ _ _ (by assumption) ⟨_, rfl, ?_, ?_, ?_, ?_⟩
    · rw [List.length_map]; exact List.length_pos_iff.mpr ne
    · rw [List.length_map]
      have := List.length_filter_le (fun i => ((1 + k) / 2 ^ i % 2 == 1)) (List.range 9)
      rw [List.length_range] at this
      exact this
    · intro i hi
      obtain ⟨a, ha, rfl⟩ := List.mem_map.mp hi
      have := List.mem_range.mp (List.mem_filter.mp ha).1
      omega
    · rw [List.pairwise_map]
      refine (List.pairwise_lt_range.sublist List.filter_sublist).imp fun h => by omega
theorem row_wp {pool : List D} (h : 2 ≤ N) (hM : HatM o M) (hp : ∀ d ∈ pool, IdD d) (hl : 0 < pool.length ∧ pool.length ≤ 1000) (hQ : ∀ d M', HatM o M' → RowD d → Q d M') : (Ev.run sub Γ N 115 [.obj o, .lst pool] M).wq Q X := by
  (obtain ⟨n, rfl⟩ : ∃ n, N = n + 1 := ⟨N - 1, by omega⟩; refine wp_call (F := f__law_row) rfl (Eq.refl 2) ?_; delta wO_some f__law_row b__law_row)
  repeat' (first | (delta wO_some q__law_row_0) | (refine draw_wp (by omega) (by assumption) (by first | decide | omega) (by first | decide | omega) ?_; intro j M1 w1 j0 j1) | (refine wO_pickI (lo := -1) (hi := 12) (by decide) (by omega) (by simp only [List.length_cons, List.length_nil]; omega) (fun m m0 m1 => ?_)) | (refine ⟨by first | (rw [ints_len]; exact sz_m (by omega)) | exact sz_m (by omega), wCL_st (I := HatM o) (P := IdD) (by assumption) (fun x hx M2 w2 => ⟨_, rfl, ?_⟩) (fun ys M3 w3 yl yP => ?_)⟩ <;> (try rw [ints_len] at yl)) | (refine wO_pick (P := IdD) (by assumption) (by omega) (by omega) (fun d hd => ?_)) | (refine wB_sp (fun hb => ?_) (fun hb => ?_) <;> try simp only [decide_eq_true_eq, decide_eq_false_iff_not, beq_iff_eq, beq_eq_false_iff_ne, Bool.not_eq_true, Bool.not_eq_false, Bool.not_true, Bool.not_false, ne_eq, Int.not_lt, Bool.not_eq_true', Bool.not_eq_false'] at hb))
  all_goals first
    | exact ⟨by assumption, by assumption⟩
    | exact hQ _ _ (by assumption) (.inl rfl)
    | exact hQ _ _ (by assumption) (.inr ⟨_, rfl, by omega, by assumption⟩)
end
end K10
set_option Elab.async false
set_option linter.all false
set_option autoImplicit false
set_option maxRecDepth 1000000
set_option maxHeartbeats 4000000
namespace K10
open Ev
local macro_rules | `(tactic| delta $xs:ident*) => `(tactic| simp (disch := first | assumption | omega) only [startE, wE_var, wE_bor, wE_con, wE_neg, wE_bin, wE_cmp, wE_chain, wE_and, wE_or, wE_not, wE_ite, wE_join, wE_call, wE_callv, wE_bi, wE_me, wE_mu, wE_tup, wE_lst, wE_dct, wE_sub, wE_slc, wE_comp, wE_alloc, wEs_nil, wEs_cons, wS_set, wS_own, wS_unp, wS_par, wS_aug, wS_ex, wS_omu, wS_osm, wS_ret, wS_retf, wS_reto, wS_retn, wS_ite, wS_for, wS_brk, wS_cnt, wS_pass, wS_raise, wS_try, wS_sto, wS_oput, wSs_nil, wSs_cons, dctOf_nil, true_and, and_true, wO_some, wB_t, wB_f, wp_ok, seqK_nx, seqK_rt, seqK_bk, seqK_ct, outK_nx, outK_rt, outX_, Ev.get, Ev.put, map1, map2, map3, List.length_cons, List.length_nil, List.replicate, List.cons_append, List.nil_append, List.getElem?_cons_zero, List.getElem?_cons_succ, List.set_cons_zero, List.set_cons_succ, Option.bind_some, id, Option.map_some, nrm_int, nrm_bl, nrm_non, nrm_str, nrm_lst, nrm_tup, nrm_scr, nrm_ty, nrm_dct, nrm_kd, nrm_itr, nrm_fn, nrm_obj0, bin_mul_int, bin_add_int, bin_sub_int, bin_mod_int, bin_fdiv_int, bi_int_int, Nat.sub_self, w_sub0, w_sub1, w_sub2, w_sub3, w_put1, w_put2, w_put3, cmp_eq_int, cmp_ne_int, cmp_lt_int, cmp_gt_int, cmp_le_int, cmp_ge_int, bi_len_str, bi_len_tup, bi_len_lst, bi_tuple_lst, bi_list_lst, bi_max_int, itw_lst, itw_tup, itw_itr, itw_str, putT_one, putT_tup, puts_cons, puts_nil, seq_tup, seq_lst, mua_append, mua_popK, mua_upd, fit_append, fit_popK, box_lst, box_dct, dct_dct, bi_rangeW, bi_range2W, ite_tt, ite_ff, ite_tf, ite_ft, dec_lt_t, dec_lt_f, beq_t, beq_f, Bool.not_true, Bool.not_false, Bool.true_and, Bool.and_true, wlk_len, wlk_isinst, wlk_tuple, wlk_list, wlk_all, wlk_any, wlk_sorted, wlk_sum, wlk_max, wlk_min, wlk_abs, wlk_int, wlk_str, wlk_range, Bool.false_eq_true, if_false, if_true, isNon, bnd, is_non_int, is_non_bool, is_non_str, is_non_tuple, is_non_list, is_non_dict, is_bl_int, is_bl_bool, is_bl_str, is_bl_tuple, is_bl_list, is_bl_dict, is_int_int, is_int_bool, is_int_str, is_int_tuple, is_int_list, is_int_dict, is_str_int, is_str_bool, is_str_str, is_str_tuple, is_str_list, is_str_dict, is_tup_int, is_tup_bool, is_tup_str, is_tup_tuple, is_tup_list, is_tup_dict, is_lst_int, is_lst_bool, is_lst_str, is_lst_tuple, is_lst_list, is_lst_dict, wE_dcomp, mu_extend_arg, fit_extend, List.map_cons, List.map_nil, beqS_cc, beqS_nn, beqS_cn, beqS_nc, Nat.reduceBEq, Bool.false_and, Bool.and_false, eqS, neS, wO_fn, is_nn', is_tn', isnt_nn', isnt_tn', is_sn', isnt_sn', is_in', isnt_in', bi_zip_tup, bi_enum_lst, bi_list_scr, bi_list_tup, bi_tuple_tup, tadd1 len1, tadd1 len2, tadd1 len3, tadd1 len4, tadd1 len5, tadd2 len1, tadd2 len2, tadd2 len3, tadd3 len1, tadd3 len2, tadd3 len3, Ev.puts_cons, Ev.puts_nil, sl_1, tt_0, tt1_0, tt2_0, tt2_1, tt3_0, tt3_1, tt3_2, tt4_0, tt4_1, tt4_2, tt4_3, tt5_0, tt5_1, tt5_2, tt5_3, tt5_4, tt6_0, tt6_1, tt6_2, tt6_3, tt6_4, tt6_5, tt10_0, tt10_1, tt10_2, tt10_3, tt10_4, tt10_5, tt10_6, tt10_7, tt10_8, tt10_9, sl2_1, sh2_1, sl3_1, sh3_1, sl3_2, sh3_2, sl4_1, sh4_1, sl4_2, sh4_2, sl4_3, sh4_3, sl5_1, sh5_1, sl5_2, sh5_2, sl5_3, sh5_3, sl5_4, sh5_4, sl6_1, sh6_1, sl6_2, sh6_2, sl6_3, sh6_3, sl6_4, sh6_4, sl6_5, sh6_5, sl10_1, sh10_1, sl10_2, sh10_2, sl10_3, sh10_3, sl10_4, sh10_4, sl10_5, sh10_5, sl10_6, sh10_6, sl10_7, sh10_7, sl10_8, sh10_8, sl10_9, sh10_9, $[$xs:ident],*])
section
variable {N o : Nat} {M : Sto} {Q : D → Sto → Prop} {X : Xc → Sto → Prop}
def NmD (d : D) : Prop := ∃ x, d = .str x ∧ NameOk x
def SRD (d : D) : Prop := ∃ s r, d = .tup [s, r] ∧ StampD s ∧ RowD r
theorem nm_al (a b : D) (ha : NmD a) (hb : NmD b) : alike a b = true := by
  obtain ⟨x, rfl, _⟩ := ha
  obtain ⟨y, rfl, _⟩ := hb
  rfl
theorem nm_ok (a : D) (ha : NmD a) : keyOk false a = true := by
  obtain ⟨x, rfl, _⟩ := ha
  rfl
theorem nm_sort {ds : List D} (h : ∀ d ∈ ds, NmD d) : sortOk ds = true := sortOk_of (fun a ha => by
  obtain ⟨x, rfl, _⟩ := h a ha
  exact ⟨rfl, by simp [depth, depths]⟩) (fun a ha b hb => nm_al a b (h a ha) (h b hb)) (.inr fun a ha => by
  obtain ⟨x, rfl, _⟩ := h a ha
  exact ⟨x, rfl⟩)
theorem id_al (a b : D) (ha : IdD a) (hb : IdD b) : alike a b = true := by
  obtain ⟨x, y, rfl, _⟩ := ha
  obtain ⟨z, w, rfl, _⟩ := hb
  rfl
theorem id_key (a : D) (ha : IdD a) : keyOk true a = true := by
  obtain ⟨x, y, rfl, h, _⟩ := ha
  have e : (0 == x) = false := by rw [beq_eq_false_iff_ne]; omega
  have e2 : (x == 0) = false := by rw [beq_eq_false_iff_ne]; omega
  show (!wrOk [.int x, .int y]) = true
  simp [wrOk, wrL, deqs, deq, isSc]
  omega
theorem id_sort {ds : List D} (h : ∀ d ∈ ds, IdD d) : sortOk ds = true := sortOk_of (fun a ha => by
  obtain ⟨x, y, rfl, _⟩ := h a ha
  exact ⟨rfl, by simp [depth, depths]⟩) (fun a ha b hb => id_al a b (h a ha) (h b hb)) (.inl fun a ha => by
  obtain ⟨x, y, rfl, _⟩ := h a ha
  exact ⟨_, _, rfl⟩)
theorem keys_of {PK PV : D → Prop} {kvs : List (D × D)} (h : DictOk PK PV kvs) : ∀ k ∈ kvs.map (·.1), PK k := fun k hk => by
  obtain ⟨p, hp, rfl⟩ := List.mem_map.mp hk
  exact h.pk p hp
def rowT (kvs : List (D × D)) (k : D) : D := match keyFind kvs k with
  | some (.tup l) => .tup (k :: l)
  | _ => .non
def rowP (kvs : List (D × D)) (k : D) : D := match keyFind kvs k with
  | some v => .tup [k, v]
  | _ => .non
theorem heads_wp {names pool : List D} (h : 3 ≤ N) (hM : HatM o M) (hn : ∀ d ∈ names, NmD d) (hnl : names.length ≤ 1000) (hp : ∀ d ∈ pool, IdD d) (hl : 0 < pool.length ∧ pool.length ≤ 1000) (hQ : ∀ d M', HatM o M' → HeadsD d → Q d M') : (Ev.run sub Γ N 116 [.obj o, .lst names, .lst pool] M).wq Q X := by
  (obtain ⟨n, rfl⟩ : ∃ n, N = n + 1 := ⟨N - 1, by omega⟩; refine wp_call (F := f__law_heads) rfl (Eq.refl 3) ?_; delta wO_some f__law_heads b__law_heads)
  refine wFor_inv (I := fun rest ρ M => ∃ kvs u, ρ = [some (.obj o), some (.lst names), some (.lst pool), some (.dct false kvs), u] ∧ HatM o M ∧ DictOk NmD SRD kvs ∧ kvs.length + rest.length ≤ 1000 ∧ ∀ d ∈ rest, NmD d) ⟨[], _, rfl, hM, dict_nil _ _, by simpa using hnl, hn⟩ ?_ ?_
  · rintro a ds ρ M ⟨kvs, u, rfl, hM, hk, hkl, hr⟩
    have haK := hr a List.mem_cons_self
    have hr2 : ∀ d ∈ ds, NmD d := fun x hx => hr x (List.mem_cons_of_mem _ hx)
    rw [List.length_cons] at hkl
    refine ⟨_, rfl, ?_⟩
    simp only [l__law_heads_0]
    repeat' (first | (delta wO_some) | (refine draw_wp (by omega) (by assumption) (by first | decide | omega) (by first | decide | omega) ?_; intro j M1 w1 j0 j1) | (refine stamp_wp (by omega) (by assumption) (fun d M1 w1 hd => ?_)) | (refine row_wp (by omega) (by assumption) (by assumption) (by assumption) (fun d M1 w1 hd => ?_)) | (refine wB_sp (fun hb => ?_) (fun hb => ?_) <;> try simp only [decide_eq_true_eq, decide_eq_false_iff_not, beq_iff_eq, beq_eq_false_iff_ne, Bool.not_eq_true, Bool.not_eq_false, Bool.not_true, Bool.not_false, ne_eq, Int.not_lt, Bool.not_eq_true', Bool.not_eq_false'] at hb))
    · refine wO_of (mu_putD (nm_ok a haK) (sz_lt (by omega))) ?_
      delta wO_some
      exact ⟨_, _, rfl, by assumption, dict_put nm_al hk haK ⟨_, _, rfl, by assumption, by assumption⟩, Nat.le_trans (Nat.add_le_add_right (keyPut_le1 _ _ _) _) (by omega), hr2⟩
    · exact ⟨_, _, rfl, by assumption, hk, by omega, hr2⟩
  · rintro ρ M ⟨kvs, u, rfl, hM, hk, hkl, _⟩
    delta wO_some q__law_heads_1
    refine dict_sort nm_al hk (nm_sort (keys_of hk)) fun ks ha hm hkl2 => ?_
    delta wO_some
    have hf : ∀ k ∈ ks, ∃ x s r, k = .str x ∧ NameOk x ∧ keyFind kvs k = some (.tup [s, r]) ∧ StampD s ∧ RowD r := fun k hk' => by
      obtain ⟨v, e, ⟨s, r, rfl, h1, h2⟩, _⟩ := dict_find nm_al hk ((hm k).mp hk')
      obtain ⟨x, rfl, hx⟩ := keys_of hk k ((hm k).mp hk')
      exact ⟨x, s, r, rfl, hx, e, h1, h2⟩
    refine ⟨sz_m (by simp at hkl; omega), wCL_map (f := rowT kvs) (fun k hk' => ⟨_, rfl, ?_⟩) ?_⟩
    · obtain ⟨x, s, r, rfl, hx, e, h1, h2⟩ := hf k hk'
      have es := sub_dct (t := false) (nm_ok _ ⟨x, rfl, hx⟩) e
      have ea : binD .add (.tup [.str x]) (.tup [s, r]) = some (.tup [.str x, s, r]) := bin_add_tup' (x := [.str x]) (y := [s, r]) (sz_m (by simp))
      delta wO_some es ea rowT e
    · delta wO_some
      refine hQ _ _ hM ⟨_, rfl, by rw [List.length_map]; simp at hkl; omega, fun y hy => ?_, ?_⟩
      · obtain ⟨k, hk', rfl⟩ := List.mem_map.mp hy
        obtain ⟨x, s, r, rfl, hx, e, h1, h2⟩ := hf k hk'
        exact ⟨x, s, r, by simp only [rowT, e], hx, h1, h2⟩
      · rw [List.map_map]
        have : ks.map (fstD ∘ rowT kvs) = ks := by
          conv => rhs; rw [← List.map_id' ks]
          refine List.map_congr_left fun k hk' => ?_
          obtain ⟨x, s, r, rfl, hx, e, h1, h2⟩ := hf k hk'
          simp only [Function.comp, rowT, e, fstD]
        rw [this]; exact ha
def PcD (d : D) : Prop := ∃ x, d = .str x ∧ SignsOk x ∧ 1 ≤ x.length ∧ x.length ≤ 8
theorem blocks_wp {pool : List D} (h : 3 ≤ N) (hM : HatM o M) (hp : ∀ d ∈ pool, IdD d) (hl : pool.length ≤ 1000) (hQ : ∀ d M', HatM o M' → BlocksD d → Q d M') : (Ev.run sub Γ N 117 [.obj o, .lst pool] M).wq Q X := by
  (obtain ⟨n, rfl⟩ : ∃ n, N = n + 1 := ⟨N - 1, by omega⟩; refine wp_call (F := f__law_blocks) rfl (Eq.refl 2) ?_; delta wO_some f__law_blocks b__law_blocks)
  refine wFor_inv (I := fun rest ρ M => ∃ kvs u, ρ = [some (.obj o), some (.lst pool), some (.dct true kvs), u] ∧ HatM o M ∧ DictOk IdD PcD kvs ∧ kvs.length + rest.length ≤ 1000 ∧ ∀ d ∈ rest, IdD d) ⟨[], _, rfl, hM, dict_nil _ _, by simpa using hl, hp⟩ ?_ ?_
  · rintro a ds ρ M ⟨kvs, u, rfl, hM, hk, hkl, hr⟩
    have haK := hr a List.mem_cons_self
    have hr2 : ∀ d ∈ ds, IdD d := fun x hx => hr x (List.mem_cons_of_mem _ hx)
    rw [List.length_cons] at hkl
    refine ⟨_, rfl, ?_⟩
    simp only [l__law_blocks_0]
    repeat' (first | (delta wO_some) | (refine draw_wp (by omega) (by assumption) (by first | decide | omega) (by first | decide | omega) ?_; intro j M1 w1 j0 j1) | (refine piece_wp (by omega) (by assumption) (fun x M1 w1 x1 x2 x3 => ?_)) | (refine wB_sp (fun hb => ?_) (fun hb => ?_) <;> try simp only [decide_eq_true_eq, decide_eq_false_iff_not, beq_iff_eq, beq_eq_false_iff_ne, Bool.not_eq_true, Bool.not_eq_false, Bool.not_true, Bool.not_false, ne_eq, Int.not_lt, Bool.not_eq_true', Bool.not_eq_false'] at hb))
    · refine wO_of (mu_putD (id_key a haK) (sz_lt (by omega))) ?_
      delta wO_some
      exact ⟨_, _, rfl, by assumption, dict_put id_al hk haK ⟨_, rfl, by assumption, by assumption, by assumption⟩, Nat.le_trans (Nat.add_le_add_right (keyPut_le1 _ _ _) _) (by omega), hr2⟩
    · exact ⟨_, _, rfl, by assumption, hk, by omega, hr2⟩
  · rintro ρ M ⟨kvs, u, rfl, hM, hk, hkl, _⟩
    delta wO_some q__law_blocks_1
    refine dict_sort id_al hk (id_sort (keys_of hk)) fun ks ha hm hkl2 => ?_
    delta wO_some
    have hf : ∀ k ∈ ks, ∃ x, IdD k ∧ keyFind kvs k = some (.str x) ∧ SignsOk x ∧ 1 ≤ x.length ∧ x.length ≤ 8 := fun k hk' => by
      obtain ⟨v, e, ⟨x, rfl, h1, h2, h3⟩, _⟩ := dict_find id_al hk ((hm k).mp hk')
      exact ⟨x, keys_of hk k ((hm k).mp hk'), e, h1, h2, h3⟩
    refine ⟨sz_m (by simp at hkl; omega), wCL_map (f := rowP kvs) (fun k hk' => ⟨_, rfl, ?_⟩) ?_⟩
    · obtain ⟨x, hi, e, h1, h2, h3⟩ := hf k hk'
      have es := sub_dct (t := true) (id_key _ hi) e
      delta wO_some es rowP e
    · delta wO_some
      refine hQ _ _ hM ⟨_, rfl, by rw [List.length_map]; simp at hkl; omega, fun y hy => ?_, ?_⟩
      · obtain ⟨k, hk', rfl⟩ := List.mem_map.mp hy
        obtain ⟨x, hi, e, h1, h2, h3⟩ := hf k hk'
        exact ⟨k, x, by simp only [rowP, e], hi, h1, h2, h3⟩
      · rw [List.map_map]
        have : ks.map (fstD ∘ rowP kvs) = ks := by
          conv => rhs; rw [← List.map_id' ks]
          refine List.map_congr_left fun k hk' => ?_
          obtain ⟨x, hi, e, h1, h2, h3⟩ := hf k hk'
          simp only [Function.comp, rowP, e, fstD]
        rw [this]; exact ha
def HkD (d : D) : Prop := ∃ x i, d = .tup [.str x, .int i] ∧ NameOk x ∧ 1 ≤ i ∧ i ≤ 99
def TuD (d : D) : Prop := ∃ t u, d = .tup [.int t, .int u] ∧ 0 ≤ t ∧ 0 ≤ u
theorem hk_al (a b : D) (ha : HkD a) (hb : HkD b) : alike a b = true := by
  obtain ⟨x, i, rfl, _⟩ := ha
  obtain ⟨y, j, rfl, _⟩ := hb
  rfl
theorem hk_ok (a : D) (ha : HkD a) : keyOk true a = true := by
  obtain ⟨x, i, rfl, _⟩ := ha
  show (!wrOk [.str x, .int i]) = true
  simp [wrOk, wrL, deqs, deq, isSc]
theorem hk_sort {ds : List D} (h : ∀ d ∈ ds, HkD d) : sortOk ds = true := sortOk_of (fun a ha => by
  obtain ⟨x, i, rfl, _⟩ := h a ha
  exact ⟨rfl, by simp [depth, depths]⟩) (fun a ha b hb => hk_al a b (h a ha) (h b hb)) (.inl fun a ha => by
  obtain ⟨x, i, rfl, _⟩ := h a ha
  exact ⟨_, _, rfl⟩)
theorem leases_wp {names : List D} {c : Int} (h : 3 ≤ N) (hM : HatM o M) (hn : ∀ d ∈ names, NmD d) (hnl : 0 < names.length ∧ names.length ≤ 1000) (hQ : ∀ L M', HatM o M' → LsOks L → Q (.tup (L.map lD)) M') : (Ev.run sub Γ N 118 [.obj o, .lst names, .int c] M).wq Q X := by
  (obtain ⟨n, rfl⟩ : ∃ n, N = n + 1 := ⟨N - 1, by omega⟩; refine wp_call (F := f__law_leases) rfl (Eq.refl 3) ?_; delta wO_some f__law_leases b__law_leases)
  repeat' (first | (delta wO_some) | (refine draw_wp (by omega) (by assumption) (by first | decide | omega) (by first | decide | omega) ?_; intro j M1 w1 j0 j1) | (refine wO_pickI (lo := 0) (hi := 4) (by decide) (by omega) (by simp only [List.length_cons, List.length_nil]; omega) (fun m m0 m1 => ?_)) | (refine wB_sp (fun hb => ?_) (fun hb => ?_) <;> try simp only [decide_eq_true_eq, decide_eq_false_iff_not, beq_iff_eq, beq_eq_false_iff_ne, Bool.not_eq_true, Bool.not_eq_false, Bool.not_true, Bool.not_false, ne_eq, Int.not_lt, Bool.not_eq_true', Bool.not_eq_false'] at hb))
  refine wFor_inv (I := fun rest ρ M => ∃ kvs u v, ρ = [some (.obj o), some (.lst names), some (.int c), some (.dct true kvs), u, v] ∧ HatM o M ∧ DictOk HkD TuD kvs ∧ kvs.length + rest.length ≤ 4) ⟨[], _, _, rfl, by assumption, dict_nil _ _, by rw [ints_len]; simp; omega⟩ ?_ ?_
  · rintro d ds ρ M ⟨kvs, u, v, rfl, hM, hk, hkl⟩
    rw [List.length_cons] at hkl
    refine ⟨_, rfl, ?_⟩
    simp only [l__law_leases_0]
    repeat' (first | (delta wO_some) | (refine draw_wp (by omega) (by assumption) (by first | decide | omega) (by first | decide | omega) ?_; intro j M1 w1 j0 j1) | (refine wO_pick (P := NmD) (by assumption) (by omega) (by omega) (fun d hd => ?_)) | (refine wB_sp (fun hb => ?_) (fun hb => ?_) <;> try simp only [decide_eq_true_eq, decide_eq_false_iff_not, beq_iff_eq, beq_eq_false_iff_ne, Bool.not_eq_true, Bool.not_eq_false, Bool.not_true, Bool.not_false, ne_eq, Int.not_lt, Bool.not_eq_true', Bool.not_eq_false'] at hb))
    obtain ⟨x, rfl, hx⟩ := hd
    refine wO_of (mu_putD (hk_ok _ ⟨x, _, rfl, hx, by omega, by omega⟩) (sz_lt (by omega))) ?_
    delta wO_some
    refine ⟨_, _, _, rfl, by assumption, dict_put hk_al hk ⟨x, _, rfl, hx, by omega, by omega⟩ ⟨_, _, rfl, by omega, by split <;> omega⟩, ?_⟩
    exact Nat.le_trans (Nat.add_le_add_right (keyPut_le1 _ _ _) _) (by omega)
  · rintro ρ M ⟨kvs, u, v, rfl, hM, hk, hkl⟩
    delta wO_some q__law_leases_1
    refine dict_sort hk_al hk (hk_sort (keys_of hk)) fun ks ha hm hkl2 => ?_
    delta wO_some
    have hf : ∀ k ∈ ks, ∃ l : Ls, k = kD' l ∧ LsOk l ∧ keyFind kvs k = some (.tup [.int l.t, .int l.u]) := fun k hk' => by
      obtain ⟨v, e, ⟨t, u, rfl, h1, h2⟩, _⟩ := dict_find hk_al hk ((hm k).mp hk')
      obtain ⟨x, i, rfl, hx, i0, i1⟩ := keys_of hk k ((hm k).mp hk')
      exact ⟨⟨x, i, t, u⟩, rfl, ⟨hx, i0, i1, h1, h2⟩, e⟩
    refine ⟨sz_m (by simp at hkl; omega), wCL_map (f := fun k => match k, keyFind kvs k with | .tup a, some (.tup b) => .tup (a ++ b) | _, _ => .non) (fun k hk' => ⟨_, rfl, ?_⟩) ?_⟩
    · obtain ⟨l, rfl, hlo, e⟩ := hf k hk'
      have es := sub_dct (t := true) (hk_ok _ ⟨_, _, rfl, hlo.1, hlo.2.1, hlo.2.2.1⟩) e
      unfold kD' at es e ⊢
      have ea : binD .add (.tup [.str l.n, .int l.h]) (.tup [.int l.t, .int l.u]) = some (.tup [.str l.n, .int l.h, .int l.t, .int l.u]) := bin_add_tup' (x := [.str l.n, .int l.h]) (y := [.int l.t, .int l.u]) (sz_m (by simp))
      delta wO_some es ea e
    · delta wO_some
      have key : ∀ ks : List D, Asc ks → (∀ k ∈ ks, ∃ l : Ls, k = kD' l ∧ LsOk l ∧ keyFind kvs k = some (.tup [.int l.t, .int l.u])) → ∃ L : List Ls, ks = L.map kD' ∧ (ks.map (fun k => match k, keyFind kvs k with | .tup a, some (.tup b) => .tup (a ++ b) | _, _ => .non)) = L.map lD ∧ (∀ l ∈ L, LsOk l) := fun ks => by
        induction ks with
        | nil => exact fun _ _ => ⟨[], rfl, rfl, fun _ h => by cases h⟩
        | cons k ks ih =>
          intro ha hf
          obtain ⟨L, e1, e2, e3⟩ := ih (List.pairwise_cons.mp ha).2 fun k hk => hf k (List.mem_cons_of_mem _ hk)
          obtain ⟨l, rfl, hlo, e⟩ := hf k List.mem_cons_self
          refine ⟨l :: L, by rw [e1]; rfl, ?_, fun x hx => ?_⟩
          · rw [List.map_cons, e2]
            unfold kD' at e ⊢
            simp only [e]
            rfl
          · rcases List.mem_cons.mp hx with rfl | hx
            · exact hlo
            · exact e3 x hx
      obtain ⟨L, e1, e2, e3⟩ := key ks ha hf
      rw [e2]
      refine hQ L _ hM ⟨?_, e3, ?_⟩
      · have := congrArg List.length e1
        rw [List.length_map] at this
        simp at hkl
        omega
      · rw [e1] at ha
        exact List.pairwise_map.mp ha
theorem table_wp {names pool : List D} (h : 5 ≤ N) (hM : HatM o M) (hn : ∀ d ∈ names, NmD d) (hnl : 0 < names.length ∧ names.length ≤ 1000) (hp : ∀ d ∈ pool, IdD d) (hl : 0 < pool.length ∧ pool.length ≤ 1000) (hQ : ∀ T M', HatM o M' → TbOk 1000 T → T.x = .non → Q (tD T) M') : (Ev.run sub Γ N 119 [.obj o, .lst names, .lst pool] M).wq Q X := by
  (obtain ⟨n, rfl⟩ : ∃ n, N = n + 1 := ⟨N - 1, by omega⟩; refine wp_call (F := f__law_table) rfl (Eq.refl 3) ?_; delta wO_some f__law_table b__law_table)
  repeat' (first | (delta wO_some pow11) | (refine draw_wp (by omega) (by assumption) (by first | decide | omega) (by first | decide | omega) ?_; intro j M1 w1 j0 j1) | (refine wO_pickI (lo := 0) (hi := 100000000000) (by decide) (by omega) (by simp only [List.length_cons, List.length_nil]; omega) (fun m m0 m1 => ?_)) | (refine members_wp (by omega) (by assumption) (fun d M1 w1 hd => ?_)) | (refine leases_wp (by omega) (by assumption) (by assumption) (by assumption) (fun L M1 w1 hL => ?_)) | (refine stamp_wp (by omega) (by assumption) (fun d M1 w1 hd => ?_)) | (refine heads_wp (by omega) (by assumption) (by assumption) (by omega) (by assumption) (by assumption) (fun d M1 w1 hd => ?_)) | (refine blocks_wp (by omega) (by assumption) (by assumption) (by omega) (fun d M1 w1 hd => ?_)) | (refine wB_sp (fun hb => ?_) (fun hb => ?_) <;> try simp only [decide_eq_true_eq, decide_eq_false_iff_not, beq_iff_eq, beq_eq_false_iff_ne, Bool.not_eq_true, Bool.not_eq_false, Bool.not_true, Bool.not_false, ne_eq, Int.not_lt, Bool.not_eq_true', Bool.not_eq_false'] at hb))
  all_goals exact hQ ⟨_, _, _, _, _, _, _, _, _, _⟩ _ (by assumption) ⟨by omega, by assumption, by first | exact .inl rfl | exact .inr (by assumption), by omega, by assumption, by assumption, hL.1, hL.2.1, hL.2.2, by first | exact .inl rfl | assumption, by first | exact .inl rfl | exact .inr ⟨_, _, rfl, by assumption, by assumption⟩, .inl rfl⟩ rfl
end
end K10
set_option Elab.async false
set_option linter.all false
set_option autoImplicit false
set_option maxRecDepth 1000000
set_option maxHeartbeats 4000000
namespace K10
open Ev
local macro_rules | `(tactic| delta $xs:ident*) => `(tactic| simp (disch := first | assumption | omega) only [startE, wE_var, wE_bor, wE_con, wE_neg, wE_bin, wE_cmp, wE_chain, wE_and, wE_or, wE_not, wE_ite, wE_join, wE_call, wE_callv, wE_bi, wE_me, wE_mu, wE_tup, wE_lst, wE_dct, wE_sub, wE_slc, wE_comp, wE_alloc, wEs_nil, wEs_cons, wS_set, wS_own, wS_unp, wS_par, wS_aug, wS_ex, wS_omu, wS_osm, wS_ret, wS_retf, wS_reto, wS_retn, wS_ite, wS_for, wS_brk, wS_cnt, wS_pass, wS_raise, wS_try, wS_sto, wS_oput, wSs_nil, wSs_cons, dctOf_nil, true_and, and_true, wO_some, wB_t, wB_f, wp_ok, seqK_nx, seqK_rt, seqK_bk, seqK_ct, outK_nx, outK_rt, outX_, Ev.get, Ev.put, map1, map2, map3, List.length_cons, List.length_nil, List.replicate, List.cons_append, List.nil_append, List.getElem?_cons_zero, List.getElem?_cons_succ, List.set_cons_zero, List.set_cons_succ, Option.bind_some, id, Option.map_some, nrm_int, nrm_bl, nrm_non, nrm_str, nrm_lst, nrm_tup, nrm_scr, nrm_ty, nrm_dct, nrm_kd, nrm_itr, nrm_fn, nrm_obj0, bin_mul_int, bin_add_int, bin_sub_int, bin_mod_int, bin_fdiv_int, bi_int_int, Nat.sub_self, w_sub0, w_sub1, w_sub2, w_sub3, w_put1, w_put2, w_put3, cmp_eq_int, cmp_ne_int, cmp_lt_int, cmp_gt_int, cmp_le_int, cmp_ge_int, bi_len_str, bi_len_tup, bi_len_lst, bi_tuple_lst, bi_list_lst, bi_max_int, itw_lst, itw_tup, itw_itr, itw_str, putT_one, putT_tup, puts_cons, puts_nil, seq_tup, seq_lst, mua_append, mua_popK, mua_upd, fit_append, fit_popK, box_lst, box_dct, dct_dct, bi_rangeW, bi_range2W, ite_tt, ite_ff, ite_tf, ite_ft, dec_lt_t, dec_lt_f, beq_t, beq_f, Bool.not_true, Bool.not_false, Bool.true_and, Bool.and_true, wlk_len, wlk_isinst, wlk_tuple, wlk_list, wlk_all, wlk_any, wlk_sorted, wlk_sum, wlk_max, wlk_min, wlk_abs, wlk_int, wlk_str, wlk_range, Bool.false_eq_true, if_false, if_true, isNon, bnd, is_non_int, is_non_bool, is_non_str, is_non_tuple, is_non_list, is_non_dict, is_bl_int, is_bl_bool, is_bl_str, is_bl_tuple, is_bl_list, is_bl_dict, is_int_int, is_int_bool, is_int_str, is_int_tuple, is_int_list, is_int_dict, is_str_int, is_str_bool, is_str_str, is_str_tuple, is_str_list, is_str_dict, is_tup_int, is_tup_bool, is_tup_str, is_tup_tuple, is_tup_list, is_tup_dict, is_lst_int, is_lst_bool, is_lst_str, is_lst_tuple, is_lst_list, is_lst_dict, wE_dcomp, mu_extend_arg, fit_extend, List.map_cons, List.map_nil, beqS_cc, beqS_nn, beqS_cn, beqS_nc, Nat.reduceBEq, Bool.false_and, Bool.and_false, eqS, neS, wO_fn, is_nn', is_tn', isnt_nn', isnt_tn', is_sn', isnt_sn', is_in', isnt_in', bi_zip_tup, bi_enum_lst, bi_list_scr, bi_list_tup, bi_tuple_tup, tadd1 len1, tadd1 len2, tadd1 len3, tadd1 len4, tadd1 len5, tadd2 len1, tadd2 len2, tadd2 len3, tadd3 len1, tadd3 len2, tadd3 len3, Ev.puts_cons, Ev.puts_nil, sl_1, tt_0, tt1_0, tt2_0, tt2_1, tt3_0, tt3_1, tt3_2, tt4_0, tt4_1, tt4_2, tt4_3, tt5_0, tt5_1, tt5_2, tt5_3, tt5_4, tt6_0, tt6_1, tt6_2, tt6_3, tt6_4, tt6_5, tt10_0, tt10_1, tt10_2, tt10_3, tt10_4, tt10_5, tt10_6, tt10_7, tt10_8, tt10_9, sl2_1, sh2_1, sl3_1, sh3_1, sl3_2, sh3_2, sl4_1, sh4_1, sl4_2, sh4_2, sl4_3, sh4_3, sl5_1, sh5_1, sl5_2, sh5_2, sl5_3, sh5_3, sl5_4, sh5_4, sl6_1, sh6_1, sl6_2, sh6_2, sl6_3, sh6_3, sl6_4, sh6_4, sl6_5, sh6_5, sl10_1, sh10_1, sl10_2, sh10_2, sl10_3, sh10_3, sl10_4, sh10_4, sl10_5, sh10_5, sl10_6, sh10_6, sl10_7, sh10_7, sl10_8, sh10_8, sl10_9, sh10_9, $[$xs:ident],*])
section
variable {N : Nat} {M : Sto} {Q : D → Sto → Prop} {X : Xc → Sto → Prop}
theorem it0 (h : 1 ≤ N) : Ev.run sub Γ N 3 [.tup [], .int 0] M = .ok (.bl true, M) := is_tuple_of_ok h rfl
theorem it1 {a : D} (h : 1 ≤ N) : Ev.run sub Γ N 3 [.tup [a], .int 1] M = .ok (.bl true, M) := is_tuple_of_ok h rfl
theorem it2 {a b : D} (h : 1 ≤ N) : Ev.run sub Γ N 3 [.tup [a, b], .int 2] M = .ok (.bl true, M) := is_tuple_of_ok h rfl
theorem it3 {a b c : D} (h : 1 ≤ N) : Ev.run sub Γ N 3 [.tup [a, b, c], .int 3] M = .ok (.bl true, M) := is_tuple_of_ok h rfl
theorem it4 {a b c d : D} (h : 1 ≤ N) : Ev.run sub Γ N 3 [.tup [a, b, c, d], .int 4] M = .ok (.bl true, M) := is_tuple_of_ok h rfl
theorem it5 {a b c d e : D} (h : 1 ≤ N) : Ev.run sub Γ N 3 [.tup [a, b, c, d, e], .int 5] M = .ok (.bl true, M) := is_tuple_of_ok h rfl
theorem nrm_tD (T : Tb) : nrm M (tD T) = tD T := of_eq_true (eq_self _)
theorem tD_0 (T : Tb) : subD (tD T) (.int 0) = some (.int T.e) := of_eq_true (eq_self _)
theorem tD_1 (T : Tb) : subD (tD T) (.int 1) = some T.m := of_eq_true (eq_self _)
theorem tD_2 (T : Tb) : subD (tD T) (.int 2) = some T.a := of_eq_true (eq_self _)
theorem tD_3 (T : Tb) : subD (tD T) (.int 3) = some (.int T.c) := of_eq_true (eq_self _)
theorem tD_4 (T : Tb) : subD (tD T) (.int 4) = some T.h := of_eq_true (eq_self _)
theorem tD_5 (T : Tb) : subD (tD T) (.int 5) = some T.b := of_eq_true (eq_self _)
theorem tD_6 (T : Tb) : subD (tD T) (.int 6) = some (.tup (T.L.map lD)) := of_eq_true (eq_self _)
theorem tD_7 (T : Tb) : subD (tD T) (.int 7) = some T.p := of_eq_true (eq_self _)
theorem tD_8 (T : Tb) : subD (tD T) (.int 8) = some T.v := of_eq_true (eq_self _)
theorem tD_9 (T : Tb) : subD (tD T) (.int 9) = some T.x := of_eq_true (eq_self _)
theorem nrm_TO_HOMES (M : Sto) : nrm M c_TO_HOMES = c_TO_HOMES := of_eq_true (eq_self _)
theorem TO_HOMES_ask_in : cmpD .isin (.str [97, 115, 107]) c_TO_HOMES = some true := of_eq_true (eq_self _)
theorem TO_HOMES_ask_at : subD c_TO_HOMES (.str [97, 115, 107]) = some (.fn 42) := of_eq_true (eq_self _)
theorem TO_HOMES_ask_ni : cmpD .notin (.str [97, 115, 107]) c_TO_HOMES = some false := of_eq_true (eq_self _)
theorem TO_HOMES_list_in : cmpD .isin (.str [108, 105, 115, 116]) c_TO_HOMES = some true := of_eq_true (eq_self _)
theorem TO_HOMES_list_at : subD c_TO_HOMES (.str [108, 105, 115, 116]) = some (.fn 30) := of_eq_true (eq_self _)
theorem TO_HOMES_list_ni : cmpD .notin (.str [108, 105, 115, 116]) c_TO_HOMES = some false := of_eq_true (eq_self _)
theorem TO_HOMES_get_in : cmpD .isin (.str [103, 101, 116]) c_TO_HOMES = some true := of_eq_true (eq_self _)
theorem TO_HOMES_get_at : subD c_TO_HOMES (.str [103, 101, 116]) = some (.fn 43) := of_eq_true (eq_self _)
theorem TO_HOMES_get_ni : cmpD .notin (.str [103, 101, 116]) c_TO_HOMES = some false := of_eq_true (eq_self _)
theorem TO_HOMES_put_in : cmpD .isin (.str [112, 117, 116]) c_TO_HOMES = some true := of_eq_true (eq_self _)
theorem TO_HOMES_put_at : subD c_TO_HOMES (.str [112, 117, 116]) = some (.fn 27) := of_eq_true (eq_self _)
theorem TO_HOMES_put_ni : cmpD .notin (.str [112, 117, 116]) c_TO_HOMES = some false := of_eq_true (eq_self _)
theorem TO_HOMES_head_in : cmpD .isin (.str [104, 101, 97, 100]) c_TO_HOMES = some true := of_eq_true (eq_self _)
theorem TO_HOMES_head_at : subD c_TO_HOMES (.str [104, 101, 97, 100]) = some (.fn 17) := of_eq_true (eq_self _)
theorem TO_HOMES_head_ni : cmpD .notin (.str [104, 101, 97, 100]) c_TO_HOMES = some false := of_eq_true (eq_self _)
theorem TO_HOMES_lease_in : cmpD .isin (.str [108, 101, 97, 115, 101]) c_TO_HOMES = some true := of_eq_true (eq_self _)
theorem TO_HOMES_lease_at : subD c_TO_HOMES (.str [108, 101, 97, 115, 101]) = some (.fn 42) := of_eq_true (eq_self _)
theorem TO_HOMES_lease_ni : cmpD .notin (.str [108, 101, 97, 115, 101]) c_TO_HOMES = some false := of_eq_true (eq_self _)
theorem TO_HOMES_free_in : cmpD .isin (.str [102, 114, 101, 101]) c_TO_HOMES = some true := of_eq_true (eq_self _)
theorem TO_HOMES_free_at : subD c_TO_HOMES (.str [102, 114, 101, 101]) = some (.fn 42) := of_eq_true (eq_self _)
theorem TO_HOMES_free_ni : cmpD .notin (.str [102, 114, 101, 101]) c_TO_HOMES = some false := of_eq_true (eq_self _)
theorem TO_HOMES_prepare_in : cmpD .isin (.str [112, 114, 101, 112, 97, 114, 101]) c_TO_HOMES = some true := of_eq_true (eq_self _)
theorem TO_HOMES_prepare_at : subD c_TO_HOMES (.str [112, 114, 101, 112, 97, 114, 101]) = some (.fn 28) := of_eq_true (eq_self _)
theorem TO_HOMES_prepare_ni : cmpD .notin (.str [112, 114, 101, 112, 97, 114, 101]) c_TO_HOMES = some false := of_eq_true (eq_self _)
theorem TO_HOMES_accept_in : cmpD .isin (.str [97, 99, 99, 101, 112, 116]) c_TO_HOMES = some true := of_eq_true (eq_self _)
theorem TO_HOMES_accept_at : subD c_TO_HOMES (.str [97, 99, 99, 101, 112, 116]) = some (.fn 21) := of_eq_true (eq_self _)
theorem TO_HOMES_accept_ni : cmpD .notin (.str [97, 99, 99, 101, 112, 116]) c_TO_HOMES = some false := of_eq_true (eq_self _)
theorem TO_HOMES_seal_in : cmpD .isin (.str [115, 101, 97, 108]) c_TO_HOMES = some true := of_eq_true (eq_self _)
theorem TO_HOMES_seal_at : subD c_TO_HOMES (.str [115, 101, 97, 108]) = some (.fn 29) := of_eq_true (eq_self _)
theorem TO_HOMES_seal_ni : cmpD .notin (.str [115, 101, 97, 108]) c_TO_HOMES = some false := of_eq_true (eq_self _)
theorem nrm_WORDS (M : Sto) : nrm M c_WORDS = c_WORDS := of_eq_true (eq_self _)
theorem WORDS_ask_in : cmpD .isin (.str [97, 115, 107]) c_WORDS = some true := of_eq_true (eq_self _)
theorem WORDS_ask_at : subD c_WORDS (.str [97, 115, 107]) = some (.fn 94) := of_eq_true (eq_self _)
theorem WORDS_ask_ni : cmpD .notin (.str [97, 115, 107]) c_WORDS = some false := of_eq_true (eq_self _)
theorem WORDS_list_in : cmpD .isin (.str [108, 105, 115, 116]) c_WORDS = some true := of_eq_true (eq_self _)
theorem WORDS_list_at : subD c_WORDS (.str [108, 105, 115, 116]) = some (.fn 95) := of_eq_true (eq_self _)
theorem WORDS_list_ni : cmpD .notin (.str [108, 105, 115, 116]) c_WORDS = some false := of_eq_true (eq_self _)
theorem WORDS_get_in : cmpD .isin (.str [103, 101, 116]) c_WORDS = some true := of_eq_true (eq_self _)
theorem WORDS_get_at : subD c_WORDS (.str [103, 101, 116]) = some (.fn 96) := of_eq_true (eq_self _)
theorem WORDS_get_ni : cmpD .notin (.str [103, 101, 116]) c_WORDS = some false := of_eq_true (eq_self _)
theorem WORDS_put_in : cmpD .isin (.str [112, 117, 116]) c_WORDS = some true := of_eq_true (eq_self _)
theorem WORDS_put_at : subD c_WORDS (.str [112, 117, 116]) = some (.fn 97) := of_eq_true (eq_self _)
theorem WORDS_put_ni : cmpD .notin (.str [112, 117, 116]) c_WORDS = some false := of_eq_true (eq_self _)
theorem WORDS_head_in : cmpD .isin (.str [104, 101, 97, 100]) c_WORDS = some true := of_eq_true (eq_self _)
theorem WORDS_head_at : subD c_WORDS (.str [104, 101, 97, 100]) = some (.fn 98) := of_eq_true (eq_self _)
theorem WORDS_head_ni : cmpD .notin (.str [104, 101, 97, 100]) c_WORDS = some false := of_eq_true (eq_self _)
theorem WORDS_lease_in : cmpD .isin (.str [108, 101, 97, 115, 101]) c_WORDS = some true := of_eq_true (eq_self _)
theorem WORDS_lease_at : subD c_WORDS (.str [108, 101, 97, 115, 101]) = some (.fn 99) := of_eq_true (eq_self _)
theorem WORDS_lease_ni : cmpD .notin (.str [108, 101, 97, 115, 101]) c_WORDS = some false := of_eq_true (eq_self _)
theorem WORDS_free_in : cmpD .isin (.str [102, 114, 101, 101]) c_WORDS = some true := of_eq_true (eq_self _)
theorem WORDS_free_at : subD c_WORDS (.str [102, 114, 101, 101]) = some (.fn 100) := of_eq_true (eq_self _)
theorem WORDS_free_ni : cmpD .notin (.str [102, 114, 101, 101]) c_WORDS = some false := of_eq_true (eq_self _)
theorem WORDS_prepare_in : cmpD .isin (.str [112, 114, 101, 112, 97, 114, 101]) c_WORDS = some true := of_eq_true (eq_self _)
theorem WORDS_prepare_at : subD c_WORDS (.str [112, 114, 101, 112, 97, 114, 101]) = some (.fn 101) := of_eq_true (eq_self _)
theorem WORDS_prepare_ni : cmpD .notin (.str [112, 114, 101, 112, 97, 114, 101]) c_WORDS = some false := of_eq_true (eq_self _)
theorem WORDS_accept_in : cmpD .isin (.str [97, 99, 99, 101, 112, 116]) c_WORDS = some true := of_eq_true (eq_self _)
theorem WORDS_accept_at : subD c_WORDS (.str [97, 99, 99, 101, 112, 116]) = some (.fn 102) := of_eq_true (eq_self _)
theorem WORDS_accept_ni : cmpD .notin (.str [97, 99, 99, 101, 112, 116]) c_WORDS = some false := of_eq_true (eq_self _)
theorem WORDS_seal_in : cmpD .isin (.str [115, 101, 97, 108]) c_WORDS = some true := of_eq_true (eq_self _)
theorem WORDS_seal_at : subD c_WORDS (.str [115, 101, 97, 108]) = some (.fn 103) := of_eq_true (eq_self _)
theorem WORDS_seal_ni : cmpD .notin (.str [115, 101, 97, 108]) c_WORDS = some false := of_eq_true (eq_self _)
inductive Wd where
  | ask (x : List Nat) | list | get (i : D) | put (i : D) (p : List Nat) | head (x : List Nat) (s r : D) | lease (x : List Nat) | free (x : List Nat) | prepare (b : D) | accept (b m : D) | sealm (m : D)
def wdS : Wd → List Nat
  | .ask _ => [97, 115, 107]
  | .list => [108, 105, 115, 116]
  | .get _ => [103, 101, 116]
  | .put _ _ => [112, 117, 116]
  | .head _ _ _ => [104, 101, 97, 100]
  | .lease _ => [108, 101, 97, 115, 101]
  | .free _ => [102, 114, 101, 101]
  | .prepare _ => [112, 114, 101, 112, 97, 114, 101]
  | .accept _ _ => [97, 99, 99, 101, 112, 116]
  | .sealm _ => [115, 101, 97, 108]
def wdR : Wd → List D
  | .ask x => [.str x]
  | .list => []
  | .get i => [i]
  | .put i p => [i, .str p]
  | .head x s r => [.str x, s, r]
  | .lease x => [.str x]
  | .free x => [.str x]
  | .prepare b => [b]
  | .accept b m => [b, m]
  | .sealm m => [m]
def WdOk : Wd → Prop
  | .ask x => NameOk x
  | .list => True
  | .get i => IdD i
  | .put i p => IdD i ∧ SignsOk p ∧ 1 ≤ p.length ∧ p.length ≤ 8
  | .head x s r => NameOk x ∧ StampD s ∧ RowD r
  | .lease x => NameOk x
  | .free x => NameOk x
  | .prepare b => StampD b
  | .accept b m => StampD b ∧ MembersD m
  | .sealm m => MembersD m
def wdF : Wd → Nat
  | .ask _ => 94
  | .list => 95
  | .get _ => 96
  | .put _ _ => 97
  | .head _ _ _ => 98
  | .lease _ => 99
  | .free _ => 100
  | .prepare _ => 101
  | .accept _ _ => 102
  | .sealm _ => 103
def homeD (h : Int) : D := .tup [.str [104, 111, 109, 101], .int h]
def handD (h : Int) : D := .tup [.str [104, 97, 110, 100], .int h]
def ltD (h hd t : Int) (w : List Nat) (r : List D) : D := .tup [homeD h, handD hd, .int t, .str w, .tup r]
theorem idD_ok {d : D} (h : 4 ≤ N) (hd : IdD d) : Ev.run sub Γ N 11 [d] M = .ok (.bl true, M) := by
  obtain ⟨a, b, rfl, h1, h2, h3⟩ := hd
  exact is_id_ok h h1 h2 h3
theorem machine_home {i : Int} (h : 4 ≤ N) (h1 : 0 ≤ i) (h2 : i ≤ 8) : Ev.run sub Γ N 53 [homeD i] M = .ok (.bl true, M) := by
  refine eq_of_wp ?_
  (obtain ⟨n, rfl⟩ : ∃ n, N = n + 1 := ⟨N - 1, by omega⟩; refine wp_call (F := f_is_machine) rfl (Eq.refl 1) ?_; delta wO_some f_is_machine b_is_machine)
  repeat' (first | (delta wO_some homeD it0 it1 it2 it3 it4 it5 is_home_ok) | (refine wB_sp (fun hb => ?_) (fun hb => ?_) <;> try simp only [decide_eq_true_eq, decide_eq_false_iff_not, beq_iff_eq, beq_eq_false_iff_ne, Bool.not_eq_true, Bool.not_eq_false, Bool.not_true, Bool.not_false, ne_eq, Int.not_lt, Bool.not_eq_true', Bool.not_eq_false'] at hb))
theorem machine_hand {i : Int} (h : 4 ≤ N) (h1 : 1 ≤ i) (h2 : i ≤ 99) : Ev.run sub Γ N 53 [handD i] M = .ok (.bl true, M) := by
  refine eq_of_wp ?_
  (obtain ⟨n, rfl⟩ : ∃ n, N = n + 1 := ⟨N - 1, by omega⟩; refine wp_call (F := f_is_machine) rfl (Eq.refl 1) ?_; delta wO_some f_is_machine b_is_machine)
  repeat' (first | (delta wO_some handD it0 it1 it2 it3 it4 it5 is_hand_ok) | (refine wB_sp (fun hb => ?_) (fun hb => ?_) <;> try simp only [decide_eq_true_eq, decide_eq_false_iff_not, beq_iff_eq, beq_eq_false_iff_ne, Bool.not_eq_true, Bool.not_eq_false, Bool.not_true, Bool.not_false, ne_eq, Int.not_lt, Bool.not_eq_true', Bool.not_eq_false'] at hb))
theorem only_name_ok {x : List Nat} (h : 4 ≤ N) (hx : NameOk x) : Ev.run sub Γ N 42 [.tup [.str x]] M = .ok (.bl true, M) := by
  refine eq_of_wp ?_
  (obtain ⟨n, rfl⟩ : ∃ n, N = n + 1 := ⟨N - 1, by omega⟩; refine wp_call (F := f_is_only_name) rfl (Eq.refl 1) ?_; delta wO_some f_is_only_name b_is_only_name)
  repeat' (first | (delta wO_some it0 it1 it2 it3 it4 it5 is_name_ok) | (refine wB_sp (fun hb => ?_) (fun hb => ?_) <;> try simp only [decide_eq_true_eq, decide_eq_false_iff_not, beq_iff_eq, beq_eq_false_iff_ne, Bool.not_eq_true, Bool.not_eq_false, Bool.not_true, Bool.not_false, ne_eq, Int.not_lt, Bool.not_eq_true', Bool.not_eq_false'] at hb))
theorem only_id_ok {x : D} (h : 5 ≤ N) (hx : IdD x) : Ev.run sub Γ N 43 [.tup [x]] M = .ok (.bl true, M) := by
  refine eq_of_wp ?_
  (obtain ⟨n, rfl⟩ : ∃ n, N = n + 1 := ⟨N - 1, by omega⟩; refine wp_call (F := f_is_only_id) rfl (Eq.refl 1) ?_; delta wO_some f_is_only_id b_is_only_id)
  repeat' (first | (delta wO_some it0 it1 it2 it3 it4 it5 idD_ok) | (refine wB_sp (fun hb => ?_) (fun hb => ?_) <;> try simp only [decide_eq_true_eq, decide_eq_false_iff_not, beq_iff_eq, beq_eq_false_iff_ne, Bool.not_eq_true, Bool.not_eq_false, Bool.not_true, Bool.not_false, ne_eq, Int.not_lt, Bool.not_eq_true', Bool.not_eq_false'] at hb))
theorem nothing_ok (h : 2 ≤ N) : Ev.run sub Γ N 30 [.tup []] M = .ok (.bl true, M) := by
  refine eq_of_wp ?_
  (obtain ⟨n, rfl⟩ : ∃ n, N = n + 1 := ⟨N - 1, by omega⟩; refine wp_call (F := f_is_nothing) rfl (Eq.refl 1) ?_; delta wO_some f_is_nothing b_is_nothing)
  repeat' (first | (delta wO_some it0 it1 it2 it3 it4 it5) | (refine wB_sp (fun hb => ?_) (fun hb => ?_) <;> try simp only [decide_eq_true_eq, decide_eq_false_iff_not, beq_iff_eq, beq_eq_false_iff_ne, Bool.not_eq_true, Bool.not_eq_false, Bool.not_true, Bool.not_false, ne_eq, Int.not_lt, Bool.not_eq_true', Bool.not_eq_false'] at hb))
theorem put_ok {i : D} {p : List Nat} (h : 5 ≤ N) (hx : IdD i) (h1 : SignsOk p) (h2 : 1 ≤ p.length) (h3 : p.length ≤ 8) : Ev.run sub Γ N 27 [.tup [i, .str p]] M = .ok (.bl true, M) := by
  refine eq_of_wp ?_
  (obtain ⟨n, rfl⟩ : ∃ n, N = n + 1 := ⟨N - 1, by omega⟩; refine wp_call (F := f_is_put) rfl (Eq.refl 1) ?_; delta wO_some f_is_put b_is_put)
  repeat' (first | (delta wO_some it0 it1 it2 it3 it4 it5 idD_ok is_piece_ok) | (refine wB_sp (fun hb => ?_) (fun hb => ?_) <;> try simp only [decide_eq_true_eq, decide_eq_false_iff_not, beq_iff_eq, beq_eq_false_iff_ne, Bool.not_eq_true, Bool.not_eq_false, Bool.not_true, Bool.not_false, ne_eq, Int.not_lt, Bool.not_eq_true', Bool.not_eq_false'] at hb))
theorem promise_ok {b : D} (h : 5 ≤ N) (hx : StampD b) : Ev.run sub Γ N 28 [.tup [b]] M = .ok (.bl true, M) := by
  refine eq_of_wp ?_
  (obtain ⟨n, rfl⟩ : ∃ n, N = n + 1 := ⟨N - 1, by omega⟩; refine wp_call (F := f_is_promise) rfl (Eq.refl 1) ?_; delta wO_some f_is_promise b_is_promise)
  repeat' (first | (delta wO_some it0 it1 it2 it3 it4 it5 is_stamp_ok) | (refine wB_sp (fun hb => ?_) (fun hb => ?_) <;> try simp only [decide_eq_true_eq, decide_eq_false_iff_not, beq_iff_eq, beq_eq_false_iff_ne, Bool.not_eq_true, Bool.not_eq_false, Bool.not_true, Bool.not_false, ne_eq, Int.not_lt, Bool.not_eq_true', Bool.not_eq_false'] at hb))
theorem seal_ok {b : D} (h : 5 ≤ N) (hx : MembersD b) : Ev.run sub Γ N 29 [.tup [b]] M = .ok (.bl true, M) := by
  refine eq_of_wp ?_
  (obtain ⟨n, rfl⟩ : ∃ n, N = n + 1 := ⟨N - 1, by omega⟩; refine wp_call (F := f_is_seal) rfl (Eq.refl 1) ?_; delta wO_some f_is_seal b_is_seal)
  repeat' (first | (delta wO_some it0 it1 it2 it3 it4 it5 is_members_ok) | (refine wB_sp (fun hb => ?_) (fun hb => ?_) <;> try simp only [decide_eq_true_eq, decide_eq_false_iff_not, beq_iff_eq, beq_eq_false_iff_ne, Bool.not_eq_true, Bool.not_eq_false, Bool.not_true, Bool.not_false, ne_eq, Int.not_lt, Bool.not_eq_true', Bool.not_eq_false'] at hb))
theorem install_ok {e : Int} {m a h b : D} (hN : 9 ≤ N) (he : 0 ≤ e) (hm : MembersD m) (ha : AheadD a) (hh : HeadsD h) (hb : BlocksD b) : Ev.run sub Γ N 26 [.tup [.int e, m, a, h, b]] M = .ok (.bl true, M) := by
  refine eq_of_wp ?_
  (obtain ⟨n, rfl⟩ : ∃ n, N = n + 1 := ⟨N - 1, by omega⟩; refine wp_call (F := f_is_install) rfl (Eq.refl 1) ?_; delta wO_some f_is_install b_is_install)
  repeat' (first | (delta wO_some it0 it1 it2 it3 it4 it5 is_members_ok is_count_ok is_ahead_ok are_heads_ok are_blocks_ok) | (refine wB_sp (fun hb => ?_) (fun hb => ?_) <;> try simp only [decide_eq_true_eq, decide_eq_false_iff_not, beq_iff_eq, beq_eq_false_iff_ne, Bool.not_eq_true, Bool.not_eq_false, Bool.not_true, Bool.not_false, ne_eq, Int.not_lt, Bool.not_eq_true', Bool.not_eq_false'] at hb))
theorem nhd_ok {x : List Nat} {s r : D} (h : 7 ≤ N) (h1 : NameOk x) (h2 : StampD s) (h3 : RowD r) : Ev.run sub Γ N 17 [.tup [.str x, s, r]] M = .ok (.bl true, M) := is_named_head_ok h ⟨x, s, r, rfl, h1, h2, h3⟩
theorem vote_ok {s m : D} (h : 6 ≤ N) (h1 : StampD s) (h2 : MembersD m) : Ev.run sub Γ N 21 [.tup [s, m]] M = .ok (.bl true, M) := is_vote_ok h h1 h2
theorem word_ok {w : Wd} {h hd : Int} (hN : 9 ≤ N) (hw : WdOk w) : Ev.run sub Γ N 54 [homeD h, handD hd, .str (wdS w), .tup (wdR w)] M = .ok (.bl true, M) := by
  refine eq_of_wp ?_
  cases w <;> simp only [WdOk] at hw <;> (first | obtain ⟨h1, h2, h3, h4⟩ : IdD _ ∧ SignsOk _ ∧ _ ∧ _ := hw | obtain ⟨h1, h2, h3⟩ : NameOk _ ∧ StampD _ ∧ RowD _ := hw | obtain ⟨h1, h2⟩ : StampD _ ∧ MembersD _ := hw | skip)
  all_goals
    (obtain ⟨n, rfl⟩ : ∃ n, N = n + 1 := ⟨N - 1, by omega⟩; refine wp_call (F := f_is_word) rfl (Eq.refl 4) ?_; delta wO_some f_is_word b_is_word)
    repeat' (first | (delta wO_some homeD handD wdS wdR nrm_TO_HOMES TO_HOMES_ask_in TO_HOMES_ask_at TO_HOMES_ask_ni TO_HOMES_list_in TO_HOMES_list_at TO_HOMES_list_ni TO_HOMES_get_in TO_HOMES_get_at TO_HOMES_get_ni TO_HOMES_put_in TO_HOMES_put_at TO_HOMES_put_ni TO_HOMES_head_in TO_HOMES_head_at TO_HOMES_head_ni TO_HOMES_lease_in TO_HOMES_lease_at TO_HOMES_lease_ni TO_HOMES_free_in TO_HOMES_free_at TO_HOMES_free_ni TO_HOMES_prepare_in TO_HOMES_prepare_at TO_HOMES_prepare_ni TO_HOMES_accept_in TO_HOMES_accept_at TO_HOMES_accept_ni TO_HOMES_seal_in TO_HOMES_seal_at TO_HOMES_seal_ni only_name_ok only_id_ok nothing_ok put_ok promise_ok seal_ok nhd_ok vote_ok) | (refine wB_sp (fun hb => ?_) (fun hb => ?_) <;> try simp only [decide_eq_true_eq, decide_eq_false_iff_not, beq_iff_eq, beq_eq_false_iff_ne, Bool.not_eq_true, Bool.not_eq_false, Bool.not_true, Bool.not_false, ne_eq, Int.not_lt, Bool.not_eq_true', Bool.not_eq_false'] at hb))
theorem letter_ok {w : Wd} {h hd t e : Int} (hN : 10 ≤ N) (hw : WdOk w) (h0 : 0 ≤ h) (h1 : h ≤ 8) (d0 : 1 ≤ hd) (d1 : hd ≤ 99) (t0 : 0 ≤ t) (e0 : 0 ≤ e) : Ev.run sub Γ N 55 [ltD h hd t (wdS w) (.int e :: wdR w)] M = .ok (.bl true, M) := by
  refine eq_of_wp ?_
  have key : (wdS w == [105, 110, 115, 116, 97, 108, 108]) = false := by cases w <;> rfl
  have ln : (((((D.int e :: wdR w).length : Nat) : Int)) == 0) = false := by rw [beq_eq_false_iff_ne, List.length_cons]; omega
  unfold ltD
  obtain ⟨n, rfl⟩ : ∃ n, N = n + 1 := ⟨N - 1, by omega⟩
  refine wp_call (F := f_is_letter) rfl (Eq.refl 1) ?_
  repeat' (first | (delta wO_some f_is_letter b_is_letter it0 it1 it2 it3 it4 it5 machine_home machine_hand is_count_ok key ln word_ok bi_len_tup) | (refine wB_sp (fun hb => ?_) (fun hb => ?_) <;> try simp only [decide_eq_true_eq, decide_eq_false_iff_not, beq_iff_eq, beq_eq_false_iff_ne, Bool.not_eq_true, Bool.not_eq_false, Bool.not_true, Bool.not_false, ne_eq, Int.not_lt, Bool.not_eq_true', Bool.not_eq_false'] at hb))
theorem letter_inst {h hd t e : Int} {m a hs b : D} (hN : 11 ≤ N) (h0 : 0 ≤ h) (h1 : h ≤ 8) (d0 : 1 ≤ hd) (d1 : hd ≤ 99) (t0 : 0 ≤ t) (e0 : 0 ≤ e) (hm : MembersD m) (ha : AheadD a) (hh : HeadsD hs) (hb : BlocksD b) : Ev.run sub Γ N 55 [ltD h hd t [105, 110, 115, 116, 97, 108, 108] [.int e, m, a, hs, b]] M = .ok (.bl true, M) := by
  refine eq_of_wp ?_
  have ln : (((([D.int e, m, a, hs, b].length : Nat) : Int)) == 0) = false := by rw [beq_eq_false_iff_ne, List.length_cons]; omega
  have hq : ∀ h, subD (homeD h) (.int 0) = some (.str [104, 111, 109, 101]) := fun _ => of_eq_true (eq_self _)
  have hq2 : ∀ h, subD (handD h) (.int 0) = some (.str [104, 97, 110, 100]) := fun _ => of_eq_true (eq_self _)
  have hn : ∀ h M, nrm M (homeD h) = homeD h := fun _ _ => of_eq_true (eq_self _)
  have hn2 : ∀ h M, nrm M (handD h) = handD h := fun _ _ => of_eq_true (eq_self _)
  unfold ltD
  obtain ⟨n, rfl⟩ : ∃ n, N = n + 1 := ⟨N - 1, by omega⟩
  refine wp_call (F := f_is_letter) rfl (Eq.refl 1) ?_
  repeat' (first | (delta wO_some f_is_letter b_is_letter it0 it1 it2 it3 it4 it5 machine_home machine_hand is_count_ok ln install_ok bi_len_tup hq hq2 hn hn2) | (refine wB_sp (fun hb => ?_) (fun hb => ?_) <;> try simp only [decide_eq_true_eq, decide_eq_false_iff_not, beq_iff_eq, beq_eq_false_iff_ne, Bool.not_eq_true, Bool.not_eq_false, Bool.not_true, Bool.not_false, ne_eq, Int.not_lt, Bool.not_eq_true', Bool.not_eq_false'] at hb))
theorem answer_wp {T : Tb} {h hd t : Int} {w : List Nat} {r : List D} (hN : 13 ≤ N) (hT : ∀ N M, 11 ≤ N → Ev.run sub Γ N 25 [tD T] M = .ok (.non, M)) (hL : ∀ N M, 11 ≤ N → Ev.run sub Γ N 55 [ltD h hd t w r] M = .ok (.bl true, M)) (h0 : 0 ≤ h) (h1 : h ≤ 8)
    (hw : ∀ n, N = n + 2 → (Ev.run sub Γ n 104 [tD T, .tup [.int hd, .int t], .str w, .tup r] M).wq (fun d M' => ∃ ds v u, d = .tup [.tup ds, .tup [v, u]] ∧ Q (.tup [.tup ds, .tup [.tup [handD hd, homeD h, .int t, v, u]]]) M') noX) : (Ev.run sub Γ N 106 [.int h, tD T, ltD h hd t w r] M).wq Q X := by
  obtain ⟨n, rfl⟩ : ∃ n, N = n + 2 := ⟨N - 2, by omega⟩
  have hw := hw n rfl
  have ee : cmpD .ne (.tup [.str [104, 111, 109, 101], .int h]) (.tup [.str [104, 111, 109, 101], .int h]) = some false := by
    show some (!((([104, 111, 109, 101] : List Nat) == [104, 111, 109, 101]) && ((h == h) && true))) = _
    rw [beq_self_eq_true, beq_self_eq_true]; rfl
  have e1 := hT (n + 1) M (by omega)
  have e2 := hL (n + 1) M (by omega)
  refine wp_call (F := f_answer) rfl (Eq.refl 3) ?_
  have sl : subD (ltD h hd t w r) (.int 0) = some (homeD h) := of_eq_true (eq_self _)
  have nl : nrm M (ltD h hd t w r) = ltD h hd t w r := of_eq_true (eq_self _)
  repeat' (first | (delta wO_some f_answer b_answer is_home_ok e1 e2 sl nl homeD ee) | (refine wB_sp (fun hb => ?_) (fun hb => ?_) <;> try simp only [decide_eq_true_eq, decide_eq_false_iff_not, beq_iff_eq, beq_eq_false_iff_ne, Bool.not_eq_true, Bool.not_eq_false, Bool.not_true, Bool.not_false, ne_eq, Int.not_lt, Bool.not_eq_true', Bool.not_eq_false'] at hb))
  refine wp_call (F := f_raw_answer) rfl (Eq.refl 3) ?_
  unfold ltD
  repeat' (first | (delta wO_some f_raw_answer b_raw_answer handD homeD) | (refine wB_sp (fun hb => ?_) (fun hb => ?_) <;> try simp only [decide_eq_true_eq, decide_eq_false_iff_not, beq_iff_eq, beq_eq_false_iff_ne, Bool.not_eq_true, Bool.not_eq_false, Bool.not_true, Bool.not_false, ne_eq, Int.not_lt, Bool.not_eq_true', Bool.not_eq_false'] at hb))
  refine wp_ex hw ?_
  rintro d M' ⟨ds, v, u, rfl, hq⟩
  repeat' (first | (delta wO_some) | (refine wB_sp (fun hb => ?_) (fun hb => ?_) <;> try simp only [decide_eq_true_eq, decide_eq_false_iff_not, beq_iff_eq, beq_eq_false_iff_ne, Bool.not_eq_true, Bool.not_eq_false, Bool.not_true, Bool.not_false, ne_eq, Int.not_lt, Bool.not_eq_true', Bool.not_eq_false'] at hb))
  exact hq
end
end K10
set_option Elab.async false
set_option linter.all false
set_option autoImplicit false
set_option maxRecDepth 1000000
set_option maxHeartbeats 4000000
namespace K10
open Ev
local macro_rules | `(tactic| delta $xs:ident*) => `(tactic| simp (disch := first | assumption | omega) only [startE, wE_var, wE_bor, wE_con, wE_neg, wE_bin, wE_cmp, wE_chain, wE_and, wE_or, wE_not, wE_ite, wE_join, wE_call, wE_callv, wE_bi, wE_me, wE_mu, wE_tup, wE_lst, wE_dct, wE_sub, wE_slc, wE_comp, wE_alloc, wEs_nil, wEs_cons, wS_set, wS_own, wS_unp, wS_par, wS_aug, wS_ex, wS_omu, wS_osm, wS_ret, wS_retf, wS_reto, wS_retn, wS_ite, wS_for, wS_brk, wS_cnt, wS_pass, wS_raise, wS_try, wS_sto, wS_oput, wSs_nil, wSs_cons, dctOf_nil, true_and, and_true, wO_some, wB_t, wB_f, wp_ok, seqK_nx, seqK_rt, seqK_bk, seqK_ct, outK_nx, outK_rt, outX_, Ev.get, Ev.put, map1, map2, map3, List.length_cons, List.length_nil, List.replicate, List.cons_append, List.nil_append, List.getElem?_cons_zero, List.getElem?_cons_succ, List.set_cons_zero, List.set_cons_succ, Option.bind_some, id, Option.map_some, nrm_int, nrm_bl, nrm_non, nrm_str, nrm_lst, nrm_tup, nrm_scr, nrm_ty, nrm_dct, nrm_kd, nrm_itr, nrm_fn, nrm_obj0, bin_mul_int, bin_add_int, bin_sub_int, bin_mod_int, bin_fdiv_int, bi_int_int, Nat.sub_self, w_sub0, w_sub1, w_sub2, w_sub3, w_put1, w_put2, w_put3, cmp_eq_int, cmp_ne_int, cmp_lt_int, cmp_gt_int, cmp_le_int, cmp_ge_int, bi_len_str, bi_len_tup, bi_len_lst, bi_tuple_lst, bi_list_lst, bi_max_int, itw_lst, itw_tup, itw_itr, itw_str, putT_one, putT_tup, puts_cons, puts_nil, seq_tup, seq_lst, mua_append, mua_popK, mua_upd, fit_append, fit_popK, box_lst, box_dct, dct_dct, bi_rangeW, bi_range2W, ite_tt, ite_ff, ite_tf, ite_ft, dec_lt_t, dec_lt_f, beq_t, beq_f, Bool.not_true, Bool.not_false, Bool.true_and, Bool.and_true, wlk_len, wlk_isinst, wlk_tuple, wlk_list, wlk_all, wlk_any, wlk_sorted, wlk_sum, wlk_max, wlk_min, wlk_abs, wlk_int, wlk_str, wlk_range, Bool.false_eq_true, if_false, if_true, isNon, bnd, is_non_int, is_non_bool, is_non_str, is_non_tuple, is_non_list, is_non_dict, is_bl_int, is_bl_bool, is_bl_str, is_bl_tuple, is_bl_list, is_bl_dict, is_int_int, is_int_bool, is_int_str, is_int_tuple, is_int_list, is_int_dict, is_str_int, is_str_bool, is_str_str, is_str_tuple, is_str_list, is_str_dict, is_tup_int, is_tup_bool, is_tup_str, is_tup_tuple, is_tup_list, is_tup_dict, is_lst_int, is_lst_bool, is_lst_str, is_lst_tuple, is_lst_list, is_lst_dict, wE_dcomp, mu_extend_arg, fit_extend, List.map_cons, List.map_nil, beqS_cc, beqS_nn, beqS_cn, beqS_nc, Nat.reduceBEq, Bool.false_and, Bool.and_false, eqS, neS, wO_fn, is_nn', is_tn', isnt_nn', isnt_tn', is_sn', isnt_sn', is_in', isnt_in', bi_zip_tup, bi_enum_lst, bi_list_scr, bi_list_tup, bi_tuple_tup, tadd1 len1, tadd1 len2, tadd1 len3, tadd1 len4, tadd1 len5, tadd2 len1, tadd2 len2, tadd2 len3, tadd3 len1, tadd3 len2, tadd3 len3, Ev.puts_cons, Ev.puts_nil, sl_1, tt_0, tt1_0, tt2_0, tt2_1, tt3_0, tt3_1, tt3_2, tt4_0, tt4_1, tt4_2, tt4_3, tt5_0, tt5_1, tt5_2, tt5_3, tt5_4, tt6_0, tt6_1, tt6_2, tt6_3, tt6_4, tt6_5, tt10_0, tt10_1, tt10_2, tt10_3, tt10_4, tt10_5, tt10_6, tt10_7, tt10_8, tt10_9, sl2_1, sh2_1, sl3_1, sh3_1, sl3_2, sh3_2, sl4_1, sh4_1, sl4_2, sh4_2, sl4_3, sh4_3, sl5_1, sh5_1, sl5_2, sh5_2, sl5_3, sh5_3, sl5_4, sh5_4, sl6_1, sh6_1, sl6_2, sh6_2, sl6_3, sh6_3, sl6_4, sh6_4, sl6_5, sh6_5, sl10_1, sh10_1, sl10_2, sh10_2, sl10_3, sh10_3, sl10_4, sh10_4, sl10_5, sh10_5, sl10_6, sh10_6, sl10_7, sh10_7, sl10_8, sh10_8, sl10_9, sh10_9, $[$xs:ident],*])
section
variable {N : Nat} {M : Sto} {Q : D → Sto → Prop} {X : Xc → Sto → Prop}
def SameD : Nat → D → Prop
  | 0, _ => False
  | n + 1, d => d = .non ∨ (∃ i, d = .int i) ∨ (∃ x, d = .str x) ∨ ∃ xs, d = .tup xs ∧ xs.length ≤ 100000 ∧ ∀ y ∈ xs, SameD n y
theorem zip2_self : ∀ xs : List D, zip2 xs xs = xs.map fun x => .tup [x, x]
  | [] => rfl
  | x :: xs => by
    show D.tup [x, x] :: zip2 xs xs = _
    rw [zip2_self xs]; rfl
theorem same_ok : ∀ {k N : Nat} {d : D} {M : Sto}, k ≤ N → SameD k d → Ev.run sub Γ N 109 [d, d] M = .ok (.bl true, M)
  | 0, _, _, _, _, h => h.elim
  | k + 1, N, d, M, hN, h => by
    refine eq_of_wp ?_
    rcases h with rfl | ⟨i, rfl⟩ | ⟨x, rfl⟩ | ⟨xs, rfl, hl, hx⟩
    · (obtain ⟨n, rfl⟩ : ∃ n, N = n + 1 := ⟨N - 1, by omega⟩; refine wp_call (F := f__law_same) rfl (Eq.refl 2) ?_; delta wO_some f__law_same b__law_same)
    · have e : cmpD .is (.int i) .non = some false := rfl
      (obtain ⟨n, rfl⟩ : ∃ n, N = n + 1 := ⟨N - 1, by omega⟩; refine wp_call (F := f__law_same) rfl (Eq.refl 2) ?_; delta wO_some f__law_same b__law_same)
      repeat' (first | (delta wO_some) | (refine wB_sp (fun hb => ?_) (fun hb => ?_) <;> try simp only [decide_eq_true_eq, decide_eq_false_iff_not, beq_iff_eq, beq_eq_false_iff_ne, Bool.not_eq_true, Bool.not_eq_false, Bool.not_true, Bool.not_false, ne_eq, Int.not_lt, Bool.not_eq_true', Bool.not_eq_false'] at hb))
    · have e : (x == x) = true := beq_self_eq_true x
      (obtain ⟨n, rfl⟩ : ∃ n, N = n + 1 := ⟨N - 1, by omega⟩; refine wp_call (F := f__law_same) rfl (Eq.refl 2) ?_; delta wO_some f__law_same b__law_same)
      repeat' (first | (delta wO_some e) | (refine wB_sp (fun hb => ?_) (fun hb => ?_) <;> try simp only [decide_eq_true_eq, decide_eq_false_iff_not, beq_iff_eq, beq_eq_false_iff_ne, Bool.not_eq_true, Bool.not_eq_false, Bool.not_true, Bool.not_false, ne_eq, Int.not_lt, Bool.not_eq_true', Bool.not_eq_false'] at hb))
    · have e : ((xs.length : Int) == (xs.length : Int)) = true := beq_self_eq_true _
      (obtain ⟨n, rfl⟩ : ∃ n, N = n + 1 := ⟨N - 1, by omega⟩; refine wp_call (F := f__law_same) rfl (Eq.refl 2) ?_; delta wO_some f__law_same b__law_same)
      repeat' (first | (delta wO_some e wlk_zip) | (refine wB_sp (fun hb => ?_) (fun hb => ?_) <;> try simp only [decide_eq_true_eq, decide_eq_false_iff_not, beq_iff_eq, beq_eq_false_iff_ne, Bool.not_eq_true, Bool.not_eq_false, Bool.not_true, Bool.not_false, ne_eq, Int.not_lt, Bool.not_eq_true', Bool.not_eq_false'] at hb))
      refine wFor_inv (I := fun rest ρ M' => ∃ u v ys, ρ = [some (.tup xs), some (.tup xs), u, v] ∧ M' = M ∧ rest = ys.map (fun x => .tup [x, x]) ∧ ∀ y ∈ ys, SameD k y) ⟨_, _, xs, rfl, rfl, zip2_self xs, hx⟩ ?_ ?_
      · rintro a ds ρ M' ⟨u, v, ys, rfl, rfl, hr, hy⟩
        cases ys with
        | nil => cases hr
        | cons y ys =>
          obtain ⟨rfl, rfl⟩ := List.cons.inj hr
          refine ⟨[some (.tup xs), some (.tup xs), some y, some y], rfl, ?_⟩
          have e := same_ok (N := n) (M := M') (by omega) (hy y List.mem_cons_self)
          repeat' (first | (delta wO_some l__law_same_0 e) | (refine wB_sp (fun hb => ?_) (fun hb => ?_) <;> try simp only [decide_eq_true_eq, decide_eq_false_iff_not, beq_iff_eq, beq_eq_false_iff_ne, Bool.not_eq_true, Bool.not_eq_false, Bool.not_true, Bool.not_false, ne_eq, Int.not_lt, Bool.not_eq_true', Bool.not_eq_false'] at hb))
          exact ⟨_, _, ys, rfl, rfl, fun z hz => hy z (List.mem_cons_of_mem _ hz)⟩
      · rintro ρ M' ⟨u, v, ys, rfl, rfl, hr, hy⟩
        repeat' (first | (delta wO_some) | (refine wB_sp (fun hb => ?_) (fun hb => ?_) <;> try simp only [decide_eq_true_eq, decide_eq_false_iff_not, beq_iff_eq, beq_eq_false_iff_ne, Bool.not_eq_true, Bool.not_eq_false, Bool.not_true, Bool.not_false, ne_eq, Int.not_lt, Bool.not_eq_true', Bool.not_eq_false'] at hb))
theorem same_non {k : Nat} : SameD (k + 1) .non := .inl rfl
theorem same_int {k : Nat} (i : Int) : SameD (k + 1) (.int i) := .inr (.inl ⟨i, rfl⟩)
theorem same_str {k : Nat} (x : List Nat) : SameD (k + 1) (.str x) := .inr (.inr (.inl ⟨x, rfl⟩))
theorem same_tup {k : Nat} {xs : List D} (hl : xs.length ≤ 100000) (h : ∀ y ∈ xs, SameD k y) : SameD (k + 1) (.tup xs) := .inr (.inr (.inr ⟨xs, rfl, hl, h⟩))
theorem same_up : ∀ {k m : Nat} {d : D}, k ≤ m → SameD k d → SameD m d
  | 0, _, _, _, h => h.elim
  | k + 1, m, d, hk, h => by
    obtain ⟨m, rfl⟩ : ∃ j, m = j + 1 := ⟨m - 1, by omega⟩
    rcases h with h | h | h | ⟨xs, rfl, hl, hx⟩
    · exact .inl h
    · exact .inr (.inl h)
    · exact .inr (.inr (.inl h))
    · exact same_tup hl fun y hy => same_up (by omega) (hx y hy)
theorem same_id {d : D} (h : IdD d) : SameD 2 d := by
  obtain ⟨a, b, rfl, _⟩ := h
  exact same_tup (by simp) fun y hy => by simp at hy; rcases hy with rfl | rfl <;> exact same_int _
theorem same_stamp {d : D} (h : StampD d) : SameD 2 d := by
  rcases h with rfl | ⟨a, b, rfl, _⟩ <;> exact same_tup (by simp) fun y hy => by simp at hy; rcases hy with rfl | rfl <;> exact same_int _
theorem same_row {d : D} (h : RowD d) : SameD 3 d := by
  rcases h with rfl | ⟨ds, rfl, hl, hx⟩
  · exact same_non
  · exact same_tup (by omega) fun y hy => same_id (hx y hy)
theorem same_members {d : D} (h : MembersD d) : SameD 2 d := by
  obtain ⟨ns, rfl, _, h9, _⟩ := h
  exact same_tup (by rw [List.length_map]; omega) fun y hy => by obtain ⟨i, _, rfl⟩ := List.mem_map.mp hy; exact same_int _
theorem same_ahead {d : D} (h : AheadD d) : SameD 2 d := by
  rcases h with rfl | h
  · exact same_tup (by simp) fun y hy => by cases hy
  · exact same_members h
theorem same_voted {d : D} (h : VotedD d) : SameD 3 d := by
  rcases h with rfl | ⟨s, m, rfl, h1, h2⟩
  · exact same_non
  · exact same_tup (by simp) fun y hy => by
      simp at hy
      rcases hy with rfl | rfl
      · exact same_stamp h1
      · exact same_members h2
theorem same_next {d : D} (h : NextD d) : SameD 2 d := by
  rcases h with rfl | h
  · exact same_non
  · exact same_members h
theorem same_heads {d : D} (h : HeadsD d) : SameD 5 d := by
  obtain ⟨hs, rfl, hl, hh, _⟩ := h
  exact same_tup (by omega) fun y hy => by
    obtain ⟨x, s, r, rfl, h1, h2, h3⟩ := hh y hy
    exact same_tup (by simp) fun z hz => by
      simp at hz
      rcases hz with rfl | rfl | rfl
      · exact same_str _
      · exact same_up (by omega) (same_stamp h2)
      · exact same_row h3
theorem same_blocks {d : D} (h : BlocksD d) : SameD 4 d := by
  obtain ⟨hs, rfl, hl, hh, _⟩ := h
  exact same_tup (by omega) fun y hy => by
    obtain ⟨i, x, rfl, h1, _⟩ := hh y hy
    exact same_tup (by simp) fun z hz => by
      simp at hz
      rcases hz with rfl | rfl
      · exact same_id h1
      · exact same_str _
theorem same_leases {L : List Ls} (h : L.length ≤ 1000) : SameD 3 (.tup (L.map lD)) := same_tup (by rw [List.length_map]; omega) fun y hy => by
  obtain ⟨l, _, rfl⟩ := List.mem_map.mp hy
  exact same_tup (by simp) fun z hz => by
    simp at hz
    rcases hz with rfl | rfl | rfl | rfl
    · exact same_str _
    · exact same_int _
    · exact same_int _
    · exact same_int _
theorem same_tD {T : Tb} {k : Nat} (h : TbOk k T) (hk : k ≤ 1000) : SameD 6 (tD T) := same_tup (by simp) fun y hy => by
  simp only [List.mem_cons, List.not_mem_nil, or_false] at hy
  rcases hy with rfl | rfl | rfl | rfl | rfl | rfl | rfl | rfl | rfl | rfl
  · exact same_int _
  · exact same_up (by omega) (same_members h.m)
  · exact same_up (by omega) (same_ahead h.a)
  · exact same_int _
  · exact same_heads h.h
  · exact same_up (by omega) (same_blocks h.b)
  · exact same_up (by omega) (same_leases (Nat.le_trans h.ln hk))
  · exact same_up (by omega) (same_stamp h.p)
  · exact same_up (by omega) (same_voted h.v)
  · exact same_up (by omega) (same_next h.x)
end
section
variable {N : Nat} {M : Sto} {Q : D → Sto → Prop} {X : Xc → Sto → Prop}
theorem same_word_wp {T : Tb} {w : Wd} {hd t e : Int} (hN : 1 ≤ N) (he : T.e = e) (hx : T.x = .non) (hw : ∀ n, N = n + 1 → (Ev.run sub Γ n (wdF w) [tD T, .tup [.int hd, .int t], .int e, .tup (wdR w)] M).wq Q X) : (Ev.run sub Γ N 104 [tD T, .tup [.int hd, .int t], .str (wdS w), .tup (.int e :: wdR w)] M).wq Q X := by
  obtain ⟨n, rfl⟩ : ∃ n, N = n + 1 := ⟨N - 1, by omega⟩
  have hw := hw n rfl
  refine wp_call (F := f_told_to_hand) rfl (Eq.refl 4) ?_
  subst he
  cases w <;> simp only [wdF] at hw <;> simp only [wdS, wdR] at hw ⊢
  all_goals
    repeat' (first | (delta wO_some f_told_to_hand b_told_to_hand nrm_tD tD_0 tD_1 tD_2 tD_3 tD_4 tD_5 tD_6 tD_7 tD_8 tD_9 hx nrm_WORDS WORDS_ask_in WORDS_ask_at WORDS_ask_ni WORDS_list_in WORDS_list_at WORDS_list_ni WORDS_get_in WORDS_get_at WORDS_get_ni WORDS_put_in WORDS_put_at WORDS_put_ni WORDS_head_in WORDS_head_at WORDS_head_ni WORDS_lease_in WORDS_lease_at WORDS_lease_ni WORDS_free_in WORDS_free_at WORDS_free_ni WORDS_prepare_in WORDS_prepare_at WORDS_prepare_ni WORDS_accept_in WORDS_accept_at WORDS_accept_ni WORDS_seal_in WORDS_seal_at WORDS_seal_ni) | (refine wB_sp (fun hb => ?_) (fun hb => ?_) <;> try simp only [decide_eq_true_eq, decide_eq_false_iff_not, beq_iff_eq, beq_eq_false_iff_ne, Bool.not_eq_true, Bool.not_eq_false, Bool.not_true, Bool.not_false, ne_eq, Int.not_lt, Bool.not_eq_true', Bool.not_eq_false'] at hb))
    refine wp_mono hw (fun d M h => ?_) (fun e M h => ?_)
    · repeat' (first | (delta wO_some) | (refine wB_sp (fun hb => ?_) (fun hb => ?_) <;> try simp only [decide_eq_true_eq, decide_eq_false_iff_not, beq_iff_eq, beq_eq_false_iff_ne, Bool.not_eq_true, Bool.not_eq_false, Bool.not_true, Bool.not_false, ne_eq, Int.not_lt, Bool.not_eq_true', Bool.not_eq_false'] at hb))
      exact h
    · repeat' (first | (delta wO_some) | (refine wB_sp (fun hb => ?_) (fun hb => ?_) <;> try simp only [decide_eq_true_eq, decide_eq_false_iff_not, beq_iff_eq, beq_eq_false_iff_ne, Bool.not_eq_true, Bool.not_eq_false, Bool.not_true, Bool.not_false, ne_eq, Int.not_lt, Bool.not_eq_true', Bool.not_eq_false'] at hb))
      exact h
theorem only_ok {w r : D} (h : 1 ≤ N) : Ev.run sub Γ N 89 [w, r] M = .ok (.tup [.tup [], .tup [w, r]], M) := by
  refine eq_of_wp ?_
  (obtain ⟨n, rfl⟩ : ∃ n, N = n + 1 := ⟨N - 1, by omega⟩; refine wp_call (F := f_only) rfl (Eq.refl 2) ?_; delta wO_some f_only b_only)
theorem done_ok {d w r : D} (h : 1 ≤ N) : Ev.run sub Γ N 90 [d, w, r] M = .ok (.tup [.tup [d], .tup [w, r]], M) := by
  refine eq_of_wp ?_
  (obtain ⟨n, rfl⟩ : ∃ n, N = n + 1 := ⟨N - 1, by omega⟩; refine wp_call (F := f_done) rfl (Eq.refl 3) ?_; delta wO_some f_done b_done)
def headF : List D → List Nat → D × D
  | .tup [.str y, s, r] :: hs, x => if y == x then (s, r) else headF hs x
  | _ :: hs, x => headF hs x
  | [], _ => (.tup [.int 0, .int 0], .non)
theorem headF_ok {x : List Nat} : ∀ {hs : List D}, (∀ h ∈ hs, HeadD h) → StampD (headF hs x).1 ∧ RowD (headF hs x).2
  | [], _ => ⟨.inl rfl, .inl rfl⟩
  | h :: hs, hh => by
    have ih := headF_ok (x := x) fun h hm => hh h (List.mem_cons_of_mem _ hm)
    obtain ⟨y, s, r, rfl, h1, h2, h3⟩ := hh h List.mem_cons_self
    simp only [headF]
    split
    · exact ⟨h2, h3⟩
    · exact ih
theorem raw_head_ok {T : Tb} {hs : List D} {x : List Nat} (h : 1 ≤ N) (hT : T.h = .tup hs) (hh : ∀ h ∈ hs, HeadD h) : Ev.run sub Γ N 32 [tD T, .str x] M = .ok (.tup [(headF hs x).1, (headF hs x).2], M) := by
  refine eq_of_wp ?_
  (obtain ⟨n, rfl⟩ : ∃ n, N = n + 1 := ⟨N - 1, by omega⟩; refine wp_call (F := f_raw_head) rfl (Eq.refl 2) ?_; delta wO_some f_raw_head b_raw_head)
  repeat' (first | (delta wO_some nrm_tD tD_0 tD_1 tD_2 tD_3 tD_4 tD_5 tD_6 tD_7 tD_8 tD_9 hT) | (refine wB_sp (fun hb => ?_) (fun hb => ?_) <;> try simp only [decide_eq_true_eq, decide_eq_false_iff_not, beq_iff_eq, beq_eq_false_iff_ne, Bool.not_eq_true, Bool.not_eq_false, Bool.not_true, Bool.not_false, ne_eq, Int.not_lt, Bool.not_eq_true', Bool.not_eq_false'] at hb))
  refine wFor_inv (I := fun rest ρ M' => ∃ u v w, ρ = [some (tD T), some (.str x), u, v, w] ∧ M' = M ∧ (∀ h ∈ rest, HeadD h) ∧ headF rest x = headF hs x) ⟨_, _, _, rfl, rfl, hh, rfl⟩ ?_ ?_
  · rintro a ds ρ M' ⟨u, v, w, rfl, rfl, hr, he⟩
    obtain ⟨y, s, r, rfl, h1, h2, h3⟩ := hr a List.mem_cons_self
    refine ⟨[some (tD T), some (.str x), some (.str y), some s, some r], rfl, ?_⟩
    simp only [headF] at he
    repeat' (first | (delta wO_some l_raw_head_0) | (refine wB_sp (fun hb => ?_) (fun hb => ?_) <;> try simp only [decide_eq_true_eq, decide_eq_false_iff_not, beq_iff_eq, beq_eq_false_iff_ne, Bool.not_eq_true, Bool.not_eq_false, Bool.not_true, Bool.not_false, ne_eq, Int.not_lt, Bool.not_eq_true', Bool.not_eq_false'] at hb))
    · rw [hb, if_pos (beq_self_eq_true _)] at he
      rw [← he]
    · rw [if_neg (by rw [beq_iff_eq]; exact hb)] at he
      exact ⟨_, _, _, rfl, fun h hm => hr h (List.mem_cons_of_mem _ hm), he⟩
  · rintro ρ M' ⟨u, v, w, rfl, rfl, hr, he⟩
    rw [← he]
    repeat' (first | (delta wO_some c_FIRST_HEAD) | (refine wB_sp (fun hb => ?_) (fun hb => ?_) <;> try simp only [decide_eq_true_eq, decide_eq_false_iff_not, beq_iff_eq, beq_eq_false_iff_ne, Bool.not_eq_true, Bool.not_eq_false, Bool.not_true, Bool.not_false, ne_eq, Int.not_lt, Bool.not_eq_true', Bool.not_eq_false'] at hb))
    rfl
def pieceF : List D → D → D
  | .tup [i, p] :: bs, j => if deq i j then p else pieceF bs j
  | _ :: bs, j => pieceF bs j
  | [], _ => .non
theorem eq_id {i j : D} (hi : IdD i) (hj : IdD j) : cmpD .eq i j = some (deq i j) := by
  obtain ⟨a, b, rfl, _⟩ := hi
  obtain ⟨c, d, rfl, _⟩ := hj
  rfl
theorem ne_id {i j : D} (hi : IdD i) (hj : IdD j) : cmpD .ne i j = some (!deq i j) := by
  obtain ⟨a, b, rfl, _⟩ := hi
  obtain ⟨c, d, rfl, _⟩ := hj
  rfl
theorem nrm_id {i : D} (hi : IdD i) (M : Sto) : nrm M i = i := by
  obtain ⟨a, b, rfl, _⟩ := hi
  rfl
theorem pieceF_ok {j : D} : ∀ {bs : List D}, (∀ b ∈ bs, BlockD b) → pieceF bs j = .non ∨ ∃ x, pieceF bs j = .str x ∧ SignsOk x ∧ 1 ≤ x.length ∧ x.length ≤ 8
  | [], _ => .inl rfl
  | b :: bs, hh => by
    have ih := pieceF_ok (j := j) fun h hm => hh h (List.mem_cons_of_mem _ hm)
    obtain ⟨i, x, rfl, h1, h2⟩ := hh b List.mem_cons_self
    simp only [pieceF]
    split
    · exact .inr ⟨x, rfl, h2⟩
    · exact ih
theorem piece_of_ok {T : Tb} {bs : List D} {j : D} (h : 1 ≤ N) (hT : T.b = .tup bs) (hh : ∀ h ∈ bs, BlockD h) (hj : IdD j) : Ev.run sub Γ N 86 [tD T, j] M = .ok (pieceF bs j, M) := by
  refine eq_of_wp ?_
  (obtain ⟨n, rfl⟩ : ∃ n, N = n + 1 := ⟨N - 1, by omega⟩; refine wp_call (F := f_piece_of) rfl (Eq.refl 2) ?_; delta wO_some f_piece_of b_piece_of)
  repeat' (first | (delta wO_some nrm_tD tD_0 tD_1 tD_2 tD_3 tD_4 tD_5 tD_6 tD_7 tD_8 tD_9 hT) | (refine wB_sp (fun hb => ?_) (fun hb => ?_) <;> try simp only [decide_eq_true_eq, decide_eq_false_iff_not, beq_iff_eq, beq_eq_false_iff_ne, Bool.not_eq_true, Bool.not_eq_false, Bool.not_true, Bool.not_false, ne_eq, Int.not_lt, Bool.not_eq_true', Bool.not_eq_false'] at hb))
  refine wFor_inv (I := fun rest ρ M' => ∃ u v, ρ = [some (tD T), some j, u, v] ∧ M' = M ∧ (∀ h ∈ rest, BlockD h) ∧ pieceF rest j = pieceF bs j) ⟨_, _, rfl, rfl, hh, rfl⟩ ?_ ?_
  · rintro a ds ρ M' ⟨u, v, rfl, rfl, hr, he⟩
    obtain ⟨i, x, rfl, h1, h2⟩ := hr a List.mem_cons_self
    refine ⟨[some (tD T), some j, some i, some (.str x)], rfl, ?_⟩
    simp only [pieceF] at he
    have n1 := nrm_id h1 M'
    have n2 := nrm_id hj M'
    have ee := eq_id h1 hj
    repeat' (first | (delta wO_some l_piece_of_0 n1 n2 ee) | (refine wB_sp (fun hb => ?_) (fun hb => ?_) <;> try simp only [decide_eq_true_eq, decide_eq_false_iff_not, beq_iff_eq, beq_eq_false_iff_ne, Bool.not_eq_true, Bool.not_eq_false, Bool.not_true, Bool.not_false, ne_eq, Int.not_lt, Bool.not_eq_true', Bool.not_eq_false'] at hb))
    · rw [if_pos hb] at he
      first | exact he | exact ⟨he, rfl⟩
    · rw [if_neg (by rw [hb]; exact Bool.false_ne_true)] at he
      exact ⟨_, _, rfl, fun h hm => hr h (List.mem_cons_of_mem _ hm), he⟩
  · rintro ρ M' ⟨u, v, rfl, rfl, hr, he⟩
    rw [← he]
    repeat' (first | (delta wO_some) | (refine wB_sp (fun hb => ?_) (fun hb => ?_) <;> try simp only [decide_eq_true_eq, decide_eq_false_iff_not, beq_iff_eq, beq_eq_false_iff_ne, Bool.not_eq_true, Bool.not_eq_false, Bool.not_true, Bool.not_false, ne_eq, Int.not_lt, Bool.not_eq_true', Bool.not_eq_false'] at hb))
    rfl
theorem to_ask_ok {T : Tb} {hs : List D} {x : List Nat} {a : D} {e : Int} (h : 2 ≤ N) (hT : T.h = .tup hs) (hh : ∀ h ∈ hs, HeadD h) : Ev.run sub Γ N 94 [tD T, a, .int e, .tup [.str x]] M = .ok (.tup [.tup [], .tup [.str [116, 111, 108, 100], .tup [.int e, .str x, (headF hs x).1, (headF hs x).2]]], M) := by
  refine eq_of_wp ?_
  have e1 := fun n (h : 1 ≤ n) => raw_head_ok (N := n) (M := M) (x := x) h hT hh
  (obtain ⟨n, rfl⟩ : ∃ n, N = n + 1 := ⟨N - 1, by omega⟩; refine wp_call (F := f_to_ask) rfl (Eq.refl 4) ?_; delta wO_some f_to_ask b_to_ask)
  repeat' (first | (delta wO_some e1 only_ok) | (refine wB_sp (fun hb => ?_) (fun hb => ?_) <;> try simp only [decide_eq_true_eq, decide_eq_false_iff_not, beq_iff_eq, beq_eq_false_iff_ne, Bool.not_eq_true, Bool.not_eq_false, Bool.not_true, Bool.not_false, ne_eq, Int.not_lt, Bool.not_eq_true', Bool.not_eq_false'] at hb))
def namesF (hs : List D) : List D := (hs.filter fun h => match h with | .tup [_, _, .non] => false | _ => true).map fstD
theorem isnt_row {r : D} (h : RowD r) : cmpD .isnt r .non = some (match r with | .non => false | _ => true) := by
  rcases h with rfl | ⟨ds, rfl, _⟩ <;> rfl
theorem nrm_row {i : D} (hi : RowD i) (M : Sto) : nrm M i = i := by
  rcases hi with rfl | ⟨ds, rfl, _⟩ <;> rfl
theorem to_list_ok {T : Tb} {hs : List D} {a r : D} {e : Int} (h : 2 ≤ N) (hT : T.h = .tup hs) (hh : ∀ h ∈ hs, HeadD h) (hl : hs.length ≤ 1000) : Ev.run sub Γ N 95 [tD T, a, .int e, r] M = .ok (.tup [.tup [], .tup [.str [110, 97, 109, 101, 115], .tup [.int e, .tup (namesF hs)]]], M) := by
  refine eq_of_wp ?_
  (obtain ⟨n, rfl⟩ : ∃ n, N = n + 1 := ⟨N - 1, by omega⟩; refine wp_call (F := f_to_list) rfl (Eq.refl 4) ?_; delta wO_some f_to_list b_to_list)
  repeat' (first | (delta wO_some q_to_list_0 nrm_tD tD_0 tD_1 tD_2 tD_3 tD_4 tD_5 tD_6 tD_7 tD_8 tD_9 hT) | (refine wB_sp (fun hb => ?_) (fun hb => ?_) <;> try simp only [decide_eq_true_eq, decide_eq_false_iff_not, beq_iff_eq, beq_eq_false_iff_ne, Bool.not_eq_true, Bool.not_eq_false, Bool.not_true, Bool.not_false, ne_eq, Int.not_lt, Bool.not_eq_true', Bool.not_eq_false'] at hb))
  refine ⟨sz_m (by omega), wCL_flt (p := fun h => match h with | .tup [_, _, .non] => false | _ => true) (f := fstD) (fun y hy => ?_) ?_⟩
  · obtain ⟨x, s, rw', rfl, h1, h2, h3⟩ := hh y hy
    refine ⟨_, rfl, ?_, fun _ => ?_⟩
    · have n1 := nrm_row h3 M
      have e1 := isnt_row h3
      repeat' (first | (delta wO_some n1 e1) | (refine wB_sp (fun hb => ?_) (fun hb => ?_) <;> try simp only [decide_eq_true_eq, decide_eq_false_iff_not, beq_iff_eq, beq_eq_false_iff_ne, Bool.not_eq_true, Bool.not_eq_false, Bool.not_true, Bool.not_false, ne_eq, Int.not_lt, Bool.not_eq_true', Bool.not_eq_false'] at hb))
      rcases h3 with rfl | ⟨ds, rfl, _⟩ <;> rfl
    · repeat' (first | (delta wO_some fstD) | (refine wB_sp (fun hb => ?_) (fun hb => ?_) <;> try simp only [decide_eq_true_eq, decide_eq_false_iff_not, beq_iff_eq, beq_eq_false_iff_ne, Bool.not_eq_true, Bool.not_eq_false, Bool.not_true, Bool.not_false, ne_eq, Int.not_lt, Bool.not_eq_true', Bool.not_eq_false'] at hb))
  · repeat' (first | (delta wO_some only_ok) | (refine wB_sp (fun hb => ?_) (fun hb => ?_) <;> try simp only [decide_eq_true_eq, decide_eq_false_iff_not, beq_iff_eq, beq_eq_false_iff_ne, Bool.not_eq_true, Bool.not_eq_false, Bool.not_true, Bool.not_false, ne_eq, Int.not_lt, Bool.not_eq_true', Bool.not_eq_false'] at hb))
    rfl
theorem to_get_ok {T : Tb} {bs : List D} {a j : D} {e : Int} (h : 2 ≤ N) (hT : T.b = .tup bs) (hh : ∀ h ∈ bs, BlockD h) (hj : IdD j) : Ev.run sub Γ N 96 [tD T, a, .int e, .tup [j]] M = .ok (.tup [.tup [], match pieceF bs j with | .str p => .tup [.str [98, 108, 111, 99, 107], .tup [.int e, j, .str p]] | _ => .tup [.str [110, 111, 110, 101], .tup [.int e, j]]], M) := by
  refine eq_of_wp ?_
  have e1 := fun n (h : 1 ≤ n) => piece_of_ok (N := n) (M := M) h hT hh hj
  rcases pieceF_ok (j := j) hh with e2 | ⟨x, e2, _⟩
  · rw [e2] at e1 ⊢
    (obtain ⟨n, rfl⟩ : ∃ n, N = n + 1 := ⟨N - 1, by omega⟩; refine wp_call (F := f_to_get) rfl (Eq.refl 4) ?_; delta wO_some f_to_get b_to_get)
    repeat' (first | (delta wO_some e1 only_ok) | (refine wB_sp (fun hb => ?_) (fun hb => ?_) <;> try simp only [decide_eq_true_eq, decide_eq_false_iff_not, beq_iff_eq, beq_eq_false_iff_ne, Bool.not_eq_true, Bool.not_eq_false, Bool.not_true, Bool.not_false, ne_eq, Int.not_lt, Bool.not_eq_true', Bool.not_eq_false'] at hb))
  · rw [e2] at e1 ⊢
    (obtain ⟨n, rfl⟩ : ∃ n, N = n + 1 := ⟨N - 1, by omega⟩; refine wp_call (F := f_to_get) rfl (Eq.refl 4) ?_; delta wO_some f_to_get b_to_get)
    repeat' (first | (delta wO_some e1 only_ok) | (refine wB_sp (fun hb => ?_) (fun hb => ?_) <;> try simp only [decide_eq_true_eq, decide_eq_false_iff_not, beq_iff_eq, beq_eq_false_iff_ne, Bool.not_eq_true, Bool.not_eq_false, Bool.not_true, Bool.not_false, ne_eq, Int.not_lt, Bool.not_eq_true', Bool.not_eq_false'] at hb))
end
end K10
set_option Elab.async false
set_option linter.all false
set_option autoImplicit false
set_option maxRecDepth 1000000
set_option maxHeartbeats 4000000
namespace K10
open Ev
local macro_rules | `(tactic| delta $xs:ident*) => `(tactic| simp (disch := first | assumption | omega) only [startE, wE_var, wE_bor, wE_con, wE_neg, wE_bin, wE_cmp, wE_chain, wE_and, wE_or, wE_not, wE_ite, wE_join, wE_call, wE_callv, wE_bi, wE_me, wE_mu, wE_tup, wE_lst, wE_dct, wE_sub, wE_slc, wE_comp, wE_alloc, wEs_nil, wEs_cons, wS_set, wS_own, wS_unp, wS_par, wS_aug, wS_ex, wS_omu, wS_osm, wS_ret, wS_retf, wS_reto, wS_retn, wS_ite, wS_for, wS_brk, wS_cnt, wS_pass, wS_raise, wS_try, wS_sto, wS_oput, wSs_nil, wSs_cons, dctOf_nil, true_and, and_true, wO_some, wB_t, wB_f, wp_ok, seqK_nx, seqK_rt, seqK_bk, seqK_ct, outK_nx, outK_rt, outX_, Ev.get, Ev.put, map1, map2, map3, List.length_cons, List.length_nil, List.replicate, List.cons_append, List.nil_append, List.getElem?_cons_zero, List.getElem?_cons_succ, List.set_cons_zero, List.set_cons_succ, Option.bind_some, id, Option.map_some, nrm_int, nrm_bl, nrm_non, nrm_str, nrm_lst, nrm_tup, nrm_scr, nrm_ty, nrm_dct, nrm_kd, nrm_itr, nrm_fn, nrm_obj0, bin_mul_int, bin_add_int, bin_sub_int, bin_mod_int, bin_fdiv_int, bi_int_int, Nat.sub_self, w_sub0, w_sub1, w_sub2, w_sub3, w_put1, w_put2, w_put3, cmp_eq_int, cmp_ne_int, cmp_lt_int, cmp_gt_int, cmp_le_int, cmp_ge_int, bi_len_str, bi_len_tup, bi_len_lst, bi_tuple_lst, bi_list_lst, bi_max_int, itw_lst, itw_tup, itw_itr, itw_str, putT_one, putT_tup, puts_cons, puts_nil, seq_tup, seq_lst, mua_append, mua_popK, mua_upd, fit_append, fit_popK, box_lst, box_dct, dct_dct, bi_rangeW, bi_range2W, ite_tt, ite_ff, ite_tf, ite_ft, dec_lt_t, dec_lt_f, beq_t, beq_f, Bool.not_true, Bool.not_false, Bool.true_and, Bool.and_true, wlk_len, wlk_isinst, wlk_tuple, wlk_list, wlk_all, wlk_any, wlk_sorted, wlk_sum, wlk_max, wlk_min, wlk_abs, wlk_int, wlk_str, wlk_range, Bool.false_eq_true, if_false, if_true, isNon, bnd, is_non_int, is_non_bool, is_non_str, is_non_tuple, is_non_list, is_non_dict, is_bl_int, is_bl_bool, is_bl_str, is_bl_tuple, is_bl_list, is_bl_dict, is_int_int, is_int_bool, is_int_str, is_int_tuple, is_int_list, is_int_dict, is_str_int, is_str_bool, is_str_str, is_str_tuple, is_str_list, is_str_dict, is_tup_int, is_tup_bool, is_tup_str, is_tup_tuple, is_tup_list, is_tup_dict, is_lst_int, is_lst_bool, is_lst_str, is_lst_tuple, is_lst_list, is_lst_dict, wE_dcomp, mu_extend_arg, fit_extend, List.map_cons, List.map_nil, beqS_cc, beqS_nn, beqS_cn, beqS_nc, Nat.reduceBEq, Bool.false_and, Bool.and_false, eqS, neS, wO_fn, is_nn', is_tn', isnt_nn', isnt_tn', is_sn', isnt_sn', is_in', isnt_in', bi_zip_tup, bi_enum_lst, bi_list_scr, bi_list_tup, bi_tuple_tup, tadd1 len1, tadd1 len2, tadd1 len3, tadd1 len4, tadd1 len5, tadd2 len1, tadd2 len2, tadd2 len3, tadd3 len1, tadd3 len2, tadd3 len3, Ev.puts_cons, Ev.puts_nil, sl_1, tt_0, tt1_0, tt2_0, tt2_1, tt3_0, tt3_1, tt3_2, tt4_0, tt4_1, tt4_2, tt4_3, tt5_0, tt5_1, tt5_2, tt5_3, tt5_4, tt6_0, tt6_1, tt6_2, tt6_3, tt6_4, tt6_5, tt10_0, tt10_1, tt10_2, tt10_3, tt10_4, tt10_5, tt10_6, tt10_7, tt10_8, tt10_9, sl2_1, sh2_1, sl3_1, sh3_1, sl3_2, sh3_2, sl4_1, sh4_1, sl4_2, sh4_2, sl4_3, sh4_3, sl5_1, sh5_1, sl5_2, sh5_2, sl5_3, sh5_3, sl5_4, sh5_4, sl6_1, sh6_1, sl6_2, sh6_2, sl6_3, sh6_3, sl6_4, sh6_4, sl6_5, sh6_5, sl10_1, sh10_1, sl10_2, sh10_2, sl10_3, sh10_3, sl10_4, sh10_4, sl10_5, sh10_5, sl10_6, sh10_6, sl10_7, sh10_7, sl10_8, sh10_8, sl10_9, sh10_9, $[$xs:ident],*])
section
variable {N o : Nat} {M : Sto} {Q : D → Sto → Prop} {X : Xc → Sto → Prop}
theorem told_ask {T : Tb} {hs : List D} {x : List Nat} (h : 1 ≤ N) (hT : T.h = .tup hs) (hh : ∀ h ∈ hs, HeadD h) : Ev.run sub Γ N 121 [tD T, .str [97, 115, 107], .tup [.str x]] M = .ok (.tup [.str [116, 111, 108, 100], .tup [.int T.e, .str x, (headF hs x).1, (headF hs x).2]], M) := by
  refine eq_of_wp ?_
  (obtain ⟨n, rfl⟩ : ∃ n, N = n + 1 := ⟨N - 1, by omega⟩; refine wp_call (F := f__law_told) rfl (Eq.refl 3) ?_; delta wO_some f__law_told b__law_told)
  repeat' (first | (delta wO_some nrm_tD tD_0 tD_1 tD_2 tD_3 tD_4 tD_5 tD_6 tD_7 tD_8 tD_9 hT) | (refine wB_sp (fun hb => ?_) (fun hb => ?_) <;> try simp only [decide_eq_true_eq, decide_eq_false_iff_not, beq_iff_eq, beq_eq_false_iff_ne, Bool.not_eq_true, Bool.not_eq_false, Bool.not_true, Bool.not_false, ne_eq, Int.not_lt, Bool.not_eq_true', Bool.not_eq_false'] at hb))
  refine wFor_inv (I := fun rest ρ M' => ∃ u v w, ρ = [some (tD T), some (.str [97, 115, 107]), some (.tup [.str x]), some (.int T.e), none, none, u, v, w] ∧ M' = M ∧ (∀ h ∈ rest, HeadD h) ∧ headF rest x = headF hs x) ⟨_, _, _, rfl, rfl, hh, rfl⟩ ?_ ?_
  · rintro a ds ρ M' ⟨u, v, w, rfl, rfl, hr, he⟩
    obtain ⟨y, s, r, rfl, h1, h2, h3⟩ := hr a List.mem_cons_self
    refine ⟨[some (tD T), some (.str [97, 115, 107]), some (.tup [.str x]), some (.int T.e), none, none, some (.str y), some s, some r], rfl, ?_⟩
    simp only [headF] at he
    repeat' (first | (delta wO_some l__law_told_0) | (refine wB_sp (fun hb => ?_) (fun hb => ?_) <;> try simp only [decide_eq_true_eq, decide_eq_false_iff_not, beq_iff_eq, beq_eq_false_iff_ne, Bool.not_eq_true, Bool.not_eq_false, Bool.not_true, Bool.not_false, ne_eq, Int.not_lt, Bool.not_eq_true', Bool.not_eq_false'] at hb))
    · rw [hb, if_pos (beq_self_eq_true _)] at he
      rw [← he, hb]
    · rw [if_neg (by rw [beq_iff_eq]; exact hb)] at he
      exact ⟨_, _, _, rfl, fun h hm => hr h (List.mem_cons_of_mem _ hm), he⟩
  · rintro ρ M' ⟨u, v, w, rfl, rfl, hr, he⟩
    rw [← he]
    repeat' (first | (delta wO_some) | (refine wB_sp (fun hb => ?_) (fun hb => ?_) <;> try simp only [decide_eq_true_eq, decide_eq_false_iff_not, beq_iff_eq, beq_eq_false_iff_ne, Bool.not_eq_true, Bool.not_eq_false, Bool.not_true, Bool.not_false, ne_eq, Int.not_lt, Bool.not_eq_true', Bool.not_eq_false'] at hb))
    rfl
theorem told_list {T : Tb} {hs : List D} (h : 1 ≤ N) (hT : T.h = .tup hs) (hh : ∀ h ∈ hs, HeadD h) (hl : hs.length ≤ 1000) : Ev.run sub Γ N 121 [tD T, .str [108, 105, 115, 116], .tup []] M = .ok (.tup [.str [110, 97, 109, 101, 115], .tup [.int T.e, .tup (namesF hs)]], M) := by
  refine eq_of_wp ?_
  (obtain ⟨n, rfl⟩ : ∃ n, N = n + 1 := ⟨N - 1, by omega⟩; refine wp_call (F := f__law_told) rfl (Eq.refl 3) ?_; delta wO_some f__law_told b__law_told)
  repeat' (first | (delta wO_some nrm_tD tD_0 tD_1 tD_2 tD_3 tD_4 tD_5 tD_6 tD_7 tD_8 tD_9 hT q__law_told_1) | (refine wB_sp (fun hb => ?_) (fun hb => ?_) <;> try simp only [decide_eq_true_eq, decide_eq_false_iff_not, beq_iff_eq, beq_eq_false_iff_ne, Bool.not_eq_true, Bool.not_eq_false, Bool.not_true, Bool.not_false, ne_eq, Int.not_lt, Bool.not_eq_true', Bool.not_eq_false'] at hb))
  refine ⟨sz_m (by omega), wCL_flt (p := fun h => match h with | .tup [_, _, .non] => false | _ => true) (f := fstD) (fun y hy => ?_) ?_⟩
  · obtain ⟨x, s, rw', rfl, h1, h2, h3⟩ := hh y hy
    refine ⟨_, rfl, ?_, fun _ => ?_⟩
    · have n1 := nrm_row h3 M
      have e1 := isnt_row h3
      repeat' (first | (delta wO_some n1 e1) | (refine wB_sp (fun hb => ?_) (fun hb => ?_) <;> try simp only [decide_eq_true_eq, decide_eq_false_iff_not, beq_iff_eq, beq_eq_false_iff_ne, Bool.not_eq_true, Bool.not_eq_false, Bool.not_true, Bool.not_false, ne_eq, Int.not_lt, Bool.not_eq_true', Bool.not_eq_false'] at hb))
      rcases h3 with rfl | ⟨ds, rfl, _⟩ <;> rfl
    · repeat' (first | (delta wO_some fstD) | (refine wB_sp (fun hb => ?_) (fun hb => ?_) <;> try simp only [decide_eq_true_eq, decide_eq_false_iff_not, beq_iff_eq, beq_eq_false_iff_ne, Bool.not_eq_true, Bool.not_eq_false, Bool.not_true, Bool.not_false, ne_eq, Int.not_lt, Bool.not_eq_true', Bool.not_eq_false'] at hb))
  · repeat' (first | (delta wO_some) | (refine wB_sp (fun hb => ?_) (fun hb => ?_) <;> try simp only [decide_eq_true_eq, decide_eq_false_iff_not, beq_iff_eq, beq_eq_false_iff_ne, Bool.not_eq_true, Bool.not_eq_false, Bool.not_true, Bool.not_false, ne_eq, Int.not_lt, Bool.not_eq_true', Bool.not_eq_false'] at hb))
    rfl
theorem told_get {T : Tb} {bs : List D} {j : D} (h : 1 ≤ N) (hT : T.b = .tup bs) (hh : ∀ h ∈ bs, BlockD h) (hj : IdD j) : Ev.run sub Γ N 121 [tD T, .str [103, 101, 116], .tup [j]] M = .ok (match pieceF bs j with | .str p => .tup [.str [98, 108, 111, 99, 107], .tup [.int T.e, j, .str p]] | _ => .tup [.str [110, 111, 110, 101], .tup [.int T.e, j]], M) := by
  refine eq_of_wp ?_
  (obtain ⟨n, rfl⟩ : ∃ n, N = n + 1 := ⟨N - 1, by omega⟩; refine wp_call (F := f__law_told) rfl (Eq.refl 3) ?_; delta wO_some f__law_told b__law_told)
  repeat' (first | (delta wO_some nrm_tD tD_0 tD_1 tD_2 tD_3 tD_4 tD_5 tD_6 tD_7 tD_8 tD_9 hT) | (refine wB_sp (fun hb => ?_) (fun hb => ?_) <;> try simp only [decide_eq_true_eq, decide_eq_false_iff_not, beq_iff_eq, beq_eq_false_iff_ne, Bool.not_eq_true, Bool.not_eq_false, Bool.not_true, Bool.not_false, ne_eq, Int.not_lt, Bool.not_eq_true', Bool.not_eq_false'] at hb))
  refine wFor_inv (I := fun rest ρ M' => ∃ u v, ρ = [some (tD T), some (.str [103, 101, 116]), some (.tup [j]), some (.int T.e), u, v, none, none, none] ∧ M' = M ∧ (∀ h ∈ rest, BlockD h) ∧ pieceF rest j = pieceF bs j) ⟨_, _, rfl, rfl, hh, rfl⟩ ?_ ?_
  · rintro a ds ρ M' ⟨u, v, rfl, rfl, hr, he⟩
    obtain ⟨i, x, rfl, h1, h2⟩ := hr a List.mem_cons_self
    refine ⟨[some (tD T), some (.str [103, 101, 116]), some (.tup [j]), some (.int T.e), some i, some (.str x), none, none, none], rfl, ?_⟩
    simp only [pieceF] at he
    have n1 := nrm_id h1 M'
    have n2 := nrm_id hj M'
    have ee := eq_id h1 hj
    repeat' (first | (delta wO_some l__law_told_2 n1 n2 ee) | (refine wB_sp (fun hb => ?_) (fun hb => ?_) <;> try simp only [decide_eq_true_eq, decide_eq_false_iff_not, beq_iff_eq, beq_eq_false_iff_ne, Bool.not_eq_true, Bool.not_eq_false, Bool.not_true, Bool.not_false, ne_eq, Int.not_lt, Bool.not_eq_true', Bool.not_eq_false'] at hb))
    · rw [if_pos hb] at he
      have ij : i = j := (deq_iff (id_al _ _ h1 hj)).mp hb
      rw [← he, ij]
    · rw [if_neg (by rw [hb]; exact Bool.false_ne_true)] at he
      exact ⟨_, _, rfl, fun h hm => hr h (List.mem_cons_of_mem _ hm), he⟩
  · rintro ρ M' ⟨u, v, rfl, rfl, hr, he⟩
    rw [← he]
    repeat' (first | (delta wO_some) | (refine wB_sp (fun hb => ?_) (fun hb => ?_) <;> try simp only [decide_eq_true_eq, decide_eq_false_iff_not, beq_iff_eq, beq_eq_false_iff_ne, Bool.not_eq_true, Bool.not_eq_false, Bool.not_true, Bool.not_false, ne_eq, Int.not_lt, Bool.not_eq_true', Bool.not_eq_false'] at hb))
    rfl
def Wk : Wd → Prop
  | .ask x => NameOk x
  | .list => True
  | .get i => IdD i
  | _ => False
theorem rest_wp {w : List Nat} {names pool : List D} (h : 2 ≤ N) (hM : HatM o M) (hw : w = [97, 115, 107] ∨ w = [108, 105, 115, 116] ∨ w = [103, 101, 116]) (hn : ∀ d ∈ names, NmD d) (hnl : 0 < names.length ∧ names.length ≤ 1000) (hp : ∀ d ∈ pool, IdD d) (hl : 0 < pool.length ∧ pool.length ≤ 1000) (hQ : ∀ v M', HatM o M' → Wk v → wdS v = w → Q (.tup (wdR v)) M') : (Ev.run sub Γ N 120 [.obj o, .str w, .lst names, .lst pool] M).wq Q X := by
  rcases hw with rfl | rfl | rfl
  · (obtain ⟨n, rfl⟩ : ∃ n, N = n + 1 := ⟨N - 1, by omega⟩; refine wp_call (F := f__law_rest) rfl (Eq.refl 4) ?_; delta wO_some f__law_rest b__law_rest)
    repeat' (first | (delta wO_some) | (refine draw_wp (by omega) (by assumption) (by first | decide | omega) (by first | decide | omega) ?_; intro j M1 w1 j0 j1) | (refine wO_pick (P := NmD) (by assumption) (by omega) (by omega) (fun d hd => ?_)) | (refine wB_sp (fun hb => ?_) (fun hb => ?_) <;> try simp only [decide_eq_true_eq, decide_eq_false_iff_not, beq_iff_eq, beq_eq_false_iff_ne, Bool.not_eq_true, Bool.not_eq_false, Bool.not_true, Bool.not_false, ne_eq, Int.not_lt, Bool.not_eq_true', Bool.not_eq_false'] at hb))
    obtain ⟨x, rfl, hx⟩ := hd
    exact hQ (.ask x) _ (by assumption) hx rfl
  · (obtain ⟨n, rfl⟩ : ∃ n, N = n + 1 := ⟨N - 1, by omega⟩; refine wp_call (F := f__law_rest) rfl (Eq.refl 4) ?_; delta wO_some f__law_rest b__law_rest)
    exact hQ .list _ (by assumption) trivial rfl
  · (obtain ⟨n, rfl⟩ : ∃ n, N = n + 1 := ⟨N - 1, by omega⟩; refine wp_call (F := f__law_rest) rfl (Eq.refl 4) ?_; delta wO_some f__law_rest b__law_rest)
    repeat' (first | (delta wO_some) | (refine draw_wp (by omega) (by assumption) (by first | decide | omega) (by first | decide | omega) ?_; intro j M1 w1 j0 j1) | (refine wO_pick (P := IdD) (by assumption) (by omega) (by omega) (fun d hd => ?_)) | (refine wB_sp (fun hb => ?_) (fun hb => ?_) <;> try simp only [decide_eq_true_eq, decide_eq_false_iff_not, beq_iff_eq, beq_eq_false_iff_ne, Bool.not_eq_true, Bool.not_eq_false, Bool.not_true, Bool.not_false, ne_eq, Int.not_lt, Bool.not_eq_true', Bool.not_eq_false'] at hb))
    exact hQ (.get _) _ (by assumption) hd rfl
def toldR (T : Tb) (hs bs : List D) : Wd → D
  | .ask x => .tup [.str [116, 111, 108, 100], .tup [.int T.e, .str x, (headF hs x).1, (headF hs x).2]]
  | .list => .tup [.str [110, 97, 109, 101, 115], .tup [.int T.e, .tup (namesF hs)]]
  | .get j => match pieceF bs j with | .str p => .tup [.str [98, 108, 111, 99, 107], .tup [.int T.e, j, .str p]] | _ => .tup [.str [110, 111, 110, 101], .tup [.int T.e, j]]
  | _ => .non
theorem toldR_form {T : Tb} {hs bs : List D} {w : Wd} (hw : Wk w) (hh : ∀ h ∈ hs, HeadD h) (hl : hs.length ≤ 1000) (hb : ∀ h ∈ bs, BlockD h) : ∃ x d, toldR T hs bs w = .tup [.str x, d] ∧ SameD 4 d := by
  cases w with
  | ask x =>
    have := headF_ok (x := x) hh
    exact ⟨_, _, rfl, same_tup (by simp) fun z hz => by
      simp at hz
      rcases hz with rfl | rfl | rfl | rfl
      · exact same_int _
      · exact same_str _
      · exact same_up (by omega) (same_stamp this.1)
      · exact same_row this.2⟩
  | list =>
    exact ⟨_, _, rfl, same_tup (by simp) fun z hz => by
      simp at hz
      rcases hz with rfl | rfl
      · exact same_int _
      · refine same_tup ?_ fun y hy => ?_
        · unfold namesF
          rw [List.length_map]
          exact Nat.le_trans (List.length_filter_le _ _) (by omega)
        · obtain ⟨k, hk, rfl⟩ := List.mem_map.mp hy
          obtain ⟨x, s, r, rfl, _⟩ := hh k (List.mem_filter.mp hk).1
          exact same_str _⟩
  | get j =>
    have hw : IdD j := hw
    rcases pieceF_ok (j := j) hb with e | ⟨x, e, _⟩
    · refine ⟨[110, 111, 110, 101], .tup [.int T.e, j], by simp only [toldR, e], same_tup (by simp) fun z hz => ?_⟩
      simp at hz
      rcases hz with rfl | rfl
      · exact same_int _
      · exact same_up (by omega) (same_id hw)
    · refine ⟨[98, 108, 111, 99, 107], .tup [.int T.e, j, .str x], by simp only [toldR, e], same_tup (by simp) fun z hz => ?_⟩
      simp at hz
      rcases hz with rfl | rfl | rfl
      · exact same_int _
      · exact same_up (by omega) (same_id hw)
      · exact same_str _
  | _ => exact hw.elim
theorem told_ok {T : Tb} {hs bs : List D} {w : Wd} (hN : 1 ≤ N) (hw : Wk w) (hT : T.h = .tup hs) (hB : T.b = .tup bs) (hh : ∀ h ∈ hs, HeadD h) (hl : hs.length ≤ 1000) (hb : ∀ h ∈ bs, BlockD h) : Ev.run sub Γ N 121 [tD T, .str (wdS w), .tup (wdR w)] M = .ok (toldR T hs bs w, M) := by
  cases w with
  | ask x => exact told_ask hN hT hh
  | list => exact told_list hN hT hh hl
  | get j => exact told_get hN hB hb hw
  | _ => exact hw.elim
theorem ans_ok {T : Tb} {hs bs : List D} {w : Wd} {h hd t : Int} (hN : 16 ≤ N) (hw : Wk w) (hk : TbOk 1000 T) (hx : T.x = .non) (hT : T.h = .tup hs) (hB : T.b = .tup bs) (hh : ∀ h ∈ hs, HeadD h) (hl : hs.length ≤ 1000) (hb : ∀ h ∈ bs, BlockD h) (h0 : 0 ≤ h) (h1 : h ≤ 8) (d0 : 1 ≤ hd) (d1 : hd ≤ 99) (t0 : 0 ≤ t) {x : List Nat} {d : D} (hr : toldR T hs bs w = .tup [.str x, d]) : Ev.run sub Γ N 106 [.int h, tD T, ltD h hd t (wdS w) (.int T.e :: wdR w)] M = .ok (.tup [.tup [], .tup [.tup [handD hd, homeD h, .int t, .str x, d]]], M) := by
  refine eq_of_wp ?_
  refine answer_wp (by omega) (fun N M h => check_table_ok h hk (Nat.le_refl _)) (fun N M h => letter_ok (by omega) ?_ h0 h1 d0 d1 t0 hk.e) h0 h1 fun n hn => ?_
  · cases w <;> first | exact hw | exact hw.elim
  refine same_word_wp (by omega) rfl hx fun n hn => ?_
  cases w with
  | ask x => refine wp_eq (to_ask_ok (by omega) hT hh) ⟨[], _, _, rfl, ?_⟩; injection hr with hr; injection hr with a b; injection b with b c; rw [a, b]; exact ⟨rfl, rfl⟩
  | list => refine wp_eq (to_list_ok (by omega) hT hh hl) ⟨[], _, _, rfl, ?_⟩; injection hr with hr; injection hr with a b; injection b with b c; rw [a, b]; exact ⟨rfl, rfl⟩
  | get j =>
    refine wp_eq (to_get_ok (by omega) hB hb hw) ⟨[], _, _, congrArg (fun z => D.tup [D.tup [], z]) hr, rfl, rfl⟩
  | _ => exact hw.elim
theorem one_wp (h : 20 ≤ N) (hM : HatM o M) (hQ : ∀ M', Q (.bl true) M') : (Ev.run sub Γ N 122 [.obj o] M).wq Q X := by
  (obtain ⟨n, rfl⟩ : ∃ n, N = n + 1 := ⟨N - 1, by omega⟩; refine wp_call (F := f__law_one) rfl (Eq.refl 1) ?_; delta wO_some f__law_one b__law_one)
  repeat' (first | (delta wO_some pow11 q__law_one_0 q__law_one_1) | (refine draw_wp (by omega) (by assumption) (by first | decide | omega) (by first | decide | omega) ?_; intro j M1 w1 j0 j1) | (refine wO_pickS (by omega) (by simp only [List.length_cons, List.length_nil]; omega) (fun d hd => ?_)) | (refine wO_pickI (lo := 3) (hi := 99) (by decide) (by omega) (by simp only [List.length_cons, List.length_nil]; omega) (fun m m0 m1 => ?_)) | (refine wO_pickI (lo := 4) (hi := 100000000000) (by decide) (by omega) (by simp only [List.length_cons, List.length_nil]; omega) (fun m m0 m1 => ?_)) | (refine wO_pickI (lo := 4) (hi := 44) (by decide) (by omega) (by simp only [List.length_cons, List.length_nil]; omega) (fun m m0 m1 => ?_)) | (refine ⟨by first | (rw [ints_len]; exact sz_m (by omega)) | exact sz_m (by omega), wCL_st (I := HatM o) (P := NmD) (e := .call 110 [.var 0]) (by assumption) (fun x hx M2 w2 => ⟨_, rfl, ?_⟩) (fun ys M3 w3 yl yP => ?_)⟩ <;> (try rw [ints_len] at yl)) | (refine ⟨by first | (rw [ints_len]; exact sz_m (by omega)) | exact sz_m (by omega), wCL_st (I := HatM o) (P := IdD) (e := .call 111 [.var 0]) (by assumption) (fun x hx M2 w2 => ⟨_, rfl, ?_⟩) (fun ys M3 w3 yl yP => ?_)⟩ <;> (try rw [ints_len] at yl)) | (refine name_wp (by omega) (by assumption) (fun x M1 w1 hx => ?_)) | (refine id_wp (by omega) (by assumption) (fun d M1 w1 hd => ?_)) | (refine wB_sp (fun hb => ?_) (fun hb => ?_) <;> try simp only [decide_eq_true_eq, decide_eq_false_iff_not, beq_iff_eq, beq_eq_false_iff_ne, Bool.not_eq_true, Bool.not_eq_false, Bool.not_true, Bool.not_false, ne_eq, Int.not_lt, Bool.not_eq_true', Bool.not_eq_false'] at hb))
  · exact ⟨by assumption, _, rfl, by assumption⟩
  · exact ⟨by assumption, by assumption⟩
  rename_i names _ _ _ hn pool M4 w4 pl hp
  obtain ⟨w, rfl, hw⟩ : ∃ w, d = .str w ∧ (w = [97, 115, 107] ∨ w = [108, 105, 115, 116] ∨ w = [103, 101, 116]) := by
    simp only [List.mem_cons, List.not_mem_nil, or_false] at hd
    rcases hd with rfl | rfl | rfl
    · exact ⟨_, rfl, .inl rfl⟩
    · exact ⟨_, rfl, .inr (.inl rfl)⟩
    · exact ⟨_, rfl, .inr (.inr rfl)⟩
  refine rest_wp (by omega) (by assumption) hw (by assumption) (by omega) (by assumption) (by omega) fun v M5 w5 hv hvw => ?_
  subst hvw
  repeat' (first | (delta wO_some) | (refine wB_sp (fun hb => ?_) (fun hb => ?_) <;> try simp only [decide_eq_true_eq, decide_eq_false_iff_not, beq_iff_eq, beq_eq_false_iff_ne, Bool.not_eq_true, Bool.not_eq_false, Bool.not_true, Bool.not_false, ne_eq, Int.not_lt, Bool.not_eq_true', Bool.not_eq_false'] at hb))
  refine table_wp (by omega) (by assumption) (by assumption) (by omega) (by assumption) (by omega) fun T M6 w6 hT hx => ?_
  obtain ⟨hs, hTh, hl, hh, ha⟩ := hT.h
  obtain ⟨bs, hTb, hbl, hb, hba⟩ := hT.b
  obtain ⟨x, dd, hr, hsame⟩ := toldR_form (T := T) hv hh hl hb
  have e1 := told_ok (N := n) (M := M6) (by omega) hv hTh hTb hh hl hb
  rw [hr] at e1
  have e2 := fun h hd t h0 h1 d0 d1 t0 => ans_ok (N := n) (M := M6) (by omega) hv hT hx hTh hTb hh hl hb (h := h) (hd := hd) (t := t) h0 h1 d0 d1 t0 hr
  have wl : (wdR v).length ≤ 100000 := by cases v <;> simp [wdR]
  simp only [ltD, homeD, handD] at e2
  have e3 := fun h hd t => same_ok (k := 10) (N := n) (M := M6) (d := .tup [.tup [], .tup [.tup [.tup [.str [104, 97, 110, 100], .int hd], .tup [.str [104, 111, 109, 101], .int h], .int t, .str x, dd]]]) (by omega) (same_tup (by simp) fun y hy => by
    simp at hy
    rcases hy with rfl | rfl
    · exact same_tup (by simp) fun y hy => by cases hy
    · refine same_tup (by simp) fun y hy => ?_
      simp at hy
      subst hy
      refine same_tup (by simp) fun y hy => ?_
      simp at hy
      rcases hy with rfl | rfl | rfl | rfl | rfl
      · exact same_tup (by simp) fun y hy => by simp at hy; rcases hy with rfl | rfl; exact same_str _; exact same_int _
      · exact same_tup (by simp) fun y hy => by simp at hy; rcases hy with rfl | rfl; exact same_str _; exact same_int _
      · exact same_int _
      · exact same_str _
      · exact same_up (by omega) hsame)
  repeat' (first | (simp (disch := first | assumption | omega) only [startE, wE_var, wE_bor, wE_con, wE_neg, wE_bin, wE_cmp, wE_chain, wE_and, wE_or, wE_not, wE_ite, wE_join, wE_call, wE_callv, wE_bi, wE_me, wE_mu, wE_tup, wE_lst, wE_dct, wE_sub, wE_slc, wE_comp, wE_alloc, wEs_nil, wEs_cons, wS_set, wS_own, wS_unp, wS_par, wS_aug, wS_ex, wS_omu, wS_osm, wS_ret, wS_retf, wS_reto, wS_retn, wS_ite, wS_for, wS_brk, wS_cnt, wS_pass, wS_raise, wS_try, wS_sto, wS_oput, wSs_nil, wSs_cons, dctOf_nil, true_and, and_true, wO_some, wB_t, wB_f, wp_ok, seqK_nx, seqK_rt, seqK_bk, seqK_ct, outK_nx, outK_rt, outX_, Ev.get, Ev.put, map1, map2, map3, List.length_cons, List.length_nil, List.replicate, List.cons_append, List.nil_append, List.getElem?_cons_zero, List.getElem?_cons_succ, List.set_cons_zero, List.set_cons_succ, Option.bind_some, id, Option.map_some, nrm_int, nrm_bl, nrm_non, nrm_str, nrm_lst, nrm_tup, nrm_scr, nrm_ty, nrm_dct, nrm_kd, nrm_itr, nrm_fn, nrm_obj0, bin_mul_int, bin_add_int, bin_sub_int, bin_mod_int, bin_fdiv_int, bi_int_int, Nat.sub_self, w_sub0, w_sub1, w_sub2, w_sub3, w_put1, w_put2, w_put3, cmp_eq_int, cmp_ne_int, cmp_lt_int, cmp_gt_int, cmp_le_int, cmp_ge_int, bi_len_str, bi_len_tup, bi_len_lst, bi_tuple_lst, bi_list_lst, bi_max_int, itw_lst, itw_tup, itw_itr, itw_str, putT_one, putT_tup, puts_cons, puts_nil, seq_tup, seq_lst, mua_append, mua_popK, mua_upd, fit_append, fit_popK, box_lst, box_dct, dct_dct, bi_rangeW, bi_range2W, ite_tt, ite_ff, ite_tf, ite_ft, dec_lt_t, dec_lt_f, beq_t, beq_f, Bool.not_true, Bool.not_false, Bool.true_and, Bool.and_true, wlk_len, wlk_isinst, wlk_tuple, wlk_list, wlk_all, wlk_any, wlk_sorted, wlk_sum, wlk_max, wlk_min, wlk_abs, wlk_int, wlk_str, wlk_range, Bool.false_eq_true, if_false, if_true, isNon, bnd, is_non_int, is_non_bool, is_non_str, is_non_tuple, is_non_list, is_non_dict, is_bl_int, is_bl_bool, is_bl_str, is_bl_tuple, is_bl_list, is_bl_dict, is_int_int, is_int_bool, is_int_str, is_int_tuple, is_int_list, is_int_dict, is_str_int, is_str_bool, is_str_str, is_str_tuple, is_str_list, is_str_dict, is_tup_int, is_tup_bool, is_tup_str, is_tup_tuple, is_tup_list, is_tup_dict, is_lst_int, is_lst_bool, is_lst_str, is_lst_tuple, is_lst_list, is_lst_dict, wE_dcomp, mu_extend_arg, fit_extend, List.map_cons, List.map_nil, beqS_cc, beqS_nn, beqS_cn, beqS_nc, Nat.reduceBEq, Bool.false_and, Bool.and_false, eqS, neS, wO_fn, is_nn', is_tn', isnt_nn', isnt_tn', is_sn', isnt_sn', is_in', isnt_in', bi_zip_tup, bi_enum_lst, bi_list_scr, bi_list_tup, bi_tuple_tup, tadd1 len1, tadd1 len2, tadd1 len3, tadd1 len4, tadd1 len5, tadd2 len1, tadd2 len2, tadd2 len3, tadd3 len1, tadd3 len2, tadd3 len3, Ev.puts_cons, Ev.puts_nil, sl_1, tt_0, tt1_0, tt2_0, tt2_1, tt3_0, tt3_1, tt3_2, tt4_0, tt4_1, tt4_2, tt4_3, tt5_0, tt5_1, tt5_2, tt5_3, tt5_4, tt6_0, tt6_1, tt6_2, tt6_3, tt6_4, tt6_5, tt10_0, tt10_1, tt10_2, tt10_3, tt10_4, tt10_5, tt10_6, tt10_7, tt10_8, tt10_9, sl2_1, sh2_1, sl3_1, sh3_1, sl3_2, sh3_2, sl4_1, sh4_1, sl4_2, sh4_2, sl4_3, sh4_3, sl5_1, sh5_1, sl5_2, sh5_2, sl5_3, sh5_3, sl5_4, sh5_4, sl6_1, sh6_1, sl6_2, sh6_2, sl6_3, sh6_3, sl6_4, sh6_4, sl6_5, sh6_5, sl10_1, sh10_1, sl10_2, sh10_2, sl10_3, sh10_3, sl10_4, sh10_4, sl10_5, sh10_5, sl10_6, sh10_6, sl10_7, sh10_7, sl10_8, sh10_8, sl10_9, sh10_9, nrm_tD, tD_0, tD_1, tD_2, tD_3, tD_4, tD_5, tD_6, tD_7, tD_8, tD_9, e1, tadd1 wl, e2, e3]) | (refine wB_sp (fun hb => ?_) (fun hb => ?_) <;> try simp only [decide_eq_true_eq, decide_eq_false_iff_not, beq_iff_eq, beq_eq_false_iff_ne, Bool.not_eq_true, Bool.not_eq_false, Bool.not_true, Bool.not_false, ne_eq, Int.not_lt, Bool.not_eq_true', Bool.not_eq_false'] at hb))
  exact hQ _
end
section
variable {N : Nat} {M : Sto}
theorem enum_ints : ∀ {ns : List Int} {k : Int} {x : D}, x ∈ enumFrom k (ns.map D.int) → ∃ i c, x = .tup [.int i, .int c]
  | [], _, _, h => by cases h
  | y :: r, k, x, h => by
    rcases List.mem_cons.mp h with rfl | h
    · exact ⟨_, _, rfl⟩
    · exact enum_ints h
theorem law_wp {ns : List Int} (h : 30 ≤ N) (hl : ns.length ≤ 63) : (Ev.run sub Γ N 123 [.scr (ns.map D.int)] M).wq (fun d _ => d = .bl true) noX := by
  have ea : ∀ a b c : Int, binD .add (.lst (ns.map D.int)) (.lst [.int a, .int b, .int c]) = some (.lst ((ns ++ [a, b, c]).map D.int)) := fun a b c => by
    rw [List.map_append]
    exact bin_add_lst' (sz_m (by rw [List.length_map]; simp; omega))
  (obtain ⟨n, rfl⟩ : ∃ n, N = n + 1 := ⟨N - 1, by omega⟩; refine wp_call (F := f_law) rfl (Eq.refl 1) ?_; delta wO_some f_law b_law)
  repeat' (first | (delta wO_some ea wlk_enum) | (refine wB_sp (fun hb => ?_) (fun hb => ?_) <;> try simp only [decide_eq_true_eq, decide_eq_false_iff_not, beq_iff_eq, beq_eq_false_iff_ne, Bool.not_eq_true, Bool.not_eq_false, Bool.not_true, Bool.not_false, ne_eq, Int.not_lt, Bool.not_eq_true', Bool.not_eq_false'] at hb))
  refine wFor_inv (I := fun rest ρ M' => ∃ u v, ρ = [some (.scr (ns.map D.int)), u, v] ∧ ∀ x ∈ rest, ∃ i c, x = .tup [.int i, .int c]) ⟨_, _, rfl, fun x hx => enum_ints hx⟩ ?_ ?_
  · rintro a ds ρ M' ⟨u, v, rfl, hr⟩
    obtain ⟨i, c, rfl⟩ := hr a List.mem_cons_self
    refine ⟨[some (.scr (ns.map D.int)), some (.int i), some (.int c)], rfl, ?_⟩
    repeat' (first | (delta wO_some l_law_0) | (refine wB_sp (fun hb => ?_) (fun hb => ?_) <;> try simp only [decide_eq_true_eq, decide_eq_false_iff_not, beq_iff_eq, beq_eq_false_iff_ne, Bool.not_eq_true, Bool.not_eq_false, Bool.not_true, Bool.not_false, ne_eq, Int.not_lt, Bool.not_eq_true', Bool.not_eq_false'] at hb))
    refine hat_wp (by omega) fun o M1 w1 => ?_
    repeat' (first | (delta wO_some) | (refine wB_sp (fun hb => ?_) (fun hb => ?_) <;> try simp only [decide_eq_true_eq, decide_eq_false_iff_not, beq_iff_eq, beq_eq_false_iff_ne, Bool.not_eq_true, Bool.not_eq_false, Bool.not_true, Bool.not_false, ne_eq, Int.not_lt, Bool.not_eq_true', Bool.not_eq_false'] at hb))
    refine one_wp (by omega) w1 fun M2 => ?_
    repeat' (first | (delta wO_some) | (refine wB_sp (fun hb => ?_) (fun hb => ?_) <;> try simp only [decide_eq_true_eq, decide_eq_false_iff_not, beq_iff_eq, beq_eq_false_iff_ne, Bool.not_eq_true, Bool.not_eq_false, Bool.not_true, Bool.not_false, ne_eq, Int.not_lt, Bool.not_eq_true', Bool.not_eq_false'] at hb))
    exact ⟨_, _, rfl, fun x hx => hr x (List.mem_cons_of_mem _ hx)⟩
  · rintro ρ M' ⟨u, v, rfl, hr⟩
    repeat' (first | (delta wO_some) | (refine wB_sp (fun hb => ?_) (fun hb => ?_) <;> try simp only [decide_eq_true_eq, decide_eq_false_iff_not, beq_iff_eq, beq_eq_false_iff_ne, Bool.not_eq_true, Bool.not_eq_false, Bool.not_true, Bool.not_false, ne_eq, Int.not_lt, Bool.not_eq_true', Bool.not_eq_false'] at hb))
end
theorem plain : ∀ ns : List Int, ns.length ≤ 63 → ∃ M, Ev.run sub Γ 40 123 [.scr (ns.map D.int)] [] = .ok (.bl true, M) := fun ns hl => by
  obtain ⟨d, M, e, rfl⟩ := of_wp (law_wp (N := 40) (M := []) (by omega) hl)
  exact ⟨M, e⟩
end K10
namespace K10
end K10
set_option Elab.async false
set_option linter.all false
set_option autoImplicit false
set_option maxRecDepth 1000000
set_option maxHeartbeats 0
namespace K10
open PySem PySem.Spec PyProof.Rows L2 Ev
def top (i : Nat) : Stmt := PySem.Challenge.pw_homeshold_k10_reading_words.main.body.getD i (.Pass ⟨0, 0, 0, 0⟩)
def d_is_integer : Df := ⟨"is_integer", "is_integer", top 6, ["thing"], ["thing"], f_is_integer, 1, []⟩
def d_is_between : Df := ⟨"is_between", "is_between", top 7, ["thing", "least", "most"], ["thing", "least", "most"], f_is_between, 1, []⟩
def d_is_count : Df := ⟨"is_count", "is_count", top 8, ["thing"], ["thing"], f_is_count, 1, []⟩
def d_is_tuple_of : Df := ⟨"is_tuple_of", "is_tuple_of", top 9, ["thing", "many"], ["thing", "many"], f_is_tuple_of, 1, []⟩
def d_is_pair_of_numbers : Df := ⟨"is_pair_of_numbers", "is_pair_of_numbers", top 10, ["thing"], ["thing"], f_is_pair_of_numbers, 1, []⟩
def d_are_ascending : Df := ⟨"are_ascending", "are_ascending", top 11, ["things", "at"], ["things"], f_are_ascending, 1, []⟩
def d_is_home : Df := ⟨"is_home", "is_home", top 21, ["thing"], ["thing"], f_is_home, 1, []⟩
def d_is_hand : Df := ⟨"is_hand", "is_hand", top 22, ["thing"], ["thing"], f_is_hand, 1, []⟩
def d_is_name : Df := ⟨"is_name", "is_name", top 23, ["thing", "sign"], ["thing"], f_is_name, 1, []⟩
def d_are_signs : Df := ⟨"are_signs", "are_signs", top 24, ["thing", "least", "most", "sign"], ["thing", "least", "most"], f_are_signs, 1, []⟩
def d_is_piece : Df := ⟨"is_piece", "is_piece", top 25, ["thing"], ["thing"], f_is_piece, 1, []⟩
def d_is_id : Df := ⟨"is_id", "is_id", top 26, ["thing"], ["thing"], f_is_id, 1, []⟩
def d_is_row : Df := ⟨"is_row", "is_row", top 27, ["thing", "one"], ["thing"], f_is_row, 2, []⟩
def d_is_stamp : Df := ⟨"is_stamp", "is_stamp", top 28, ["thing"], ["thing"], f_is_stamp, 2, []⟩
def d_is_members : Df := ⟨"is_members", "is_members", top 29, ["thing", "one"], ["thing"], f_is_members, 2, []⟩
def d_ids_of : Df := ⟨"ids_of", "ids_of", top 30, ["row", "one"], ["row"], f_ids_of, 1, []⟩
def d_are_heads : Df := ⟨"are_heads", "are_heads", top 42, ["thing", "one"], ["thing"], f_are_heads, 2, []⟩
def d_is_named_head : Df := ⟨"is_named_head", "is_named_head", top 43, ["thing"], ["thing"], f_is_named_head, 1, []⟩
def d_are_blocks : Df := ⟨"are_blocks", "are_blocks", top 44, ["thing", "one"], ["thing"], f_are_blocks, 3, []⟩
def d_are_leases : Df := ⟨"are_leases", "are_leases", top 45, ["thing", "one"], ["thing"], f_are_leases, 2, []⟩
def d_is_held : Df := ⟨"is_held", "is_held", top 46, ["thing"], ["thing"], f_is_held, 1, []⟩
def d_is_vote : Df := ⟨"is_vote", "is_vote", top 47, ["thing"], ["thing"], f_is_vote, 1, []⟩
def d_is_ahead : Df := ⟨"is_ahead", "is_ahead", top 48, ["thing"], ["thing"], f_is_ahead, 1, []⟩
def d_is_kept_tables : Df := ⟨"is_kept_tables", "is_kept", top 49, ["thing"], ["thing"], f_is_kept_tables, 4, []⟩
def d_is_table : Df := ⟨"is_table", "is_table", top 51, ["thing", "at"], ["thing"], f_is_table, 4, []⟩
def d_check_table : Df := ⟨"check_table", "check_table", top 52, ["thing"], ["thing"], f_check_table, 1, []⟩
def d_is_install : Df := ⟨"is_install", "is_install", top 53, ["thing"], ["thing"], f_is_install, 2, []⟩
def d_is_put : Df := ⟨"is_put", "is_put", top 54, ["thing"], ["thing"], f_is_put, 1, []⟩
def d_is_promise : Df := ⟨"is_promise", "is_promise", top 55, ["thing"], ["thing"], f_is_promise, 1, []⟩
def d_is_seal : Df := ⟨"is_seal", "is_seal", top 56, ["thing"], ["thing"], f_is_seal, 1, []⟩
def d_is_nothing : Df := ⟨"is_nothing", "is_nothing", top 57, ["thing"], ["thing"], f_is_nothing, 1, []⟩
def d_is_mend : Df := ⟨"is_mend", "is_mend", top 58, ["thing"], ["thing"], f_is_mend, 1, []⟩
def d_raw_head : Df := ⟨"raw_head", "raw_head", top 59, ["table", "name", "other", "stamp", "row"], ["table", "name"], f_raw_head, 2, []⟩
def d_ids_led : Df := ⟨"ids_led", "ids_led", top 60, ["heads", "found", "_", "row", "one"], ["heads"], f_ids_led, 3, [1]⟩
def d_raw_led : Df := ⟨"raw_led", "raw_led", top 61, ["table", "led", "block"], ["table"], f_raw_led, 2, []⟩
def d_is_in_force : Df := ⟨"is_in_force", "is_in_force", top 62, ["table", "lease"], ["table", "lease"], f_is_in_force, 1, []⟩
def d_is_elder : Df := ⟨"is_elder", "is_elder", top 63, ["lease", "held"], ["lease", "held"], f_is_elder, 1, []⟩
def d_are_ids : Df := ⟨"are_ids", "are_ids", top 68, ["thing", "one"], ["thing"], f_are_ids, 1, []⟩
def d_are_names : Df := ⟨"are_names", "are_names", top 69, ["thing", "one"], ["thing"], f_are_names, 1, []⟩
def d_is_voted : Df := ⟨"is_voted", "is_voted", top 70, ["thing"], ["thing"], f_is_voted, 1, []⟩
def d_are_counts : Df := ⟨"are_counts", "are_counts", top 71, ["thing", "most", "one"], ["thing", "most"], f_are_counts, 1, []⟩
def d_is_place_count : Df := ⟨"is_place_count", "is_place_count", top 72, ["thing"], ["thing"], f_is_place_count, 1, []⟩
def d_is_only_name : Df := ⟨"is_only_name", "is_only_name", top 73, ["rest"], ["rest"], f_is_only_name, 1, []⟩
def d_is_only_id : Df := ⟨"is_only_id", "is_only_id", top 74, ["rest"], ["rest"], f_is_only_id, 1, []⟩
def d_is_kept : Df := ⟨"is_kept", "is_kept", top 75, ["rest"], ["rest"], f_is_kept, 1, []⟩
def d_is_lacks : Df := ⟨"is_lacks", "is_lacks", top 77, ["rest"], ["rest"], f_is_lacks, 1, []⟩
def d_is_names : Df := ⟨"is_names", "is_names", top 78, ["rest"], ["rest"], f_is_names, 1, []⟩
def d_is_promised : Df := ⟨"is_promised", "is_promised", top 79, ["rest"], ["rest"], f_is_promised, 1, []⟩
def d_is_carried : Df := ⟨"is_carried", "is_carried", top 80, ["rest"], ["rest"], f_is_carried, 1, []⟩
def d_is_place : Df := ⟨"is_place", "is_place", top 81, ["rest"], ["rest"], f_is_place, 1, []⟩
def d_is_sums : Df := ⟨"is_sums", "is_sums", top 82, ["rest"], ["rest"], f_is_sums, 1, []⟩
def d_is_values : Df := ⟨"is_values", "is_values", top 83, ["rest"], ["rest"], f_is_values, 1, []⟩
def d_is_roots : Df := ⟨"is_roots", "is_roots", top 84, ["rest"], ["rest"], f_is_roots, 1, []⟩
def d_is_machine : Df := ⟨"is_machine", "is_machine", top 88, ["thing"], ["thing"], f_is_machine, 2, []⟩
def d_is_word : Df := ⟨"is_word", "is_word", top 89, ["to", "by", "word", "rest"], ["to", "by", "word", "rest"], f_is_word, 3, []⟩
def d_is_letter : Df := ⟨"is_letter", "is_letter", top 90, ["thing", "to", "by", "_", "word", "rest"], ["thing"], f_is_letter, 5, []⟩
def d_inverse : Df := ⟨"inverse", "inverse", top 93, ["prime", "number", "left", "right", "one", "other", "times"], ["prime", "number"], f_inverse, 4, []⟩
def d_trimmed : Df := ⟨"trimmed", "trimmed", top 94, ["coefficients", "many"], ["coefficients"], f_trimmed, 3, []⟩
def d_at_place : Df := ⟨"at_place", "at_place", top 95, ["prime", "polynomial", "place", "total", "coefficient"], ["prime", "polynomial", "place"], f_at_place, 3, []⟩
def d_monic : Df := ⟨"monic", "monic", top 96, ["prime", "polynomial", "factor", "coefficient"], ["prime", "polynomial"], f_monic, 2, []⟩
def d_parted : Df := ⟨"parted", "parted", top 97, ["prime", "polynomial", "divisor", "rest", "factor", "quotient", "shift", "times", "lower", "coefficient", "one", "other"], ["prime", "polynomial", "divisor"], f_parted, 5, [5]⟩
def d_common : Df := ⟨"common", "common", top 98, ["prime", "one", "other"], ["prime", "one", "other"], f_common, 3, []⟩
def d_with_pivot : Df := ⟨"with_pivot", "with_pivot", top 99, ["prime", "rows", "at", "column", "factor", "pivot", "found", "k", "row", "times", "entry", "other"], ["prime", "rows", "at", "column"], f_with_pivot, 5, [6]⟩
def d_solved : Df := ⟨"solved", "solved", top 100, ["prime", "rows", "many", "places", "column", "free", "k", "row"], ["prime", "rows", "many"], f_solved, 4, [3]⟩
def d_raw_values : Df := ⟨"raw_values", "raw_values", top 104, ["prime", "numbers", "places", "found", "place", "total", "number"], ["prime", "numbers", "places"], f_raw_values, 3, [3]⟩
def d_powers : Df := ⟨"powers", "powers", top 105, ["prime", "place", "many", "found", "power", "_"], ["prime", "place", "many"], f_powers, 4, [3]⟩
def d_equation : Df := ⟨"equation", "equation", top 106, ["prime", "place", "ratio", "high", "low", "top", "bottom", "row", "power"], ["prime", "place", "ratio", "high", "low"], f_equation, 4, []⟩
def d_reduced : Df := ⟨"reduced", "reduced", top 107, ["prime", "high", "low", "solution", "divisor", "one", "other"], ["prime", "high", "low", "solution"], f_reduced, 3, []⟩
def d_raw_roots : Df := ⟨"raw_roots", "raw_roots", top 108, ["prime", "polynomial", "numbers", "number"], ["prime", "polynomial", "numbers"], f_raw_roots, 1, []⟩
def d_fit : Df := ⟨"fit", "fit", top 109, ["prime", "pair", "own", "places", "told", "place", "value", "mine"], ["prime", "pair", "own", "places", "told"], f_fit, 2, []⟩
def d_raw_difference : Df := ⟨"raw_difference", "raw_difference", top 110, ["prime", "own", "many", "places", "told", "most", "apart", "total", "rows", "solution", "high", "low", "place", "value", "mine", "one", "other"], ["prime", "own", "many", "places", "told", "most"], f_raw_difference, 11, [8]⟩
def d_raw_number_of : Df := ⟨"raw_number_of", "raw_number_of", top 111, ["name", "stamp", "total", "sign"], ["name", "stamp"], f_raw_number_of, 3, []⟩
def d_places_of : Df := ⟨"places_of", "places_of", top 114, ["many", "at"], ["many"], f_places_of, 1, []⟩
def d_numbers_of : Df := ⟨"numbers_of", "numbers_of", top 115, ["table", "name", "stamp", "row"], ["table"], f_numbers_of, 1, []⟩
def d_keeps : Df := ⟨"keeps", "keeps", top 116, ["table"], ["table"], f_keeps, 1, []⟩
def d_written : Df := ⟨"written", "written", top 117, ["home", "other", "word", "rest"], ["home", "other", "word", "rest"], f_written, 1, []⟩
def d_to_sums : Df := ⟨"to_sums", "to_sums", top 118, ["table", "rest", "numbers", "epoch", "many"], ["table", "rest"], f_to_sums, 3, []⟩
def d_to_values : Df := ⟨"to_values", "to_values", top 119, ["table", "rest", "found", "epoch", "many", "size", "told", "value"], ["table", "rest"], f_to_values, 5, []⟩
def d_wanted : Df := ⟨"wanted", "wanted", top 120, ["table", "factor", "found", "head"], ["table", "factor"], f_wanted, 4, [2]⟩
def d_led_by : Df := ⟨"led_by", "led_by", top 121, ["heads", "blocks", "led", "block"], ["heads", "blocks"], f_led_by, 2, []⟩
def d_to_roots : Df := ⟨"to_roots", "to_roots", top 122, ["table", "rest", "heads", "epoch", "factor"], ["table", "rest"], f_to_roots, 3, []⟩
def d_is_free : Df := ⟨"is_free", "is_free", top 123, ["table", "name", "lease"], ["table", "name"], f_is_free, 1, []⟩
def d_taken : Df := ⟨"taken", "taken", top 124, ["table", "heads", "blocks", "held", "found", "name", "stamp", "row", "block", "one"], ["table", "heads", "blocks"], f_taken, 4, [4]⟩
def d_mend_deeds : Df := ⟨"mend_deeds", "mend_deeds", top 125, ["table", "rest", "found", "epoch", "heads", "blocks"], ["table", "rest"], f_mend_deeds, 3, []⟩
def d_told_between : Df := ⟨"told_between", "told_between", top 126, ["table", "word", "rest"], ["table", "word", "rest"], f_told_between, 3, []⟩
def d_answer_between : Df := ⟨"answer_between", "answer_between", top 127, ["home", "table", "letter", "told", "word", "rest"], ["home", "table", "letter"], f_answer_between, 5, []⟩
def d_piece_of : Df := ⟨"piece_of", "piece_of", top 129, ["table", "one", "other", "piece"], ["table", "one"], f_piece_of, 2, []⟩
def d_is_leased : Df := ⟨"is_leased", "is_leased", top 130, ["table", "name", "hand", "lease"], ["table", "name", "hand"], f_is_leased, 1, []⟩
def d_lacking : Df := ⟨"lacking", "lacking", top 131, ["table", "row", "one"], ["table", "row"], f_lacking, 1, []⟩
def d_only : Df := ⟨"only", "only", top 132, ["word", "rest"], ["word", "rest"], f_only, 1, []⟩
def d_done : Df := ⟨"done", "done", top 133, ["deed", "word", "rest"], ["deed", "word", "rest"], f_done, 1, []⟩
def d_to_install : Df := ⟨"to_install", "to_install", top 134, ["table", "rest", "epoch"], ["table", "rest"], f_to_install, 3, []⟩
def d_to_later : Df := ⟨"to_later", "to_later", top 135, ["table", "epoch", "word"], ["table", "epoch", "word"], f_to_later, 2, []⟩
def d_to_sealed : Df := ⟨"to_sealed", "to_sealed", top 136, ["table", "epoch", "word"], ["table", "epoch", "word"], f_to_sealed, 2, []⟩
def d_to_ask : Df := ⟨"to_ask", "to_ask", top 137, ["table", "asked", "epoch", "rest"], ["table", "asked", "epoch", "rest"], f_to_ask, 1, []⟩
def d_to_list : Df := ⟨"to_list", "to_list", top 138, ["table", "asked", "epoch", "rest", "name", "_", "row"], ["table", "asked", "epoch", "rest"], f_to_list, 1, []⟩
def d_to_get : Df := ⟨"to_get", "to_get", top 139, ["table", "asked", "epoch", "rest", "piece"], ["table", "asked", "epoch", "rest"], f_to_get, 2, []⟩
def d_to_put : Df := ⟨"to_put", "to_put", top 140, ["table", "asked", "epoch", "rest"], ["table", "asked", "epoch", "rest"], f_to_put, 2, []⟩
def d_to_head : Df := ⟨"to_head", "to_head", top 141, ["table", "asked", "epoch", "rest", "lacks", "name", "stamp", "row"], ["table", "asked", "epoch", "rest"], f_to_head, 6, []⟩
def d_to_lease : Df := ⟨"to_lease", "to_lease", top 142, ["table", "asked", "epoch", "rest"], ["table", "asked", "epoch", "rest"], f_to_lease, 1, []⟩
def d_to_free : Df := ⟨"to_free", "to_free", top 143, ["table", "asked", "epoch", "rest", "held", "lease"], ["table", "asked", "epoch", "rest"], f_to_free, 3, []⟩
def d_to_prepare : Df := ⟨"to_prepare", "to_prepare", top 144, ["table", "asked", "epoch", "rest", "told"], ["table", "asked", "epoch", "rest"], f_to_prepare, 3, []⟩
def d_to_accept : Df := ⟨"to_accept", "to_accept", top 145, ["table", "asked", "epoch", "rest", "told"], ["table", "asked", "epoch", "rest"], f_to_accept, 3, []⟩
def d_to_seal : Df := ⟨"to_seal", "to_seal", top 146, ["table", "asked", "epoch", "rest", "lease"], ["table", "asked", "epoch", "rest"], f_to_seal, 2, []⟩
def d_told_to_hand : Df := ⟨"told_to_hand", "told_to_hand", top 148, ["table", "asked", "word", "rest", "epoch", "found"], ["table", "asked", "word", "rest"], f_told_to_hand, 6, []⟩
def d_raw_answer : Df := ⟨"raw_answer", "raw_answer", top 149, ["home", "table", "letter", "to", "by", "talk", "word", "rest", "deeds", "told"], ["home", "table", "letter"], f_raw_answer, 4, []⟩
def d_answer : Df := ⟨"answer", "answer", top 150, ["home", "table", "letter"], ["home", "table", "letter"], f_answer, 4, []⟩
def d__law_hat : Df := ⟨"_law_hat", "_law_hat", top 152, ["_law_cell", "_law_k", "_law_wide", "_law_number"], ["_law_cell", "_law_k"], f__law_hat, 4, []⟩
def d__law_draw : Df := ⟨"_law_draw", "_law_draw", top 153, ["_law_hat_here", "_law_many", "_law_digit"], ["_law_hat_here", "_law_many"], f__law_draw, 4, []⟩
def d__law_same : Df := ⟨"_law_same", "_law_same", top 154, ["_law_actual", "_law_due", "_law_one_here", "_law_other"], ["_law_actual", "_law_due"], f__law_same, 4, []⟩
def d__law_name : Df := ⟨"_law_name", "_law_name", top 155, ["_law_hat_here", "_law_size", "_law_k"], ["_law_hat_here"], f__law_name, 3, []⟩
def d__law_id : Df := ⟨"_law_id", "_law_id", top 156, ["_law_hat_here"], ["_law_hat_here"], f__law_id, 2, []⟩
def d__law_piece : Df := ⟨"_law_piece", "_law_piece", top 157, ["_law_hat_here", "_law_signs", "_law_size", "_law_k"], ["_law_hat_here"], f__law_piece, 4, []⟩
def d__law_stamp : Df := ⟨"_law_stamp", "_law_stamp", top 158, ["_law_hat_here", "_law_kind"], ["_law_hat_here"], f__law_stamp, 4, []⟩
def d__law_members : Df := ⟨"_law_members", "_law_members", top 159, ["_law_hat_here", "_law_mask", "_law_k"], ["_law_hat_here"], f__law_members, 2, []⟩
def d__law_row : Df := ⟨"_law_row", "_law_row", top 160, ["_law_hat_here", "_law_pool", "_law_size", "_law_k"], ["_law_hat_here", "_law_pool"], f__law_row, 3, []⟩
def d__law_heads : Df := ⟨"_law_heads", "_law_heads", top 161, ["_law_hat_here", "_law_names", "_law_pool", "_law_found", "_law_name_here"], ["_law_hat_here", "_law_names", "_law_pool"], f__law_heads, 3, [3]⟩
def d__law_blocks : Df := ⟨"_law_blocks", "_law_blocks", top 162, ["_law_hat_here", "_law_pool", "_law_found", "_law_one_here"], ["_law_hat_here", "_law_pool"], f__law_blocks, 3, [2]⟩
def d__law_leases : Df := ⟨"_law_leases", "_law_leases", top 163, ["_law_hat_here", "_law_names", "_law_clock", "_law_found", "_law_k", "_law_held"], ["_law_hat_here", "_law_names", "_law_clock"], f__law_leases, 3, [3]⟩
def d__law_table : Df := ⟨"_law_table", "_law_table", top 164, ["_law_hat_here", "_law_names", "_law_pool", "_law_epoch", "_law_clock", "_law_members_here", "_law_ahead", "_law_leases_here", "_law_promise", "_law_voted", "_law_heads_here"], ["_law_hat_here", "_law_names", "_law_pool"], f__law_table, 11, []⟩
def d__law_rest : Df := ⟨"_law_rest", "_law_rest", top 165, ["_law_hat_here", "_law_word", "_law_names", "_law_pool"], ["_law_hat_here", "_law_word", "_law_names", "_law_pool"], f__law_rest, 3, []⟩
def d__law_told : Df := ⟨"_law_told", "_law_told", top 166, ["_law_table_here", "_law_word", "_law_rest_here", "_law_epoch", "_law_one_here", "_law_piece_here", "_law_name_here", "_law_stamp_here", "_law_row_here"], ["_law_table_here", "_law_word", "_law_rest_here"], f__law_told, 5, []⟩
def d__law_one : Df := ⟨"_law_one", "_law_one", top 167, ["_law_hat_here", "_law_word", "_law_home", "_law_hand", "_law_talk", "_law_names", "_law_pool", "_law_rest_here", "_law_table_here", "_law_to", "_law_by", "_law_told_here", "_law_due", "_law_k"], ["_law_hat_here"], f__law_one, 13, []⟩
def d_law : Df := ⟨"law", "law", top 168, ["_law_script", "_law_k", "_law_cell"], ["_law_script"], f_law, 2, []⟩
def ds : List Df := [d_is_integer, d_is_between, d_is_count, d_is_tuple_of, d_is_pair_of_numbers, d_are_ascending, d_is_home, d_is_hand, d_is_name, d_are_signs, d_is_piece, d_is_id, d_is_row, d_is_stamp, d_is_members, d_ids_of, d_are_heads, d_is_named_head, d_are_blocks, d_are_leases, d_is_held, d_is_vote, d_is_ahead, d_is_kept_tables, d_is_table, d_check_table, d_is_install, d_is_put, d_is_promise, d_is_seal, d_is_nothing, d_is_mend, d_raw_head, d_ids_led, d_raw_led, d_is_in_force, d_is_elder, d_are_ids, d_are_names, d_is_voted, d_are_counts, d_is_place_count, d_is_only_name, d_is_only_id, d_is_kept, d_is_lacks, d_is_names, d_is_promised, d_is_carried, d_is_place, d_is_sums, d_is_values, d_is_roots, d_is_machine, d_is_word, d_is_letter, d_inverse, d_trimmed, d_at_place, d_monic, d_parted, d_common, d_with_pivot, d_solved, d_raw_values, d_powers, d_equation, d_reduced, d_raw_roots, d_fit, d_raw_difference, d_raw_number_of, d_places_of, d_numbers_of, d_keeps, d_written, d_to_sums, d_to_values, d_wanted, d_led_by, d_to_roots, d_is_free, d_taken, d_mend_deeds, d_told_between, d_answer_between, d_piece_of, d_is_leased, d_lacking, d_only, d_done, d_to_install, d_to_later, d_to_sealed, d_to_ask, d_to_list, d_to_get, d_to_put, d_to_head, d_to_lease, d_to_free, d_to_prepare, d_to_accept, d_to_seal, d_told_to_hand, d_raw_answer, d_answer, d__law_hat, d__law_draw, d__law_same, d__law_name, d__law_id, d__law_piece, d__law_stamp, d__law_members, d__law_row, d__law_heads, d__law_blocks, d__law_leases, d__law_table, d__law_rest, d__law_told, d__law_one, d_law]
theorem Γ_eq : ds.map (·.fn) = Γ := rfl
def cls : List Str := ["HomeError", "NoTable", "NoHomeNumber", "NoLetter"]
def gls : List (Str × D) := ([("HomeError", .cl 0), ("NoTable", .cl 1), ("NoHomeNumber", .cl 2), ("NoLetter", .cl 3), ("is_integer", .fn 0), ("is_between", .fn 1), ("is_count", .fn 2), ("is_tuple_of", .fn 3), ("is_pair_of_numbers", .fn 4), ("are_ascending", .fn 5), ("MOST_HOMES", .int 9), ("MOST_HANDS", .int 99), ("MOST_IN_NAME", .int 8), ("MOST_IN_PIECE", .int 8), ("MOST_IN_ROW", .int 12), ("LETTERS", .str [97, 98, 99, 100, 101, 102, 103, 104, 105, 106, 107, 108, 109, 110, 111, 112, 113, 114, 115, 116, 117, 118, 119, 120, 121, 122]), ("FIRST_STAMP", c_FIRST_STAMP), ("FIRST_HEAD", c_FIRST_HEAD), ("is_home", .fn 6), ("is_hand", .fn 7), ("is_name", .fn 8), ("are_signs", .fn 9), ("is_piece", .fn 10), ("is_id", .fn 11), ("is_row", .fn 12), ("is_stamp", .fn 13), ("is_members", .fn 14), ("ids_of", .fn 15), ("EPOCH", .int 0), ("MEMBERS", .int 1)] : List (Str × D)) ++ ([("AHEAD", .int 2), ("CLOCK", .int 3), ("HEADS", .int 4), ("BLOCKS", .int 5), ("LEASES", .int 6), ("PROMISE", .int 7), ("VOTED", .int 8), ("NEXT", .int 9), ("are_heads", .fn 16), ("is_named_head", .fn 17), ("are_blocks", .fn 18), ("are_leases", .fn 19), ("is_held", .fn 20), ("is_vote", .fn 21), ("is_ahead", .fn 22), ("is_kept", .fn 44), ("is_kept_tables", .fn 23), ("is_table", .fn 24), ("check_table", .fn 25), ("is_install", .fn 26), ("is_put", .fn 27), ("is_promise", .fn 28), ("is_seal", .fn 29), ("is_nothing", .fn 30), ("is_mend", .fn 31), ("raw_head", .fn 32), ("ids_led", .fn 33), ("raw_led", .fn 34), ("is_in_force", .fn 35), ("is_elder", .fn 36)] : List (Str × D)) ++ ([("HOME_letters", .str [104, 111, 109, 101]), ("HAND", .str [104, 97, 110, 100]), ("MOST_PLACES_letters", .int 64), ("are_ids", .fn 37), ("are_names", .fn 38), ("is_voted", .fn 39), ("are_counts", .fn 40), ("is_place_count", .fn 41), ("is_only_name", .fn 42), ("is_only_id", .fn 43), ("is_kept_letters", .fn 44), ("is_lacks", .fn 45), ("is_names", .fn 46), ("is_promised", .fn 47), ("is_carried", .fn 48), ("is_place", .fn 49), ("is_sums", .fn 50), ("is_values", .fn 51), ("is_roots", .fn 52), ("TO_HOMES", c_TO_HOMES), ("TO_HANDS", c_TO_HANDS), ("BETWEEN", c_BETWEEN), ("is_machine", .fn 53), ("is_word", .fn 54), ("is_letter", .fn 55), ("GREAT_PRIME", .int 618970019642690137449562111), ("inverse", .fn 56), ("trimmed", .fn 57), ("at_place", .fn 58), ("monic", .fn 59)] : List (Str × D)) ++ ([("parted", .fn 60), ("common", .fn 61), ("with_pivot", .fn 62), ("solved", .fn 63), ("MOST_PLACES_values", .int 64), ("MOST_NUMBERS", .int 200), ("raw_values", .fn 64), ("powers", .fn 65), ("equation", .fn 66), ("reduced", .fn 67), ("raw_roots", .fn 68), ("fit", .fn 69), ("raw_difference", .fn 70), ("raw_number_of", .fn 71), ("HOME_mending", .str [104, 111, 109, 101]), ("places_of", .fn 72), ("numbers_of", .fn 73), ("keeps", .fn 74), ("written", .fn 75), ("to_sums", .fn 76), ("to_values", .fn 77), ("wanted", .fn 78), ("led_by", .fn 79), ("to_roots", .fn 80), ("is_free", .fn 81), ("taken", .fn 82), ("mend_deeds", .fn 83), ("told_between", .fn 84), ("answer_between", .fn 85), ("piece_of", .fn 86)] : List (Str × D)) ++ ([("is_leased", .fn 87), ("lacking", .fn 88), ("only", .fn 89), ("done", .fn 90), ("to_install", .fn 91), ("to_later", .fn 92), ("to_sealed", .fn 93), ("to_ask", .fn 94), ("to_list", .fn 95), ("to_get", .fn 96), ("to_put", .fn 97), ("to_head", .fn 98), ("to_lease", .fn 99), ("to_free", .fn 100), ("to_prepare", .fn 101), ("to_accept", .fn 102), ("to_seal", .fn 103), ("WORDS", c_WORDS), ("told_to_hand", .fn 104), ("raw_answer", .fn 105), ("answer", .fn 106), ("_law_hat", .fn 107), ("_law_draw", .fn 108), ("_law_same", .fn 109), ("_law_name", .fn 110), ("_law_id", .fn 111), ("_law_piece", .fn 112), ("_law_stamp", .fn 113), ("_law_members", .fn 114), ("_law_row", .fn 115)] : List (Str × D)) ++ ([("_law_heads", .fn 116), ("_law_blocks", .fn 117), ("_law_leases", .fn 118), ("_law_table", .fn 119), ("_law_rest", .fn 120), ("_law_told", .fn 121), ("_law_one", .fn 122), ("law", .fn 123)] : List (Str × D))
def g : Cfg := ⟨gls,
  [("all", .all), ("any", .any), ("enumerate", .enum), ("int", .int), ("isinstance", .isinst), ("len", .len), ("list", .list), ("max", .max), ("range", .range), ("sorted", .sorted), ("tuple", .tuple), ("zip", .zip)], [("bool", "bool"), ("int", "int"), ("str", "str"), ("tuple", "tuple")], [1, 2, 3], 4, 124⟩
theorem bnd1_is_integer : Bnd d_is_integer := fun _ _ _ _ _ _ us hl => match us, hl with | [_], _ => rfl
theorem bnd3_is_between : Bnd d_is_between := fun _ _ _ _ _ _ us hl => match us, hl with | [_, _, _], _ => rfl
theorem bnd1_is_count : Bnd d_is_count := fun _ _ _ _ _ _ us hl => match us, hl with | [_], _ => rfl
theorem bnd2_is_tuple_of : Bnd d_is_tuple_of := fun _ _ _ _ _ _ us hl => match us, hl with | [_, _], _ => rfl
theorem bnd1_is_pair_of_numbers : Bnd d_is_pair_of_numbers := fun _ _ _ _ _ _ us hl => match us, hl with | [_], _ => rfl
theorem bnd1_are_ascending : Bnd d_are_ascending := fun _ _ _ _ _ _ us hl => match us, hl with | [_], _ => rfl
theorem bnd1_is_home : Bnd d_is_home := fun _ _ _ _ _ _ us hl => match us, hl with | [_], _ => rfl
theorem bnd1_is_hand : Bnd d_is_hand := fun _ _ _ _ _ _ us hl => match us, hl with | [_], _ => rfl
theorem bnd1_is_name : Bnd d_is_name := fun _ _ _ _ _ _ us hl => match us, hl with | [_], _ => rfl
theorem bnd3_are_signs : Bnd d_are_signs := fun _ _ _ _ _ _ us hl => match us, hl with | [_, _, _], _ => rfl
theorem bnd1_is_piece : Bnd d_is_piece := fun _ _ _ _ _ _ us hl => match us, hl with | [_], _ => rfl
theorem bnd1_is_id : Bnd d_is_id := fun _ _ _ _ _ _ us hl => match us, hl with | [_], _ => rfl
theorem bnd1_is_row : Bnd d_is_row := fun _ _ _ _ _ _ us hl => match us, hl with | [_], _ => rfl
theorem bnd1_is_stamp : Bnd d_is_stamp := fun _ _ _ _ _ _ us hl => match us, hl with | [_], _ => rfl
theorem bnd1_is_members : Bnd d_is_members := fun _ _ _ _ _ _ us hl => match us, hl with | [_], _ => rfl
theorem bnd1_ids_of : Bnd d_ids_of := fun _ _ _ _ _ _ us hl => match us, hl with | [_], _ => rfl
theorem bnd1_are_heads : Bnd d_are_heads := fun _ _ _ _ _ _ us hl => match us, hl with | [_], _ => rfl
theorem bnd1_is_named_head : Bnd d_is_named_head := fun _ _ _ _ _ _ us hl => match us, hl with | [_], _ => rfl
theorem bnd1_are_blocks : Bnd d_are_blocks := fun _ _ _ _ _ _ us hl => match us, hl with | [_], _ => rfl
theorem bnd1_are_leases : Bnd d_are_leases := fun _ _ _ _ _ _ us hl => match us, hl with | [_], _ => rfl
theorem bnd1_is_held : Bnd d_is_held := fun _ _ _ _ _ _ us hl => match us, hl with | [_], _ => rfl
theorem bnd1_is_vote : Bnd d_is_vote := fun _ _ _ _ _ _ us hl => match us, hl with | [_], _ => rfl
theorem bnd1_is_ahead : Bnd d_is_ahead := fun _ _ _ _ _ _ us hl => match us, hl with | [_], _ => rfl
theorem bnd1_is_kept_tables : Bnd d_is_kept_tables := fun _ _ _ _ _ _ us hl => match us, hl with | [_], _ => rfl
theorem bnd1_is_table : Bnd d_is_table := fun _ _ _ _ _ _ us hl => match us, hl with | [_], _ => rfl
theorem bnd1_check_table : Bnd d_check_table := fun _ _ _ _ _ _ us hl => match us, hl with | [_], _ => rfl
theorem bnd1_is_install : Bnd d_is_install := fun _ _ _ _ _ _ us hl => match us, hl with | [_], _ => rfl
theorem bnd1_is_put : Bnd d_is_put := fun _ _ _ _ _ _ us hl => match us, hl with | [_], _ => rfl
theorem bnd1_is_promise : Bnd d_is_promise := fun _ _ _ _ _ _ us hl => match us, hl with | [_], _ => rfl
theorem bnd1_is_seal : Bnd d_is_seal := fun _ _ _ _ _ _ us hl => match us, hl with | [_], _ => rfl
theorem bnd1_is_nothing : Bnd d_is_nothing := fun _ _ _ _ _ _ us hl => match us, hl with | [_], _ => rfl
theorem bnd1_is_mend : Bnd d_is_mend := fun _ _ _ _ _ _ us hl => match us, hl with | [_], _ => rfl
theorem bnd2_raw_head : Bnd d_raw_head := fun _ _ _ _ _ _ us hl => match us, hl with | [_, _], _ => rfl
theorem bnd1_ids_led : Bnd d_ids_led := fun _ _ _ _ _ _ us hl => match us, hl with | [_], _ => rfl
theorem bnd1_raw_led : Bnd d_raw_led := fun _ _ _ _ _ _ us hl => match us, hl with | [_], _ => rfl
theorem bnd2_is_in_force : Bnd d_is_in_force := fun _ _ _ _ _ _ us hl => match us, hl with | [_, _], _ => rfl
theorem bnd2_is_elder : Bnd d_is_elder := fun _ _ _ _ _ _ us hl => match us, hl with | [_, _], _ => rfl
theorem bnd1_are_ids : Bnd d_are_ids := fun _ _ _ _ _ _ us hl => match us, hl with | [_], _ => rfl
theorem bnd1_are_names : Bnd d_are_names := fun _ _ _ _ _ _ us hl => match us, hl with | [_], _ => rfl
theorem bnd1_is_voted : Bnd d_is_voted := fun _ _ _ _ _ _ us hl => match us, hl with | [_], _ => rfl
theorem bnd2_are_counts : Bnd d_are_counts := fun _ _ _ _ _ _ us hl => match us, hl with | [_, _], _ => rfl
theorem bnd1_is_place_count : Bnd d_is_place_count := fun _ _ _ _ _ _ us hl => match us, hl with | [_], _ => rfl
theorem bnd1_is_only_name : Bnd d_is_only_name := fun _ _ _ _ _ _ us hl => match us, hl with | [_], _ => rfl
theorem bnd1_is_only_id : Bnd d_is_only_id := fun _ _ _ _ _ _ us hl => match us, hl with | [_], _ => rfl
theorem bnd1_is_kept : Bnd d_is_kept := fun _ _ _ _ _ _ us hl => match us, hl with | [_], _ => rfl
theorem bnd1_is_lacks : Bnd d_is_lacks := fun _ _ _ _ _ _ us hl => match us, hl with | [_], _ => rfl
theorem bnd1_is_names : Bnd d_is_names := fun _ _ _ _ _ _ us hl => match us, hl with | [_], _ => rfl
theorem bnd1_is_promised : Bnd d_is_promised := fun _ _ _ _ _ _ us hl => match us, hl with | [_], _ => rfl
theorem bnd1_is_carried : Bnd d_is_carried := fun _ _ _ _ _ _ us hl => match us, hl with | [_], _ => rfl
theorem bnd1_is_place : Bnd d_is_place := fun _ _ _ _ _ _ us hl => match us, hl with | [_], _ => rfl
theorem bnd1_is_sums : Bnd d_is_sums := fun _ _ _ _ _ _ us hl => match us, hl with | [_], _ => rfl
theorem bnd1_is_values : Bnd d_is_values := fun _ _ _ _ _ _ us hl => match us, hl with | [_], _ => rfl
theorem bnd1_is_roots : Bnd d_is_roots := fun _ _ _ _ _ _ us hl => match us, hl with | [_], _ => rfl
theorem bnd1_is_machine : Bnd d_is_machine := fun _ _ _ _ _ _ us hl => match us, hl with | [_], _ => rfl
theorem bnd4_is_word : Bnd d_is_word := fun _ _ _ _ _ _ us hl => match us, hl with | [_, _, _, _], _ => rfl
theorem bnd1_is_letter : Bnd d_is_letter := fun _ _ _ _ _ _ us hl => match us, hl with | [_], _ => rfl
theorem bnd2_inverse : Bnd d_inverse := fun _ _ _ _ _ _ us hl => match us, hl with | [_, _], _ => rfl
theorem bnd1_trimmed : Bnd d_trimmed := fun _ _ _ _ _ _ us hl => match us, hl with | [_], _ => rfl
theorem bnd3_at_place : Bnd d_at_place := fun _ _ _ _ _ _ us hl => match us, hl with | [_, _, _], _ => rfl
theorem bnd2_monic : Bnd d_monic := fun _ _ _ _ _ _ us hl => match us, hl with | [_, _], _ => rfl
theorem bnd3_parted : Bnd d_parted := fun _ _ _ _ _ _ us hl => match us, hl with | [_, _, _], _ => rfl
theorem bnd3_common : Bnd d_common := fun _ _ _ _ _ _ us hl => match us, hl with | [_, _, _], _ => rfl
theorem bnd4_with_pivot : Bnd d_with_pivot := fun _ _ _ _ _ _ us hl => match us, hl with | [_, _, _, _], _ => rfl
theorem bnd3_solved : Bnd d_solved := fun _ _ _ _ _ _ us hl => match us, hl with | [_, _, _], _ => rfl
theorem bnd3_raw_values : Bnd d_raw_values := fun _ _ _ _ _ _ us hl => match us, hl with | [_, _, _], _ => rfl
theorem bnd3_powers : Bnd d_powers := fun _ _ _ _ _ _ us hl => match us, hl with | [_, _, _], _ => rfl
theorem bnd5_equation : Bnd d_equation := fun _ _ _ _ _ _ us hl => match us, hl with | [_, _, _, _, _], _ => rfl
theorem bnd4_reduced : Bnd d_reduced := fun _ _ _ _ _ _ us hl => match us, hl with | [_, _, _, _], _ => rfl
theorem bnd3_raw_roots : Bnd d_raw_roots := fun _ _ _ _ _ _ us hl => match us, hl with | [_, _, _], _ => rfl
theorem bnd5_fit : Bnd d_fit := fun _ _ _ _ _ _ us hl => match us, hl with | [_, _, _, _, _], _ => rfl
theorem bnd6_raw_difference : Bnd d_raw_difference := fun _ _ _ _ _ _ us hl => match us, hl with | [_, _, _, _, _, _], _ => rfl
theorem bnd2_raw_number_of : Bnd d_raw_number_of := fun _ _ _ _ _ _ us hl => match us, hl with | [_, _], _ => rfl
theorem bnd1_places_of : Bnd d_places_of := fun _ _ _ _ _ _ us hl => match us, hl with | [_], _ => rfl
theorem bnd1_numbers_of : Bnd d_numbers_of := fun _ _ _ _ _ _ us hl => match us, hl with | [_], _ => rfl
theorem bnd1_keeps : Bnd d_keeps := fun _ _ _ _ _ _ us hl => match us, hl with | [_], _ => rfl
theorem bnd4_written : Bnd d_written := fun _ _ _ _ _ _ us hl => match us, hl with | [_, _, _, _], _ => rfl
theorem bnd2_to_sums : Bnd d_to_sums := fun _ _ _ _ _ _ us hl => match us, hl with | [_, _], _ => rfl
theorem bnd2_to_values : Bnd d_to_values := fun _ _ _ _ _ _ us hl => match us, hl with | [_, _], _ => rfl
theorem bnd2_wanted : Bnd d_wanted := fun _ _ _ _ _ _ us hl => match us, hl with | [_, _], _ => rfl
theorem bnd2_led_by : Bnd d_led_by := fun _ _ _ _ _ _ us hl => match us, hl with | [_, _], _ => rfl
theorem bnd2_to_roots : Bnd d_to_roots := fun _ _ _ _ _ _ us hl => match us, hl with | [_, _], _ => rfl
theorem bnd2_is_free : Bnd d_is_free := fun _ _ _ _ _ _ us hl => match us, hl with | [_, _], _ => rfl
theorem bnd3_taken : Bnd d_taken := fun _ _ _ _ _ _ us hl => match us, hl with | [_, _, _], _ => rfl
theorem bnd2_mend_deeds : Bnd d_mend_deeds := fun _ _ _ _ _ _ us hl => match us, hl with | [_, _], _ => rfl
theorem bnd3_told_between : Bnd d_told_between := fun _ _ _ _ _ _ us hl => match us, hl with | [_, _, _], _ => rfl
theorem bnd3_answer_between : Bnd d_answer_between := fun _ _ _ _ _ _ us hl => match us, hl with | [_, _, _], _ => rfl
theorem bnd2_piece_of : Bnd d_piece_of := fun _ _ _ _ _ _ us hl => match us, hl with | [_, _], _ => rfl
theorem bnd3_is_leased : Bnd d_is_leased := fun _ _ _ _ _ _ us hl => match us, hl with | [_, _, _], _ => rfl
theorem bnd2_lacking : Bnd d_lacking := fun _ _ _ _ _ _ us hl => match us, hl with | [_, _], _ => rfl
theorem bnd2_only : Bnd d_only := fun _ _ _ _ _ _ us hl => match us, hl with | [_, _], _ => rfl
theorem bnd3_done : Bnd d_done := fun _ _ _ _ _ _ us hl => match us, hl with | [_, _, _], _ => rfl
theorem bnd2_to_install : Bnd d_to_install := fun _ _ _ _ _ _ us hl => match us, hl with | [_, _], _ => rfl
theorem bnd3_to_later : Bnd d_to_later := fun _ _ _ _ _ _ us hl => match us, hl with | [_, _, _], _ => rfl
theorem bnd3_to_sealed : Bnd d_to_sealed := fun _ _ _ _ _ _ us hl => match us, hl with | [_, _, _], _ => rfl
theorem bnd4_to_ask : Bnd d_to_ask := fun _ _ _ _ _ _ us hl => match us, hl with | [_, _, _, _], _ => rfl
theorem bnd4_to_list : Bnd d_to_list := fun _ _ _ _ _ _ us hl => match us, hl with | [_, _, _, _], _ => rfl
theorem bnd4_to_get : Bnd d_to_get := fun _ _ _ _ _ _ us hl => match us, hl with | [_, _, _, _], _ => rfl
theorem bnd4_to_put : Bnd d_to_put := fun _ _ _ _ _ _ us hl => match us, hl with | [_, _, _, _], _ => rfl
theorem bnd4_to_head : Bnd d_to_head := fun _ _ _ _ _ _ us hl => match us, hl with | [_, _, _, _], _ => rfl
theorem bnd4_to_lease : Bnd d_to_lease := fun _ _ _ _ _ _ us hl => match us, hl with | [_, _, _, _], _ => rfl
theorem bnd4_to_free : Bnd d_to_free := fun _ _ _ _ _ _ us hl => match us, hl with | [_, _, _, _], _ => rfl
theorem bnd4_to_prepare : Bnd d_to_prepare := fun _ _ _ _ _ _ us hl => match us, hl with | [_, _, _, _], _ => rfl
theorem bnd4_to_accept : Bnd d_to_accept := fun _ _ _ _ _ _ us hl => match us, hl with | [_, _, _, _], _ => rfl
theorem bnd4_to_seal : Bnd d_to_seal := fun _ _ _ _ _ _ us hl => match us, hl with | [_, _, _, _], _ => rfl
theorem bnd4_told_to_hand : Bnd d_told_to_hand := fun _ _ _ _ _ _ us hl => match us, hl with | [_, _, _, _], _ => rfl
theorem bnd3_raw_answer : Bnd d_raw_answer := fun _ _ _ _ _ _ us hl => match us, hl with | [_, _, _], _ => rfl
theorem bnd3_answer : Bnd d_answer := fun _ _ _ _ _ _ us hl => match us, hl with | [_, _, _], _ => rfl
theorem bnd2__law_hat : Bnd d__law_hat := fun _ _ _ _ _ _ us hl => match us, hl with | [_, _], _ => rfl
theorem bnd2__law_draw : Bnd d__law_draw := fun _ _ _ _ _ _ us hl => match us, hl with | [_, _], _ => rfl
theorem bnd2__law_same : Bnd d__law_same := fun _ _ _ _ _ _ us hl => match us, hl with | [_, _], _ => rfl
theorem bnd1__law_name : Bnd d__law_name := fun _ _ _ _ _ _ us hl => match us, hl with | [_], _ => rfl
theorem bnd1__law_id : Bnd d__law_id := fun _ _ _ _ _ _ us hl => match us, hl with | [_], _ => rfl
theorem bnd1__law_piece : Bnd d__law_piece := fun _ _ _ _ _ _ us hl => match us, hl with | [_], _ => rfl
theorem bnd1__law_stamp : Bnd d__law_stamp := fun _ _ _ _ _ _ us hl => match us, hl with | [_], _ => rfl
theorem bnd1__law_members : Bnd d__law_members := fun _ _ _ _ _ _ us hl => match us, hl with | [_], _ => rfl
theorem bnd2__law_row : Bnd d__law_row := fun _ _ _ _ _ _ us hl => match us, hl with | [_, _], _ => rfl
theorem bnd3__law_heads : Bnd d__law_heads := fun _ _ _ _ _ _ us hl => match us, hl with | [_, _, _], _ => rfl
theorem bnd2__law_blocks : Bnd d__law_blocks := fun _ _ _ _ _ _ us hl => match us, hl with | [_, _], _ => rfl
theorem bnd3__law_leases : Bnd d__law_leases := fun _ _ _ _ _ _ us hl => match us, hl with | [_, _, _], _ => rfl
theorem bnd3__law_table : Bnd d__law_table := fun _ _ _ _ _ _ us hl => match us, hl with | [_, _, _], _ => rfl
theorem bnd4__law_rest : Bnd d__law_rest := fun _ _ _ _ _ _ us hl => match us, hl with | [_, _, _, _], _ => rfl
theorem bnd3__law_told : Bnd d__law_told := fun _ _ _ _ _ _ us hl => match us, hl with | [_, _, _], _ => rfl
theorem bnd1__law_one : Bnd d__law_one := fun _ _ _ _ _ _ us hl => match us, hl with | [_], _ => rfl
theorem bnd1_law : Bnd d_law := fun _ _ _ _ _ _ us hl => match us, hl with | [_], _ => rfl
theorem bnds : Bnds ds := ⟨bnd1_is_integer, bnd3_is_between, bnd1_is_count, bnd2_is_tuple_of, bnd1_is_pair_of_numbers, bnd1_are_ascending, bnd1_is_home, bnd1_is_hand, bnd1_is_name, bnd3_are_signs, bnd1_is_piece, bnd1_is_id, bnd1_is_row, bnd1_is_stamp, bnd1_is_members, bnd1_ids_of, bnd1_are_heads, bnd1_is_named_head, bnd1_are_blocks, bnd1_are_leases, bnd1_is_held, bnd1_is_vote, bnd1_is_ahead, bnd1_is_kept_tables, bnd1_is_table, bnd1_check_table, bnd1_is_install, bnd1_is_put, bnd1_is_promise, bnd1_is_seal, bnd1_is_nothing, bnd1_is_mend, bnd2_raw_head, bnd1_ids_led, bnd1_raw_led, bnd2_is_in_force, bnd2_is_elder, bnd1_are_ids, bnd1_are_names, bnd1_is_voted, bnd2_are_counts, bnd1_is_place_count, bnd1_is_only_name, bnd1_is_only_id, bnd1_is_kept, bnd1_is_lacks, bnd1_is_names, bnd1_is_promised, bnd1_is_carried, bnd1_is_place, bnd1_is_sums, bnd1_is_values, bnd1_is_roots, bnd1_is_machine, bnd4_is_word, bnd1_is_letter, bnd2_inverse, bnd1_trimmed, bnd3_at_place, bnd2_monic, bnd3_parted, bnd3_common, bnd4_with_pivot, bnd3_solved, bnd3_raw_values, bnd3_powers, bnd5_equation, bnd4_reduced, bnd3_raw_roots, bnd5_fit, bnd6_raw_difference, bnd2_raw_number_of, bnd1_places_of, bnd1_numbers_of, bnd1_keeps, bnd4_written, bnd2_to_sums, bnd2_to_values, bnd2_wanted, bnd2_led_by, bnd2_to_roots, bnd2_is_free, bnd3_taken, bnd2_mend_deeds, bnd3_told_between, bnd3_answer_between, bnd2_piece_of, bnd3_is_leased, bnd2_lacking, bnd2_only, bnd3_done, bnd2_to_install, bnd3_to_later, bnd3_to_sealed, bnd4_to_ask, bnd4_to_list, bnd4_to_get, bnd4_to_put, bnd4_to_head, bnd4_to_lease, bnd4_to_free, bnd4_to_prepare, bnd4_to_accept, bnd4_to_seal, bnd4_told_to_hand, bnd3_raw_answer, bnd3_answer, bnd2__law_hat, bnd2__law_draw, bnd2__law_same, bnd1__law_name, bnd1__law_id, bnd1__law_piece, bnd1__law_stamp, bnd1__law_members, bnd2__law_row, bnd3__law_heads, bnd2__law_blocks, bnd3__law_leases, bnd3__law_table, bnd4__law_rest, bnd3__law_told, bnd1__law_one, bnd1_law, trivial⟩
theorem ck : ds.all (dfOk g) = true := by kernel_rfl
theorem glb : glB g ds cls = true := by kernel_rfl
abbrev R : PySem.W.OpenRow := PySem.W.OpenLaw.row PySem.Challenge.rw_homeshold_k10_reading_words
abbrev fa : List He.Fa := faOf g cls sub
abbrev fn : List He.DefD := fnsOf ds
abbrev ts : List He.Tab := tsOf g.gl
abbrev ex : PySem.W.Frag → Bool := exOf g ds cls
abbrev hk : PySem.W.Hook := He.hookX 2 fa fn ts [] ex
def ob (s : PySem.W.SharedT) : He.AlX := He.obsX 2 fa fn ts [] ex (HandSHeadRun.getT s)
theorem ob_eq (s : PySem.W.SharedT) : ob s = hk.obs s.abs := He.obsX_eq (HandSHeadRun.getT_eq s)
def loose : List Str := (["HomeError", "NoTable", "NoHomeNumber", "NoLetter", "is_integer", "is_between", "is_count", "is_tuple_of", "is_pair_of_numbers", "are_ascending", "MOST_HOMES", "MOST_HANDS", "MOST_IN_NAME", "MOST_IN_PIECE", "MOST_IN_ROW", "LETTERS", "FIRST_STAMP", "FIRST_HEAD", "is_home", "is_hand", "is_name", "are_signs", "is_piece", "is_id", "is_row", "is_stamp", "is_members", "ids_of", "EPOCH", "MEMBERS"] : List Str) ++ (["AHEAD", "CLOCK", "HEADS", "BLOCKS", "LEASES", "PROMISE", "VOTED", "NEXT", "are_heads", "is_named_head", "are_blocks", "are_leases", "is_held", "is_vote", "is_ahead", "is_kept", "is_kept_tables", "is_table", "check_table", "is_install", "is_put", "is_promise", "is_seal", "is_nothing", "is_mend", "raw_head", "ids_led", "raw_led", "is_in_force", "is_elder"] : List Str) ++ (["HOME_letters", "HAND", "MOST_PLACES_letters", "are_ids", "are_names", "is_voted", "are_counts", "is_place_count", "is_only_name", "is_only_id", "is_kept_letters", "is_lacks", "is_names", "is_promised", "is_carried", "is_place", "is_sums", "is_values", "is_roots", "TO_HOMES", "TO_HANDS", "BETWEEN", "is_machine", "is_word", "is_letter", "GREAT_PRIME", "inverse", "trimmed", "at_place", "monic"] : List Str) ++ (["parted", "common", "with_pivot", "solved", "MOST_PLACES_values", "MOST_NUMBERS", "raw_values", "powers", "equation", "reduced", "raw_roots", "fit", "raw_difference", "raw_number_of", "HOME_mending", "places_of", "numbers_of", "keeps", "written", "to_sums", "to_values", "wanted", "led_by", "to_roots", "is_free", "taken", "mend_deeds", "told_between", "answer_between", "piece_of"] : List Str) ++ (["is_leased", "lacking", "only", "done", "to_install", "to_later", "to_sealed", "to_ask", "to_list", "to_get", "to_put", "to_head", "to_lease", "to_free", "to_prepare", "to_accept", "to_seal", "WORDS", "told_to_hand", "raw_answer", "answer", "_law_hat", "_law_draw", "_law_same", "_law_name", "_law_id", "_law_piece", "_law_stamp", "_law_members", "_law_row"] : List Str) ++ (["_law_heads", "_law_blocks", "_law_leases", "_law_table", "_law_rest", "_law_told", "_law_one"] : List Str)
end K10
set_option Elab.async false
set_option linter.all false
set_option autoImplicit false
set_option maxRecDepth 1000000
set_option maxHeartbeats 0
namespace K10
open PySem PySem.Spec PyProof.Rows L2 Ev
theorem comb2 {α A B C : Type} {e : Option α} {f : α → A} {g : α → B} {o : α → C} {a : A} {b : B} {c : C} (h1 : e.map (fun s => (f s, g s)) = some (a, b)) (h2 : e.map o = some c) : e.map (fun s => (f s, g s, o s)) = some (a, b, c) := by
  cases e with
  | none => cases h1
  | some s =>
    have h1 := Option.some.inj h1
    have h2 := Option.some.inj h2
    obtain ⟨h3, h4⟩ := Prod.mk.inj h1
    show some (f s, g s, o s) = _
    rw [h3, h4, h2]
theorem comb5 {α B C : Type} {e : Option α} {f1 f2 f5 : α → Bool} {f3 : α → B} {f4 : α → C} {b : B} {c : C} (h1 : e.map f1 = some true) (h2 : e.map f2 = some true) (h3 : e.map f3 = some b) (h4 : e.map f4 = some c) (h5 : e.map f5 = some true) : e.map (fun s => ((((f1 s && f2 s), f3 s), f4 s), f5 s)) = some (((true, b), c), true) := by
  cases e with
  | none => cases h1
  | some s =>
    have h1 := Option.some.inj h1
    have h2 := Option.some.inj h2
    have h3 := Option.some.inj h3
    have h4 := Option.some.inj h4
    have h5 := Option.some.inj h5
    show some ((((f1 s && f2 s), f3 s), f4 s), f5 s) = _
    rw [h1, h2, h3, h4, h5]; rfl
theorem comb1 {α A B : Type} {e : Option α} {f : α → A} {g : α → B} {a : A} {b : B} (h1 : e.map f = some a) (h2 : e.map g = some b) : e.map (fun s => (f s, g s)) = some (a, b) := by
  cases e with
  | none => cases h1
  | some s =>
    have h1 := Option.some.inj h1
    have h2 := Option.some.inj h2
    show some (f s, g s) = _
    rw [h1, h2]
theorem comb14 {α A B : Type} {e : Option α} {f : α → A} {g : α → B} {a : A} {b : B} (h : e.map (fun s => (f s, g s)) = some (a, b)) : e.map f = some a ∧ e.map g = some b := by
  cases e with
  | none => cases h
  | some s =>
    obtain ⟨h1, h2⟩ := Prod.mk.inj (Option.some.inj h)
    exact ⟨congrArg some h1, congrArg some h2⟩
theorem combA {α β : Type} {e : Option α} {l : List β} {k : Nat} {p : α → β → Bool} (h1 : e.map (fun s => (l.take k).all (p s)) = some true) (h2 : e.map (fun s => (l.drop k).all (p s)) = some true) : e.map (fun s => l.all (p s)) = some true := by
  cases e with
  | none => cases h1
  | some s =>
    have h1 : (l.take k).all (p s) = true := Option.some.inj h1
    have h2 : (l.drop k).all (p s) = true := Option.some.inj h2
    show some (l.all (p s)) = some true
    have e : l.all (p s) = ((l.take k).all (p s) && (l.drop k).all (p s)) := by
      rw [← List.all_append, List.take_append_drop]
    rw [e, h1, h2]; rfl
def kk (s : PySem.W.SharedT) : PySem.W.Frag := He.frT (HandSHeadRun.getT s) (He.asD (HandSHeadRun.getT s) 2)
noncomputable abbrev EN (w : World) (os : OsState) := HandSHeadRun.endF (HandSHeadRun.stepQ (HandSHeadRun.denQ HandSHeadRun.tabQ) R.prog w) 200000 R.prog w os
theorem ra1_t (w : World) (os : OsState) : (EN (setB w true) os).map (fun s => HandSHeadRun.looksF R.prog (PySem.W.boot_heap (setB w true).params) s.abs) = some true := by
  kernel_rfl
theorem ra2_t (w : World) (os : OsState) : (EN (setB w true) os).map (fun s => HandSHeadRun.seenQ (PySem.W.view R.prog [168]) loose (importedModules R.prog.main.body) (fun s => PySem.W.xlAt (PySem.W.view R.prog [168]) [] s && PySem.W.recOk R.records s) s.abs) = some (PySem.W.openGood (PySem.W.view R.prog [168]) loose) := by
  kernel_rfl
theorem ra_t (w : World) (os : OsState) : (EN (setB w true) os).map (fun s => (HandSHeadRun.looksF R.prog (PySem.W.boot_heap (setB w true).params) s.abs, HandSHeadRun.seenQ (PySem.W.view R.prog [168]) loose (importedModules R.prog.main.body) (fun s => PySem.W.xlAt (PySem.W.view R.prog [168]) [] s && PySem.W.recOk R.records s) s.abs)) = some (true, PySem.W.openGood (PySem.W.view R.prog [168]) loose) := comb1 (ra1_t w os) (ra2_t w os)
theorem rb14_t (w : World) (os : OsState) : (EN (setB w true) os).map (fun s => (fa.all fun f => f.ok (kk s), ts.map fun t => He.dicW (kk s) (t.1 (kk s)))) = some (true, (He.valT fn ts (setB w true)).2) := by
  kernel_rfl
theorem rb2a_t (w : World) (os : OsState) : (EN (setB w true) os).map (fun s => (fn.take 62).all fun d => d.ok (kk s)) = some true := by
  kernel_rfl
theorem rb2b_t (w : World) (os : OsState) : (EN (setB w true) os).map (fun s => (fn.drop 62).all fun d => d.ok (kk s)) = some true := by
  kernel_rfl
theorem rb3_t (w : World) (os : OsState) : (EN (setB w true) os).map (fun s => fn.map fun d => He.fnW (kk s) d.at_) = some (He.valD fn).2 := by
  kernel_rfl
theorem rb5_t (w : World) (os : OsState) : (EN (setB w true) os).map (fun s => ex (kk s) && He.tabsB (HandSHeadRun.getT s) [] (kk s)) = some true := by
  kernel_rfl
theorem rb_t (w : World) (os : OsState) : (EN (setB w true) os).map ob = some (hk.val (setB w true)) := comb5 (comb14 (rb14_t w os)).1 (combA (rb2a_t w os) (rb2b_t w os)) (rb3_t w os) (comb14 (rb14_t w os)).2 (rb5_t w os)
theorem ra1_f (w : World) (os : OsState) : (EN (setB w false) os).map (fun s => HandSHeadRun.looksF R.prog (PySem.W.boot_heap (setB w false).params) s.abs) = some true := by
  kernel_rfl
theorem ra2_f (w : World) (os : OsState) : (EN (setB w false) os).map (fun s => HandSHeadRun.seenQ (PySem.W.view R.prog [168]) loose (importedModules R.prog.main.body) (fun s => PySem.W.xlAt (PySem.W.view R.prog [168]) [] s && PySem.W.recOk R.records s) s.abs) = some (PySem.W.openGood (PySem.W.view R.prog [168]) loose) := by
  kernel_rfl
theorem ra_f (w : World) (os : OsState) : (EN (setB w false) os).map (fun s => (HandSHeadRun.looksF R.prog (PySem.W.boot_heap (setB w false).params) s.abs, HandSHeadRun.seenQ (PySem.W.view R.prog [168]) loose (importedModules R.prog.main.body) (fun s => PySem.W.xlAt (PySem.W.view R.prog [168]) [] s && PySem.W.recOk R.records s) s.abs)) = some (true, PySem.W.openGood (PySem.W.view R.prog [168]) loose) := comb1 (ra1_f w os) (ra2_f w os)
theorem rb14_f (w : World) (os : OsState) : (EN (setB w false) os).map (fun s => (fa.all fun f => f.ok (kk s), ts.map fun t => He.dicW (kk s) (t.1 (kk s)))) = some (true, (He.valT fn ts (setB w false)).2) := by
  kernel_rfl
theorem rb2a_f (w : World) (os : OsState) : (EN (setB w false) os).map (fun s => (fn.take 62).all fun d => d.ok (kk s)) = some true := by
  kernel_rfl
theorem rb2b_f (w : World) (os : OsState) : (EN (setB w false) os).map (fun s => (fn.drop 62).all fun d => d.ok (kk s)) = some true := by
  kernel_rfl
theorem rb3_f (w : World) (os : OsState) : (EN (setB w false) os).map (fun s => fn.map fun d => He.fnW (kk s) d.at_) = some (He.valD fn).2 := by
  kernel_rfl
theorem rb5_f (w : World) (os : OsState) : (EN (setB w false) os).map (fun s => ex (kk s) && He.tabsB (HandSHeadRun.getT s) [] (kk s)) = some true := by
  kernel_rfl
theorem rb_f (w : World) (os : OsState) : (EN (setB w false) os).map ob = some (hk.val (setB w false)) := comb5 (comb14 (rb14_f w os)).1 (combA (rb2a_f w os) (rb2b_f w os)) (rb3_f w os) (comb14 (rb14_f w os)).2 (rb5_f w os)
theorem run_t (w : World) : HandSHeadRun.RunEq R (PySem.W.view R.prog [168]) hk ob 200000 loose (setB w true) := fun os => comb2 (ra_t w os) (rb_t w os)
theorem run_f (w : World) : HandSHeadRun.RunEq R (PySem.W.view R.prog [168]) hk ob 200000 loose (setB w false) := fun os => comb2 (ra_f w os) (rb_f w os)
theorem run (w : World) : HandSHeadRun.RunEq R (PySem.W.view R.prog [168]) hk ob 200000 loose w := run_of (fun w b => match b with | true => run_t w | false => run_f w) w
end K10
set_option Elab.async false
set_option linter.all false
set_option autoImplicit false
set_option maxRecDepth 1000000
set_option maxHeartbeats 0
open PySem PySem.W PySem.Calls PyProof.Rows
theorem PySem.Challenge.cw_homeshold_k10_reading_words_holds : PySem.Challenge.rw_homeshold_k10_reading_words.Holds := by
  w_on; o_law
  refine HandSHeadRun.head_any (r := OpenLaw.row PySem.Challenge.rw_homeshold_k10_reading_words) (q := view (OpenLaw.row PySem.Challenge.rw_homeshold_k10_reading_words).prog [168]) (H := K10.hk) (ob := K10.ob) (M := 200000) (loose := K10.loose) (d := HandSHeadRun.topDef (OpenLaw.row PySem.Challenge.rw_homeshold_k10_reading_words).prog 168) (kwd := []) K10.ob_eq
    (by kernel_rfl) (fun s => by kernel_rfl) K10.run (by kernel_rfl) (by kernel_rfl) (by kernel_rfl) (by rfl) (by first | assumption | decide +kernel) (by decide +kernel) ⟨rfl, rfl, rfl, rfl, rfl, by decide +kernel⟩ ?hw ?hc
  case hw => w_witness2
  case hc =>
    refine L2.walk_ofE (l := PySem.Challenge.rw_homeshold_k10_reading_words) (n := 63) (k := 40) (x := "_law_script") (CX := Ev.CXe (PySem.Challenge.rw_homeshold_k10_reading_words).prog) rfl (by decide) (by kernel_rfl) ⟨rfl, by decide, by decide⟩ ?F (Ev.cxe0 (PySem.Challenge.rw_homeshold_k10_reading_words).prog)
    intro w mg fa h Y G hmg0
    obtain ⟨K, KX, c⟩ := Y
    have hmg : mg ("law" : PySem.Str) = some (.ref fa) := by
      have e : (HandSHeadRun.topDef (OpenLaw.row PySem.Challenge.rw_homeshold_k10_reading_words).prog 168).name = ("law" : PySem.Str) := by kernel_rfl
      rw [← e]
      exact hmg0
    obtain ⟨fd, hb, hF⟩ := Ev.law_facts (n := 40) (il := 123) (dl := K10.d_law) (x := "_law_script") K10.Γ_eq (P := (PySem.Challenge.rw_homeshold_k10_reading_words).prog) (w := w) KX G hmg c K10.glb K10.ck K10.bnds rfl rfl rfl
    exact ⟨K, fd, _, KX, hb, fun H a ns hl _ hS => Ev.law_sp hS hl (K10.plain ns hl), hF⟩
