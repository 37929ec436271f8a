import PyProof.Rows.All
import Wide.All
import OpenK.AllK
import Wide.FinOn
import HandS.ForMost
import HandS.ForExc
import HandS.Deep
import HandS.Small
import HandS.CallSlots
import HandS.IsInst
import HandS.TupAny
import HandS.TupLe
import HandS.Wide
import HandS.Defaults
import HandS.TryMany
import HandS.Zip
import HandS.Conv
import KE.SortData
import HandS.Head0
import HandS.Head1
import HandS.Head2
import HandS.HeadEnd
import HandS.HeadHook1
import HandS.HeadHook2
import HandS.Words
import PySem.Challenge.RW_homeshold_k02_whole_texts_chopped_and_jo
set_option autoImplicit false
set_option maxRecDepth 100000
namespace Ev
inductive D where
  | non | bl (b : Bool) | int (i : Int) | str (x : List Nat)
  | tup (xs : List D) | lst (xs : List D) | dct (kvs : List (D × D)) | itr (xs : List D)
  | obj (k : Nat) | fn (f : Nat) | cl (c : Nat) | ty (n : String) | scr (xs : List D)
  deriving Inhabited
structure Xc where
  cls : Nat
  args : List D
inductive MO where
  | val (d : D) | ins (c : Nat) (fs : List (Nat × D))
  deriving Inhabited
abbrev Sto := List MO
abbrev Env := List (Option D)
inductive R (α : Type) where
  | ok (a : α) | exc (e : Xc) (M : Sto) | bad
def R.bind {α β : Type} (r : R α) (f : α → R β) : R β := match r with
  | .ok a => f a
  | .exc e M => .exc e M
  | .bad => .bad
theorem R.bind_ok {α β : Type} (a : α) (f : α → R β) : (R.ok a).bind f = f a := rfl
theorem R.bind_exc {α β : Type} (e : Xc) (M : Sto) (f : α → R β) : (R.exc e M : R α).bind f = .exc e M := rfl
theorem R.bind_bad {α β : Type} (f : α → R β) : (R.bad : R α).bind f = .bad := rfl
theorem R.bind_assoc {α β γ : Type} (r : R α) (f : α → R β) (g : β → R γ) : (r.bind f).bind g = r.bind fun a => (f a).bind g := by
  cases r <;> rfl
def R.of {α : Type} : Option α → R α
  | some a => .ok a
  | none => .bad
theorem R.of_some {α : Type} (a : α) : R.of (some a) = .ok a := rfl
theorem R.of_none {α : Type} : R.of (none : Option α) = .bad := rfl
def R.sat {α : Type} (r : R α) (P : α → Prop) (X : Xc → Sto → Prop) : Prop := match r with
  | .ok a => P a
  | .exc e M => X e M
  | .bad => False
theorem R.sat_ok {α : Type} (a : α) (P : α → Prop) (X : Xc → Sto → Prop) : (R.ok a).sat P X = P a := rfl
theorem R.sat_exc {α : Type} (e : Xc) (M : Sto) (P : α → Prop) (X : Xc → Sto → Prop) : (R.exc e M).sat P X = X e M := rfl
theorem R.sat_bad {α : Type} (P : α → Prop) (X : Xc → Sto → Prop) : (R.bad : R α).sat P X = False := rfl
theorem R.sat_bind {α β : Type} (r : R α) (f : α → R β) (P : β → Prop) (X : Xc → Sto → Prop) : (r.bind f).sat P X = r.sat (fun a => (f a).sat P X) X := by
  cases r <;> rfl
theorem R.sat_mono {α : Type} {r : R α} {P P' : α → Prop} {X X' : Xc → Sto → Prop} (h : r.sat P X) (hp : ∀ a, P a → P' a) (hx : ∀ e M, X e M → X' e M) : r.sat P' X' := by
  cases r with
  | ok a => exact hp a h
  | exc e M => exact hx e M h
  | bad => exact h
def SZ : Nat := 16777216
mutual
def deq : D → D → Bool
  | .non, .non => true
  | .bl a, .bl b => a == b
  | .bl a, .int j => (if a then 1 else 0) == j
  | .int i, .bl b => i == (if b then 1 else 0)
  | .int i, .int j => i == j
  | .str x, .str y => x == y
  | .lst xs, .lst ys => deqs xs ys
  | .tup xs, .tup ys => deqs xs ys
  | _, _ => false
def deqs : List D → List D → Bool
  | [], [] => true
  | x :: xs, y :: ys => deq x y && deqs xs ys
  | _, _ => false
end
mutual
def plain : D → Bool
  | .non => true
  | .bl _ => true
  | .int _ => true
  | .str _ => true
  | .tup xs => plains xs
  | .lst xs => plains xs
  | _ => false
def plains : List D → Bool
  | [] => true
  | x :: xs => plain x && plains xs
end
mutual
def depth : D → Nat
  | .tup xs => depths xs + 1
  | .lst xs => depths xs + 1
  | _ => 0
def depths : List D → Nat
  | [] => 0
  | x :: xs => max (depth x) (depths xs)
end
mutual
def alike : D → D → Bool
  | .non, .non => true
  | .bl _, .bl _ => true
  | .int _, .int _ => true
  | .str _, .str _ => true
  | .lst xs, .lst ys => alikes xs ys
  | .tup xs, .tup ys => alikes xs ys
  | _, _ => false
def alikes : List D → List D → Bool
  | x :: xs, y :: ys => alike x y && alikes xs ys
  | [], _ => true
  | _ :: _, [] => true
end
def slt : List Nat → List Nat → Bool
  | [], [] => false
  | [], _ :: _ => true
  | _ :: _, [] => false
  | x :: xs, y :: ys => if x == y then slt xs ys else decide (x < y)
mutual
def dlt : D → D → Bool
  | .bl a, .bl b => !a && b
  | .int i, .int j => decide (i < j)
  | .str x, .str y => slt x y
  | .lst xs, .lst ys => dlts xs ys
  | .tup xs, .tup ys => dlts xs ys
  | _, _ => false
def dlts : List D → List D → Bool
  | [], [] => false
  | [], _ :: _ => true
  | _ :: _, [] => false
  | x :: xs, y :: ys => if deq x y then dlts xs ys else dlt x y
end
def eqOk (a b : D) : Bool := plain a && plain b && (decide (depth a ≤ 64) || decide (depth b ≤ 64))
def ltOk (a b : D) : Bool := plain a && plain b && alike a b && (decide (depth a ≤ 64) || decide (depth b ≤ 64)) && (match a with | .non => false | _ => true)
inductive BO | add | sub | mul | fdiv | mod | pow | shl | shr
  deriving DecidableEq
inductive CO | eq | ne | lt | le | gt | ge | isin | notin | is | isnt
  deriving DecidableEq
def mulOk (i j : Int) : Bool := (decide (i.natAbs < 2 ^ 64) || decide (j.natAbs < 2 ^ 64)) || decide (i.natAbs.log2 + j.natAbs.log2 < 1000000)
def divOk (j : Int) : Bool := decide (0 < j) && decide (j.natAbs.log2 < 9000)
def powOk (i j : Int) : Bool := decide (0 ≤ j) && decide (j ≤ 1000000) && decide (i.natAbs < 2 ^ 64)
def binD : BO → D → D → Option D
  | .add, .int i, .int j => some (.int (i + j))
  | .add, .str x, .str y => if x.length + y.length ≤ SZ then some (.str (x ++ y)) else none
  | .add, .tup x, .tup y => if x.length + y.length ≤ SZ then some (.tup (x ++ y)) else none
  | .add, .lst x, .lst y => if x.length + y.length ≤ SZ then some (.lst (x ++ y)) else none
  | .sub, .int i, .int j => some (.int (i - j))
  | .mul, .int i, .int j => if mulOk i j then some (.int (i * j)) else none
  | .mul, .lst x, .int j => if x.length * j.toNat ≤ SZ && decide (-(2 ^ 63) ≤ j) && decide (j < 2 ^ 63) then some (.lst (List.replicate j.toNat x).flatten) else none
  | .fdiv, .int i, .int j => if divOk j then some (.int (i / j)) else none
  | .mod, .int i, .int j => if decide (0 < j) then some (.int (i % j)) else none
  | .pow, .int i, .int j => if powOk i j then some (.int (i ^ j.toNat)) else none
  | .shr, .int i, .int j => if decide (0 ≤ j) then some (.int (i / 2 ^ j.toNat)) else none
  | _, _, _ => none
def occurs (x : List Nat) : List Nat → Bool
  | [] => x.isEmpty
  | c :: r => x.isPrefixOf (c :: r) || occurs x r
def isD : D → D → Option Bool
  | .non, .non => some true
  | _, .non => some false
  | .bl a, .bl b => some (a == b)
  | _, .bl _ => none
  | _, _ => none
def keyFind (kvs : List (D × D)) (k : D) : Option D := match kvs with
  | [] => none
  | (x, v) :: r => if deq x k then some v else keyFind r k
def inD (a : D) : D → Option Bool
  | .str y => (match a with
    | .str [c] => some (decide (c ∈ y))
    | _ => none)
  | .lst ys => if eqOk a (.lst ys) then some (ys.any fun y => deq y a) else none
  | .tup ys => if eqOk a (.tup ys) then some (ys.any fun y => deq y a) else none
  | .dct kvs => some (keyFind kvs a).isSome
  | _ => none
def isSc : D → Bool
  | .int _ => true
  | .str _ => true
  | _ => false
def cmpD : CO → D → D → Option Bool
  | .eq, a, b => if eqOk a b then some (deq a b) else none
  | .ne, a, b => if eqOk a b then some (!deq a b) else none
  | .lt, a, b => if ltOk a b then some (dlt a b) else none
  | .gt, a, b => if ltOk b a && isSc b then some (dlt b a) else none
  | .le, a, b => if ltOk b a && isSc b then some (!dlt b a) else none
  | .ge, a, b => if ltOk a b && isSc a then some (!dlt a b) else none
  | .isin, a, b => inD a b
  | .notin, a, b => (inD a b).map (!·)
  | .is, a, b => isD a b
  | .isnt, a, b => (isD a b).map (!·)
def truth : D → Option Bool
  | .bl b => some b
  | _ => none
def ixN (n : Nat) (i : Int) : Option Nat := if 0 ≤ i then (if i < n then some i.toNat else none) else if -(n : Int) ≤ i then some (i + n).toNat else none
def atI {α : Type} (xs : List α) (i : Int) : Option α := (ixN xs.length i).bind fun j => xs[j]?
def subD : D → D → Option D
  | .str x, .int i => (atI x i).map fun c => .str [c]
  | .tup xs, .int i => atI xs i
  | .lst xs, .int i => atI xs i
  | .dct kvs, k => keyFind kvs k
  | _, _ => none
def sIx (n d : Nat) : Option Int → Nat
  | none => d
  | some v => if v < 0 then (v + (n : Int)).toNat else min v.toNat n
def cut {α : Type} (xs : List α) (lo hi : Option Int) : List α := (xs.drop (sIx xs.length 0 lo)).take (sIx xs.length xs.length hi - sIx xs.length 0 lo)
def bnd : Bool → D → Option (Option Int)
  | true, .non => some none
  | false, .int i => some (some i)
  | _, _ => none
def slcD : D → Option Int → Option Int → Option D
  | .str x, lo, hi => some (.str (cut x lo hi))
  | .tup x, lo, hi => some (.tup (cut x lo hi))
  | .lst x, lo, hi => some (.lst (cut x lo hi))
  | .scr x, lo, hi => some (.lst (cut x lo hi))
  | _, _, _ => none
inductive Bi | len | isinst | tuple | list | all | any | sorted | sum | min | max | abs | int | str | range | enum | zip
  deriving DecidableEq
inductive Me | join | items | keys | values | get
  deriving DecidableEq
def tyName : D → Option String
  | .non => some "NoneType"
  | .bl _ => some "bool"
  | .int _ => some "int"
  | .str _ => some "str"
  | .tup _ => some "tuple"
  | .lst _ => some "list"
  | .dct _ => some "dict"
  | .scr _ => some "list"
  | _ => none
def isTy (t n : String) : Bool := t == n || (t == "bool" && n == "int")
def tyKnown (n : String) : Bool := ["int", "bool", "str", "tuple", "list", "dict"].contains n
def boolsD : List D → Option (List Bool)
  | [] => some []
  | .bl b :: r => (boolsD r).map (b :: ·)
  | _ :: _ => none
def intsD : List D → Option (List Int)
  | [] => some []
  | .int b :: r => (intsD r).map (b :: ·)
  | _ :: _ => none
def strsD : List D → Option (List (List Nat))
  | [] => some []
  | .str b :: r => (strsD r).map (b :: ·)
  | _ :: _ => none
def dle (a b : D) : Bool := !dlt b a
def sortOk (ds : List D) : Bool := (ds.all fun a => plain a && decide (depth a ≤ 64) && ds.all fun b => alike a b) &&
  ((ds.all fun a => match a with | .tup (_ :: _) => true | _ => false) || ds.all fun a => match a with | .tup _ => false | .non => false | _ => true)
def gluei (sep : List Nat) : List (List Nat) → List Nat
  | [] => []
  | [x] => x
  | x :: y :: r => x ++ (sep ++ gluei sep (y :: r))
def intsFrom (a : Int) (c : Int) : Nat → List D
  | 0 => []
  | n + 1 => .int a :: intsFrom (a + c) c n
def enumFrom (k : Int) : List D → List D
  | [] => []
  | x :: r => .tup [.int k, x] :: enumFrom (k + 1) r
def itemsOf : D → Option (List D)
  | .tup xs => some xs
  | .lst xs => some xs
  | .itr xs => some xs
  | .scr xs => some xs
  | .str x => some (x.map fun c => .str [c])
  | .dct kvs => some (kvs.map (·.1))
  | _ => none
def seqOf : D → Option (List D)
  | .tup xs => some xs
  | .lst xs => some xs
  | _ => none
def listOf : D → Option (List D)
  | .tup xs => some xs
  | .lst xs => some xs
  | .scr xs => some xs
  | _ => none
def zip2 : List D → List D → List D
  | x :: xs, y :: ys => .tup [x, y] :: zip2 xs ys
  | _, _ => []
def zip3 : List D → List D → List D → List D
  | x :: xs, y :: ys, z :: zs => .tup [x, y, z] :: zip3 xs ys zs
  | _, _, _ => []
def maxI (a : Int) : List Int → Int
  | [] => a
  | b :: r => maxI (if b > a then b else a) r
def minI (a : Int) : List Int → Int
  | [] => a
  | b :: r => minI (if b < a then b else a) r
def okRange (i : Int) : Bool := decide (-(2 ^ 62) ≤ i) && decide (i < 2 ^ 62)
def okStep (c : Int) : Bool := (decide (0 < c) && decide (c < 2 ^ 30)) || decide (c = -1)
def stepN (i j c : Int) : Nat := if 0 < c then (if i < j then ((j - i - 1) / c + 1).toNat else 0) else (i - j).toNat
def biD : Bi → List D → Option D
  | .len, [.str x] => some (.int x.length)
  | .len, [.tup x] => some (.int x.length)
  | .len, [.lst x] => some (.int x.length)
  | .len, [.scr x] => some (.int x.length)
  | .len, [.dct x] => some (.int x.length)
  | .isinst, [a, .ty n] => if tyKnown n then (tyName a).map fun t => .bl (isTy t n) else none
  | .tuple, [a] => (listOf a).map .tup
  | .list, [a] => (listOf a).map .lst
  | .all, [.lst xs] => (boolsD xs).map fun bs => .bl (bs.all id)
  | .any, [.lst xs] => (boolsD xs).map fun bs => .bl (bs.any id)
  | .sorted, [.lst xs] => if sortOk xs then some (.lst (xs.mergeSort dle)) else none
  | .sum, [.lst xs] => (intsD xs).map fun is => .int is.sum
  | .max, [.lst xs] => (intsD xs).bind fun is => match is with
    | [] => none
    | a :: r => some (.int (maxI a r))
  | .min, [.lst xs] => (intsD xs).bind fun is => match is with
    | [] => none
    | a :: r => some (.int (minI a r))
  | .max, [.int i, .int j] => some (.int (if j > i then j else i))
  | .min, [.int i, .int j] => some (.int (if j < i then j else i))
  | .abs, [.int i] => some (.int (if i < 0 then -i else i))
  | .int, [.int i] => some (.int i)
  | .int, [.bl b] => some (.int (if b then 1 else 0))
  | .range, [.int j] => if okRange j then some (.itr (intsFrom 0 1 j.toNat)) else none
  | .range, [.int i, .int j] => if okRange i && okRange j then some (.itr (intsFrom i 1 (j - i).toNat)) else none
  | .range, [.int i, .int j, .int c] => if okRange i && okRange j && okStep c then some (.itr (intsFrom i c (stepN i j c))) else none
  | .enum, [a] => (seqOf a).map fun xs => .itr (enumFrom 0 xs)
  | .zip, [a, b] => (seqOf a).bind fun xs => (seqOf b).map fun ys => .itr (zip2 xs ys)
  | .zip, [a, b, c] => (seqOf a).bind fun xs => (seqOf b).bind fun ys => (seqOf c).map fun zs => .itr (zip3 xs ys zs)
  | _, _ => none
def meD : Me → D → List D → Option D
  | .join, .str s, [.lst xs] => (strsD xs).bind fun ys => if (ys.map List.length).sum + ys.length * s.length ≤ SZ then some (.str (gluei s ys)) else none
  | .join, .str s, [.tup xs] => (strsD xs).bind fun ys => if (ys.map List.length).sum + ys.length * s.length ≤ SZ then some (.str (gluei s ys)) else none
  | .items, .dct kvs, [] => some (.itr (kvs.map fun p => .tup [p.1, p.2]))
  | .keys, .dct kvs, [] => some (.itr (kvs.map (·.1)))
  | .values, .dct kvs, [] => some (.itr (kvs.map (·.2)))
  | .get, .dct kvs, [k] => some ((keyFind kvs k).getD .non)
  | .get, .dct kvs, [k, d] => some ((keyFind kvs k).getD d)
  | _, _, _ => none
inductive Mu | append | extend | pop | popAt | put
  deriving DecidableEq
def keyPut (kvs : List (D × D)) (k v : D) : List (D × D) := match kvs with
  | [] => [(k, v)]
  | (x, w) :: r => if deq x k then (x, v) :: r else (x, w) :: keyPut r k v
def muD : Mu → D → List D → Option (D × D)
  | .append, .lst xs, [a] => if xs.length < SZ then some (.non, .lst (xs ++ [a])) else none
  | .extend, .lst xs, [.lst ys] => if xs.length + ys.length ≤ SZ then some (.non, .lst (xs ++ ys)) else none
  | .pop, .lst xs, [] => (xs.getLast?).map fun y => (y, .lst xs.dropLast)
  | .popAt, .lst xs, [.int i] => (ixN xs.length i).bind fun k => (xs[k]?).map fun y => (y, .lst (xs.eraseIdx k))
  | .put, .lst xs, [.int i, v] => (ixN xs.length i).map fun k => (.non, .lst (xs.set k v))
  | .put, .dct kvs, [k, v] => if kvs.length < SZ then some (.non, .dct (keyPut kvs k v)) else none
  | _, _, _ => none
inductive Tg where
  | one (i : Nat) | tup (is : List Nat)
inductive E where
  | var (i : Nat) | bor (i : Nat) | con (d : D) | neg (a : E)
  | bin (o : BO) (a b : E) | cmp (o : CO) (a b : E) | chain (o o' : CO) (a b c : E)
  | and (a b : E) | or (a b : E) | not (a : E) | ite (c a b : E)
  | join (a b : E)
  | call (f : Nat) (as : List E) | callv (f : E) (as : List E) | bi (b : Bi) (as : List E) | me (m : Me) (a : E) (as : List E)
  | mu (m : Mu) (a : E) (as : List E)
  | tup (as : List E) | lst (as : List E) | dct (ks vs : List E)
  | sub (a i : E) | slc (a lo hi : E)
  | comp (e : E) (t : Tg) (it : E) (cs : List E) | dcomp (k v : E) (t : Tg) (it : E)
  | alloc (a : E) | dead
def isNon : E → Bool
  | .con .non => true
  | _ => false
inductive S where
  | set (i : Nat) (e : E) | own (i : Nat) (e : E) | unp (is : List Nat) (e : E) | par (is : List Nat) (es : List E)
  | aug (i : Nat) (o : BO) (e : E) | ex (e : E) | omu (m : Mu) (i : Nat) (as : List E) | osm (j : Nat) (m : Mu) (i : Nat) (as : List E)
  | ret (e : E) | reto (i : Nat) | retn | ite (c : E) (a b : List S) | whl (c : E) (b : List S) | for (t : Tg) (it : E) (b : List S)
  | sto (o ix v : E) | oput (i : Nat) (ix v : E) | dead
  | brk | cnt | pass | raise (c : Nat) (as : List E) | try (b : List S) (c : Nat) (h : List S) (c2 : Option Nat) (h2 : List S)
inductive Fl where
  | nx | bk | ct | rt (d : D)
inductive RS where
  | ok (f : Fl) (ρ : Env) (M : Sto) | exc (e : Xc) (ρ : Env) (M : Sto) | bad
def R.toS {α : Type} (r : R α) (ρ : Env) (f : α → RS) : RS := match r with
  | .ok a => f a
  | .exc e M => .exc e ρ M
  | .bad => .bad
theorem R.toS_ok {α : Type} (a : α) (ρ : Env) (f : α → RS) : (R.ok a).toS ρ f = f a := rfl
theorem R.toS_exc {α : Type} (e : Xc) (M : Sto) (ρ : Env) (f : α → RS) : (R.exc e M : R α).toS ρ f = .exc e ρ M := rfl
theorem R.toS_bad {α : Type} (ρ : Env) (f : α → RS) : (R.bad : R α).toS ρ f = .bad := rfl
def RS.then (r : RS) (f : Env → Sto → RS) : RS := match r with
  | .ok .nx ρ M => f ρ M
  | r => r
theorem RS.then_nx (ρ : Env) (M : Sto) (f : Env → Sto → RS) : (RS.ok .nx ρ M).then f = f ρ M := rfl
theorem RS.then_rt (d : D) (ρ : Env) (M : Sto) (f : Env → Sto → RS) : (RS.ok (.rt d) ρ M).then f = .ok (.rt d) ρ M := rfl
theorem RS.then_bk (ρ : Env) (M : Sto) (f : Env → Sto → RS) : (RS.ok .bk ρ M).then f = .ok .bk ρ M := rfl
theorem RS.then_ct (ρ : Env) (M : Sto) (f : Env → Sto → RS) : (RS.ok .ct ρ M).then f = .ok .ct ρ M := rfl
theorem RS.then_exc (e : Xc) (ρ : Env) (M : Sto) (f : Env → Sto → RS) : (RS.exc e ρ M).then f = .exc e ρ M := rfl
theorem RS.then_bad (f : Env → Sto → RS) : RS.bad.then f = .bad := rfl
def nrm (M : Sto) : D → D
  | .obj k => (match M[k]? with
    | some (.val d) => d
    | _ => .obj k)
  | d => d
def get (ρ : Env) (i : Nat) : Option D := (ρ[i]?).bind id
def put (ρ : Env) (i : Nat) (d : D) : Env := ρ.set i (some d)
def puts : Env → List Nat → List D → Option Env
  | ρ, [], [] => some ρ
  | ρ, i :: is, d :: ds => puts (put ρ i d) is ds
  | _, _, _ => none
def putT (ρ : Env) : Tg → D → Option Env
  | .one i, d => some (put ρ i d)
  | .tup is, d => match d with
    | .tup ds => puts ρ is ds
    | _ => none
abbrev Call := Nat → List D → Sto → R (D × Sto)
def isBox : D → Bool
  | .lst _ => true
  | .dct _ => true
  | _ => false
def muM (m : Mu) (a : D) (as : List D) (M : Sto) : Option (D × Sto) := match a with
  | .obj k => (match M[k]? with
    | some (.val c) => (muD m c (match m with | .extend => as.map (nrm M) | _ => as)).map fun r => (r.1, M.set k (.val r.2))
    | _ => none)
  | _ => none
def compL (cond : Env → Sto → R (Bool × Sto)) (el : Env → Sto → R (D × Sto)) (t : Tg) : List D → Env → Sto → R (List D × Sto)
  | [], _, M => .ok ([], M)
  | d :: ds, ρ, M => match putT ρ t d with
    | none => .bad
    | some ρ' => match cond ρ' M with
      | .ok (true, M1) => (match el ρ' M1 with
        | .ok (y, M2) => (match compL cond el t ds ρ M2 with
          | .ok (ys, M3) => .ok (y :: ys, M3)
          | _ => .bad)
        | _ => .bad)
      | .ok (false, M1) => compL cond el t ds ρ M1
      | _ => .bad
def dcompL (kk : Env → Sto → R (D × Sto)) (vv : Env → Sto → R (D × Sto)) (t : Tg) : List D → Env → Sto → List (D × D) → R (List (D × D) × Sto)
  | [], _, M, acc => .ok (acc, M)
  | d :: ds, ρ, M, acc => match putT ρ t d with
    | none => .bad
    | some ρ' => match kk ρ' M with
      | .ok (k, M1) => (match vv ρ' M1 with
        | .ok (v, M2) => dcompL kk vv t ds ρ M2 (keyPut acc k v)
        | _ => .bad)
      | _ => .bad
section
variable (c : Call)
mutual
def evE : E → Env → Sto → R (D × Sto)
  | .var i, ρ, M => R.of ((get ρ i).map fun d => (d, M))
  | .bor i, ρ, M => R.of ((get ρ i).map fun d => (d, M))
  | .con d, _, M => .ok (d, M)
  | .neg a, ρ, M => (evE a ρ M).bind fun r => match r.1 with
    | .int i => .ok (.int (-i), r.2)
    | _ => .bad
  | .bin o a b, ρ, M => (evE a ρ M).bind fun r => (evE b ρ r.2).bind fun q => R.of ((binD o (nrm q.2 r.1) (nrm q.2 q.1)).map fun d => (d, q.2))
  | .cmp o a b, ρ, M => (evE a ρ M).bind fun r => (evE b ρ r.2).bind fun q => R.of ((cmpD o (nrm q.2 r.1) (nrm q.2 q.1)).map fun d => (.bl d, q.2))
  | .chain o o' a b e, ρ, M => (evE a ρ M).bind fun r => (evE b ρ r.2).bind fun q => match cmpD o (nrm q.2 r.1) (nrm q.2 q.1) with
    | some true => (evE e ρ q.2).bind fun p => R.of ((cmpD o' (nrm p.2 q.1) (nrm p.2 p.1)).map fun d => (.bl d, p.2))
    | some false => .ok (.bl false, q.2)
    | none => .bad
  | .and a b, ρ, M => (evE a ρ M).bind fun r => match r.1 with
    | .bl true => evE b ρ r.2
    | .bl false => .ok (.bl false, r.2)
    | _ => .bad
  | .or a b, ρ, M => (evE a ρ M).bind fun r => match r.1 with
    | .bl true => .ok (.bl true, r.2)
    | .bl false => evE b ρ r.2
    | _ => .bad
  | .not a, ρ, M => (evE a ρ M).bind fun r => match r.1 with
    | .bl x => .ok (.bl (!x), r.2)
    | _ => .bad
  | .ite x a b, ρ, M => (evE x ρ M).bind fun r => match r.1 with
    | .bl true => evE a ρ r.2
    | .bl false => evE b ρ r.2
    | _ => .bad
  | .join a b, ρ, M => (evE a ρ M).bind fun r => match r.1 with
    | .str s => (evE b ρ r.2).bind fun q => R.of ((meD .join (.str s) [nrm q.2 q.1]).map fun d => (d, q.2))
    | _ => .bad
  | .call f as, ρ, M => (evEs as ρ M).bind fun r => c f r.1 r.2
  | .callv f as, ρ, M => (evE f ρ M).bind fun q => (evEs as ρ q.2).bind fun r => match q.1 with
    | .fn g => c g r.1 r.2
    | _ => .bad
  | .bi b as, ρ, M => (evEs as ρ M).bind fun r => R.of ((biD b (r.1.map (nrm r.2))).map fun d => (d, r.2))
  | .me m a as, ρ, M => (evE a ρ M).bind fun q => (evEs as ρ q.2).bind fun r => R.of ((meD m (nrm r.2 q.1) (match m with | .get => r.1 | _ => r.1.map (nrm r.2))).map fun d => (d, r.2))
  | .mu m a as, ρ, M => (evE a ρ M).bind fun q => (evEs as ρ q.2).bind fun r => R.of (muM m q.1 r.1 r.2)
  | .tup as, ρ, M => (evEs as ρ M).bind fun r => .ok (.tup r.1, r.2)
  | .lst as, ρ, M => (evEs as ρ M).bind fun r => .ok (.lst r.1, r.2)
  | .dct ks vs, ρ, M => (evEs ks ρ M).bind fun r => (evEs vs ρ r.2).bind fun q => .ok (.dct ((r.1.zip q.1).foldl (fun acc p => keyPut acc p.1 p.2) []), q.2)
  | .sub a i, ρ, M => (evE a ρ M).bind fun r => (evE i ρ r.2).bind fun q => R.of ((subD (nrm q.2 r.1) q.1).map fun d => (d, q.2))
  | .slc a l h, ρ, M => (evE a ρ M).bind fun r => (evE l ρ r.2).bind fun q => (R.of (bnd (isNon l) q.1)).bind fun lo => (evE h ρ q.2).bind fun p => (R.of (bnd (isNon h) p.1)).bind fun hi => R.of ((slcD (nrm p.2 r.1) lo hi).map fun d => (d, p.2))
  | .comp e t it cs, ρ, M => (evE it ρ M).bind fun r => match itemsOf r.1 with
    | some ds => if ds.length ≤ SZ then (compL (evCs cs) (evE e) t ds ρ r.2).bind fun q => .ok (.lst q.1, q.2) else .bad
    | none => .bad
  | .dcomp k v t it, ρ, M => (evE it ρ M).bind fun r => match itemsOf r.1 with
    | some ds => (dcompL (evE k) (evE v) t ds ρ r.2 []).bind fun q => .ok (.dct q.1, q.2)
    | none => .bad
  | .dead, _, _ => .bad
  | .alloc a, ρ, M => (evE a ρ M).bind fun r => if isBox r.1 then .ok (.obj r.2.length, r.2 ++ [.val r.1]) else .bad
def evEs : List E → Env → Sto → R (List D × Sto)
  | [], _, M => .ok ([], M)
  | e :: es, ρ, M => (evE e ρ M).bind fun r => (evEs es ρ r.2).bind fun q => .ok (r.1 :: q.1, q.2)
def evCs : List E → Env → Sto → R (Bool × Sto)
  | [], _, M => .ok (true, M)
  | e :: es, ρ, M => (evE e ρ M).bind fun r => match r.1 with
    | .bl true => evCs es ρ r.2
    | .bl false => .ok (false, r.2)
    | _ => .bad
end
def forL (body : Env → Sto → RS) (t : Tg) : List D → Env → Sto → RS
  | [], ρ, M => .ok .nx ρ M
  | d :: ds, ρ, M => match putT ρ t d with
    | none => .bad
    | some ρ1 => match body ρ1 M with
      | .ok .nx ρ2 M2 => forL body t ds ρ2 M2
      | .ok .ct ρ2 M2 => forL body t ds ρ2 M2
      | .ok .bk ρ2 M2 => .ok .nx ρ2 M2
      | .ok (.rt d) ρ2 M2 => .ok (.rt d) ρ2 M2
      | .exc e ρ2 M2 => .exc e ρ2 M2
      | .bad => .bad
def whlN (cond : Env → Sto → R (D × Sto)) (body : Env → Sto → RS) : Nat → Env → Sto → RS
  | 0, _, _ => .bad
  | n + 1, ρ, M => (cond ρ M).toS ρ fun r => match r.1 with
    | .bl false => .ok .nx ρ r.2
    | .bl true => (match body ρ r.2 with
      | .ok .nx ρ2 M2 => whlN cond body n ρ2 M2
      | .ok .ct ρ2 M2 => whlN cond body n ρ2 M2
      | .ok .bk ρ2 M2 => .ok .nx ρ2 M2
      | .ok (.rt d) ρ2 M2 => .ok (.rt d) ρ2 M2
      | .exc e ρ2 M2 => .exc e ρ2 M2
      | .bad => .bad)
    | _ => .bad
def WF : Nat := 1099511627776
variable (sub : Nat → Nat → Bool)
mutual
def evS : S → Env → Sto → RS
  | .set i e, ρ, M => (evE c e ρ M).toS ρ fun r => .ok .nx (put ρ i r.1) r.2
  | .own i e, ρ, M => (evE c e ρ M).toS ρ fun r => if isBox r.1 then .ok .nx (put ρ i r.1) r.2 else .bad
  | .unp is e, ρ, M => (evE c e ρ M).toS ρ fun r => match r.1 with
    | .tup ds => (match puts ρ is ds with
      | some ρ' => .ok .nx ρ' r.2
      | none => .bad)
    | _ => .bad
  | .par is es, ρ, M => (evEs c es ρ M).toS ρ fun r => match puts ρ is r.1 with
    | some ρ' => .ok .nx ρ' r.2
    | none => .bad
  | .aug i o e, ρ, M => match get ρ i with
    | none => .bad
    | some d => (evE c e ρ M).toS ρ fun r => match binD o d (nrm r.2 r.1) with
      | some v => .ok .nx (put ρ i v) r.2
      | none => .bad
  | .ex e, ρ, M => (evE c e ρ M).toS ρ fun r => .ok .nx ρ r.2
  | .omu m i as, ρ, M => (evEs c as ρ M).toS ρ fun r => match (get ρ i).bind fun d => muD m d (match m with | .extend => r.1.map (nrm r.2) | _ => r.1) with
    | some q => .ok .nx (put ρ i q.2) r.2
    | none => .bad
  | .osm j m i as, ρ, M => (evEs c as ρ M).toS ρ fun r => match (get ρ i).bind fun d => muD m d r.1 with
    | some q => .ok .nx (put (put ρ i q.2) j q.1) r.2
    | none => .bad
  | .ret e, ρ, M => (evE c e ρ M).toS ρ fun r => .ok (.rt r.1) ρ r.2
  | .reto i, ρ, M => (match get ρ i with
    | some d => .ok (.rt d) ρ M
    | none => .bad)
  | .retn, ρ, M => .ok (.rt .non) ρ M
  | .ite x a b, ρ, M => (evE c x ρ M).toS ρ fun r => match r.1 with
    | .bl true => evSs a ρ r.2
    | .bl false => evSs b ρ r.2
    | _ => .bad
  | .whl x b, ρ, M => whlN (evE c x) (evSs b) WF ρ M
  | .for t it b, ρ, M => (evE c it ρ M).toS ρ fun r => match itemsOf r.1 with
    | some ds => forL (evSs b) t ds ρ r.2
    | none => .bad
  | .brk, ρ, M => .ok .bk ρ M
  | .cnt, ρ, M => .ok .ct ρ M
  | .pass, ρ, M => .ok .nx ρ M
  | .raise k as, ρ, M => (evEs c as ρ M).toS ρ fun r => .exc ⟨k, r.1⟩ ρ r.2
  | .try b k h k2 h2, ρ, M => match evSs b ρ M with
    | .exc e ρ1 M1 => if sub e.cls k then evSs h ρ1 M1 else (match k2 with
        | none => .exc e ρ1 M1
        | some j => if sub e.cls j then evSs h2 ρ1 M1 else .exc e ρ1 M1)
    | r => r
  | .sto o ix v, ρ, M => (evE c v ρ M).toS ρ fun r => (evE c o ρ r.2).toS ρ fun q => (evE c ix ρ q.2).toS ρ fun p => match muM .put q.1 [p.1, r.1] p.2 with
    | some z => .ok .nx ρ z.2
    | none => .bad
  | .oput i ix v, ρ, M => (evE c v ρ M).toS ρ fun r => (evE c ix ρ r.2).toS ρ fun p => match (get ρ i).bind fun d => muD .put d [p.1, r.1] with
    | some z => .ok .nx (put ρ i z.2) p.2
    | none => .bad
  | .dead, _, _ => .bad
def evSs : List S → Env → Sto → RS
  | [], ρ, M => .ok .nx ρ M
  | s :: ss, ρ, M => (evS s ρ M).then (evSs ss)
end
end
structure Fn where
  np : Nat
  ns : Nat
  ow : List Nat
  body : List S
def startE (f : Fn) (ds : List D) : Env := ds.map some ++ List.replicate (f.ns - ds.length) none
def RS.out : RS → R (D × Sto)
  | .ok (.rt d) _ M => .ok (d, M)
  | .ok .nx _ M => .ok (.non, M)
  | .exc e _ M => .exc e M
  | _ => .bad
def run (sub : Nat → Nat → Bool) (Γ : List Fn) : Nat → Call
  | 0 => fun _ _ _ => .bad
  | n + 1 => fun f ds M => match Γ[f]? with
    | none => .bad
    | some F => if ds.length = F.np then (evSs (run sub Γ n) sub F.body (startE F ds) M).out else .bad
end Ev
set_option Elab.async false
set_option linter.all false
set_option autoImplicit false
set_option maxRecDepth 100000
set_option maxHeartbeats 4000000
namespace Ev
open PySem PySem.Spec PyProof.Rows L2
structure Par where
  K : PySem.W.Frag
  fa : Nat → Addr
  ca : Nat → Addr
  nc : Nat
structure Wd where
  ι : List Addr
  F : Addr → Prop
def S' (x : List Nat) : Str := ⟨x.toArray⟩
def TupAt (P : Par) (W : Wd) (H : Hp) (a : Addr) (vs : List V) : Prop :=
  (W.F a ∧ Rd H a (.tup vs)) ∨ ∃ (o : Obj) (its : Array Value) (n : Nat), P.K.lookup a = some o ∧ o.cls = .type "tuple" ∧ o.data = .seq its n ∧ its.size ≤ sizeLine ∧ Vals vs its.toList
theorem TupAt.sq {P : Par} {W : Wd} {H : Hp} {a : Addr} {vs : List V} (h : TupAt P W H a vs) : SqT P.K H a vs := h.imp (·.2) id
def ScrAt (P : Par) (W : Wd) (H : Hp) (a : Addr) (vs : List V) : Prop :=
  (W.F a ∧ Rd H a (.lst vs)) ∨ ∃ (o : Obj) (its : Array Value) (n : Nat), P.K.lookup a = some o ∧ o.cls = .type "list" ∧ o.dict = none ∧ o.data = .seq its n ∧ its.size ≤ sizeLine ∧ Vals vs its.toList
theorem ScrAt.sq {P : Par} {W : Wd} {H : Hp} {a : Addr} {vs : List V} (h : ScrAt P W H a vs) : SqL P.K H a vs := h.imp (·.2) id
mutual
def Rep (P : Par) (W : Wd) (H : Hp) : D → V → Prop
  | .non, v => v = .non
  | .bl b, v => v = .bl b
  | .int i, v => v = .int i
  | .str x, v => v = .str (S' x) ∧ x.length ≤ SZ ∧ ∀ c ∈ x, c < 1114112
  | .tup ds, v => ∃ a vs, v = .ref a ∧ TupAt P W H a vs ∧ ds.length ≤ SZ ∧ Reps P W H ds vs
  | .lst ds, v => ∃ a vs, v = .ref a ∧ W.F a ∧ H a = some (.lst vs) ∧ ds.length ≤ SZ ∧ Reps P W H ds vs
  | .scr ds, v => ∃ a vs, v = .ref a ∧ ScrAt P W H a vs ∧ ds.length ≤ SZ ∧ Reps P W H ds vs
  | .dct _, _ => False
  | .itr _, _ => False
  | .obj k, v => ∃ a, v = .ref a ∧ W.ι[k]? = some a
  | .fn f, v => v = .ref (P.fa f)
  | .cl c, v => v = .ref (P.ca c)
  | .ty n, v => v = .ty n
def Reps (P : Par) (W : Wd) (H : Hp) : List D → List V → Prop
  | [], vs => vs = []
  | d :: ds, vs => ∃ v r, vs = v :: r ∧ Rep P W H d v ∧ Reps P W H ds r
end
theorem Reps.length {P : Par} {W : Wd} {H : Hp} : ∀ {ds : List D} {vs : List V}, Reps P W H ds vs → vs.length = ds.length
  | [], _, h => by
    have e : _ = [] := h
    rw [e]; rfl
  | d :: ds, _, h => by
    obtain ⟨v, r, rfl, _, h2⟩ := h
    rw [List.length_cons, List.length_cons, Reps.length h2]
theorem Reps.nil {P : Par} {W : Wd} {H : Hp} : Reps P W H [] [] := rfl
theorem Reps.cons {P : Par} {W : Wd} {H : Hp} {d : D} {v : V} {ds : List D} {vs : List V} (h : Rep P W H d v) (t : Reps P W H ds vs) : Reps P W H (d :: ds) (v :: vs) := ⟨v, vs, rfl, h, t⟩
theorem Reps.get {P : Par} {W : Wd} {H : Hp} : ∀ {ds : List D} {vs : List V} {i : Nat} {d : D}, Reps P W H ds vs → ds[i]? = some d → ∃ v, vs[i]? = some v ∧ Rep P W H d v
  | [], _, _, _, _, e => by simp at e
  | d :: ds, _, 0, x, h, e => by
    obtain ⟨v, r, rfl, h1, h2⟩ := h
    simp at e; subst e
    exact ⟨v, rfl, h1⟩
  | d :: ds, _, i + 1, x, h, e => by
    obtain ⟨v, r, rfl, h1, h2⟩ := h
    obtain ⟨u, e1, h3⟩ := Reps.get (i := i) h2 (by simpa using e)
    exact ⟨u, by simpa using e1, h3⟩
theorem Reps.append {P : Par} {W : Wd} {H : Hp} : ∀ {ds es : List D} {vs us : List V}, Reps P W H ds vs → Reps P W H es us → Reps P W H (ds ++ es) (vs ++ us)
  | [], _, _, _, h, k => by
    have e : _ = [] := h
    rw [e]; exact k
  | d :: ds, _, _, _, h, k => by
    obtain ⟨v, r, rfl, h1, h2⟩ := h
    exact ⟨v, _, rfl, h1, Reps.append h2 k⟩
theorem Reps.drop {P : Par} {W : Wd} {H : Hp} : ∀ (n : Nat) {ds : List D} {vs : List V}, Reps P W H ds vs → Reps P W H (ds.drop n) (vs.drop n)
  | 0, _, _, h => h
  | n + 1, [], _, h => by
    have e : _ = [] := h
    rw [e]; exact rfl
  | n + 1, d :: ds, _, h => by
    obtain ⟨v, r, rfl, h1, h2⟩ := h
    exact Reps.drop n h2
theorem Reps.take {P : Par} {W : Wd} {H : Hp} : ∀ (n : Nat) {ds : List D} {vs : List V}, Reps P W H ds vs → Reps P W H (ds.take n) (vs.take n)
  | 0, _, _, h => by simp only [List.take_zero]; exact Reps.nil
  | n + 1, [], _, h => by
    have e : _ = [] := h
    rw [e]; exact rfl
  | n + 1, d :: ds, _, h => by
    obtain ⟨v, r, rfl, h1, h2⟩ := h
    exact ⟨v, _, rfl, h1, Reps.take n h2⟩
theorem Reps.set {P : Par} {W : Wd} {H : Hp} {d : D} {v : V} (hv : Rep P W H d v) : ∀ (n : Nat) {ds : List D} {vs : List V}, Reps P W H ds vs → Reps P W H (ds.set n d) (vs.set n v)
  | _, [], _, h => by
    have e : _ = [] := h
    rw [e]; exact rfl
  | 0, d :: ds, _, h => by
    obtain ⟨v', r, rfl, h1, h2⟩ := h
    exact ⟨v, _, rfl, hv, h2⟩
  | n + 1, d :: ds, _, h => by
    obtain ⟨v', r, rfl, h1, h2⟩ := h
    exact ⟨v', _, rfl, h1, Reps.set hv n h2⟩
theorem Reps.eraseIdx {P : Par} {W : Wd} {H : Hp} : ∀ (n : Nat) {ds : List D} {vs : List V}, Reps P W H ds vs → Reps P W H (ds.eraseIdx n) (vs.eraseIdx n)
  | _, [], _, h => by
    have e : _ = [] := h
    rw [e]; exact rfl
  | 0, d :: ds, _, h => by
    obtain ⟨v', r, rfl, h1, h2⟩ := h
    exact h2
  | n + 1, d :: ds, _, h => by
    obtain ⟨v', r, rfl, h1, h2⟩ := h
    exact ⟨v', _, rfl, h1, Reps.eraseIdx n h2⟩
theorem Reps.dropLast {P : Par} {W : Wd} {H : Hp} {ds : List D} {vs : List V} (h : Reps P W H ds vs) : Reps P W H ds.dropLast vs.dropLast := by
  rw [List.dropLast_eq_take, List.dropLast_eq_take, h.length]
  exact h.take _
theorem Reps.mem {P : Par} {W : Wd} {H : Hp} : ∀ {ds : List D} {vs : List V} {v : V}, Reps P W H ds vs → v ∈ vs → ∃ d ∈ ds, Rep P W H d v
  | [], _, _, h, m => by
    have e : _ = [] := h
    rw [e] at m; simp at m
  | d :: ds, _, v, h, m => by
    obtain ⟨v', r, rfl, h1, h2⟩ := h
    rcases List.mem_cons.mp m with rfl | m
    · exact ⟨d, List.mem_cons_self, h1⟩
    · obtain ⟨d', e, k⟩ := Reps.mem h2 m
      exact ⟨d', List.mem_cons_of_mem _ e, k⟩
structure G (W : Wd) (H : Hp) (W' : Wd) (H' : Hp) : Prop where
  io : ∃ more, W'.ι = W.ι ++ more ∧ ∀ a ∈ more, H a = none
  fm : ∀ a, W.F a → W'.F a
  fn : ∀ a, W'.F a → W.F a ∨ H a = none
  kp : ∀ a o, H a = some o → a ∉ W.ι → H' a = some o
  al : ∀ a, H a ≠ none → H' a ≠ none
theorem G.refl {W : Wd} {H : Hp} : G W H W H := ⟨⟨[], by simp, fun _ h => nomatch h⟩, fun _ h => h, fun _ h => .inl h, fun _ _ h _ => h, fun _ h => h⟩
theorem G.trans {W W1 W2 : Wd} {H H1 H2 : Hp} (g : G W H W1 H1) (k : G W1 H1 W2 H2) : G W H W2 H2 := by
  obtain ⟨m1, e1, n1⟩ := g.io
  obtain ⟨m2, e2, n2⟩ := k.io
  have back : ∀ a, H1 a = none → H a = none := fun a h => Classical.byContradiction fun q => g.al a q h
  refine ⟨⟨m1 ++ m2, by rw [e2, e1, List.append_assoc], fun a h => ?_⟩, fun a h => k.fm a (g.fm a h), fun a h => ?_, fun a o h ha => ?_, fun a h => k.al a (g.al a h)⟩
  · rcases List.mem_append.mp h with h | h
    · exact n1 a h
    · exact back a (n2 a h)
  · rcases k.fn a h with h | h
    · exact g.fn a h
    · exact .inr (back a h)
  · refine k.kp a o (g.kp a o h ha) ?_
    rw [e1]
    intro z
    rcases List.mem_append.mp z with z | z
    · exact ha z
    · rw [n1 a z] at h; cases h
theorem G.ix {W W' : Wd} {H H' : Hp} (g : G W H W' H') {k : Nat} {a : Addr} (e : W.ι[k]? = some a) : W'.ι[k]? = some a := by
  obtain ⟨m, e1, _⟩ := g.io
  rw [e1, List.getElem?_append_left (List.getElem?_eq_some_iff.mp e).1]
  exact e
theorem rd_g {W W' : Wd} {H H' : Hp} {a : Addr} {o : HO} (g : G W H W' H') (h : Rd H a o) (n : a ∉ W.ι) : Rd H' a o := by
  rcases h with h | ⟨u, h⟩
  · exact .inl (g.kp _ _ h n)
  · exact .inr ⟨u, g.kp _ _ h n⟩
structure Wf (W : Wd) (H : Hp) : Prop where
  fi : ∀ a, W.F a → a ∉ W.ι
  fs : ∀ a, W.F a → H a ≠ none
  nd : W.ι.Nodup
  is : ∀ a ∈ W.ι, H a ≠ none
theorem TupAt.g {P : Par} {W W' : Wd} {H H' : Hp} {a : Addr} {vs : List V} (g : G W H W' H') (wf : Wf W H) (h : TupAt P W H a vs) : TupAt P W' H' a vs := by
  rcases h with ⟨f, h⟩ | h
  · exact .inl ⟨g.fm _ f, rd_g g h (wf.fi _ f)⟩
  · exact .inr h
theorem ScrAt.g {P : Par} {W W' : Wd} {H H' : Hp} {a : Addr} {vs : List V} (g : G W H W' H') (wf : Wf W H) (h : ScrAt P W H a vs) : ScrAt P W' H' a vs := by
  rcases h with ⟨f, h⟩ | h
  · exact .inl ⟨g.fm _ f, rd_g g h (wf.fi _ f)⟩
  · exact .inr h
mutual
theorem Rep.g {P : Par} {W W' : Wd} {H H' : Hp} (g : G W H W' H') (wf : Wf W H) : ∀ {d : D} {v : V}, Rep P W H d v → Rep P W' H' d v
  | .non, _, h => h
  | .bl _, _, h => h
  | .int _, _, h => h
  | .str _, _, h => h
  | .tup ds, _, h => by
    obtain ⟨a, vs, e, h1, h2, h3⟩ := h
    exact ⟨a, vs, e, h1.g g wf, h2, Reps.g g wf h3⟩
  | .lst ds, _, h => by
    obtain ⟨a, vs, e, h1, h2, h3, h4⟩ := h
    exact ⟨a, vs, e, g.fm _ h1, g.kp _ _ h2 (wf.fi _ h1), h3, Reps.g g wf h4⟩
  | .scr ds, _, h => by
    obtain ⟨a, vs, e, h1, h2, h3⟩ := h
    exact ⟨a, vs, e, h1.g g wf, h2, Reps.g g wf h3⟩
  | .dct _, _, h => h
  | .itr _, _, h => h
  | .obj k, _, h => by
    obtain ⟨a, e, h⟩ := h
    exact ⟨a, e, g.ix h⟩
  | .fn _, _, h => h
  | .cl _, _, h => h
  | .ty _, _, h => h
theorem Reps.g {P : Par} {W W' : Wd} {H H' : Hp} (g : G W H W' H') (wf : Wf W H) : ∀ {ds : List D} {vs : List V}, Reps P W H ds vs → Reps P W' H' ds vs
  | [], _, h => h
  | _ :: _, _, h => by
    obtain ⟨v, r, e, h1, h2⟩ := h
    exact ⟨v, r, e, Rep.g g wf h1, Reps.g g wf h2⟩
end
def BoxAt (P : Par) (W : Wd) (H : Hp) (a : Addr) : D → Prop
  | .lst ds => ∃ vs, H a = some (.lst vs) ∧ ds.length ≤ SZ ∧ Reps P W H ds vs
  | _ => False
theorem BoxAt.g {P : Par} {W W' : Wd} {H H' : Hp} {a : Addr} (g : G W H W' H') (wf : Wf W H) (n : a ∉ W.ι) : ∀ {d : D}, BoxAt P W H a d → BoxAt P W' H' a d
  | .lst ds, h => by
    obtain ⟨vs, h1, h2, h3⟩ := h
    exact ⟨vs, g.kp _ _ h1 n, h2, Reps.g g wf h3⟩
  | .non, h => h.elim
  | .bl _, h => h.elim
  | .int _, h => h.elim
  | .str _, h => h.elim
  | .tup _, h => h.elim
  | .dct _, h => h.elim
  | .itr _, h => h.elim
  | .obj _, h => h.elim
  | .fn _, h => h.elim
  | .cl _, h => h.elim
  | .ty _, h => h.elim
  | .scr _, h => h.elim
theorem BoxAt.some {P : Par} {W : Wd} {H : Hp} {a : Addr} {d : D} (h : BoxAt P W H a d) : H a ≠ none := by
  cases d with
  | lst ds =>
    obtain ⟨vs, h1, _⟩ := h
    rw [h1]; exact fun z => nomatch z
  | _ => exact (show False from h).elim
theorem BoxAt.box {P : Par} {W : Wd} {H : Hp} {a : Addr} {d : D} (h : BoxAt P W H a d) : isBox d = true := by
  cases d with
  | lst ds => rfl
  | _ => exact (show False from h).elim
def MoAt (P : Par) (W : Wd) (H : Hp) (a : Addr) : MO → Prop
  | .val d => BoxAt P W H a d
  | .ins _ _ => False
structure StoR (P : Par) (W : Wd) (M : Sto) (H : Hp) : Prop where
  wf : Wf W H
  len : W.ι.length = M.length
  at_ : ∀ (k : Nat) (o : MO), M[k]? = some o → ∃ a, W.ι[k]? = some a ∧ MoAt P W H a o
def Own (P : Par) (W : Wd) (H : Hp) (a : Addr) (d : D) : Prop := ¬ W.F a ∧ a ∉ W.ι ∧ BoxAt P W H a d
theorem Own.g {P : Par} {W W' : Wd} {H H' : Hp} {a : Addr} {d : D} (g : G W H W' H') (wf : Wf W H) (h : Own P W H a d) : Own P W' H' a d := by
  obtain ⟨h1, h2, h3⟩ := h
  have hs := h3.some
  refine ⟨fun z => ?_, fun z => ?_, h3.g g wf h2⟩
  · rcases g.fn a z with q | q
    · exact h1 q
    · exact hs q
  · obtain ⟨m, e, n⟩ := g.io
    rw [e] at z
    rcases List.mem_append.mp z with z | z
    · exact h2 z
    · exact hs (n a z)
structure Rel (P : Par) (ow : List Nat) (W : Wd) (ρ : Env) (M : Sto) (σ : L2.St) (H : Hp) : Prop where
  sto : StoR P W M H
  len : ρ.length = σ.length
  fz : ∀ i d, get ρ i = some d → i ∉ ow → ∃ v, σ[i]? = some (some v) ∧ Rep P W H d v
  own : ∀ i d, get ρ i = some d → i ∈ ow → ∃ a, σ[i]? = some (some (.ref a)) ∧ Own P W H a d
  sep : ∀ (i j : Nat) (a : Addr), i ∈ ow → j ∈ ow → i ≠ j → get ρ i ≠ none → get ρ j ≠ none → σ[i]? = some (some (.ref a)) → σ[j]? ≠ some (some (.ref a))
theorem Rel.g {P : Par} {ow : List Nat} {W W' : Wd} {ρ : Env} {M M' : Sto} {σ : L2.St} {H H' : Hp} (r : Rel P ow W ρ M σ H) (g : G W H W' H') (s : StoR P W' M' H') : Rel P ow W' ρ M' σ H' :=
  ⟨s, r.len, fun i d e n => let ⟨v, h1, h2⟩ := r.fz i d e n; ⟨v, h1, h2.g g r.sto.wf⟩, fun i d e n => let ⟨a, h1, h2⟩ := r.own i d e n; ⟨a, h1, h2.g g r.sto.wf⟩, r.sep⟩
def RepW (P : Par) (W : Wd) (H : Hp) (d : D) (v : V) : Prop := Rep P W H d v ∨ ∃ a, v = .ref a ∧ a ∉ W.ι ∧ BoxAt P W H a d
theorem RepW.g {P : Par} {W W' : Wd} {H H' : Hp} (g : G W H W' H') (wf : Wf W H) {d : D} {v : V} (h : RepW P W H d v) : RepW P W' H' d v := by
  rcases h with h | ⟨a, e, n, h⟩
  · exact .inl (h.g g wf)
  · refine .inr ⟨a, e, fun z => ?_, h.g g wf n⟩
    obtain ⟨m, e1, k⟩ := g.io
    rw [e1] at z
    rcases List.mem_append.mp z with z | z
    · exact n z
    · exact h.some (k a z)
def RepR (P : Par) (W : Wd) (H : Hp) (d : D) (v : V) : Prop := match d with
  | .lst ds => ∃ a vs, v = .ref a ∧ H a = some (.lst vs) ∧ ds.length ≤ SZ ∧ Reps P W H ds vs
  | d => Rep P W H d v
theorem Rep.r {P : Par} {W : Wd} {H : Hp} {d : D} {v : V} (h : Rep P W H d v) : RepR P W H d v := by
  cases d with
  | lst ds =>
    obtain ⟨a, vs, e, _, h2, h3, h4⟩ := h
    exact ⟨a, vs, e, h2, h3, h4⟩
  | _ => exact h
theorem BoxAt.r {P : Par} {W : Wd} {H : Hp} {d : D} {a : Addr} (h : BoxAt P W H a d) : RepR P W H d (.ref a) := by
  cases d with
  | lst ds =>
    obtain ⟨vs, h1, h2, h3⟩ := h
    exact ⟨a, vs, rfl, h1, h2, h3⟩
  | _ => exact (show False from h).elim
theorem RepW.r {P : Par} {W : Wd} {H : Hp} {M : Sto} (s : StoR P W M H) {d : D} {v : V} (h : RepW P W H d v) : RepR P W H (nrm M d) v := by
  rcases h with h | ⟨a, e, n, h⟩
  · cases d with
    | obj k =>
      obtain ⟨a, e, h⟩ := h
      subst e
      show RepR P W H (match M[k]? with | some (.val d) => d | _ => .obj k) (.ref a)
      cases q : M[k]? with
      | none => exact ⟨a, rfl, h⟩
      | some o =>
        obtain ⟨a', e1, h1⟩ := s.at_ k o q
        rw [h] at e1; cases e1
        cases o with
        | val d => exact BoxAt.r h1
        | ins c fs => exact ⟨a, rfl, h⟩
    | _ => exact h.r
  · subst e
    have e2 : nrm M d = d := by
      cases d with
      | obj k => exact (show False from h).elim
      | _ => rfl
    rw [e2]
    exact h.r
def Wd.add (W : Wd) (p : Addr) : Wd := ⟨W.ι, fun a => W.F a ∨ a = p⟩
theorem G.add {W : Wd} {H : Hp} {p : Addr} {o : HO} (n : H p = none) : G W H (W.add p) (upd H p o) := by
  refine ⟨⟨[], by simp [Wd.add], fun _ h => nomatch h⟩, fun _ h => .inl h, fun a h => ?_, fun a u e _ => ?_, fun a h => ?_⟩
  · rcases h with h | h
    · exact .inl h
    · subst h; exact .inr n
  · rw [upd_ne (fun z => by subst z; rw [n] at e; cases e)]; exact e
  · by_cases z : a = p
    · subst z; rw [upd_same]; exact fun z => nomatch z
    · rw [upd_ne z]; exact h
theorem G.grow {W : Wd} {H : Hp} {p : Addr} {o : HO} (n : H p = none) : G W H W (upd H p o) := by
  refine ⟨⟨[], by simp, fun _ h => nomatch h⟩, fun _ h => h, fun a h => .inl h, fun a u e _ => ?_, fun a h => ?_⟩
  · rw [upd_ne (fun z => by subst z; rw [n] at e; cases e)]; exact e
  · by_cases z : a = p
    · subst z; rw [upd_same]; exact fun z => nomatch z
    · rw [upd_ne z]; exact h
theorem MoAt.g {P : Par} {W W' : Wd} {H H' : Hp} {a : Addr} (wf : Wf W H) (g : G W H W' H') (k : H' a = H a) : ∀ {o : MO}, MoAt P W H a o → MoAt P W' H' a o
  | .val (.lst ds), h => by
    obtain ⟨vs, h1, h2, h3⟩ := h
    exact ⟨vs, k.trans h1, h2, Reps.g g wf h3⟩
  | .val .non, h => (show False from h).elim
  | .val (.bl _), h => (show False from h).elim
  | .val (.int _), h => (show False from h).elim
  | .val (.str _), h => (show False from h).elim
  | .val (.tup _), h => (show False from h).elim
  | .val (.dct _), h => (show False from h).elim
  | .val (.itr _), h => (show False from h).elim
  | .val (.obj _), h => (show False from h).elim
  | .val (.fn _), h => (show False from h).elim
  | .val (.cl _), h => (show False from h).elim
  | .val (.ty _), h => (show False from h).elim
  | .val (.scr _), h => (show False from h).elim
  | .ins _ _, h => (show False from h).elim
theorem StoR.add {P : Par} {W : Wd} {M : Sto} {H : Hp} {p : Addr} {o : HO} (s : StoR P W M H) (n : H p = none) : StoR P (W.add p) M (upd H p o) := by
  have pi : p ∉ W.ι := fun z => s.wf.is p z n
  refine ⟨⟨fun a h => ?_, fun a h => ?_, s.wf.nd, fun a h => ?_⟩, s.len, fun k u e => ?_⟩
  · rcases h with h | h
    · exact s.wf.fi a h
    · subst h; exact pi
  · rcases h with h | h
    · by_cases z : a = p
      · subst z; rw [upd_same]; exact fun z => nomatch z
      · rw [upd_ne z]; exact s.wf.fs a h
    · subst h; rw [upd_same]; exact fun z => nomatch z
  · exact (G.add (W := W) (o := o) n).al a (s.wf.is a h)
  · obtain ⟨a, e1, h⟩ := s.at_ k u e
    have ne : a ≠ p := fun z => by subst z; exact pi (List.mem_of_getElem? e1)
    exact ⟨a, e1, h.g s.wf (G.add n) (upd_ne ne)⟩
theorem StoR.grow {P : Par} {W : Wd} {M : Sto} {H : Hp} {p : Addr} {o : HO} (s : StoR P W M H) (n : H p = none) : StoR P W M (upd H p o) := by
  have pi : p ∉ W.ι := fun z => s.wf.is p z n
  refine ⟨⟨s.wf.fi, fun a h => ?_, s.wf.nd, fun a h => ?_⟩, s.len, fun k u e => ?_⟩
  · exact (G.grow (W := W) (o := o) n).al a (s.wf.fs a h)
  · exact (G.grow (W := W) (o := o) n).al a (s.wf.is a h)
  · obtain ⟨a, e1, h⟩ := s.at_ k u e
    have ne : a ≠ p := fun z => by subst z; exact pi (List.mem_of_getElem? e1)
    exact ⟨a, e1, h.g s.wf (G.grow n) (upd_ne ne)⟩
def RepF (P : Par) (W : Wd) (H0 H : Hp) (d : D) (v : V) : Prop := match d with
  | .lst ds => ∃ p, v = .ref p ∧ H0 p = none ∧ ¬ W.F p ∧ p ∉ W.ι ∧ BoxAt P W H p (.lst ds)
  | d => Rep P W H d v
theorem TupAt.add {P : Par} {W : Wd} {H : Hp} {p a : Addr} {vs : List V} (h : TupAt P W H a vs) : TupAt P (W.add p) H a vs := h.imp_left fun ⟨f, h⟩ => ⟨Or.inl f, h⟩
mutual
theorem Rep.mono_add {P : Par} {W : Wd} {H : Hp} {p : Addr} : ∀ (d : D) (v : V), Rep P W H d v → Rep P (W.add p) H d v
  | .non, _, h => h
  | .bl _, _, h => h
  | .int _, _, h => h
  | .str _, _, h => h
  | .tup ds, _, h => by
    obtain ⟨a, vs, e, h1, h2, h3⟩ := h
    exact ⟨a, vs, e, h1.add, h2, Reps.mono_add _ _ h3⟩
  | .lst ds, _, h => by
    obtain ⟨a, vs, e, h1, h2, h3, h4⟩ := h
    exact ⟨a, vs, e, Or.inl h1, h2, h3, Reps.mono_add _ _ h4⟩
  | .scr ds, _, h => by
    obtain ⟨a, vs, e, h1, h2, h3⟩ := h
    exact ⟨a, vs, e, h1.imp_left fun ⟨f, h⟩ => ⟨Or.inl f, h⟩, h2, Reps.mono_add _ _ h3⟩
  | .dct _, _, h => h
  | .itr _, _, h => h
  | .obj k, _, h => h
  | .fn _, _, h => h
  | .cl _, _, h => h
  | .ty _, _, h => h
theorem Reps.mono_add {P : Par} {W : Wd} {H : Hp} {p : Addr} : ∀ (ds : List D) (vs : List V), Reps P W H ds vs → Reps P (W.add p) H ds vs
  | [], _, h => h
  | _ :: _, _, h => by
    obtain ⟨v, r, e, h1, h2⟩ := h
    exact ⟨v, r, e, Rep.mono_add _ _ h1, Reps.mono_add _ _ h2⟩
end
theorem G.freeze {W0 W : Wd} {H0 H : Hp} {p : Addr} (g : G W0 H0 W H) (n : H0 p = none) : G W0 H0 (W.add p) H := by
  refine ⟨g.io, fun a h => .inl (g.fm a h), fun a h => ?_, g.kp, g.al⟩
  rcases h with h | h
  · exact g.fn a h
  · subst h; exact .inr n
theorem StoR.freeze {P : Par} {W : Wd} {M : Sto} {H : Hp} {p : Addr} (s : StoR P W M H) (ni : p ∉ W.ι) (hp : H p ≠ none) : StoR P (W.add p) M H ∧ (∀ {d : D} {v : V}, Rep P W H d v → Rep P (W.add p) H d v) ∧ ∀ {ds : List D} {vs : List V}, Reps P W H ds vs → Reps P (W.add p) H ds vs := by
  -- the same heap under more frozen addresses: representations only need the older ones
  have mono : (∀ d v, Rep P W H d v → Rep P (W.add p) H d v) ∧ (∀ ds vs, Reps P W H ds vs → Reps P (W.add p) H ds vs) := by
    refine ⟨fun d => ?_, fun ds => ?_⟩
    · exact Rep.mono_add d
    · exact Reps.mono_add ds
  refine ⟨⟨⟨fun a h => ?_, fun a h => ?_, s.wf.nd, s.wf.is⟩, s.len, fun k o e => ?_⟩, fun {d v} h => mono.1 d v h, fun {ds vs} h => mono.2 ds vs h⟩
  · rcases h with h | h
    · exact s.wf.fi a h
    · subst h; exact ni
  · rcases h with h | h
    · exact s.wf.fs a h
    · subst h; exact hp
  · obtain ⟨a, e1, h⟩ := s.at_ k o e
    refine ⟨a, e1, ?_⟩
    cases o with
    | ins c fs => exact h
    | val d =>
      cases d with
      | lst ds =>
        obtain ⟨vs, h1, h2, h3⟩ := h
        exact ⟨vs, h1, h2, mono.2 _ _ h3⟩
      | _ => exact h
theorem freeze {P : Par} {W0 W : Wd} {M : Sto} {H0 H : Hp} {d : D} {v : V} (g : G W0 H0 W H) (s : StoR P W M H) (h : RepF P W H0 H d v) : ∃ W', G W0 H0 W' H ∧ StoR P W' M H ∧ Rep P W' H d v := by
  cases d with
  | lst ds =>
    obtain ⟨p, e, n, nF, ni, hb⟩ := h
    obtain ⟨s1, _, m⟩ := s.freeze ni hb.some
    obtain ⟨vs, h1, h2, h3⟩ := hb
    exact ⟨W.add p, g.freeze n, s1, p, vs, e, .inr rfl, h1, h2, m h3⟩
  | _ => exact ⟨W, g, s, h⟩
end Ev
set_option Elab.async false
set_option linter.all false
set_option autoImplicit false
set_option maxRecDepth 100000
set_option maxHeartbeats 4000000
namespace Ev
open PySem PySem.Spec PyProof.Rows L2
def PostF (P : Par) (W : Wd) (M : Sto) (H : Hp) (d : D) (Q : VK) : Prop := ∀ W' v H', G W H W' H' → StoR P W' M H' → RepF P W' H H' d v → Q v H'
def PostE (P : Par) (W : Wd) (M : Sto) (H : Hp) (d : D) (Q : VK) : Prop := ∀ W' v H', G W H W' H' → StoR P W' M H' → Rep P W' H' d v → Q v H'
section
variable {P : Par} {W : Wd} {M : Sto} {H : Hp} {Q : VK}
theorem PostF.e {d : D} (h : PostF P W M H d Q) (hl : ∀ ds, d ≠ .lst ds) : PostE P W M H d Q := fun W' v H' g s r => h W' v H' g s (by
  cases d with
  | lst ds => exact absurd rfl (hl ds)
  | _ => exact r)
theorem PostE.same {d : D} {v : V} (h : PostE P W M H d Q) (s : StoR P W M H) (r : Rep P W H d v) : Q v H := h W v H .refl s r
theorem PostF.int {i : Int} (h : PostF P W M H (.int i) Q) (s : StoR P W M H) : Q (.int i) H := h W _ H .refl s rfl
theorem PostF.bl {b : Bool} (h : PostF P W M H (.bl b) Q) (s : StoR P W M H) : Q (.bl b) H := h W _ H .refl s rfl
theorem PostF.str {x : List Nat} (h : PostF P W M H (.str x) Q) (s : StoR P W M H) (hl : x.length ≤ SZ) (hc : ∀ c ∈ x, c < 1114112) : Q (.str (S' x)) H := h W _ H .refl s ⟨rfl, hl, hc⟩
theorem PostF.lst {ds : List D} {vs : List V} {p : Addr} (h : PostF P W M H (.lst ds) Q) (s : StoR P W M H) (n : H p = none) (hl : ds.length ≤ SZ) (r : Reps P W H ds vs) : Q (.ref p) (upd H p (.lst vs)) :=
  h W _ _ (G.grow n) (s.grow n) ⟨p, rfl, n, fun z => s.wf.fs p z n, fun z => s.wf.is p z n, vs, upd_same, hl, r.g (G.grow n) s.wf⟩
theorem PostE.tup {ds : List D} {vs : List V} {p : Addr} (h : PostE P W M H (.tup ds) Q) (s : StoR P W M H) (n : H p = none) (hl : ds.length ≤ SZ) (r : Reps P W H ds vs) : Q (.ref p) (upd H p (.tup vs)) :=
  h (W.add p) _ _ (G.add n) (s.add n) ⟨p, vs, rfl, .inl ⟨.inr rfl, .inl upd_same⟩, hl, r.g (G.add n) s.wf⟩
theorem PostF.tup {ds : List D} {vs : List V} {p : Addr} (h : PostF P W M H (.tup ds) Q) (s : StoR P W M H) (n : H p = none) (hl : ds.length ≤ SZ) (r : Reps P W H ds vs) : Q (.ref p) (upd H p (.tup vs)) :=
  (h.e fun _ z => nomatch z).tup s n hl r
theorem PostE.bl {b : Bool} (h : PostE P W M H (.bl b) Q) (s : StoR P W M H) : Q (.bl b) H := h.same s rfl
end
theorem S'_toList (x : List Nat) : (S' x).cps.toList = x := rfl
theorem S'_len (x : List Nat) : (S' x).length = x.length := by simp [S', Str.length]
theorem S'_app (x y : List Nat) : S' x ++ S' y = S' (x ++ y) := by
  show (⟨x.toArray ++ y.toArray⟩ : Str) = ⟨(x ++ y).toArray⟩
  simp
theorem S'_inj {x y : List Nat} (h : S' x = S' y) : x = y := by
  have := congrArg (fun z : Str => z.cps.toList) h
  exact this
theorem SZ_line : SZ = sizeLine := by rw [sizeLine_eq]; rfl
mutual
def toP : D → PyData
  | .non => .none
  | .bl b => .bool b
  | .int i => .int i
  | .str x => .str (S' x)
  | .tup xs => .tuple (toPs xs)
  | .lst xs => .list (toPs xs)
  | _ => .none
def toPs : List D → List PyData
  | [] => []
  | x :: xs => toP x :: toPs xs
end
theorem toPs_map : ∀ xs : List D, toPs xs = xs.map toP
  | [] => rfl
  | x :: xs => by rw [toPs, List.map_cons, toPs_map xs]
mutual
theorem depth_toP : ∀ d : D, plain d = true → (toP d).depth = depth d
  | .non, _ => rfl
  | .bl _, _ => rfl
  | .int _, _ => rfl
  | .str _, _ => rfl
  | .tup xs, h => by rw [toP, PyData.depth, depth, depth_toPs xs (by simpa [plain] using h)]
  | .lst xs, h => by rw [toP, PyData.depth, depth, depth_toPs xs (by simpa [plain] using h)]
  | .dct _, h => by simp [plain] at h
  | .itr _, h => by simp [plain] at h
  | .obj _, h => by simp [plain] at h
  | .fn _, h => by simp [plain] at h
  | .cl _, h => by simp [plain] at h
  | .ty _, h => by simp [plain] at h
  | .scr _, h => by simp [plain] at h
theorem depth_toPs : ∀ xs : List D, plains xs = true → PyData.depthAll (toPs xs) = depths xs
  | [], _ => rfl
  | x :: xs, h => by
    have h' : plain x = true ∧ plains xs = true := by simpa [plains] using h
    rw [toPs, PyData.depthAll, depths, depth_toP x h'.1, depth_toPs xs h'.2]
end
theorem beq_S' (x y : List Nat) : (S' x == S' y) = (x == y) := by
  by_cases e : x = y
  · subst e; simp
  · have h : ¬ S' x = S' y := fun z => e (S'_inj z)
    rw [beq_eq_false_iff_ne.mpr h, beq_eq_false_iff_ne.mpr e]
mutual
theorem deq_toP : ∀ a b : D, plain a = true → plain b = true → deq a b = PyData.eqv (toP a) (toP b)
  | .non, b, _, hb => by cases b <;> first | rfl | simp [plain] at hb
  | .bl _, b, _, hb => by cases b <;> first | rfl | simp [plain] at hb
  | .int _, b, _, hb => by cases b <;> first | rfl | simp [plain] at hb
  | .str x, b, _, hb => by
    cases b with
    | str y => rw [deq, toP, toP, PyData.eqv, beq_S']
    | _ => first | rfl | simp [plain] at hb
  | .tup xs, b, ha, hb => by
    cases b with
    | tup ys => rw [deq, toP, toP, PyData.eqv, deqs_toPs xs ys (by simpa [plain] using ha) (by simpa [plain] using hb)]
    | _ => first | rfl | simp [plain] at hb
  | .lst xs, b, ha, hb => by
    cases b with
    | lst ys => rw [deq, toP, toP, PyData.eqv, deqs_toPs xs ys (by simpa [plain] using ha) (by simpa [plain] using hb)]
    | _ => first | rfl | simp [plain] at hb
  | .dct _, _, h, _ => by simp [plain] at h
  | .itr _, _, h, _ => by simp [plain] at h
  | .obj _, _, h, _ => by simp [plain] at h
  | .fn _, _, h, _ => by simp [plain] at h
  | .cl _, _, h, _ => by simp [plain] at h
  | .ty _, _, h, _ => by simp [plain] at h
  | .scr _, _, h, _ => by simp [plain] at h
theorem deqs_toPs : ∀ xs ys : List D, plains xs = true → plains ys = true → deqs xs ys = PyData.eqvAll (toPs xs) (toPs ys)
  | [], [], _, _ => rfl
  | [], _ :: _, _, _ => rfl
  | _ :: _, [], _, _ => rfl
  | x :: xs, y :: ys, h, k => by
    have h' : plain x = true ∧ plains xs = true := by simpa [plains] using h
    have k' : plain y = true ∧ plains ys = true := by simpa [plains] using k
    rw [deqs, toPs, toPs, PyData.eqvAll, deq_toP x y h'.1 k'.1, deqs_toPs xs ys h'.2 k'.2]
end
mutual
theorem alike_toP : ∀ a b : D, alike a b = true → W.alike (toP a) (toP b) = true
  | .non, b, h => by cases b <;> first | (simp [alike] at h; done) | simp [toP, W.alike]
  | .bl _, b, h => by cases b <;> first | (simp [alike] at h; done) | simp [toP, W.alike]
  | .int _, b, h => by cases b <;> first | (simp [alike] at h; done) | simp [toP, W.alike]
  | .str _, b, h => by cases b <;> first | (simp [alike] at h; done) | simp [toP, W.alike]
  | .tup xs, b, h => by
    cases b with
    | tup ys => rw [toP, toP, W.alike]; exact alikes_toPs xs ys (by simpa [alike] using h)
    | _ => simp [alike] at h
  | .lst xs, b, h => by
    cases b with
    | lst ys => rw [toP, toP, W.alike]; exact alikes_toPs xs ys (by simpa [alike] using h)
    | _ => simp [alike] at h
  | .dct _, b, h => by simp [alike] at h
  | .itr _, b, h => by simp [alike] at h
  | .obj _, b, h => by simp [alike] at h
  | .fn _, b, h => by simp [alike] at h
  | .cl _, b, h => by simp [alike] at h
  | .ty _, b, h => by simp [alike] at h
  | .scr _, b, h => by simp [alike] at h
theorem alikes_toPs : ∀ xs ys : List D, alikes xs ys = true → W.alikeAll (toPs xs) (toPs ys) = true
  | [], _, _ => by simp [toPs, W.alikeAll]
  | _ :: _, [], _ => by simp [toPs, W.alikeAll]
  | x :: xs, y :: ys, h => by
    have h' : alike x y = true ∧ alikes xs ys = true := by simpa [alikes] using h
    rw [toPs, toPs, W.alikeAll, alike_toP x y h'.1, alikes_toPs xs ys h'.2]
    rfl
end
theorem slt_lt : ∀ x y : List Nat, slt x y = decide (x < y)
  | [], [] => by simp [slt]
  | [], _ :: _ => by simp [slt]
  | _ :: _, [] => by simp [slt]
  | a :: x, b :: y => by
    rw [slt]
    by_cases e : a = b
    · subst e
      rw [if_pos (by simp), slt_lt x y]
      simp [List.cons_lt_cons_iff]
    · rw [if_neg (by simpa using e)]
      simp [List.cons_lt_cons_iff, e]
mutual
theorem dlt_toP : ∀ a b : D, plain a = true → plain b = true → alike a b = true → dlt a b = W.dataLt (toP a) (toP b)
  | .non, b, _, _, h => by
    cases b <;> first | (simp [alike] at h; done) | skip
    show false = W.dataLt .none .none
    decide
  | .bl x, b, _, _, h => by
    cases b with
    | bl y => rw [dlt, toP, toP, W.dataLt_bool]; cases x <;> cases y <;> decide
    | _ => simp [alike] at h
  | .int _, b, _, _, h => by
    cases b with
    | int y => rw [dlt, toP, toP, W.dataLt_int]
    | _ => simp [alike] at h
  | .str x, b, _, _, h => by
    cases b with
    | str y => rw [dlt, toP, toP, W.dataLt_str, slt_lt]; rfl
    | _ => simp [alike] at h
  | .tup xs, b, ha, hb, h => by
    cases b with
    | tup ys =>
      rw [dlt, toP, toP, W.dataLt_tuple]
      exact dlts_toPs xs ys (by simpa [plain] using ha) (by simpa [plain] using hb) (by simpa [alike] using h)
    | _ => simp [alike] at h
  | .lst xs, b, ha, hb, h => by
    cases b with
    | lst ys =>
      rw [dlt, toP, toP, W.dataLt_list]
      exact dlts_toPs xs ys (by simpa [plain] using ha) (by simpa [plain] using hb) (by simpa [alike] using h)
    | _ => simp [alike] at h
  | .dct _, _, h, _, _ => by simp [plain] at h
  | .itr _, _, h, _, _ => by simp [plain] at h
  | .obj _, _, h, _, _ => by simp [plain] at h
  | .fn _, _, h, _, _ => by simp [plain] at h
  | .cl _, _, h, _, _ => by simp [plain] at h
  | .ty _, _, h, _, _ => by simp [plain] at h
  | .scr _, _, h, _, _ => by simp [plain] at h
theorem dlts_toPs : ∀ xs ys : List D, plains xs = true → plains ys = true → alikes xs ys = true → dlts xs ys = W.rowLt (toPs xs) (toPs ys)
  | [], [], _, _, _ => by decide
  | [], y :: ys, _, _, _ => by
    show true = PyProof.Rows.lexLt itemOrd (.inl 0 :: []) (.inl 1 :: (W.keyToks (toP y) ++ W.keyToksAll (toPs ys)))
    rw [W.lex_atom (by decide)]
    decide
  | x :: xs, [], _, _, _ => by
    show false = PyProof.Rows.lexLt itemOrd (.inl 1 :: (W.keyToks (toP x) ++ W.keyToksAll (toPs xs))) (.inl 0 :: [])
    rw [W.lex_atom (by decide)]
    decide
  | x :: xs, y :: ys, h, k, ha => by
    have h' : plain x = true ∧ plains xs = true := by simpa [plains] using h
    have k' : plain y = true ∧ plains ys = true := by simpa [plains] using k
    have a' : alike x y = true ∧ alikes xs ys = true := by simpa [alikes] using ha
    rw [dlts, toPs, toPs]
    show _ = PyProof.Rows.lexLt itemOrd (W.keyToksAll (toP x :: toPs xs)) (W.keyToksAll (toP y :: toPs ys))
    rw [W.dataLt_cons (alike_toP x y a'.1), deq_toP x y h'.1 k'.1, dlt_toP x y h'.1 k'.1 a'.1, dlts_toPs xs ys h'.2 k'.2 a'.2]
    rfl
end
mutual
theorem Rep.dp {P : Par} {W : Wd} {H : Hp} : ∀ {d : D} {v : V}, plain d = true → Rep P W H d v → Dp P.K H v (toP d) ∧ (toP d).canLay0 = true
  | .non, _, _, h => by cases h; exact ⟨.non, rfl⟩
  | .bl _, _, _, h => by cases h; exact ⟨.bl _, rfl⟩
  | .int _, _, _, h => by cases h; exact ⟨.int _, rfl⟩
  | .str x, _, _, h => by
    obtain ⟨rfl, _, hc⟩ := h
    refine ⟨.str _, ?_⟩
    rw [toP, PyData.canLay0]
    show (S' x).cps.all (fun c => decide (c < 0x110000)) = true
    rw [← Array.all_toList, List.all_eq_true]
    exact fun c hm => decide_eq_true (hc c hm)
  | .tup ds, _, p, h => by
    obtain ⟨a, vs, rfl, h1, _, h3⟩ := h
    obtain ⟨r1, r2⟩ := Reps.dp (by simpa [plain] using p) h3
    exact ⟨.tup h1.sq r1, by rw [toP, PyData.canLay0]; exact r2⟩
  | .lst ds, _, p, h => by
    obtain ⟨a, vs, rfl, _, h1, _, h3⟩ := h
    obtain ⟨r1, r2⟩ := Reps.dp (by simpa [plain] using p) h3
    exact ⟨.lst (SqL.of h1) r1, by rw [toP, PyData.canLay0]; exact r2⟩
  | .dct _, _, h, _ => by simp [plain] at h
  | .itr _, _, h, _ => by simp [plain] at h
  | .obj _, _, h, _ => by simp [plain] at h
  | .fn _, _, h, _ => by simp [plain] at h
  | .cl _, _, h, _ => by simp [plain] at h
  | .ty _, _, h, _ => by simp [plain] at h
  | .scr _, _, h, _ => by simp [plain] at h
theorem Reps.dp {P : Par} {W : Wd} {H : Hp} : ∀ {ds : List D} {vs : List V}, plains ds = true → Reps P W H ds vs → DpAll P.K H vs (toPs ds) ∧ PyData.canLayAll0 (toPs ds) = true
  | [], _, _, h => by
    have e : _ = [] := h
    rw [e]; exact ⟨.nil, rfl⟩
  | d :: ds, _, p, h => by
    obtain ⟨v, r, rfl, h1, h2⟩ := h
    have p' : plain d = true ∧ plains ds = true := by simpa [plains] using p
    obtain ⟨a1, a2⟩ := Rep.dp p'.1 h1
    obtain ⟨b1, b2⟩ := Reps.dp p'.2 h2
    exact ⟨.cons a1 b1, by rw [toPs, PyData.canLayAll0, a2, b2]; rfl⟩
end
theorem RepR.dp {P : Par} {W : Wd} {H : Hp} {d : D} {v : V} (p : plain d = true) (h : RepR P W H d v) : Dp P.K H v (toP d) ∧ (toP d).canLay0 = true := by
  cases d with
  | lst ds =>
    obtain ⟨a, vs, rfl, h1, _, h3⟩ := h
    obtain ⟨r1, r2⟩ := Reps.dp (by simpa [plain] using p) h3
    exact ⟨.lst (SqL.of h1) r1, by rw [toP, PyData.canLay0]; exact r2⟩
  | tup ds =>
    exact Rep.dp (P := P) (W := W) (d := .tup ds) p h
  | non => exact Rep.dp (P := P) (W := W) (d := .non) p h
  | bl b => exact Rep.dp (P := P) (W := W) (d := .bl b) p h
  | int i => exact Rep.dp (P := P) (W := W) (d := .int i) p h
  | str x => exact Rep.dp (P := P) (W := W) (d := .str x) p h
  | _ => simp [plain] at p
section
variable {P : Par} {X : Cx}
def boOp : BO → Operator
  | .add => .Add
  | .sub => .Sub
  | .mul => .Mult
  | .fdiv => .FloorDiv
  | .mod => .Mod
  | .pow => .Pow
  | .shl => .LShift
  | .shr => .RShift
def rBin (P : Par) (o : BO) : R2 := fun x y H Q => ∃ W M a b d, StoR P W M H ∧ RepR P W H a x ∧ RepR P W H b y ∧ binD o a b = some d ∧ PostF P W M H d Q
theorem Reps.rep {P : Par} {W : Wd} {H : Hp} {ds : List D} {vs : List V} (h : Reps P W H ds vs) : ∀ n : Nat, Reps P W H (List.replicate n ds).flatten (List.replicate n vs).flatten
  | 0 => by simp only [List.replicate_zero, List.flatten_nil]; exact Reps.nil
  | n + 1 => by
    rw [List.replicate_succ, List.replicate_succ, List.flatten_cons, List.flatten_cons]
    exact h.append (Reps.rep h n)
theorem mulOk_ok {i j : Int} (h : mulOk i j = true) : CMul i j ∨ CMulW i j := by
  unfold mulOk at h
  simp only [Bool.or_eq_true, decide_eq_true_eq] at h
  rcases h with (h | h) | h
  · exact .inl (.inl (by omega))
  · exact .inl (.inr (by omega))
  · exact .inr h
theorem op_bin (o : BO) (hK : X.K = P.K) : OpR X (binaryOp (boOp o)) (rBin P o) := by
  intro pins s σ H x y v u Q I rx ry h
  obtain ⟨W, M, a, b, d, st, ra, rb, e, q⟩ := h
  unfold binD at e
  split at e
  · cases e; cases ra; cases rb
    exact op_add pins s σ H _ _ v u Q I rx ry ⟨_, _, rfl, rfl, q.int st⟩
  · rename_i x' y'
    split at e
    · rename_i hz
      cases e
      obtain ⟨rfl, l1, c1⟩ := ra
      obtain ⟨rfl, l2, c2⟩ := rb
      refine op_add_str pins s σ H _ _ v u Q I rx ry ⟨_, _, rfl, rfl, by rw [S'_len, S'_len, ← SZ_line]; exact hz, ?_⟩
      rw [S'_app]
      exact q.str st (by rw [List.length_append]; exact hz) fun c hc => (List.mem_append.mp hc).elim (c1 c) (c2 c)
    · cases e
  · rename_i x' y'
    split at e
    · rename_i hz
      cases e
      have q' := q.e fun _ z => nomatch z
      have ra0 := ra
      have rb0 := rb
      obtain ⟨a, vs, rfl, h1, h2, h3⟩ := ra
      obtain ⟨b, us, rfl, k1, k2, k3⟩ := rb
      have h1' := h1.sq
      have k1' := k1.sq
      rw [← hK] at h1' k1'
      refine op_catA pins s σ H _ _ v u Q I rx ry ⟨a, b, vs, us, rfl, rfl, h1', k1', by rw [h3.length, k3.length, ← SZ_line]; exact hz, fun z => ?_, fun z z' => ?_, fun z z' p np => ?_⟩
      · subst z
        have e1 : x' = [] := List.eq_nil_of_length_eq_zero h3.length.symm
        subst e1
        rw [List.nil_append] at q'
        exact q'.same st rb0
      · subst z'
        have e1 : y' = [] := List.eq_nil_of_length_eq_zero k3.length.symm
        subst e1
        rw [List.append_nil] at q'
        exact q'.same st ra0
      · exact (q.e fun _ z => nomatch z).tup st np (by rw [List.length_append]; exact hz) (h3.append k3)
    · cases e
  · rename_i x' y'
    split at e
    · rename_i hz
      cases e
      obtain ⟨a, vs, rfl, h1, h2, h3⟩ := ra
      obtain ⟨b, us, rfl, k1, k2, k3⟩ := rb
      refine op_cat pins s σ H _ _ v u Q I rx ry ⟨a, b, vs, us, rfl, rfl, h1, k1, by rw [h3.length, k3.length, ← SZ_line]; exact hz, fun p np => ?_⟩
      exact q.lst st np (by rw [List.length_append]; exact hz) (h3.append k3)
    · cases e
  · cases e; cases ra; cases rb
    exact op_sub pins s σ H _ _ v u Q I rx ry ⟨_, _, rfl, rfl, q.int st⟩
  · split at e
    · rename_i hz
      cases e; cases ra; cases rb
      rcases mulOk_ok hz with c | c
      · exact op_mul pins s σ H _ _ v u Q I rx ry ⟨_, _, rfl, rfl, c, q.int st⟩
      · exact op_mulW pins s σ H _ _ v u Q I rx ry ⟨_, _, rfl, rfl, c, q.int st⟩
    · cases e
  · rename_i x' j
    split at e
    · rename_i hz
      simp only [Bool.and_eq_true, decide_eq_true_eq] at hz
      cases e
      obtain ⟨a, vs, rfl, h1, h2, h3⟩ := ra
      cases rb
      refine op_rep pins s σ H _ _ v u Q I rx ry ⟨a, j, vs, rfl, rfl, h1, hz.1.2, hz.2, by rw [h3.length, ← SZ_line]; exact hz.1.1, fun p np => ?_⟩
      exact q.lst st np (by rw [PyProof.Rows.lm_len_rep_flat, Nat.mul_comm]; exact hz.1.1) (h3.rep j.toNat)
    · cases e
  · split at e
    · rename_i hz
      cases e; cases ra; cases rb
      unfold divOk at hz
      simp only [Bool.and_eq_true, decide_eq_true_eq] at hz
      exact op_fdivW pins s σ H _ _ v u Q I rx ry ⟨_, _, rfl, rfl, hz, q.int st⟩
    · cases e
  · split at e
    · rename_i hz
      cases e; cases ra; cases rb
      exact op_mod pins s σ H _ _ v u Q I rx ry ⟨_, _, rfl, rfl, of_decide_eq_true hz, q.int st⟩
    · cases e
  · split at e
    · rename_i hz
      cases e; cases ra; cases rb
      unfold powOk at hz
      simp only [Bool.and_eq_true, decide_eq_true_eq] at hz
      exact op_pow pins s σ H _ _ v u Q I rx ry ⟨_, _, rfl, rfl, ⟨hz.1.1, hz.1.2, hz.2⟩, q.int st⟩
    · cases e
  · split at e
    · rename_i hz
      cases e; cases ra; cases rb
      exact op_shr pins s σ H _ _ v u Q I rx ry ⟨_, _, rfl, rfl, of_decide_eq_true hz, q.int st⟩
    · cases e
  · cases e
end
end Ev
set_option Elab.async false
set_option linter.all false
set_option autoImplicit false
set_option maxRecDepth 100000
set_option maxHeartbeats 4000000
namespace Ev
open PySem PySem.Spec PyProof.Rows L2
section
variable {P : Par} {X : Cx}
def coOp : CO → CmpOp
  | .eq => .Eq
  | .ne => .NotEq
  | .lt => .Lt
  | .le => .LtE
  | .gt => .Gt
  | .ge => .GtE
  | .isin => .In
  | .notin => .NotIn
  | .is => .Is
  | .isnt => .IsNot
def rCmp (P : Par) (o : CO) : R2 := fun x y H Q => ∃ W M a b d, StoR P W M H ∧ RepR P W H a x ∧ RepR P W H b y ∧ cmpD o a b = some d ∧ PostE P W M H (.bl d) Q
theorem min_le64 {a b : Nat} (h : a ≤ 64 ∨ b ≤ 64) : min a b ≤ 64 := by omega
theorem eqOk_iff {a b : D} (h : eqOk a b = true) : plain a = true ∧ plain b = true ∧ min (depth a) (depth b) ≤ 64 := by
  unfold eqOk at h
  simp only [Bool.and_eq_true, Bool.or_eq_true, decide_eq_true_eq] at h
  exact ⟨h.1.1, h.1.2, min_le64 h.2⟩
theorem ltOk_iff {a b : D} (h : ltOk a b = true) : plain a = true ∧ plain b = true ∧ alike a b = true ∧ min (depth a) (depth b) ≤ 64 ∧ a ≠ .non := by
  unfold ltOk at h
  simp only [Bool.and_eq_true, Bool.or_eq_true, decide_eq_true_eq] at h
  refine ⟨h.1.1.1.1, h.1.1.1.2, h.1.1.2, min_le64 h.1.2, ?_⟩
  rintro rfl
  exact absurd h.2 (by decide)
theorem any_toPs (a : D) (ha : plain a = true) : ∀ ys : List D, plains ys = true → ((toPs ys).any fun y => PyData.eqv y (toP a)) = ys.any fun y => deq y a
  | [], _ => rfl
  | y :: ys, h => by
    have h' : plain y = true ∧ plains ys = true := by simpa [plains] using h
    rw [toPs, List.any_cons, List.any_cons, deq_toP y a h'.1 ha, any_toPs a ha ys h'.2]
theorem str_of {P : Par} {W : Wd} {H : Hp} {y : List Nat} {v : V} (h : RepR P W H (.str y) v) : v = .str (S' y) := h.1
theorem op_isD {neg : Bool} {a b : D} {pins : List (Addr × Obj)} {s : Shared} {σ : L2.St} {H : Hp} {x y : V} {v u : Value} {Q : VK} {W : Wd} {M : Sto} {d : Bool} (I : Inv X pins σ H s) (rx : RelV x v) (ry : RelV y u)
    (st : StoR P W M H) (ra : RepR P W H a x) (rb : RepR P W H b y) (e : isD a b = some d) (q : ∀ k, k = (if neg then !d else d) → Q (.bl k) H) :
    wpAny (model X.prog X.w) X.A (compareOp (if neg then .IsNot else .Is) v u) (EP X pins σ Q) X.xe s := by
  unfold isD at e
  split at e
  · cases e; cases ra; cases rb
    cases neg
    · exact op_isN pins s σ H _ _ v u Q I rx ry ⟨rfl, q _ (by decide)⟩
    · exact op_notN pins s σ H _ _ v u Q I rx ry ⟨rfl, q _ (by decide)⟩
  · rename_i hne
    cases e; cases rb
    have hx : x ≠ .non := fun z => by
      subst z
      cases a with
      | non => exact hne rfl
      | bl _ => cases (show V.non = .bl _ from ra)
      | int _ => cases (show V.non = .int _ from ra)
      | str _ => cases (show V.non = .str _ from ra.1)
      | tup _ => obtain ⟨_, _, e, _⟩ := ra; cases e
      | lst _ => obtain ⟨_, _, e, _⟩ := ra; cases e
      | dct _ => exact (show False from ra)
      | itr _ => exact (show False from ra)
      | obj _ => obtain ⟨_, e, _⟩ := ra; cases e
      | fn _ => cases (show V.non = .ref _ from ra)
      | cl _ => cases (show V.non = .ref _ from ra)
      | ty _ => cases (show V.non = .ty _ from ra)
      | scr _ => obtain ⟨_, _, e, _⟩ := ra; cases e
    cases neg
    · exact op_isN pins s σ H _ _ v u Q I rx ry ⟨rfl, q _ (by rw [decide_eq_false hx]; rfl)⟩
    · exact op_notN pins s σ H _ _ v u Q I rx ry ⟨rfl, q _ (by rw [decide_eq_false hx]; rfl)⟩
  · cases e; cases ra; cases rb
    rename_i i j
    have z : decide (i = j) = (i == j) := by cases i <;> cases j <;> rfl
    cases neg
    · exact op_is_bl pins s σ H _ _ v u Q I rx ry ⟨_, _, rfl, rfl, q _ (by rw [z]; rfl)⟩
    · exact op_isnot_bl pins s σ H _ _ v u Q I rx ry ⟨_, _, rfl, rfl, q _ (by rw [z]; rfl)⟩
  · cases e
  · cases e
theorem op_in2 {neg : Bool} {a b : D} {pins : List (Addr × Obj)} {s : Shared} {σ : L2.St} {H : Hp} {x y : V} {v u : Value} {Q : VK} {W : Wd} {M : Sto} {d : Bool} (hK : X.K = P.K) (hu : X.A.units + 66 < cLine) (I : Inv X pins σ H s) (rx : RelV x v) (ry : RelV y u)
    (st : StoR P W M H) (ra : RepR P W H a x) (rb : RepR P W H b y) (e : inD a b = some d) (q : ∀ k, k = (if neg then !d else d) → Q (.bl k) H) :
    wpAny (model X.prog X.w) X.A (compareOp (if neg then .NotIn else .In) v u) (EP X pins σ Q) X.xe s := by
  unfold inD at e
  split at e
  · rename_i y'
    split at e
    · rename_i c
      cases e
      have e1 := str_of ra
      have e2 := str_of rb
      subst e1 e2
      cases neg
      · exact op_in_sign pins s σ H _ _ v u Q I rx ry ⟨c, _, rfl, rfl, q _ rfl⟩
      · exact op_notIn_sign pins s σ H _ _ v u Q I rx ry ⟨c, _, rfl, rfl, q _ rfl⟩
    · cases e
  · rename_i ys
    split at e
    · rename_i hz
      cases e
      obtain ⟨p1, p2, p3⟩ := eqOk_iff hz
      have pys : plains ys = true := by simpa [plain] using p2
      obtain ⟨d1, l1⟩ := ra.dp p1
      obtain ⟨d2, l2⟩ := rb.dp p2
      rw [← hK] at d1 d2
      obtain ⟨as, r1⟩ := Dp.reads I _ x v d1 rx
      obtain ⟨bs, r2⟩ := Dp.reads I _ y u d2 ry
      have lay : PyData.canLayAll0 (toPs ys) = true := by rw [toP, PyData.canLay0] at l2; exact l2
      have room : X.A.units + 1 + min (PyData.depthAll (toPs ys)) (toP a).depth < cLine := by
        rw [depth_toPs _ pys, depth_toP _ p1]
        rw [depth] at p3
        omega
      rw [toP] at r2
      have hq := q
      rw [← any_toPs a p1 ys pys] at hq
      cases neg
      · exact SeqAt.in_list_reads r2 r1 lay l1 room ⟨.bl _, H, I, rfl, hq _ rfl⟩
      · exact SeqAt.notIn_list_reads r2 r1 lay l1 room ⟨.bl _, H, I, rfl, hq _ rfl⟩
    · cases e
  · rename_i ys
    split at e
    · rename_i hz
      cases e
      obtain ⟨p1, p2, p3⟩ := eqOk_iff hz
      have pys : plains ys = true := by simpa [plain] using p2
      obtain ⟨d1, l1⟩ := ra.dp p1
      obtain ⟨d2, l2⟩ := rb.dp p2
      rw [← hK] at d1 d2
      obtain ⟨as, r1⟩ := Dp.reads I _ x v d1 rx
      obtain ⟨bs, r2⟩ := Dp.reads I _ y u d2 ry
      have lay : PyData.canLayAll0 (toPs ys) = true := by rw [toP, PyData.canLay0] at l2; exact l2
      have room : X.A.units + 1 + min (PyData.depthAll (toPs ys)) (toP a).depth < cLine := by
        rw [depth_toPs _ pys, depth_toP _ p1]
        rw [depth] at p3
        omega
      rw [toP] at r2
      have hq := q
      rw [← any_toPs a p1 ys pys] at hq
      cases neg
      · exact SeqAt.in_tuple_reads r2 r1 lay l1 room ⟨.bl _, H, I, rfl, hq _ rfl⟩
      · exact SeqAt.notIn_tuple_reads r2 r1 lay l1 room ⟨.bl _, H, I, rfl, hq _ rfl⟩
    · cases e
  · exact (show False from rb).elim
  · cases e
theorem sc_cases {a b : D} (h : ltOk a b = true) (k : isSc a = true) : (∃ i j, a = .int i ∧ b = .int j ∧ dlt a b = decide (i < j)) ∨ ∃ x y, a = .str x ∧ b = .str y ∧ dlt a b = decide (x < y) := by
  obtain ⟨_, _, h3, _, _⟩ := ltOk_iff h
  cases a with
  | int i =>
    cases b with
    | int j => exact .inl ⟨i, j, rfl, rfl, rfl⟩
    | _ => simp [alike] at h3
  | str x =>
    cases b with
    | str y => exact .inr ⟨x, y, rfl, rfl, slt_lt x y⟩
    | _ => simp [alike] at h3
  | _ => simp [isSc] at k
theorem not_lt_int (i j : Int) : (!decide (i < j)) = decide (j ≤ i) := by
  by_cases h : i < j
  · rw [decide_eq_true h, decide_eq_false (by omega)]; rfl
  · rw [decide_eq_false h, decide_eq_true (by omega)]; rfl
theorem op_cmp (o : CO) (hK : X.K = P.K) (hu : X.A.units + 66 < cLine) : OpR X (compareOp (coOp o)) (rCmp P o) := by
  intro pins s σ H x y v u Q I rx ry h
  obtain ⟨W, M, a, b, d, st, ra, rb, e, q⟩ := h
  have fin : ∀ k, k = d → Q (.bl k) H := fun k hk => by rw [hk]; exact q.bl st
  cases o with
  | eq =>
    have e : (if eqOk a b then some (deq a b) else none) = some d := e
    split at e
    · rename_i hz
      cases e
      obtain ⟨p1, p2, p3⟩ := eqOk_iff hz
      obtain ⟨d1, l1⟩ := ra.dp p1
      obtain ⟨d2, l2⟩ := rb.dp p2
      rw [← hK] at d1 d2
      obtain ⟨as, r1⟩ := Dp.reads I _ x v d1 rx
      obtain ⟨bs, r2⟩ := Dp.reads I _ y u d2 ry
      exact SeqAt.compareEq_reads r1 r2 l1 l2 (by rw [depth_toP _ p1, depth_toP _ p2]; omega) ⟨.bl _, H, I, rfl, fin _ (deq_toP a b p1 p2).symm⟩
    · cases e
  | ne =>
    have e : (if eqOk a b then some (!deq a b) else none) = some d := e
    split at e
    · rename_i hz
      cases e
      obtain ⟨p1, p2, p3⟩ := eqOk_iff hz
      obtain ⟨d1, l1⟩ := ra.dp p1
      obtain ⟨d2, l2⟩ := rb.dp p2
      rw [← hK] at d1 d2
      obtain ⟨as, r1⟩ := Dp.reads I _ x v d1 rx
      obtain ⟨bs, r2⟩ := Dp.reads I _ y u d2 ry
      exact SeqAt.compareNe_reads r1 r2 l1 l2 (by rw [depth_toP _ p1, depth_toP _ p2]; omega) ⟨.bl _, H, I, rfl, fin _ (by rw [deq_toP a b p1 p2])⟩
    · cases e
  | lt =>
    have e : (if ltOk a b then some (dlt a b) else none) = some d := e
    split at e
    · rename_i hz
      cases e
      obtain ⟨p1, p2, p3, p4, p5⟩ := ltOk_iff hz
      obtain ⟨d1, l1⟩ := ra.dp p1
      obtain ⟨d2, l2⟩ := rb.dp p2
      rw [← hK] at d1 d2
      obtain ⟨as, r1⟩ := Dp.reads I _ x v d1 rx
      obtain ⟨bs, r2⟩ := Dp.reads I _ y u d2 ry
      have nn : toP a ≠ .none := by
        intro z
        cases a with
        | non => exact p5 rfl
        | dct _ => simp [plain] at p1
        | itr _ => simp [plain] at p1
        | obj _ => simp [plain] at p1
        | fn _ => simp [plain] at p1
        | cl _ => simp [plain] at p1
        | ty _ => simp [plain] at p1
        | scr _ => simp [plain] at p1
        | _ => simp [toP] at z
      exact PySem.W.rcLt_alike _ _ _ _ _ _ _ _ r1 r2 (alike_toP a b p3) nn (by rw [depth_toP _ p1, depth_toP _ p2]; omega) X.prog X.w X.xe _ ⟨.bl _, H, I, rfl, fin _ (dlt_toP a b p1 p2 p3).symm⟩
    · cases e
  | le =>
    have e : (if ltOk b a && isSc b then some (!dlt b a) else none) = some d := e
    split at e
    · rename_i hz
      rw [Bool.and_eq_true] at hz
      cases e
      rcases sc_cases hz.1 hz.2 with ⟨i, j, rfl, rfl, e1⟩ | ⟨i, j, rfl, rfl, e1⟩
      · cases ra; cases rb
        rw [e1, not_lt_int] at fin
        exact op_le pins s σ H _ _ v u Q I rx ry ⟨_, _, rfl, rfl, fin _ rfl⟩
      · have e2 := str_of ra
        have e3 := str_of rb
        subst e2 e3
        rw [e1] at fin
        exact op_le_str pins s σ H _ _ v u Q I rx ry ⟨_, _, rfl, rfl, fin _ rfl⟩
    · cases e
  | gt =>
    have e : (if ltOk b a && isSc b then some (dlt b a) else none) = some d := e
    split at e
    · rename_i hz
      rw [Bool.and_eq_true] at hz
      cases e
      rcases sc_cases hz.1 hz.2 with ⟨i, j, rfl, rfl, e1⟩ | ⟨i, j, rfl, rfl, e1⟩
      · cases ra; cases rb
        rw [e1] at fin
        exact op_gt pins s σ H _ _ v u Q I rx ry ⟨_, _, rfl, rfl, fin _ rfl⟩
      · have e2 := str_of ra
        have e3 := str_of rb
        subst e2 e3
        rw [e1] at fin
        exact op_gt_str pins s σ H _ _ v u Q I rx ry ⟨_, _, rfl, rfl, fin _ rfl⟩
    · cases e
  | ge =>
    have e : (if ltOk a b && isSc a then some (!dlt a b) else none) = some d := e
    split at e
    · rename_i hz
      rw [Bool.and_eq_true] at hz
      cases e
      rcases sc_cases hz.1 hz.2 with ⟨i, j, rfl, rfl, e1⟩ | ⟨i, j, rfl, rfl, e1⟩
      · cases ra; cases rb
        rw [e1, not_lt_int] at fin
        exact op_ge pins s σ H _ _ v u Q I rx ry ⟨_, _, rfl, rfl, fin _ rfl⟩
      · have e2 := str_of ra
        have e3 := str_of rb
        subst e2 e3
        rw [e1] at fin
        exact op_ge_str pins s σ H _ _ v u Q I rx ry ⟨_, _, rfl, rfl, fin _ rfl⟩
    · cases e
  | isin => exact op_in2 (neg := false) hK hu I rx ry st ra rb e fin
  | notin =>
    have e : (inD a b).map (!·) = some d := e
    cases z : inD a b with
    | none => rw [z] at e; cases e
    | some k =>
      rw [z] at e
      cases e
      exact op_in2 (neg := true) hK hu I rx ry st ra rb z fin
  | is => exact op_isD (neg := false) I rx ry st ra rb e fin
  | isnt =>
    have e : (isD a b).map (!·) = some d := e
    cases z : isD a b with
    | none => rw [z] at e; cases e
    | some k =>
      rw [z] at e
      cases e
      exact op_isD (neg := true) I rx ry st ra rb z fin
end
end Ev
set_option Elab.async false
set_option linter.all false
set_option autoImplicit false
set_option maxRecDepth 100000
set_option maxHeartbeats 4000000
namespace Ev
open PySem PySem.Spec PyProof.Rows L2
def RepRs (P : Par) (W : Wd) (H : Hp) : List D → List V → Prop
  | [], vs => vs = []
  | d :: ds, vs => ∃ v r, vs = v :: r ∧ RepR P W H d v ∧ RepRs P W H ds r
section
variable {P : Par} {X : Cx}
theorem repRs1 {W : Wd} {H : Hp} {a : D} {xs : List V} (h : RepRs P W H [a] xs) : ∃ x, xs = [x] ∧ RepR P W H a x := by
  obtain ⟨v, r, rfl, h1, h2⟩ := h
  cases h2
  exact ⟨v, rfl, h1⟩
theorem repRs2 {W : Wd} {H : Hp} {a b : D} {xs : List V} (h : RepRs P W H [a, b] xs) : ∃ x y, xs = [x, y] ∧ RepR P W H a x ∧ RepR P W H b y := by
  obtain ⟨v, r, rfl, h1, h2⟩ := h
  obtain ⟨y, rfl, h3⟩ := repRs1 h2
  exact ⟨v, y, rfl, h1, h3⟩
def biVal : Bi → Value
  | .len => .builtin "len"
  | .isinst => .builtin "isinstance"
  | .tuple => .type "tuple"
  | .list => .type "list"
  | .all => .builtin "all"
  | .any => .builtin "any"
  | .sorted => .builtin "sorted"
  | .sum => .builtin "sum"
  | .min => .builtin "min"
  | .max => .builtin "max"
  | .abs => .builtin "abs"
  | .int => .type "int"
  | .str => .type "str"
  | .range => .type "range"
  | .enum => .type "enumerate"
  | .zip => .type "zip"
def rBi (P : Par) (b : Bi) : List V → Hp → VK → Prop := fun xs H Q => ∃ W M as d, StoR P W M H ∧ RepRs P W H as xs ∧ biD b as = some d ∧ PostF P W M H d Q
theorem seq_sq {W : Wd} {H : Hp} {a : D} {ds : List D} {x : V} (e : listOf a = some ds) (h : RepR P W H a x) : ∃ p vs, x = .ref p ∧ (SqL P.K H p vs ∨ SqT P.K H p vs) ∧ ds.length ≤ SZ ∧ Reps P W H ds vs := by
  cases a with
  | tup xs =>
    cases e
    obtain ⟨p, vs, rfl, h1, h2, h3⟩ := h
    exact ⟨p, vs, rfl, .inr h1.sq, h2, h3⟩
  | lst xs =>
    cases e
    obtain ⟨p, vs, rfl, h1, h2, h3⟩ := h
    exact ⟨p, vs, rfl, .inl (SqL.of h1), h2, h3⟩
  | scr xs =>
    cases e
    obtain ⟨p, vs, rfl, h1, h2, h3⟩ := h
    exact ⟨p, vs, rfl, .inl h1.sq, h2, h3⟩
  | _ => cases e
theorem bools_of {W : Wd} {H : Hp} : ∀ {ds : List D} {vs : List V} {bs : List Bool}, boolsD ds = some bs → Reps P W H ds vs → vs = bs.map V.bl
  | [], _, _, e, h => by
    cases e
    exact h
  | d :: ds, _, bs, e, h => by
    obtain ⟨v, r, rfl, h1, h2⟩ := h
    cases d with
    | bl b =>
      cases z : boolsD ds with
      | none => rw [boolsD, z] at e; cases e
      | some cs =>
        rw [boolsD, z] at e
        cases e
        rw [List.map_cons, ← bools_of z h2, show v = V.bl b from h1]
    | _ => cases e
theorem ints_of {W : Wd} {H : Hp} : ∀ {ds : List D} {vs : List V} {bs : List Int}, intsD ds = some bs → Reps P W H ds vs → vs = bs.map V.int
  | [], _, _, e, h => by
    cases e
    exact h
  | d :: ds, _, bs, e, h => by
    obtain ⟨v, r, rfl, h1, h2⟩ := h
    cases d with
    | int b =>
      cases z : intsD ds with
      | none => rw [intsD, z] at e; cases e
      | some cs =>
        rw [intsD, z] at e
        cases e
        rw [List.map_cons, ← ints_of z h2, show v = V.int b from h1]
    | _ => cases e
theorem strs_of {W : Wd} {H : Hp} : ∀ {ds : List D} {vs : List V} {bs : List (List Nat)}, strsD ds = some bs → Reps P W H ds vs → vs = (bs.map S').map V.str ∧ ∀ x ∈ bs, ∀ c ∈ x, c < 1114112
  | [], _, _, e, h => by
    cases e
    exact ⟨h, fun _ z => nomatch z⟩
  | d :: ds, _, bs, e, h => by
    obtain ⟨v, r, rfl, h1, h2⟩ := h
    cases d with
    | str b =>
      cases z : strsD ds with
      | none => rw [strsD, z] at e; cases e
      | some cs =>
        rw [strsD, z] at e
        cases e
        obtain ⟨k1, k2⟩ := strs_of z h2
        obtain ⟨rfl, _, hc⟩ := h1
        refine ⟨by rw [List.map_cons, List.map_cons, ← k1], fun x hx => ?_⟩
        rcases List.mem_cons.mp hx with rfl | hx
        · exact hc
        · exact k2 x hx
    | _ => cases e
theorem kit_all : ∀ t ∈ ["NoneType", "int", "bool", "str", "tuple", "list", "dict"], ∀ n ∈ ["int", "bool", "str", "tuple", "list", "dict"], kitB t n = some (isTy t n) := by decide +kernel
theorem tyName_x {W : Wd} {H : Hp} {a : D} {x : V} {t : String} (e : tyName a = some t) (h : RepR P W H a x) : TyX P.K H x (.type t) ∧ t ∈ ["NoneType", "int", "bool", "str", "tuple", "list", "dict"] := by
  cases a with
  | non => cases e; cases h; exact ⟨.base .non, by decide⟩
  | bl b => cases e; cases h; exact ⟨.base (.bl b), by decide⟩
  | int b => cases e; cases h; exact ⟨.base (.int b), by decide⟩
  | str b => cases e; obtain ⟨rfl, _⟩ := h; exact ⟨.base (.str _), by decide⟩
  | tup ds =>
    cases e
    obtain ⟨p, vs, rfl, h1, _⟩ := h
    refine ⟨?_, by decide⟩
    rcases h1 with ⟨_, h1 | ⟨o, h1⟩⟩ | ⟨o, its, n, h1, h2, _⟩
    · exact .base (.tup h1)
    · exact .fTuple h1
    · exact .kTuple h1 h2
  | lst ds =>
    cases e
    obtain ⟨p, vs, rfl, h1, _⟩ := h
    exact ⟨.base (.lst h1), by decide⟩
  | scr ds =>
    cases e
    obtain ⟨p, vs, rfl, h1, _⟩ := h
    refine ⟨?_, by decide⟩
    rcases h1 with ⟨_, h1 | ⟨o, h1⟩⟩ | ⟨o, its, n, h1, hc, _⟩
    · exact .base (.lst h1)
    · exact .base (.frz h1)
    · exact .kList h1 hc
  | dct _ => exact (show False from h).elim
  | _ => cases e
theorem listOf_len {W : Wd} {H : Hp} {a : D} {ds : List D} {x : V} (e : listOf a = some ds) (h : RepR P W H a x) : LenV P.K x H ds.length := by
  obtain ⟨p, vs, rfl, h1, _, h3⟩ := seq_sq e h
  rw [← h3.length]
  exact h1.imp (fun h => ⟨vs, h, rfl⟩) fun h => ⟨vs, h, rfl⟩
theorem strJoin_S' (s : List Nat) : ∀ ys : List (List Nat), Str.join (S' s) (ys.map S') = S' (gluei s ys)
  | [] => rfl
  | [_] => rfl
  | x :: y :: r => by
    have ih := strJoin_S' s (y :: r)
    show S' x ++ S' s ++ Str.join (S' s) ((y :: r).map S') = S' (x ++ (s ++ gluei s (y :: r)))
    rw [ih, S'_app, S'_app, List.append_assoc]
theorem join_S' (s : List Nat) (ys : List (List Nat)) : Txt.join (S' s) (ys.map S') = S' (gluei s ys) := (PySem.StrLaws.glued_eq_join _ _).trans (strJoin_S' s ys)
theorem maxI_eq (a : Int) : ∀ r : List Int, maxI a r ∈ a :: r ∧ ∀ y ∈ a :: r, y ≤ maxI a r
  | [] => by simp [maxI]
  | b :: r => by
    rw [maxI]
    obtain ⟨h1, h2⟩ := maxI_eq (if b > a then b else a) r
    have hx : a ≤ (if b > a then b else a) ∧ b ≤ (if b > a then b else a) := by split <;> omega
    have hm := h2 _ List.mem_cons_self
    refine ⟨?_, fun y hy => ?_⟩
    · rcases List.mem_cons.mp h1 with e | e
      · rw [e]; split <;> simp
      · exact List.mem_cons_of_mem _ (List.mem_cons_of_mem _ e)
    · rcases List.mem_cons.mp hy with rfl | hy
      · omega
      · rcases List.mem_cons.mp hy with rfl | hy
        · omega
        · exact h2 y (List.mem_cons_of_mem _ hy)
theorem minI_eq (a : Int) : ∀ r : List Int, minI a r ∈ a :: r ∧ ∀ y ∈ a :: r, minI a r ≤ y
  | [] => by simp [minI]
  | b :: r => by
    rw [minI]
    obtain ⟨h1, h2⟩ := minI_eq (if b < a then b else a) r
    have hx : (if b < a then b else a) ≤ a ∧ (if b < a then b else a) ≤ b := by split <;> omega
    have hm := h2 _ List.mem_cons_self
    refine ⟨?_, fun y hy => ?_⟩
    · rcases List.mem_cons.mp h1 with e | e
      · rw [e]; split <;> simp
      · exact List.mem_cons_of_mem _ (List.mem_cons_of_mem _ e)
    · rcases List.mem_cons.mp hy with rfl | hy
      · omega
      · rcases List.mem_cons.mp hy with rfl | hy
        · omega
        · exact h2 y (List.mem_cons_of_mem _ hy)
def biCall : Bi → Bool
  | .len | .isinst | .tuple | .list | .all | .any | .sum | .min | .max | .abs | .int => true
  | _ => false
theorem cr_bi (b : Bi) (hb : biCall b = true) (hK : X.K = P.K) (hc : X.calm = true) : CallR X (biVal b) (rBi P b) := by
  intro pins s σ H xs us Q I r h
  obtain ⟨W, M, as, d, st, ra, e, q⟩ := h
  unfold biD at e
  split at e
  · obtain ⟨x, rfl, h⟩ := repRs1 ra
    cases e
    obtain ⟨rfl, hl, _⟩ := h
    exact call_len pins s σ H _ us Q I r ⟨_, _, rfl, ⟨by rw [S'_len, ← SZ_line]; exact hl, rfl⟩, by rw [S'_len]; exact q.int st⟩
  · obtain ⟨x, rfl, h⟩ := repRs1 ra
    cases e
    have hl := listOf_len (ds := _) rfl h
    rw [← hK] at hl
    exact call_len pins s σ H _ us Q I r ⟨_, _, rfl, hl, q.int st⟩
  · obtain ⟨x, rfl, h⟩ := repRs1 ra
    cases e
    have hl := listOf_len (ds := _) rfl h
    rw [← hK] at hl
    exact call_len pins s σ H _ us Q I r ⟨_, _, rfl, hl, q.int st⟩
  · obtain ⟨x, rfl, h⟩ := repRs1 ra
    cases e
    have hl := listOf_len (ds := _) rfl h
    rw [← hK] at hl
    exact call_len pins s σ H _ us Q I r ⟨_, _, rfl, hl, q.int st⟩
  · obtain ⟨x, rfl, h⟩ := repRs1 ra
    exact (show False from h).elim
  · rename_i a n
    obtain ⟨x, y, rfl, h1, h2⟩ := repRs2 ra
    split at e
    · rename_i hk
      cases z : tyName a with
      | none => rw [z] at e; cases e
      | some t =>
        rw [z] at e
        cases e
        cases (show y = V.ty n from h2)
        obtain ⟨ty, mt⟩ := tyName_x z h1
        rw [← hK] at ty
        have hn : n ∈ ["int", "bool", "str", "tuple", "list", "dict"] := by simpa [tyKnown] using hk
        exact call_isi pins s σ H _ us Q I r ⟨x, .ty n, .type t, .type n, _, rfl, ClsV.ty n, ty, kit_ty (kit_all t mt n hn), q.bl st⟩
    · cases e
  · rename_i a
    obtain ⟨x, rfl, h⟩ := repRs1 ra
    cases z : listOf a with
    | none => rw [z] at e; cases e
    | some ds =>
      rw [z] at e
      cases e
      obtain ⟨p, vs, rfl, h1, h2, h3⟩ := seq_sq z h
      have q' := q.e fun _ z => nomatch z
      rw [← hK] at h1
      rcases h1 with h1 | h1
      · exact call_tuple_of pins s σ H _ us Q I r ⟨p, vs, rfl, .inl ⟨h1, fun l nl => q'.tup st nl h2 h3⟩⟩
      · have hr : Rep P W H (.tup ds) (.ref p) := by
          cases a with
          | tup xs => cases z; exact h
          | lst xs =>
            cases z
            obtain ⟨p', vs', e1, e2, _⟩ := h
            cases e1
            obtain ⟨its, rv, pl, _⟩ := I.tuple h1
            obtain ⟨its2, rv2, pl2, _⟩ := I.list (SqL.of e2)
            obtain ⟨o, ho, hc1, _⟩ := pl
            obtain ⟨o2, n2, ho2, hc2, _⟩ := pl2
            rw [ho] at ho2
            cases ho2
            rw [hc1] at hc2
            exact absurd hc2 (by simp)
          | scr xs =>
            cases z
            obtain ⟨p', vs', e1, e2, _⟩ := h
            cases e1
            obtain ⟨its, rv, pl, _⟩ := I.tuple h1
            have e2 := e2.sq
            rw [← hK] at e2
            obtain ⟨its2, rv2, pl2, _⟩ := I.list e2
            obtain ⟨o, ho, hc1, _⟩ := pl
            obtain ⟨o2, n2, ho2, hc2, _⟩ := pl2
            rw [ho] at ho2
            cases ho2
            rw [hc1] at hc2
            exact absurd hc2 (by simp)
          | _ => cases z
        exact call_tuple_of pins s σ H _ us Q I r ⟨p, vs, rfl, .inr ⟨h1, q'.same st hr⟩⟩
  · rename_i a
    obtain ⟨x, rfl, h⟩ := repRs1 ra
    cases z : listOf a with
    | none => rw [z] at e; cases e
    | some ds =>
      rw [z] at e
      cases e
      obtain ⟨p, vs, rfl, h1, h2, h3⟩ := seq_sq z h
      rw [← hK] at h1
      exact call_list_of pins s σ H _ us Q I r ⟨p, vs, rfl, h1, fun l nl => q.lst st nl h2 h3⟩
  · rename_i ds
    obtain ⟨x, rfl, h⟩ := repRs1 ra
    cases z : boolsD ds with
    | none => rw [z] at e; cases e
    | some bs =>
      rw [z] at e
      cases e
      obtain ⟨p, vs, rfl, h1, h2, h3⟩ := h
      have ev := bools_of z h3
      subst ev
      exact cr_all hc pins s σ H _ us Q I r ⟨p, bs, rfl, SqL.of h1, q.bl st⟩
  · rename_i ds
    obtain ⟨x, rfl, h⟩ := repRs1 ra
    cases z : boolsD ds with
    | none => rw [z] at e; cases e
    | some bs =>
      rw [z] at e
      cases e
      obtain ⟨p, vs, rfl, h1, h2, h3⟩ := h
      have ev := bools_of z h3
      subst ev
      exact cr_any hc pins s σ H _ us Q I r ⟨p, bs, rfl, SqL.of h1, q.bl st⟩
  · cases hb
  · rename_i ds
    obtain ⟨x, rfl, h⟩ := repRs1 ra
    cases z : intsD ds with
    | none => rw [z] at e; cases e
    | some bs =>
      rw [z] at e
      cases e
      obtain ⟨p, vs, rfl, h1, h2, h3⟩ := h
      have ev := ints_of z h3
      subst ev
      exact cr_sum hc pins s σ H _ us Q I r ⟨p, bs, rfl, SqL.of h1, q.int st⟩
  · rename_i ds
    obtain ⟨x, rfl, h⟩ := repRs1 ra
    cases z : intsD ds with
    | none => rw [z] at e; cases e
    | some bs =>
      rw [z] at e
      obtain ⟨p, vs, rfl, h1, h2, h3⟩ := h
      have ev := ints_of z h3
      subst ev
      cases bs with
      | nil => cases e
      | cons a t =>
        cases e
        obtain ⟨m1, m2⟩ := maxI_eq a t
        refine cr_max hc pins s σ H _ us Q I r ⟨p, a :: t, rfl, SqL.of h1, Nat.succ_pos _, fun m hm hle => ?_⟩
        have : m = maxI a t := by
          have h3 := hle _ m1
          have h4 := m2 _ hm
          omega
        subst this
        exact q.int st
  · rename_i ds
    obtain ⟨x, rfl, h⟩ := repRs1 ra
    cases z : intsD ds with
    | none => rw [z] at e; cases e
    | some bs =>
      rw [z] at e
      obtain ⟨p, vs, rfl, h1, h2, h3⟩ := h
      have ev := ints_of z h3
      subst ev
      cases bs with
      | nil => cases e
      | cons a t =>
        cases e
        obtain ⟨m1, m2⟩ := minI_eq a t
        refine cr_min hc pins s σ H _ us Q I r ⟨p, a :: t, rfl, SqL.of h1, Nat.succ_pos _, fun m hm hle => ?_⟩
        have : m = minI a t := by
          have h3 := hle _ m1
          have h4 := m2 _ hm
          omega
        subst this
        exact q.int st
  · obtain ⟨x, y, rfl, h1, h2⟩ := repRs2 ra
    cases e; cases h1; cases h2
    exact call_max2 hc pins s σ H _ us Q I r ⟨_, _, rfl, q.int st⟩
  · obtain ⟨x, y, rfl, h1, h2⟩ := repRs2 ra
    cases e; cases h1; cases h2
    exact call_min2 hc pins s σ H _ us Q I r ⟨_, _, rfl, q.int st⟩
  · obtain ⟨x, rfl, h⟩ := repRs1 ra
    cases e; cases h
    exact call_abs pins s σ H _ us Q I r ⟨_, rfl, q.int st⟩
  · obtain ⟨x, rfl, h⟩ := repRs1 ra
    cases e; cases h
    exact call_int1 pins s σ H _ us Q I r (.inl ⟨_, rfl, q.int st⟩)
  · obtain ⟨x, rfl, h⟩ := repRs1 ra
    cases e; cases h
    exact call_int1 pins s σ H _ us Q I r (.inr ⟨_, rfl, q.int st⟩)
  all_goals first | cases hb | cases e
theorem gluei_len (s : List Nat) : ∀ ys : List (List Nat), (gluei s ys).length ≤ (ys.map List.length).sum + ys.length * s.length
  | [] => by simp [gluei]
  | [x] => by simp [gluei]
  | x :: y :: r => by
    have ih := gluei_len s (y :: r)
    rw [gluei, List.length_append, List.length_append, List.map_cons, List.sum_cons, List.length_cons]
    rw [Nat.succ_mul]
    omega
theorem gluei_mem (s : List Nat) : ∀ (ys : List (List Nat)) (c : Nat), c ∈ gluei s ys → c ∈ s ∨ ∃ y ∈ ys, c ∈ y
  | [], c, h => nomatch h
  | [x], c, h => .inr ⟨x, List.mem_cons_self, h⟩
  | x :: y :: r, c, h => by
    rw [gluei] at h
    rcases List.mem_append.mp h with h | h
    · exact .inr ⟨x, List.mem_cons_self, h⟩
    · rcases List.mem_append.mp h with h | h
      · exact .inl h
      · rcases gluei_mem s (y :: r) c h with h | ⟨z, hz, h⟩
        · exact .inl h
        · exact .inr ⟨z, List.mem_cons_of_mem _ hz, h⟩
def rMe (P : Par) (m : Me) : V → List V → Hp → VK → Prop := fun x xs H Q => ∃ W M a as d, StoR P W M H ∧ RepR P W H a x ∧ RepRs P W H as xs ∧ meD m a as = some d ∧ PostF P W M H d Q
theorem mt_meJoin (hK : X.K = P.K) : MtR X "str.join" (rMe P .join) := by
  intro pins s σ H x xs v us Q I rx rs h
  obtain ⟨W, M, a, as, d, st, ra, rb, e, q⟩ := h
  have key : ∀ (z : List Nat) (ds : List D) (ys : List (List Nat)) (p : Addr) (vs : List V), a = .str z → strsD ds = some ys → xs = [.ref p] → (SqL P.K H p vs ∨ SqT P.K H p vs) → Reps P W H ds vs →
      (if (ys.map List.length).sum + ys.length * z.length ≤ SZ then some (D.str (gluei z ys)) else none) = some d → wpAny (model X.prog X.w) X.A (call (.builtin "str.join") (v :: us)) (EP X pins σ Q) X.xe s := by
    intro z ds ys p vs ea es ex hp hr he
    subst ea ex
    split at he
    · rename_i hz
      cases he
      obtain ⟨rfl, l1, c1⟩ := ra
      obtain ⟨ev, hc⟩ := strs_of es hr
      subst ev
      rw [← hK] at hp
      refine mt_join pins s σ H _ _ v us Q I rx rs ⟨_, p, ys.map S', rfl, rfl, hp, ?_, ?_⟩
      · rw [List.length_map, List.map_map, S'_len]
        have e1 : (ys.map ((fun x : Str => x.length) ∘ S')).sum = (ys.map List.length).sum := by
          congr 1
        rw [e1]
        exact hz
      · rw [join_S']
        refine q.str st (Nat.le_trans (gluei_len z ys) hz) fun c hcm => ?_
        rcases gluei_mem z ys c hcm with h | ⟨y, hy, h⟩
        · exact c1 c h
        · exact hc y hy c h
    · cases he
  unfold meD at e
  split at e
  · rename_i z ds _
    obtain ⟨y, rfl, h⟩ := repRs1 rb
    cases es : strsD ds with
    | none => rw [es] at e; cases e
    | some ys =>
      rw [es] at e
      obtain ⟨p, vs, rfl, h1, _, h3⟩ := h
      exact key z ds ys p vs rfl es rfl (.inl (SqL.of h1)) h3 e
  · rename_i z ds _
    obtain ⟨y, rfl, h⟩ := repRs1 rb
    cases es : strsD ds with
    | none => rw [es] at e; cases e
    | some ys =>
      rw [es] at e
      obtain ⟨p, vs, rfl, h1, _, h3⟩ := h
      exact key z ds ys p vs rfl es rfl (.inr h1.sq) h3 e
  all_goals first | exact (show False from ra).elim | cases e
def rSub (P : Par) : R2 := fun x y H Q => ∃ W M a b d, StoR P W M H ∧ RepR P W H a x ∧ RepR P W H b y ∧ subD a b = some d ∧ PostE P W M H d Q
theorem atI_same {α : Type} (xs : List α) (i : Int) : L2.atI xs i = atI xs i := rfl
theorem atI_reps {W : Wd} {H : Hp} {ds : List D} {vs : List V} {i : Int} {d : D} (h : Reps P W H ds vs) (e : atI ds i = some d) : ∃ v, L2.atI vs i = some v ∧ Rep P W H d v := by
  unfold atI at e
  cases z : ixN ds.length i with
  | none => rw [z] at e; cases e
  | some j =>
    rw [z] at e
    obtain ⟨v, h1, h2⟩ := h.get (show ds[j]? = some d from e)
    refine ⟨v, ?_, h2⟩
    show (ixN vs.length i).bind (fun j => vs[j]?) = some v
    rw [h.length, z]
    exact h1
theorem ix_sub (hK : X.K = P.K) : IxR X (rSub P) := by
  intro value slice pins s σ H x y v u Q I rx ry h hs
  obtain ⟨W, M, a, b, d, st, ra, rb, e, q⟩ := h
  unfold subD at e
  split at e
  · rename_i z i
    cases e1 : atI z i with
    | none => rw [e1] at e; cases e
    | some c =>
      rw [e1] at e
      cases e
      obtain ⟨rfl, hl, hc⟩ := ra
      cases rb
      have hm : c ∈ z := by
        unfold atI at e1
        cases e2 : ixN z.length i with
        | none => rw [e2] at e1; cases e1
        | some j => rw [e2] at e1; exact List.mem_of_getElem? e1
      exact ix_str value slice pins s σ H _ _ v u Q I rx ry ⟨S' z, i, c, rfl, rfl, by rw [S'_len, ← SZ_line]; exact hl, e1, q.same st ⟨rfl, (by show 1 ≤ SZ; decide), fun c' h => by
        have : c' = c := by simpa using h
        rw [this]; exact hc c hm⟩⟩ hs
  · obtain ⟨p, vs, rfl, h1, h2, h3⟩ := ra
    cases rb
    obtain ⟨w, e1, h4⟩ := atI_reps h3 e
    have h1' := h1.sq
    rw [← hK] at h1'
    exact ix_tup value slice pins s σ H _ _ v u Q I rx ry ⟨p, vs, _, w, rfl, rfl, h1', e1, q.same st h4⟩ hs
  · obtain ⟨p, vs, rfl, h1, h2, h3⟩ := ra
    cases rb
    obtain ⟨w, e1, h4⟩ := atI_reps h3 e
    exact ix_list value slice pins s σ H _ _ v u Q I rx ry ⟨p, vs, _, w, rfl, rfl, SqL.of h1, e1, q.same st h4⟩ hs
  · exact (show False from ra).elim
  · cases e
def rSlc (P : Par) : V → Option Int → Option Int → Hp → VK → Prop := fun x lo hi H Q => ∃ W M a d, StoR P W M H ∧ RepR P W H a x ∧ slcD a lo hi = some d ∧ PostF P W M H d Q
theorem cut_same {α : Type} (xs : List α) (lo hi : Option Int) : (xs.drop (HT.sIx xs.length 0 lo)).take (HT.sIx xs.length xs.length hi - HT.sIx xs.length 0 lo) = cut xs lo hi := rfl
theorem cut_reps {W : Wd} {H : Hp} {ds : List D} {vs : List V} (h : Reps P W H ds vs) (lo hi : Option Int) : Reps P W H (cut ds lo hi) (cutV vs lo hi) := by
  unfold cut cutV
  rw [h.length]
  exact (h.drop _).take _
theorem cut_len {α : Type} (xs : List α) (lo hi : Option Int) : (cut xs lo hi).length ≤ xs.length := by
  unfold cut
  rw [List.length_take, List.length_drop]
  omega
theorem cut_mem {α : Type} {xs : List α} {lo hi : Option Int} {c : α} (h : c ∈ cut xs lo hi) : c ∈ xs := List.mem_of_mem_drop (List.mem_of_mem_take h)
theorem sl_slc (hK : X.K = P.K) : SlR X (rSlc P) := by
  intro pins s σ H x v vl vu lo hi sl Q I rx hs pl pu h
  obtain ⟨W, M, a, d, st, ra, e, q⟩ := h
  unfold slcD at e
  split at e
  · cases e
    obtain ⟨rfl, hl, hc⟩ := ra
    refine sl_str pins s σ H _ v vl vu lo hi sl Q I rx hs pl pu ⟨_, rfl, by rw [S'_len, ← SZ_line]; exact hl, ?_⟩
    have := q.str st (Nat.le_trans (cut_len _ lo hi) hl) fun c hm => hc c (cut_mem hm)
    unfold cutS
    rw [S'_len]
    exact this
  · cases e
    have q' := q.e fun _ z => nomatch z
    have ra0 := ra
    obtain ⟨p, vs, rfl, h1, h2, h3⟩ := ra
    have h1' := h1.sq
    rw [← hK] at h1'
    refine sl_tupA pins s σ H _ v vl vu lo hi sl Q I rx hs pl pu ⟨p, vs, rfl, h1', fun hw => ?_, fun _ p np => q'.tup st np (Nat.le_trans (cut_len _ lo hi) h2) (cut_reps h3 lo hi)⟩
    rename_i ds
    have ew : cut ds lo hi = ds := by
      rw [h3.length] at hw
      unfold cut
      have w1 : sIx ds.length 0 lo = 0 := hw.1
      have w2 : sIx ds.length ds.length hi = ds.length := hw.2
      rw [w1, w2]
      simp
    have q2 : PostE P W M H (.tup (cut ds lo hi)) Q := q'
    rw [ew] at q2
    exact q2.same st ra0
  · cases e
    obtain ⟨p, vs, rfl, h1, h2, h3⟩ := ra
    exact sl_list pins s σ H _ v vl vu lo hi sl Q I rx hs pl pu ⟨p, vs, rfl, SqL.of h1, fun p np => q.lst st np (Nat.le_trans (cut_len _ lo hi) h2) (cut_reps h3 lo hi)⟩
  · cases e
    obtain ⟨p, vs, rfl, h1, h2, h3⟩ := ra
    have h1 := h1.sq
    rw [← hK] at h1
    exact sl_list pins s σ H _ v vl vu lo hi sl Q I rx hs pl pu ⟨p, vs, rfl, h1, fun p np => q.lst st np (Nat.le_trans (cut_len _ lo hi) h2) (cut_reps h3 lo hi)⟩
  · cases e
end
end Ev
set_option Elab.async false
set_option linter.all false
set_option autoImplicit false
set_option maxRecDepth 100000
set_option maxHeartbeats 4000000
namespace Ev
open PySem PySem.Spec PyProof.Rows L2
structure Cfg where
  gl : List (Str × D)
  bi : List (Str × Bi)
  ty : List (Str × String)
  ex : List Nat
  nc : Nat
mutual
def same : D → D → Bool
  | .non, .non => true
  | .bl a, .bl b => a == b
  | .int a, .int b => a == b
  | .str a, .str b => a == b
  | .tup a, .tup b => sames a b
  | .fn a, .fn b => a == b
  | .cl a, .cl b => a == b
  | _, _ => false
def sames : List D → List D → Bool
  | [], [] => true
  | x :: xs, y :: ys => same x y && sames xs ys
  | _, _ => false
end
mutual
theorem same_eq : ∀ a b : D, same a b = true → a = b
  | .non, b, h => by cases b <;> first | rfl | simp [same] at h
  | .bl _, b, h => by cases b <;> first | (simp [same] at h; subst h; rfl) | simp [same] at h
  | .int _, b, h => by cases b <;> first | (simp [same] at h; subst h; rfl) | simp [same] at h
  | .str _, b, h => by cases b <;> first | (simp [same] at h; subst h; rfl) | simp [same] at h
  | .fn _, b, h => by cases b <;> first | (simp [same] at h; subst h; rfl) | simp [same] at h
  | .cl _, b, h => by cases b <;> first | (simp [same] at h; subst h; rfl) | simp [same] at h
  | .tup xs, b, h => by
    cases b with
    | tup ys => rw [sames_eq xs ys (by simpa [same] using h)]
    | _ => simp [same] at h
  | .lst _, _, h => by simp [same] at h
  | .dct _, _, h => by simp [same] at h
  | .itr _, _, h => by simp [same] at h
  | .obj _, _, h => by simp [same] at h
  | .ty _, _, h => by simp [same] at h
  | .scr _, _, h => by simp [same] at h
theorem sames_eq : ∀ a b : List D, sames a b = true → a = b
  | [], [], _ => rfl
  | [], _ :: _, h => by simp [sames] at h
  | _ :: _, [], h => by simp [sames] at h
  | x :: xs, y :: ys, h => by
    have h' : same x y = true ∧ sames xs ys = true := by simpa [sames] using h
    rw [same_eq x y h'.1, sames_eq xs ys h'.2]
end
def vis (sc : Scope) (x : Str) : Bool := match sc.names.lookup x with
  | some .local => true
  | some .cell => true
  | some .free => true
  | _ => false
def glob (sc : Scope) (x : Str) : Bool := match sc.names.lookup x with
  | some .globalImplicit => true
  | _ => false
def locl (sc : Scope) (x : Str) : Bool := match sc.names.lookup x with
  | some .local => true
  | some .cell => true
  | _ => false
def plainName (x : Str) : Bool := !(x == ("__debug__" : Str)) && !(x == ("__classdict__" : Str)) && !(x == ("__name__" : Str))
def slotB (N : List Str) (sc : Scope) (i : Nat) (x : Str) : Bool := decide (N[i]? = some x) && vis sc x && plainName x
def isBor : E → Bool
  | .bor _ => true
  | _ => false
def isNew : E → Bool
  | .lst _ => true
  | .comp _ _ _ _ => true
  | .dcomp _ _ _ _ => true
  | .dct _ _ => true
  | .bin _ _ _ => true
  | .slc _ _ _ => true
  | .bi _ _ => true
  | _ => false
def unB : Expr → Expr
  | .BoolOp op [x] pos => x
  | e => e
def notSet : Expr → Bool
  | .Set _ _ _ => false
  | _ => true
def notSlice : Expr → Bool
  | .Slice _ _ _ _ => false
  | _ => true
def notStar : Expr → Bool
  | .Starred _ _ => false
  | _ => true
def nameOf : Expr → Option Str
  | .Name x _ => some x
  | _ => none
def notCall0 : Expr → Bool
  | .Call _ [] [] _ => false
  | _ => true
def ownOf (t : Tg) (tg : Expr) : Option (List (Str × Nat)) := match t, tg with
  | .one i, .Name x _ => some [(x, i)]
  | .tup is, .Tuple es _ _ => (es.mapM nameOf).bind fun xs => if xs.length = is.length then some (xs.zip is) else none
  | _, _ => none
def plainE : Expr → Bool
  | .BoolOp _ _ _ => false
  | .Compare _ _ _ _ => false
  | .UnaryOp _ _ _ => false
  | .IfExp _ _ _ _ => false
  | .NamedExpr _ _ _ => false
  | _ => true
def namesC (fb : Str → Bool) (N : List Str) (sc : Scope) : List Nat → List Expr → Bool
  | [], es => es.isEmpty
  | i :: is, es => (match es with
    | .Name x _ :: es => decide (N[i]? = some x) && locl sc x && (fb x || decide (sc.names.lookup x = some .local)) && namesC fb N sc is es
    | _ => false)
def chkG (fb : Str → Bool) (N : List Str) (sc : Scope) : Tg → Expr → Bool
  | .one i, .Name x _ => decide (N[i]? = some x) && locl sc x && (fb x || decide (sc.names.lookup x = some .local))
  | .tup is, .Tuple es _ _ => namesC fb N sc is es
  | _, _ => false
def cellB (scope : Scope) (x : Str) : Bool := scope.names.lookup x == some .cell
def tstB : E → Bool
  | .ite _ _ _ => false
  | .and a b => tstB a && tstB b
  | .or a b => tstB a && tstB b
  | .not a => tstB a
  | _ => true
mutual
def chkE (g : Cfg) (N : List Str) (ow : List Nat) (sc : Scope) : E → Expr → Bool
  | .var i, e => (match e with
    | .Name x _ => slotB N sc i x && !ow.contains i
    | _ => false)
  | .bor i, e => (match e with
    | .Name x _ => slotB N sc i x
    | _ => false)
  | .con d, e => (match e with
    | .Constant (.int i) _ _ => same d (.int i)
    | .Constant (.bool b) _ _ => same d (.bl b)
    | .Constant .none _ _ => same d .non
    | .Constant (.str x) _ _ => same d (.str x.cps.toList) && decide (x.cps.size ≤ SZ) && x.cps.toList.all fun c => decide (c < 1114112)
    | .Name x _ => glob sc x && plainName x && (match g.gl.lookup x with
      | some d' => same d d'
      | none => (match g.ty.lookup x, d with
        | some t, .ty n => t == n
        | _, _ => false))
    | _ => false)
  | .neg a, e => (match e with
    | .UnaryOp .USub x _ => chkE g N ow sc a x
    | _ => false)
  | .bin o a b, e => (match e with
    | .BinOp x op y _ => decide (op = boOp o) && chkE g N ow sc a x && chkE g N ow sc b y
    | _ => false)
  | .cmp o a b, e => (match e with
    | .Compare x [op] [y] _ => decide (op = coOp o) && notSet y && chkE g N ow sc a x && chkE g N ow sc b y
    | _ => false)
  | .chain o o' a b c, e => (match e with
    | .Compare x [op, op'] [y, z] _ => decide (op = coOp o) && decide (op' = coOp o') && notSet y && notSet z && chkE g N ow sc a x && chkE g N ow sc b y && chkE g N ow sc c z
    | _ => false)
  | .and a b, e => (match e with
    | .BoolOp .And (x :: y :: rest) pos => !isBor b && chkE g N ow sc a x && chkE g N ow sc b (unB (.BoolOp .And (y :: rest) pos))
    | _ => false)
  | .or a b, e => (match e with
    | .BoolOp .Or (x :: y :: rest) pos => !isBor b && chkE g N ow sc a x && chkE g N ow sc b (unB (.BoolOp .Or (y :: rest) pos))
    | _ => false)
  | .not a, e => (match e with
    | .UnaryOp .Not x _ => chkE g N ow sc a x && tstB a
    | _ => false)
  | .ite c a b, e => (match e with
    | .IfExp x y z _ => tstB c && chkE g N ow sc c x && chkE g N ow sc a y && chkE g N ow sc b z && !isBor a && !isBor b
    | _ => false)
  | .call f as, e => (match e with
    | .Call (.Name x _) es [] _ => glob sc x && plainName x && (match g.gl.lookup x with | some d => same d (.fn f) | none => false) && chkEs g N ow sc as es && as.all fun a => !isBor a
    | _ => false)
  | .callv _ _, _ => false
  | .bi b as, e => (match e with
    | .Call (.Name x _) (y :: es) [] _ => glob sc x && plainName x && (match g.bi.lookup x with | some b' => decide (b = b') | none => false) && biCall b && chkEs g N ow sc as (y :: es)
    | _ => false)
  | .join a b, e => (match e with
    | .Call (.Attribute o name apos) [y] [] pos => decide (name = ("join" : Str)) && notStar y && notCall0 o && (apos.endLine == pos.line) && chkE g N ow sc a o && chkE g N ow sc b y
    | _ => false)
  | .me _ _ _, _ => false
  | .mu _ _ _, _ => false
  | .tup as, e => (match e with
    | .Tuple es _ _ => chkEs g N ow sc as es && decide (as.length ≤ SZ) && as.all fun a => !isBor a
    | _ => false)
  | .lst as, e => (match e with
    | .List es _ => chkEs g N ow sc as es && decide (as.length ≤ SZ) && as.all fun a => !isBor a
    | _ => false)
  | .dct _ _, _ => false
  | .sub a i, e => (match e with
    | .Subscript x y _ => notSlice y && chkE g N ow sc a x && chkE g N ow sc i y
    | _ => false)
  | .slc a l h, e => (match e with
    | .Subscript x (.Slice lo hi none _) _ => chkE g N ow sc a x && (match lo with
        | none => isNon l
        | some y => !isNon l && chkE g N ow sc l y) && (match hi with
        | none => isNon h
        | some y => !isNon h && chkE g N ow sc h y)
    | _ => false)
  | .comp a t it cs, e => (match e with
    | .ListComp elt [⟨tg, iter, ifs, 0⟩] scope _ => (match ownOf t tg with
      | some own => blkC N sc scope own && notSet iter && (chkI g N ow sc it iter || chkE g N ow sc it iter) && chkG (cellB scope) N (relS scope sc) t tg && chkE g N ow (relS scope sc) a elt && !isBor a && chkEs g N ow (relS scope sc) cs ifs && decide (cs.length ≤ 1) && cs.all tstB &&
          own.all fun p => !ow.contains p.2
      | none => false)
    | _ => false)
  | .dcomp _ _ _ _, _ => false
  | .dead, _ => true
  | .alloc a, e => chkE g N ow sc a e && isNew a && plainE e
def chkI (g : Cfg) (N : List Str) (ow : List Nat) (sc : Scope) : E → Expr → Bool
  | .bi b as, e => (match e with
    | .Call (.Name x _) es [] _ => (match b with
      | .range => glob sc x && decide (x = ("range" : Str)) && (match g.bi.lookup x with | some b' => decide (b' = .range) | none => false) && chkEs g N ow sc as es && (decide (es.length = 1) || decide (es.length = 2) || decide (es.length = 3))
      | _ => false)
    | _ => false)
  | _, _ => false
def chkEs (g : Cfg) (N : List Str) (ow : List Nat) (sc : Scope) : List E → List Expr → Bool
  | [], es => es.isEmpty
  | a :: as, es => (match es with
    | e :: es => notStar e && chkE g N ow sc a e && chkEs g N ow sc as es
    | [] => false)
end
end Ev
set_option Elab.async false
set_option linter.all false
set_option autoImplicit false
set_option maxRecDepth 100000
set_option maxHeartbeats 4000000
namespace Ev
open PySem PySem.Spec PyProof.Rows L2
theorem pe_imp {X : Cx} {e : Expr} {t t' : TE} (h : PE X e t) (i : ∀ σ H Q, t' σ H Q → t σ H Q) : PE X e t' := ⟨fun pins s σ H Q I q => h.run pins s σ H Q I (i σ H Q q)⟩
theorem pt_imp {X : Cx} {e : Expr} {t t' : TT} (h : PT X e t) (i : ∀ σ H Q, t' σ H Q → t σ H Q) : PT X e t' := ⟨fun pins s σ H Q I q => h.run pins s σ H Q I (i σ H Q q)⟩
theorem pw_imp {X : Cx} {e : Expr} {t t' : TT} (h : PW X e t) (i : ∀ σ H Q, t' σ H Q → t σ H Q) : PW X e t' := ⟨fun wh pins s σ H Q I q => h.run wh pins s σ H Q I (i σ H Q q)⟩
theorem pa_imp {X : Cx} {e : List Expr} {t t' : TA} (h : PA X e t) (i : ∀ σ H Q, t' σ H Q → t σ H Q) : PA X e t' := ⟨fun pos pins s σ H Q I q => h.run pos pins s σ H Q I (i σ H Q q)⟩
def XcR (P : Par) (e : Xc) (cls : Value) (d : Option Addr) : Prop := cls = .ref (P.ca e.cls) ∧ e.args = [] ∧ d = none ∧ e.cls < P.nc
def RepQ (a : E) (P : Par) (W : Wd) (H : Hp) (d : D) (v : V) : Prop := if isBor a = true then RepW P W H d v else Rep P W H d v
theorem RepQ.w {a : E} {P : Par} {W : Wd} {H : Hp} {d : D} {v : V} (h : RepQ a P W H d v) : RepW P W H d v := by
  unfold RepQ at h
  split at h
  · exact h
  · exact .inl h
theorem RepQ.strict {a : E} {P : Par} {W : Wd} {H : Hp} {d : D} {v : V} (h : RepQ a P W H d v) (n : isBor a = false) : Rep P W H d v := by
  unfold RepQ at h
  rw [if_neg (by rw [n]; decide)] at h
  exact h
theorem RepQ.of {a : E} {P : Par} {W : Wd} {H : Hp} {d : D} {v : V} (h : Rep P W H d v) : RepQ a P W H d v := by
  unfold RepQ
  split
  · exact .inl h
  · exact h
def RepQs (P : Par) (W : Wd) (H : Hp) : List E → List D → List V → Prop
  | [], ds, vs => ds = [] ∧ vs = []
  | a :: as, ds, vs => ∃ d ds' v vs', ds = d :: ds' ∧ vs = v :: vs' ∧ RepQ a P W H d v ∧ RepQs P W H as ds' vs'
theorem RepQs.strict {P : Par} {W : Wd} {H : Hp} : ∀ {as : List E} {ds : List D} {vs : List V}, RepQs P W H as ds vs → (as.all fun a => !isBor a) = true → Reps P W H ds vs
  | [], _, _, h, _ => by
    obtain ⟨rfl, rfl⟩ := h
    exact Reps.nil
  | a :: as, _, _, h, n => by
    obtain ⟨d, ds', v, vs', rfl, rfl, h1, h2⟩ := h
    rw [List.all_cons, Bool.and_eq_true] at n
    exact Reps.cons (h1.strict (by simpa using n.1)) (RepQs.strict h2 n.2)
theorem RepQs.r {P : Par} {W : Wd} {H : Hp} {M : Sto} (s : StoR P W M H) : ∀ {as : List E} {ds : List D} {vs : List V}, RepQs P W H as ds vs → RepRs P W H (ds.map (nrm M)) vs
  | [], _, _, h => by
    obtain ⟨rfl, rfl⟩ := h
    exact rfl
  | a :: as, _, _, h => by
    obtain ⟨d, ds', v, vs', rfl, rfl, h1, h2⟩ := h
    exact ⟨v, vs', rfl, h1.w.r s, RepQs.r s h2⟩
theorem RepQs.length {P : Par} {W : Wd} {H : Hp} : ∀ {as : List E} {ds : List D} {vs : List V}, RepQs P W H as ds vs → ds.length = as.length ∧ vs.length = as.length
  | [], _, _, h => by
    obtain ⟨rfl, rfl⟩ := h
    exact ⟨rfl, rfl⟩
  | a :: as, _, _, h => by
    obtain ⟨d, ds', v, vs', rfl, rfl, h1, h2⟩ := h
    obtain ⟨l1, l2⟩ := RepQs.length h2
    exact ⟨by rw [List.length_cons, List.length_cons, l1], by rw [List.length_cons, List.length_cons, l2]⟩
def PQ (P : Par) (W : Wd) (H : Hp) (a : E) (Q : VK) (r : D × Sto) : Prop := ∀ W' v H', G W H W' H' → StoR P W' r.2 H' → RepQ a P W' H' r.1 v → Q v H'
def PF (P : Par) (W : Wd) (H : Hp) (Q : VK) (r : D × Sto) : Prop := ∀ W' v H', G W H W' H' → StoR P W' r.2 H' → RepF P W' H H' r.1 v → Q v H'
def PB (P : Par) (W : Wd) (H : Hp) (Q : Bool → Hp → Prop) (r : D × Sto) : Prop := ∃ b, r.1 = .bl b ∧ ∀ W' H', G W H W' H' → StoR P W' r.2 H' → Q b H'
def Xk (P : Par) (W : Wd) (H : Hp) (w : WX) (σ : L2.St) (e : Xc) (M' : Sto) : Prop := ∀ W' H' cls d, G W H W' H' → StoR P W' M' H' → XcR P e cls d → w cls d σ H'
theorem Xk.g {P : Par} {W W1 : Wd} {H H1 : Hp} {w : WX} {σ : L2.St} {e : Xc} {M' : Sto} (g : G W H W1 H1) (h : Xk P W H w σ e M') : Xk P W1 H1 w σ e M' := fun W' H' cls d k => h W' H' cls d (g.trans k)
section
variable (P : Par) (c : Call) (ow : List Nat) (w : WX)
def tE (a : E) : TE := fun σ H Q => ∃ W ρ M, Rel P ow W ρ M σ H ∧ (evE c a ρ M).sat (PQ P W H a Q) (Xk P W H w σ)
def tF (a : E) : TE := fun σ H Q => ∃ W ρ M, Rel P ow W ρ M σ H ∧ (evE c a ρ M).sat (PF P W H Q) (Xk P W H w σ)
def tX (a : E) : TE := if isNew a = true then tF P c ow w a else tE P c ow w a
def tT (a : E) : TT := fun σ H Q => ∃ W ρ M, Rel P ow W ρ M σ H ∧ (evE c a ρ M).sat (PB P W H Q) (Xk P W H w σ)
def tAs (as : List E) : TA := fun σ H Q => ∃ W ρ M, Rel P ow W ρ M σ H ∧ (evEs c as ρ M).sat (fun r => ∀ W' vs H', G W H W' H' → StoR P W' r.2 H' → RepQs P W' H' as r.1 vs → Q vs H') (Xk P W H w σ)
end
section
variable {P : Par} {c : Call} {ow : List Nat} {w : WX}
theorem postF_of {W W2 : Wd} {M : Sto} {H H2 : Hp} {d : D} {Q : VK} (g : G W H W2 H2) (h : ∀ W' v H', G W H W' H' → StoR P W' M H' → Rep P W' H' d v → Q v H') : PostF P W2 M H2 d Q := fun W' v H' g' s r =>
  let ⟨W'', g'', s'', r''⟩ := freeze g' s r
  h W'' v H' (g.trans g'') s'' r''
theorem isNew_bor {a : E} (h : isNew a = true) : isBor a = false := by
  cases a <;> first | rfl | cases h
theorem toE {X : Cx} {e : Expr} {a : E} (h : PE X e (tX P c ow w a)) : PE X e (tE P c ow w a) := by
  unfold tX at h
  split at h
  · rename_i n
    refine pe_imp h fun σ H Q ⟨W, ρ, M, rel, hs⟩ => ⟨W, ρ, M, rel, R.sat_mono hs (fun r hr => ?_) fun _ _ h => h⟩
    intro W' v H' g s rf
    obtain ⟨W'', g'', s'', r''⟩ := freeze g s rf
    exact hr W'' v H' g'' s'' (.of r'')
  · exact h
theorem ofE {X : Cx} {e : Expr} {a : E} (h : PE X e (tE P c ow w a)) (n : isNew a = false) : PE X e (tX P c ow w a) := by
  unfold tX
  rw [if_neg (by rw [n]; decide)]
  exact h
theorem ofF {X : Cx} {e : Expr} {a : E} (h : PE X e (tF P c ow w a)) (n : isNew a = true) : PE X e (tX P c ow w a) := by
  unfold tX
  rw [if_pos n]
  exact h
theorem two {a b : E} {σ : L2.St} {H : Hp} {W : Wd} {ρ : Env} {M : Sto} {A : D × Sto → Prop} {f : D × Sto → D × Sto → R (D × Sto)} {R2' : V → V → Hp → Prop} (rel : Rel P ow W ρ M σ H)
    (hs : ((evE c a ρ M).bind fun r => (evE c b ρ r.2).bind fun q => f r q).sat A (Xk P W H w σ))
    (k : ∀ r q x y W2 H2, G W H W2 H2 → StoR P W2 q.2 H2 → RepR P W2 H2 (nrm q.2 r.1) x → RepQ b P W2 H2 q.1 y → (f r q).sat A (Xk P W H w σ) → R2' x y H2) :
    tE P c ow w a σ H fun x H1 => tE P c ow w b σ H1 fun y H2 => R2' x y H2 := by
  rw [R.sat_bind] at hs
  refine ⟨W, ρ, M, rel, R.sat_mono hs (fun r hr => ?_) fun _ _ h => h⟩
  intro W1 x H1 g1 s1 r1
  rw [R.sat_bind] at hr
  refine ⟨W1, ρ, r.2, rel.g g1 s1, R.sat_mono hr (fun q hq => ?_) fun _ _ h => h.g g1⟩
  intro W2 y H2 g2 s2 r2
  exact k r q x y W2 H2 (g1.trans g2) s2 ((r1.w.g g2 s1.wf).r s2) r2 hq
theorem sat_of {α β : Type} {o : Option α} {f : α → β} {A : β → Prop} {B : Xc → Sto → Prop} (h : (R.of (o.map f)).sat A B) : ∃ a, o = some a ∧ A (f a) := by
  cases o with
  | none => exact h.elim
  | some a => exact ⟨a, rfl, h⟩
def spF (P : Par) (c : Call) (f : Nat) : Sp := fun vs H Q E => ∃ W M ds, StoR P W M H ∧ Reps P W H ds vs ∧
  (c f ds M).sat (fun r => ∀ W' v H', G W H W' H' → StoR P W' r.2 H' → Rep P W' H' r.1 v → Q v H') fun e M' => ∀ W' H' cls d, G W H W' H' → StoR P W' M' H' → XcR P e cls d → E cls d H'
def FnT (P : Par) (c : Call) (n : Nat) (X : Cx) (x : Str) (f : Nat) : Prop := ∃ (fd : FuncData) (ps : List Str), X.mg x = some (.ref (P.fa f)) ∧ PySem.W.keepIn X.K (.ref (P.fa f)) = true ∧ Binds X.K fd ps [] ∧
  FnOk X.prog X.w X.K X.mg X.base (L2.CX X.prog X.w) n (P.fa f) fd ps (spF P c f)
structure CtxOk (g : Cfg) (P : Par) (c : Call) (n : Nat) (X : Cx) (w : WX) : Prop where
  hK : X.K = P.K
  nd : X.N.Nodup
  calm : X.calm = true
  room : Room n X.A
  tk : Takes X w
  gl : ∀ x d, g.gl.lookup x = some d → ∃ u v, X.mg x = some u ∧ RelV v u ∧ ∀ W H, Rep P W H d v
  fns : ∀ x f, g.gl.lookup x = some (.fn f) → FnT P c n X x f
  bi : ∀ x b, g.bi.lookup x = some b → X.mg x = none ∧ bootBuiltins x = some (biVal b)
  ty : ∀ x t, g.ty.lookup x = some t → X.mg x = none ∧ bootBuiltins x = some (.type t)
theorem CtxOk.hu {g : Cfg} {n : Nat} {X : Cx} (o : CtxOk g P c n X w) : X.A.units + 66 < cLine := by
  have := o.room.un
  omega
theorem CtxOk.blk {g : Cfg} {n : Nat} {X : Cx} (o : CtxOk g P c n X w) (s : Shared) (H : Hp) (scope : Scope) (env : PySem.Env) (fp : List Addr) : CtxOk g P c n (X.blk s H scope env fp) (fun _ _ _ _ => False) :=
  ⟨o.hK, o.nd, o.calm, o.room, takes0, o.gl, o.fns, o.bi, o.ty⟩
theorem plainName_of {x : Str} (h : plainName x = true) : (x == ("__debug__" : Str)) = false ∧ (x == ("__classdict__" : Str)) = false ∧ x ≠ "__name__" := by
  unfold plainName at h
  simp only [Bool.and_eq_true, Bool.not_eq_true'] at h
  exact ⟨h.1.1, h.1.2, fun z => by rw [z] at h; exact absurd h.2 (by decide)⟩
theorem vis_of {sc : Scope} {x : Str} (h : vis sc x = true) : Vis sc x := by
  unfold vis at h
  split at h
  · rename_i e; exact .inl e
  · rename_i e; exact .inr (.inl e)
  · rename_i e; exact .inr (.inr e)
  · cases h
theorem glob_of {X : Cx} {x : Str} (h : glob X.env.scope x = true) : Gl X x := by
  unfold glob at h
  split at h
  · rename_i e; exact e
  · cases h
theorem locl_of {sc : Scope} {x : Str} (h : locl sc x = true) : Loc sc x := by
  unfold locl at h
  split at h
  · rename_i e; exact .inl e
  · rename_i e; exact .inr e
  · cases h
theorem notSet_of {b : Expr} (h : notSet b = true) (op : CmpOp) : behindInMarks op b = false := by
  cases b <;> first | rfl | cases h
theorem notSet_fold {b : Expr} (h : notSet b = true) (env : PySem.Env) : ∀ x, foldedSetIterable b env x = pure x := by
  intro x
  cases b <;> first | rfl | cases h
theorem notStar_of {e : Expr} (h : notStar e = true) (es : List Expr) (env : PySem.Env) : starEach (e :: es) env = (false, eval e env) :: starEach es env := by
  cases e <;> first | rfl | cases h
theorem notSlice_of {b : Expr} (h : notSlice b = true) : PlainIx b := by
  intro o i
  cases b <;> first | rfl | cases h
theorem notCall0_of {o : Expr} (h : notCall0 o = true) (nm : Str) (env : PySem.Env) : attributeBase o nm env (eval o env) = eval o env := by
  cases o with
  | Call f as ks p =>
    cases as with
    | nil =>
      cases ks with
      | nil => cases h
      | cons k ks => cases f <;> rfl
    | cons a as => cases f <;> rfl
  | _ => rfl
theorem stars_none {pos : Pos} {env : PySem.Env} : ∀ {es : List Expr}, (es.all notStar) = true → (backTo pos (starEach es env)).any (·.1) = false
  | [], _ => rfl
  | e :: es, h => by
    rw [List.all_cons, Bool.and_eq_true] at h
    rw [notStar_of h.1]
    show (false || (backTo pos (starEach es env)).any (·.1)) = false
    rw [stars_none h.2]
    rfl
theorem chkEs_star {g : Cfg} {N : List Str} {sc : Scope} : ∀ {as : List E} {es : List Expr}, chkEs g N ow sc as es = true → es.all notStar = true ∧ es.length = as.length
  | [], es, h => by
    have e : es = [] := by simpa [chkEs] using h
    subst e
    exact ⟨rfl, rfl⟩
  | a :: as, [], h => by simp [chkEs] at h
  | a :: as, e :: es, h => by
    simp only [chkEs, Bool.and_eq_true] at h
    obtain ⟨h1, h2⟩ := chkEs_star h.2
    exact ⟨by rw [List.all_cons, h.1.1, h1]; rfl, by rw [List.length_cons, List.length_cons, h2]⟩
theorem get_some {ρ : Env} {i : Nat} {d : D} (h : get ρ i = some d) : ρ[i]? = some (some d) := by
  unfold get at h
  cases e : ρ[i]? with
  | none => rw [e] at h; cases h
  | some o =>
    rw [e] at h
    have : o = some d := h
    rw [this]
end
end Ev
set_option Elab.async false
set_option linter.all false
set_option autoImplicit false
set_option maxRecDepth 100000
set_option maxHeartbeats 4000000
namespace Ev
open PySem PySem.Spec PyProof.Rows L2
section
variable {P : Par} {c : Call} {ow : List Nat} {w : WX} {g : Cfg} {n : Nat} {X : Cx} {pos : Pos}
abbrev PEE (P : Par) (c : Call) (ow : List Nat) (w : WX) (X : Cx) (e : Expr) (a : E) : Prop := PE X e (tE P c ow w a)
abbrev PTT (P : Par) (c : Call) (ow : List Nat) (w : WX) (X : Cx) (e : Expr) (a : E) : Prop := PT X e (tT P c ow w a)
theorem x_var {i : Nat} {x : Str} {p : Pos} (ok : CtxOk g P c n X w) (h : slotB X.N X.env.scope i x = true) (ho : ow.contains i = false) : PEE P c ow w X (.Name x p) (.var i) := by
  unfold slotB at h
  simp only [Bool.and_eq_true, decide_eq_true_eq] at h
  obtain ⟨h1, h2, _⟩ := plainName_of h.2
  refine pe_imp (pe_var h.1.1 (vis_of h.1.2) h1 h2) fun σ H Q ⟨W, ρ, M, rel, hs⟩ => ?_
  obtain ⟨d, e, hq⟩ := sat_of hs
  obtain ⟨v, e1, r⟩ := rel.fz i d e (by simpa using ho)
  exact ⟨v, e1, hq W v H .refl rel.sto (.of r)⟩
theorem x_bor {i : Nat} {x : Str} {p : Pos} (ok : CtxOk g P c n X w) (h : slotB X.N X.env.scope i x = true) : PEE P c ow w X (.Name x p) (.bor i) := by
  unfold slotB at h
  simp only [Bool.and_eq_true, decide_eq_true_eq] at h
  obtain ⟨h1, h2, _⟩ := plainName_of h.2
  refine pe_imp (pe_var h.1.1 (vis_of h.1.2) h1 h2) fun σ H Q ⟨W, ρ, M, rel, hs⟩ => ?_
  obtain ⟨d, e, hq⟩ := sat_of hs
  by_cases ho : i ∈ ow
  · obtain ⟨a, e1, _, h2, h3⟩ := rel.own i d e ho
    exact ⟨.ref a, e1, hq W _ H .refl rel.sto (show (if isBor (.bor i) = true then RepW P W H d (.ref a) else Rep P W H d (.ref a)) from by rw [if_pos (show isBor (.bor i) = true from rfl)]; exact .inr ⟨a, rfl, h2, h3⟩)⟩
  · obtain ⟨v, e1, r⟩ := rel.fz i d e ho
    exact ⟨v, e1, hq W v H .refl rel.sto (.of r)⟩
theorem x_con {d : D} {v : V} {e : Expr} (h : PE X e (tC v)) (r : ∀ W H, Rep P W H d v) : PEE P c ow w X e (.con d) :=
  pe_imp h fun σ H Q ⟨W, ρ, M, rel, hs⟩ => (show PQ P W H (.con d) Q (d, M) from hs) W v H .refl rel.sto (.of (r W H))
theorem x_neg {a : E} {e : Expr} (h : PEE P c ow w X e a) : PEE P c ow w X (.UnaryOp .USub e pos) (.neg a) := by
  refine pe_imp (pe_un un_neg h) fun σ H Q ⟨W, ρ, M, rel, hs⟩ => ?_
  rw [evE, R.sat_bind] at hs
  refine ⟨W, ρ, M, rel, R.sat_mono hs (fun r hr => ?_) fun _ _ h => h⟩
  intro W' v H' g' s rp
  obtain ⟨d, M'⟩ := r
  cases d with
  | int i =>
    have e1 : v = .int i := (rp.w.r s : RepR P W' H' (.int i) v)
    exact ⟨i, e1, (show PQ P W H (.neg a) Q (.int (-i), M') from hr) W' _ H' g' s (.of rfl)⟩
  | _ => exact hr.elim
theorem x_bin {o : BO} {a b : E} {x y : Expr} (ok : CtxOk g P c n X w) (ha : PEE P c ow w X x a) (hb : PEE P c ow w X y b) : PE X (.BinOp x (boOp o) y pos) (tF P c ow w (.bin o a b)) := by
  refine pe_imp (pe_op (op_bin o ok.hK) ha hb) fun σ H Q ⟨W, ρ, M, rel, hs⟩ => ?_
  rw [evE] at hs
  refine two rel hs fun r q v u W2 H2 g2 s2 r1 r2 h => ?_
  obtain ⟨d, e, hq⟩ := sat_of h
  exact ⟨W2, q.2, _, _, d, s2, r1, r2.w.r s2, e, fun W' v' H' g' s' rf => hq W' v' H' (g2.trans g') s' (by
    cases d with
    | lst ds =>
      obtain ⟨p, e1, n1, n2, n3, n4⟩ := rf
      exact ⟨p, e1, Classical.byContradiction fun z => g2.al p z n1, n2, n3, n4⟩
    | _ => exact rf)⟩
theorem x_cmp {o : CO} {a b : E} {x y : Expr} (ok : CtxOk g P c n X w) (hy : notSet y = true) (ha : PEE P c ow w X x a) (hb : PEE P c ow w X y b) : PEE P c ow w X (.Compare x [coOp o] [y] pos) (.cmp o a b) := by
  refine pe_imp (pe_cmpR (op_cmp o ok.hK ok.hu) ha hb (notSet_of hy _)) fun σ H Q ⟨W, ρ, M, rel, hs⟩ => ?_
  rw [evE] at hs
  refine two rel hs fun r q v u W2 H2 g2 s2 r1 r2 h => ?_
  obtain ⟨d, e, hq⟩ := sat_of h
  exact ⟨W2, q.2, _, _, d, s2, r1, r2.w.r s2, e, fun W' v' H' g' s' rf => hq W' v' H' (g2.trans g') s' (.of rf)⟩
theorem t_cmp {o : CO} {a b : E} {x y : Expr} (ok : CtxOk g P c n X w) (hy : notSet y = true) (ha : PEE P c ow w X x a) (hb : PEE P c ow w X y b) : PTT P c ow w X (.Compare x [coOp o] [y] pos) (.cmp o a b) := by
  refine pt_imp (pt_cmpR (op_cmp o ok.hK ok.hu) ha hb (notSet_of hy _)) fun σ H Q ⟨W, ρ, M, rel, hs⟩ => ?_
  rw [evE] at hs
  refine two rel hs fun r q v u W2 H2 g2 s2 r1 r2 h => ?_
  obtain ⟨d, e, hq⟩ := sat_of h
  obtain ⟨b', e', hq⟩ := hq
  cases e'
  exact ⟨W2, q.2, _, _, d, s2, r1, r2.w.r s2, e, fun W' v' H' g' s' rf => ⟨d, rf, hq W' H' (g2.trans g') s'⟩⟩
theorem t_val {e : Expr} {a : E} (h : PEE P c ow w X e a) (he : ∀ whole, isTrue e X.env whole = (do let v ← whole; standAt e.pos; holding [v] (truthy v))) : PTT P c ow w X e a := by
  refine pt_imp (pt_val h he) fun σ H Q ⟨W, ρ, M, rel, hs⟩ => ⟨W, ρ, M, rel, R.sat_mono hs (fun r hr => ?_) fun _ _ h => h⟩
  obtain ⟨b, e1, hq⟩ := hr
  intro W' v H' g' s rp
  obtain ⟨d, M'⟩ := r
  cases e1
  exact ⟨b, (rp.w.r s : RepR P W' H' (.bl b) v), hq W' H' g' s⟩
theorem x_not {a : E} {e : Expr} (h : PEE P c ow w X e a) : PEE P c ow w X (.UnaryOp .Not e pos) (.not a) := by
  refine pe_imp (pe_not h) fun σ H Q ⟨W, ρ, M, rel, hs⟩ => ?_
  rw [evE, R.sat_bind] at hs
  refine ⟨W, ρ, M, rel, R.sat_mono hs (fun r hr => ?_) fun _ _ h => h⟩
  intro W' v H' g' s rp
  obtain ⟨d, M'⟩ := r
  cases d with
  | bl b => exact ⟨b, (rp.w.r s : RepR P W' H' (.bl b) v), (show PQ P W H (.not a) Q (.bl (!b), M') from hr) W' _ H' g' s (.of rfl)⟩
  | _ => exact hr.elim
theorem t_not {a : E} {e : Expr} (h : PTT P c ow w X e a) : PTT P c ow w X (.UnaryOp .Not e pos) (.not a) := by
  refine pt_imp (pt_not h) fun σ H Q ⟨W, ρ, M, rel, hs⟩ => ?_
  rw [evE, R.sat_bind] at hs
  refine ⟨W, ρ, M, rel, R.sat_mono hs (fun r hr => ?_) fun _ _ h => h⟩
  obtain ⟨d, M'⟩ := r
  cases d with
  | bl b =>
    obtain ⟨b', e', hq⟩ := hr
    cases e'
    exact ⟨b, rfl, fun W' H' g' s => hq W' H' g' s⟩
  | _ => exact hr.elim
theorem x_and {a b : E} {x y : Expr} {rest : List Expr} (ha : PEE P c ow w X x a) (hb : PEE P c ow w X (.BoolOp .And (y :: rest) pos) b) (nb : isBor b = false) : PEE P c ow w X (.BoolOp .And (x :: y :: rest) pos) (.and a b) := by
  refine pe_imp (pe_and ha hb) fun σ H Q ⟨W, ρ, M, rel, hs⟩ => ?_
  rw [evE, R.sat_bind] at hs
  refine ⟨W, ρ, M, rel, R.sat_mono hs (fun r hr => ?_) fun _ _ h => h⟩
  intro W' v H' g' s rp
  obtain ⟨d, M'⟩ := r
  cases d with
  | bl k =>
    refine ⟨k, (rp.w.r s : RepR P W' H' (.bl k) v), ?_⟩
    cases k with
    | true =>
      rw [if_pos rfl]
      exact ⟨W', ρ, M', rel.g g' s, R.sat_mono hr (fun q hq W'' v' H'' g'' s'' r'' => hq W'' v' H'' (g'.trans g'') s'' (.of (r''.strict nb))) fun _ _ h => h.g g'⟩
    | false =>
      rw [if_neg (by decide)]
      exact (show PQ P W H (.and a b) Q (.bl false, M') from hr) W' _ H' g' s (.of rfl)
  | _ => exact hr.elim
theorem x_or {a b : E} {x y : Expr} {rest : List Expr} (ha : PEE P c ow w X x a) (hb : PEE P c ow w X (.BoolOp .Or (y :: rest) pos) b) (nb : isBor b = false) : PEE P c ow w X (.BoolOp .Or (x :: y :: rest) pos) (.or a b) := by
  refine pe_imp (pe_or ha hb) fun σ H Q ⟨W, ρ, M, rel, hs⟩ => ?_
  rw [evE, R.sat_bind] at hs
  refine ⟨W, ρ, M, rel, R.sat_mono hs (fun r hr => ?_) fun _ _ h => h⟩
  intro W' v H' g' s rp
  obtain ⟨d, M'⟩ := r
  cases d with
  | bl k =>
    refine ⟨k, (rp.w.r s : RepR P W' H' (.bl k) v), ?_⟩
    cases k with
    | false =>
      rw [if_neg (by decide)]
      exact ⟨W', ρ, M', rel.g g' s, R.sat_mono hr (fun q hq W'' v' H'' g'' s'' r'' => hq W'' v' H'' (g'.trans g'') s'' (.of (r''.strict nb))) fun _ _ h => h.g g'⟩
    | true =>
      rw [if_pos rfl]
      exact (show PQ P W H (.or a b) Q (.bl true, M') from hr) W' _ H' g' s (.of rfl)
  | _ => exact hr.elim
theorem t_and {a b : E} {x y : Expr} {rest : List Expr} (ha : PTT P c ow w X x a) (hb : PW X (.BoolOp .And (y :: rest) pos) (tT P c ow w b)) : PW X (.BoolOp .And (x :: y :: rest) pos) (tT P c ow w (.and a b)) := by
  refine pw_imp (pw_and ha hb) fun σ H Q ⟨W, ρ, M, rel, hs⟩ => ?_
  rw [evE, R.sat_bind] at hs
  refine ⟨W, ρ, M, rel, R.sat_mono hs (fun r hr => ?_) fun _ _ h => h⟩
  obtain ⟨d, M'⟩ := r
  cases d with
  | bl k =>
    refine ⟨k, rfl, fun W' H' g' s => ?_⟩
    cases k with
    | true =>
      rw [if_pos rfl]
      refine ⟨W', ρ, M', rel.g g' s, R.sat_mono hr (fun q hq => ?_) fun _ _ h => h.g g'⟩
      obtain ⟨k', e', hq⟩ := hq
      exact ⟨k', e', fun W'' H'' g'' s'' => hq W'' H'' (g'.trans g'') s''⟩
    | false =>
      rw [if_neg (by decide)]
      obtain ⟨k', e', hq⟩ := hr
      cases e'
      exact hq W' H' g' s
  | _ => exact hr.elim
theorem t_or {a b : E} {x y : Expr} {rest : List Expr} (ha : PTT P c ow w X x a) (hb : PW X (.BoolOp .Or (y :: rest) pos) (tT P c ow w b)) : PW X (.BoolOp .Or (x :: y :: rest) pos) (tT P c ow w (.or a b)) := by
  refine pw_imp (pw_or ha hb) fun σ H Q ⟨W, ρ, M, rel, hs⟩ => ?_
  rw [evE, R.sat_bind] at hs
  refine ⟨W, ρ, M, rel, R.sat_mono hs (fun r hr => ?_) fun _ _ h => h⟩
  obtain ⟨d, M'⟩ := r
  cases d with
  | bl k =>
    refine ⟨k, rfl, fun W' H' g' s => ?_⟩
    cases k with
    | false =>
      rw [if_neg (by decide)]
      refine ⟨W', ρ, M', rel.g g' s, R.sat_mono hr (fun q hq => ?_) fun _ _ h => h.g g'⟩
      obtain ⟨k', e', hq⟩ := hq
      exact ⟨k', e', fun W'' H'' g'' s'' => hq W'' H'' (g'.trans g'') s''⟩
    | true =>
      rw [if_pos rfl]
      obtain ⟨k', e', hq⟩ := hr
      cases e'
      exact hq W' H' g' s
  | _ => exact hr.elim
theorem x_ite {t a b : E} {z x y : Expr} (ht : PTT P c ow w X z t) (ha : PEE P c ow w X x a) (hb : PEE P c ow w X y b) (na : isBor a = false) (nb : isBor b = false) : PEE P c ow w X (.IfExp z x y pos) (.ite t a b) := by
  refine pe_imp (pe_ifExp ht ha hb) fun σ H Q ⟨W, ρ, M, rel, hs⟩ => ?_
  rw [evE, R.sat_bind] at hs
  refine ⟨W, ρ, M, rel, R.sat_mono hs (fun r hr => ?_) fun _ _ h => h⟩
  obtain ⟨d, M'⟩ := r
  cases d with
  | bl k =>
    refine ⟨k, rfl, fun W' H' g' s => ?_⟩
    cases k with
    | true =>
      rw [if_pos rfl]
      exact ⟨W', ρ, M', rel.g g' s, R.sat_mono hr (fun q hq W'' v' H'' g'' s'' r'' => hq W'' v' H'' (g'.trans g'') s'' (.of (r''.strict na))) fun _ _ h => h.g g'⟩
    | false =>
      rw [if_neg (by decide)]
      exact ⟨W', ρ, M', rel.g g' s, R.sat_mono hr (fun q hq W'' v' H'' g'' s'' r'' => hq W'' v' H'' (g'.trans g'') s'' (.of (r''.strict nb))) fun _ _ h => h.g g'⟩
  | _ => exact hr.elim
theorem x_nil : PA X [] (tAs P c ow w []) := by
  refine pa_imp pa_nil fun σ H Q ⟨W, ρ, M, rel, hs⟩ => ?_
  exact (show (∀ W' vs H', G W H W' H' → StoR P W' M H' → RepQs P W' H' [] [] vs → Q vs H') from hs) W [] H .refl rel.sto ⟨rfl, rfl⟩
theorem x_cons {a : E} {as : List E} {e : Expr} {es : List Expr} (hn : notStar e = true) (ha : PEE P c ow w X e a) (hr : PA X es (tAs P c ow w as)) : PA X (e :: es) (tAs P c ow w (a :: as)) := by
  refine pa_imp (pa_cons ha hr (notStar_of hn _ _)) fun σ H Q ⟨W, ρ, M, rel, hs⟩ => ?_
  rw [evEs, R.sat_bind] at hs
  refine ⟨W, ρ, M, rel, R.sat_mono hs (fun r hr => ?_) fun _ _ h => h⟩
  intro W1 v H1 g1 s1 r1
  rw [R.sat_bind] at hr
  refine ⟨W1, ρ, r.2, rel.g g1 s1, R.sat_mono hr (fun q hq => ?_) fun _ _ h => h.g g1⟩
  intro W2 vs H2 g2 s2 r2
  refine (show ∀ W' vs H', G W H W' H' → StoR P W' q.2 H' → RepQs P W' H' (a :: as) (r.1 :: q.1) vs → Q vs H' from hq) W2 (v :: vs) H2 (g1.trans g2) s2 ⟨_, _, _, _, rfl, rfl, ?_, r2⟩
  unfold RepQ at r1 ⊢
  split
  · rename_i hb
    rw [if_pos hb] at r1
    exact r1.g g2 s1.wf
  · rename_i hb
    rw [if_neg hb] at r1
    exact r1.g g2 s1.wf
theorem x_tup {as : List E} {es : List Expr} {k : Nat} (h : PA X es (tAs P c ow w as)) (hl : as.length ≤ SZ) (nb : (as.all fun a => !isBor a) = true) : PEE P c ow w X (.Tuple es k pos) (.tup as) := by
  refine pe_imp (pe_tup h) fun σ H Q ⟨W, ρ, M, rel, hs⟩ => ?_
  rw [evE, R.sat_bind] at hs
  refine ⟨W, ρ, M, rel, R.sat_mono hs (fun r hr => ?_) fun _ _ h => h⟩
  intro W1 vs H1 g1 s1 r1
  obtain ⟨l1, l2⟩ := r1.length
  refine ⟨by rw [l2, ← SZ_line]; exact hl, fun p np => ?_⟩
  have q : PostE P W1 r.2 H1 (.tup r.1) Q := fun W' v H' g' s' r' => (show PQ P W H (.tup as) Q (.tup r.1, r.2) from hr) W' v H' (g1.trans g') s' (.of r')
  exact q.tup s1 np (by rw [l1]; exact hl) (r1.strict nb)
theorem x_lst {as : List E} {es : List Expr} (h : PA X es (tAs P c ow w as)) (hl : as.length ≤ SZ) (nb : (as.all fun a => !isBor a) = true) : PE X (.List es pos) (tF P c ow w (.lst as)) := by
  refine pe_imp (pe_lst h) fun σ H Q ⟨W, ρ, M, rel, hs⟩ => ?_
  rw [evE, R.sat_bind] at hs
  refine ⟨W, ρ, M, rel, R.sat_mono hs (fun r hr => ?_) fun _ _ h => h⟩
  intro W1 vs H1 g1 s1 r1
  obtain ⟨l1, l2⟩ := r1.length
  refine ⟨by rw [l2, ← SZ_line]; exact hl, fun p np => ?_⟩
  have q : PostF P W1 r.2 H1 (.lst r.1) Q := fun W' v H' g' s' r' => (show PF P W H Q (.lst r.1, r.2) from hr) W' v H' (g1.trans g') s' (by
    obtain ⟨p, e1, n1, n2, n3, n4⟩ := r'
    exact ⟨p, e1, Classical.byContradiction fun z => g1.al p z n1, n2, n3, n4⟩)
  exact q.lst s1 np (by rw [l1]; exact hl) (r1.strict nb)
theorem repF_g {W W1 W' : Wd} {H H1 H' : Hp} {d : D} {v : V} (g1 : G W H W1 H1) (h : RepF P W' H1 H' d v) : RepF P W' H H' d v := by
  cases d with
  | lst ds =>
    obtain ⟨p, e1, n1, n2, n3, n4⟩ := h
    exact ⟨p, e1, Classical.byContradiction fun z => g1.al p z n1, n2, n3, n4⟩
  | _ => exact h
theorem x_call {f : Nat} {x : Str} {p : Pos} {as : List E} {es : List Expr} (ok : CtxOk g P c n X w) (hg : glob X.env.scope x = true) (hp : plainName x = true) (hf : g.gl.lookup x = some (.fn f)) (ha : PA X es (tAs P c ow w as)) (hst : es.all notStar = true) (hl : es.length = as.length) (nb : (as.all fun a => !isBor a) = true) :
    PEE P c ow w X (.Call (.Name x p) es [] pos) (.call f as) := by
  obtain ⟨fd, ps, hm, hk, hb, F⟩ := ok.fns x f hf
  obtain ⟨h1, h2, _⟩ := plainName_of hp
  have key : ∀ σ H Q, tE P c ow w (.call f as) σ H Q → tAs P c ow w as σ H fun vs H1 => spF P c f vs H1 Q (WE w σ) := fun σ H Q ⟨W, ρ, M, rel, hs⟩ => by
    rw [evE, R.sat_bind] at hs
    refine ⟨W, ρ, M, rel, R.sat_mono hs (fun r hr => ?_) fun _ _ h => h⟩
    intro W1 vs H1 g1 s1 r1
    exact ⟨W1, r.2, r.1, s1, r1.strict nb, R.sat_mono hr (fun q hq W' v H' g' s' r' => hq W' v H' (g1.trans g') s' (.of r')) fun e M' h W' H' cls d g' s' x' => h W' H' cls d (g1.trans g') s' x'⟩
  cases es with
  | nil =>
    refine ⟨fun pins s σ H Q I q => ?_⟩
    have e0 : as = [] := List.length_eq_zero_iff.mp hl.symm
    subst e0
    obtain ⟨W, ρ, M, rel, hs⟩ := key σ H Q q
    have h : spF P c f ([] ++ []) H Q (WE w σ) := (show ∀ W' vs H', G W H W' H' → StoR P W' M H' → RepQs P W' H' [] [] vs → spF P c f vs H' Q (WE w σ) from hs) W [] H .refl rel.sto ⟨rfl, rfl⟩
    refine wpAny_Call_Name_kw (ld_glob I (glob_of hg) hm ?_ h1)
    exact PySem.W.callWith_K0 (first := []) I.kIn hk (run_fnSD (us := []) F ok.room hb .nil (passAt ok.tk σ) I .nil h)
  | cons e es =>
    rw [List.all_cons, Bool.and_eq_true] at hst
    refine pe_imp (pe_callSD (E := fun σ => WE w σ) F ok.room (glob_of hg) hm hk hb .nil (fun σ => passAt ok.tk σ) ha h1 (notStar_of hst.1 _ _) (stars_none hst.2)) fun σ H Q q => ?_
    obtain ⟨W, ρ, M, rel, hs⟩ := key σ H Q q
    exact ⟨W, ρ, M, rel, R.sat_mono hs (fun r hr W' vs H' g' s' r' => by
      show spF P c f (vs ++ []) H' Q (WE w σ)
      rw [List.append_nil]
      exact hr W' vs H' g' s' r') fun _ _ h => h⟩
end
end Ev
set_option Elab.async false
set_option linter.all false
set_option autoImplicit false
set_option maxRecDepth 100000
set_option maxHeartbeats 4000000
namespace Ev
open PySem PySem.Spec PyProof.Rows L2
theorem TupAt.at_ {P : Par} {W : Wd} {H H' : Hp} (k : ∀ a, W.F a → H' a = H a) {a : Addr} {vs : List V} (h : TupAt P W H a vs) : TupAt P W H' a vs := by
  rcases h with ⟨f, h⟩ | h
  · refine .inl ⟨f, ?_⟩
    rcases h with h | ⟨u, h⟩
    · exact .inl ((k a f).trans h)
    · exact .inr ⟨u, (k a f).trans h⟩
  · exact .inr h
theorem ScrAt.at_ {P : Par} {W : Wd} {H H' : Hp} (k : ∀ a, W.F a → H' a = H a) {a : Addr} {vs : List V} (h : ScrAt P W H a vs) : ScrAt P W H' a vs := by
  rcases h with ⟨f, h⟩ | h
  · refine .inl ⟨f, ?_⟩
    rcases h with h | ⟨u, h⟩
    · exact .inl ((k a f).trans h)
    · exact .inr ⟨u, (k a f).trans h⟩
  · exact .inr h
mutual
theorem Rep.at_ {P : Par} {W : Wd} {H H' : Hp} (k : ∀ a, W.F a → H' a = H a) : ∀ {d : D} {v : V}, Rep P W H d v → Rep P W H' d v
  | .non, _, h => h
  | .bl _, _, h => h
  | .int _, _, h => h
  | .str _, _, h => h
  | .tup ds, _, h => by
    obtain ⟨a, vs, e, h1, h2, h3⟩ := h
    exact ⟨a, vs, e, h1.at_ k, h2, Reps.at_ k h3⟩
  | .lst ds, _, h => by
    obtain ⟨a, vs, e, h1, h2, h3, h4⟩ := h
    exact ⟨a, vs, e, h1, (k a h1).trans h2, h3, Reps.at_ k h4⟩
  | .scr ds, _, h => by
    obtain ⟨a, vs, e, h1, h2, h3⟩ := h
    exact ⟨a, vs, e, h1.at_ k, h2, Reps.at_ k h3⟩
  | .dct _, _, h => h
  | .itr _, _, h => h
  | .obj _, _, h => h
  | .fn _, _, h => h
  | .cl _, _, h => h
  | .ty _, _, h => h
theorem Reps.at_ {P : Par} {W : Wd} {H H' : Hp} (k : ∀ a, W.F a → H' a = H a) : ∀ {ds : List D} {vs : List V}, Reps P W H ds vs → Reps P W H' ds vs
  | [], _, h => h
  | _ :: _, _, h => by
    obtain ⟨v, r, e, h1, h2⟩ := h
    exact ⟨v, r, e, Rep.at_ k h1, Reps.at_ k h2⟩
end
theorem BoxAt.at_ {P : Par} {W : Wd} {H H' : Hp} (k : ∀ a, W.F a → H' a = H a) {a : Addr} (e : H' a = H a) {d : D} (h : BoxAt P W H a d) : BoxAt P W H' a d := by
  cases d with
  | lst ds =>
    obtain ⟨vs, h1, h2, h3⟩ := h
    exact ⟨vs, e.trans h1, h2, h3.at_ k⟩
  | _ => exact (show False from h).elim
theorem MoAt.at_ {P : Par} {W : Wd} {H H' : Hp} (k : ∀ a, W.F a → H' a = H a) {a : Addr} (e : H' a = H a) {o : MO} (h : MoAt P W H a o) : MoAt P W H' a o := by
  cases o with
  | val d => exact BoxAt.at_ k e h
  | ins _ _ => exact (show False from h).elim
theorem upd_out {W : Wd} {H : Hp} {p : Addr} {o : HO} (n : ¬ W.F p) : ∀ a, W.F a → upd H p o a = H a := fun a f => upd_ne fun z => n (z ▸ f)
theorem StoR.upd {P : Par} {W : Wd} {M : Sto} {H : Hp} {p : Addr} {o : HO} (s : StoR P W M H) (n : ¬ W.F p) (ni : p ∉ W.ι) : StoR P W M (upd H p o) := by
  refine ⟨⟨s.wf.fi, fun a h => ?_, s.wf.nd, fun a h => ?_⟩, s.len, fun k u e => ?_⟩
  · rw [upd_out n a h]; exact s.wf.fs a h
  · rw [upd_ne (fun z => by subst z; exact ni h)]; exact s.wf.is a h
  · obtain ⟨a, e1, h⟩ := s.at_ k u e
    exact ⟨a, e1, h.at_ (upd_out n) (upd_ne (fun z => by subst z; exact ni (List.mem_of_getElem? e1)))⟩
theorem G.upd {W W' : Wd} {H H' : Hp} {p : Addr} {o : HO} (g : G W H W' H') (n : H p = none) : G W H W' (upd H' p o) := by
  refine ⟨g.io, g.fm, g.fn, fun a u e ni => ?_, fun a h => ?_⟩
  · rw [upd_ne fun z => by subst z; rw [n] at e; cases e]
    exact g.kp a u e ni
  · rw [upd_ne fun z => h (by subst z; exact n)]
    exact g.al a h
theorem G.ni {W W' : Wd} {H H' : Hp} {p : Addr} (g : G W H W' H') (h : H p ≠ none) (n : p ∉ W.ι) : p ∉ W'.ι := fun z => by
  obtain ⟨m, e, k⟩ := g.io
  rw [e] at z
  rcases List.mem_append.mp z with z | z
  · exact n z
  · exact h (k p z)
theorem G.nF {W W' : Wd} {H H' : Hp} {p : Addr} (g : G W H W' H') (h : H p ≠ none) (n : ¬ W.F p) : ¬ W'.F p := fun z => by
  rcases g.fn p z with q | q
  · exact n q
  · exact h q
structure Gw (W : Wd) (H : Hp) (W' : Wd) (H' : Hp) : Prop where
  io : ∃ more, W'.ι = W.ι ++ more
  fm : ∀ a, W.F a → W'.F a
  kp : ∀ a, W.F a → H' a = H a
theorem Gw.refl {W : Wd} {H : Hp} : Gw W H W H := ⟨⟨[], by simp⟩, fun _ h => h, fun _ _ => rfl⟩
theorem Gw.trans {W W1 W2 : Wd} {H H1 H2 : Hp} (g : Gw W H W1 H1) (k : Gw W1 H1 W2 H2) : Gw W H W2 H2 := by
  obtain ⟨m1, e1⟩ := g.io
  obtain ⟨m2, e2⟩ := k.io
  exact ⟨⟨m1 ++ m2, by rw [e2, e1, List.append_assoc]⟩, fun a h => k.fm a (g.fm a h), fun a h => (k.kp a (g.fm a h)).trans (g.kp a h)⟩
theorem G.w {W W' : Wd} {H H' : Hp} (g : G W H W' H') (wf : Wf W H) : Gw W H W' H' := by
  obtain ⟨m, e, _⟩ := g.io
  refine ⟨⟨m, e⟩, g.fm, fun a f => ?_⟩
  cases z : H a with
  | none => exact (wf.fs a f z).elim
  | some o => exact g.kp a o z (wf.fi a f)
theorem Gw.ix {W W' : Wd} {H H' : Hp} (g : Gw W H W' H') {k : Nat} {a : Addr} (e : W.ι[k]? = some a) : W'.ι[k]? = some a := by
  obtain ⟨m, e1⟩ := g.io
  rw [e1, List.getElem?_append_left (List.getElem?_eq_some_iff.mp e).1]
  exact e
theorem TupAt.gw {P : Par} {W W' : Wd} {H H' : Hp} (g : Gw W H W' H') {a : Addr} {vs : List V} (h : TupAt P W H a vs) : TupAt P W' H' a vs := by
  rcases h with ⟨f, h⟩ | h
  · refine .inl ⟨g.fm a f, ?_⟩
    rcases h with h | ⟨u, h⟩
    · exact .inl ((g.kp a f).trans h)
    · exact .inr ⟨u, (g.kp a f).trans h⟩
  · exact .inr h
theorem ScrAt.gw {P : Par} {W W' : Wd} {H H' : Hp} (g : Gw W H W' H') {a : Addr} {vs : List V} (h : ScrAt P W H a vs) : ScrAt P W' H' a vs := by
  rcases h with ⟨f, h⟩ | h
  · refine .inl ⟨g.fm a f, ?_⟩
    rcases h with h | ⟨u, h⟩
    · exact .inl ((g.kp a f).trans h)
    · exact .inr ⟨u, (g.kp a f).trans h⟩
  · exact .inr h
mutual
theorem Rep.gw {P : Par} {W W' : Wd} {H H' : Hp} (g : Gw W H W' H') : ∀ {d : D} {v : V}, Rep P W H d v → Rep P W' H' d v
  | .non, _, h => h
  | .bl _, _, h => h
  | .int _, _, h => h
  | .str _, _, h => h
  | .tup ds, _, h => by
    obtain ⟨a, vs, e, h1, h2, h3⟩ := h
    exact ⟨a, vs, e, h1.gw g, h2, Reps.gw g h3⟩
  | .lst ds, _, h => by
    obtain ⟨a, vs, e, h1, h2, h3, h4⟩ := h
    exact ⟨a, vs, e, g.fm a h1, (g.kp a h1).trans h2, h3, Reps.gw g h4⟩
  | .scr ds, _, h => by
    obtain ⟨a, vs, e, h1, h2, h3⟩ := h
    exact ⟨a, vs, e, h1.gw g, h2, Reps.gw g h3⟩
  | .dct _, _, h => h
  | .itr _, _, h => h
  | .obj _, _, h => by
    obtain ⟨a, e, h⟩ := h
    exact ⟨a, e, g.ix h⟩
  | .fn _, _, h => h
  | .cl _, _, h => h
  | .ty _, _, h => h
theorem Reps.gw {P : Par} {W W' : Wd} {H H' : Hp} (g : Gw W H W' H') : ∀ {ds : List D} {vs : List V}, Reps P W H ds vs → Reps P W' H' ds vs
  | [], _, h => h
  | _ :: _, _, h => by
    obtain ⟨v, r, e, h1, h2⟩ := h
    exact ⟨v, r, e, Rep.gw g h1, Reps.gw g h2⟩
end
theorem BoxAt.gw {P : Par} {W W' : Wd} {H H' : Hp} (g : Gw W H W' H') {a : Addr} (e : H' a = H a) {d : D} (h : BoxAt P W H a d) : BoxAt P W' H' a d := by
  cases d with
  | lst ds =>
    obtain ⟨vs, h1, h2, h3⟩ := h
    exact ⟨vs, e.trans h1, h2, h3.gw g⟩
  | _ => exact (show False from h).elim
theorem MoAt.gw {P : Par} {W W' : Wd} {H H' : Hp} (g : Gw W H W' H') {a : Addr} (e : H' a = H a) {o : MO} (h : MoAt P W H a o) : MoAt P W' H' a o := by
  cases o with
  | val d => exact BoxAt.gw g e h
  | ins _ _ => exact (show False from h).elim
abbrev LT := Wd → Hp → Wd → Hp → Prop
structure Wlk (T : LT) (P : Par) (W : Wd) (H : Hp) (ds : List D) (J : It) : Prop where
  go : ∀ W' H' i, T W H W' H' → i < ds.length → J.go i H' ∧ ∀ x H'', J.yld i H' x H'' → H'' = H' ∧ ∃ d, ds[i]? = some d ∧ Rep P W' H' d x
  stop : ∀ W' H' i, T W H W' H' → ds.length ≤ i → J.stop i H'
section
variable {P : Par} {c : Call} {ow : List Nat} {w : WX} {g : Cfg} {n : Nat} {X : Cx} {pos : Pos} {T : LT}
def tI (T : LT) (P : Par) (c : Call) (ow : List Nat) (w : WX) (a : E) : TI := fun σ H R => ∃ W ρ M, Rel P ow W ρ M σ H ∧
  (evE c a ρ M).sat (fun r => ∃ ds, itemsOf r.1 = some ds ∧ ∀ W' H' J, G W H W' H' → StoR P W' r.2 H' → Wlk T P W' H' ds J → R J H') (Xk P W H w σ)
theorem wlk_l {W : Wd} {H : Hp} {K : PySem.W.Frag} {a : Addr} {ds : List D} {vs : List V} (h : ∀ W' H', T W H W' H' → SqL K H' a vs ∧ Reps P W' H' ds vs) (hl : vs.length = ds.length) : Wlk T P W H ds (Itl K a) := by
  refine ⟨fun W' H' i gg hi => ⟨⟨vs, _, (h W' H' gg).1, (List.getElem?_eq_getElem (by rw [hl]; exact hi))⟩, fun x H'' y => ?_⟩, fun W' H' i gg hi => ⟨vs, (h W' H' gg).1, by rw [hl]; exact hi⟩⟩
  obtain ⟨e, y⟩ := y
  obtain ⟨v, e1, rp⟩ := (h W' H' gg).2.get (List.getElem?_eq_getElem hi)
  have := y vs (h W' H' gg).1
  rw [e1] at this
  cases this
  exact ⟨e, _, List.getElem?_eq_getElem hi, rp⟩
theorem wlk_t {W : Wd} {H : Hp} {K : PySem.W.Frag} {a : Addr} {ds : List D} {vs : List V} (h : ∀ W' H', T W H W' H' → SqT K H' a vs ∧ Reps P W' H' ds vs) (hl : vs.length = ds.length) : Wlk T P W H ds (Itt K a) := by
  refine ⟨fun W' H' i gg hi => ⟨⟨vs, _, (h W' H' gg).1, (List.getElem?_eq_getElem (by rw [hl]; exact hi))⟩, fun x H'' y => ?_⟩, fun W' H' i gg hi => ⟨vs, (h W' H' gg).1, by rw [hl]; exact hi⟩⟩
  obtain ⟨e, y⟩ := y
  obtain ⟨v, e1, rp⟩ := (h W' H' gg).2.get (List.getElem?_eq_getElem hi)
  have := y vs (h W' H' gg).1
  rw [e1] at this
  cases this
  exact ⟨e, _, List.getElem?_eq_getElem hi, rp⟩
theorem wlk_s {W : Wd} {H : Hp} {x : List Nat} (hc : ∀ z ∈ x, z < 1114112) : Wlk T P W H (x.map fun z => .str [z]) (Its (S' x)) := by
  have hz : (S' x).cps.size = x.length := rfl
  refine ⟨fun W' H' i gg hi => ?_, fun W' H' i gg hi => by show (S' x).cps.size ≤ i; rw [hz]; simpa using hi⟩
  rw [List.length_map] at hi
  refine ⟨show i < (S' x).cps.size from hz ▸ hi, fun v H'' y => ?_⟩
  obtain ⟨e, z, e1, rfl⟩ := y
  have e2 : x[i]? = some z := by simpa [S'] using e1
  refine ⟨e, .str [z], by rw [List.getElem?_map, e2]; rfl, rfl, (by show 1 ≤ SZ; decide), fun q hq => ?_⟩
  rw [List.mem_singleton.mp hq]
  exact hc z (List.mem_of_getElem? e2)
theorem intsFrom_get (a k : Int) : ∀ (m i : Nat), i < m → (intsFrom a k m)[i]? = some (.int (a + i * k))
  | 0, _, h => by omega
  | m + 1, 0, _ => by simp [intsFrom]
  | m + 1, i + 1, h => by
    rw [intsFrom, List.getElem?_cons_succ, intsFrom_get (a + k) k m i (by omega)]
    have e : a + k + (i : Int) * k = a + ((i + 1 : Nat) : Int) * k := by
      rw [Int.natCast_add, Int.natCast_one, Int.add_mul, Int.one_mul]
      omega
    rw [e]
theorem intsFrom_len (a k : Int) : ∀ m : Nat, (intsFrom a k m).length = m
  | 0 => rfl
  | m + 1 => by rw [intsFrom, List.length_cons, intsFrom_len]
theorem wlk_r {W : Wd} {H : Hp} (a : Int) (m : Nat) : Wlk T P W H (intsFrom a 1 m) (Itr a m) := by
  refine ⟨fun W' H' i gg hi => ?_, fun W' H' i gg hi => by rw [intsFrom_len] at hi; exact hi⟩
  rw [intsFrom_len] at hi
  refine ⟨hi, fun v H'' y => ?_⟩
  obtain ⟨e, rfl⟩ := y
  exact ⟨e, _, intsFrom_get a 1 m i hi, by rw [Int.mul_one]; rfl⟩
theorem wlk_c {W : Wd} {H : Hp} (a k : Int) (m : Nat) : Wlk T P W H (intsFrom a k m) (Itc a k m) := by
  refine ⟨fun W' H' i gg hi => ?_, fun W' H' i gg hi => by rw [intsFrom_len] at hi; exact hi⟩
  rw [intsFrom_len] at hi
  refine ⟨hi, fun v H'' y => ?_⟩
  obtain ⟨e, rfl⟩ := y
  exact ⟨e, _, intsFrom_get a k m i hi, rfl⟩
theorem pi_val {tg e : Expr} {a : E} (hK : X.K = P.K) (hT : ∀ W H W' H', Wf W H → T W H W' H' → Gw W H W' H') (hB : isBor a = false ∨ ∀ W H W' H', T W H W' H' → G W H W' H') (h : PEE P c ow w X e a) : PI X tg e (tI T P c ow w a) := by
  refine ⟨fun pins s σ H R I q => ?_⟩
  obtain ⟨W, ρ, M, rel, hs⟩ := q
  -- the reading by value
  have key : ∀ (U : V → Hp → Prop), (∀ d M' ds, evE c a ρ M = .ok (d, M') → itemsOf d = some ds → (∀ W' H' J, G W H W' H' → StoR P W' M' H' → Wlk T P W' H' ds J → R J H') → ∀ W' v H', G W H W' H' → StoR P W' M' H' → RepQ a P W' H' d v → U v H') → tE P c ow w a σ H U := fun U k => by
    refine ⟨W, ρ, M, rel, ?_⟩
    cases er : evE c a ρ M with
    | bad => rw [er] at hs; exact hs
    | exc x M' => rw [er] at hs; exact hs
    | ok r =>
      rw [er] at hs
      obtain ⟨d, M'⟩ := r
      obtain ⟨ds, h1, h2⟩ := hs
      exact fun W' v H' g' s' rp => k d M' ds er h1 h2 W' v H' g' s' rp
  cases er : evE c a ρ M with
  | bad => rw [er] at hs; exact hs.elim
  | exc x M' => exact (pi_list h).run pins s σ H R I (key _ fun d M2 ds2 e2 _ _ _ _ _ _ _ _ => by rw [er] at e2; cases e2)
  | ok r =>
    obtain ⟨d, M'⟩ := r
    cases d with
    | lst ds =>
      refine (pi_list h).run pins s σ H R I (key _ fun d M2 ds2 e2 hi hk W' v H' g' s' rp => ?_)
      rw [er] at e2; cases e2
      cases hi
      rcases hB with hB | hB
      · obtain ⟨p, vs, rfl, f, e1, _, r1⟩ := rp.strict hB
        exact ⟨p, rfl, ⟨vs, .inl (.inl e1)⟩, hk W' H' _ g' s' (wlk_l (fun W2 H2 g2 => ⟨.inl (.inl (((hT _ _ _ _ s'.wf g2).kp p f).trans e1)), r1.gw (hT _ _ _ _ s'.wf g2)⟩) r1.length)⟩
      · have fin : ∀ p vs, H' p = some (.lst vs) → p ∉ W'.ι → Reps P W' H' ds vs → ∃ a, V.ref p = .ref a ∧ (∃ xs, SqL X.K H' a xs) ∧ R (Itl X.K a) H' := fun p vs e1 ni r1 =>
          ⟨p, rfl, ⟨vs, .inl (.inl e1)⟩, hk W' H' _ g' s' (wlk_l (fun W2 H2 g2 => ⟨.inl (.inl ((hB _ _ _ _ g2).kp _ _ e1 ni)), r1.gw (hT _ _ _ _ s'.wf g2)⟩) r1.length)⟩
        rcases rp.w with rp | ⟨p, rfl, ni, vs, e1, _, r1⟩
        · obtain ⟨p, vs, rfl, f, e1, _, r1⟩ := rp
          exact fin p vs e1 (s'.wf.fi p f) r1
        · exact fin p vs e1 ni r1
    | scr ds =>
      refine (pi_list h).run pins s σ H R I (key _ fun d M2 ds2 e2 hi hk W' v H' g' s' rp => ?_)
      rw [er] at e2; cases e2
      cases hi
      rcases rp.w with rp | ⟨p, rfl, ni, b⟩
      · obtain ⟨p, vs, rfl, t, _, r1⟩ := rp
        exact ⟨p, rfl, ⟨vs, by rw [hK]; exact t.sq⟩, hk W' H' _ g' s' (wlk_l (fun W2 H2 g2 => ⟨by rw [hK]; exact (t.gw (hT _ _ _ _ s'.wf g2)).sq, r1.gw (hT _ _ _ _ s'.wf g2)⟩) r1.length)⟩
      · exact (show False from b).elim
    | tup ds =>
      refine (pi_tup h).run pins s σ H R I (key _ fun d M2 ds2 e2 hi hk W' v H' g' s' rp => ?_)
      rw [er] at e2; cases e2
      cases hi
      rcases rp.w with rp | ⟨p, rfl, ni, b⟩
      · obtain ⟨p, vs, rfl, t, _, r1⟩ := rp
        exact ⟨p, rfl, ⟨vs, by rw [hK]; exact t.sq⟩, hk W' H' _ g' s' (wlk_t (fun W2 H2 g2 => ⟨by rw [hK]; exact (t.gw (hT _ _ _ _ s'.wf g2)).sq, r1.gw (hT _ _ _ _ s'.wf g2)⟩) r1.length)⟩
      · exact (show False from b).elim
    | str x =>
      refine (pi_str h).run pins s σ H R I (key _ fun d M2 ds2 e2 hi hk W' v H' g' s' rp => ?_)
      rw [er] at e2; cases e2
      cases hi
      rcases rp.w with rp | ⟨p, rfl, ni, b⟩
      · exact ⟨_, rp.1, hk W' H' _ g' s' (wlk_s rp.2.2)⟩
      · exact (show False from b).elim
    | dct kvs =>
      refine (pi_str h).run pins s σ H R I (key _ fun d M2 ds2 e2 hi hk W' v H' g' s' rp => ?_)
      rw [er] at e2; cases e2
      rcases rp.w with rp | ⟨p, rfl, ni, b⟩
      · exact (show False from rp).elim
      · exact (show False from b).elim
    | itr kvs =>
      refine (pi_str h).run pins s σ H R I (key _ fun d M2 ds2 e2 hi hk W' v H' g' s' rp => ?_)
      rw [er] at e2; cases e2
      rcases rp.w with rp | ⟨p, rfl, ni, b⟩
      · exact (show False from rp).elim
      · exact (show False from b).elim
    | non => rw [er] at hs; obtain ⟨ds, h1, _⟩ := hs; cases h1
    | bl _ => rw [er] at hs; obtain ⟨ds, h1, _⟩ := hs; cases h1
    | int _ => rw [er] at hs; obtain ⟨ds, h1, _⟩ := hs; cases h1
    | obj _ => rw [er] at hs; obtain ⟨ds, h1, _⟩ := hs; cases h1
    | fn _ => rw [er] at hs; obtain ⟨ds, h1, _⟩ := hs; cases h1
    | cl _ => rw [er] at hs; obtain ⟨ds, h1, _⟩ := hs; cases h1
    | ty _ => rw [er] at hs; obtain ⟨ds, h1, _⟩ := hs; cases h1
theorem okRange_iff {i : Int} (h : okRange i = true) : -(2 ^ 62) ≤ i ∧ i < 2 ^ 62 := by
  unfold okRange at h
  simpa only [Bool.and_eq_true, decide_eq_true_eq] using h
theorem rng_rs {W : Wd} {H : Hp} {M : Sto} (s : StoR P W M H) {as : List E} {ds : List D} {vs : List V} (h : RepQs P W H as ds vs) {d : D} (e : biD .range (ds.map (nrm M)) = some d) :
    (∃ j : Int, vs = [.int j] ∧ okRange j = true ∧ d = .itr (intsFrom 0 1 j.toNat)) ∨ (∃ i j : Int, vs = [.int i, .int j] ∧ okRange i = true ∧ okRange j = true ∧ d = .itr (intsFrom i 1 (j - i).toNat)) ∨
    ∃ i j k : Int, vs = [.int i, .int j, .int k] ∧ okRange i = true ∧ okRange j = true ∧ okStep k = true ∧ d = .itr (intsFrom i k (stepN i j k)) := by
  have r := h.r s
  generalize ds.map (nrm M) = es at r e
  unfold biD at e
  split at e <;> first | (cases e; done) | skip
  all_goals first | (exfalso; rename_i h; cases h; done) | skip
  · rename_i j h1
    split at e
    · rename_i ok
      obtain ⟨x, rfl, rx⟩ := repRs1 r
      cases e
      exact .inl ⟨j, by rw [show x = .int j from rx], ok, rfl⟩
    · cases e
  · rename_i i j h1
    split at e
    · rename_i ok
      rw [Bool.and_eq_true] at ok
      obtain ⟨x, y, rfl, rx, ry⟩ := repRs2 r
      cases e
      exact .inr (.inl ⟨i, j, by rw [show x = .int i from rx, show y = .int j from ry], ok.1, ok.2, rfl⟩)
    · cases e
  · rename_i i j k h1
    split at e
    · rename_i ok
      simp only [Bool.and_eq_true] at ok
      obtain ⟨x, r', rfl, rx, y, r'', rfl, ry, z, r3, rfl, rz, hn⟩ := r
      cases e
      refine .inr (.inr ⟨i, j, k, ?_, ok.1.1, ok.1.2, ok.2, rfl⟩)
      rw [show x = .int i from rx, show y = .int j from ry, show z = .int k from rz, show r3 = [] from hn]
    · cases e
theorem step_rg {i j k : Int} (hi : okRange i = true) (hj : okRange j = true) (hk : okStep k = true) : RgC i j k (stepN i j k) := by
  obtain ⟨a1, a2⟩ := okRange_iff hi
  obtain ⟨b1, b2⟩ := okRange_iff hj
  unfold okStep at hk
  simp only [Bool.or_eq_true, Bool.and_eq_true, decide_eq_true_eq] at hk
  rcases hk with ⟨k1, k2⟩ | rfl
  · have nn : Builtin.Range.rangeSize i j k = (stepN i j k : Nat) := by
      unfold Builtin.Range.rangeSize stepN
      rw [if_pos (show k > 0 from k1), if_pos k1]
      split
      · rename_i lt
        have : 0 ≤ (j - i - 1) / k := Int.ediv_nonneg (by omega) (by omega)
        omega
      · rfl
    refine ⟨by omega, by omega, ?_, nn⟩
    have q : Builtin.Range.rangeSize i j k ≤ 2 ^ 63 - 1 := by
      unfold Builtin.Range.rangeSize
      rw [if_pos (show k > 0 from k1)]
      split
      · rename_i lt
        have : (j - i - 1) / k ≤ j - i - 1 := Int.ediv_le_self _ (by omega)
        omega
      · decide
    have q0 : 0 ≤ Builtin.Range.rangeSize i j k := by rw [nn]; exact Int.natCast_nonneg _
    unfold Builtin.Range.small
    generalize Builtin.Range.rangeSize i j k = z at q q0
    have kp : k > 0 := k1
    simp only [Builtin.Range.rangeFitsLong, Bool.and_eq_true, Bool.or_eq_true, decide_eq_true_eq, beq_iff_eq, kp, if_true]
    omega
  · exact RgC.neg a1 a2 b1 b2
theorem pi_rng {tg : Expr} {as : List E} {es : List Expr} {p : Pos} (ok : CtxOk g P c n X w) (hg : glob X.env.scope "range" = true) (hb : g.bi.lookup ("range" : Str) = some .range) (ha : PA X es (tAs P c ow w as)) (hst : es.all notStar = true) (hl : es.length = as.length)
    (h3 : es.length = 1 ∨ es.length = 2 ∨ es.length = 3) : PI X tg (.Call (.Name "range" p) es [] pos) (tI T P c ow w (.bi .range as)) := by
  have hm := (ok.bi _ _ hb).1
  have key : ∀ (U : List V → Hp → Prop) σ H R, tI T P c ow w (.bi .range as) σ H R → (∀ vs H' i, vs.length = es.length → ((∃ j : Int, vs = [.int j] ∧ okRange j = true ∧ R (Itr 0 j.toNat) H') ∨ (∃ i j : Int, vs = [.int i, .int j] ∧ okRange i = true ∧ okRange j = true ∧ R (Itr i (j - i).toNat) H') ∨
      ∃ i j k : Int, vs = [.int i, .int j, .int k] ∧ okRange i = true ∧ okRange j = true ∧ okStep k = true ∧ R (Itc i k (stepN i j k)) H') → i = () → U vs H') → tAs P c ow w as σ H U := fun U σ H R ⟨W, ρ, M, rel, hs⟩ k => by
    rw [evE, Ev.R.sat_bind] at hs
    refine ⟨W, ρ, M, rel, Ev.R.sat_mono hs (fun r hr => ?_) fun _ _ h => h⟩
    intro W' vs H' g' s' rp
    obtain ⟨d, e, ds, e1, hq⟩ := sat_of hr
    refine k vs H' () (by rw [rp.length.2, hl]) ?_ rfl
    rcases rng_rs s' rp e with ⟨j, h1, h2, rfl⟩ | ⟨i, j, h1, h2, h3, rfl⟩ | ⟨i, j, k, h1, h2, h3, h4, rfl⟩
    · cases e1
      exact .inl ⟨j, h1, h2, hq W' H' _ g' s' (wlk_r 0 _)⟩
    · cases e1
      exact .inr (.inl ⟨i, j, h1, h2, h3, hq W' H' _ g' s' (wlk_r i _)⟩)
    · cases e1
      exact .inr (.inr ⟨i, j, k, h1, h2, h3, h4, hq W' H' _ g' s' (wlk_c i k _)⟩)
  match es, hst, h3, ha, key with
  | [a], hst, _, ha, key =>
    simp only [List.all_cons, List.all_nil, Bool.and_true] at hst
    refine ⟨fun pins s σ H R I q => (pi_range1 (glob_of hg) hm ha (by rw [notStar_of hst]; rfl)).run pins s σ H R I (key _ σ H R q fun vs H' _ el h _ => ?_)⟩
    rcases h with ⟨j, h1, h2, h⟩ | ⟨i, j, rfl, _⟩ | ⟨i, j, k, rfl, _⟩
    · exact ⟨j, h1, (okRange_iff h2).1, (okRange_iff h2).2, h⟩
    · simp at el
    · simp at el
  | [a, b], hst, _, ha, key =>
    simp only [List.all_cons, List.all_nil, Bool.and_true, Bool.and_eq_true] at hst
    refine ⟨fun pins s σ H R I q => (pi_range2 (glob_of hg) hm ha (by rw [notStar_of hst.1, notStar_of hst.2]; rfl) (by rw [notStar_of hst.2]; rfl)).run pins s σ H R I (key _ σ H R q fun vs H' _ el h _ => ?_)⟩
    rcases h with ⟨j, rfl, _⟩ | ⟨i, j, h1, h2, h3, h⟩ | ⟨i, j, k, rfl, _⟩
    · simp at el
    · exact ⟨i, j, h1, ⟨(okRange_iff h2).1, (okRange_iff h2).2, (okRange_iff h3).1, (okRange_iff h3).2⟩, h⟩
    · simp at el
  | [a, b, d], hst, _, ha, key =>
    simp only [List.all_cons, List.all_nil, Bool.and_true, Bool.and_eq_true] at hst
    refine ⟨fun pins s σ H R I q => (pi_range3 (glob_of hg) hm ha (notStar_of hst.1 _ _) (stars_none (es := [b, d]) (by rw [List.all_cons, List.all_cons, hst.2.1, hst.2.2]; rfl))).run pins s σ H R I (key _ σ H R q fun vs H' _ el h _ => ?_)⟩
    rcases h with ⟨j, rfl, _⟩ | ⟨i, j, rfl, _⟩ | ⟨i, j, k, h1, h2, h3, h4, h⟩
    · simp at el
    · simp at el
    · exact ⟨i, j, k, _, h1, step_rg h2 h3 h4, h⟩
  | [], _, h, _, _ => simp at h
  | _ :: _ :: _ :: _ :: _, _, h, _, _ => simp at h
def slots : Tg → List Nat
  | .one i => [i]
  | .tup is => is
def gSl : List Nat → TGs
  | [] => gNil
  | i :: is => gCons (gName i) (gSl is)
def gT (K : PySem.W.Frag) : Tg → TG
  | .one i => gName i
  | .tup is => gTup K is.length (gSl is)
theorem nameOf_eq {e : Expr} {x : Str} (h : nameOf e = some x) : ∃ p, e = .Name x p := by
  cases e <;> first | (cases h; exact ⟨_, rfl⟩) | cases h
theorem assignEach_name {x : Str} {p : Pos} {es : List Expr} {env : PySem.Env} : assignEach (.Name x p :: es) env = (false, assign (.Name x p) env) :: assignEach es env := rfl
theorem pgs_names (hN : X.N.Nodup) {fb : Str → Bool} (hf : ∀ x, fb x = true → X.fn x = true) : ∀ {is : List Nat} {es : List Expr}, namesC fb X.N X.env.scope is es = true → PGs X es (gSl is) ∧ (assignEach es X.env).length = is.length ∧ (assignEach es X.env).findIdx? (·.1) = none
  | [], es, h => by
    have e : es = [] := by simpa [namesC] using h
    subst e
    exact ⟨pgs_nil, rfl, rfl⟩
  | i :: is, es, h => by
    match es, h with
    | .Name x p :: es, h =>
      simp only [namesC, Bool.and_eq_true, Bool.or_eq_true, decide_eq_true_eq] at h
      obtain ⟨h1, h2, h3⟩ := pgs_names hN hf h.2
      refine ⟨pgs_cons (pg_name hN h.1.1.1 (locl_of h.1.1.2) (h.1.2.imp_left (hf x))) h1 rfl, ?_, ?_⟩
      · rw [assignEach_name, List.length_cons, List.length_cons, h2]
      · rw [assignEach_name, List.findIdx?_cons, h3]
        rfl
theorem pg_tgt (ok : CtxOk g P c n X w) {fb : Str → Bool} (hf : ∀ x, fb x = true → X.fn x = true) {t : Tg} {tg : Expr} (h : chkG fb X.N X.env.scope t tg = true) : PG X tg (gT X.K t) := by
  match t, tg, h with
  | .one i, .Name x p, h =>
    simp only [chkG, Bool.and_eq_true, Bool.or_eq_true, decide_eq_true_eq] at h
    exact pg_name ok.nd h.1.1 (locl_of h.1.2) (h.2.imp_left (hf x))
  | .tup is, .Tuple es _ _, h =>
    obtain ⟨h1, h2, h3⟩ := pgs_names ok.nd hf (show namesC fb X.N X.env.scope is es = true from h)
    exact pg_tup ok.calm h1 h2 h3
theorem Rel.put {W : Wd} {ρ : Env} {M : Sto} {σ : L2.St} {H : Hp} {i : Nat} {d : D} {v : V} (r : Rel P ow W ρ M σ H) (n : i ∉ ow) (hv : Rep P W H d v) : Rel P ow W (put ρ i d) M (σ.set i (some v)) H := by
  refine ⟨r.sto, by rw [Ev.put, List.length_set, List.length_set, r.len], fun j d' e nj => ?_, fun j d' e hj => ?_, fun j k a hj hk ne gj gk e => ?_⟩
  · by_cases z : i = j
    · subst z
      have hi : i < ρ.length := by
        have := get_some e
        rw [Ev.put] at this
        by_cases q : i < ρ.length
        · exact q
        · rw [List.getElem?_eq_none (by rw [List.length_set]; omega)] at this; cases this
      have e' := get_some e
      rw [Ev.put, List.getElem?_set_self hi] at e'
      cases e'
      exact ⟨v, by rw [List.getElem?_set_self (by rw [← r.len]; exact hi)], hv⟩
    · have e' : get ρ j = some d' := by
        have := get_some e
        rw [Ev.put, List.getElem?_set_ne z] at this
        unfold get; rw [this]; rfl
      obtain ⟨u, h1, h2⟩ := r.fz j d' e' nj
      exact ⟨u, by rw [List.getElem?_set_ne z]; exact h1, h2⟩
  · have z : i ≠ j := fun z => n (z ▸ hj)
    have e' : get ρ j = some d' := by
      have := get_some e
      rw [Ev.put, List.getElem?_set_ne z] at this
      unfold get; rw [this]; rfl
    obtain ⟨u, h1, h2⟩ := r.own j d' e' hj
    exact ⟨u, by rw [List.getElem?_set_ne z]; exact h1, h2⟩
  · have zj : i ≠ j := fun z => n (z ▸ hj)
    have zk : i ≠ k := fun z => n (z ▸ hk)
    have g1 : ∀ m, i ≠ m → get (Ev.put ρ i d) m = get ρ m := fun m hm => by
      unfold get
      rw [Ev.put, List.getElem?_set_ne hm]
    rw [g1 j zj] at gj
    rw [g1 k zk] at gk
    rw [List.getElem?_set_ne zj] at e
    rw [List.getElem?_set_ne zk]
    exact r.sep j k a hj hk ne gj gk e
theorem Rel.drop {W : Wd} {ρ : Env} {M : Sto} {σ : L2.St} {H : Hp} {i : Nat} (r : Rel P ow W ρ M σ H) (n : i ∉ ow) : Rel P ow W (ρ.set i none) M (σ.set i none) H := by
  have g1 : ∀ m d, get (ρ.set i none) m = some d → i ≠ m ∧ get ρ m = some d := fun m d e => by
    have e' := get_some e
    by_cases z : i = m
    · subst z
      by_cases q : i < ρ.length
      · rw [List.getElem?_set_self q] at e'; cases e'
      · rw [List.getElem?_eq_none (by rw [List.length_set]; omega)] at e'; cases e'
    · rw [List.getElem?_set_ne z] at e'
      exact ⟨z, by unfold get; rw [e']; rfl⟩
  refine ⟨r.sto, by rw [List.length_set, List.length_set, r.len], fun j d' e nj => ?_, fun j d' e hj => ?_, fun j k a hj hk ne gj gk e => ?_⟩
  · obtain ⟨z, e'⟩ := g1 j d' e
    obtain ⟨u, h1, h2⟩ := r.fz j d' e' nj
    exact ⟨u, by rw [List.getElem?_set_ne z]; exact h1, h2⟩
  · obtain ⟨z, e'⟩ := g1 j d' e
    obtain ⟨u, h1, h2⟩ := r.own j d' e' hj
    exact ⟨u, by rw [List.getElem?_set_ne z]; exact h1, h2⟩
  · have zj : i ≠ j := fun z => n (z ▸ hj)
    have zk : i ≠ k := fun z => n (z ▸ hk)
    have g2 : ∀ m, i ≠ m → get (ρ.set i none) m = get ρ m := fun m hm => by
      unfold get
      rw [List.getElem?_set_ne hm]
    rw [g2 j zj] at gj
    rw [g2 k zk] at gk
    rw [List.getElem?_set_ne zj] at e
    rw [List.getElem?_set_ne zk]
    exact r.sep j k a hj hk ne gj gk e
theorem Rel.wiped {W : Wd} {ρ : Env} {M : Sto} {σ : L2.St} {H : Hp} (r : Rel P ow W ρ M σ H) : ∀ {vs : List Nat}, (∀ i ∈ vs, i ∉ ow) → ∃ τ, Rel P ow W τ M (wipe σ vs) H ∧ τ.length = ρ.length ∧ ∀ k, k ∉ vs → τ[k]? = ρ[k]?
  | [], _ => ⟨ρ, r, rfl, fun _ _ => rfl⟩
  | v :: vs, h => by
    obtain ⟨τ, h1, h2, h3⟩ := Rel.wiped r (vs := vs) fun i hi => h i (List.mem_cons_of_mem _ hi)
    refine ⟨τ.set v none, h1.drop (h v List.mem_cons_self), by rw [List.length_set, h2], fun k hk => ?_⟩
    rw [List.getElem?_set_ne (fun z => hk (by rw [← z]; exact List.mem_cons_self))]
    exact h3 k fun m => hk (List.mem_cons_of_mem _ m)
theorem puts_agree : ∀ {is : List Nat} {ds : List D} {ρ τ ρ' : Env}, puts ρ is ds = some ρ' → (∀ k, k ∉ is → τ[k]? = ρ[k]?) → τ.length = ρ.length → puts τ is ds = some ρ'
  | [], [], ρ, τ, ρ', e, h, _ => by
    cases e
    have : τ = ρ := List.ext_getElem? fun k => h k (by simp)
    rw [this]; rfl
  | [], _ :: _, _, _, _, e, _, _ => by cases e
  | _ :: _, [], _, _, _, e, _, _ => by cases e
  | i :: is, d :: ds, ρ, τ, ρ', e, h, hl => by
    refine puts_agree (ρ := Ev.put ρ i d) (τ := Ev.put τ i d) (is := is) e (fun k hk => ?_) (by simp [Ev.put, hl])
    by_cases z : i = k
    · subst z
      by_cases q : i < ρ.length
      · rw [Ev.put, Ev.put, List.getElem?_set_self q, List.getElem?_set_self (by rw [hl]; exact q)]
      · rw [Ev.put, Ev.put, List.getElem?_eq_none (by rw [List.length_set]; omega), List.getElem?_eq_none (by rw [List.length_set]; omega)]
    · rw [Ev.put, Ev.put, List.getElem?_set_ne z, List.getElem?_set_ne z]
      exact h k fun m => by
        rcases List.mem_cons.mp m with m | m
        · exact z m.symm
        · exact hk m
theorem putT_agree {t : Tg} {d : D} {ρ τ ρ' : Env} (e : putT ρ t d = some ρ') (h : ∀ k, k ∉ slots t → τ[k]? = ρ[k]?) (hl : τ.length = ρ.length) : putT τ t d = some ρ' := by
  cases t with
  | one i =>
    have e' : puts ρ [i] [d] = some ρ' := e
    exact (puts_agree e' h hl : puts τ [i] [d] = some ρ')
  | tup is =>
    cases d <;> first | (cases e; done) | exact puts_agree e h hl
theorem gSl_ok {W : Wd} {M : Sto} {H : Hp} : ∀ {is : List Nat} {ds : List D} {vs : List V} {ρ ρ' : Env} {σ : L2.St} {Q : L2.St → Hp → Prop}, Rel P ow W ρ M σ H → (∀ i ∈ is, i ∉ ow) → Reps P W H ds vs → puts ρ is ds = some ρ' →
    (∀ σ', Rel P ow W ρ' M σ' H → σ'.length = σ.length → (∀ k, k ∉ is → σ'[k]? = σ[k]?) → Q σ' H) → gSl is vs σ H Q
  | [], [], _, ρ, ρ', σ, Q, r, _, rs, e, k => by
    cases e
    exact ⟨rs, k σ r rfl fun _ _ => rfl⟩
  | [], _ :: _, _, _, _, _, _, _, _, _, e, _ => by cases e
  | _ :: _, [], _, _, _, _, _, _, _, _, e, _ => by cases e
  | i :: is, d :: ds, _, ρ, ρ', σ, Q, r, h, rs, e, k => by
    obtain ⟨v, r', rfl, h1, h2⟩ := rs
    refine ⟨v, r', rfl, gSl_ok (r.put (h i List.mem_cons_self) h1) (fun j hj => h j (List.mem_cons_of_mem _ hj)) h2 e fun σ' r2 hl hk => k σ' r2 (by rw [hl, List.length_set]) fun j hj => ?_⟩
    rw [hk j fun m => hj (List.mem_cons_of_mem _ m), List.getElem?_set_ne (fun z => hj (by rw [← z]; exact List.mem_cons_self))]
theorem puts_len : ∀ {is : List Nat} {ds : List D} {ρ ρ' : Env}, puts ρ is ds = some ρ' → ds.length = is.length ∧ ρ'.length = ρ.length
  | [], [], _, _, e => by cases e; exact ⟨rfl, rfl⟩
  | [], _ :: _, _, _, e => by cases e
  | _ :: _, [], _, _, e => by cases e
  | i :: is, d :: ds, ρ, _, e => by
    obtain ⟨h1, h2⟩ := puts_len (is := is) (ds := ds) e
    exact ⟨by rw [List.length_cons, List.length_cons, h1], by rw [h2, Ev.put, List.length_set]⟩
theorem gT_ok {K : PySem.W.Frag} (hK : K = P.K) {t : Tg} {d : D} {x : V} {W : Wd} {M : Sto} {H : Hp} {ρ ρ' : Env} {σ : L2.St} {Q : L2.St → Hp → Prop} (r : Rel P ow W ρ M σ H) (h : ∀ i ∈ slots t, i ∉ ow) (rp : Rep P W H d x) (e : putT ρ t d = some ρ')
    (k : ∀ σ', Rel P ow W ρ' M σ' H → σ'.length = σ.length → (∀ k, k ∉ slots t → σ'[k]? = σ[k]?) → Q σ' H) : gT K t x σ H Q := by
  cases t with
  | one i =>
    cases e
    refine k _ (r.put (h i List.mem_cons_self) rp) (List.length_set ..) fun j hj => ?_
    rw [List.getElem?_set_ne (fun z => hj (by rw [← z]; exact List.mem_cons_self))]
  | tup is =>
    cases d with
    | tup ds =>
      obtain ⟨a, vs, rfl, ta, _, rs⟩ := rp
      exact ⟨a, vs, rfl, by rw [hK]; exact ta.sq, by rw [rs.length, (puts_len e).1], gSl_ok r h rs e k⟩
    | _ => cases e
theorem wipe_in {σ : L2.St} {i : Nat} : ∀ {vs : List Nat}, i ∈ vs → i < σ.length → (wipe σ vs)[i]? = some none
  | v :: vs, h, hi => by
    unfold wipe
    by_cases z : v = i
    · subst z
      rw [List.getElem?_set_self (by rw [wipe_length]; exact hi)]
    · rw [List.getElem?_set_ne z]
      rcases List.mem_cons.mp h with h | h
      · exact (z h.symm).elim
      · exact wipe_in h hi
theorem wipe_same {σ τ : L2.St} {vs : List Nat} (hl : τ.length = σ.length) (h : ∀ k, k ∉ vs → τ[k]? = (wipe σ vs)[k]?) : wipe τ vs = wipe σ vs := by
  refine List.ext_getElem? fun k => ?_
  by_cases m : k ∈ vs
  · by_cases hk : k < σ.length
    · rw [wipe_in m hk, wipe_in m (hl ▸ hk)]
    · rw [List.getElem?_eq_none (by rw [wipe_length]; omega), List.getElem?_eq_none (by rw [wipe_length]; omega)]
  · rw [wipe_out m, h k m]
end
end Ev
set_option Elab.async false
set_option linter.all false
set_option autoImplicit false
set_option maxRecDepth 100000
set_option maxHeartbeats 4000000
namespace Ev
open PySem PySem.Spec PyProof.Rows L2
section
variable {P : Par} {c : Call} {ow : List Nat} {w : WX} {g : Cfg} {n : Nat} {X : Cx} {pos : Pos}
theorem RepW.rr {P : Par} {W : Wd} {H : Hp} {d : D} {v : V} (h : RepW P W H d v) : RepR P W H d v := by
  rcases h with h | ⟨a, rfl, _, h⟩
  · exact h.r
  · exact h.r
theorem lastMarks2 {op op' : CmpOp} {b d : Expr} (h : notSet d = true) : lastMarks [op, op'] [b, d] = false := notSet_of h op'
theorem rep_x {a : E} {W : Wd} {H : Hp} {d : D} {v : V} {W' : Wd} {H' : Hp} (g : G W H W' H') (wf : Wf W H) (h : RepQ a P W H d v) : RepW P W' H' d v := h.w.g g wf
theorem chain_raw {o o' : CO} {a b d : E} {σ : L2.St} {H : Hp} {T : V → Hp → Prop} {W : Wd} {ρ : Env} {M : Sto} (rel : Rel P ow W ρ M σ H) {A : D × Sto → Prop} (hs : (evE c (.chain o o' a b d) ρ M).sat A (Xk P W H w σ))
    (k : ∀ W' H' M' b, G W H W' H' → StoR P W' M' H' → A (.bl b, M') → T (.bl b) H') : tChain (rCmp P o) (rCmp P o') (tE P c ow w a) (tE P c ow w b) (tE P c ow w d) σ H T := by
  rw [evE, R.sat_bind] at hs
  refine ⟨W, ρ, M, rel, R.sat_mono hs (fun r hr => ?_) fun _ _ h => h⟩
  intro W1 x H1 g1 s1 r1
  rw [R.sat_bind] at hr
  refine ⟨W1, ρ, r.2, rel.g g1 s1, R.sat_mono hr (fun q hq => ?_) fun _ _ h => h.g g1⟩
  intro W2 y H2 g2 s2 r2
  have r1' := r1.w.g g2 s1.wf
  cases e : cmpD o (nrm q.2 r.1) (nrm q.2 q.1) with
  | none => rw [e] at hq; exact hq.elim
  | some z =>
    rw [e] at hq
    refine ⟨W2, q.2, _, _, z, s2, r1'.r s2, r2.w.r s2, e, fun W3 v3 H3 g3 s3 r3 => ⟨z, r3, ?_⟩⟩
    have g13 := g1.trans (g2.trans g3)
    cases z with
    | false =>
      rw [if_neg (by decide)]
      exact k W3 H3 q.2 false g13 s3 hq
    | true =>
      rw [if_pos rfl]
      rw [R.sat_bind] at hq
      refine ⟨W3, ρ, q.2, rel.g g13 s3, R.sat_mono hq (fun p hp => ?_) fun _ _ h => h.g g13⟩
      intro W4 u H4 g4 s4 r4
      obtain ⟨z', e', hp⟩ := sat_of hp
      refine ⟨W4, p.2, _, _, z', s4, ((r2.w.g g3 s2.wf).g g4 s3.wf).r s4, r4.w.r s4, e', fun W5 v5 H5 g5 s5 r5 => ?_⟩
      have e5 : v5 = .bl z' := r5
      rw [e5]
      exact k W5 H5 p.2 z' (g13.trans (g4.trans g5)) s5 hp
theorem x_chain {o o' : CO} {a b d : E} {x y z : Expr} (ok : CtxOk g P c n X w) (hz : notSet z = true) (ha : PEE P c ow w X x a) (hb : PEE P c ow w X y b) (hd : PEE P c ow w X z d) : PEE P c ow w X (.Compare x [coOp o, coOp o'] [y, z] pos) (.chain o o' a b d) := by
  refine pe_imp (pe_chain (op_cmp o ok.hK ok.hu) (op_cmp o' ok.hK ok.hu) ha hb hd (lastMarks2 hz)) fun σ H Q ⟨W, ρ, M, rel, hs⟩ => ?_
  exact chain_raw rel hs fun W' H' M' b g' s' h => (show PQ P W H (.chain o o' a _ d) Q (.bl b, M') from h) W' _ H' g' s' (.of rfl)
theorem t_chain {o o' : CO} {a b d : E} {x y z : Expr} (ok : CtxOk g P c n X w) (hz : notSet z = true) (ha : PEE P c ow w X x a) (hb : PEE P c ow w X y b) (hd : PEE P c ow w X z d) : PTT P c ow w X (.Compare x [coOp o, coOp o'] [y, z] pos) (.chain o o' a b d) := by
  refine pt_imp (pt_chain (op_cmp o ok.hK ok.hu) (op_cmp o' ok.hK ok.hu) ha hb hd (lastMarks2 hz)) fun σ H Q ⟨W, ρ, M, rel, hs⟩ => ?_
  refine chain_raw rel hs fun W' H' M' b g' s' h => ?_
  obtain ⟨k, e, hq⟩ := h
  cases e
  exact ⟨_, rfl, hq W' H' g' s'⟩
theorem x_bi {b : Bi} {as : List E} {x : Str} {p : Pos} {e : Expr} {es : List Expr} (ok : CtxOk g P c n X w) (hg : glob X.env.scope x = true) (hp : plainName x = true) (hb : g.bi.lookup x = some b) (hc : biCall b = true) (ha : PA X (e :: es) (tAs P c ow w as)) (hst : (e :: es).all notStar = true) :
    PE X (.Call (.Name x p) (e :: es) [] pos) (tF P c ow w (.bi b as)) := by
  obtain ⟨h1, h2, h3⟩ := plainName_of hp
  obtain ⟨m1, m2⟩ := ok.bi x b hb
  rw [List.all_cons, Bool.and_eq_true] at hst
  have cr := cr_bi (P := P) b hc ok.hK ok.calm
  have pe : PE X (.Call (.Name x p) (e :: es) [] pos) (tCB (rBi P b) (tAs P c ow w as)) := by
    cases b <;> first
      | exact pe_callB cr (glob_of hg) m1 m2 ha h3 h1 (notStar_of hst.1 _ _) (stars_none hst.2)
      | exact pe_callTy cr (glob_of hg) m1 m2 ha h3 h1 (notStar_of hst.1 _ _) (stars_none hst.2)
      | cases hc
  refine pe_imp pe fun σ H Q ⟨W, ρ, M, rel, hs⟩ => ?_
  rw [evE, R.sat_bind] at hs
  refine ⟨W, ρ, M, rel, R.sat_mono hs (fun r hr => ?_) fun _ _ h => h⟩
  intro W1 vs H1 g1 s1 r1
  obtain ⟨d, ed, hq⟩ := sat_of hr
  exact ⟨W1, r.2, _, d, s1, r1.r s1, ed, fun W' v H' g' s' rf => hq W' v H' (g1.trans g') s' (repF_g g1 rf)⟩
theorem join_str {s : List Nat} {a d : D} (h : meD .join (.str s) [a] = some d) : ∃ x, d = .str x := by
  unfold meD at h
  split at h <;> first | (cases h; done) | skip
  all_goals first | (rename_i h1 _ _; cases h1; done) | (rename_i h1 _; cases h1; done) | (rename_i h1; cases h1; done) | skip
  all_goals
    rename_i s' xs h1 h2 h3
    cases e : strsD xs with
    | none => rw [e] at h; cases h
    | some ys =>
      rw [e] at h
      simp only [Option.bind_some] at h
      split at h
      · cases h; exact ⟨_, rfl⟩
      · cases h
theorem x_join {a b : E} {o e : Expr} {apos : Pos} (ok : CtxOk g P c n X w) (h0 : notCall0 o = true) (hl : (apos.endLine == pos.line) = true) (hst : notStar e = true) (ha : PEE P c ow w X o a) (hb : PEE P c ow w X e b) : PEE P c ow w X (.Call (.Attribute o "join" apos) [e] [] pos) (.join a b) := by
  refine pe_imp (pe_m1 F.slot_str_join F.type_str_join (mt_meJoin (P := P) ok.hK) ha hb (notStar_of hst _ _) (notCall0_of h0 _ _) hl) fun σ H Q ⟨W, ρ, M, rel, hs⟩ => ?_
  rw [evE, R.sat_bind] at hs
  refine ⟨W, ρ, M, rel, R.sat_mono hs (fun r hr => ?_) fun _ _ h => h⟩
  intro W1 x H1 g1 s1 r1
  obtain ⟨d0, M1⟩ := r
  cases d0 with
  | str sx =>
    have hr : ((evE c b ρ M1).bind fun q => R.of ((meD .join (.str sx) [nrm q.2 q.1]).map fun d => (d, q.2))).sat (PQ P W H (.join a b) Q) (Xk P W H w σ) := hr
    rw [R.sat_bind] at hr
    refine ⟨⟨S' sx, ((r1.w.rr : RepR P W1 H1 (.str sx) x).1)⟩, W1, ρ, M1, rel.g g1 s1, R.sat_mono hr (fun q hq => ?_) fun _ _ h => h.g g1⟩
    intro W2 y H2 g2 s2 r2
    obtain ⟨d, ed, hq⟩ := sat_of hq
    obtain ⟨z, rfl⟩ := join_str ed
    exact ⟨W2, q.2, .str sx, [nrm q.2 q.1], _, s2, (r1.w.g g2 s1.wf).rr, ⟨y, [], rfl, r2.w.r s2, rfl⟩, ed, fun W' v H' g' s' rf => hq W' v H' (g1.trans (g2.trans g')) s' (.of rf)⟩
  | _ => exact hr.elim
theorem x_sub {a b : E} {x y : Expr} (ok : CtxOk g P c n X w) (hy : notSlice y = true) (ha : PEE P c ow w X x a) (hb : PEE P c ow w X y b) : PEE P c ow w X (.Subscript x y pos) (.sub a b) := by
  refine pe_imp (pe_ix (ix_sub (P := P) ok.hK) ha hb (notSlice_of hy)) fun σ H Q ⟨W, ρ, M, rel, hs⟩ => ?_
  rw [evE] at hs
  refine two rel hs fun r q v u W2 H2 g2 s2 r1 r2 h => ?_
  obtain ⟨d, e, hq⟩ := sat_of h
  exact ⟨W2, q.2, _, _, d, s2, r1, r2.w.rr, e, fun W' v' H' g' s' rf => hq W' v' H' (g2.trans g') s' (.of rf)⟩
theorem po_bnd {l : E} {lo : Option Expr} (h : match lo with | none => isNon l = true | some y => isNon l = false ∧ PEE P c ow w X y l) : PO X lo fun σ H Q => ∃ W ρ M, Rel P ow W ρ M σ H ∧ (evE c l ρ M).sat (fun r => ∃ o, bnd (isNon l) r.1 = some o ∧ ∀ W' H', G W H W' H' → StoR P W' r.2 H' → Q o H') (Xk P W H w σ) := by
  cases lo with
  | none =>
    have h : isNon l = true := h
    refine ⟨fun pins s σ H Q I q => po_none.run pins s σ H Q I ?_⟩
    obtain ⟨W, ρ, M, rel, hs⟩ := q
    cases l with
    | con d =>
      cases d with
      | non =>
        obtain ⟨o, e, hq⟩ := hs
        cases e
        exact hq W H .refl rel.sto
      | _ => cases h
    | _ => cases h
  | some y =>
    obtain ⟨h1, h2⟩ := h
    refine ⟨fun pins s σ H Q I q => (po_some h2).run pins s σ H Q I ?_⟩
    obtain ⟨W, ρ, M, rel, hs⟩ := q
    refine ⟨W, ρ, M, rel, R.sat_mono hs (fun r hr => ?_) fun _ _ h => h⟩
    intro W1 x H1 g1 s1 r1
    obtain ⟨o, e, hq⟩ := hr
    rw [h1] at e
    obtain ⟨d, M1⟩ := r
    cases d with
    | int i =>
      cases e
      exact ⟨i, (r1.w.rr : RepR P W1 H1 (.int i) x), hq W1 H1 g1 s1⟩
    | _ => cases e
theorem x_slc {a l h : E} {x : Expr} {lo hi : Option Expr} {p2 : Pos} (ok : CtxOk g P c n X w) (ha : PEE P c ow w X x a) (hl : match lo with | none => isNon l = true | some y => isNon l = false ∧ PEE P c ow w X y l) (hh : match hi with | none => isNon h = true | some y => isNon h = false ∧ PEE P c ow w X y h) :
    PE X (.Subscript x (.Slice lo hi none p2) pos) (tF P c ow w (.slc a l h)) := by
  refine pe_imp (pe_slice (sl_slc (P := P) ok.hK) ha (po_bnd hl) (po_bnd hh)) fun σ H Q ⟨W, ρ, M, rel, hs⟩ => ?_
  rw [evE, R.sat_bind] at hs
  refine ⟨W, ρ, M, rel, R.sat_mono hs (fun r hr => ?_) fun _ _ h => h⟩
  intro W1 v H1 g1 s1 r1
  rw [R.sat_bind] at hr
  refine ⟨W1, ρ, r.2, rel.g g1 s1, ?_⟩
  cases e1 : evE c l ρ r.2 with
  | bad => rw [e1] at hr; exact hr.elim
  | exc x M' => rw [e1] at hr; exact Xk.g g1 hr
  | ok q =>
    rw [e1] at hr
    cases b1 : bnd (isNon l) q.1 with
    | none =>
      rw [R.sat_ok, b1] at hr
      exact hr.elim
    | some o1 =>
      rw [R.sat_ok, b1, R.of_some, R.bind_ok, R.sat_bind] at hr
      rw [R.sat_ok]
      refine ⟨o1, b1, fun W2 H2 g2 s2 => ⟨W2, ρ, q.2, rel.g (g1.trans g2) s2, R.sat_mono hr (fun p hp => ?_) fun _ _ h => h.g (g1.trans g2)⟩⟩
      cases b2 : bnd (isNon h) p.1 with
      | none => rw [b2] at hp; exact hp.elim
      | some o2 =>
        rw [b2, R.of_some, R.bind_ok] at hp
        obtain ⟨d, ed, hq⟩ := sat_of hp
        exact ⟨o2, rfl, fun W3 H3 g3 s3 => ⟨W3, p.2, _, d, s3, ((r1.w.g g2 s1.wf).g g3 s2.wf).r s3, ed, fun W' v' H' g' s' rf => hq W' v' H' (g1.trans (g2.trans (g3.trans g'))) s' (repF_g (g1.trans (g2.trans g3)) rf)⟩⟩
def noW : WX := fun _ _ _ _ => False
theorem ownOf_slots {t : Tg} {tg : Expr} {own : List (Str × Nat)} (h : ownOf t tg = some own) : own.map (·.2) = slots t := by
  match t, tg, h with
  | .one i, .Name x _, h => cases h; rfl
  | .tup is, .Tuple es _ _, h =>
    have h : ((es.mapM nameOf).bind fun xs => if xs.length = is.length then some (xs.zip is) else none) = some own := h
    cases e : es.mapM nameOf with
    | none => rw [e] at h; cases h
    | some xs =>
      rw [e, Option.bind_some] at h
      split at h
      · rename_i hl
        cases h
        show (xs.zip is).map Prod.snd = is
        exact List.map_snd_zip (Nat.le_of_eq hl.symm)
      · cases h
def tC2 (P : Par) (c : Call) (ow : List Nat) (cs : List E) : TT := fun σ H Q => ∃ W ρ M, Rel P ow W ρ M σ H ∧ (evCs c cs ρ M).sat (fun r => ∀ W' H', G W H W' H' → StoR P W' r.2 H' → Q r.1 H') fun _ _ => False
theorem pts_cs {cs : List E} {ifs : List Expr} (h : match cs, ifs with | [], [] => True | [a], [e] => PTT P c ow noW X e a | _, _ => False) : PTs X ifs (tC2 P c ow cs) := by
  match cs, ifs, h with
  | [], [], _ =>
    refine ⟨fun pins s σ H Q I q => pts_nil.run pins s σ H Q I ?_⟩
    obtain ⟨W, ρ, M, rel, hs⟩ := q
    exact (show ∀ W' H', G W H W' H' → StoR P W' M H' → Q true H' from hs) W H .refl rel.sto
  | [a], [e], h =>
    refine ⟨fun pins s σ H Q I q => (pts_one h).run pins s σ H Q I ?_⟩
    obtain ⟨W, ρ, M, rel, hs⟩ := q
    rw [evCs, R.sat_bind] at hs
    refine ⟨W, ρ, M, rel, R.sat_mono hs (fun r hr => ?_) fun _ _ h => h.elim⟩
    obtain ⟨d, M'⟩ := r
    cases d with
    | bl k =>
      refine ⟨k, rfl, fun W' H' g' s' => ?_⟩
      cases k with
      | true => exact (show ∀ W'' H'', G W H W'' H'' → StoR P W'' M' H'' → Q true H'' from hr) W' H' g' s'
      | false => exact (show ∀ W'' H'', G W H W'' H'' → StoR P W'' M' H'' → Q false H'' from hr) W' H' g' s'
    | _ => exact hr.elim
theorem compL_cons {cond : Env → Sto → R (Bool × Sto)} {el : Env → Sto → R (D × Sto)} {t : Tg} {d : D} {ds : List D} {ρ : Env} {M : Sto} {A : List D × Sto → Prop} {B : Xc → Sto → Prop} (h : (compL cond el t (d :: ds) ρ M).sat A B) :
    ∃ ρ', putT ρ t d = some ρ' ∧ (cond ρ' M).sat (fun r => if r.1 = true then (el ρ' r.2).sat (fun q => (compL cond el t ds ρ q.2).sat (fun z => A (q.1 :: z.1, z.2)) B) (fun _ _ => False) else (compL cond el t ds ρ r.2).sat A B) fun _ _ => False := by
  unfold compL at h
  cases e : putT ρ t d with
  | none => rw [e] at h; exact h.elim
  | some ρ' =>
    rw [e] at h
    refine ⟨ρ', rfl, ?_⟩
    have h : (match cond ρ' M with
      | R.ok (true, M1) => (match el ρ' M1 with
        | R.ok (y, M2) => (match compL cond el t ds ρ M2 with
          | R.ok (ys, M3) => R.ok (y :: ys, M3)
          | _ => R.bad)
        | _ => R.bad)
      | R.ok (false, M1) => compL cond el t ds ρ M1
      | _ => (R.bad : R (List D × Sto))).sat A B := h
    cases e1 : cond ρ' M with
    | bad => rw [e1] at h; exact h
    | exc _ _ => rw [e1] at h; exact h
    | ok r =>
      rw [e1] at h
      obtain ⟨b, M1⟩ := r
      cases b with
      | false =>
        rw [R.sat_ok, if_neg Bool.false_ne_true]
        exact h
      | true =>
        rw [R.sat_ok, if_pos rfl]
        have h : (match el ρ' M1 with
          | R.ok (y, M2) => (match compL cond el t ds ρ M2 with
            | R.ok (ys, M3) => R.ok (y :: ys, M3)
            | _ => R.bad)
          | _ => (R.bad : R (List D × Sto))).sat A B := h
        cases e2 : el ρ' M1 with
        | bad => rw [e2] at h; exact h
        | exc _ _ => rw [e2] at h; exact h
        | ok q =>
          rw [e2] at h
          obtain ⟨y, M2⟩ := q
          show (compL cond el t ds ρ M2).sat _ B
          have h : (match compL cond el t ds ρ M2 with
            | R.ok (ys, M3) => R.ok (y :: ys, M3)
            | _ => (R.bad : R (List D × Sto))).sat A B := h
          cases e3 : compL cond el t ds ρ M2 with
          | bad => rw [e3] at h; exact h
          | exc _ _ => rw [e3] at h; exact h.elim
          | ok z => rw [e3] at h; exact h
theorem comp_turns {t : Tg} {a : E} {cs : List E} {own : List (Str × Nat)} {W : Wd} {ρ : Env} {M : Sto} {σ : L2.St} {H : Hp} {K : PySem.W.Frag} (hK : K = P.K) (rel : Rel P ow W ρ M σ H) (ho : own.map (·.2) = slots t) (hw : ∀ i ∈ slots t, i ∉ ow) {ds : List D} {J : It} (hl : ds.length ≤ SZ) (wk : Wlk G P W H ds J)
    (na : isBor a = false) {Q : VK} (hs : (compL (evCs c cs) (evE c a) t ds ρ M).sat (fun q => PF P W H Q (.lst q.1, q.2)) (fun _ _ => True)) : ∀ D, H D = none → ∃ Wv : Nat → Nat → Hp → Prop, (∃ m, Wv 0 m (upd H D (.lst []))) ∧ ∀ i m H, Wv i m H →
    (J.stop i H ∧ Q (.ref D) H) ∨ (J.go i H ∧ ∃ Nx : Hp → Prop, (∀ H', Nx H' → ∃ m', m' < m ∧ Wv (i + 1) m' H') ∧ ∀ x H', J.yld i H x H' → gT K t x (wipe σ (own.map (·.2))) H' fun σ2 H2 => wipe σ2 (own.map (·.2)) = wipe σ (own.map (·.2)) ∧ tC2 P c ow cs σ2 H2 fun b H3 =>
      if b = true then tE P c ow noW a σ2 H3 fun y H4 => ∃ acc, H4 D = some (.lst acc) ∧ acc.length < sizeLine ∧ Nx (upd H4 D (.lst (acc ++ [y]))) else Nx H3) := by
  intro D hD
  have dF : ¬ W.F D := fun z => rel.sto.wf.fs D z hD
  have dι : D ∉ W.ι := fun z => rel.sto.wf.is D z hD
  -- the invariant
  let Inv2 : Nat → Hp → Prop := fun i H' => i ≤ ds.length ∧ ∃ W' M' dacc acc, G W H W' H' ∧ StoR P W' M' H' ∧ ¬ W'.F D ∧ D ∉ W'.ι ∧ H' D = some (.lst acc) ∧ Reps P W' H' dacc acc ∧ dacc.length ≤ i ∧
    (compL (evCs c cs) (evE c a) t (ds.drop i) ρ M').sat (fun q => PF P W H Q (.lst (dacc ++ q.1), q.2)) (fun _ _ => True)
  refine ⟨fun i m H' => m = ds.length - i ∧ Inv2 i H', ⟨_, rfl, Nat.zero_le _, W, M, [], [], G.grow hD, rel.sto.grow hD, dF, dι, upd_same .., Reps.nil, Nat.le_refl _, by simpa using hs⟩, ?_⟩
  rintro i m H1 ⟨rfl, hi, W1, M1, dacc, acc, g1, s1, nF, nι, hd, rs, hln, hc⟩
  by_cases hlt : i < ds.length
  · obtain ⟨go, yl⟩ := wk.go W1 H1 i g1 hlt
    refine .inr ⟨go, Inv2 (i + 1), fun H' h' => ⟨_, by omega, rfl, h'⟩, fun x H' y => ?_⟩
    obtain ⟨rfl, d, hd1, rp⟩ := yl x H' y
    rw [List.drop_eq_getElem_cons hlt] at hc
    have ed : ds[i] = d := by
      rw [List.getElem?_eq_getElem hlt] at hd1
      exact Option.some.inj hd1
    rw [ed] at hc
    obtain ⟨ρ', e1, hc⟩ := compL_cons hc
    have rel1 := rel.g g1 s1
    obtain ⟨τ, r2, l2, k2⟩ := rel1.wiped (vs := own.map (·.2)) (by rw [ho]; exact hw)
    refine gT_ok hK r2 hw rp (putT_agree e1 (by rw [← ho]; exact k2) l2) fun σ2 r3 l3 k3 => ⟨wipe_same (by rw [l3, wipe_length]) (by rw [ho] at k3 ⊢; exact k3), ?_⟩
    refine ⟨W1, ρ', M1, r3, R.sat_mono hc (fun r hr => ?_) fun _ _ h => h⟩
    intro W3 H3 g3 s3
    have g13 := g1.trans g3
    have al1 : H' D ≠ none := by rw [hd]; exact fun z => nomatch z
    have d3 : H3 D = some (.lst acc) := g3.kp _ _ hd nι
    have nF3 : ¬ W3.F D := g3.nF al1 nF
    have nι3 : D ∉ W3.ι := g3.ni al1 nι
    cases hb : r.1 with
    | false =>
      rw [hb, if_neg (by decide)] at hr
      rw [if_neg (by decide)]
      exact ⟨hlt, W3, r.2, dacc, acc, g13, s3, nF3, nι3, d3, rs.g g3 s1.wf, Nat.le_succ_of_le hln, hr⟩
    | true =>
      rw [hb, if_pos rfl] at hr
      rw [if_pos rfl]
      refine ⟨W3, ρ', r.2, r3.g g3 s3, R.sat_mono hr (fun q hq => ?_) fun _ _ h => h.elim⟩
      intro W4 v H4 g4 s4 r4
      have al3 : H3 D ≠ none := by rw [d3]; exact fun z => nomatch z
      have d4 : H4 D = some (.lst acc) := g4.kp _ _ d3 nι3
      have nF4 : ¬ W4.F D := g4.nF al3 nF3
      have nι4 : D ∉ W4.ι := g4.ni al3 nι3
      have rs4 := (rs.g g3 s1.wf).g g4 s3.wf
      have la : acc.length = dacc.length := rs.length
      refine ⟨acc, d4, by rw [la, ← SZ_line]; omega, hlt, W4, q.2, dacc ++ [q.1], acc ++ [v], (g13.trans g4).upd hD, s4.upd nF4 nι4, nF4, nι4, upd_same .., (rs4.append (Reps.cons (r4.strict na) Reps.nil)).at_ (upd_out nF4), by rw [List.length_append, List.length_singleton]; omega, ?_⟩
      refine R.sat_mono hq (fun z hz => ?_) fun _ _ h => h
      rw [List.append_assoc]
      exact hz
  · have e : i = ds.length := by omega
    subst e
    refine .inl ⟨wk.stop W1 H1 _ g1 (Nat.le_refl _), ?_⟩
    rw [List.drop_length] at hc
    have hc : PF P W H Q (.lst (dacc ++ []), M1) := hc
    rw [List.append_nil] at hc
    exact hc W1 _ H1 g1 s1 ⟨D, rfl, hD, nF, nι, acc, hd, by omega, rs⟩
theorem comp_imp {K : PySem.W.Frag} (hK : K = P.K) {t : Tg} {a it : E} {cs : List E} {tg : Expr} {own : List (Str × Nat)} (ho : ownOf t tg = some own) (hw : ∀ i ∈ slots t, i ∉ ow) (na : isBor a = false) (σ : L2.St) (H : Hp) (Q : VK) (h : tF P c ow w (.comp a t it cs) σ H Q) :
    tLc (tI G P c ow w it) (gT K t) (tC2 P c ow cs) (tE P c ow noW a) (own.map (·.2)) σ H Q := by
  obtain ⟨W, ρ, M, rel, hs⟩ := h
  rw [evE, R.sat_bind] at hs
  refine ⟨W, ρ, M, rel, R.sat_mono hs (fun r hr => ?_) fun _ _ h => h⟩
  cases e : itemsOf r.1 with
  | none => rw [e] at hr; exact hr.elim
  | some ds =>
    rw [e] at hr
    refine ⟨ds, rfl, fun W1 H1 J g1 s1 wk => ?_⟩
    have hr : (if ds.length ≤ SZ then (compL (evCs c cs) (evE c a) t ds ρ r.2).bind fun q => .ok (.lst q.1, q.2) else .bad : R (D × Sto)).sat (PF P W H Q) (Xk P W H w σ) := hr
    split at hr
    · rename_i hl
      rw [R.sat_bind] at hr
      exact comp_turns hK (rel.g g1 s1) (ownOf_slots ho) hw hl wk na (R.sat_mono hr (fun q hq W' v H' g' s' rf => hq W' v H' (g1.trans g') s' (repF_g g1 rf)) fun _ _ _ => trivial)
    · exact hr.elim
theorem x_comp {t : Tg} {a it : E} {cs : List E} {elt tg iter : Expr} {ifs : List Expr} {scope : Scope} {own : List (Str × Nat)} (ok : CtxOk g P c n X w) (hb : blkC X.N X.env.scope scope own = true) (ho : ownOf t tg = some own) (hw : ∀ i ∈ slots t, i ∉ ow) (hset : notSet iter = true) (hi : PI X tg iter (tI G P c ow w it))
    (ht : chkG (cellB scope) X.N (relS scope X.env.scope) t tg = true) (na : isBor a = false)
    (hc : ∀ X' : Cx, CtxOk g P c n X' noW → X'.N = X.N → X'.env.scope = relS scope X.env.scope → (match cs, ifs with | [], [] => True | [a], [e] => PTT P c ow noW X' e a | _, _ => False) ∧ PEE P c ow noW X' elt a) :
    PE X (.ListComp elt [⟨tg, iter, ifs, 0⟩] scope pos) (tF P c ow w (.comp a t it cs)) := by
  refine pe_imp (pe_lc (g := gT X.K t) (tt := tC2 P c ow cs) (te := tE P c ow noW a) ok.calm ok.nd hi (blkOk_by hb) (fun s H C cl fp => pg_tgt (ok.blk ..) (fb := cellB scope) (fun x h => h) ht) (fun s H C cl fp => pts_cs (hc _ (ok.blk ..) rfl rfl).1) (fun s H C cl fp => (hc _ (ok.blk ..) rfl rfl).2) (notSet_fold hset _)) (comp_imp ok.hK ho hw na)
def Wd.box (W : Wd) (p : Addr) : Wd := ⟨W.ι ++ [p], W.F⟩
mutual
theorem Rep.box {P : Par} {W : Wd} {H : Hp} {p : Addr} : ∀ {d : D} {v : V}, Rep P W H d v → Rep P (W.box p) H d v
  | .non, _, h => h
  | .bl _, _, h => h
  | .int _, _, h => h
  | .str _, _, h => h
  | .tup ds, _, h => by
    obtain ⟨a, vs, e, h1, h2, h3⟩ := h
    exact ⟨a, vs, e, h1.imp (fun h => h) id, h2, Reps.box h3⟩
  | .lst ds, _, h => by
    obtain ⟨a, vs, e, h1, h2, h3, h4⟩ := h
    exact ⟨a, vs, e, h1, h2, h3, Reps.box h4⟩
  | .scr ds, _, h => by
    obtain ⟨a, vs, e, h1, h2, h3⟩ := h
    exact ⟨a, vs, e, h1.imp (fun h => h) id, h2, Reps.box h3⟩
  | .dct _, _, h => h
  | .itr _, _, h => h
  | .obj k, _, h => by
    obtain ⟨a, e, h⟩ := h
    refine ⟨a, e, ?_⟩
    show (W.ι ++ [p])[k]? = some a
    rw [List.getElem?_append_left (List.getElem?_eq_some_iff.mp h).1]
    exact h
  | .fn _, _, h => h
  | .cl _, _, h => h
  | .ty _, _, h => h
theorem Reps.box {P : Par} {W : Wd} {H : Hp} {p : Addr} : ∀ {ds : List D} {vs : List V}, Reps P W H ds vs → Reps P (W.box p) H ds vs
  | [], _, h => h
  | _ :: _, _, h => by
    obtain ⟨v, r, e, h1, h2⟩ := h
    exact ⟨v, r, e, Rep.box h1, Reps.box h2⟩
end
theorem BoxAt.box' {W : Wd} {H : Hp} {p a : Addr} {d : D} (h : BoxAt P W H a d) : BoxAt P (W.box p) H a d := by
  cases d with
  | lst ds =>
    obtain ⟨vs, h1, h2, h3⟩ := h
    exact ⟨vs, h1, h2, h3.box⟩
  | _ => exact (show False from h).elim
theorem MoAt.box {W : Wd} {H : Hp} {p a : Addr} {o : MO} (h : MoAt P W H a o) : MoAt P (W.box p) H a o := by
  cases o with
  | val d => exact BoxAt.box' h
  | ins _ _ => exact (show False from h).elim
theorem box_ok {W0 W : Wd} {H0 H : Hp} {M : Sto} {p : Addr} {d : D} (g : G W0 H0 W H) (s : StoR P W M H) (n : H0 p = none) (nF : ¬ W.F p) (nι : p ∉ W.ι) (h : BoxAt P W H p d) : G W0 H0 (W.box p) H ∧ StoR P (W.box p) (M ++ [.val d]) H := by
  refine ⟨⟨?_, g.fm, g.fn, g.kp, g.al⟩, ⟨⟨fun a fa z => ?_, s.wf.fs, ?_, fun a z => ?_⟩, ?_, fun k o e => ?_⟩⟩
  · obtain ⟨m, e, k⟩ := g.io
    refine ⟨m ++ [p], by show W.ι ++ [p] = _; rw [e, List.append_assoc], fun a ha => ?_⟩
    rcases List.mem_append.mp ha with ha | ha
    · exact k a ha
    · rw [List.mem_singleton.mp ha]; exact n
  · rcases List.mem_append.mp z with z | z
    · exact s.wf.fi a fa z
    · rw [List.mem_singleton.mp z] at fa; exact nF fa
  · refine List.nodup_append.mpr ⟨s.wf.nd, by simp, fun a ha b hb z => ?_⟩
    rw [List.mem_singleton.mp hb] at z
    subst z
    exact nι ha
  · rcases List.mem_append.mp z with z | z
    · exact s.wf.is a z
    · rw [List.mem_singleton.mp z]; exact h.some
  · show (W.ι ++ [p]).length = (M ++ [_]).length
    rw [List.length_append, List.length_append, s.len]; rfl
  · by_cases hk : k < M.length
    · rw [List.getElem?_append_left hk] at e
      obtain ⟨a, e1, h1⟩ := s.at_ k o e
      refine ⟨a, ?_, h1.box⟩
      show (W.ι ++ [p])[k]? = some a
      rw [List.getElem?_append_left (by rw [s.len]; exact hk)]
      exact e1
    · rw [List.getElem?_append_right (by omega)] at e
      have hk0 : k - M.length = 0 := by
        have := (List.getElem?_eq_some_iff.mp e).1
        simp at this
        omega
      rw [hk0] at e
      cases e
      refine ⟨p, ?_, BoxAt.box' h⟩
      show (W.ι ++ [p])[k]? = some p
      rw [List.getElem?_append_right (by rw [s.len]; omega), s.len, hk0]
      rfl
theorem x_alloc {a : E} {e : Expr} (h : PE X e (tF P c ow w a)) : PEE P c ow w X e (.alloc a) := by
  refine pe_imp h fun σ H Q ⟨W, ρ, M, rel, hs⟩ => ?_
  rw [evE, R.sat_bind] at hs
  refine ⟨W, ρ, M, rel, R.sat_mono hs (fun r hr => ?_) fun _ _ h => h⟩
  intro W1 v H1 g1 s1 rf
  obtain ⟨d, M1⟩ := r
  cases d with
  | lst ds =>
    obtain ⟨p, rfl, n, nF, nι, hb⟩ := rf
    obtain ⟨g2, s2⟩ := box_ok g1 s1 n nF nι hb
    refine (show PQ P W H (.alloc a) Q (.obj M1.length, M1 ++ [.val (.lst ds)]) from hr) (W1.box p) (.ref p) H1 g2 s2 (.of ⟨p, rfl, ?_⟩)
    show (W1.ι ++ [p])[M1.length]? = some p
    have hl : W1.ι.length = M1.length := s1.len
    rw [List.getElem?_append_right (by omega), hl, Nat.sub_self]
    rfl
  | dct _ => exact (show False from rf).elim
  | _ => exact (show False from hr).elim
theorem pw_unA {e : Expr} {t : TT} {op : BoolOp} {es : List Expr} (h1 : ∀ x, es = [x] → PT X x t) (h2 : (∀ x, es ≠ [x]) → PW X (.BoolOp op es pos) t) : PW X (.BoolOp op es pos) t := by
  by_cases z : ∃ x, es = [x]
  · obtain ⟨x, rfl⟩ := z
    cases op
    · exact pw_and1 (h1 x rfl)
    · exact pw_or1 (h1 x rfl)
  · exact h2 fun x e => z ⟨x, e⟩
theorem unB_one {op : BoolOp} {x : Expr} : unB (.BoolOp op [x] pos) = x := rfl
theorem unB_many {op : BoolOp} {x y : Expr} {r : List Expr} : unB (.BoolOp op (x :: y :: r) pos) = .BoolOp op (x :: y :: r) pos := rfl
structure Snd (P : Par) (c : Call) (ow : List Nat) (g : Cfg) (n : Nat) (a : E) : Prop where
  e : ∀ (X : Cx) (w : WX) (x : Expr), CtxOk g P c n X w → chkE g X.N ow X.env.scope a x = true → PE X x (tX P c ow w a)
  t : ∀ (X : Cx) (w : WX) (x : Expr), CtxOk g P c n X w → chkE g X.N ow X.env.scope a x = true → tstB a = true → PTT P c ow w X x a
  b : ∀ (X : Cx) (w : WX) (x : Expr), CtxOk g P c n X w → chkE g X.N ow X.env.scope a (unB x) = true → (∃ op es p, x = .BoolOp op es p) → PEE P c ow w X x a ∧ (tstB a = true → PW X x (tT P c ow w a))
  i : ∀ (X : Cx) (w : WX) (x tg : Expr), CtxOk g P c n X w → chkI g X.N ow X.env.scope a x = true → ∀ T, PI X tg x (tI T P c ow w a)
def Snds (P : Par) (c : Call) (ow : List Nat) (g : Cfg) (n : Nat) (as : List E) : Prop := (∀ a ∈ as, Snd P c ow g n a) ∧ ∀ (X : Cx) (w : WX) (es : List Expr), CtxOk g P c n X w → chkEs g X.N ow X.env.scope as es = true → PA X es (tAs P c ow w as)
theorem Snd.ee {a : E} (s : Snd P c ow g n a) (ok : CtxOk g P c n X w) {x : Expr} (h : chkE g X.N ow X.env.scope a x = true) : PEE P c ow w X x a := toE (s.e X w x ok h)
theorem Snd.of {a : E} (h : ∀ (X : Cx) (w : WX) (x : Expr), CtxOk g P c n X w → chkE g X.N ow X.env.scope a x = true → PE X x (tX P c ow w a) ∧ (tstB a = true → PTT P c ow w X x a) ∧ ∀ op es p, x = .BoolOp op es p → PEE P c ow w X x a ∧ (tstB a = true → PW X x (tT P c ow w a)))
    (hi : ∀ (X : Cx) (w : WX) (x tg : Expr), CtxOk g P c n X w → chkI g X.N ow X.env.scope a x = true → ∀ T, PI X tg x (tI T P c ow w a)) : Snd P c ow g n a := by
  refine ⟨fun X w x ok hx => (h X w x ok hx).1, fun X w x ok hx ht => (h X w x ok hx).2.1 ht, fun X w x ok hx hb => ?_, hi⟩
  obtain ⟨op, es, p, rfl⟩ := hb
  match es, hx with
  | [], hx => exact (h X w _ ok hx).2.2 _ _ _ rfl
  | [y], hx =>
    have q := h X w y ok hx
    refine ⟨pe_one (toE q.1), fun ht => ?_⟩
    cases op
    · exact pw_and1 (q.2.1 ht)
    · exact pw_or1 (q.2.1 ht)
  | y :: z :: r, hx => exact (h X w _ ok hx).2.2 _ _ _ rfl
end
end Ev
set_option Elab.async false
set_option linter.all false
set_option autoImplicit false
set_option maxRecDepth 100000
set_option maxHeartbeats 4000000
namespace Ev
open PySem PySem.Spec PyProof.Rows L2
section
variable {P : Par} {c : Call} {ow : List Nat} {g : Cfg} {n : Nat}
theorem S'_of (x : Str) : S' x.cps.toList = x := by
  cases x
  simp [S']
theorem noI {a : E} (h : ∀ N ow sc x, chkI g N ow sc a x = false) : ∀ (X : Cx) (w : WX) (x tg : Expr), CtxOk g P c n X w → chkI g X.N ow X.env.scope a x = true → ∀ T, PI X tg x (tI T P c ow w a) := fun X w x tg _ hx => by
  rw [h] at hx; cases hx
theorem triE {X : Cx} {w : WX} {x : Expr} {a : E} (q : PEE P c ow w X x a) (nn : isNew a = false) (he : ∀ whole, isTrue x X.env whole = (do let v ← whole; standAt x.pos; holding [v] (truthy v))) (nb : ∀ op es p, x ≠ .BoolOp op es p) :
    PE X x (tX P c ow w a) ∧ (tstB a = true → PTT P c ow w X x a) ∧ ∀ op es p, x = .BoolOp op es p → PEE P c ow w X x a ∧ (tstB a = true → PW X x (tT P c ow w a)) := ⟨ofE q nn, fun _ => t_val q he, fun op es p e => (nb op es p e).elim⟩
theorem triF {X : Cx} {w : WX} {x : Expr} {a : E} (q : PE X x (tF P c ow w a)) (nn : isNew a = true) (he : ∀ whole, isTrue x X.env whole = (do let v ← whole; standAt x.pos; holding [v] (truthy v))) (nb : ∀ op es p, x ≠ .BoolOp op es p) :
    PE X x (tX P c ow w a) ∧ (tstB a = true → PTT P c ow w X x a) ∧ ∀ op es p, x = .BoolOp op es p → PEE P c ow w X x a ∧ (tstB a = true → PW X x (tT P c ow w a)) := ⟨ofF q nn, fun _ => t_val (toE (ofF q nn)) he, fun op es p e => (nb op es p e).elim⟩
theorem s_var (i : Nat) : Snd P c ow g n (.var i) := by
  refine .of (fun X w x ok hx => ?_) (noI fun _ _ _ _ => by simp [chkI])
  unfold chkE at hx
  split at hx
  · simp only [Bool.and_eq_true, Bool.not_eq_true'] at hx
    exact triE (x_var ok hx.1 hx.2) rfl (fun _ => rfl) fun _ _ _ e => nomatch e
  · cases hx
theorem s_bor (i : Nat) : Snd P c ow g n (.bor i) := by
  refine .of (fun X w x ok hx => ?_) (noI fun _ _ _ _ => by simp [chkI])
  unfold chkE at hx
  split at hx
  · exact triE (x_bor ok hx) rfl (fun _ => rfl) fun _ _ _ e => nomatch e
  · cases hx
theorem s_con (d : D) : Snd P c ow g n (.con d) := by
  refine .of (fun X w x ok hx => ?_) (noI fun _ _ _ _ => by simp [chkI])
  unfold chkE at hx
  split at hx
  · rw [same_eq _ _ hx]
    exact triE (x_con (P := P) (c := c) (ow := ow) (w := w) (d := .int _) (pe_int (X := X)) fun _ _ => rfl) rfl (fun _ => rfl) fun _ _ _ e => nomatch e
  · rw [same_eq _ _ hx]
    exact triE (x_con (P := P) (c := c) (ow := ow) (w := w) (d := .bl _) (pe_bl (X := X)) fun _ _ => rfl) rfl (fun _ => rfl) fun _ _ _ e => nomatch e
  · rw [same_eq _ _ hx]
    exact triE (x_con (P := P) (c := c) (ow := ow) (w := w) (d := .non) (pe_non (X := X)) fun _ _ => rfl) rfl (fun _ => rfl) fun _ _ _ e => nomatch e
  · rename_i y _ _ 
    simp only [Bool.and_eq_true, decide_eq_true_eq, List.all_eq_true] at hx
    rw [same_eq _ _ hx.1.1]
    exact triE (x_con (P := P) (c := c) (ow := ow) (w := w) (d := .str y.cps.toList) (pe_str (X := X)) fun _ _ => ⟨by rw [S'_of], by simpa using hx.1.2, hx.2⟩) rfl (fun _ => rfl) fun _ _ _ e => nomatch e
  · rename_i y p
    simp only [Bool.and_eq_true] at hx
    obtain ⟨⟨h1, h2⟩, h3⟩ := hx
    obtain ⟨k1, k2, k3⟩ := plainName_of h2
    split at h3
    · rename_i d' hd
      obtain ⟨u, v, m1, m2, m3⟩ := ok.gl y d' hd
      rw [same_eq _ _ h3]
      exact triE (x_con (P := P) (c := c) (ow := ow) (w := w) (pe_glob (pos := p) (glob_of h1) m1 m2 k1) m3) rfl (fun _ => rfl) fun _ _ _ e => nomatch e
    · split at h3
      · rename_i t m ht
        have e : t = m := by simpa using h3
        subst e
        obtain ⟨m1, m2⟩ := ok.ty y t ht
        exact triE (x_con (P := P) (c := c) (ow := ow) (w := w) (d := .ty t) (pe_bltn (v := .ty t) (pos := p) (glob_of h1) m1 m2 rfl k3 k1) fun _ _ => rfl) rfl (fun _ => rfl) fun _ _ _ e => nomatch e
      · cases h3
  · cases hx
theorem s_neg {a : E} (s : Snd P c ow g n a) : Snd P c ow g n (.neg a) := by
  refine .of (fun X w x ok hx => ?_) (noI fun _ _ _ _ => by simp [chkI])
  unfold chkE at hx
  split at hx
  · exact triE (x_neg (s.ee ok hx)) rfl (fun _ => rfl) fun _ _ _ e => nomatch e
  · cases hx
theorem s_bin {o : BO} {a b : E} (s : Snd P c ow g n a) (t : Snd P c ow g n b) : Snd P c ow g n (.bin o a b) := by
  refine .of (fun X w x ok hx => ?_) (noI fun _ _ _ _ => by simp [chkI])
  unfold chkE at hx
  split at hx
  · simp only [Bool.and_eq_true, decide_eq_true_eq] at hx
    obtain ⟨⟨rfl, h1⟩, h2⟩ := hx
    exact triF (x_bin ok (s.ee ok h1) (t.ee ok h2)) rfl (fun _ => rfl) fun _ _ _ e => nomatch e
  · cases hx
theorem s_cmp {o : CO} {a b : E} (s : Snd P c ow g n a) (t : Snd P c ow g n b) : Snd P c ow g n (.cmp o a b) := by
  refine .of (fun X w x ok hx => ?_) (noI fun _ _ _ _ => by simp [chkI])
  unfold chkE at hx
  split at hx
  · simp only [Bool.and_eq_true, decide_eq_true_eq] at hx
    obtain ⟨⟨⟨rfl, h0⟩, h1⟩, h2⟩ := hx
    exact ⟨ofE (x_cmp ok h0 (s.ee ok h1) (t.ee ok h2)) rfl, fun _ => t_cmp ok h0 (s.ee ok h1) (t.ee ok h2), fun _ _ _ e => nomatch e⟩
  · cases hx
theorem s_chain {o o' : CO} {a b d : E} (s : Snd P c ow g n a) (t : Snd P c ow g n b) (u : Snd P c ow g n d) : Snd P c ow g n (.chain o o' a b d) := by
  refine .of (fun X w x ok hx => ?_) (noI fun _ _ _ _ => by simp [chkI])
  unfold chkE at hx
  split at hx
  · simp only [Bool.and_eq_true, decide_eq_true_eq] at hx
    obtain ⟨⟨⟨⟨⟨⟨rfl, rfl⟩, h0⟩, h00⟩, h1⟩, h2⟩, h3⟩ := hx
    exact ⟨ofE (x_chain ok h00 (s.ee ok h1) (t.ee ok h2) (u.ee ok h3)) rfl, fun _ => t_chain ok h00 (s.ee ok h1) (t.ee ok h2) (u.ee ok h3), fun _ _ _ e => nomatch e⟩
  · cases hx
theorem s_and {a b : E} (s : Snd P c ow g n a) (t : Snd P c ow g n b) : Snd P c ow g n (.and a b) := by
  refine .of (fun X w x ok hx => ?_) (noI fun _ _ _ _ => by simp [chkI])
  unfold chkE at hx
  split at hx
  · rename_i y z r p
    simp only [Bool.and_eq_true, Bool.not_eq_true'] at hx
    obtain ⟨⟨h0, h1⟩, h2⟩ := hx
    have sb := t.b X w (.BoolOp .And (z :: r) p) ok h2 ⟨_, _, _, rfl⟩
    have q := x_and (pos := p) (s.ee ok h1) sb.1 h0
    have tq : tstB (.and a b) = true → PW X (.BoolOp .And (y :: z :: r) p) (tT P c ow w (.and a b)) := fun ht => by
      rw [tstB, Bool.and_eq_true] at ht
      exact t_and (s.t X w y ok h1 ht.1) (sb.2 ht.2)
    refine ⟨ofE q rfl, fun ht => (tq ht).pt, fun op es p' e => ?_⟩
    cases e
    exact ⟨q, tq⟩
  · cases hx
theorem s_or {a b : E} (s : Snd P c ow g n a) (t : Snd P c ow g n b) : Snd P c ow g n (.or a b) := by
  refine .of (fun X w x ok hx => ?_) (noI fun _ _ _ _ => by simp [chkI])
  unfold chkE at hx
  split at hx
  · rename_i y z r p
    simp only [Bool.and_eq_true, Bool.not_eq_true'] at hx
    obtain ⟨⟨h0, h1⟩, h2⟩ := hx
    have sb := t.b X w (.BoolOp .Or (z :: r) p) ok h2 ⟨_, _, _, rfl⟩
    have q := x_or (pos := p) (s.ee ok h1) sb.1 h0
    have tq : tstB (.or a b) = true → PW X (.BoolOp .Or (y :: z :: r) p) (tT P c ow w (.or a b)) := fun ht => by
      rw [tstB, Bool.and_eq_true] at ht
      exact t_or (s.t X w y ok h1 ht.1) (sb.2 ht.2)
    refine ⟨ofE q rfl, fun ht => (tq ht).pt, fun op es p' e => ?_⟩
    cases e
    exact ⟨q, tq⟩
  · cases hx
theorem s_not {a : E} (s : Snd P c ow g n a) : Snd P c ow g n (.not a) := by
  refine .of (fun X w x ok hx => ?_) (noI fun _ _ _ _ => by simp [chkI])
  unfold chkE at hx
  split at hx
  · rw [Bool.and_eq_true] at hx
    exact ⟨ofE (x_not (s.ee ok hx.1)) rfl, fun _ => t_not (s.t X w _ ok hx.1 hx.2), fun _ _ _ e => nomatch e⟩
  · cases hx
theorem s_ite {t a b : E} (r : Snd P c ow g n t) (s : Snd P c ow g n a) (u : Snd P c ow g n b) : Snd P c ow g n (.ite t a b) := by
  refine .of (fun X w x ok hx => ?_) (noI fun _ _ _ _ => by simp [chkI])
  unfold chkE at hx
  split at hx
  · simp only [Bool.and_eq_true, Bool.not_eq_true'] at hx
    obtain ⟨⟨⟨⟨⟨h0, h1⟩, h2⟩, h3⟩, h4⟩, h5⟩ := hx
    exact ⟨ofE (x_ite (r.t X w _ ok h1 h0) (s.ee ok h2) (u.ee ok h3) h4 h5) rfl, fun h => by simp [tstB] at h, fun _ _ _ e => nomatch e⟩
  · cases hx
theorem s_join {a b : E} (s : Snd P c ow g n a) (t : Snd P c ow g n b) : Snd P c ow g n (.join a b) := by
  refine .of (fun X w x ok hx => ?_) (noI fun _ _ _ _ => by simp [chkI])
  unfold chkE at hx
  split at hx
  · simp only [Bool.and_eq_true, decide_eq_true_eq] at hx
    obtain ⟨⟨⟨⟨⟨rfl, h0⟩, h1⟩, h2⟩, h3⟩, h4⟩ := hx
    exact triE (x_join ok h1 h2 h0 (s.ee ok h3) (t.ee ok h4)) rfl (fun _ => rfl) fun _ _ _ e => nomatch e
  · cases hx
theorem s_call {f : Nat} {as : List E} (s : Snds P c ow g n as) : Snd P c ow g n (.call f as) := by
  refine .of (fun X w x ok hx => ?_) (noI fun _ _ _ _ => by simp [chkI])
  unfold chkE at hx
  split at hx
  · rename_i y p es pos
    simp only [Bool.and_eq_true] at hx
    obtain ⟨⟨⟨⟨h0, h1⟩, h2⟩, h3⟩, h4⟩ := hx
    split at h2
    · rename_i d hd
      rw [same_eq _ _ h2] at hd
      have hs := chkEs_star h3
      exact triE (x_call (pos := pos) (p := p) ok h0 h1 hd (s.2 X w es ok h3) hs.1 hs.2 h4) rfl (fun _ => rfl) fun _ _ _ e => nomatch e
    · cases h2
  · cases hx
theorem s_bi {b : Bi} {as : List E} (s : Snds P c ow g n as) : Snd P c ow g n (.bi b as) := by
  refine .of (fun X w x ok hx => ?_) (fun X w x tg ok hx => ?_)
  · unfold chkE at hx
    split at hx
    · rename_i y p e es pos
      simp only [Bool.and_eq_true] at hx
      obtain ⟨⟨⟨⟨h0, h1⟩, h2⟩, h3⟩, h4⟩ := hx
      split at h2
      · rename_i b' hd
        have e : b = b' := by simpa using h2
        subst e
        exact triF (x_bi (pos := pos) (p := p) ok h0 h1 hd h3 (s.2 X w _ ok h4) (chkEs_star h4).1) rfl (fun _ => rfl) fun _ _ _ e => nomatch e
      · cases h2
    · cases hx
  · intro T
    unfold chkI at hx
    split at hx
    · rename_i y p es pos
      split at hx
      · simp only [Bool.and_eq_true, Bool.or_eq_true, decide_eq_true_eq] at hx
        obtain ⟨⟨⟨⟨h0, rfl⟩, h2⟩, h3⟩, h4⟩ := hx
        split at h2
        · rename_i b' hd
          have e : b' = .range := by simpa using h2
          subst e
          have hs := chkEs_star h3
          exact pi_rng ok h0 hd (s.2 X w es ok h3) hs.1 hs.2 (by rcases h4 with (h4 | h4) | h4 <;> simp [h4])
        · cases h2
      · cases hx
    · cases hx
theorem s_tup {as : List E} (s : Snds P c ow g n as) : Snd P c ow g n (.tup as) := by
  refine .of (fun X w x ok hx => ?_) (noI fun _ _ _ _ => by simp [chkI])
  unfold chkE at hx
  split at hx
  · simp only [Bool.and_eq_true, decide_eq_true_eq] at hx
    exact triE (x_tup (s.2 X w _ ok hx.1.1) hx.1.2 hx.2) rfl (fun _ => rfl) fun _ _ _ e => nomatch e
  · cases hx
theorem s_lst {as : List E} (s : Snds P c ow g n as) : Snd P c ow g n (.lst as) := by
  refine .of (fun X w x ok hx => ?_) (noI fun _ _ _ _ => by simp [chkI])
  unfold chkE at hx
  split at hx
  · simp only [Bool.and_eq_true, decide_eq_true_eq] at hx
    exact triF (x_lst (s.2 X w _ ok hx.1.1) hx.1.2 hx.2) rfl (fun _ => rfl) fun _ _ _ e => nomatch e
  · cases hx
theorem s_sub {a b : E} (s : Snd P c ow g n a) (t : Snd P c ow g n b) : Snd P c ow g n (.sub a b) := by
  refine .of (fun X w x ok hx => ?_) (noI fun _ _ _ _ => by simp [chkI])
  unfold chkE at hx
  split at hx
  · simp only [Bool.and_eq_true] at hx
    exact triE (x_sub ok hx.1.1 (s.ee ok hx.1.2) (t.ee ok hx.2)) rfl (fun _ => rfl) fun _ _ _ e => nomatch e
  · cases hx
theorem s_slc {a l h : E} (s : Snd P c ow g n a) (t : Snd P c ow g n l) (u : Snd P c ow g n h) : Snd P c ow g n (.slc a l h) := by
  refine .of (fun X w x ok hx => ?_) (noI fun _ _ _ _ => by simp [chkI])
  unfold chkE at hx
  split at hx
  · rename_i y lo hi p p2
    simp only [Bool.and_eq_true] at hx
    obtain ⟨⟨h1, h2⟩, h3⟩ := hx
    have q := ofF (x_slc (pos := p2) (p2 := p) (lo := lo) (hi := hi) ok (s.ee ok h1) (l := l) (h := h) (by
      cases lo with
      | none => exact h2
      | some z =>
        have h2 : (!isNon l && chkE g X.N ow X.env.scope l z) = true := h2
        rw [Bool.and_eq_true, Bool.not_eq_true'] at h2
        exact ⟨h2.1, t.ee ok h2.2⟩) (by
      cases hi with
      | none => exact h3
      | some z =>
        have h3 : (!isNon h && chkE g X.N ow X.env.scope h z) = true := h3
        rw [Bool.and_eq_true, Bool.not_eq_true'] at h3
        exact ⟨h3.1, u.ee ok h3.2⟩)) rfl
    exact ⟨q, fun _ => t_val (toE q) fun _ => rfl, fun _ _ _ e => nomatch e⟩
  · cases hx
def CompP (P : Par) (c : Call) (ow : List Nat) (g : Cfg) (n : Nat) (w : WX) (X : Cx) (a : E) (t : Tg) (it : E) (cs : List E) (elt tg iter : Expr) (ifs : List Expr) (scope : Scope) (own : List (Str × Nat)) : Prop :=
  blkC X.N X.env.scope scope own = true ∧ ownOf t tg = some own ∧ (∀ i ∈ slots t, i ∉ ow) ∧ notSet iter = true ∧ PI X tg iter (tI G P c ow w it) ∧ chkG (cellB scope) X.N (relS scope X.env.scope) t tg = true ∧ isBor a = false ∧
    ∀ X' : Cx, CtxOk g P c n X' noW → X'.N = X.N → X'.env.scope = relS scope X.env.scope → (match cs, ifs with | [], [] => True | [a], [e] => PTT P c ow noW X' e a | _, _ => False) ∧ PEE P c ow noW X' elt a
theorem comp_parts {a : E} {t : Tg} {it : E} {cs : List E} (s : Snd P c ow g n a) (u : Snd P c ow g n it) (v : Snds P c ow g n cs) {X : Cx} {w : WX} {x : Expr} (ok : CtxOk g P c n X w) (hx : chkE g X.N ow X.env.scope (.comp a t it cs) x = true) :
    ∃ elt tg iter ifs scope pos own, x = .ListComp elt [⟨tg, iter, ifs, 0⟩] scope pos ∧ CompP P c ow g n w X a t it cs elt tg iter ifs scope own := by
  unfold chkE at hx
  split at hx
  · rename_i elt tg iter ifs scope pos
    split at hx
    · rename_i own ho
      simp only [Bool.and_eq_true, Bool.or_eq_true, decide_eq_true_eq, Bool.not_eq_true', List.all_eq_true] at hx
      obtain ⟨⟨⟨⟨⟨⟨⟨⟨⟨h1, h2⟩, h3⟩, h4⟩, h5⟩, h6⟩, h7⟩, h8⟩, h9⟩, h10⟩ := hx
      have hi : PI X tg iter (tI G P c ow w it) := by
        rcases h3 with h3 | h3
        · exact u.i X w iter tg ok h3 G
        · exact pi_val ok.hK (fun _ _ _ _ wf gg => gg.w wf) (.inr fun _ _ _ _ gg => gg) (u.ee ok h3)
      refine ⟨elt, tg, iter, ifs, scope, pos, own, rfl, h1, ho, fun i hi' => ?_, h2, hi, h4, h6, fun X' ok' hN hsc => ⟨?_, ?_⟩⟩
      · rw [← ownOf_slots ho] at hi'
        obtain ⟨p, hp, rfl⟩ := List.mem_map.mp hi'
        simpa using h10 p hp
      · rw [← hN, ← hsc] at h7
        match cs, ifs, h7, h8, h9, v with
        | [], [], _, _, _, _ => trivial
        | [b], [e], h7, _, h9, v =>
          simp only [chkEs, Bool.and_eq_true] at h7
          exact (v.1 b List.mem_cons_self).t X' noW e ok' h7.1.2 (h9 b List.mem_cons_self)
        | [], _ :: _, h7, _, _, _ => simp [chkEs] at h7
        | [_], [], h7, _, _, _ => simp [chkEs] at h7
        | [_], _ :: _ :: _, h7, _, _, _ => simp [chkEs] at h7
        | _ :: _ :: _, _, _, h8, _, _ => simp at h8
      · rw [← hN, ← hsc] at h5
        exact s.ee ok' h5
    · cases hx
  · cases hx
theorem s_comp {a : E} {t : Tg} {it : E} {cs : List E} (s : Snd P c ow g n a) (u : Snd P c ow g n it) (v : Snds P c ow g n cs) : Snd P c ow g n (.comp a t it cs) := by
  refine .of (fun X w x ok hx => ?_) (noI fun _ _ _ _ => by simp [chkI])
  obtain ⟨elt, tg, iter, ifs, scope, pos, own, rfl, h1, h2, h3, h4, h5, h6, h7, h8⟩ := comp_parts s u v ok hx
  exact triF (x_comp (pos := pos) ok h1 h2 h3 h4 h5 h6 h7 h8) rfl (fun _ => rfl) fun _ _ _ e => nomatch e
theorem plainE_he {x : Expr} (h : plainE x = true) (env : PySem.Env) (whole : Sem Value) : isTrue x env whole = (do let v ← whole; standAt x.pos; holding [v] (truthy v)) := by
  cases x <;> first | rfl | cases h
theorem s_alloc {a : E} (s : Snd P c ow g n a) : Snd P c ow g n (.alloc a) := by
  refine .of (fun X w x ok hx => ?_) (noI fun _ _ _ _ => by simp [chkI])
  unfold chkE at hx
  rw [Bool.and_eq_true, Bool.and_eq_true] at hx
  have q : PEE P c ow w X x (.alloc a) := by
    have z := s.e X w x ok hx.1.1
    unfold tX at z
    rw [if_pos hx.1.2] at z
    exact x_alloc z
  refine triE q rfl (plainE_he hx.2 _) fun op es p e => ?_
  subst e
  exact absurd hx.2 (by simp [plainE])
theorem s_dead : Snd P c ow g n .dead := by
  have e : ∀ (X : Cx) (w : WX) (x : Expr), PEE P c ow w X x .dead := fun X w x => ⟨fun pins s σ H Q I ⟨W, ρ, M, rel, hs⟩ => (show False from hs).elim⟩
  refine .of (fun X w x ok hx => ⟨ofE (e X w x) rfl, fun _ => ⟨fun pins s σ H Q I ⟨W, ρ, M, rel, hs⟩ => (show False from hs).elim⟩, fun op es p z => ⟨e X w x, fun _ => ⟨fun wh pins s σ H Q I ⟨W, ρ, M, rel, hs⟩ => (show False from hs).elim⟩⟩⟩) (noI fun _ _ _ _ => by simp [chkI])
theorem s_no {a : E} (h : ∀ N ow sc x, chkE g N ow sc a x = false) (hi : ∀ N ow sc x, chkI g N ow sc a x = false) : Snd P c ow g n a :=
  .of (fun X w x ok hx => by rw [h] at hx; cases hx) (noI fun N ow sc x => hi N ow sc x)
mutual
theorem snd : ∀ a : E, Snd P c ow g n a
  | .var i => s_var i
  | .bor i => s_bor i
  | .con d => s_con d
  | .neg a => s_neg (snd a)
  | .bin o a b => s_bin (snd a) (snd b)
  | .cmp o a b => s_cmp (snd a) (snd b)
  | .chain o o' a b d => s_chain (snd a) (snd b) (snd d)
  | .and a b => s_and (snd a) (snd b)
  | .or a b => s_or (snd a) (snd b)
  | .not a => s_not (snd a)
  | .ite t a b => s_ite (snd t) (snd a) (snd b)
  | .join a b => s_join (snd a) (snd b)
  | .call f as => s_call (snds as)
  | .callv f as => s_no (fun _ _ _ _ => by simp [chkE]) fun _ _ _ _ => by simp [chkI]
  | .bi b as => s_bi (snds as)
  | .me m a as => s_no (fun _ _ _ _ => by simp [chkE]) fun _ _ _ _ => by simp [chkI]
  | .mu m a as => s_no (fun _ _ _ _ => by simp [chkE]) fun _ _ _ _ => by simp [chkI]
  | .tup as => s_tup (snds as)
  | .lst as => s_lst (snds as)
  | .dct ks vs => s_no (fun _ _ _ _ => by simp [chkE]) fun _ _ _ _ => by simp [chkI]
  | .sub a b => s_sub (snd a) (snd b)
  | .slc a l h => s_slc (snd a) (snd l) (snd h)
  | .comp a t it cs => s_comp (snd a) (snd it) (snds cs)
  | .dcomp k v t it => s_no (fun _ _ _ _ => by simp [chkE]) fun _ _ _ _ => by simp [chkI]
  | .alloc a => s_alloc (snd a)
  | .dead => s_dead
theorem snds : ∀ as : List E, Snds P c ow g n as
  | [] => by
    refine ⟨fun _ h => (by cases h), fun X w es ok h => ?_⟩
    have e : es = [] := by simpa [chkEs] using h
    subst e
    exact x_nil
  | a :: as => by
    have s1 := snd a
    have s2 := snds as
    refine ⟨fun b hb => ?_, fun X w es ok h => ?_⟩
    · rcases List.mem_cons.mp hb with rfl | hb
      · exact s1
      · exact s2.1 b hb
    · unfold chkEs at h
      split at h
      · simp only [Bool.and_eq_true] at h
        exact x_cons h.1.1 (s1.ee ok h.1.2) (s2.2 X w _ ok h.2)
      · cases h
end
end
end Ev
set_option Elab.async false
set_option linter.all false
set_option autoImplicit false
set_option maxRecDepth 100000
set_option maxHeartbeats 4000000
namespace Ev
open PySem PySem.Spec PyProof.Rows L2
structure RelS (P : Par) (W0 : Wd) (H0 : Hp) (ow : List Nat) (W : Wd) (ρ : Env) (M : Sto) (σ : L2.St) (H : Hp) : Prop where
  rel : Rel P ow W ρ M σ H
  g0 : G W0 H0 W H
  new : ∀ i ∈ ow, ∀ d, get ρ i = some d → ∀ a, σ[i]? = some (some (.ref a)) → H0 a = none
theorem RelS.g {P : Par} {W0 W W' : Wd} {H0 H H' : Hp} {ow : List Nat} {ρ : Env} {M M' : Sto} {σ : L2.St} (r : RelS P W0 H0 ow W ρ M σ H) (g : G W H W' H') (s : StoR P W' M' H') : RelS P W0 H0 ow W' ρ M' σ H' := ⟨r.rel.g g s, r.g0.trans g, r.new⟩
abbrev RL := Wd → Env → Sto → L2.St → Hp → Prop
def Pst (P : Par) (Z : RL) (W0 : Wd) (H0 : Hp) (W : Wd) (H : Hp) (N : Ends) (w : WX) : RS → Prop
  | .ok .nx ρ M => ∀ W' σ H', Gw W H W' H' → Z W' ρ M σ H' → N.nx σ H'
  | .ok .bk ρ M => ∀ W' σ H', Gw W H W' H' → Z W' ρ M σ H' → N.bk σ H'
  | .ok .ct ρ M => ∀ W' σ H', Gw W H W' H' → Z W' ρ M σ H' → N.ct σ H'
  | .ok (.rt d) _ M => ∀ W' v H', G W0 H0 W' H' → StoR P W' M H' → Rep P W' H' d v → N.rt v H'
  | .exc e ρ M => ∀ W' σ H' cls dd, Gw W H W' H' → Z W' ρ M σ H' → XcR P e cls dd → w cls dd σ H'
  | .bad => False
theorem Pst.g {P : Par} {Z : RL} {W0 W W1 : Wd} {H0 H H1 : Hp} {N : Ends} {w : WX} {r : RS} (g : Gw W H W1 H1) (h : Pst P Z W0 H0 W H N w r) : Pst P Z W0 H0 W1 H1 N w r := by
  cases r with
  | bad => exact h
  | exc e ρ M => exact fun W' σ H' cls dd k => h W' σ H' cls dd (g.trans k)
  | ok f ρ M =>
    cases f with
    | nx => exact fun W' σ H' k => h W' σ H' (g.trans k)
    | bk => exact fun W' σ H' k => h W' σ H' (g.trans k)
    | ct => exact fun W' σ H' k => h W' σ H' (g.trans k)
    | rt d => exact h
theorem pst_toS {α : Type} {P : Par} {Z : RL} {W0 W : Wd} {H0 H : Hp} {N : Ends} {w : WX} {r : R α} {ρ : Env} {f : α → RS} (h : Pst P Z W0 H0 W H N w (r.toS ρ f)) : r.sat (fun a => Pst P Z W0 H0 W H N w (f a)) fun e M => Pst P Z W0 H0 W H N w (.exc e ρ M) := by
  cases r <;> exact h
theorem pst_then {P : Par} {Z : RL} {W0 W : Wd} {H0 H : Hp} {N : Ends} {w : WX} {r : RS} {f : Env → Sto → RS} (h : Pst P Z W0 H0 W H N w (r.then f)) : ∀ U : L2.St → Hp → Prop, (∀ ρ M, r = .ok .nx ρ M → Pst P Z W0 H0 W H N w (f ρ M) → ∀ W' σ H', Gw W H W' H' → Z W' ρ M σ H' → U σ H') → Pst P Z W0 H0 W H { N with nx := U } w r := by
  intro U k
  cases r with
  | bad => exact h
  | exc e ρ M => exact h
  | ok fl ρ M =>
    cases fl with
    | nx => exact k ρ M rfl h
    | bk => exact h
    | ct => exact h
    | rt d => exact h
section
variable (P : Par) (c : Call) (sub : Nat → Nat → Bool) (W0 : Wd) (H0 : Hp) (ow : List Nat) (w : WX)
def tSt (a : S) : TS := fun N σ H => ∃ W ρ M, RelS P W0 H0 ow W ρ M σ H ∧ Pst P (RelS P W0 H0 ow) W0 H0 W H N w (evS c sub a ρ M)
def tSs (a : List S) : TS := fun N σ H => ∃ W ρ M, RelS P W0 H0 ow W ρ M σ H ∧ Pst P (RelS P W0 H0 ow) W0 H0 W H N w (evSs c sub a ρ M)
end
theorem ps_imp {X : Cx} {e : Stmt} {t t' : TS} (h : PS X e t) (i : ∀ N σ H, t' N σ H → t N σ H) : PS X e t' := ⟨fun pins s σ H N I q => h.run pins s σ H N I (i N σ H q)⟩
theorem pss_imp {X : Cx} {e : List Stmt} {t t' : TS} (h : PSs X e t) (i : ∀ N σ H, t' N σ H → t N σ H) : PSs X e t' := ⟨fun pins s σ H N I q => h.run pins s σ H N I (i N σ H q)⟩
section
variable {P : Par} {c : Call} {sub : Nat → Nat → Bool} {W0 : Wd} {H0 : Hp} {ow : List Nat} {w : WX} {g : Cfg} {n : Nat} {X : Cx} {pos : Pos}
theorem xk_of {W : Wd} {ρ : Env} {M M' : Sto} {σ : L2.St} {H : Hp} {N : Ends} {e : Xc} (r : RelS P W0 H0 ow W ρ M σ H) (h : Pst P (RelS P W0 H0 ow) W0 H0 W H N w (.exc e ρ M')) : Xk P W H w σ e M' := fun W' H' cls d gg s x => h W' σ H' cls d (gg.w r.rel.sto.wf) (r.g gg s) x
theorem useE {a : E} {W : Wd} {ρ : Env} {M : Sto} {σ : L2.St} {H : Hp} {N : Ends} {f : D × Sto → RS} {Q : VK} (r : RelS P W0 H0 ow W ρ M σ H) (h : Pst P (RelS P W0 H0 ow) W0 H0 W H N w ((evE c a ρ M).toS ρ f))
    (k : ∀ d M' W' v H', G W H W' H' → RelS P W0 H0 ow W' ρ M' σ H' → RepQ a P W' H' d v → Pst P (RelS P W0 H0 ow) W0 H0 W H N w (f (d, M')) → Q v H') : tE P c ow w a σ H Q :=
  ⟨W, ρ, M, r.rel, R.sat_mono (pst_toS h) (fun q hq W' v H' gg s rp => k q.1 q.2 W' v H' gg (r.g gg s) rp hq) fun e M' hx => xk_of r hx⟩
theorem useF {a : E} {W : Wd} {ρ : Env} {M : Sto} {σ : L2.St} {H : Hp} {N : Ends} {f : D × Sto → RS} {Q : VK} (r : RelS P W0 H0 ow W ρ M σ H) (h : Pst P (RelS P W0 H0 ow) W0 H0 W H N w ((evE c a ρ M).toS ρ f))
    (k : ∀ d M' W' v H', G W H W' H' → RelS P W0 H0 ow W' ρ M' σ H' → RepF P W' H H' d v → Pst P (RelS P W0 H0 ow) W0 H0 W H N w (f (d, M')) → Q v H') : tF P c ow w a σ H Q :=
  ⟨W, ρ, M, r.rel, R.sat_mono (pst_toS h) (fun q hq W' v H' gg s rp => k q.1 q.2 W' v H' gg (r.g gg s) rp hq) fun e M' hx => xk_of r hx⟩
theorem useT {a : E} {W : Wd} {ρ : Env} {M : Sto} {σ : L2.St} {H : Hp} {N : Ends} {f : D × Sto → RS} {Q : Bool → Hp → Prop} (r : RelS P W0 H0 ow W ρ M σ H) (h : Pst P (RelS P W0 H0 ow) W0 H0 W H N w ((evE c a ρ M).toS ρ f))
    (hb : ∀ d M', Pst P (RelS P W0 H0 ow) W0 H0 W H N w (f (d, M')) → ∃ b, d = .bl b)
    (k : ∀ b M' W' H', G W H W' H' → RelS P W0 H0 ow W' ρ M' σ H' → Pst P (RelS P W0 H0 ow) W0 H0 W H N w (f (.bl b, M')) → Q b H') : tT P c ow w a σ H Q :=
  ⟨W, ρ, M, r.rel, R.sat_mono (pst_toS h) (fun q hq => by
    obtain ⟨d, M'⟩ := q
    obtain ⟨b, rfl⟩ := hb d M' hq
    exact ⟨b, rfl, fun W' H' gg s => k b M' W' H' gg (r.g gg s) hq⟩) fun e M' hx => xk_of r hx⟩
theorem useAs {as : List E} {W : Wd} {ρ : Env} {M : Sto} {σ : L2.St} {H : Hp} {N : Ends} {f : List D × Sto → RS} {Q : List V → Hp → Prop} (r : RelS P W0 H0 ow W ρ M σ H) (h : Pst P (RelS P W0 H0 ow) W0 H0 W H N w ((evEs c as ρ M).toS ρ f))
    (k : ∀ ds M' W' vs H', G W H W' H' → RelS P W0 H0 ow W' ρ M' σ H' → RepQs P W' H' as ds vs → Pst P (RelS P W0 H0 ow) W0 H0 W H N w (f (ds, M')) → Q vs H') : tAs P c ow w as σ H Q :=
  ⟨W, ρ, M, r.rel, R.sat_mono (pst_toS h) (fun q hq W' v H' gg s rp => k q.1 q.2 W' v H' gg (r.g gg s) rp hq) fun e M' hx => xk_of r hx⟩
theorem RelS.put {W : Wd} {ρ : Env} {M : Sto} {σ : L2.St} {H : Hp} {i : Nat} {d : D} {v : V} (r : RelS P W0 H0 ow W ρ M σ H) (n : i ∉ ow) (hv : Rep P W H d v) : RelS P W0 H0 ow W (Ev.put ρ i d) M (σ.set i (some v)) H := by
  refine ⟨r.rel.put n hv, r.g0, fun j hj d' e a ha => ?_⟩
  have z : i ≠ j := fun z => n (z ▸ hj)
  have e' := get_some e
  rw [Ev.put, List.getElem?_set_ne z] at e'
  rw [List.getElem?_set_ne z] at ha
  exact r.new j hj d' (by unfold get; rw [e']; rfl) a ha
theorem RelS.putO {W : Wd} {ρ : Env} {M : Sto} {σ : L2.St} {H : Hp} {i : Nat} {d : D} {p : Addr} (r : RelS P W0 H0 ow W ρ M σ H) (hi : i ∈ ow) (hv : Own P W H p d) (n0 : H0 p = none) (sep : ∀ j ∈ ow, j ≠ i → ∀ d', get ρ j = some d' → σ[j]? ≠ some (some (.ref p))) : RelS P W0 H0 ow W (Ev.put ρ i d) M (σ.set i (some (.ref p))) H := by
  have g1 : ∀ m, i ≠ m → get (Ev.put ρ i d) m = get ρ m := fun m hm => by
    unfold get
    rw [Ev.put, List.getElem?_set_ne hm]
  have g2 : ∀ d', get (Ev.put ρ i d) i = some d' → d' = d ∧ i < σ.length := fun d' e => by
    have e' := get_some e
    rw [Ev.put] at e'
    by_cases q : i < ρ.length
    · rw [List.getElem?_set_self q] at e'
      cases e'
      exact ⟨rfl, r.rel.len ▸ q⟩
    · rw [List.getElem?_eq_none (by rw [List.length_set]; omega)] at e'; cases e'
  refine ⟨⟨r.rel.sto, by rw [Ev.put, List.length_set, List.length_set, r.rel.len], fun j d' e nj => ?_, fun j d' e hj => ?_, fun j k a hj hk ne gj gk e e2 => ?_⟩, r.g0, fun j hj d' e a ha => ?_⟩
  · have z : i ≠ j := fun z => nj (z ▸ hi)
    rw [g1 j z] at e
    obtain ⟨u, h1, h2⟩ := r.rel.fz j d' e nj
    exact ⟨u, by rw [List.getElem?_set_ne z]; exact h1, h2⟩
  · by_cases z : i = j
    · subst z
      obtain ⟨rfl, hl⟩ := g2 d' e
      exact ⟨p, List.getElem?_set_self hl, hv⟩
    · rw [g1 j z] at e
      obtain ⟨u, h1, h2⟩ := r.rel.own j d' e hj
      exact ⟨u, by rw [List.getElem?_set_ne z]; exact h1, h2⟩
  · by_cases zj : i = j
    · subst zj
      obtain ⟨d', ed⟩ := Option.ne_none_iff_exists'.mp gj
      obtain ⟨rfl, hl⟩ := g2 d' ed
      rw [List.getElem?_set_self hl] at e
      cases e
      rw [List.getElem?_set_ne ne] at e2
      rw [g1 k ne] at gk
      obtain ⟨dk, edk⟩ := Option.ne_none_iff_exists'.mp gk
      exact sep k hk (fun z => ne z.symm) dk edk e2
    · by_cases zk : i = k
      · subst zk
        obtain ⟨d', ed⟩ := Option.ne_none_iff_exists'.mp gk
        obtain ⟨rfl, hl⟩ := g2 d' ed
        rw [List.getElem?_set_self hl] at e2
        cases e2
        rw [List.getElem?_set_ne zj] at e
        rw [g1 j zj] at gj
        obtain ⟨dj, edj⟩ := Option.ne_none_iff_exists'.mp gj
        exact sep j hj (fun z => zj z.symm) dj edj e
      · rw [g1 j zj] at gj
        rw [g1 k zk] at gk
        rw [List.getElem?_set_ne zj] at e
        rw [List.getElem?_set_ne zk] at e2
        exact r.rel.sep j k a hj hk ne gj gk e e2
  · by_cases z : i = j
    · subst z
      obtain ⟨rfl, hl⟩ := g2 d' e
      rw [List.getElem?_set_self hl] at ha
      cases ha
      exact n0
    · rw [g1 j z] at e
      rw [List.getElem?_set_ne z] at ha
      exact r.new j hj d' e a ha
theorem RelS.chg {W : Wd} {ρ : Env} {M : Sto} {σ : L2.St} {H : Hp} {i : Nat} {d d' : D} {p : Addr} {o : HO} (r : RelS P W0 H0 ow W ρ M σ H) (hi : i ∈ ow) (e : get ρ i = some d) (ep : σ[i]? = some (some (.ref p))) (hb : BoxAt P W (upd H p o) p d') :
    RelS P W0 H0 ow W (Ev.put ρ i d') M σ (upd H p o) ∧ Gw W H W (upd H p o) := by
  obtain ⟨p', ep', nF, nι, hb0⟩ := r.rel.own i d e hi
  rw [ep] at ep'
  cases ep'
  have n0 := r.new i hi d e p ep
  have gw : Gw W H W (upd H p o) := ⟨⟨[], by simp⟩, fun _ h => h, upd_out nF⟩
  have g1 : ∀ m, i ≠ m → get (Ev.put ρ i d') m = get ρ m := fun m hm => by
    unfold get
    rw [Ev.put, List.getElem?_set_ne hm]
  have g3 : ∀ m, get (Ev.put ρ i d') m ≠ none → get ρ m ≠ none := fun m hm => by
    by_cases z : i = m
    · subst z; rw [e]; exact fun z => nomatch z
    · rw [g1 m z] at hm; exact hm
  have g2 : get (Ev.put ρ i d') i = some d' := by
    have q := (List.getElem?_eq_some_iff.mp (get_some e)).1
    unfold get
    rw [Ev.put, List.getElem?_set_self q]
    rfl
  refine ⟨⟨⟨r.rel.sto.upd nF nι, by rw [Ev.put, List.length_set, r.rel.len], fun j dj ej nj => ?_, fun j dj ej hj => ?_, fun j k a hj hk ne gj gk => r.rel.sep j k a hj hk ne (g3 j gj) (g3 k gk)⟩, r.g0.upd n0, fun j hj dj ej a ha => ?_⟩, gw⟩
  · have z : i ≠ j := fun z => nj (z ▸ hi)
    rw [g1 j z] at ej
    obtain ⟨u, h1, h2⟩ := r.rel.fz j dj ej nj
    exact ⟨u, h1, h2.gw gw⟩
  · by_cases z : i = j
    · subst z
      rw [g2] at ej
      cases ej
      exact ⟨p, ep, nF, nι, hb⟩
    · rw [g1 j z] at ej
      obtain ⟨a, h1, h2, h3, h4⟩ := r.rel.own j dj ej hj
      have ne : a ≠ p := fun zz => by
        subst zz
        exact r.rel.sep i j a hi hj z (by rw [e]; exact fun z => nomatch z) (by rw [ej]; exact fun z => nomatch z) ep h1
      exact ⟨a, h1, h2, h3, h4.gw gw (upd_ne ne)⟩
  · obtain ⟨dj', ej'⟩ := Option.ne_none_iff_exists'.mp (g3 j (by rw [ej]; exact fun z => nomatch z))
    exact r.new j hj dj' ej' a ha
theorem nodup_inj {α : Type} : ∀ {l : List α} (_ : l.Nodup) {i j : Nat} (hi : i < l.length) (hj : j < l.length), l[i] = l[j] → i = j
  | a :: l, h, 0, 0, _, _, _ => rfl
  | a :: l, h, 0, j + 1, _, hj, e => by
    simp only [List.getElem_cons_zero, List.getElem_cons_succ] at e
    exact absurd (e ▸ List.getElem_mem _) (List.nodup_cons.mp h).1
  | a :: l, h, i + 1, 0, hi, _, e => by
    simp only [List.getElem_cons_zero, List.getElem_cons_succ] at e
    exact absurd (e ▸ List.getElem_mem _) (List.nodup_cons.mp h).1
  | a :: l, h, i + 1, j + 1, hi, hj, e => by
    simp only [List.getElem_cons_succ] at e
    rw [nodup_inj (List.nodup_cons.mp h).2 (by simpa using hi) (by simpa using hj) e]
theorem RelS.few {W : Wd} {ρ : Env} {M : Sto} {σ : L2.St} {H : Hp} {ow2 : List Nat} (r : RelS P W0 H0 ow W ρ M σ H) (hs : ∀ i ∈ ow2, i ∈ ow) : ∃ W', RelS P W0 H0 ow2 W' ρ M σ H ∧ Gw W H W' H := by
  have fz : ∀ a, (∃ i ∈ ow, i ∉ ow2 ∧ get ρ i ≠ none ∧ σ[i]? = some (some (.ref a))) → a ∉ W.ι ∧ H a ≠ none ∧ H0 a = none ∧ ¬ W.F a := fun a ⟨i, h1, _, h2, h3⟩ => by
    obtain ⟨d, e⟩ := Option.ne_none_iff_exists'.mp h2
    obtain ⟨b, e1, nF, nι, hb⟩ := r.rel.own i d e h1
    rw [h3] at e1
    cases e1
    exact ⟨nι, hb.some, r.new i h1 d e a h3, nF⟩
  let W' : Wd := ⟨W.ι, fun a => W.F a ∨ ∃ i ∈ ow, i ∉ ow2 ∧ get ρ i ≠ none ∧ σ[i]? = some (some (.ref a))⟩
  have gw : Gw W H W' H := ⟨⟨[], by simp [W']⟩, fun a h => .inl h, fun _ _ => rfl⟩
  have st : StoR P W' M H := ⟨⟨fun a h => h.elim (r.rel.sto.wf.fi a) fun q => (fz a q).1, fun a h => h.elim (r.rel.sto.wf.fs a) fun q => (fz a q).2.1, r.rel.sto.wf.nd, r.rel.sto.wf.is⟩, r.rel.sto.len, fun k o e => by
    obtain ⟨a, e1, h⟩ := r.rel.sto.at_ k o e
    exact ⟨a, e1, h.gw gw rfl⟩⟩
  refine ⟨W', ⟨⟨st, r.rel.len, fun j d e nj => ?_, fun j d e hj => ?_, fun j k a hj hk ne gj gk => r.rel.sep j k a (hs j hj) (hs k hk) ne gj gk⟩, ⟨r.g0.io, fun a h => .inl (r.g0.fm a h), fun a h => ?_, r.g0.kp, r.g0.al⟩, fun j hj => r.new j (hs j hj)⟩, gw⟩
  · by_cases oj : j ∈ ow
    · obtain ⟨a, e1, nF, nι, hb⟩ := r.rel.own j d e oj
      refine ⟨.ref a, e1, ?_⟩
      cases d with
      | lst ds =>
        obtain ⟨vs, h1, h2, h3⟩ := hb
        exact ⟨a, vs, rfl, .inr ⟨j, oj, nj, (by rw [e]; exact fun z => nomatch z), e1⟩, h1, h2, h3.gw gw⟩
      | _ => exact (show False from hb).elim
    · obtain ⟨v, e1, rp⟩ := r.rel.fz j d e oj
      exact ⟨v, e1, rp.gw gw⟩
  · obtain ⟨a, e1, nF, nι, hb⟩ := r.rel.own j d e (hs j hj)
    refine ⟨a, e1, fun z => ?_, nι, hb.gw gw rfl⟩
    rcases z with z | ⟨i, h1, h2, h3, h4⟩
    · exact nF z
    · have ne : i ≠ j := fun z => h2 (z ▸ hj)
      exact r.rel.sep i j a h1 (hs j hj) ne h3 (by rw [e]; exact fun z => nomatch z) h4 e1
  · rcases h with h | h
    · exact r.g0.fn a h
    · exact .inr (fz a h).2.2.1
theorem RelS.sto {W : Wd} {ρ : Env} {M : Sto} {σ : L2.St} {H : Hp} {k : Nat} {d d' : D} {p : Addr} {o : HO} (r : RelS P W0 H0 ow W ρ M σ H) (e : M[k]? = some (.val d)) (ep : W.ι[k]? = some p) (hb : BoxAt P W (upd H p o) p d') :
    RelS P W0 H0 ow W ρ (M.set k (.val d')) σ (upd H p o) ∧ Gw W H W (upd H p o) := by
  have pι : p ∈ W.ι := List.mem_of_getElem? ep
  have nF : ¬ W.F p := fun z => r.rel.sto.wf.fi p z pι
  have gw : Gw W H W (upd H p o) := ⟨⟨[], by simp⟩, fun _ h => h, upd_out nF⟩
  have st : StoR P W (M.set k (.val d')) (upd H p o) := by
    refine ⟨⟨r.rel.sto.wf.fi, fun a h => ?_, r.rel.sto.wf.nd, fun a h => ?_⟩, by rw [List.length_set]; exact r.rel.sto.len, fun j u ej => ?_⟩
    · rw [upd_out nF a h]; exact r.rel.sto.wf.fs a h
    · by_cases z : a = p
      · subst z; rw [upd_same]; exact fun z => nomatch z
      · rw [upd_ne z]; exact r.rel.sto.wf.is a h
    · by_cases z : k = j
      · subst z
        have hk := (List.getElem?_eq_some_iff.mp e).1
        rw [List.getElem?_set_self hk] at ej
        cases ej
        exact ⟨p, ep, hb⟩
      · rw [List.getElem?_set_ne z] at ej
        obtain ⟨a, e1, h⟩ := r.rel.sto.at_ j u ej
        refine ⟨a, e1, h.gw gw (upd_ne fun q => ?_)⟩
        subst q
        obtain ⟨hk, q1⟩ := List.getElem?_eq_some_iff.mp ep
        obtain ⟨hj, q2⟩ := List.getElem?_eq_some_iff.mp e1
        exact z ((nodup_inj r.rel.sto.wf.nd hk hj (q1.trans q2.symm)))
  refine ⟨⟨⟨st, r.rel.len, fun j dj ej nj => ?_, fun j dj ej hj => ?_, r.rel.sep⟩, ⟨r.g0.io, r.g0.fm, r.g0.fn, fun a u ea na => ?_, fun a ha => ?_⟩, r.new⟩, gw⟩
  · obtain ⟨u, h1, h2⟩ := r.rel.fz j dj ej nj
    exact ⟨u, h1, h2.gw gw⟩
  · obtain ⟨a, h1, h2, h3, h4⟩ := r.rel.own j dj ej hj
    exact ⟨a, h1, h2, h3, h4.gw gw (upd_ne (fun q => h3 (by rw [q]; exact pι)))⟩
  · have ne : a ≠ p := fun q => by
      subst q
      obtain ⟨m, e1, k1⟩ := r.g0.io
      rw [e1] at pι
      rcases List.mem_append.mp pι with z | z
      · exact na z
      · rw [k1 a z] at ea; cases ea
    rw [upd_ne ne]
    exact r.g0.kp a u ea na
  · by_cases z : a = p
    · subst z; rw [upd_same]; exact fun z => nomatch z
    · rw [upd_ne z]; exact r.g0.al a ha
end
end Ev
set_option Elab.async false
set_option linter.all false
set_option autoImplicit false
set_option maxRecDepth 100000
set_option maxHeartbeats 4000000
namespace Ev
open PySem PySem.Spec PyProof.Rows L2
def noSw : Expr → Bool
  | .ListComp _ _ _ _ => false
  | .SetComp _ _ _ _ => false
  | .DictComp _ _ _ _ _ => false
  | _ => true
theorem noSw_of {e : Expr} (h : noSw e = true) (t : Option Expr) (l : Nat) (env : PySem.Env) : swapsWith e t l env = pure false := by
  cases e <;> first | rfl | cases h
theorem noSwS {e t : Expr} (h : noSw e = true) (l : Nat) (env : PySem.Env) : swapsWithSole [t] e l env = pure false := noSw_of h _ _ _
def cellSw (sc : Scope) (x : Str) : Expr → Bool
  | .ListComp _ _ _ _ => sc.names.lookup x == some .cell
  | _ => false
theorem cellSw_of {e : Expr} {x : Str} {px : Pos} {env : PySem.Env} {l : Nat} (h : cellSw env.scope x e = true) : swapsWith e (some (.Name x px)) l env = pure false := by
  cases e with
  | ListComp elt gs scope p =>
    have h : (env.scope.names.lookup x == some .cell) = true := h
    have ky : env.kindOf x = some .cell := (show env.scope.names.lookup x = some .cell from by simpa using h)
    unfold swapsWith
    simp only [ky]
    show pure (((env.blockKind == .function && (some NameKind.cell == some .local)) && _) && _) = _
    rw [show (some NameKind.cell == some NameKind.local) = false from rfl, Bool.and_false, Bool.false_and, Bool.false_and]
  | _ => cases h
def notTup : Expr → Bool
  | .Tuple _ _ _ => false
  | _ => true
theorem swTup {es : List Expr} {k : Nat} {p : Pos} {e : Expr} (h : notTup e = true) (env : PySem.Env) : swappedStores [.Tuple es k p] e env = pure none := by
  cases e <;> first | rfl | cases h
theorem swSub {o i e : Expr} {p : Pos} (env : PySem.Env) : swappedStores [.Subscript o i p] e env = pure none := by
  cases e <;> rfl
structure BodyOk (X : Cx) : Prop where
  fn : ∀ x, X.fn x = true
  hs : X.stack = X.env :: X.outer
  hf : X.env.frame = some X.env.locals
  po : PassesOwn (model X.prog X.w) X.A X.env X.xe
structure ExcK (P : Par) (k : Nat) : Prop where
  lt : k < P.nc
  kp : PySem.W.keepIn P.K (.ref (P.ca k)) = true
  ra : PySem.W.subIn P.K (.ref (P.ca k)) (.type "BaseException") = some true ∧ PySem.W.typeIn P.K (.ref (P.ca k)) = some (.type "type")
  fx : ∃ bmB B newId initId, ExcBaseFacts B newId initId bmB ∧ PySem.W.excIn P.K (P.ca k) bmB newId = true
def SubOk (P : Par) (sub : Nat → Nat → Bool) : Prop := ∀ i j, i < P.nc → j < P.nc → PySem.W.exmOne P.K (.ref (P.ca i)) (.ref (P.ca j)) = some (sub i j)
section
variable {P : Par} {c : Call} {sub : Nat → Nat → Bool} {W0 : Wd} {H0 : Hp} {ow : List Nat} {w : WX} {g : Cfg} {n : Nat} {X : Cx} {pos : Pos}
abbrev PST (P : Par) (c : Call) (sub : Nat → Nat → Bool) (W0 : Wd) (H0 : Hp) (ow : List Nat) (w : WX) (X : Cx) (st : Stmt) (s : S) : Prop := PS X st (tSt P c sub W0 H0 ow w s)
abbrev PSS (P : Par) (c : Call) (sub : Nat → Nat → Bool) (W0 : Wd) (H0 : Hp) (ow : List Nat) (w : WX) (X : Cx) (st : List Stmt) (s : List S) : Prop := PSs X st (tSs P c sub W0 H0 ow w s)
theorem p_set {i : Nat} {a : E} {x : Str} {px : Pos} {e : Expr} (nd : X.N.Nodup) (fn : ∀ x, X.fn x = true) (hi : X.N[i]? = some x) (hx : Loc X.env.scope x) (ni : i ∉ ow) (nb : isBor a = false) (he : PEE P c ow w X e a) (hs : swapsWith e (some (.Name x px)) pos.line X.env = pure false) : PST P c sub W0 H0 ow w X (.Assign [.Name x px] e pos) (.set i a) :=
  ps_imp (ps_set nd hi hx he hs (.inl (fn x))) fun N σ H ⟨W, ρ, M, r, h⟩ => useE r h fun d M' W' v H' gg r' rp h' =>
    (show ∀ W' σ H', Gw W H W' H' → RelS P W0 H0 ow W' (put ρ i d) M' σ H' → N.nx σ H' from h') W' _ H' (gg.w r.rel.sto.wf) (r'.put ni (rp.strict nb))
theorem set_k {i : Nat} {a : E} {N : Ends} {σ : L2.St} {H : Hp} {W : Wd} {ρ : Env} {M : Sto} (ni : i ∉ ow) (r : RelS P W0 H0 ow W ρ M σ H) (h : Pst P (RelS P W0 H0 ow) W0 H0 W H N w (evS c sub (.set i a) ρ M)) : tF P c ow w a σ H fun x H1 => gName i x σ H1 N.nx := by
  rw [evS] at h
  refine useF r h fun d M' W' v H' gg r' rf h' => ?_
  obtain ⟨W2, g2, s2, rp⟩ := freeze gg r'.rel.sto rf
  exact (show ∀ W' σ H', Gw W H W' H' → RelS P W0 H0 ow W' (put ρ i d) M' σ H' → N.nx σ H' from h') W2 _ H' (g2.w r.rel.sto.wf) ((r.g g2 s2).put ni rp)
theorem own_k {i : Nat} {a : E} {N : Ends} {σ : L2.St} {H : Hp} {W : Wd} {ρ : Env} {M : Sto} (hi : i ∈ ow) (r : RelS P W0 H0 ow W ρ M σ H) (h : Pst P (RelS P W0 H0 ow) W0 H0 W H N w (evS c sub (.own i a) ρ M)) : tF P c ow w a σ H fun x H1 => gName i x σ H1 N.nx := by
  rw [evS] at h
  refine useF r h fun d M' W' v H' gg r' rf h' => ?_
  cases d with
  | lst ds =>
    obtain ⟨p, rfl, n0, nF, nι, hb⟩ := rf
    refine (show ∀ W' σ H', Gw W H W' H' → RelS P W0 H0 ow W' (put ρ i (.lst ds)) M' σ H' → N.nx σ H' from h') W' _ H' (gg.w r.rel.sto.wf) (r'.putO hi ⟨nF, nι, hb⟩ ?_ fun j hj ne dj ej => ?_)
    · cases z : H0 p with
      | none => rfl
      | some o => exact (r.g0.al p (by rw [z]; exact fun z => nomatch z) n0).elim
    · obtain ⟨a, e1, _, _, hb'⟩ := r.rel.own j dj ej hj
      rw [e1]
      intro z
      cases z
      exact hb'.some n0
  | dct _ => exact (show False from rf).elim
  | _ => exact (show False from h').elim
theorem p_own {i : Nat} {a : E} {x : Str} {px : Pos} {e : Expr} (ok : CtxOk g P c n X w) (fn : ∀ x, X.fn x = true) (hi : X.N[i]? = some x) (hx : Loc X.env.scope x) (oi : i ∈ ow) (he : PE X e (tF P c ow w a)) (hs : swapsWith e (some (.Name x px)) pos.line X.env = pure false) : PST P c sub W0 H0 ow w X (.Assign [.Name x px] e pos) (.own i a) :=
  ps_imp (ps_set ok.nd hi hx he hs (.inl (fn x))) fun N σ H ⟨W, ρ, M, r, h⟩ => own_k oi r h
def swC (sc : Scope) (x : Str) (px : Pos) : Expr → Bool
  | .ListComp _ _ scope p => (px.line == p.line) && !(scope.names.any fun (n, k) => n == x && (k == .local || k == .cell))
  | _ => false
theorem p_lc {i : Nat} {x : Str} {px pos : Pos} {a it : E} {t : Tg} {cs : List E} {elt tg iter : Expr} {ifs : List Expr} {scope : Scope} {own : List (Str × Nat)} {pc : Pos} {T : TS} (ok : CtxOk g P c n X w) (hk : X.env.scope.kind = .function) (hi : X.N[i]? = some x) (hx : X.env.scope.names.lookup x = some .local)
    (hsw : swC X.env.scope x px (.ListComp elt [⟨tg, iter, ifs, 0⟩] scope pc) = true) (h : CompP P c ow g n w X a t it cs elt tg iter ifs scope own) (hT : ∀ N σ H, T N σ H → tF P c ow w (.comp a t it cs) σ H fun y H1 => gName i y σ H1 N.nx) :
    PS X (.Assign [.Name x px] (.ListComp elt [⟨tg, iter, ifs, 0⟩] scope pc) pos) T := by
  obtain ⟨h1, h2, h3, h4, h5, h6, h7, h8⟩ := h
  unfold swC at hsw
  rw [Bool.and_eq_true, Bool.not_eq_true'] at hsw
  refine ps_imp (ps_setLc (g := gT X.K t) (tt := tC2 P c ow cs) (te := tE P c ow noW a) ok.calm ok.nd hi hx (sw_true hk hx hsw.1 hsw.2) h5 (blkOk_by h1) (fun s H C cl fp => pg_tgt (ok.blk ..) (fb := cellB scope) (fun x h => h) h6) (fun s H C cl fp => pts_cs (h8 _ (ok.blk ..) rfl rfl).1) (fun s H C cl fp => (h8 _ (ok.blk ..) rfl rfl).2) (notSet_fold h4 _)) fun N σ H q => ?_
  exact comp_imp ok.hK h2 h3 h7 σ H _ (hT N σ H q)
theorem puts_out : ∀ {is : List Nat} {ds : List D} {ρ ρ' : Env}, puts ρ is ds = some ρ' → ∀ k, k ∉ is → ρ'[k]? = ρ[k]?
  | [], [], _, _, e, k, _ => by cases e; rfl
  | [], _ :: _, _, _, e, _, _ => by cases e
  | _ :: _, [], _, _, e, _, _ => by cases e
  | i :: is, d :: ds, ρ, _, e, k, hk => by
    rw [puts_out (is := is) (ds := ds) e k fun m => hk (List.mem_cons_of_mem _ m), put, List.getElem?_set_ne (fun z => hk (by rw [← z]; exact List.mem_cons_self))]
theorem putT_out {t : Tg} {d : D} {ρ ρ' : Env} (e : putT ρ t d = some ρ') : ∀ k, k ∉ slots t → ρ'[k]? = ρ[k]? := by
  cases t with
  | one i => exact puts_out (is := [i]) (ds := [d]) e
  | tup is => cases d <;> first | (cases e; done) | exact puts_out e
theorem RelS.tgt {t : Tg} {d : D} {W : Wd} {ρ ρ' : Env} {M : Sto} {σ σ' : L2.St} {H : Hp} (r : RelS P W0 H0 ow W ρ M σ H) (hw : ∀ i ∈ slots t, i ∉ ow) (e : putT ρ t d = some ρ') (r' : Rel P ow W ρ' M σ' H) (k : ∀ k, k ∉ slots t → σ'[k]? = σ[k]?) : RelS P W0 H0 ow W ρ' M σ' H := by
  refine ⟨r', r.g0, fun i hi d' ei a ea => ?_⟩
  have ni : i ∉ slots t := fun z => hw i z hi
  rw [k i ni] at ea
  refine r.new i hi d' ?_ a ea
  have := get_some ei
  rw [putT_out e i ni] at this
  unfold get; rw [this]; rfl
theorem p_unp {is : List Nat} {a : E} {es : List Expr} {kk : Nat} {tp : Pos} {e : Expr} (ok : CtxOk g P c n X w) (B : BodyOk X) (hn : namesC (fun _ => true) X.N X.env.scope is es = true) (hw : ∀ i ∈ is, i ∉ ow) (nb : isBor a = false) (he : PEE P c ow w X e a) (hs : noSw e = true) (ht : notTup e = true) :
    PST P c sub W0 H0 ow w X (.Assign [.Tuple es kk tp] e pos) (.unp is a) := by
  obtain ⟨h1, h2, h3⟩ := pgs_names ok.nd (fun x _ => B.fn x) hn
  refine ps_imp (ps_asg he (pg_tup ok.calm h1 h2 h3) (noSwS hs _ _) (swTup ht _) rfl) fun N σ H ⟨W, ρ, M, r, h⟩ => ?_
  rw [evS] at h
  refine useE r h fun d M' W' v H' gg r' rp h' => ?_
  cases d with
  | tup ds =>
    have h' : Pst P (RelS P W0 H0 ow) W0 H0 W H N w (match puts ρ is ds with | some ρ' => .ok .nx ρ' M' | none => .bad) := h'
    cases e1 : puts ρ is ds with
    | none => rw [e1] at h'; exact h'.elim
    | some ρ' =>
      rw [e1] at h'
      refine gT_ok (t := .tup is) ok.hK r'.rel hw (rp.strict nb) e1 fun σ' r3 l3 k3 => ?_
      exact (show ∀ W' σ H', Gw W H W' H' → RelS P W0 H0 ow W' ρ' M' σ H' → N.nx σ H' from h') W' σ' H' (gg.w r.rel.sto.wf) (r'.tgt (t := .tup is) (d := .tup ds) hw e1 r3 k3)
  | _ => exact (show False from h').elim
theorem p_ex {a : E} {e : Expr} (he : PEE P c ow w X e a) (hs : noSw e = true) : PST P c sub W0 H0 ow w X (.Expr e pos) (.ex a) :=
  ps_imp (ps_expr he (noSw_of hs _ _ _)) fun N σ H ⟨W, ρ, M, r, h⟩ => by
    rw [evS] at h
    exact useE r h fun d M' W' v H' gg r' rp h' => (show ∀ W' σ H', Gw W H W' H' → RelS P W0 H0 ow W' ρ M' σ H' → N.nx σ H' from h') W' _ H' (gg.w r.rel.sto.wf) r'
theorem p_ret {a : E} {e : Expr} (nb : isBor a = false) (he : PEE P c ow w X e a) : PST P c sub W0 H0 ow w X (.Return (some e) pos) (.ret a) :=
  ps_imp (ps_ret he) fun N σ H ⟨W, ρ, M, r, h⟩ => by
    rw [evS] at h
    exact useE r h fun d M' W' v H' gg r' rp h' => (show ∀ W' v H', G W0 H0 W' H' → StoR P W' M' H' → Rep P W' H' d v → N.rt v H' from h') W' v H' r'.g0 r'.rel.sto (rp.strict nb)
theorem p_reto {i : Nat} {x : Str} {p : Pos} (h : slotB X.N X.env.scope i x = true) (hi : i ∈ ow) : PST P c sub W0 H0 ow w X (.Return (some (.Name x p)) pos) (.reto i) := by
  unfold slotB at h
  simp only [Bool.and_eq_true, decide_eq_true_eq] at h
  obtain ⟨h1, h2, _⟩ := plainName_of h.2
  refine ps_imp (ps_ret (pe_var h.1.1 (vis_of h.1.2) h1 h2)) fun N σ H ⟨W, ρ, M, r, h⟩ => ?_
  rw [evS] at h
  cases e : get ρ i with
  | none => rw [e] at h; exact h.elim
  | some d =>
    rw [e] at h
    obtain ⟨a, e1, nF, nι, hb⟩ := r.rel.own i d e hi
    have rf : RepF P W H0 H d (.ref a) := by
      cases d with
      | lst ds => exact ⟨a, rfl, r.new i hi _ e a e1, nF, nι, hb⟩
      | _ => exact (show False from hb).elim
    obtain ⟨W2, g2, s2, rp⟩ := freeze r.g0 r.rel.sto rf
    exact ⟨_, e1, (show ∀ W' v H', G W0 H0 W' H' → StoR P W' M H' → Rep P W' H' d v → N.rt v H' from h) W2 _ H g2 s2 rp⟩
theorem p_retn : PST P c sub W0 H0 ow w X (.Return none pos) .retn :=
  ps_imp ps_retN fun N σ H ⟨W, ρ, M, r, h⟩ => by
    rw [evS] at h
    exact (show ∀ W' v H', G W0 H0 W' H' → StoR P W' M H' → Rep P W' H' .non v → N.rt v H' from h) W .non H r.g0 r.rel.sto rfl
theorem p_pass : PST P c sub W0 H0 ow w X (.Pass pos) .pass :=
  ps_imp ps_pass fun N σ H ⟨W, ρ, M, r, h⟩ => by
    rw [evS] at h
    exact (show ∀ W' σ H', Gw W H W' H' → RelS P W0 H0 ow W' ρ M σ H' → N.nx σ H' from h) W σ H .refl r
theorem p_brk : PST P c sub W0 H0 ow w X (.Break pos) .brk :=
  ps_imp ps_break fun N σ H ⟨W, ρ, M, r, h⟩ => by
    rw [evS] at h
    exact (show ∀ W' σ H', Gw W H W' H' → RelS P W0 H0 ow W' ρ M σ H' → N.bk σ H' from h) W σ H .refl r
theorem p_cnt : PST P c sub W0 H0 ow w X (.Continue pos) .cnt :=
  ps_imp ps_continue fun N σ H ⟨W, ρ, M, r, h⟩ => by
    rw [evS] at h
    exact (show ∀ W' σ H', Gw W H W' H' → RelS P W0 H0 ow W' ρ M σ H' → N.ct σ H' from h) W σ H .refl r
theorem p_dead {st : Stmt} : PST P c sub W0 H0 ow w X st .dead :=
  ps_imp ps_never fun N σ H ⟨W, ρ, M, r, h⟩ => by
    rw [evS] at h
    exact h
theorem p_doc {x : Str} {j : Nat} {p : Pos} : PST P c sub W0 H0 ow w X (.Expr (.Constant (.str x) j p) pos) .pass :=
  ps_imp ps_doc fun N σ H ⟨W, ρ, M, r, h⟩ => by
    rw [evS] at h
    exact (show ∀ W' σ H', Gw W H W' H' → RelS P W0 H0 ow W' ρ M σ H' → N.nx σ H' from h) W σ H .refl r
theorem pp_nil : PSS P c sub W0 H0 ow w X [] [] :=
  pss_imp pss_nil fun N σ H ⟨W, ρ, M, r, h⟩ => by
    rw [evSs] at h
    exact (show ∀ W' σ H', Gw W H W' H' → RelS P W0 H0 ow W' ρ M σ H' → N.nx σ H' from h) W σ H .refl r
theorem pp_cons {st : Stmt} {sts : List Stmt} {s : S} {ss : List S} (h1 : PST P c sub W0 H0 ow w X st s) (h2 : PSS P c sub W0 H0 ow w X sts ss) : PSS P c sub W0 H0 ow w X (st :: sts) (s :: ss) :=
  pss_imp (pss_cons h1 h2) fun N σ H ⟨W, ρ, M, r, h⟩ => by
    rw [evSs] at h
    exact ⟨W, ρ, M, r, pst_then h (tSs P c sub W0 H0 ow w ss N) fun ρ' M' e h' W' σ' H' gg r' => ⟨W', ρ', M', r', h'.g gg⟩⟩
theorem p_ite {a : E} {x y : List S} {e : Expr} {sx sy : List Stmt} (he : PTT P c ow w X e a) (hx : PSS P c sub W0 H0 ow w X sx x) (hy : PSS P c sub W0 H0 ow w X sy y) : PST P c sub W0 H0 ow w X (.If e sx sy pos) (.ite a x y) :=
  ps_imp (ps_if he hx hy) fun N σ H ⟨W, ρ, M, r, h⟩ => by
    rw [evS] at h
    refine useT r h (fun d M' hd => ?_) fun b M' W' H' gg r' h' => ?_
    · cases d <;> first | exact ⟨_, rfl⟩ | exact (show False from hd).elim
    · cases b with
      | true =>
        rw [if_pos rfl]
        exact ⟨W', ρ, M', r', Pst.g (gg.w r.rel.sto.wf) h'⟩
      | false =>
        rw [if_neg (by decide)]
        exact ⟨W', ρ, M', r', Pst.g (gg.w r.rel.sto.wf) h'⟩
theorem p_raise {k : Nat} {x : Str} {p pos' : Pos} (ok : CtxOk g P c n X w) (hg : glob X.env.scope x = true) (hp : plainName x = true) (hl : g.gl.lookup x = some (.cl k)) (F : ExcK P k) : PST P c sub W0 H0 ow w X (.Raise (some (.Call (.Name x p) [] [] pos)) none pos') (.raise k []) := by
  obtain ⟨u, v, m1, m2, m3⟩ := ok.gl x _ hl
  have ev : v = .ref (P.ca k) := m3 ⟨[], fun _ => False⟩ (fun _ => none)
  subst ev
  have eu : u = .ref (P.ca k) := m2
  subst eu
  obtain ⟨bmB, B, newId, initId, fx, ex⟩ := F.fx
  have ex' := ex
  rw [← ok.hK] at ex'
  have kp := F.kp
  rw [← ok.hK] at kp
  obtain ⟨h1, h2, _⟩ := plainName_of hp
  have ra : Raises X (.ref (P.ca k)) := raises_own (by rw [ok.hK]; exact F.ra.1) (by rw [ok.hK]; exact F.ra.2)
  have mk : PMk X (.Call (.Name x p) [] [] pos) fun σ H Q => Q (.ref (P.ca k)) none H := by
    intro pins s σ H Q I h
    refine wpAny_Call_Name_kw (ld_glob I (glob_of hg) m1 ?_ h1)
    refine PySem.W.callWith_K0 (first := []) I.kIn kp ?_
    show wpAny _ _ (call (.ref (P.ca k)) []) _ _ _
    obtain ⟨bm, N, nm, qn, bs, hdct, sn, sub, ab, col, dd, k0, k1, k2, k3, k5, mN, hC, hN, hni, T⟩ := exc_obj I.kIn ex'
    refine wpAny_call_exc_subT fx T hC hN hni (fun h' e hm => ?_) (by simp)
    exact mk_of I hm ra h (I.hok.gone hm.new)
  refine ps_imp (ps_raise ok.calm ok.tk mk) fun N σ H ⟨W, ρ, M, r, h⟩ => ?_
  rw [evS, evEs] at h
  exact (show ∀ W' σ H' cls dd, Gw W H W' H' → RelS P W0 H0 ow W' ρ M σ H' → XcR P ⟨k, []⟩ cls dd → w cls dd σ H' from h) W σ H _ none .refl r ⟨rfl, rfl, rfl, F.lt⟩
theorem p_sto {o ix v : E} {eo ei ev : Expr} {tp : Pos} (ok : CtxOk g P c n X w) (ho : PEE P c ow w X eo o) (hi : PEE P c ow w X ei ix) (hv : PEE P c ow w X ev v) (nb : isBor v = false) (hs : noSw ev = true) (hsl : notSlice ei = true) (hni : isBor ix = false) (hno : isBor o = false) :
    PST P c sub W0 H0 ow w X (.Assign [.Subscript eo ei tp] ev pos) (.sto o ix v) := by
  have ha : ∀ v, assign (.Subscript eo ei tp) X.env v = (do
      let ov ← holding [v] (eval eo X.env)
      let iv ← holding [v, ov] (eval ei X.env)
      standAt tp
      holding [v, ov, iv] (setItem ov iv v)
      release [v, ov, iv] []) := by
    intro v
    cases ei <;> first | rfl | cases hsl
  refine ps_imp (ps_asg hv (pg_sub ho hi set_list ha) (noSwS hs _ _) (swSub _) rfl) fun N σ H ⟨W, ρ, M, r, h⟩ => ?_
  rw [evS] at h
  refine useE r h fun d M1 W1 x H1 g1 r1 rp1 h1 => ?_
  refine useE r1 (Pst.g (g1.w r.rel.sto.wf) h1) fun d2 M2 W2 y H2 g2 r2 rp2 h2 => ?_
  refine useE r2 (Pst.g (g2.w r1.rel.sto.wf) h2) fun d3 M3 W3 z H3 g3 r3 rp3 h3 => ?_
  have h3 : Pst P (RelS P W0 H0 ow) W0 H0 W2 H2 N w (match muM .put d2 [d3, d] M3 with | some z => .ok .nx ρ z.2 | none => .bad) := h3
  cases d2 with
  | obj k =>
    cases e : M3[k]? with
    | none =>
      have : muM .put (.obj k) [d3, d] M3 = none := by unfold muM; simp only [e]
      rw [this] at h3; exact h3.elim
    | some o =>
      cases o with
      | ins _ _ =>
        have : muM .put (.obj k) [d3, d] M3 = none := by unfold muM; simp only [e]
        rw [this] at h3; exact h3.elim
      | val q =>
        have em : muM .put (.obj k) [d3, d] M3 = (muD .put q [d3, d]).map fun r => (r.1, M3.set k (.val r.2)) := by unfold muM; simp only [e]
        rw [em] at h3
        have r2s := rp2.strict hno
        have r2s3 := r2s.g g3 r2.rel.sto.wf
        obtain ⟨a, rfl, ea⟩ := r2s3
        obtain ⟨a', ea', hb⟩ := r3.rel.sto.at_ k _ e
        rw [ea] at ea'
        cases ea'
        have rp3' := rp3.strict hni
        have rpv := ((rp1.strict nb).g g2 r1.rel.sto.wf).g g3 r2.rel.sto.wf
        cases q with
        | lst xs =>
          cases d3 with
          | int i =>
            have em2 : muD .put (.lst xs) [.int i, d] = (ixN xs.length i).map fun k => (.non, .lst (xs.set k d)) := rfl
            rw [em2] at h3
            cases ej : ixN xs.length i with
            | none => rw [ej] at h3; exact h3.elim
            | some j =>
              rw [ej] at h3
              obtain ⟨vs, e1, e2, e3⟩ := hb
              have aι : a ∈ W3.ι := List.mem_of_getElem? ea
              have nF : ¬ W3.F a := fun z => r3.rel.sto.wf.fi a z aι
              have bx : BoxAt P W3 (upd H3 a (.lst (vs.set j x))) a (.lst (xs.set j d)) := ⟨_, upd_same .., by rw [List.length_set]; exact e2, (Reps.set rpv j e3).at_ (upd_out nF)⟩
              obtain ⟨r4, gw4⟩ := r3.sto e ea bx
              refine ⟨a, vs, i, j, rfl, rp3', e1, by rw [e3.length]; exact ej, ?_⟩
              exact (show ∀ W' σ H', Gw W2 H2 W' H' → RelS P W0 H0 ow W' ρ (M3.set k (.val (.lst (xs.set j d)))) σ H' → N.nx σ H' from h3) W3 σ _ ((g3.w r2.rel.sto.wf).trans gw4) r4
          | _ => exact (show False from h3).elim
        | _ => exact (show False from hb).elim
  | _ => exact (show False from h3).elim
theorem whlN_succ {cond : Env → Sto → R (D × Sto)} {body : Env → Sto → RS} {k : Nat} {ρ : Env} {M : Sto} : whlN cond body (k + 1) ρ M = (cond ρ M).toS ρ fun r => match r.1 with
    | .bl false => .ok .nx ρ r.2
    | .bl true => (match body ρ r.2 with
      | .ok .nx ρ2 M2 => whlN cond body k ρ2 M2
      | .ok .ct ρ2 M2 => whlN cond body k ρ2 M2
      | .ok .bk ρ2 M2 => .ok .nx ρ2 M2
      | .ok (.rt d) ρ2 M2 => .ok (.rt d) ρ2 M2
      | .exc e ρ2 M2 => .exc e ρ2 M2
      | .bad => .bad)
    | _ => .bad := rfl
theorem loop_end {Z : RL} {W : Wd} {H : Hp} {N : Ends} {r : RS} {f : Env → Sto → RS} {U : L2.St → Hp → Prop} (h : Pst P Z W0 H0 W H N w (match r with
      | .ok .nx ρ2 M2 => f ρ2 M2
      | .ok .ct ρ2 M2 => f ρ2 M2
      | .ok .bk ρ2 M2 => .ok .nx ρ2 M2
      | .ok (.rt d) ρ2 M2 => .ok (.rt d) ρ2 M2
      | .exc e ρ2 M2 => .exc e ρ2 M2
      | .bad => .bad)) (k : ∀ ρ2 M2, Pst P Z W0 H0 W H N w (f ρ2 M2) → ∀ W' σ H', Gw W H W' H' → Z W' ρ2 M2 σ H' → U σ H') : Pst P Z W0 H0 W H { N with nx := U, ct := U, bk := N.nx } w r := by
  cases r with
  | bad => exact h
  | exc e ρ M => exact h
  | ok fl ρ M =>
    cases fl with
    | nx => exact k ρ M h
    | ct => exact k ρ M h
    | bk => exact h
    | rt d => exact h
theorem p_whl {a : E} {b : List S} {e : Expr} {body : List Stmt} (B : BodyOk X) (he : PTT P c ow w X e a) (hb : PSS P c sub W0 H0 ow w X body b) : PST P c sub W0 H0 ow w X (.While e body [] pos) (.whl a b) :=
  ps_imp (ps_while B.po he hb) fun N σ H ⟨W, ρ, M, r, h⟩ => by
    rw [evS] at h
    refine ⟨fun m σ' H' => ∃ W' ρ' M', RelS P W0 H0 ow W' ρ' M' σ' H' ∧ Pst P (RelS P W0 H0 ow) W0 H0 W' H' N w (whlN (evE c a) (evSs c sub b) m ρ' M'), ⟨WF, W, ρ, M, r, h⟩, ?_⟩
    rintro m σ1 H1 ⟨W1, ρ1, M1, r1, h1⟩
    cases m with
    | zero => exact h1.elim
    | succ m =>
      rw [whlN_succ] at h1
      refine useT r1 h1 (fun d M' hd => ?_) fun k M' W' H' gg r' h' => ?_
      · cases d <;> first | exact ⟨_, rfl⟩ | exact (show False from hd).elim
      · cases k with
        | false =>
          rw [if_neg (by decide)]
          exact (show ∀ W' σ H', Gw W1 H1 W' H' → RelS P W0 H0 ow W' ρ1 M' σ H' → N.nx σ H' from h') W' _ H' (gg.w r1.rel.sto.wf) r'
        | true =>
          rw [if_pos rfl]
          refine ⟨_, fun σ' H' h => ⟨m, Nat.lt_succ_self m, h⟩, W', ρ1, M', r', loop_end (Pst.g (gg.w r1.rel.sto.wf) h') fun ρ2 M2 h2 W2 σ2 H2 g2 r2 => ⟨W2, ρ2, M2, r2, h2.g g2⟩⟩
theorem forL_cons {body : Env → Sto → RS} {t : Tg} {d : D} {ds : List D} {ρ ρ' : Env} {M : Sto} (e : putT ρ t d = some ρ') : forL body t (d :: ds) ρ M = (match body ρ' M with
      | .ok .nx ρ2 M2 => forL body t ds ρ2 M2
      | .ok .ct ρ2 M2 => forL body t ds ρ2 M2
      | .ok .bk ρ2 M2 => .ok .nx ρ2 M2
      | .ok (.rt d) ρ2 M2 => .ok (.rt d) ρ2 M2
      | .exc e ρ2 M2 => .exc e ρ2 M2
      | .bad => .bad) := by
  rw [forL, e] <;> rfl
theorem forL_none {body : Env → Sto → RS} {t : Tg} {d : D} {ds : List D} {ρ : Env} {M : Sto} (e : putT ρ t d = none) : forL body t (d :: ds) ρ M = .bad := by
  rw [forL, e]
theorem p_for {t : Tg} {a : E} {b : List S} {tg iter : Expr} {body : List Stmt} (ok : CtxOk g P c n X w) (B : BodyOk X) (hi : PI X tg iter (tI Gw P c ow w a)) (hg : chkG (fun _ => true) X.N X.env.scope t tg = true) (hw : ∀ i ∈ slots t, i ∉ ow) (hset : notSet iter = true) (hb : PSS P c sub W0 H0 ow w X body b) :
    PST P c sub W0 H0 ow w X (.For tg iter body [] pos) (.for t a b) :=
  ps_imp (ps_for B.po ok.calm hi (pg_tgt ok (fun x _ => B.fn x) hg) hb (notSet_fold hset _)) fun N σ H ⟨W, ρ, M, r, h⟩ => by
    rw [evS] at h
    refine ⟨W, ρ, M, r.rel, R.sat_mono (pst_toS h) (fun q hq => ?_) fun e M' hx => xk_of r hx⟩
    cases e : itemsOf q.1 with
    | none => rw [e] at hq; exact hq.elim
    | some ds =>
      rw [e] at hq
      have hq : Pst P (RelS P W0 H0 ow) W0 H0 W H N w (forL (evSs c sub b) t ds ρ q.2) := hq
      refine ⟨ds, rfl, fun W1 H1 J g1 s1 wk => ?_⟩
      have r1 := r.g g1 s1
      refine ⟨fun i m σ' H' => m = ds.length - i ∧ i ≤ ds.length ∧ ∃ W' ρ' M', RelS P W0 H0 ow W' ρ' M' σ' H' ∧ Gw W1 H1 W' H' ∧ Pst P (RelS P W0 H0 ow) W0 H0 W' H' N w (forL (evSs c sub b) t (ds.drop i) ρ' M'),
        ⟨_, rfl, Nat.zero_le _, W1, ρ, q.2, r1, .refl, Pst.g (g1.w r.rel.sto.wf) (by simpa using hq)⟩, ?_⟩
      rintro i m σ2 H2 ⟨rfl, hle, W2, ρ2, M2, r2, g2, h2⟩
      by_cases hlt : i < ds.length
      · obtain ⟨go, yl⟩ := wk.go W2 H2 i g2 hlt
        rw [List.drop_eq_getElem_cons hlt] at h2
        cases ep : putT ρ2 t ds[i] with
        | none => rw [forL_none ep] at h2; exact h2.elim
        | some ρ3 =>
          rw [forL_cons ep] at h2
          refine .inr ⟨go, fun σ' H' => i + 1 ≤ ds.length ∧ ∃ W' ρ' M', RelS P W0 H0 ow W' ρ' M' σ' H' ∧ Gw W1 H1 W' H' ∧ Pst P (RelS P W0 H0 ow) W0 H0 W' H' N w (forL (evSs c sub b) t (ds.drop (i + 1)) ρ' M'), fun σ' H' hh => ⟨_, by omega, rfl, hh⟩, fun x H' y => ?_⟩
          obtain ⟨rfl, d, hd, rp⟩ := yl x H' y
          rw [List.getElem?_eq_getElem hlt] at hd
          cases hd
          refine gT_ok ok.hK r2.rel hw rp ep fun σ3 r3 l3 k3 => ?_
          exact ⟨W2, ρ3, M2, r2.tgt hw ep r3 k3, loop_end h2 fun ρ4 M4 h4 W4 σ4 H4 g4 r4 => ⟨hlt, W4, ρ4, M4, r4, g2.trans g4, h4.g g4⟩⟩
      · have ei : i = ds.length := by omega
        subst ei
        refine .inl ⟨wk.stop W2 H2 _ g2 (Nat.le_refl _), ?_⟩
        rw [List.drop_length] at h2
        exact (show ∀ W' σ H', Gw W2 H2 W' H' → RelS P W0 H0 ow W' ρ2 M2 σ H' → N.nx σ H' from h2) W2 _ H2 .refl r2
def hdS (c : Call) (sub : Nat → Nat → Bool) (k : Nat) (h : List S) (k2 : Option Nat) (h2 : List S) (e : Xc) (ρ1 : Env) (M1 : Sto) : RS := if sub e.cls k then evSs c sub h ρ1 M1 else (match k2 with
        | none => .exc e ρ1 M1
        | some j => if sub e.cls j then evSs c sub h2 ρ1 M1 else .exc e ρ1 M1)
theorem CtxOk.tr {W' : WX} (o : CtxOk g P c n X w) (pn : List (Addr × Obj)) (xe : Value → Shared → Prop) (t : Takes (X.tr pn xe) W') : CtxOk g P c n (X.tr pn xe) W' := ⟨o.hK, o.nd, o.calm, o.room, t, o.gl, o.fns, o.bi, o.ty⟩
theorem try_body {b : List S} {W : Wd} {ρ : Env} {M : Sto} {H : Hp} {N : Ends} {f : Xc → Env → Sto → RS} {Wt : WX} (h : Pst P (RelS P W0 H0 ow) W0 H0 W H N w (match evSs c sub b ρ M with | .exc e ρ1 M1 => f e ρ1 M1 | r => r))
    (k : ∀ e ρ1 M1, Pst P (RelS P W0 H0 ow) W0 H0 W H N w (f e ρ1 M1) → ∀ W' σ H' cls dd, Gw W H W' H' → RelS P W0 H0 ow W' ρ1 M1 σ H' → XcR P e cls dd → Wt cls dd σ H') : Pst P (RelS P W0 H0 ow) W0 H0 W H N Wt (evSs c sub b ρ M) := by
  cases e : evSs c sub b ρ M with
  | bad => rw [e] at h; exact h
  | exc x ρ1 M1 => rw [e] at h; exact k x ρ1 M1 h
  | ok fl ρ1 M1 =>
    rw [e] at h
    cases fl with
    | nx => exact h
    | ct => exact h
    | bk => exact h
    | rt d => exact h
theorem p_try2 {b h h2 : List S} {k j : Nat} {x y : Str} {px py p1 p2 : Pos} {body : List Stmt} {b₁ b₂ : Stmt} {s₁ s₂ : List Stmt} (ok : CtxOk g P c n X w) (B : BodyOk X) (so : SubOk P sub) (gx : glob X.env.scope x = true) (plx : plainName x = true) (lx : g.gl.lookup x = some (.cl k)) (kl : k < P.nc)
    (gy : glob X.env.scope y = true) (ply : plainName y = true) (ly : g.gl.lookup y = some (.cl j)) (jl : j < P.nc)
    (hb : ∀ (W' : WX) (pn : List (Addr × Obj)) (xe : Value → Shared → Prop), Takes (X.tr pn xe) W' → PassesOwn (model X.prog X.w) X.A X.env xe → PSS P c sub W0 H0 ow W' (X.tr pn xe) body b)
    (hh : ∀ (a : Addr) (pn : List (Addr × Obj)), PSS P c sub W0 H0 ow w (X.suite a pn) (b₁ :: s₁) h) (hh2 : ∀ (a : Addr) (pn : List (Addr × Obj)), PSS P c sub W0 H0 ow w (X.suite a pn) (b₂ :: s₂) h2) :
    PST P c sub W0 H0 ow w X (.Try body [.ExceptHandler (some (.Name x px)) none (b₁ :: s₁) p1, .ExceptHandler (some (.Name y py)) none (b₂ :: s₂) p2] [] [] pos) (.try b k h (some j) h2) := by
  have nm : ∀ {z : Str} {i : Nat}, glob X.env.scope z = true → plainName z = true → g.gl.lookup z = some (.cl i) → Names X z (.ref (P.ca i)) := fun {z i} h1 h2 h3 => by
    obtain ⟨u, v, m1, m2, m3⟩ := ok.gl z _ h3
    have ev : v = .ref (P.ca i) := m3 ⟨[], fun _ => False⟩ (fun _ => none)
    subst ev
    have eu : u = .ref (P.ca i) := m2
    subst eu
    exact ⟨glob_of h1, (plainName_of h2).1, .inl m1⟩
  refine ps_imp (ps_try_many (tb := fun W' => tSs P c sub W0 H0 ow W' b) (l := [(.ref (P.ca k), fun _ _ _ => tSs P c sub W0 H0 ow w h), (.ref (P.ca j), fun _ _ _ => tSs P c sub W0 H0 ow w h2)]) B.hs B.hf ok.tk hb
    (.cons (nm gx plx lx) (fun a oe cls d pn _ _ => hh a _) (.cons (nm gy ply ly) (fun a oe cls d pn _ _ => hh2 a _) .nil))) fun N σ H ⟨W, ρ, M, r, hs⟩ => ?_
  rw [evS] at hs
  refine ⟨W, ρ, M, r, try_body (f := hdS c sub k h (some j) h2) hs fun e ρ1 M1 he W' σ' H' cls dd gg r' xr => ?_⟩
  obtain ⟨ec, _, ed, elt⟩ := xr
  subst ec ed
  unfold hdS at he
  refine ⟨sub e.cls k, by rw [ok.hK]; exact so _ _ elt kl, fun hy a _ => ?_, fun hn => ?_⟩
  · rw [if_pos hy] at he
    exact ⟨W', ρ1, M1, r', he.g gg⟩
  · rw [if_neg (by rw [hn]; exact Bool.false_ne_true)] at he
    have he : Pst P (RelS P W0 H0 ow) W0 H0 W H N w (if sub e.cls j then evSs c sub h2 ρ1 M1 else .exc e ρ1 M1) := he
    refine ⟨sub e.cls j, by rw [ok.hK]; exact so _ _ elt jl, fun hy a _ => ?_, fun hn2 => ?_⟩
    · rw [if_pos hy] at he
      exact ⟨W', ρ1, M1, r', he.g gg⟩
    · rw [if_neg (by rw [hn2]; exact Bool.false_ne_true)] at he
      exact (show ∀ W' σ H' cls dd, Gw W H W' H' → RelS P W0 H0 ow W' ρ1 M1 σ H' → XcR P e cls dd → w cls dd σ H' from he) W' σ' H' _ _ gg r' ⟨rfl, by assumption, rfl, elt⟩
theorem p_try1 {b h h2 : List S} {k : Nat} {x : Str} {px p1 : Pos} {body : List Stmt} {b₁ : Stmt} {s₁ : List Stmt} (ok : CtxOk g P c n X w) (B : BodyOk X) (so : SubOk P sub) (gx : glob X.env.scope x = true) (plx : plainName x = true) (lx : g.gl.lookup x = some (.cl k)) (kl : k < P.nc)
    (hb : ∀ (W' : WX) (pn : List (Addr × Obj)) (xe : Value → Shared → Prop), Takes (X.tr pn xe) W' → PassesOwn (model X.prog X.w) X.A X.env xe → PSS P c sub W0 H0 ow W' (X.tr pn xe) body b)
    (hh : ∀ (a : Addr) (pn : List (Addr × Obj)), PSS P c sub W0 H0 ow w (X.suite a pn) (b₁ :: s₁) h) :
    PST P c sub W0 H0 ow w X (.Try body [.ExceptHandler (some (.Name x px)) none (b₁ :: s₁) p1] [] [] pos) (.try b k h none h2) := by
  have nm : ∀ {z : Str} {i : Nat}, glob X.env.scope z = true → plainName z = true → g.gl.lookup z = some (.cl i) → Names X z (.ref (P.ca i)) := fun {z i} h1 h2 h3 => by
    obtain ⟨u, v, m1, m2, m3⟩ := ok.gl z _ h3
    have ev : v = .ref (P.ca i) := m3 ⟨[], fun _ => False⟩ (fun _ => none)
    subst ev
    have eu : u = .ref (P.ca i) := m2
    subst eu
    exact ⟨glob_of h1, (plainName_of h2).1, .inl m1⟩
  refine ps_imp (ps_try_many (tb := fun W' => tSs P c sub W0 H0 ow W' b) (l := [(.ref (P.ca k), fun _ _ _ => tSs P c sub W0 H0 ow w h)]) B.hs B.hf ok.tk hb
    (.cons (nm gx plx lx) (fun a oe cls d pn _ _ => hh a _) .nil)) fun N σ H ⟨W, ρ, M, r, hs⟩ => ?_
  rw [evS] at hs
  refine ⟨W, ρ, M, r, try_body (f := hdS c sub k h none h2) hs fun e ρ1 M1 he W' σ' H' cls dd gg r' xr => ?_⟩
  obtain ⟨ec, _, ed, elt⟩ := xr
  subst ec ed
  unfold hdS at he
  refine ⟨sub e.cls k, by rw [ok.hK]; exact so _ _ elt kl, fun hy a _ => ?_, fun hn => ?_⟩
  · rw [if_pos hy] at he
    exact ⟨W', ρ1, M1, r', he.g gg⟩
  · rw [if_neg (by rw [hn]; exact Bool.false_ne_true)] at he
    exact (show ∀ W' σ H' cls dd, Gw W H W' H' → RelS P W0 H0 ow W' ρ1 M1 σ H' → XcR P e cls dd → w cls dd σ H' from he) W' σ' H' _ _ gg r' ⟨rfl, by assumption, rfl, elt⟩
end
end Ev
set_option Elab.async false
set_option linter.all false
set_option autoImplicit false
set_option maxRecDepth 100000
set_option maxHeartbeats 4000000
namespace Ev
open PySem PySem.Spec PyProof.Rows L2
def litB (d : D) : Expr → Bool
  | .Constant (.int i) _ _ => same d (.int i)
  | .Constant (.bool b) _ _ => same d (.bl b)
  | .Constant .none _ _ => same d .non
  | .Constant (.str x) _ _ => same d (.str x.cps.toList) && decide (x.cps.size ≤ SZ) && x.cps.toList.all fun c => decide (c < 1114112)
  | _ => false
def chkH (N : List Str) (ow : List Nat) (sc : Scope) : S → Stmt → Bool
  | .set i (.con d), .Assign [.Name x _] e _ => decide (N[i]? = some x) && locl sc x && !ow.contains i && litB d e
  | .ret (.con d), .Return (some e) _ => litB d e
  | .pass, .Pass _ => true
  | .brk, .Break _ => true
  | .cnt, .Continue _ => true
  | .dead, _ => true
  | _, _ => false
def chkHs (N : List Str) (ow : List Nat) (sc : Scope) : List S → List Stmt → Bool
  | [], sts => sts.isEmpty
  | s :: ss, st :: sts => chkH N ow sc s st && chkHs N ow sc ss sts
  | _ :: _, [] => false
def isCompE : E → Bool
  | .comp _ _ _ _ => true
  | _ => false
def clsB (g : Cfg) (sc : Scope) (x : Str) (k : Nat) : Bool := glob sc x && plainName x && (match g.gl.lookup x with | some d => same d (.cl k) | none => false)
mutual
def chkS (g : Cfg) (N : List Str) (ow : List Nat) (sc : Scope) : S → Stmt → Bool
  | .set i a, st => (match st with
    | .Assign [.Name x px] e _ => decide (N[i]? = some x) && locl sc x && !ow.contains i && !isBor a && chkE g N ow sc a e && ((noSw e || cellSw sc x e) || (isCompE a && swC sc x px e && decide (sc.names.lookup x = some .local)))
    | _ => false)
  | .own i a, st => (match st with
    | .Assign [.Name x px] e _ => decide (N[i]? = some x) && locl sc x && ow.contains i && isNew a && chkE g N ow sc a e && ((noSw e || cellSw sc x e) || (isCompE a && swC sc x px e && decide (sc.names.lookup x = some .local)))
    | _ => false)
  | .unp is a, st => (match st with
    | .Assign [.Tuple es _ _] e _ => namesC (fun _ => true) N sc is es && (is.all fun i => !ow.contains i) && !isBor a && chkE g N ow sc a e && noSw e && notTup e
    | _ => false)
  | .ex a, st => (match st with
    | .Expr e _ => chkE g N ow sc a e && noSw e
    | _ => false)
  | .ret a, st => (match st with
    | .Return (some e) _ => !isBor a && chkE g N ow sc a e
    | _ => false)
  | .reto i, st => (match st with
    | .Return (some (.Name x _)) _ => slotB N sc i x && ow.contains i
    | _ => false)
  | .retn, st => (match st with
    | .Return none _ => true
    | _ => false)
  | .pass, st => (match st with
    | .Pass _ => true
    | .Expr (.Constant (.str _) _ _) _ => true
    | _ => false)
  | .brk, st => (match st with
    | .Break _ => true
    | _ => false)
  | .cnt, st => (match st with
    | .Continue _ => true
    | _ => false)
  | .dead, _ => true
  | .ite a x y, st => (match st with
    | .If e sx sy _ => tstB a && chkE g N ow sc a e && chkSs g N ow sc x sx && chkSs g N ow sc y sy
    | _ => false)
  | .whl a b, st => (match st with
    | .While e body [] _ => tstB a && chkE g N ow sc a e && chkSs g N ow sc b body
    | _ => false)
  | .for t a b, st => (match st with
    | .For tg iter body [] _ => chkG (fun _ => true) N sc t tg && ((slots t).all fun i => !ow.contains i) && notSet iter && (chkI g N ow sc a iter || (!isBor a && chkE g N ow sc a iter)) && chkSs g N ow sc b body
    | _ => false)
  | .raise k as, st => (match st with
    | .Raise (some (.Call (.Name x _) [] [] _)) none _ => as.isEmpty && clsB g sc x k && g.ex.contains k
    | _ => false)
  | .try b k h k2 h2, st => (match st with
    | .Try body [.ExceptHandler (some (.Name x _)) none (b₁ :: s₁) _] [] [] _ => k2.isNone && clsB g sc x k && decide (k < g.nc) && chkHs N ow sc h (b₁ :: s₁) && chkSs g N ow sc b body
    | .Try body [.ExceptHandler (some (.Name x _)) none (b₁ :: s₁) _, .ExceptHandler (some (.Name y _)) none (b₂ :: s₂) _] [] [] _ => (match k2 with
      | some j => clsB g sc x k && decide (k < g.nc) && chkHs N ow sc h (b₁ :: s₁) && clsB g sc y j && decide (j < g.nc) && chkHs N ow sc h2 (b₂ :: s₂) && chkSs g N ow sc b body
      | none => false)
    | _ => false)
  | .sto o ix v, st => (match st with
    | .Assign [.Subscript eo ei _] ev _ => noSw ev && notSlice ei && !isBor o && !isBor ix && !isBor v && chkE g N ow sc o eo && chkE g N ow sc ix ei && chkE g N ow sc v ev
    | _ => false)
  | .par _ _, _ => false
  | .aug _ _ _, _ => false
  | .omu _ _ _, _ => false
  | .osm _ _ _ _, _ => false
  | .oput _ _ _, _ => false
def chkSs (g : Cfg) (N : List Str) (ow : List Nat) (sc : Scope) : List S → List Stmt → Bool
  | [], sts => sts.isEmpty
  | s :: ss, sts => (match sts with
    | st :: sts => chkS g N ow sc s st && chkSs g N ow sc ss sts
    | [] => false)
end
structure XsOk (g : Cfg) (P : Par) (sub : Nat → Nat → Bool) : Prop where
  so : SubOk P sub
  ex : ∀ k ∈ g.ex, ExcK P k
  nc : g.nc = P.nc
section
variable {P : Par} {c : Call} {sub : Nat → Nat → Bool} {W0 : Wd} {H0 : Hp} {ow : List Nat} {g : Cfg} {n : Nat}
theorem lit_e {X : Cx} {w : WX} {d : D} {e : Expr} (h : litB d e = true) : PEE P c ow w X e (.con d) ∧ noSw e = true := by
  unfold litB at h
  split at h
  · rw [same_eq _ _ h]
    exact ⟨x_con (d := .int _) (pe_int (X := X)) fun _ _ => rfl, rfl⟩
  · rw [same_eq _ _ h]
    exact ⟨x_con (d := .bl _) (pe_bl (X := X)) fun _ _ => rfl, rfl⟩
  · rw [same_eq _ _ h]
    exact ⟨x_con (d := .non) (pe_non (X := X)) fun _ _ => rfl, rfl⟩
  · rename_i y _ _
    simp only [Bool.and_eq_true, decide_eq_true_eq, List.all_eq_true] at h
    rw [same_eq _ _ h.1.1]
    exact ⟨x_con (d := .str y.cps.toList) (pe_str (X := X)) fun _ _ => ⟨by rw [S'_of], by simpa using h.1.2, h.2⟩, rfl⟩
  · cases h
theorem hdl {X : Cx} {w : WX} (nd : X.N.Nodup) (fn : ∀ x, X.fn x = true) : ∀ (ss : List S) (sts : List Stmt), chkHs X.N ow X.env.scope ss sts = true → PSS P c sub W0 H0 ow w X sts ss
  | [], sts, h => by
    have e : sts = [] := by simpa [chkHs] using h
    subst e
    exact pp_nil
  | s :: ss, [], h => by simp [chkHs] at h
  | s :: ss, st :: sts, h => by
    rw [chkHs, Bool.and_eq_true] at h
    refine pp_cons ?_ (hdl nd fn ss sts h.2)
    have h := h.1
    unfold chkH at h
    split at h
    · simp only [Bool.and_eq_true, decide_eq_true_eq, Bool.not_eq_true'] at h
      obtain ⟨⟨⟨h1, h2⟩, h3⟩, h4⟩ := h
      have l := lit_e (P := P) (c := c) (ow := ow) (w := w) (X := X) h4
      exact p_set nd fn h1 (locl_of h2) (by simpa using h3) rfl l.1 (noSw_of l.2 _ _ _)
    · exact p_ret rfl (lit_e h).1
    · exact p_pass
    · exact p_brk
    · exact p_cnt
    · exact p_dead
    · cases h
theorem clsB_of {X : Cx} {x : Str} {k : Nat} (h : clsB g X.env.scope x k = true) : glob X.env.scope x = true ∧ plainName x = true ∧ g.gl.lookup x = some (.cl k) := by
  unfold clsB at h
  simp only [Bool.and_eq_true] at h
  refine ⟨h.1.1, h.1.2, ?_⟩
  have h2 := h.2
  split at h2
  · rename_i d hd
    rw [hd, same_eq _ _ h2]
  · cases h2
theorem kind_of {X : Cx} (h : X.env.scope.kind = .function) : X.env.scope.kind = .function := h
def StmOk (P : Par) (c : Call) (sub : Nat → Nat → Bool) (W0 : Wd) (H0 : Hp) (ow : List Nat) (g : Cfg) (n : Nat) (s : S) : Prop := ∀ (X : Cx) (w : WX) (st : Stmt), CtxOk g P c n X w → BodyOk X → X.env.scope.kind = .function → chkS g X.N ow X.env.scope s st = true → PST P c sub W0 H0 ow w X st s
def StmsOk (P : Par) (c : Call) (sub : Nat → Nat → Bool) (W0 : Wd) (H0 : Hp) (ow : List Nat) (g : Cfg) (n : Nat) (s : List S) : Prop := ∀ (X : Cx) (w : WX) (st : List Stmt), CtxOk g P c n X w → BodyOk X → X.env.scope.kind = .function → chkSs g X.N ow X.env.scope s st = true → PSS P c sub W0 H0 ow w X st s
theorem isComp_of {a : E} (h : isCompE a = true) : ∃ e t it cs, a = .comp e t it cs := by
  cases a <;> first | exact ⟨_, _, _, _, rfl⟩ | cases h
theorem o_set {i : Nat} {a : E} : StmOk P c sub W0 H0 ow g n (.set i a) := fun X w st ok B hk h => by
  unfold chkS at h
  split at h
  · simp only [Bool.and_eq_true, decide_eq_true_eq, Bool.not_eq_true', Bool.or_eq_true] at h
    obtain ⟨⟨⟨⟨⟨h1, h2⟩, h3⟩, h4⟩, h5⟩, h6⟩ := h
    rcases h6 with h6 | h6
    · exact p_set ok.nd B.fn h1 (locl_of h2) (by simpa using h3) h4 ((snd a).ee ok h5) (h6.elim (fun h => noSw_of h _ _ _) cellSw_of)
    · obtain ⟨e', t, it, cs, rfl⟩ := isComp_of h6.1.1
      obtain ⟨elt, tg, iter, ifs, scope, pos, own, rfl, hp⟩ := comp_parts (snd e') (snd it) (snds cs) ok h5
      exact p_lc ok hk h1 h6.2 h6.1.2 hp fun N σ H ⟨W, ρ, M, r, h⟩ => set_k (by simpa using h3) r h
  · cases h
theorem o_own {i : Nat} {a : E} : StmOk P c sub W0 H0 ow g n (.own i a) := fun X w st ok B hk h => by
  unfold chkS at h
  split at h
  · simp only [Bool.and_eq_true, decide_eq_true_eq, Bool.not_eq_true', Bool.or_eq_true] at h
    obtain ⟨⟨⟨⟨⟨h1, h2⟩, h3⟩, h4⟩, h5⟩, h6⟩ := h
    have oi : i ∈ ow := by simpa using h3
    rcases h6 with h6 | h6
    · have q := (snd a).e X w _ ok h5
      unfold tX at q
      rw [if_pos h4] at q
      exact p_own ok B.fn h1 (locl_of h2) oi q (h6.elim (fun h => noSw_of h _ _ _) cellSw_of)
    · obtain ⟨e', t, it, cs, rfl⟩ := isComp_of h6.1.1
      obtain ⟨elt, tg, iter, ifs, scope, pos, own, rfl, hp⟩ := comp_parts (snd e') (snd it) (snds cs) ok h5
      exact p_lc ok hk h1 h6.2 h6.1.2 hp fun N σ H ⟨W, ρ, M, r, h⟩ => own_k oi r h
  · cases h
mutual
theorem stm (xs : XsOk g P sub) : ∀ s : S, StmOk P c sub W0 H0 ow g n s
  | .set i a => o_set
  | .own i a => o_own
  | .unp is a => fun X w st ok B hk h => by
    unfold chkS at h
    split at h
    · simp only [Bool.and_eq_true, Bool.not_eq_true', List.all_eq_true] at h
      obtain ⟨⟨⟨⟨⟨h1, h2⟩, h3⟩, h4⟩, h5⟩, h6⟩ := h
      exact p_unp ok B h1 (fun i hi => by simpa using h2 i hi) h3 ((snd a).ee ok h4) h5 h6
    · cases h
  | .ex a => fun X w st ok B hk h => by
    unfold chkS at h
    split at h
    · rw [Bool.and_eq_true] at h
      exact p_ex ((snd a).ee ok h.1) h.2
    · cases h
  | .ret a => fun X w st ok B hk h => by
    unfold chkS at h
    split at h
    · rw [Bool.and_eq_true, Bool.not_eq_true'] at h
      exact p_ret h.1 ((snd a).ee ok h.2)
    · cases h
  | .reto i => fun X w st ok B hk h => by
    unfold chkS at h
    split at h
    · rw [Bool.and_eq_true] at h
      exact p_reto h.1 (by simpa using h.2)
    · cases h
  | .retn => fun X w st ok B hk h => by
    unfold chkS at h
    split at h
    · exact p_retn
    · cases h
  | .pass => fun X w st ok B hk h => by
    unfold chkS at h
    split at h
    · exact p_pass
    · exact p_doc
    · cases h
  | .brk => fun X w st ok B hk h => by
    unfold chkS at h
    split at h
    · exact p_brk
    · cases h
  | .cnt => fun X w st ok B hk h => by
    unfold chkS at h
    split at h
    · exact p_cnt
    · cases h
  | .dead => fun X w st ok B hk h => p_dead
  | .ite a x y => fun X w st ok B hk h => by
    unfold chkS at h
    split at h
    · simp only [Bool.and_eq_true] at h
      obtain ⟨⟨⟨h1, h2⟩, h3⟩, h4⟩ := h
      exact p_ite ((snd a).t X w _ ok h2 h1) (stms xs x X w _ ok B hk h3) (stms xs y X w _ ok B hk h4)
    · cases h
  | .whl a b => fun X w st ok B hk h => by
    unfold chkS at h
    split at h
    · simp only [Bool.and_eq_true] at h
      obtain ⟨⟨h1, h2⟩, h3⟩ := h
      exact p_whl B ((snd a).t X w _ ok h2 h1) (stms xs b X w _ ok B hk h3)
    · cases h
  | .for t a b => fun X w st ok B hk h => by
    unfold chkS at h
    split at h
    · rename_i tg iter body pos
      simp only [Bool.and_eq_true, Bool.or_eq_true, Bool.not_eq_true', List.all_eq_true] at h
      obtain ⟨⟨⟨⟨h1, h2⟩, h3⟩, h4⟩, h5⟩ := h
      have hi : PI X tg iter (tI Gw P c ow w a) := by
        rcases h4 with h4 | h4
        · exact (snd a).i X w iter tg ok h4 Gw
        · exact pi_val ok.hK (fun _ _ _ _ _ gg => gg) (.inl h4.1) ((snd a).ee ok h4.2)
      exact p_for ok B hi h1 (fun i hi => by simpa using h2 i hi) h3 (stms xs b X w _ ok B hk h5)
    · cases h
  | .raise k as => fun X w st ok B hk h => by
    unfold chkS at h
    split at h
    · simp only [Bool.and_eq_true] at h
      obtain ⟨⟨h1, h2⟩, h3⟩ := h
      have e : as = [] := by simpa using h1
      subst e
      obtain ⟨k1, k2, k3⟩ := clsB_of h2
      exact p_raise ok k1 k2 k3 (xs.ex k (by simpa using h3))
    · cases h
  | .try b k h' k2 h2' => fun X w st ok B hk h => by
    unfold chkS at h
    split at h
    · simp only [Bool.and_eq_true, decide_eq_true_eq] at h
      obtain ⟨⟨⟨⟨h1, h2⟩, h3⟩, h4⟩, h5⟩ := h
      have e : k2 = none := by simpa using h1
      subst e
      obtain ⟨a1, a2, a3⟩ := clsB_of h2
      exact p_try1 ok B xs.so a1 a2 a3 (by rw [← xs.nc]; exact h3) (fun W' pn xe tk po => stms xs b _ W' _ (ok.tr pn xe tk) ⟨B.fn, B.hs, B.hf, po⟩ hk h5) fun a pn => hdl (X := X.suite a pn) ok.nd B.fn _ _ h4
    · split at h
      · simp only [Bool.and_eq_true, decide_eq_true_eq] at h
        obtain ⟨⟨⟨⟨⟨⟨h1, h2⟩, h3⟩, h4⟩, h5⟩, h6⟩, h7⟩ := h
        obtain ⟨a1, a2, a3⟩ := clsB_of h1
        obtain ⟨b1, b2, b3⟩ := clsB_of h4
        exact p_try2 ok B xs.so a1 a2 a3 (by rw [← xs.nc]; exact h2) b1 b2 b3 (by rw [← xs.nc]; exact h5) (fun W' pn xe tk po => stms xs b _ W' _ (ok.tr pn xe tk) ⟨B.fn, B.hs, B.hf, po⟩ hk h7) (fun a pn => hdl (X := X.suite a pn) ok.nd B.fn _ _ h3) fun a pn => hdl (X := X.suite a pn) ok.nd B.fn _ _ h6
      · cases h
    · cases h
  | .sto o ix v => fun X w st ok B hk h => by
    unfold chkS at h
    split at h
    · simp only [Bool.and_eq_true, Bool.not_eq_true'] at h
      obtain ⟨⟨⟨⟨⟨⟨⟨h1, h2⟩, h3⟩, h4⟩, h5⟩, h6⟩, h7⟩, h8⟩ := h
      exact p_sto ok ((snd o).ee ok h6) ((snd ix).ee ok h7) ((snd v).ee ok h8) h5 h1 h2 h4 h3
    · cases h
  | .par _ _ => fun X w st ok B hk h => by simp [chkS] at h
  | .aug _ _ _ => fun X w st ok B hk h => by simp [chkS] at h
  | .omu _ _ _ => fun X w st ok B hk h => by simp [chkS] at h
  | .osm _ _ _ _ => fun X w st ok B hk h => by simp [chkS] at h
  | .oput _ _ _ => fun X w st ok B hk h => by simp [chkS] at h
theorem stms (xs : XsOk g P sub) : ∀ ss : List S, StmsOk P c sub W0 H0 ow g n ss
  | [] => fun X w st ok B hk h => by
    have e : st = [] := by simpa [chkSs] using h
    subst e
    exact pp_nil
  | s :: ss => fun X w st ok B hk h => by
    unfold chkSs at h
    split at h
    · rw [Bool.and_eq_true] at h
      exact pp_cons (stm xs s X w _ ok B hk h.1) (stms xs ss X w _ ok B hk h.2)
    · cases h
end
end
end Ev
set_option Elab.async false
set_option linter.all false
set_option autoImplicit false
set_option maxRecDepth 100000
set_option maxHeartbeats 4000000
namespace Ev
open PySem PySem.Spec PyProof.Rows L2
structure Df where
  name : Str
  st : Stmt
  N : List Str
  ps : List Str
  fn : Fn
def scB (N P : List Str) (sc : Scope) : Bool := (match sc.kind with | .function => true | _ => false) && !sc.isCoroutine && !sc.isGenerator && decide N.Nodup && decide (N.take P.length = P) &&
  (P.all fun x => decide (sc.names.lookup x = some .local) || decide (sc.names.lookup x = some .cell)) && (sc.names.all fun y => match y.2 with | .free => false | _ => true)
theorem scB_ok {N P : List Str} {sc : Scope} (h : scB N P sc = true) : FnScope N P sc := by
  unfold scB at h
  simp only [Bool.and_eq_true, List.all_eq_true, decide_eq_true_eq, Bool.not_eq_true', Bool.or_eq_true] at h
  obtain ⟨⟨⟨⟨⟨⟨h1, h2⟩, h3⟩, h4⟩, h5⟩, h6⟩, h7⟩ := h
  refine ⟨?_, h2, h3, h4, h5, h6, fun y hy e => ?_⟩
  · split at h1
    · assumption
    · cases h1
  · have := h7 y hy
    rw [e] at this
    cases this
def dfOk (g : Cfg) (d : Df) : Bool := scB d.N d.ps (defScope d.st) && decide (d.ps.length = d.fn.np) && decide (d.N.length = d.fn.ns) && decide (d.fn.np ≤ d.fn.ns) && (d.fn.ow.all fun i => decide (d.fn.np ≤ i)) && chkSs g d.N d.fn.ow (defScope d.st) d.fn.body (defBody d.st)
def Bnd (d : Df) : Prop := ∀ (kV doc pm : Value) (an : Option Addr) (cdv ct : Value) (us : List Value), us.length = d.ps.length → bindArgs (PySem.W.fnOf d.name d.name (defArgs d.st) (defBody d.st) (defScope d.st) .none kV doc pm an cdv ct) ⟨us, []⟩ = pure (d.ps.zip us)
def Bnds : List Df → Prop
  | [] => True
  | d :: r => Bnd d ∧ Bnds r
theorem Bnds.get : ∀ {ds : List Df} {i : Nat} {d : Df}, Bnds ds → ds[i]? = some d → Bnd d
  | [], _, _, _, e => by simp at e
  | _ :: _, 0, _, h, e => by simp at e; subst e; exact h.1
  | _ :: _, i + 1, _, h, e => Bnds.get h.2 (by simpa using e)
abbrev FnP (K : PySem.W.Frag) (d : Df) (f : Addr) (fd : FuncData) : Prop := FunD K d.name d.name (defArgs d.st) (defBody d.st) (defScope d.st) [] [] f fd
structure ModOk (g : Cfg) (P : Par) (mg : Str → Option Value) (ds : List Df) : Prop where
  gl : ∀ x d, g.gl.lookup x = some d → ∃ u v, mg x = some u ∧ RelV v u ∧ ∀ W H, Rep P W H d v
  fn : ∀ x f, g.gl.lookup x = some (.fn f) → ∃ d, ds[f]? = some d ∧ mg x = some (.ref (P.fa f))
  bi : ∀ x b, g.bi.lookup x = some b → mg x = none ∧ bootBuiltins x = some (biVal b)
  ty : ∀ x t, g.ty.lookup x = some t → mg x = none ∧ bootBuiltins x = some (.type t)
section
variable {g : Cfg} {P : Par} {sub : Nat → Nat → Bool} {ds : List Df} {prog : Program} {w : World} {mg : Str → Option Value} {base : Heap}
theorem start_get {ds' : List D} {k i : Nat} {d : D} (h : get (ds'.map some ++ List.replicate k none) i = some d) : ds'[i]? = some d := by
  have e := get_some h
  by_cases hi : i < ds'.length
  · rw [List.getElem?_append_left (by simpa using hi), List.getElem?_map] at e
    cases q : ds'[i]? with
    | none => rw [q] at e; cases e
    | some z => rw [q] at e; cases e; rfl
  · rw [List.getElem?_append_right (by simpa using hi), List.getElem?_replicate] at e
    split at e <;> cases e
theorem run_succ {Γ : List Fn} {n f : Nat} {ds : List D} {M : Sto} : run sub Γ (n + 1) f ds M = match Γ[f]? with
    | none => .bad
    | some F => if ds.length = F.np then (evSs (run sub Γ n) sub F.body (startE F ds) M).out else .bad := rfl
theorem defs_ok (mo : ModOk g P mg ds) (xs : XsOk g P sub) (bn : Bnds ds) (fd : ∀ i d, ds[i]? = some d → ∃ fd, FnP P.K d (P.fa i) fd) (ck : ds.all (dfOk g) = true) :
    ∀ n i d, ds[i]? = some d → ∀ fd, FnP P.K d (P.fa i) fd → FnOk prog w P.K mg base (L2.CX prog w) n (P.fa i) fd d.ps (spF P (run sub (ds.map (·.fn)) n) i)
  | 0, i, d, hd, fd, F => by
    have no : ∀ vs H Q E, ¬ spF P (run sub (ds.map (·.fn)) 0) i vs H Q E := fun vs H Q E ⟨W, M, ds', st, rp, hs⟩ => hs
    exact ⟨fun vs H Q E h => (no _ _ _ _ h).elim, fun A outer s H args us vs Q E _ _ _ _ h => (no _ _ _ _ h).elim⟩
  | n + 1, i, d, hd, fd', F => by
    have ih := defs_ok mo xs bn fd ck n
    have ok : dfOk g d = true := List.all_eq_true.mp ck d (List.mem_of_getElem? hd)
    unfold dfOk at ok
    simp only [Bool.and_eq_true, decide_eq_true_eq, List.all_eq_true] at ok
    obtain ⟨⟨⟨⟨⟨k1, k2⟩, k3⟩, k4⟩, k5⟩, k6⟩ := ok
    have S := scB_ok k1
    have hΓ : (ds.map (·.fn))[i]? = some d.fn := by rw [List.getElem?_map, hd]; rfl
    have un : ∀ vs H Q E, spF P (run sub (ds.map (·.fn)) (n + 1)) i vs H Q E → ∃ W M ds', StoR P W M H ∧ Reps P W H ds' vs ∧ ds'.length = d.fn.np ∧
        ((evSs (run sub (ds.map (·.fn)) n) sub d.fn.body (startE d.fn ds') M).out).sat (fun r => ∀ W' v H', G W H W' H' → StoR P W' r.2 H' → Rep P W' H' r.1 v → Q v H') fun e M' => ∀ W' H' cls dd, G W H W' H' → StoR P W' M' H' → XcR P e cls dd → E cls dd H' := fun vs H Q E ⟨W, M, ds', st, rp, hs⟩ => by
      rw [run_succ, hΓ] at hs
      have hs : (if ds'.length = d.fn.np then (evSs (run sub (ds.map (·.fn)) n) sub d.fn.body (startE d.fn ds') M).out else .bad : R (D × Sto)).sat (fun r => ∀ W' v H', G W H W' H' → StoR P W' r.2 H' → Rep P W' H' r.1 v → Q v H') (fun e M' => ∀ W' H' cls dd, G W H W' H' → StoR P W' M' H' → XcR P e cls dd → E cls dd H') := hs
      split at hs
      · rename_i hl
        exact ⟨W, M, ds', st, rp, hl, hs⟩
      · exact hs.elim
    refine F.ok S (fun vs H Q E h => ?_) (fun cdv A outer s H vs Q E hr h => ?_)
    · obtain ⟨W, M, ds', st, rp, hl, _⟩ := un vs H Q E h
      rw [rp.length, hl, k2]
    · obtain ⟨W, M, ds', st, rp, hl, hs⟩ := un vs H Q E h
      let X := cxOf (L2.CX prog w) prog w P.K mg base d.N d.name (defScope d.st) (P.fa i) cdv A outer s H E
      have cx : CtxOk g P (run sub (ds.map (·.fn)) n) n X (fun cls dd _ H' => E cls dd H') :=
        ⟨rfl, S.nd, rfl, hr, takes_of rfl rfl rfl rfl, mo.gl, fun x f hx => by
          obtain ⟨d2, h2, m2⟩ := mo.fn x f hx
          obtain ⟨fd2, F2⟩ := fd f d2 h2
          exact ⟨fd2, d2.ps, m2, F2.kp, F2.bindsN (bn.get h2), ih f d2 h2 fd2 F2⟩, mo.bi, mo.ty⟩
      have bo : BodyOk X := ⟨fun _ => rfl, rfl, rfl, passes_of rfl⟩
      refine ⟨tSs P (run sub (ds.map (·.fn)) n) sub W H d.fn.ow (fun cls dd _ H' => E cls dd H') d.fn.body, stms xs d.fn.body X _ _ cx bo S.kind k6, W, startE d.fn ds', M, ?_, ?_⟩
      · have nul : ∀ j ∈ d.fn.ow, get (startE d.fn ds') j = none := fun j hj => by
          cases e : get (startE d.fn ds') j with
          | none => rfl
          | some z =>
            have := (List.getElem?_eq_some_iff.mp (start_get e)).1
            have := k5 j hj
            omega
        refine ⟨⟨st, ?_, fun j z e nj => ?_, fun j z e hj => (by rw [nul j hj] at e; cases e), fun a b p ha hb ne ga => (ga (nul a ha)).elim⟩, .refl, fun j hj z e => (by rw [nul j hj] at e; cases e)⟩
        · unfold startE L2.start
          simp only [List.length_append, List.length_map, List.length_replicate]
          rw [rp.length, k3]
        · obtain ⟨v, e1, r1⟩ := rp.get (start_get e)
          refine ⟨v, ?_, r1⟩
          unfold L2.start
          have hj := (List.getElem?_eq_some_iff.mp e1).1
          rw [List.getElem?_append_left (by simpa using hj), List.getElem?_map, e1]
          rfl
      · generalize evSs (run sub (ds.map (·.fn)) n) sub d.fn.body (startE d.fn ds') M = r at hs
        cases r with
        | bad => exact hs
        | exc e ρ M' => exact fun W' σ H' cls dd gg r' x => hs W' H' cls dd r'.g0 r'.rel.sto x
        | ok f ρ M' =>
          cases f with
          | nx => exact fun W' σ H' gg r' => hs W' .non H' r'.g0 r'.rel.sto rfl
          | bk => exact hs.elim
          | ct => exact hs.elim
          | rt z => exact hs
theorem ints_rep {P : Par} {W : Wd} {H : Hp} : ∀ ns : List Int, Reps P W H (ns.map D.int) (ns.map V.int)
  | [] => Reps.nil
  | n :: r => Reps.cons rfl (ints_rep r)
theorem law_sp {c : Call} {il : Nat} {a : Addr} {ns : List Int} {H : Hp} (hS : SqL P.K H a (ns.map V.int)) (hl : ns.length ≤ 63) (h : ∃ M, c il [.scr (ns.map D.int)] [] = .ok (.bl true, M)) :
    spF P c il [.ref a] H (fun v _ => v = .bl true) fun _ _ _ => False := by
  obtain ⟨M, h⟩ := h
  have key : ∀ W, StoR P W [] H → ScrAt P W H a (ns.map V.int) → spF P c il [.ref a] H (fun v _ => v = .bl true) fun _ _ _ => False := fun W st sc => by
    refine ⟨W, [], [.scr (ns.map D.int)], st, Reps.cons ⟨a, _, rfl, sc, by rw [List.length_map]; exact Nat.le_trans hl (by decide), ints_rep ns⟩ Reps.nil, ?_⟩
    rw [h]
    exact fun W' v H' _ _ rp => rp
  rcases hS with hS | hS
  · refine key ⟨[], fun b => b = a⟩ ⟨⟨fun b _ z => (nomatch z), fun b z => ?_, List.nodup_nil, fun b z => (nomatch z)⟩, rfl, fun k o e => by simp at e⟩ (.inl ⟨rfl, hS⟩)
    have z : b = a := z
    subst z
    rcases hS with hS | ⟨u, hS⟩
    · rw [hS]; exact fun z => nomatch z
    · rw [hS]; exact fun z => nomatch z
  · exact key ⟨[], fun _ => False⟩ ⟨⟨fun b z => z.elim, fun b z => z.elim, List.nodup_nil, fun b z => (nomatch z)⟩, rfl, fun k o e => by simp at e⟩ (.inr hS)
end
def faOf (g : Cfg) (cls : List Str) (sub : Nat → Nat → Bool) : List He.Fa :=
  (g.gl.map fun p => match p.2 with | .int i => He.Fa.int p.1 i | .str z => .str p.1 (S' z) | _ => .glo p.1) ++ (g.bi.map fun p => He.Fa.free p.1) ++ (g.ty.map fun p => He.Fa.free p.1) ++
    (g.ex.map fun k => He.Fa.exc (cls.getD k Str.empty)) ++ ((List.range cls.length).flatMap fun i => (List.range cls.length).map fun j => He.Fa.exm (cls.getD i Str.empty) (cls.getD j Str.empty) (sub i j))
def fnsOf (ds : List Df) : List He.DefD := ds.map fun d => ⟨(d.name, none), d.name, d.name, defArgs d.st, defBody d.st, defScope d.st, [], []⟩
def parOf (K : PySem.W.Frag) (ds : List Df) (cls : List Str) : Par := ⟨K, fun f => He.ga K ((ds.map (·.name)).getD f Str.empty), fun k => He.ga K (cls.getD k Str.empty), cls.length⟩
def glB (g : Cfg) (ds : List Df) (cls : List Str) : Bool := (g.gl.all fun p => match p.2 with
  | .fn f => decide ((ds.map (·.name))[f]? = some p.1)
  | .cl k => decide (cls[k]? = some p.1)
  | .int _ => true
  | .str z => decide (z.length ≤ SZ) && z.all fun c => decide (c < 1114112)
  | _ => false) && (g.bi.all fun p => decide (bootBuiltins p.1 = some (biVal p.2))) && (g.ty.all fun p => decide (bootBuiltins p.1 = some (.type p.2))) && (g.ex.all fun k => decide (k < cls.length)) && decide (g.nc = cls.length)
section
variable {g : Cfg} {cls : List Str} {sub : Nat → Nat → Bool} {ds : List Df} {K : PySem.W.Frag} {h : Heap} {mg : Str → Option Value}
theorem lookup_mem' {α : Type} {x : Str} {d : α} : ∀ {l : List (Str × α)}, l.lookup x = some d → (x, d) ∈ l
  | [], h => by cases h
  | (y, e) :: r, h => by
    rw [List.lookup_cons] at h
    split at h
    · rename_i q
      cases h
      rw [beq_iff_eq.mp q]
      exact List.mem_cons_self
    · exact List.mem_cons_of_mem _ (lookup_mem' h)
theorem modOk (X : K.In h) (G : h.Ns mainGlobals mg) (c : ∀ f ∈ faOf g cls sub, f.ok K = true) (b : glB g ds cls = true) : ModOk g (parOf K ds cls) mg ds := by
  unfold glB at b
  simp only [Bool.and_eq_true, List.all_eq_true, decide_eq_true_eq] at b
  obtain ⟨⟨⟨⟨b1, b2⟩, b3⟩, b4⟩, b5⟩ := b
  have cg : ∀ p ∈ g.gl, (match p.2 with | .int i => He.Fa.int p.1 i | .str z => .str p.1 (S' z) | _ => .glo p.1).ok K = true := fun p hp => c _ (by
    unfold faOf
    exact List.mem_append_left _ (List.mem_append_left _ (List.mem_append_left _ (List.mem_append_left _ (List.mem_map.mpr ⟨p, hp, rfl⟩)))))
  have cb : ∀ p ∈ g.bi, (He.Fa.free p.1).ok K = true := fun p hp => c _ (by
    unfold faOf
    exact List.mem_append_left _ (List.mem_append_left _ (List.mem_append_left _ (List.mem_append_right _ (List.mem_map.mpr ⟨p, hp, rfl⟩)))))
  have ct : ∀ p ∈ g.ty, (He.Fa.free p.1).ok K = true := fun p hp => c _ (by
    unfold faOf
    exact List.mem_append_left _ (List.mem_append_left _ (List.mem_append_right _ (List.mem_map.mpr ⟨p, hp, rfl⟩))))
  refine ⟨fun x d e => ?_, fun x f e => ?_, fun x b' e => ?_, fun x t e => ?_⟩
  · have m := lookup_mem' e
    have q := cg _ m
    have r := b1 _ m
    cases d with
    | fn f =>
      have r : (ds.map (·.name))[f]? = some x := by simpa using r
      refine ⟨_, .ref (He.ga K x), He.glo_ok X G q, rfl, fun W H => ?_⟩
      show V.ref (He.ga K x) = .ref (He.ga K ((ds.map (·.name)).getD f Str.empty))
      rw [List.getD_eq_getElem?_getD, r]; rfl
    | cl k =>
      have r : cls[k]? = some x := by simpa using r
      refine ⟨_, .ref (He.ga K x), He.glo_ok X G q, rfl, fun W H => ?_⟩
      show V.ref (He.ga K x) = .ref (He.ga K (cls.getD k Str.empty))
      rw [List.getD_eq_getElem?_getD, r]; rfl
    | int i =>
      obtain ⟨t, m1⟩ := He.int_ok X G q
      exact ⟨_, .int i, m1, ⟨t, rfl⟩, fun W H => rfl⟩
    | str z =>
      obtain ⟨t, m1⟩ := He.str_ok X G q
      have r : z.length ≤ SZ ∧ ∀ c ∈ z, c < 1114112 := by simpa using r
      exact ⟨_, .str (S' z), m1, ⟨t, rfl⟩, fun W H => ⟨rfl, r.1, r.2⟩⟩
    | _ => cases r
  · have m := lookup_mem' e
    have q := cg _ m
    have r := b1 _ m
    have r : (ds.map (·.name))[f]? = some x := by simpa using r
    rw [List.getElem?_map] at r
    cases z : ds[f]? with
    | none => rw [z] at r; cases r
    | some d =>
      rw [z] at r
      have en : d.name = x := Option.some.inj r
      refine ⟨d, rfl, (He.glo_ok X G q).trans ?_⟩
      show some (Value.ref (He.ga K x)) = some (.ref (He.ga K ((ds.map (·.name)).getD f Str.empty)))
      rw [List.getD_eq_getElem?_getD, List.getElem?_map, z]
      show _ = some (Value.ref (He.ga K d.name))
      rw [en]
  · have m := lookup_mem' e
    exact ⟨He.free_ok X G (cb _ m), b2 _ m⟩
  · have m := lookup_mem' e
    exact ⟨He.free_ok X G (ct _ m), b3 _ m⟩
theorem xsOk (c : ∀ f ∈ faOf g cls sub, f.ok K = true) (b : glB g ds cls = true) : XsOk g (parOf K ds cls) sub := by
  unfold glB at b
  simp only [Bool.and_eq_true, List.all_eq_true, decide_eq_true_eq] at b
  obtain ⟨⟨⟨⟨b1, b2⟩, b3⟩, b4⟩, b5⟩ := b
  refine ⟨fun i j hi hj => ?_, fun k hk => ?_, b5⟩
  · have q := c (.exm (cls.getD i Str.empty) (cls.getD j Str.empty) (sub i j)) (by
      unfold faOf
      exact List.mem_append_right _ (List.mem_flatMap.mpr ⟨i, List.mem_range.mpr hi, List.mem_map.mpr ⟨j, List.mem_range.mpr hj, rfl⟩⟩))
    exact He.exm_ok q
  · have q := c (.exc (cls.getD k Str.empty)) (by
      unfold faOf
      exact List.mem_append_left _ (List.mem_append_right _ (List.mem_map.mpr ⟨k, hk, rfl⟩)))
    obtain ⟨e1, e2, e3, e4⟩ := He.exc_ok q
    exact ⟨b4 k hk, e2, ⟨e3, e4⟩, _, _, _, _, PySem.F.excBase_ValueError, e1⟩
theorem says_all {fa : List He.Fa} {fn : List He.DefD} (c : He.SaysD fa fn K) : ∀ q ∈ fa, q.ok K = true := fun q hq => by
  obtain ⟨i, hi, e⟩ := List.mem_iff_getElem.mp hq
  exact He.SaysD.fact c i (by rw [List.getElem?_eq_getElem hi, e])
def CXe (P : Program) : CXT := fun outer H s E e s' => ∃ w, L2.CX P w outer H s E e s'
theorem cxe {P : Program} {w : World} {base : Heap} {k : Nat} {f : Addr} {fd : FuncData} {ps : List Str} {sp : Sp} (F : FnOk P w K mg base (L2.CX P w) k f fd ps sp) : FnOk P w K mg base (CXe P) k f fd ps sp :=
  ⟨F.len, fun A outer s H args us vs Q E hr e0 hb r hsp => codeAny_mono (F.run A outer s H args us vs Q E hr e0 hb r hsp) fun r s' hq => by
    cases r with
    | error e => exact ⟨w, hq⟩
    | ok fl => cases fl <;> exact hq⟩
theorem cxe0 (P : Program) : ∀ (H : Hp) (s : Shared) (e : Value) (s' : Shared), CXe P [] H s (fun _ _ _ => False) e s' → False := fun H s e s' ⟨_, _, _, _, _, _, _, _, _, _, _, _, _, h⟩ => h
theorem law_facts {Γ : List Fn} (hΓ : ds.map (·.fn) = Γ) {P : Program} {w : World} {f : Addr} {il n : Nat} {dl : Df} {x : Str} (X : K.In h) (G : h.Ns mainGlobals mg) (hfa : mg ("law" : Str) = some (.ref f)) (c : He.SaysD (faOf g cls sub) (fnsOf ds) K) (glb : glB g ds cls = true) (ck : ds.all (dfOk g) = true) (bn : Bnds ds) (hd : ds[il]? = some dl) (hg : g.gl.lookup ("law" : Str) = some (.fn il)) (hp : dl.ps = [x]) :
    ∃ fd : FuncData, (∀ (s : Shared) (v : Value), BindsTo s fd ⟨[v], []⟩ [(x, v)]) ∧ ∀ base : Heap, K.In base → base.Ns mainGlobals mg → FnOk P w K mg base (CXe P) n f fd [x] (spF (parOf K ds cls) (Ev.run sub Γ n) il) := by
  subst hΓ
  have cf := says_all c
  have fd : ∀ i d, ds[i]? = some d → ∃ fd, FnP K d ((parOf K ds cls).fa i) fd := fun i d hd => by
    have e : (fnsOf ds)[i]? = some ⟨(d.name, none), d.name, d.name, defArgs d.st, defBody d.st, defScope d.st, [], []⟩ := by
      show (ds.map _)[i]? = _
      rw [List.getElem?_map, hd]; rfl
    obtain ⟨fd, F⟩ := He.SaysD.def_ c i e
    have ea : (parOf K ds cls).fa i = He.ga K d.name := by
      show He.ga K ((ds.map (·.name)).getD i Str.empty) = _
      rw [List.getD_eq_getElem?_getD, List.getElem?_map, hd]; rfl
    rw [ea]
    exact ⟨fd, F⟩
  have mo := modOk X G cf glb
  obtain ⟨fdl, F⟩ := fd il dl hd
  obtain ⟨d2, h2, m2⟩ := mo.fn "law" il hg
  have e := hfa.symm.trans m2
  cases e
  have bl : Bnd dl := bn.get hd
  refine ⟨fdl, fun s v => ?_, fun base _ _ => ?_⟩
  · have q := F.bindsA (ps := dl.ps) bl s [v] (by rw [hp]; rfl)
    rw [hp] at q
    exact q
  · have q := defs_ok (prog := P) (w := w) (base := base) mo (xsOk cf glb) bn fd ck n il dl hd fdl F
    rw [hp] at q
    exact cxe q
end
end Ev
set_option Elab.async false
set_option linter.all false
set_option autoImplicit false
set_option maxRecDepth 100000
set_option maxHeartbeats 4000000
namespace Ev
theorem call_of {sub : Nat → Nat → Bool} {Γ : List Fn} {n f : Nat} {F : Fn} {ds : List D} {M : Sto} (h : Γ[f]? = some F) (hl : ds.length = F.np) : run sub Γ (n + 1) f ds M = (evSs (run sub Γ n) sub F.body (startE F ds) M).out := by
  show (match Γ[f]? with | none => R.bad | some F => if ds.length = F.np then (evSs (run sub Γ n) sub F.body (startE F ds) M).out else .bad) = _
  rw [h]
  exact if_pos hl
theorem sat_eq {α : Type} {r : R α} {P : α → Prop} (h : ∃ a, r = .ok a ∧ P a) : r.sat P fun _ _ => False := by
  obtain ⟨a, rfl, h⟩ := h
  exact h
theorem compL_pure {c : Call} {el : Env → Sto → R (D × Sto)} {t : Tg} {ρ : Env} {M : Sto} {f : D → D} : ∀ {ds : List D}, (∀ d ∈ ds, ∃ ρ', putT ρ t d = some ρ' ∧ el ρ' M = .ok (f d, M)) → compL (evCs c []) el t ds ρ M = .ok (ds.map f, M)
  | [], _ => rfl
  | d :: ds, h => by
    obtain ⟨ρ', h1, h2⟩ := h d List.mem_cons_self
    have ih := compL_pure (c := c) (ds := ds) fun e he => h e (List.mem_cons_of_mem _ he)
    unfold compL
    rw [h1]
    show (match el ρ' M with | .ok (y, M2) => (match compL (evCs c []) el t ds ρ M2 with | .ok (ys, M3) => R.ok (y :: ys, M3) | _ => .bad) | _ => .bad) = _
    rw [h2]
    show (match compL (evCs c []) el t ds ρ M with | .ok (ys, M3) => R.ok (f d :: ys, M3) | _ => .bad) = _
    rw [ih]
    rfl
theorem compL_st {c : Call} {el : Env → Sto → R (D × Sto)} {t : Tg} {ρ : Env} {I : Sto → Prop} {Q : D → Prop} : ∀ {ds : List D} {M : Sto}, I M → (∀ d ∈ ds, ∀ M, I M → ∃ ρ', putT ρ t d = some ρ' ∧ ∃ y M', el ρ' M = .ok (y, M') ∧ I M' ∧ Q y) → ∃ ys M', compL (evCs c []) el t ds ρ M = .ok (ys, M') ∧ I M' ∧ ys.length = ds.length ∧ ∀ y ∈ ys, Q y
  | [], M, hM, _ => ⟨[], M, rfl, hM, rfl, fun _ h => by cases h⟩
  | d :: ds, M, hM, h => by
    obtain ⟨ρ', h1, y, M1, h2, h3, h4⟩ := h d List.mem_cons_self M hM
    obtain ⟨ys, M2, e, h5, h6, h7⟩ := compL_st (c := c) (ds := ds) h3 fun e he => h e (List.mem_cons_of_mem _ he)
    refine ⟨y :: ys, M2, ?_, h5, by rw [List.length_cons, List.length_cons, h6], fun z hz => ?_⟩
    · unfold compL
      rw [h1]
      show (match el ρ' M with | .ok (y, M2) => (match compL (evCs c []) el t ds ρ M2 with | .ok (ys, M3) => R.ok (y :: ys, M3) | _ => .bad) | _ => .bad) = _
      rw [h2]
      show (match compL (evCs c []) el t ds ρ M1 with | .ok (ys, M3) => R.ok (y :: ys, M3) | _ => .bad) = _
      rw [e]
    · rcases List.mem_cons.mp hz with rfl | hz
      · exact h4
      · exact h7 z hz
theorem forL_st {body : Env → Sto → RS} {t : Tg} {I : Env → Sto → Prop} : ∀ {ds : List D} {ρ : Env} {M : Sto}, I ρ M → (∀ d ∈ ds, ∀ ρ M, I ρ M → ∃ ρ1, putT ρ t d = some ρ1 ∧ ∃ ρ2 M2, body ρ1 M = .ok .nx ρ2 M2 ∧ I ρ2 M2) → ∃ ρ' M', forL body t ds ρ M = .ok .nx ρ' M' ∧ I ρ' M'
  | [], ρ, M, h, _ => ⟨ρ, M, rfl, h⟩
  | d :: ds, ρ, M, h, hb => by
    obtain ⟨ρ1, h1, ρ2, M2, h2, h3⟩ := hb d List.mem_cons_self ρ M h
    obtain ⟨ρ', M', e, h4⟩ := forL_st (ds := ds) h3 fun e he => hb e (List.mem_cons_of_mem _ he)
    refine ⟨ρ', M', ?_, h4⟩
    rw [forL, h1]
    show (match body ρ1 M with | .ok .nx ρ2 M2 => forL body t ds ρ2 M2 | .ok .ct ρ2 M2 => forL body t ds ρ2 M2 | .ok .bk ρ2 M2 => .ok .nx ρ2 M2 | .ok (.rt d) ρ2 M2 => .ok (.rt d) ρ2 M2 | .exc e ρ2 M2 => .exc e ρ2 M2 | .bad => .bad) = _
    rw [h2]
    exact e
theorem boolsD_map (f : D → Bool) : ∀ ds : List D, boolsD (ds.map fun d => .bl (f d)) = some (ds.map f)
  | [] => rfl
  | d :: ds => by
    show (boolsD (ds.map fun d => .bl (f d))).map (f d :: ·) = _
    rw [boolsD_map f ds]; rfl
theorem strsD_map : ∀ xs : List (List Nat), strsD (xs.map D.str) = some xs
  | [] => rfl
  | x :: xs => by
    show (strsD (xs.map D.str)).map (x :: ·) = _
    rw [strsD_map xs]; rfl
theorem gluei_nil : ∀ xs : List (List Nat), gluei [] xs = xs.flatten
  | [] => rfl
  | [x] => by simp [gluei]
  | x :: y :: r => by
    show x ++ ([] ++ gluei [] (y :: r)) = _
    rw [gluei_nil (y :: r), List.nil_append]; rfl
theorem eqOk_ints (i j : Int) : eqOk (.int i) (.int j) = true := of_eq_true (eq_self _)
theorem cmp_eq_int (i j : Int) : cmpD .eq (.int i) (.int j) = some (i == j) := of_eq_true (eq_self _)
theorem cmp_ne_int (i j : Int) : cmpD .ne (.int i) (.int j) = some (!(i == j)) := of_eq_true (eq_self _)
theorem cmp_lt_int (i j : Int) : cmpD .lt (.int i) (.int j) = some (decide (i < j)) := of_eq_true (eq_self _)
theorem cmp_gt_int (i j : Int) : cmpD .gt (.int i) (.int j) = some (decide (j < i)) := of_eq_true (eq_self _)
theorem cmp_le_int (i j : Int) : cmpD .le (.int i) (.int j) = some (!decide (j < i)) := of_eq_true (eq_self _)
theorem cmp_ge_int (i j : Int) : cmpD .ge (.int i) (.int j) = some (!decide (i < j)) := of_eq_true (eq_self _)
theorem bin_add_int (i j : Int) : binD .add (.int i) (.int j) = some (.int (i + j)) := of_eq_true (eq_self _)
theorem bin_sub_int (i j : Int) : binD .sub (.int i) (.int j) = some (.int (i - j)) := of_eq_true (eq_self _)
theorem bin_mul_int {i j : Int} (h : mulOk i j = true) : binD .mul (.int i) (.int j) = some (.int (i * j)) := by
  show (if mulOk i j then some (D.int (i * j)) else none) = _
  rw [if_pos h]
theorem bin_fdiv_int {i j : Int} (h : divOk j = true) : binD .fdiv (.int i) (.int j) = some (.int (i / j)) := by
  show (if divOk j then some (D.int (i / j)) else none) = _
  rw [if_pos h]
theorem bin_mod_int {i j : Int} (h : 0 < j) : binD .mod (.int i) (.int j) = some (.int (i % j)) := by
  show (if decide (0 < j) then some (D.int (i % j)) else none) = _
  rw [if_pos (decide_eq_true h)]
theorem mulOk_r {i j : Int} (h : j.natAbs < 2 ^ 64) : mulOk i j = true := by
  unfold mulOk
  rw [decide_eq_true h, Bool.or_true, Bool.true_or]
theorem mulOk_l {i j : Int} (h : i.natAbs < 2 ^ 64) : mulOk i j = true := by
  unfold mulOk
  rw [decide_eq_true h, Bool.true_or, Bool.true_or]
theorem map1 {α β : Type} (f : α → β) (a : α) : List.map f [a] = [f a] := of_eq_true (eq_self _)
theorem map2 {α β : Type} (f : α → β) (a b : α) : List.map f [a, b] = [f a, f b] := of_eq_true (eq_self _)
theorem map3 {α β : Type} (f : α → β) (a b c : α) : List.map f [a, b, c] = [f a, f b, f c] := of_eq_true (eq_self _)
theorem r_bind_ok {α β : Type} (a : α) (f : α → R β) : (R.ok a).bind f = f a := of_eq_true (eq_self _)
theorem r_bind_exc {α β : Type} (e : Xc) (M : Sto) (f : α → R β) : (R.exc e M : R α).bind f = .exc e M := of_eq_true (eq_self _)
theorem r_of_some {α : Type} (a : α) : R.of (some a) = .ok a := of_eq_true (eq_self _)
theorem r_toS_ok {α : Type} (a : α) (ρ : Env) (f : α → RS) : (R.ok a).toS ρ f = f a := of_eq_true (eq_self _)
theorem r_toS_exc {α : Type} (e : Xc) (M : Sto) (ρ : Env) (f : α → RS) : (R.exc e M : R α).toS ρ f = .exc e ρ M := of_eq_true (eq_self _)
theorem rs_nx (ρ : Env) (M : Sto) (f : Env → Sto → RS) : (RS.ok .nx ρ M).then f = f ρ M := of_eq_true (eq_self _)
theorem rs_rt (d : D) (ρ : Env) (M : Sto) (f : Env → Sto → RS) : (RS.ok (.rt d) ρ M).then f = .ok (.rt d) ρ M := of_eq_true (eq_self _)
theorem rs_exc (e : Xc) (ρ : Env) (M : Sto) (f : Env → Sto → RS) : (RS.exc e ρ M).then f = .exc e ρ M := of_eq_true (eq_self _)
theorem out_rt (d : D) (ρ : Env) (M : Sto) : RS.out (.ok (.rt d) ρ M) = .ok (d, M) := of_eq_true (eq_self _)
theorem out_nx (ρ : Env) (M : Sto) : RS.out (.ok .nx ρ M) = .ok (.non, M) := of_eq_true (eq_self _)
theorem out_exc (e : Xc) (ρ : Env) (M : Sto) : RS.out (.exc e ρ M) = .exc e M := of_eq_true (eq_self _)
theorem nrm_int (M : Sto) (i : Int) : nrm M (.int i) = .int i := of_eq_true (eq_self _)
theorem nrm_bl (M : Sto) (i : Bool) : nrm M (.bl i) = .bl i := of_eq_true (eq_self _)
theorem nrm_non (M : Sto) : nrm M .non = .non := of_eq_true (eq_self _)
theorem nrm_str (M : Sto) (i : List Nat) : nrm M (.str i) = .str i := of_eq_true (eq_self _)
theorem nrm_lst (M : Sto) (i : List D) : nrm M (.lst i) = .lst i := of_eq_true (eq_self _)
theorem nrm_tup (M : Sto) (i : List D) : nrm M (.tup i) = .tup i := of_eq_true (eq_self _)
theorem nrm_scr (M : Sto) (i : List D) : nrm M (.scr i) = .scr i := of_eq_true (eq_self _)
theorem nrm_ty (M : Sto) (i : String) : nrm M (.ty i) = .ty i := of_eq_true (eq_self _)
theorem nrm_obj0 (d : D) (M : Sto) : nrm (.val d :: M) (.obj 0) = d := of_eq_true (eq_self _)
theorem nrm_dct (M : Sto) (i : List (D × D)) : nrm M (.dct i) = .dct i := of_eq_true (eq_self _)
theorem bi_int_int (i : Int) : biD .int [.int i] = some (.int i) := of_eq_true (eq_self _)
theorem bi_len_str (x : List Nat) : biD .len [.str x] = some (.int x.length) := of_eq_true (eq_self _)
theorem bi_len_tup (x : List D) : biD .len [.tup x] = some (.int x.length) := of_eq_true (eq_self _)
theorem bi_len_lst (x : List D) : biD .len [.lst x] = some (.int x.length) := of_eq_true (eq_self _)
theorem bi_tuple_lst (x : List D) : biD .tuple [.lst x] = some (.tup x) := of_eq_true (eq_self _)
theorem bi_tuple_tup (x : List D) : biD .tuple [.tup x] = some (.tup x) := of_eq_true (eq_self _)
theorem bi_list_lst (x : List D) : biD .list [.lst x] = some (.lst x) := of_eq_true (eq_self _)
theorem bi_max_int (i j : Int) : biD .max [.int i, .int j] = some (.int (if j > i then j else i)) := of_eq_true (eq_self _)
theorem bi_all (x : List D) : biD .all [.lst x] = (boolsD x).map fun bs => .bl (bs.all id) := of_eq_true (eq_self _)
theorem bi_range1 {j : Int} (h : okRange j = true) : biD .range [.int j] = some (.itr (intsFrom 0 1 j.toNat)) := by
  show (if okRange j then some (D.itr (intsFrom 0 1 j.toNat)) else none) = _
  rw [if_pos h]
theorem okRange_of {j : Int} (h : -1000000 ≤ j) (h2 : j ≤ 1000000) : okRange j = true := by
  unfold okRange
  rw [Bool.and_eq_true, decide_eq_true_eq, decide_eq_true_eq]
  omega
theorem isi_str (x : List Nat) : biD .isinst [.str x, .ty "str"] = some (.bl true) := of_eq_true (eq_self _)
theorem isi_tup_tup (x : List D) : biD .isinst [.tup x, .ty "tuple"] = some (.bl true) := of_eq_true (eq_self _)
theorem items_lst (x : List D) : itemsOf (.lst x) = some x := of_eq_true (eq_self _)
theorem items_tup (x : List D) : itemsOf (.tup x) = some x := of_eq_true (eq_self _)
theorem items_itr (x : List D) : itemsOf (.itr x) = some x := of_eq_true (eq_self _)
theorem items_str (x : List Nat) : itemsOf (.str x) = some (x.map fun c => .str [c]) := of_eq_true (eq_self _)
theorem putT_one (ρ : Env) (i : Nat) (d : D) : putT ρ (.one i) d = some (put ρ i d) := of_eq_true (eq_self _)
theorem ixN_nat {n i : Nat} (h : i < n) : ixN n (i : Int) = some i := by
  unfold ixN
  rw [if_pos (by omega), if_pos (by omega)]
  simp
theorem atI_nat {α : Type} {xs : List α} {i : Nat} (h : i < xs.length) : atI xs (i : Int) = some xs[i] := by
  unfold atI
  rw [ixN_nat h]
  simp [h]
theorem sub_lst {xs : List D} {i : Nat} (h : i < xs.length) : subD (.lst xs) (.int (i : Int)) = some xs[i] := atI_nat h
theorem sub_tup {xs : List D} {i : Nat} (h : i < xs.length) : subD (.tup xs) (.int (i : Int)) = some xs[i] := atI_nat h
theorem sub_str {xs : List Nat} {i : Nat} (h : i < xs.length) : subD (.str xs) (.int (i : Int)) = some (.str [xs[i]]) := by
  show (atI xs (i : Int)).map _ = _
  rw [atI_nat h]; rfl
theorem intsFrom_map (a k : Int) : ∀ m : Nat, intsFrom a k m = (List.range m).map fun (i : Nat) => D.int (a + (i : Int) * k)
  | 0 => rfl
  | m + 1 => by
    rw [intsFrom, intsFrom_map (a + k) k m, List.range_succ_eq_map, List.map_cons, List.map_map]
    congr 1
    · simp
    · refine List.map_congr_left fun i _ => ?_
      show D.int _ = D.int _
      congr 1
      show a + k + (i : Int) * k = a + ((i + 1 : Nat) : Int) * k
      rw [Int.natCast_add, Int.natCast_one, Int.add_mul, Int.one_mul]
      omega
theorem cut_nat {α : Type} (xs : List α) (a b : Nat) : cut xs (some (a : Int)) (some (b : Int)) = (xs.drop a).take (b - a) := by
  have e : ∀ n v : Nat, ∀ d, sIx n d (some (v : Int)) = min v n := fun n v d => by
    show (if (v : Int) < 0 then ((v : Int) + (n : Int)).toNat else min (v : Int).toNat n) = _
    rw [if_neg (by omega)]
    simp
  unfold cut
  rw [e, e]
  by_cases h : a ≤ xs.length
  · rw [Nat.min_eq_left h]
    by_cases h2 : b ≤ xs.length
    · rw [Nat.min_eq_left h2]
    · rw [Nat.min_eq_right (by omega), List.take_of_length_le (by rw [List.length_drop]; omega), List.take_of_length_le (by rw [List.length_drop]; omega)]
  · rw [Nat.min_eq_right (a := a) (b := xs.length) (by omega), List.drop_of_length_le (Nat.le_refl _), List.drop_of_length_le (by omega)]
    simp
section
set_option autoImplicit true
variable {c : Call} {sub : Nat → Nat → Bool} {ρ : Env} {M : Sto}
theorem ev_var : evE c (.var i) ρ M = R.of ((get ρ i).map fun d => (d, M)) := of_eq_true (eq_self _)
theorem ev_bor : evE c (.bor i) ρ M = R.of ((get ρ i).map fun d => (d, M)) := of_eq_true (eq_self _)
theorem ev_con : evE c (.con d) ρ M = .ok (d, M) := of_eq_true (eq_self _)
theorem ev_neg : evE c (.neg a) ρ M = ((evE c a ρ M).bind fun r => match r.1 with
    | .int i => .ok (.int (-i), r.2)
    | _ => .bad) := of_eq_true (eq_self _)
theorem ev_bin : evE c (.bin o a b) ρ M = (evE c a ρ M).bind fun r => (evE c b ρ r.2).bind fun q => R.of ((binD o (nrm q.2 r.1) (nrm q.2 q.1)).map fun d => (d, q.2)) := of_eq_true (eq_self _)
theorem ev_cmp : evE c (.cmp o a b) ρ M = (evE c a ρ M).bind fun r => (evE c b ρ r.2).bind fun q => R.of ((cmpD o (nrm q.2 r.1) (nrm q.2 q.1)).map fun d => (.bl d, q.2)) := of_eq_true (eq_self _)
theorem ev_chain : evE c (.chain o o' a b e) ρ M = ((evE c a ρ M).bind fun r => (evE c b ρ r.2).bind fun q => match cmpD o (nrm q.2 r.1) (nrm q.2 q.1) with
    | some true => (evE c e ρ q.2).bind fun p => R.of ((cmpD o' (nrm p.2 q.1) (nrm p.2 p.1)).map fun d => (.bl d, p.2))
    | some false => .ok (.bl false, q.2)
    | none => .bad) := of_eq_true (eq_self _)
theorem ev_and : evE c (.and a b) ρ M = ((evE c a ρ M).bind fun r => match r.1 with
    | .bl true => evE c b ρ r.2
    | .bl false => .ok (.bl false, r.2)
    | _ => .bad) := of_eq_true (eq_self _)
theorem ev_or : evE c (.or a b) ρ M = ((evE c a ρ M).bind fun r => match r.1 with
    | .bl true => .ok (.bl true, r.2)
    | .bl false => evE c b ρ r.2
    | _ => .bad) := of_eq_true (eq_self _)
theorem ev_not : evE c (.not a) ρ M = ((evE c a ρ M).bind fun r => match r.1 with
    | .bl x => .ok (.bl (!x), r.2)
    | _ => .bad) := of_eq_true (eq_self _)
theorem ev_ite : evE c (.ite x a b) ρ M = ((evE c x ρ M).bind fun r => match r.1 with
    | .bl true => evE c a ρ r.2
    | .bl false => evE c b ρ r.2
    | _ => .bad) := of_eq_true (eq_self _)
theorem ev_join : evE c (.join a b) ρ M = ((evE c a ρ M).bind fun r => match r.1 with
    | .str s => (evE c b ρ r.2).bind fun q => R.of ((meD .join (.str s) [nrm q.2 q.1]).map fun d => (d, q.2))
    | _ => .bad) := of_eq_true (eq_self _)
theorem ev_call : evE c (.call f as) ρ M = (evEs c as ρ M).bind fun r => c f r.1 r.2 := of_eq_true (eq_self _)
theorem ev_callv : evE c (.callv f as) ρ M = ((evE c f ρ M).bind fun q => (evEs c as ρ q.2).bind fun r => match q.1 with
    | .fn g => c g r.1 r.2
    | _ => .bad) := of_eq_true (eq_self _)
theorem ev_bi : evE c (.bi b as) ρ M = (evEs c as ρ M).bind fun r => R.of ((biD b (r.1.map (nrm r.2))).map fun d => (d, r.2)) := of_eq_true (eq_self _)
theorem ev_me : evE c (.me m a as) ρ M = (evE c a ρ M).bind fun q => (evEs c as ρ q.2).bind fun r => R.of ((meD m (nrm r.2 q.1) (match m with | .get => r.1 | _ => r.1.map (nrm r.2))).map fun d => (d, r.2)) := of_eq_true (eq_self _)
theorem ev_mu : evE c (.mu m a as) ρ M = (evE c a ρ M).bind fun q => (evEs c as ρ q.2).bind fun r => R.of (muM m q.1 r.1 r.2) := of_eq_true (eq_self _)
theorem ev_tup : evE c (.tup as) ρ M = (evEs c as ρ M).bind fun r => .ok (.tup r.1, r.2) := of_eq_true (eq_self _)
theorem ev_lst : evE c (.lst as) ρ M = (evEs c as ρ M).bind fun r => .ok (.lst r.1, r.2) := of_eq_true (eq_self _)
theorem ev_dct : evE c (.dct ks vs) ρ M = (evEs c ks ρ M).bind fun r => (evEs c vs ρ r.2).bind fun q => .ok (.dct ((r.1.zip q.1).foldl (fun acc p => keyPut acc p.1 p.2) []), q.2) := of_eq_true (eq_self _)
theorem ev_sub : evE c (.sub a i) ρ M = (evE c a ρ M).bind fun r => (evE c i ρ r.2).bind fun q => R.of ((subD (nrm q.2 r.1) q.1).map fun d => (d, q.2)) := of_eq_true (eq_self _)
theorem ev_slc : evE c (.slc a l h) ρ M = (evE c a ρ M).bind fun r => (evE c l ρ r.2).bind fun q => (R.of (bnd (isNon l) q.1)).bind fun lo => (evE c h ρ q.2).bind fun p => (R.of (bnd (isNon h) p.1)).bind fun hi => R.of ((slcD (nrm p.2 r.1) lo hi).map fun d => (d, p.2)) := of_eq_true (eq_self _)
theorem ev_comp : evE c (.comp e t it cs) ρ M = ((evE c it ρ M).bind fun r => match itemsOf r.1 with
    | some ds => if ds.length ≤ SZ then (compL (evCs c cs) (evE c e) t ds ρ r.2).bind fun q => .ok (.lst q.1, q.2) else .bad
    | none => .bad) := of_eq_true (eq_self _)
theorem ev_dcomp : evE c (.dcomp k v t it) ρ M = ((evE c it ρ M).bind fun r => match itemsOf r.1 with
    | some ds => (dcompL (evE c k) (evE c v) t ds ρ r.2 []).bind fun q => .ok (.dct q.1, q.2)
    | none => .bad) := of_eq_true (eq_self _)
theorem ev_dead : evE c (.dead) ρ M = .bad := of_eq_true (eq_self _)
theorem ev_alloc : evE c (.alloc a) ρ M = (evE c a ρ M).bind fun r => if isBox r.1 then .ok (.obj r.2.length, r.2 ++ [.val r.1]) else .bad := of_eq_true (eq_self _)
theorem evs_nil : evEs c [] ρ M = .ok ([], M) := of_eq_true (eq_self _)
theorem evs_cons : evEs c (e :: es) ρ M = (evE c e ρ M).bind fun r => (evEs c es ρ r.2).bind fun q => .ok (r.1 :: q.1, q.2) := of_eq_true (eq_self _)
theorem es_set : evS c sub (.set i e) ρ M = (evE c e ρ M).toS ρ fun r => .ok .nx (put ρ i r.1) r.2 := of_eq_true (eq_self _)
theorem es_own : evS c sub (.own i e) ρ M = (evE c e ρ M).toS ρ fun r => if isBox r.1 then .ok .nx (put ρ i r.1) r.2 else .bad := of_eq_true (eq_self _)
theorem es_unp : evS c sub (.unp is e) ρ M = ((evE c e ρ M).toS ρ fun r => match r.1 with
    | .tup ds => (match puts ρ is ds with
      | some ρ' => .ok .nx ρ' r.2
      | none => .bad)
    | _ => .bad) := of_eq_true (eq_self _)
theorem es_par : evS c sub (.par is es) ρ M = ((evEs c es ρ M).toS ρ fun r => match puts ρ is r.1 with
    | some ρ' => .ok .nx ρ' r.2
    | none => .bad) := of_eq_true (eq_self _)
theorem es_aug : evS c sub (.aug i o e) ρ M = (match get ρ i with
    | none => .bad
    | some d => (evE c e ρ M).toS ρ fun r => match binD o d (nrm r.2 r.1) with
      | some v => .ok .nx (put ρ i v) r.2
      | none => .bad) := of_eq_true (eq_self _)
theorem es_ex : evS c sub (.ex e) ρ M = (evE c e ρ M).toS ρ fun r => .ok .nx ρ r.2 := of_eq_true (eq_self _)
theorem es_omu : evS c sub (.omu m i as) ρ M = ((evEs c as ρ M).toS ρ fun r => match (get ρ i).bind fun d => muD m d (match m with | .extend => r.1.map (nrm r.2) | _ => r.1) with
    | some q => .ok .nx (put ρ i q.2) r.2
    | none => .bad) := of_eq_true (eq_self _)
theorem es_osm : evS c sub (.osm j m i as) ρ M = ((evEs c as ρ M).toS ρ fun r => match (get ρ i).bind fun d => muD m d r.1 with
    | some q => .ok .nx (put (put ρ i q.2) j q.1) r.2
    | none => .bad) := of_eq_true (eq_self _)
theorem es_ret : evS c sub (.ret e) ρ M = (evE c e ρ M).toS ρ fun r => .ok (.rt r.1) ρ r.2 := of_eq_true (eq_self _)
theorem es_reto : evS c sub (.reto i) ρ M = ((match get ρ i with
    | some d => .ok (.rt d) ρ M
    | none => .bad)) := of_eq_true (eq_self _)
theorem es_retn : evS c sub (.retn) ρ M = .ok (.rt .non) ρ M := of_eq_true (eq_self _)
theorem es_ite : evS c sub (.ite x a b) ρ M = ((evE c x ρ M).toS ρ fun r => match r.1 with
    | .bl true => evSs c sub a ρ r.2
    | .bl false => evSs c sub b ρ r.2
    | _ => .bad) := of_eq_true (eq_self _)
theorem es_whl : evS c sub (.whl x b) ρ M = whlN (evE c x) (evSs c sub b) WF ρ M := of_eq_true (eq_self _)
theorem es_for : evS c sub (.for t it b) ρ M = ((evE c it ρ M).toS ρ fun r => match itemsOf r.1 with
    | some ds => forL (evSs c sub b) t ds ρ r.2
    | none => .bad) := of_eq_true (eq_self _)
theorem es_brk : evS c sub (.brk) ρ M = .ok .bk ρ M := of_eq_true (eq_self _)
theorem es_cnt : evS c sub (.cnt) ρ M = .ok .ct ρ M := of_eq_true (eq_self _)
theorem es_pass : evS c sub (.pass) ρ M = .ok .nx ρ M := of_eq_true (eq_self _)
theorem es_raise : evS c sub (.raise k as) ρ M = (evEs c as ρ M).toS ρ fun r => .exc ⟨k, r.1⟩ ρ r.2 := of_eq_true (eq_self _)
theorem es_try : evS c sub (.try b k h k2 h2) ρ M = (match evSs c sub b ρ M with
    | .exc e ρ1 M1 => if sub e.cls k then evSs c sub h ρ1 M1 else (match k2 with
        | none => .exc e ρ1 M1
        | some j => if sub e.cls j then evSs c sub h2 ρ1 M1 else .exc e ρ1 M1)
    | r => r) := of_eq_true (eq_self _)
theorem es_sto : evS c sub (.sto o ix v) ρ M = ((evE c v ρ M).toS ρ fun r => (evE c o ρ r.2).toS ρ fun q => (evE c ix ρ q.2).toS ρ fun p => match muM .put q.1 [p.1, r.1] p.2 with
    | some z => .ok .nx ρ z.2
    | none => .bad) := of_eq_true (eq_self _)
theorem es_oput : evS c sub (.oput i ix v) ρ M = ((evE c v ρ M).toS ρ fun r => (evE c ix ρ r.2).toS ρ fun p => match (get ρ i).bind fun d => muD .put d [p.1, r.1] with
    | some z => .ok .nx (put ρ i z.2) p.2
    | none => .bad) := of_eq_true (eq_self _)
theorem es_dead : evS c sub (.dead) ρ M = .bad := of_eq_true (eq_self _)
theorem ess_nil : evSs c sub [] ρ M = .ok .nx ρ M := of_eq_true (eq_self _)
theorem ess_cons : evSs c sub (s :: ss) ρ M = (evS c sub s ρ M).then (evSs c sub ss) := of_eq_true (eq_self _)
end
theorem ev_comp_of {c : Call} {e it : E} {t : Tg} {cs : List E} {ρ : Env} {M M1 M2 : Sto} {d : D} {ds ys : List D} (h1 : evE c it ρ M = .ok (d, M1)) (h2 : itemsOf d = some ds) (h3 : ds.length ≤ SZ) (h4 : compL (evCs c cs) (evE c e) t ds ρ M1 = .ok (ys, M2)) :
    evE c (.comp e t it cs) ρ M = .ok (.lst ys, M2) := by
  rw [ev_comp, h1, R.bind_ok]
  show (match itemsOf d with | some ds => if ds.length ≤ SZ then (compL (evCs c cs) (evE c e) t ds ρ M1).bind fun q => R.ok (D.lst q.1, q.2) else R.bad | none => R.bad) = _
  rw [h2]
  show (if ds.length ≤ SZ then (compL (evCs c cs) (evE c e) t ds ρ M1).bind fun q => R.ok (D.lst q.1, q.2) else R.bad) = _
  rw [if_pos h3, h4]
  rfl
end Ev
set_option Elab.async false
set_option linter.all false
set_option autoImplicit false
set_option maxRecDepth 1000000
set_option maxHeartbeats 0
namespace K02
open PySem PySem.Spec PyProof.Rows L2 Ev
def top (i : Nat) : Stmt := PySem.Challenge.pw_homeshold_k02_whole_texts_chopped_and_jo.main.body.getD i (.Pass ⟨0, 0, 0, 0⟩)
def b_are_signs : List S := [
  .ret (.and (.bi .isinst [.var 0, .con (.ty "str")]) (.and (.chain .le .le (.var 1) (.bi .len [.var 0]) (.var 2)) (.bi .all [.comp (.chain .le .le (.con (.str [32])) (.var 3) (.con (.str [126]))) (.one 3) (.var 0) []])))]
def f_are_signs : Fn := ⟨3, 4, [], b_are_signs⟩
def d_are_signs : Df := ⟨"are_signs", top 8, ["thing", "least", "most", "sign"], ["thing", "least", "most"], f_are_signs⟩
def b_is_piece : List S := [
  .ret (.call 0 [.var 0, .con (.int 1), .con (.int 8)])]
def f_is_piece : Fn := ⟨1, 1, [], b_is_piece⟩
def d_is_piece : Df := ⟨"is_piece", top 9, ["thing"], ["thing"], f_is_piece⟩
def b_is_text : List S := [
  .ret (.call 0 [.var 0, .con (.int 0), .con (.int 96)])]
def f_is_text : Fn := ⟨1, 1, [], b_is_text⟩
def d_is_text : Df := ⟨"is_text", top 10, ["thing"], ["thing"], f_is_text⟩
def b_chopped : List S := [
  .ite (.not (.call 2 [.var 0])) [.raise 1 []] [],
  .ret (.bi .tuple [.comp (.slc (.var 0) (.var 1) (.bin .add (.var 1) (.con (.int 8)))) (.one 1) (.bi .range [.con (.int 0), .bi .len [.var 0], .con (.int 8)]) []])]
def f_chopped : Fn := ⟨1, 2, [], b_chopped⟩
def d_chopped : Df := ⟨"chopped", top 11, ["text", "at"], ["text"], f_chopped⟩
def b_joined : List S := [
  .ite (.or (.not (.bi .isinst [.var 0, .con (.ty "tuple")])) (.or (.cmp .gt (.bi .len [.var 0]) (.con (.int 12))) (.not (.bi .all [.comp (.call 1 [.var 1]) (.one 1) (.var 0) []])))) [.raise 2 []] [],
  .ret (.join (.con (.str [])) (.var 0))]
def f_joined : Fn := ⟨1, 2, [], b_joined⟩
def d_joined : Df := ⟨"joined", top 12, ["pieces", "one"], ["pieces"], f_joined⟩
def b__law_mixed : List S := [
  .set 0 (.bin .mod (.bi .int [.bin .add (.bin .mul (.var 0) (.con (.int 48271))) (.con (.int 11))]) (.con (.int 2147483647))),
  .set 0 (.bin .mod (.bi .int [.bin .add (.bin .mul (.var 0) (.bin .add (.bin .fdiv (.var 0) (.con (.int 1009))) (.con (.int 69621)))) (.con (.int 7919))]) (.con (.int 2147483647))),
  .ret (.bin .add (.bin .mul (.var 0) (.con (.int 2147483399))) (.bin .mod (.bi .int [.bin .add (.bin .mul (.var 0) (.bin .add (.bin .fdiv (.var 0) (.con (.int 2003))) (.con (.int 40692)))) (.con (.int 104729))]) (.con (.int 2147483399))))]
def f__law_mixed : Fn := ⟨1, 1, [], b__law_mixed⟩
def d__law_mixed : Df := ⟨"_law_mixed", top 14, ["_law_number_here"], ["_law_number_here"], f__law_mixed⟩
def b__law_well : List S := [
  .ret (.alloc (.lst [.comp (.bi .int [.var 1]) (.one 1) (.slc (.var 0) (.con .non) (.con (.int 63))) [], .con (.int 0), .con (.int 0), .con (.int 1)]))]
def f__law_well : Fn := ⟨1, 2, [], b__law_well⟩
def d__law_well : Df := ⟨"_law_well", top 15, ["_law_script", "_law_cell"], ["_law_script"], f__law_well⟩
def b__law_filled : List S := [
  .sto (.var 0) (.con (.int 1)) (.bin .add (.sub (.var 0) (.con (.int 1))) (.con (.int 1))),
  .ite (.cmp .le (.sub (.var 0) (.con (.int 1))) (.bi .len [.sub (.var 0) (.con (.int 0))])) [.set 1 (.sub (.sub (.var 0) (.con (.int 0))) (.bin .sub (.sub (.var 0) (.con (.int 1))) (.con (.int 1)))), .sto (.var 0) (.con (.int 3)) (.bin .mod (.bi .int [.bin .add (.bin .add (.bin .mul (.sub (.var 0) (.con (.int 3))) (.con (.int 69069))) (.var 1)) (.con (.int 1))]) (.con (.int 2147483629))), .ite (.cmp .ge (.var 1) (.bin .pow (.con (.int 10)) (.con (.int 18)))) [.ret (.var 1)] [], .ret (.call 5 [.bin .add (.var 1) (.bin .mul (.con (.int 7919)) (.sub (.var 0) (.con (.int 1))))])] [],
  .ret (.call 5 [.bin .add (.sub (.var 0) (.con (.int 3))) (.bin .mul (.con (.int 7919)) (.sub (.var 0) (.con (.int 1))))])]
def f__law_filled : Fn := ⟨1, 2, [], b__law_filled⟩
def d__law_filled : Df := ⟨"_law_filled", top 16, ["_law_well_here", "_law_cell"], ["_law_well_here"], f__law_filled⟩
def b__law_draw : List S := [
  .ite (.cmp .eq (.sub (.var 0) (.con (.int 2))) (.con (.int 0))) [.sto (.var 0) (.con (.int 2)) (.call 7 [.var 0])] [],
  .set 2 (.bin .mod (.bi .int [.sub (.var 0) (.con (.int 2))]) (.var 1)),
  .sto (.var 0) (.con (.int 2)) (.bin .fdiv (.bi .int [.sub (.var 0) (.con (.int 2))]) (.var 1)),
  .ret (.var 2)]
def f__law_draw : Fn := ⟨2, 3, [], b__law_draw⟩
def d__law_draw : Df := ⟨"_law_draw", top 17, ["_law_well_here", "_law_many", "_law_told"], ["_law_well_here", "_law_many"], f__law_draw⟩
def b__law_number : List S := [
  .set 1 (.call 8 [.var 0, .con (.int 4)]),
  .ite (.cmp .eq (.var 1) (.con (.int 3))) [.ret (.call 8 [.var 0, .bin .pow (.con (.int 10)) (.con (.int 11))])] [],
  .ret (.call 8 [.var 0, .sub (.lst [.con (.int 3), .con (.int 40), .bin .pow (.con (.int 10)) (.con (.int 9))]) (.var 1)])]
def f__law_number : Fn := ⟨1, 2, [], b__law_number⟩
def d__law_number : Df := ⟨"_law_number", top 18, ["_law_well_here", "_law_kind"], ["_law_well_here"], f__law_number⟩
def b__law_signs : List S := [
  .set 0 (.con (.str [32, 33, 34, 35, 36, 38, 39, 40, 41, 42, 43, 44, 45, 46, 47, 48, 49, 50, 51, 52, 53, 54, 55, 56, 57, 58, 59, 60, 61, 62, 63, 64, 65, 66, 67, 68, 69, 70, 71, 72, 73, 74, 75, 76, 77, 78, 79, 80, 81, 82, 83, 84, 85, 86, 87, 88, 89, 90, 91, 92, 93, 94, 95, 96])),
  .ret (.bin .add (.var 0) (.con (.str [97, 98, 99, 100, 101, 102, 103, 104, 105, 106, 107, 108, 109, 110, 111, 112, 113, 114, 115, 116, 117, 118, 119, 120, 121, 122, 123, 124, 125, 126])))]
def f__law_signs : Fn := ⟨0, 1, [], b__law_signs⟩
def d__law_signs : Df := ⟨"_law_signs", top 19, ["_law_signs_here"], [], f__law_signs⟩
def b__law_string : List S := [
  .set 2 (.call 10 []),
  .ret (.join (.con (.str [])) (.comp (.sub (.var 2) (.call 8 [.var 0, .con (.int 94)])) (.one 3) (.bi .range [.var 1]) []))]
def f__law_string : Fn := ⟨2, 4, [], b__law_string⟩
def d__law_string : Df := ⟨"_law_string", top 20, ["_law_well_here", "_law_many", "_law_signs_here", "_law_k"], ["_law_well_here", "_law_many"], f__law_string⟩
def b__law_pieces : List S := [
  .set 1 (.call 8 [.var 0, .con (.int 13)]),
  .set 2 (.cmp .eq (.call 8 [.var 0, .con (.int 4)]) (.con (.int 0))),
  .ite (.var 2) [.ret (.comp (.call 11 [.var 0, .con (.int 8)]) (.one 3) (.bi .range [.con (.int 12)]) [])] [],
  .ret (.comp (.call 11 [.var 0, .bin .add (.con (.int 1)) (.call 8 [.var 0, .con (.int 8)])]) (.one 3) (.bi .range [.var 1]) [])]
def f__law_pieces : Fn := ⟨1, 4, [], b__law_pieces⟩
def d__law_pieces : Df := ⟨"_law_pieces", top 21, ["_law_well_here", "_law_many", "_law_full", "_law_k"], ["_law_well_here"], f__law_pieces⟩
def b__law_spoilt_text : List S := [
  .set 2 (.call 8 [.var 1, .con (.int 2)]),
  .ite (.cmp .eq (.var 2) (.con (.int 0))) [.ret (.bin .add (.var 0) (.call 11 [.var 1, .bin .add (.bin .sub (.con (.int 97)) (.bi .len [.var 0])) (.call 8 [.var 1, .con (.int 34)])]))] [],
  .set 3 (.call 8 [.var 1, .bin .add (.bi .len [.var 0]) (.con (.int 1))]),
  .ret (.bin .add (.bin .add (.slc (.var 0) (.con .non) (.var 3)) (.con (.str [10]))) (.slc (.var 0) (.bin .add (.var 3) (.con (.int 1))) (.con .non)))]
def f__law_spoilt_text : Fn := ⟨2, 4, [], b__law_spoilt_text⟩
def d__law_spoilt_text : Df := ⟨"_law_spoilt_text", top 22, ["_law_text", "_law_well_here", "_law_kind", "_law_at"], ["_law_text", "_law_well_here"], f__law_spoilt_text⟩
def b__law_spoilt_pieces : List S := [
  .set 2 (.call 8 [.var 1, .con (.int 6)]),
  .set 3 (.call 8 [.var 1, .bi .max [.con (.int 1), .bi .len [.var 0]]]),
  .ite (.cmp .eq (.var 2) (.con (.int 0))) [.ret (.bi .list [.var 0])] [],
  .ite (.cmp .eq (.var 2) (.con (.int 1))) [.ret (.bi .tuple [.slc (.bin .add (.var 0) (.comp (.call 11 [.var 1, .con (.int 1)]) (.one 5) (.bi .range [.con (.int 13)]) [])) (.con .non) (.con (.int 13))])] [],
  .set 4 (.sub (.lst [.con (.str []), .call 11 [.var 1, .bin .add (.con (.int 9)) (.call 8 [.var 1, .con (.int 4)])], .con (.str [97, 10]), .con (.non)]) (.bin .sub (.var 2) (.con (.int 2)))),
  .ret (.bi .tuple [.bin .add (.bin .add (.slc (.var 0) (.con .non) (.var 3)) (.lst [.var 4])) (.slc (.var 0) (.bin .add (.var 3) (.con (.int 1))) (.con .non))])]
def f__law_spoilt_pieces : Fn := ⟨2, 6, [], b__law_spoilt_pieces⟩
def d__law_spoilt_pieces : Df := ⟨"_law_spoilt_pieces", top 23, ["_law_pieces_here", "_law_well_here", "_law_kind", "_law_at", "_law_bad", "_law_k"], ["_law_pieces_here", "_law_well_here"], f__law_spoilt_pieces⟩
def b__law_fits : List S := [
  .ite (.or (.not (.bi .isinst [.var 1, .con (.ty "tuple")])) (.cmp .ne (.bi .len [.var 1]) (.bin .fdiv (.bin .add (.bi .len [.var 0]) (.con (.int 7))) (.con (.int 8))))) [.ret (.con (.bl false))] [],
  .for (.one 2) (.bi .range [.bi .len [.var 1]]) [.ite (.or (.not (.bi .isinst [.sub (.var 1) (.var 2), .con (.ty "str")])) (.cmp .ne (.sub (.var 1) (.var 2)) (.slc (.var 0) (.bin .mul (.con (.int 8)) (.var 2)) (.bin .add (.bin .mul (.con (.int 8)) (.var 2)) (.con (.int 8)))))) [.ret (.con (.bl false))] []],
  .ret (.con (.bl true))]
def f__law_fits : Fn := ⟨2, 3, [], b__law_fits⟩
def d__law_fits : Df := ⟨"_law_fits", top 24, ["_law_text", "_law_pieces_here", "_law_k"], ["_law_text", "_law_pieces_here"], f__law_fits⟩
def b__law_is : List S := [
  .ret (.and (.bi .isinst [.var 0, .con (.ty "str")]) (.cmp .eq (.var 0) (.var 1)))]
def f__law_is : Fn := ⟨2, 2, [], b__law_is⟩
def d__law_is : Df := ⟨"_law_is", top 25, ["_law_told", "_law_due"], ["_law_told", "_law_due"], f__law_is⟩
def b__law_text_refused : List S := [
  .set 1 (.con (.bl false)),
  .try [.ex (.call 3 [.var 0])] 1 [.set 1 (.con (.bl true))] (some 0) [.set 1 (.con (.bl false))],
  .ret (.var 1)]
def f__law_text_refused : Fn := ⟨1, 2, [], b__law_text_refused⟩
def d__law_text_refused : Df := ⟨"_law_text_refused", top 26, ["_law_text", "_law_told"], ["_law_text"], f__law_text_refused⟩
def b__law_pieces_refused : List S := [
  .set 1 (.con (.bl false)),
  .try [.ex (.call 4 [.var 0])] 2 [.set 1 (.con (.bl true))] (some 0) [.set 1 (.con (.bl false))],
  .ret (.var 1)]
def f__law_pieces_refused : Fn := ⟨1, 2, [], b__law_pieces_refused⟩
def d__law_pieces_refused : Df := ⟨"_law_pieces_refused", top 27, ["_law_pieces_here", "_law_told"], ["_law_pieces_here"], f__law_pieces_refused⟩
def b_law : List S := [
  .set 1 (.call 6 [.var 0]),
  .for (.one 2) (.bi .range [.bin .add (.con (.int 1)) (.call 8 [.var 1, .con (.int 5)])]) [.set 3 (.call 11 [.var 1, .bin .mul (.con (.int 8)) (.call 8 [.var 1, .con (.int 7)])]), .set 4 (.call 11 [.var 1, .call 8 [.var 1, .con (.int 49)]]), .set 5 (.call 3 [.var 3]), .set 6 (.call 3 [.var 4]), .set 7 (.call 3 [.bin .add (.var 3) (.var 4)]), .ite (.or (.not (.call 15 [.var 3, .var 5])) (.or (.not (.call 15 [.var 4, .var 6])) (.not (.call 15 [.bin .add (.var 3) (.var 4), .var 7])))) [.ret (.con (.bl false))] [], .ite (.or (.cmp .ne (.bin .add (.var 5) (.var 6)) (.var 7)) (.not (.call 16 [.call 4 [.var 7], .bin .add (.var 3) (.var 4)]))) [.ret (.con (.bl false))] [], .ite (.not (.call 16 [.call 4 [.var 6], .var 4])) [.ret (.con (.bl false))] [], .set 8 (.call 12 [.var 1]), .set 9 (.call 4 [.bi .tuple [.var 8]]), .ite (.or (.not (.call 16 [.var 9, .join (.con (.str [])) (.var 8)])) (.cmp .isnt (.call 2 [.var 9]) (.con (.bl true)))) [.ret (.con (.bl false))] [], .ite (.not (.call 15 [.var 9, .call 3 [.var 9]])) [.ret (.con (.bl false))] [], .ite (.not (.call 17 [.call 13 [.bin .add (.var 3) (.var 4), .var 1]])) [.ret (.con (.bl false))] [], .ite (.not (.call 18 [.call 14 [.var 8, .var 1]])) [.ret (.con (.bl false))] []],
  .ret (.con (.bl true))]
def f_law : Fn := ⟨1, 10, [], b_law⟩
def d_law : Df := ⟨"law", top 28, ["_law_script", "_law_well_here", "_law_turn", "_law_head", "_law_tail", "_law_first", "_law_second", "_law_whole", "_law_pieces_here", "_law_told"], ["_law_script"], f_law⟩
def ds : List Df := [d_are_signs, d_is_piece, d_is_text, d_chopped, d_joined, d__law_mixed, d__law_well, d__law_filled, d__law_draw, d__law_number, d__law_signs, d__law_string, d__law_pieces, d__law_spoilt_text, d__law_spoilt_pieces, d__law_fits, d__law_is, d__law_text_refused, d__law_pieces_refused, d_law]
def Γ : List Fn := [f_are_signs, f_is_piece, f_is_text, f_chopped, f_joined, f__law_mixed, f__law_well, f__law_filled, f__law_draw, f__law_number, f__law_signs, f__law_string, f__law_pieces, f__law_spoilt_text, f__law_spoilt_pieces, f__law_fits, f__law_is, f__law_text_refused, f__law_pieces_refused, f_law]
theorem Γ_eq : ds.map (·.fn) = Γ := rfl
def cls : List Str := ["HomeError", "NoText", "NoPieces"]
def subT : List (List Bool) := [[true, false, false], [true, true, false], [true, false, true]]
def sub (i j : Nat) : Bool := (subT.getD i []).getD j false
def g : Cfg := ⟨[("HomeError", .cl 0), ("NoText", .cl 1), ("NoPieces", .cl 2), ("MOST_IN_PIECE", .int 8), ("MOST_IN_TEXT", .int 96), ("MOST_IN_ROW", .int 12), ("are_signs", .fn 0), ("is_piece", .fn 1), ("is_text", .fn 2), ("chopped", .fn 3), ("joined", .fn 4), ("_law_mixed", .fn 5), ("_law_well", .fn 6), ("_law_filled", .fn 7), ("_law_draw", .fn 8), ("_law_number", .fn 9), ("_law_signs", .fn 10), ("_law_string", .fn 11), ("_law_pieces", .fn 12), ("_law_spoilt_text", .fn 13), ("_law_spoilt_pieces", .fn 14), ("_law_fits", .fn 15), ("_law_is", .fn 16), ("_law_text_refused", .fn 17), ("_law_pieces_refused", .fn 18), ("law", .fn 19)],
  [("all", .all), ("int", .int), ("isinstance", .isinst), ("len", .len), ("list", .list), ("max", .max), ("range", .range), ("tuple", .tuple)], [("str", "str"), ("tuple", "tuple")], [1, 2], 3⟩
theorem bnd3_are_signs : Bnd d_are_signs := fun _ _ _ _ _ _ us hl => match us, hl with | [_, _, _], _ => rfl
theorem bnd1_is_piece : Bnd d_is_piece := fun _ _ _ _ _ _ us hl => match us, hl with | [_], _ => rfl
theorem bnd1_is_text : Bnd d_is_text := fun _ _ _ _ _ _ us hl => match us, hl with | [_], _ => rfl
theorem bnd1_chopped : Bnd d_chopped := fun _ _ _ _ _ _ us hl => match us, hl with | [_], _ => rfl
theorem bnd1_joined : Bnd d_joined := fun _ _ _ _ _ _ us hl => match us, hl with | [_], _ => rfl
theorem bnd1__law_mixed : Bnd d__law_mixed := fun _ _ _ _ _ _ us hl => match us, hl with | [_], _ => rfl
theorem bnd1__law_well : Bnd d__law_well := fun _ _ _ _ _ _ us hl => match us, hl with | [_], _ => rfl
theorem bnd1__law_filled : Bnd d__law_filled := fun _ _ _ _ _ _ us hl => match us, hl with | [_], _ => rfl
theorem bnd2__law_draw : Bnd d__law_draw := fun _ _ _ _ _ _ us hl => match us, hl with | [_, _], _ => rfl
theorem bnd1__law_number : Bnd d__law_number := fun _ _ _ _ _ _ us hl => match us, hl with | [_], _ => rfl
theorem bnd0__law_signs : Bnd d__law_signs := fun _ _ _ _ _ _ us hl => match us, hl with | [], _ => rfl
theorem bnd2__law_string : Bnd d__law_string := fun _ _ _ _ _ _ us hl => match us, hl with | [_, _], _ => rfl
theorem bnd1__law_pieces : Bnd d__law_pieces := fun _ _ _ _ _ _ us hl => match us, hl with | [_], _ => rfl
theorem bnd2__law_spoilt_text : Bnd d__law_spoilt_text := fun _ _ _ _ _ _ us hl => match us, hl with | [_, _], _ => rfl
theorem bnd2__law_spoilt_pieces : Bnd d__law_spoilt_pieces := fun _ _ _ _ _ _ us hl => match us, hl with | [_, _], _ => rfl
theorem bnd2__law_fits : Bnd d__law_fits := fun _ _ _ _ _ _ us hl => match us, hl with | [_, _], _ => rfl
theorem bnd2__law_is : Bnd d__law_is := fun _ _ _ _ _ _ us hl => match us, hl with | [_, _], _ => rfl
theorem bnd1__law_text_refused : Bnd d__law_text_refused := fun _ _ _ _ _ _ us hl => match us, hl with | [_], _ => rfl
theorem bnd1__law_pieces_refused : Bnd d__law_pieces_refused := fun _ _ _ _ _ _ us hl => match us, hl with | [_], _ => rfl
theorem bnd1_law : Bnd d_law := fun _ _ _ _ _ _ us hl => match us, hl with | [_], _ => rfl
theorem bnds : Bnds ds := ⟨bnd3_are_signs, bnd1_is_piece, bnd1_is_text, bnd1_chopped, bnd1_joined, bnd1__law_mixed, bnd1__law_well, bnd1__law_filled, bnd2__law_draw, bnd1__law_number, bnd0__law_signs, bnd2__law_string, bnd1__law_pieces, bnd2__law_spoilt_text, bnd2__law_spoilt_pieces, bnd2__law_fits, bnd2__law_is, bnd1__law_text_refused, bnd1__law_pieces_refused, bnd1_law, trivial⟩
theorem ck : ds.all (dfOk g) = true := by kernel_rfl
theorem glb : glB g ds cls = true := by kernel_rfl
abbrev R : PySem.W.OpenRow := PySem.W.OpenLaw.row PySem.Challenge.rw_homeshold_k02_whole_texts_chopped_and_jo
abbrev fa : List He.Fa := faOf g cls sub
abbrev fn : List He.DefD := fnsOf ds
abbrev hk : PySem.W.Hook := He.hookD 4 fa fn
def ob (s : PySem.W.SharedT) : He.AlD := He.obsDG 4 fa fn (HandSHeadRun.getT s)
theorem ob_eq (s : PySem.W.SharedT) : ob s = hk.obs s.abs := He.obsDG_eq (HandSHeadRun.getT_eq s)
def loose : List Str := ["HomeError", "NoText", "NoPieces", "MOST_IN_PIECE", "MOST_IN_TEXT", "MOST_IN_ROW", "are_signs", "is_piece", "is_text", "chopped", "joined", "_law_mixed", "_law_well", "_law_filled", "_law_draw", "_law_number", "_law_signs", "_law_string", "_law_pieces", "_law_spoilt_text", "_law_spoilt_pieces", "_law_fits", "_law_is", "_law_text_refused", "_law_pieces_refused"]
theorem run0 : True := trivial
theorem small (n : Nat) : Γ.length = 20 := rfl
end K02
set_option Elab.async false
set_option linter.all false
set_option autoImplicit false
set_option maxRecDepth 1000000
set_option maxHeartbeats 0
namespace K02
open PySem PySem.Spec PyProof.Rows L2 Ev
theorem run (w : World) : HandSHeadRun.RunEq R (PySem.W.view R.prog [28]) hk ob 6000 loose w := by
  intro os
  kernel_rfl
end K02
set_option Elab.async false
set_option linter.all false
set_option autoImplicit false
set_option maxRecDepth 1000000
set_option maxHeartbeats 4000000
namespace K02
open Ev
theorem mod_lt {i m : Int} (h : 0 < m) : 0 ≤ i % m ∧ i % m < m := ⟨Int.emod_nonneg _ (by omega), Int.emod_lt_of_pos _ h⟩
section
variable {x0 x1 x2 x3 v : D}
theorem w_sub0 : subD (.lst [x0, x1, x2, x3]) (.int 0) = some x0 := of_eq_true (eq_self _)
theorem w_sub1 : subD (.lst [x0, x1, x2, x3]) (.int 1) = some x1 := of_eq_true (eq_self _)
theorem w_sub2 : subD (.lst [x0, x1, x2, x3]) (.int 2) = some x2 := of_eq_true (eq_self _)
theorem w_sub3 : subD (.lst [x0, x1, x2, x3]) (.int 3) = some x3 := of_eq_true (eq_self _)
theorem w_put1 : muM .put (.obj 0) [.int 1, v] [.val (.lst [x0, x1, x2, x3])] = some (.non, [.val (.lst [x0, v, x2, x3])]) := of_eq_true (eq_self _)
theorem w_put2 : muM .put (.obj 0) [.int 2, v] [.val (.lst [x0, x1, x2, x3])] = some (.non, [.val (.lst [x0, x1, v, x3])]) := of_eq_true (eq_self _)
theorem w_put3 : muM .put (.obj 0) [.int 3, v] [.val (.lst [x0, x1, x2, x3])] = some (.non, [.val (.lst [x0, x1, x2, v])]) := of_eq_true (eq_self _)
end
theorem mixed_sp (n : Nat) (i : Int) (M : Sto) : ∃ j, Ev.run sub Γ (n + 1) 5 [.int i] M = .ok (.int j, M) := by
  rw [call_of (F := f__law_mixed) rfl rfl]
  have e1 : mulOk i 48271 = true := mulOk_r (by decide)
  obtain ⟨b1, b2⟩ := mod_lt (i := i * 48271 + 11) (m := 2147483647) (by decide)
  generalize hj : (i * 48271 + 11) % 2147483647 = j at b1 b2
  have e2 : mulOk j (j / 1009 + 69621) = true := mulOk_l (by omega)
  obtain ⟨b3, b4⟩ := mod_lt (i := j * (j / 1009 + 69621) + 7919) (m := 2147483647) (by decide)
  generalize hk : (j * (j / 1009 + 69621) + 7919) % 2147483647 = k at b3 b4
  have e3 : mulOk k (k / 2003 + 40692) = true := mulOk_l (by omega)
  have e4 : mulOk k 2147483399 = true := mulOk_l (by omega)
  have d1 : divOk 1009 = true := by decide
  have d2 : divOk 2003 = true := by decide
  simp only [f__law_mixed, b__law_mixed, startE, ev_var, ev_bor, ev_con, ev_neg, ev_bin, ev_cmp, ev_chain, ev_and, ev_or, ev_not, ev_ite, ev_join, ev_call, ev_bi, ev_tup, ev_lst, ev_sub, ev_slc, ev_alloc, evs_nil, evs_cons, es_set, es_own, es_unp, es_ex, es_ret, es_reto, es_retn, es_ite, es_whl, es_for, es_brk, es_cnt, es_pass, es_raise, es_try, es_sto, es_oput, ess_nil, ess_cons, Ev.get, Ev.put, map1, map2, map3, List.length_cons, List.length_nil, List.replicate, List.cons_append, List.nil_append, List.getElem?_cons_zero, List.getElem?_cons_succ, List.set_cons_zero, List.set_cons_succ, Option.bind_some, id, Option.map_some, r_bind_ok, r_of_some, r_toS_ok, rs_nx, rs_rt, rs_exc, r_bind_exc, r_toS_exc, out_rt, out_nx, out_exc, nrm_int, nrm_bl, nrm_non, nrm_str, nrm_lst, nrm_tup, nrm_scr, nrm_ty, nrm_obj0, bin_mul_int, bin_add_int, bin_sub_int, bin_mod_int, bin_fdiv_int, bi_int_int, Nat.sub_self, w_sub0, w_sub1, w_sub2, w_sub3, w_put1, w_put2, w_put3, cmp_eq_int, cmp_ne_int, cmp_lt_int, cmp_gt_int, cmp_le_int, cmp_ge_int, bi_len_str, bi_len_tup, bi_len_lst, bi_tuple_lst, bi_list_lst, bi_max_int, items_lst, items_tup, items_itr, items_str, putT_one, e1, hj, e2, hk, e3, e4, d1, d2, show (0 : Int) < 2147483647 by decide, show (0 : Int) < 2147483399 by decide]
  exact ⟨_, rfl⟩
def WellM (M : Sto) : Prop := ∃ (cs : List Int) (a b s : Int), M = [.val (.lst [.lst (cs.map D.int), .int a, .int b, .int s])] ∧ 0 ≤ a
theorem pow18 : binD .pow (.int 10) (.int 18) = some (.int (10 ^ 18)) := by
  show (if powOk 10 18 then some (D.int (10 ^ (18 : Int).toNat)) else none) = _
  rw [if_pos (by decide)]
  rfl
theorem filled_sp (n : Nat) (M : Sto) (h : WellM M) : ∃ j M', Ev.run sub Γ (n + 2) 7 [.obj 0] M = .ok (.int j, M') ∧ WellM M' := by
  obtain ⟨cs, a, b, s, rfl, ha⟩ := h
  rw [call_of (F := f__law_filled) rfl rfl]
  have e1 : mulOk s 69069 = true := mulOk_r (by decide)
  have e2 : mulOk 7919 (a + 1) = true := mulOk_l (by decide)
  have p1 : (0 : Int) < 2147483629 := by decide
  by_cases h1 : (cs.length : Int) < a + 1
  · obtain ⟨j, hj⟩ := mixed_sp n (s + 7919 * (a + 1)) [.val (.lst [.lst (cs.map D.int), .int (a + 1), .int b, .int s])]
    refine ⟨j, [.val (.lst [.lst (cs.map D.int), .int (a + 1), .int b, .int s])], ?_, cs, a + 1, b, s, rfl, by omega⟩
    simp only [f__law_filled, b__law_filled, startE, ev_var, ev_bor, ev_con, ev_neg, ev_bin, ev_cmp, ev_chain, ev_and, ev_or, ev_not, ev_ite, ev_join, ev_call, ev_bi, ev_tup, ev_lst, ev_sub, ev_slc, ev_alloc, evs_nil, evs_cons, es_set, es_own, es_unp, es_ex, es_ret, es_reto, es_retn, es_ite, es_whl, es_for, es_brk, es_cnt, es_pass, es_raise, es_try, es_sto, es_oput, ess_nil, ess_cons, Ev.get, Ev.put, map1, map2, map3, List.length_cons, List.length_nil, List.replicate, List.cons_append, List.nil_append, List.getElem?_cons_zero, List.getElem?_cons_succ, List.set_cons_zero, List.set_cons_succ, Option.bind_some, id, Option.map_some, r_bind_ok, r_of_some, r_toS_ok, rs_nx, rs_rt, rs_exc, r_bind_exc, r_toS_exc, out_rt, out_nx, out_exc, nrm_int, nrm_bl, nrm_non, nrm_str, nrm_lst, nrm_tup, nrm_scr, nrm_ty, nrm_obj0, bin_mul_int, bin_add_int, bin_sub_int, bin_mod_int, bin_fdiv_int, bi_int_int, Nat.sub_self, w_sub0, w_sub1, w_sub2, w_sub3, w_put1, w_put2, w_put3, cmp_eq_int, cmp_ne_int, cmp_lt_int, cmp_gt_int, cmp_le_int, cmp_ge_int, bi_len_str, bi_len_tup, bi_len_lst, bi_tuple_lst, bi_list_lst, bi_max_int, items_lst, items_tup, items_itr, items_str, putT_one, List.length_map, decide_eq_true h1, Bool.not_true, e2, hj]
  · have hi : a.toNat < cs.length := by omega
    have e3 : subD (.lst (cs.map D.int)) (.int (a + 1 - 1)) = some (.int cs[a.toNat]) := by
      have ea : a + 1 - 1 = ((a.toNat : Nat) : Int) := by omega
      rw [ea, sub_lst (by rw [List.length_map]; exact hi), List.getElem_map]
    generalize cs[a.toNat] = x at e3
    by_cases h2 : x < 10 ^ 18
    · obtain ⟨j, hj⟩ := mixed_sp n (x + 7919 * (a + 1)) [.val (.lst [.lst (cs.map D.int), .int (a + 1), .int b, .int ((s * 69069 + x + 1) % 2147483629)])]
      refine ⟨j, [.val (.lst [.lst (cs.map D.int), .int (a + 1), .int b, .int ((s * 69069 + x + 1) % 2147483629)])], ?_, cs, a + 1, b, _, rfl, by omega⟩
      simp only [f__law_filled, b__law_filled, startE, ev_var, ev_bor, ev_con, ev_neg, ev_bin, ev_cmp, ev_chain, ev_and, ev_or, ev_not, ev_ite, ev_join, ev_call, ev_bi, ev_tup, ev_lst, ev_sub, ev_slc, ev_alloc, evs_nil, evs_cons, es_set, es_own, es_unp, es_ex, es_ret, es_reto, es_retn, es_ite, es_whl, es_for, es_brk, es_cnt, es_pass, es_raise, es_try, es_sto, es_oput, ess_nil, ess_cons, Ev.get, Ev.put, map1, map2, map3, List.length_cons, List.length_nil, List.replicate, List.cons_append, List.nil_append, List.getElem?_cons_zero, List.getElem?_cons_succ, List.set_cons_zero, List.set_cons_succ, Option.bind_some, id, Option.map_some, r_bind_ok, r_of_some, r_toS_ok, rs_nx, rs_rt, rs_exc, r_bind_exc, r_toS_exc, out_rt, out_nx, out_exc, nrm_int, nrm_bl, nrm_non, nrm_str, nrm_lst, nrm_tup, nrm_scr, nrm_ty, nrm_obj0, bin_mul_int, bin_add_int, bin_sub_int, bin_mod_int, bin_fdiv_int, bi_int_int, Nat.sub_self, w_sub0, w_sub1, w_sub2, w_sub3, w_put1, w_put2, w_put3, cmp_eq_int, cmp_ne_int, cmp_lt_int, cmp_gt_int, cmp_le_int, cmp_ge_int, bi_len_str, bi_len_tup, bi_len_lst, bi_tuple_lst, bi_list_lst, bi_max_int, items_lst, items_tup, items_itr, items_str, putT_one, List.length_map, decide_eq_false h1, Bool.not_false, e1, e2, e3, p1, pow18, decide_eq_true h2, Bool.not_true, hj]
    · refine ⟨x, [.val (.lst [.lst (cs.map D.int), .int (a + 1), .int b, .int ((s * 69069 + x + 1) % 2147483629)])], ?_, cs, a + 1, b, _, rfl, by omega⟩
      simp only [f__law_filled, b__law_filled, startE, ev_var, ev_bor, ev_con, ev_neg, ev_bin, ev_cmp, ev_chain, ev_and, ev_or, ev_not, ev_ite, ev_join, ev_call, ev_bi, ev_tup, ev_lst, ev_sub, ev_slc, ev_alloc, evs_nil, evs_cons, es_set, es_own, es_unp, es_ex, es_ret, es_reto, es_retn, es_ite, es_whl, es_for, es_brk, es_cnt, es_pass, es_raise, es_try, es_sto, es_oput, ess_nil, ess_cons, Ev.get, Ev.put, map1, map2, map3, List.length_cons, List.length_nil, List.replicate, List.cons_append, List.nil_append, List.getElem?_cons_zero, List.getElem?_cons_succ, List.set_cons_zero, List.set_cons_succ, Option.bind_some, id, Option.map_some, r_bind_ok, r_of_some, r_toS_ok, rs_nx, rs_rt, rs_exc, r_bind_exc, r_toS_exc, out_rt, out_nx, out_exc, nrm_int, nrm_bl, nrm_non, nrm_str, nrm_lst, nrm_tup, nrm_scr, nrm_ty, nrm_obj0, bin_mul_int, bin_add_int, bin_sub_int, bin_mod_int, bin_fdiv_int, bi_int_int, Nat.sub_self, w_sub0, w_sub1, w_sub2, w_sub3, w_put1, w_put2, w_put3, cmp_eq_int, cmp_ne_int, cmp_lt_int, cmp_gt_int, cmp_le_int, cmp_ge_int, bi_len_str, bi_len_tup, bi_len_lst, bi_tuple_lst, bi_list_lst, bi_max_int, items_lst, items_tup, items_itr, items_str, putT_one, List.length_map, decide_eq_false h1, Bool.not_false, e1, e2, e3, p1, pow18, decide_eq_false h2]
theorem draw_sp (n : Nat) (M : Sto) (m : Int) (h : WellM M) (h1 : 0 < m) (h2 : m < 2 ^ 64) : ∃ j M', Ev.run sub Γ (n + 3) 8 [.obj 0, .int m] M = .ok (.int j, M') ∧ WellM M' ∧ 0 ≤ j ∧ j < m := by
  have dm : divOk m = true := by
    unfold divOk
    rw [decide_eq_true h1, Bool.true_and, decide_eq_true_eq]
    have : m.natAbs < 2 ^ 9000 := Nat.lt_of_lt_of_le (show m.natAbs < 2 ^ 64 by omega) (Nat.pow_le_pow_right (by decide) (by decide))
    by_cases z : m.natAbs = 0
    · omega
    · exact (Nat.log2_lt z).mpr this
  rw [call_of (F := f__law_draw) rfl rfl]
  by_cases hb : ∃ (cs : List Int) (a s : Int), M = [.val (.lst [.lst (cs.map D.int), .int a, .int 0, .int s])] ∧ 0 ≤ a
  · obtain ⟨cs, a, s, rfl, ha⟩ := hb
    obtain ⟨j, M', hj, cs', a', b', s', rfl, ha'⟩ := filled_sp n [.val (.lst [.lst (cs.map D.int), .int a, .int 0, .int s])] ⟨cs, a, 0, s, rfl, ha⟩
    refine ⟨j % m, [.val (.lst [.lst (cs'.map D.int), .int a', .int (j / m), .int s'])], ?_, ⟨cs', a', _, s', rfl, ha'⟩, (mod_lt h1).1, (mod_lt h1).2⟩
    simp only [f__law_draw, b__law_draw, startE, ev_var, ev_bor, ev_con, ev_neg, ev_bin, ev_cmp, ev_chain, ev_and, ev_or, ev_not, ev_ite, ev_join, ev_call, ev_bi, ev_tup, ev_lst, ev_sub, ev_slc, ev_alloc, evs_nil, evs_cons, es_set, es_own, es_unp, es_ex, es_ret, es_reto, es_retn, es_ite, es_whl, es_for, es_brk, es_cnt, es_pass, es_raise, es_try, es_sto, es_oput, ess_nil, ess_cons, Ev.get, Ev.put, map1, map2, map3, List.length_cons, List.length_nil, List.replicate, List.cons_append, List.nil_append, List.getElem?_cons_zero, List.getElem?_cons_succ, List.set_cons_zero, List.set_cons_succ, Option.bind_some, id, Option.map_some, r_bind_ok, r_of_some, r_toS_ok, rs_nx, rs_rt, rs_exc, r_bind_exc, r_toS_exc, out_rt, out_nx, out_exc, nrm_int, nrm_bl, nrm_non, nrm_str, nrm_lst, nrm_tup, nrm_scr, nrm_ty, nrm_obj0, bin_mul_int, bin_add_int, bin_sub_int, bin_mod_int, bin_fdiv_int, bi_int_int, Nat.sub_self, w_sub0, w_sub1, w_sub2, w_sub3, w_put1, w_put2, w_put3, cmp_eq_int, cmp_ne_int, cmp_lt_int, cmp_gt_int, cmp_le_int, cmp_ge_int, bi_len_str, bi_len_tup, bi_len_lst, bi_tuple_lst, bi_list_lst, bi_max_int, items_lst, items_tup, items_itr, items_str, putT_one, beq_self_eq_true, hj, h1, dm]
  · obtain ⟨cs, a, b, s, rfl, ha⟩ := h
    have nb : (b == 0) = false := by
      rw [beq_eq_false_iff_ne]
      intro z
      subst z
      exact hb ⟨cs, a, s, rfl, ha⟩
    refine ⟨b % m, [.val (.lst [.lst (cs.map D.int), .int a, .int (b / m), .int s])], ?_, ⟨cs, a, _, s, rfl, ha⟩, (mod_lt h1).1, (mod_lt h1).2⟩
    simp only [f__law_draw, b__law_draw, startE, ev_var, ev_bor, ev_con, ev_neg, ev_bin, ev_cmp, ev_chain, ev_and, ev_or, ev_not, ev_ite, ev_join, ev_call, ev_bi, ev_tup, ev_lst, ev_sub, ev_slc, ev_alloc, evs_nil, evs_cons, es_set, es_own, es_unp, es_ex, es_ret, es_reto, es_retn, es_ite, es_whl, es_for, es_brk, es_cnt, es_pass, es_raise, es_try, es_sto, es_oput, ess_nil, ess_cons, Ev.get, Ev.put, map1, map2, map3, List.length_cons, List.length_nil, List.replicate, List.cons_append, List.nil_append, List.getElem?_cons_zero, List.getElem?_cons_succ, List.set_cons_zero, List.set_cons_succ, Option.bind_some, id, Option.map_some, r_bind_ok, r_of_some, r_toS_ok, rs_nx, rs_rt, rs_exc, r_bind_exc, r_toS_exc, out_rt, out_nx, out_exc, nrm_int, nrm_bl, nrm_non, nrm_str, nrm_lst, nrm_tup, nrm_scr, nrm_ty, nrm_obj0, bin_mul_int, bin_add_int, bin_sub_int, bin_mod_int, bin_fdiv_int, bi_int_int, Nat.sub_self, w_sub0, w_sub1, w_sub2, w_sub3, w_put1, w_put2, w_put3, cmp_eq_int, cmp_ne_int, cmp_lt_int, cmp_gt_int, cmp_le_int, cmp_ge_int, bi_len_str, bi_len_tup, bi_len_lst, bi_tuple_lst, bi_list_lst, bi_max_int, items_lst, items_tup, items_itr, items_str, putT_one, nb, h1, dm]
def good (c : Nat) : Bool := !slt [c] [32] && !slt [126] [c]
theorem good_iff (c : Nat) : good c = true ↔ 32 ≤ c ∧ c ≤ 126 := by
  unfold good slt slt
  simp only [Bool.and_eq_true, Bool.not_eq_true']
  constructor
  · rintro ⟨h1, h2⟩
    constructor
    · split at h1
      · rename_i h; have := beq_iff_eq.mp h; omega
      · have := of_decide_eq_false h1; omega
    · split at h2
      · rename_i h; have := beq_iff_eq.mp h; omega
      · have := of_decide_eq_false h2; omega
  · rintro ⟨h1, h2⟩
    constructor
    · split
      · rfl
      · exact decide_eq_false (by omega)
    · split
      · rfl
      · exact decide_eq_false (by omega)
def signsB (x : List Nat) (lo hi : Int) : Bool := !decide ((x.length : Int) < lo) && (!decide (hi < (x.length : Int)) && x.all good)
theorem le_sign (a b : List Nat) : cmpD .le (.str a) (.str b) = some (!slt b a) := by
  show (if ltOk (.str b) (.str a) && isSc (.str a) then some (!dlt (.str b) (.str a)) else none) = _
  rfl
def gD : D → D
  | .str [c] => .bl (good c)
  | d => d
theorem bools_good : ∀ x : List Nat, boolsD ((x.map fun c => D.str [c]).map gD) = some (x.map good)
  | [] => rfl
  | c :: x => by
    show (boolsD ((x.map fun c => D.str [c]).map gD)).map (good c :: ·) = _
    rw [bools_good x]; rfl
theorem get_put {ρ : Env} {i : Nat} {d : D} (h : i < ρ.length) : Ev.get (Ev.put ρ i d) i = some d := by
  unfold Ev.get Ev.put
  rw [List.getElem?_set_self h]; rfl
theorem get_put_ne {ρ : Env} {i j : Nat} {d : D} (h : i ≠ j) : Ev.get (Ev.put ρ i d) j = Ev.get ρ j := by
  unfold Ev.get Ev.put
  rw [List.getElem?_set_ne h]
theorem signs_comp (c : Call) (x : List Nat) (M : Sto) (ρ : Env) (hl : 3 < ρ.length) : compL (evCs c []) (evE c (.chain .le .le (.con (.str [32])) (.var 3) (.con (.str [126])))) (.one 3) (x.map fun c => D.str [c]) ρ M = .ok ((x.map fun c => D.str [c]).map gD, M) := by
  refine compL_pure fun d hd => ?_
  obtain ⟨z, _, rfl⟩ := List.mem_map.mp hd
  refine ⟨_, rfl, ?_⟩
  have gt : Ev.get (Ev.put ρ 3 (.str [z])) 3 = some (.str [z]) := get_put hl
  simp only [ev_chain, ev_var, ev_con, R.bind_ok, gt, Option.map_some, R.of_some, nrm_str, le_sign]
  show _ = R.ok (D.bl (good z), M)
  unfold good
  cases slt [z] [32] <;> simp [R.bind_ok, R.of_some]
theorem signs_sp (n : Nat) (x : List Nat) (lo hi : Int) (M : Sto) (hz : x.length ≤ SZ) : Ev.run sub Γ (n + 1) 0 [.str x, .int lo, .int hi] M = .ok (.bl (signsB x lo hi), M) := by
  rw [call_of (F := f_are_signs) rfl rfl]
  have cp := signs_comp (Ev.run sub Γ n) x M [some (.str x), some (.int lo), some (.int hi), none] (Nat.le_refl 4)
  have e2 : biD .all [.lst ((x.map fun c => D.str [c]).map gD)] = some (.bl (x.all good)) := by
    rw [bi_all, bools_good, Option.map_some, List.all_map]; rfl
  have hz' : (x.map fun c => D.str [c]).length ≤ SZ := by rw [List.length_map]; exact hz
  have hr : evE (Ev.run sub Γ n) (.var 0) [some (.str x), some (.int lo), some (.int hi), none] M = .ok (.str x, M) := rfl
  have hc := ev_comp_of hr rfl hz' cp
  by_cases h1 : (x.length : Int) < lo
  · have b1 := decide_eq_true h1
    simp only [f_are_signs, b_are_signs, startE, ev_var, ev_bor, ev_con, ev_neg, ev_bin, ev_cmp, ev_chain, ev_and, ev_or, ev_not, ev_ite, ev_join, ev_call, ev_bi, ev_tup, ev_lst, ev_sub, ev_slc, ev_alloc, evs_nil, evs_cons, es_set, es_own, es_unp, es_ex, es_ret, es_reto, es_retn, es_ite, es_whl, es_for, es_brk, es_cnt, es_pass, es_raise, es_try, es_sto, es_oput, ess_nil, ess_cons, Ev.get, Ev.put, map1, map2, map3, List.length_cons, List.length_nil, List.replicate, List.cons_append, List.nil_append, List.getElem?_cons_zero, List.getElem?_cons_succ, List.set_cons_zero, List.set_cons_succ, Option.bind_some, id, Option.map_some, r_bind_ok, r_of_some, r_toS_ok, rs_nx, rs_rt, rs_exc, r_bind_exc, r_toS_exc, out_rt, out_nx, out_exc, nrm_int, nrm_bl, nrm_non, nrm_str, nrm_lst, nrm_tup, nrm_scr, nrm_ty, nrm_obj0, bin_mul_int, bin_add_int, bin_sub_int, bin_mod_int, bin_fdiv_int, bi_int_int, Nat.sub_self, w_sub0, w_sub1, w_sub2, w_sub3, w_put1, w_put2, w_put3, cmp_eq_int, cmp_ne_int, cmp_lt_int, cmp_gt_int, cmp_le_int, cmp_ge_int, bi_len_str, bi_len_tup, bi_len_lst, bi_tuple_lst, bi_list_lst, bi_max_int, items_lst, items_tup, items_itr, items_str, putT_one, isi_str, b1, Bool.not_true]
    show R.ok (D.bl false, M) = R.ok (D.bl (!decide ((x.length : Int) < lo) && _), M)
    rw [b1]; rfl
  · have b1 := decide_eq_false h1
    by_cases h2 : hi < (x.length : Int)
    · have b2 := decide_eq_true h2
      simp only [f_are_signs, b_are_signs, startE, ev_var, ev_bor, ev_con, ev_neg, ev_bin, ev_cmp, ev_chain, ev_and, ev_or, ev_not, ev_ite, ev_join, ev_call, ev_bi, ev_tup, ev_lst, ev_sub, ev_slc, ev_alloc, evs_nil, evs_cons, es_set, es_own, es_unp, es_ex, es_ret, es_reto, es_retn, es_ite, es_whl, es_for, es_brk, es_cnt, es_pass, es_raise, es_try, es_sto, es_oput, ess_nil, ess_cons, Ev.get, Ev.put, map1, map2, map3, List.length_cons, List.length_nil, List.replicate, List.cons_append, List.nil_append, List.getElem?_cons_zero, List.getElem?_cons_succ, List.set_cons_zero, List.set_cons_succ, Option.bind_some, id, Option.map_some, r_bind_ok, r_of_some, r_toS_ok, rs_nx, rs_rt, rs_exc, r_bind_exc, r_toS_exc, out_rt, out_nx, out_exc, nrm_int, nrm_bl, nrm_non, nrm_str, nrm_lst, nrm_tup, nrm_scr, nrm_ty, nrm_obj0, bin_mul_int, bin_add_int, bin_sub_int, bin_mod_int, bin_fdiv_int, bi_int_int, Nat.sub_self, w_sub0, w_sub1, w_sub2, w_sub3, w_put1, w_put2, w_put3, cmp_eq_int, cmp_ne_int, cmp_lt_int, cmp_gt_int, cmp_le_int, cmp_ge_int, bi_len_str, bi_len_tup, bi_len_lst, bi_tuple_lst, bi_list_lst, bi_max_int, items_lst, items_tup, items_itr, items_str, putT_one, isi_str, b1, b2, Bool.not_true, Bool.not_false]
      show R.ok (D.bl false, M) = R.ok (D.bl (!decide ((x.length : Int) < lo) && (!decide (hi < (x.length : Int)) && _)), M)
      rw [b1, b2]; rfl
    · have b2 := decide_eq_false h2
      simp only [f_are_signs, b_are_signs, startE, ev_var, ev_bor, ev_con, ev_neg, ev_bin, ev_cmp, ev_chain, ev_and, ev_or, ev_not, ev_ite, ev_join, ev_call, ev_bi, ev_tup, ev_lst, ev_sub, ev_slc, ev_alloc, evs_nil, evs_cons, es_set, es_own, es_unp, es_ex, es_ret, es_reto, es_retn, es_ite, es_whl, es_for, es_brk, es_cnt, es_pass, es_raise, es_try, es_sto, es_oput, ess_nil, ess_cons, Ev.get, Ev.put, map1, map2, map3, List.length_cons, List.length_nil, List.replicate, List.cons_append, List.nil_append, List.getElem?_cons_zero, List.getElem?_cons_succ, List.set_cons_zero, List.set_cons_succ, Option.bind_some, id, Option.map_some, r_bind_ok, r_of_some, r_toS_ok, rs_nx, rs_rt, rs_exc, r_bind_exc, r_toS_exc, out_rt, out_nx, out_exc, nrm_int, nrm_bl, nrm_non, nrm_str, nrm_lst, nrm_tup, nrm_scr, nrm_ty, nrm_obj0, bin_mul_int, bin_add_int, bin_sub_int, bin_mod_int, bin_fdiv_int, bi_int_int, Nat.sub_self, w_sub0, w_sub1, w_sub2, w_sub3, w_put1, w_put2, w_put3, cmp_eq_int, cmp_ne_int, cmp_lt_int, cmp_gt_int, cmp_le_int, cmp_ge_int, bi_len_str, bi_len_tup, bi_len_lst, bi_tuple_lst, bi_list_lst, bi_max_int, items_lst, items_tup, items_itr, items_str, putT_one, isi_str, b1, b2, Bool.not_false, hc, e2]
      show R.ok (D.bl (x.all good), M) = R.ok (D.bl (!decide ((x.length : Int) < lo) && (!decide (hi < (x.length : Int)) && x.all good)), M)
      rw [b1, b2]; rfl
theorem signs_no (n : Nat) (lo hi : Int) (M : Sto) : Ev.run sub Γ (n + 1) 0 [.non, .int lo, .int hi] M = .ok (.bl false, M) := by
  rw [call_of (F := f_are_signs) rfl rfl]
  rfl
def pieceB (x : List Nat) : Bool := signsB x 1 8
def textB (x : List Nat) : Bool := signsB x 0 96
theorem piece_sp (n : Nat) (x : List Nat) (M : Sto) (hz : x.length ≤ SZ) : Ev.run sub Γ (n + 2) 1 [.str x] M = .ok (.bl (pieceB x), M) := by
  rw [call_of (F := f_is_piece) rfl rfl]
  simp only [f_is_piece, b_is_piece, startE, ev_var, ev_bor, ev_con, ev_neg, ev_bin, ev_cmp, ev_chain, ev_and, ev_or, ev_not, ev_ite, ev_join, ev_call, ev_bi, ev_tup, ev_lst, ev_sub, ev_slc, ev_alloc, evs_nil, evs_cons, es_set, es_own, es_unp, es_ex, es_ret, es_reto, es_retn, es_ite, es_whl, es_for, es_brk, es_cnt, es_pass, es_raise, es_try, es_sto, es_oput, ess_nil, ess_cons, Ev.get, Ev.put, map1, map2, map3, List.length_cons, List.length_nil, List.replicate, List.cons_append, List.nil_append, List.getElem?_cons_zero, List.getElem?_cons_succ, List.set_cons_zero, List.set_cons_succ, Option.bind_some, id, Option.map_some, r_bind_ok, r_of_some, r_toS_ok, rs_nx, rs_rt, rs_exc, r_bind_exc, r_toS_exc, out_rt, out_nx, out_exc, nrm_int, nrm_bl, nrm_non, nrm_str, nrm_lst, nrm_tup, nrm_scr, nrm_ty, nrm_obj0, bin_mul_int, bin_add_int, bin_sub_int, bin_mod_int, bin_fdiv_int, bi_int_int, Nat.sub_self, w_sub0, w_sub1, w_sub2, w_sub3, w_put1, w_put2, w_put3, cmp_eq_int, cmp_ne_int, cmp_lt_int, cmp_gt_int, cmp_le_int, cmp_ge_int, bi_len_str, bi_len_tup, bi_len_lst, bi_tuple_lst, bi_list_lst, bi_max_int, items_lst, items_tup, items_itr, items_str, putT_one, signs_sp n x 1 8 M hz]
  rfl
theorem piece_no (n : Nat) (M : Sto) : Ev.run sub Γ (n + 2) 1 [.non] M = .ok (.bl false, M) := by
  rw [call_of (F := f_is_piece) rfl rfl]
  simp only [f_is_piece, b_is_piece, startE, ev_var, ev_bor, ev_con, ev_neg, ev_bin, ev_cmp, ev_chain, ev_and, ev_or, ev_not, ev_ite, ev_join, ev_call, ev_bi, ev_tup, ev_lst, ev_sub, ev_slc, ev_alloc, evs_nil, evs_cons, es_set, es_own, es_unp, es_ex, es_ret, es_reto, es_retn, es_ite, es_whl, es_for, es_brk, es_cnt, es_pass, es_raise, es_try, es_sto, es_oput, ess_nil, ess_cons, Ev.get, Ev.put, map1, map2, map3, List.length_cons, List.length_nil, List.replicate, List.cons_append, List.nil_append, List.getElem?_cons_zero, List.getElem?_cons_succ, List.set_cons_zero, List.set_cons_succ, Option.bind_some, id, Option.map_some, r_bind_ok, r_of_some, r_toS_ok, rs_nx, rs_rt, rs_exc, r_bind_exc, r_toS_exc, out_rt, out_nx, out_exc, nrm_int, nrm_bl, nrm_non, nrm_str, nrm_lst, nrm_tup, nrm_scr, nrm_ty, nrm_obj0, bin_mul_int, bin_add_int, bin_sub_int, bin_mod_int, bin_fdiv_int, bi_int_int, Nat.sub_self, w_sub0, w_sub1, w_sub2, w_sub3, w_put1, w_put2, w_put3, cmp_eq_int, cmp_ne_int, cmp_lt_int, cmp_gt_int, cmp_le_int, cmp_ge_int, bi_len_str, bi_len_tup, bi_len_lst, bi_tuple_lst, bi_list_lst, bi_max_int, items_lst, items_tup, items_itr, items_str, putT_one, signs_no n 1 8 M]
theorem text_sp (n : Nat) (x : List Nat) (M : Sto) (hz : x.length ≤ SZ) : Ev.run sub Γ (n + 2) 2 [.str x] M = .ok (.bl (textB x), M) := by
  rw [call_of (F := f_is_text) rfl rfl]
  simp only [f_is_text, b_is_text, startE, ev_var, ev_bor, ev_con, ev_neg, ev_bin, ev_cmp, ev_chain, ev_and, ev_or, ev_not, ev_ite, ev_join, ev_call, ev_bi, ev_tup, ev_lst, ev_sub, ev_slc, ev_alloc, evs_nil, evs_cons, es_set, es_own, es_unp, es_ex, es_ret, es_reto, es_retn, es_ite, es_whl, es_for, es_brk, es_cnt, es_pass, es_raise, es_try, es_sto, es_oput, ess_nil, ess_cons, Ev.get, Ev.put, map1, map2, map3, List.length_cons, List.length_nil, List.replicate, List.cons_append, List.nil_append, List.getElem?_cons_zero, List.getElem?_cons_succ, List.set_cons_zero, List.set_cons_succ, Option.bind_some, id, Option.map_some, r_bind_ok, r_of_some, r_toS_ok, rs_nx, rs_rt, rs_exc, r_bind_exc, r_toS_exc, out_rt, out_nx, out_exc, nrm_int, nrm_bl, nrm_non, nrm_str, nrm_lst, nrm_tup, nrm_scr, nrm_ty, nrm_obj0, bin_mul_int, bin_add_int, bin_sub_int, bin_mod_int, bin_fdiv_int, bi_int_int, Nat.sub_self, w_sub0, w_sub1, w_sub2, w_sub3, w_put1, w_put2, w_put3, cmp_eq_int, cmp_ne_int, cmp_lt_int, cmp_gt_int, cmp_le_int, cmp_ge_int, bi_len_str, bi_len_tup, bi_len_lst, bi_tuple_lst, bi_list_lst, bi_max_int, items_lst, items_tup, items_itr, items_str, putT_one, signs_sp n x 0 96 M hz]
  rfl
def chop (x : List Nat) : List (List Nat) := (List.range ((x.length + 7) / 8)).map fun k => (x.drop (8 * k)).take 8
theorem stepN8 (L : Nat) : stepN 0 (L : Int) 8 = (L + 7) / 8 := by
  unfold stepN
  rw [if_pos (by decide)]
  split <;> omega
theorem range8 {L : Nat} (h : L ≤ 1000) : biD .range [.int 0, .int (L : Int), .int 8] = some (.itr ((List.range ((L + 7) / 8)).map fun (i : Nat) => D.int (0 + (i : Int) * 8))) := by
  show (if okRange 0 && okRange (L : Int) && okStep 8 then some (D.itr (intsFrom 0 8 (stepN 0 (L : Int) 8))) else none) = _
  rw [if_pos (by rw [okRange_of (j := (L : Int)) (by omega) (by omega)]; decide), stepN8, intsFrom_map]
def cD (x : List Nat) : D → D
  | .int i => .str ((x.drop i.toNat).take 8)
  | d => d
def starts (L : Nat) : List D := (List.range ((L + 7) / 8)).map fun (i : Nat) => D.int (0 + (i : Int) * 8)
theorem starts_len {L : Nat} (h : L ≤ 1000) : (starts L).length ≤ SZ := by
  unfold starts
  rw [List.length_map, List.length_range]
  have : (1000 : Nat) ≤ SZ := by decide
  omega
theorem slc8 (x : List Nat) (k : Nat) : slcD (.str x) (some (0 + (k : Int) * 8)) (some (0 + (k : Int) * 8 + 8)) = some (.str ((x.drop (8 * k)).take 8)) := by
  have e0 : (0 : Int) + (k : Int) * 8 = ((8 * k : Nat) : Int) := by omega
  have e8 : ((8 * k : Nat) : Int) + 8 = ((8 * k + 8 : Nat) : Int) := by omega
  rw [e0, e8]
  show some (D.str (cut x (some ((8 * k : Nat) : Int)) (some ((8 * k + 8 : Nat) : Int)))) = _
  rw [cut_nat, show 8 * k + 8 - 8 * k = 8 by omega]
theorem chop_comp (c : Call) (x : List Nat) (M : Sto) : compL (evCs c []) (evE c (.slc (.var 0) (.var 1) (.bin .add (.var 1) (.con (.int 8))))) (.one 1) (starts x.length) [some (.str x), none] M = .ok ((starts x.length).map (cD x), M) := by
  refine compL_pure fun d hd => ?_
  obtain ⟨k, _, rfl⟩ := List.mem_map.mp hd
  refine ⟨[some (.str x), some (.int (0 + (k : Int) * 8))], rfl, ?_⟩
  have en : (0 + (k : Int) * 8).toNat = 8 * k := by omega
  have er : cD x (.int (0 + (k : Int) * 8)) = .str ((x.drop (8 * k)).take 8) := by
    show D.str ((x.drop (0 + (k : Int) * 8).toNat).take 8) = _
    rw [en]
  rw [er]
  simp only [startE, ev_var, ev_bor, ev_con, ev_neg, ev_bin, ev_cmp, ev_chain, ev_and, ev_or, ev_not, ev_ite, ev_join, ev_call, ev_bi, ev_tup, ev_lst, ev_sub, ev_slc, ev_alloc, evs_nil, evs_cons, es_set, es_own, es_unp, es_ex, es_ret, es_reto, es_retn, es_ite, es_whl, es_for, es_brk, es_cnt, es_pass, es_raise, es_try, es_sto, es_oput, ess_nil, ess_cons, Ev.get, Ev.put, map1, map2, map3, List.length_cons, List.length_nil, List.replicate, List.cons_append, List.nil_append, List.getElem?_cons_zero, List.getElem?_cons_succ, List.set_cons_zero, List.set_cons_succ, Option.bind_some, id, Option.map_some, r_bind_ok, r_of_some, r_toS_ok, rs_nx, rs_rt, rs_exc, r_bind_exc, r_toS_exc, out_rt, out_nx, out_exc, nrm_int, nrm_bl, nrm_non, nrm_str, nrm_lst, nrm_tup, nrm_scr, nrm_ty, nrm_obj0, bin_mul_int, bin_add_int, bin_sub_int, bin_mod_int, bin_fdiv_int, bi_int_int, Nat.sub_self, w_sub0, w_sub1, w_sub2, w_sub3, w_put1, w_put2, w_put3, cmp_eq_int, cmp_ne_int, cmp_lt_int, cmp_gt_int, cmp_le_int, cmp_ge_int, bi_len_str, bi_len_tup, bi_len_lst, bi_tuple_lst, bi_list_lst, bi_max_int, items_lst, items_tup, items_itr, items_str, putT_one, isNon, bnd, slc8]
theorem chop_map (x : List Nat) : (starts x.length).map (cD x) = (chop x).map D.str := by
  unfold chop starts
  rw [List.map_map, List.map_map]
  refine List.map_congr_left fun k _ => ?_
  show D.str ((x.drop (0 + (k : Int) * 8).toNat).take 8) = D.str ((x.drop (8 * k)).take 8)
  have en : (0 + (k : Int) * 8).toNat = 8 * k := by omega
  rw [en]
theorem range8' {L : Nat} (h : L ≤ 1000) : biD .range [.int 0, .int (L : Int), .int 8] = some (.itr (starts L)) := range8 h
theorem chopped_r (n : Nat) (x : List Nat) (M : Sto) (hz : x.length ≤ 1000) : evE (Ev.run sub Γ (n + 2)) (.bi .range [.con (.int 0), .bi .len [.var 0], .con (.int 8)]) [some (.str x), none] M = .ok (.itr (starts x.length), M) := by
  simp only [startE, ev_var, ev_bor, ev_con, ev_neg, ev_bin, ev_cmp, ev_chain, ev_and, ev_or, ev_not, ev_ite, ev_join, ev_call, ev_bi, ev_tup, ev_lst, ev_sub, ev_slc, ev_alloc, evs_nil, evs_cons, es_set, es_own, es_unp, es_ex, es_ret, es_reto, es_retn, es_ite, es_whl, es_for, es_brk, es_cnt, es_pass, es_raise, es_try, es_sto, es_oput, ess_nil, ess_cons, Ev.get, Ev.put, map1, map2, map3, List.length_cons, List.length_nil, List.replicate, List.cons_append, List.nil_append, List.getElem?_cons_zero, List.getElem?_cons_succ, List.set_cons_zero, List.set_cons_succ, Option.bind_some, id, Option.map_some, r_bind_ok, r_of_some, r_toS_ok, rs_nx, rs_rt, rs_exc, r_bind_exc, r_toS_exc, out_rt, out_nx, out_exc, nrm_int, nrm_bl, nrm_non, nrm_str, nrm_lst, nrm_tup, nrm_scr, nrm_ty, nrm_obj0, bin_mul_int, bin_add_int, bin_sub_int, bin_mod_int, bin_fdiv_int, bi_int_int, Nat.sub_self, w_sub0, w_sub1, w_sub2, w_sub3, w_put1, w_put2, w_put3, cmp_eq_int, cmp_ne_int, cmp_lt_int, cmp_gt_int, cmp_le_int, cmp_ge_int, bi_len_str, bi_len_tup, bi_len_lst, bi_tuple_lst, bi_list_lst, bi_max_int, items_lst, items_tup, items_itr, items_str, putT_one, range8' hz]
theorem chopped_c (n : Nat) (x : List Nat) (M : Sto) (hz : x.length ≤ 1000) : evE (Ev.run sub Γ (n + 2)) (.comp (.slc (.var 0) (.var 1) (.bin .add (.var 1) (.con (.int 8)))) (.one 1) (.bi .range [.con (.int 0), .bi .len [.var 0], .con (.int 8)]) []) [some (.str x), none] M = .ok (.lst ((starts x.length).map (cD x)), M) :=
  ev_comp_of (chopped_r n x M hz) rfl (starts_len hz) (chop_comp (Ev.run sub Γ (n + 2)) x M)
theorem sz1000 {k : Nat} (h : k ≤ 1000) : k ≤ SZ := Nat.le_trans h (by decide)
theorem text_t (n : Nat) (x : List Nat) (M : Sto) (h : textB x = true) (hz : x.length ≤ 1000) : Ev.run sub Γ (n + 2) 2 [.str x] M = .ok (.bl true, M) := by
  have ht := text_sp n x M (sz1000 hz)
  rw [h] at ht
  exact ht
theorem chopped_sp (n : Nat) (x : List Nat) (M : Sto) (h : textB x = true) (hz : x.length ≤ 1000) : Ev.run sub Γ (n + 3) 3 [.str x] M = .ok (.tup ((chop x).map D.str), M) := by
  rw [call_of (F := f_chopped) rfl rfl]
  have ht := text_t n x M h hz
  have hc := chopped_c n x M hz
  rw [chop_map] at hc
  simp only [f_chopped, b_chopped, startE, ev_var, ev_bor, ev_con, ev_neg, ev_bin, ev_cmp, ev_chain, ev_and, ev_or, ev_not, ev_ite, ev_join, ev_call, ev_bi, ev_tup, ev_lst, ev_sub, ev_slc, ev_alloc, evs_nil, evs_cons, es_set, es_own, es_unp, es_ex, es_ret, es_reto, es_retn, es_ite, es_whl, es_for, es_brk, es_cnt, es_pass, es_raise, es_try, es_sto, es_oput, ess_nil, ess_cons, Ev.get, Ev.put, map1, map2, map3, List.length_cons, List.length_nil, List.replicate, List.cons_append, List.nil_append, List.getElem?_cons_zero, List.getElem?_cons_succ, List.set_cons_zero, List.set_cons_succ, Option.bind_some, id, Option.map_some, r_bind_ok, r_of_some, r_toS_ok, rs_nx, rs_rt, rs_exc, r_bind_exc, r_toS_exc, out_rt, out_nx, out_exc, nrm_int, nrm_bl, nrm_non, nrm_str, nrm_lst, nrm_tup, nrm_scr, nrm_ty, nrm_obj0, bin_mul_int, bin_add_int, bin_sub_int, bin_mod_int, bin_fdiv_int, bi_int_int, Nat.sub_self, w_sub0, w_sub1, w_sub2, w_sub3, w_put1, w_put2, w_put3, cmp_eq_int, cmp_ne_int, cmp_lt_int, cmp_gt_int, cmp_le_int, cmp_ge_int, bi_len_str, bi_len_tup, bi_len_lst, bi_tuple_lst, bi_list_lst, bi_max_int, items_lst, items_tup, items_itr, items_str, putT_one, ht, Bool.not_true, hc]
theorem chopped_no (n : Nat) (x : List Nat) (M : Sto) (h : textB x = false) (hz : x.length ≤ 1000) : Ev.run sub Γ (n + 3) 3 [.str x] M = .exc ⟨1, []⟩ M := by
  rw [call_of (F := f_chopped) rfl rfl]
  have ht := text_sp n x M (Nat.le_trans hz (by decide))
  rw [h] at ht
  simp only [f_chopped, b_chopped, startE, ev_var, ev_bor, ev_con, ev_neg, ev_bin, ev_cmp, ev_chain, ev_and, ev_or, ev_not, ev_ite, ev_join, ev_call, ev_bi, ev_tup, ev_lst, ev_sub, ev_slc, ev_alloc, evs_nil, evs_cons, es_set, es_own, es_unp, es_ex, es_ret, es_reto, es_retn, es_ite, es_whl, es_for, es_brk, es_cnt, es_pass, es_raise, es_try, es_sto, es_oput, ess_nil, ess_cons, Ev.get, Ev.put, map1, map2, map3, List.length_cons, List.length_nil, List.replicate, List.cons_append, List.nil_append, List.getElem?_cons_zero, List.getElem?_cons_succ, List.set_cons_zero, List.set_cons_succ, Option.bind_some, id, Option.map_some, r_bind_ok, r_of_some, r_toS_ok, rs_nx, rs_rt, rs_exc, r_bind_exc, r_toS_exc, out_rt, out_nx, out_exc, nrm_int, nrm_bl, nrm_non, nrm_str, nrm_lst, nrm_tup, nrm_scr, nrm_ty, nrm_obj0, bin_mul_int, bin_add_int, bin_sub_int, bin_mod_int, bin_fdiv_int, bi_int_int, Nat.sub_self, w_sub0, w_sub1, w_sub2, w_sub3, w_put1, w_put2, w_put3, cmp_eq_int, cmp_ne_int, cmp_lt_int, cmp_gt_int, cmp_le_int, cmp_ge_int, bi_len_str, bi_len_tup, bi_len_lst, bi_tuple_lst, bi_list_lst, bi_max_int, items_lst, items_tup, items_itr, items_str, putT_one, ht, Bool.not_false]
def pieceD : D → Bool
  | .str x => pieceB x
  | _ => false
theorem bools_piece : ∀ ds : List D, boolsD (ds.map fun d => .bl (pieceD d)) = some (ds.map pieceD) := boolsD_map pieceD
theorem pieces_comp (n : Nat) (ds : List D) (M : Sto) (ρ : Env) (hl : 1 < ρ.length) (h : ∀ d ∈ ds, d = .non ∨ ∃ x, d = .str x ∧ x.length ≤ 1000) : compL (evCs (Ev.run sub Γ (n + 2)) []) (evE (Ev.run sub Γ (n + 2)) (.call 1 [.var 1])) (.one 1) ds ρ M = .ok (ds.map fun d => .bl (pieceD d), M) := by
  refine compL_pure fun d hd => ⟨_, rfl, ?_⟩
  have gt : Ev.get (Ev.put ρ 1 d) 1 = some d := get_put hl
  rcases h d hd with rfl | ⟨x, rfl, hx⟩
  · simp only [ev_call, ev_var, evs_cons, evs_nil, R.bind_ok, gt, Option.map_some, R.of_some, piece_no n M]
    rfl
  · simp only [ev_call, ev_var, evs_cons, evs_nil, R.bind_ok, gt, Option.map_some, R.of_some, piece_sp n x M (Nat.le_trans hx (by decide))]
    rfl
def piecesB (ds : List D) : Bool := !decide ((12 : Int) < (ds.length : Int)) && ds.all pieceD
theorem all_piece (ds : List D) : biD .all [.lst (ds.map fun d => .bl (pieceD d))] = some (.bl (ds.all pieceD)) := by
  rw [bi_all, bools_piece, Option.map_some, List.all_map]; rfl
theorem joined_no (n : Nat) (ds : List D) (M : Sto) (h : ∀ d ∈ ds, d = .non ∨ ∃ x, d = .str x ∧ x.length ≤ 1000) (hb : piecesB ds = false) : Ev.run sub Γ (n + 3) 4 [.tup ds] M = .exc ⟨2, []⟩ M := by
  rw [call_of (F := f_joined) rfl rfl]
  unfold piecesB at hb
  by_cases h1 : (12 : Int) < (ds.length : Int)
  · have b1 := decide_eq_true h1
    simp only [f_joined, b_joined, startE, ev_var, ev_bor, ev_con, ev_neg, ev_bin, ev_cmp, ev_chain, ev_and, ev_or, ev_not, ev_ite, ev_join, ev_call, ev_bi, ev_tup, ev_lst, ev_sub, ev_slc, ev_alloc, evs_nil, evs_cons, es_set, es_own, es_unp, es_ex, es_ret, es_reto, es_retn, es_ite, es_whl, es_for, es_brk, es_cnt, es_pass, es_raise, es_try, es_sto, es_oput, ess_nil, ess_cons, Ev.get, Ev.put, map1, map2, map3, List.length_cons, List.length_nil, List.replicate, List.cons_append, List.nil_append, List.getElem?_cons_zero, List.getElem?_cons_succ, List.set_cons_zero, List.set_cons_succ, Option.bind_some, id, Option.map_some, r_bind_ok, r_of_some, r_toS_ok, rs_nx, rs_rt, rs_exc, r_bind_exc, r_toS_exc, out_rt, out_nx, out_exc, nrm_int, nrm_bl, nrm_non, nrm_str, nrm_lst, nrm_tup, nrm_scr, nrm_ty, nrm_obj0, bin_mul_int, bin_add_int, bin_sub_int, bin_mod_int, bin_fdiv_int, bi_int_int, Nat.sub_self, w_sub0, w_sub1, w_sub2, w_sub3, w_put1, w_put2, w_put3, cmp_eq_int, cmp_ne_int, cmp_lt_int, cmp_gt_int, cmp_le_int, cmp_ge_int, bi_len_str, bi_len_tup, bi_len_lst, bi_tuple_lst, bi_list_lst, bi_max_int, items_lst, items_tup, items_itr, items_str, putT_one, isi_tup_tup, b1, Bool.not_true]
  · have b1 := decide_eq_false h1
    rw [b1] at hb
    have hb : ds.all pieceD = false := by simpa using hb
    have hz : ds.length ≤ SZ := Nat.le_trans (show ds.length ≤ 12 by omega) (by decide)
    have hr : evE (Ev.run sub Γ (n + 2)) (.var 0) [some (.tup ds), none] M = .ok (.tup ds, M) := rfl
    have hc := ev_comp_of hr rfl hz (pieces_comp n ds M [some (.tup ds), none] (Nat.le_refl 2) h)
    simp only [f_joined, b_joined, startE, ev_var, ev_bor, ev_con, ev_neg, ev_bin, ev_cmp, ev_chain, ev_and, ev_or, ev_not, ev_ite, ev_join, ev_call, ev_bi, ev_tup, ev_lst, ev_sub, ev_slc, ev_alloc, evs_nil, evs_cons, es_set, es_own, es_unp, es_ex, es_ret, es_reto, es_retn, es_ite, es_whl, es_for, es_brk, es_cnt, es_pass, es_raise, es_try, es_sto, es_oput, ess_nil, ess_cons, Ev.get, Ev.put, map1, map2, map3, List.length_cons, List.length_nil, List.replicate, List.cons_append, List.nil_append, List.getElem?_cons_zero, List.getElem?_cons_succ, List.set_cons_zero, List.set_cons_succ, Option.bind_some, id, Option.map_some, r_bind_ok, r_of_some, r_toS_ok, rs_nx, rs_rt, rs_exc, r_bind_exc, r_toS_exc, out_rt, out_nx, out_exc, nrm_int, nrm_bl, nrm_non, nrm_str, nrm_lst, nrm_tup, nrm_scr, nrm_ty, nrm_obj0, bin_mul_int, bin_add_int, bin_sub_int, bin_mod_int, bin_fdiv_int, bi_int_int, Nat.sub_self, w_sub0, w_sub1, w_sub2, w_sub3, w_put1, w_put2, w_put3, cmp_eq_int, cmp_ne_int, cmp_lt_int, cmp_gt_int, cmp_le_int, cmp_ge_int, bi_len_str, bi_len_tup, bi_len_lst, bi_tuple_lst, bi_list_lst, bi_max_int, items_lst, items_tup, items_itr, items_str, putT_one, isi_tup_tup, b1, Bool.not_true, hc, all_piece, hb, Bool.not_false]
theorem joined_lst (n : Nat) (ds : List D) (M : Sto) : Ev.run sub Γ (n + 3) 4 [.lst ds] M = .exc ⟨2, []⟩ M := by
  rw [call_of (F := f_joined) rfl rfl]
  rfl
theorem join_sp (xs : List (List Nat)) (h : (xs.map List.length).sum ≤ SZ) : meD .join (.str []) [.tup (xs.map D.str)] = some (.str xs.flatten) := by
  show ((strsD (xs.map D.str)).bind fun ys => if (ys.map List.length).sum + ys.length * ([] : List Nat).length ≤ SZ then some (D.str (gluei [] ys)) else none) = _
  rw [strsD_map, Option.bind_some, if_pos (by simpa using h), gluei_nil]
theorem join_spl (xs : List (List Nat)) (h : (xs.map List.length).sum ≤ SZ) : meD .join (.str []) [.lst (xs.map D.str)] = some (.str xs.flatten) := by
  show ((strsD (xs.map D.str)).bind fun ys => if (ys.map List.length).sum + ys.length * ([] : List Nat).length ≤ SZ then some (D.str (gluei [] ys)) else none) = _
  rw [strsD_map, Option.bind_some, if_pos (by simpa using h), gluei_nil]
theorem pieceB_len {x : List Nat} (h : pieceB x = true) : 1 ≤ x.length ∧ x.length ≤ 8 ∧ ∀ c ∈ x, good c = true := by
  unfold pieceB signsB at h
  simp only [Bool.and_eq_true, Bool.not_eq_true', decide_eq_false_iff_not, List.all_eq_true] at h
  exact ⟨by omega, by omega, h.2.2⟩
theorem sum_le : ∀ {xs : List (List Nat)}, (∀ x ∈ xs, x.length ≤ 8) → (xs.map List.length).sum ≤ 8 * xs.length
  | [], _ => Nat.le_refl _
  | x :: xs, h => by
    have h1 := h x List.mem_cons_self
    have h2 := sum_le (xs := xs) fun y hy => h y (List.mem_cons_of_mem _ hy)
    rw [List.map_cons, List.sum_cons, List.length_cons]
    omega
theorem joined_sp (n : Nat) (xs : List (List Nat)) (M : Sto) (hl : xs.length ≤ 12) (h : ∀ x ∈ xs, pieceB x = true) : Ev.run sub Γ (n + 3) 4 [.tup (xs.map D.str)] M = .ok (.str xs.flatten, M) := by
  rw [call_of (F := f_joined) rfl rfl]
  have b1 : decide ((12 : Int) < ((xs.map D.str).length : Int)) = false := decide_eq_false (by rw [List.length_map]; omega)
  have hz : (xs.map D.str).length ≤ SZ := by rw [List.length_map]; exact Nat.le_trans hl (by decide)
  have hb : (xs.map D.str).all pieceD = true := by
    rw [List.all_map, List.all_eq_true]
    exact h
  have hs : (xs.map List.length).sum ≤ SZ := Nat.le_trans (sum_le fun x hx => (pieceB_len (h x hx)).2.1) (Nat.le_trans (show 8 * xs.length ≤ 96 by omega) (by decide))
  have hd : ∀ d ∈ xs.map D.str, d = .non ∨ ∃ x, d = .str x ∧ x.length ≤ 1000 := fun d hd => by
    obtain ⟨x, hx, rfl⟩ := List.mem_map.mp hd
    exact .inr ⟨x, rfl, Nat.le_trans (pieceB_len (h x hx)).2.1 (by decide)⟩
  have hr : evE (Ev.run sub Γ (n + 2)) (.var 0) [some (.tup (xs.map D.str)), none] M = .ok (.tup (xs.map D.str), M) := rfl
  have hc := ev_comp_of hr rfl hz (pieces_comp n (xs.map D.str) M [some (.tup (xs.map D.str)), none] (Nat.le_refl 2) hd)
  simp only [f_joined, b_joined, startE, ev_var, ev_bor, ev_con, ev_neg, ev_bin, ev_cmp, ev_chain, ev_and, ev_or, ev_not, ev_ite, ev_join, ev_call, ev_bi, ev_tup, ev_lst, ev_sub, ev_slc, ev_alloc, evs_nil, evs_cons, es_set, es_own, es_unp, es_ex, es_ret, es_reto, es_retn, es_ite, es_whl, es_for, es_brk, es_cnt, es_pass, es_raise, es_try, es_sto, es_oput, ess_nil, ess_cons, Ev.get, Ev.put, map1, map2, map3, List.length_cons, List.length_nil, List.replicate, List.cons_append, List.nil_append, List.getElem?_cons_zero, List.getElem?_cons_succ, List.set_cons_zero, List.set_cons_succ, Option.bind_some, id, Option.map_some, r_bind_ok, r_of_some, r_toS_ok, rs_nx, rs_rt, rs_exc, r_bind_exc, r_toS_exc, out_rt, out_nx, out_exc, nrm_int, nrm_bl, nrm_non, nrm_str, nrm_lst, nrm_tup, nrm_scr, nrm_ty, nrm_obj0, bin_mul_int, bin_add_int, bin_sub_int, bin_mod_int, bin_fdiv_int, bi_int_int, Nat.sub_self, w_sub0, w_sub1, w_sub2, w_sub3, w_put1, w_put2, w_put3, cmp_eq_int, cmp_ne_int, cmp_lt_int, cmp_gt_int, cmp_le_int, cmp_ge_int, bi_len_str, bi_len_tup, bi_len_lst, bi_tuple_lst, bi_list_lst, bi_max_int, items_lst, items_tup, items_itr, items_str, putT_one, isi_tup_tup, b1, Bool.not_true, hc, all_piece, hb, join_sp xs hs]
theorem eq_str (x y : List Nat) : cmpD .eq (.str x) (.str y) = some (x == y) := of_eq_true (eq_self _)
theorem ne_str (x y : List Nat) : cmpD .ne (.str x) (.str y) = some (!(x == y)) := of_eq_true (eq_self _)
theorem is_sp (n : Nat) (x : List Nat) (M : Sto) : Ev.run sub Γ (n + 1) 16 [.str x, .str x] M = .ok (.bl true, M) := by
  rw [call_of (F := f__law_is) rfl rfl]
  simp only [f__law_is, b__law_is, startE, ev_var, ev_bor, ev_con, ev_neg, ev_bin, ev_cmp, ev_chain, ev_and, ev_or, ev_not, ev_ite, ev_join, ev_call, ev_bi, ev_tup, ev_lst, ev_sub, ev_slc, ev_alloc, evs_nil, evs_cons, es_set, es_own, es_unp, es_ex, es_ret, es_reto, es_retn, es_ite, es_whl, es_for, es_brk, es_cnt, es_pass, es_raise, es_try, es_sto, es_oput, ess_nil, ess_cons, Ev.get, Ev.put, map1, map2, map3, List.length_cons, List.length_nil, List.replicate, List.cons_append, List.nil_append, List.getElem?_cons_zero, List.getElem?_cons_succ, List.set_cons_zero, List.set_cons_succ, Option.bind_some, id, Option.map_some, r_bind_ok, r_of_some, r_toS_ok, rs_nx, rs_rt, rs_exc, r_bind_exc, r_toS_exc, out_rt, out_nx, out_exc, nrm_int, nrm_bl, nrm_non, nrm_str, nrm_lst, nrm_tup, nrm_scr, nrm_ty, nrm_obj0, bin_mul_int, bin_add_int, bin_sub_int, bin_mod_int, bin_fdiv_int, bi_int_int, Nat.sub_self, w_sub0, w_sub1, w_sub2, w_sub3, w_put1, w_put2, w_put3, cmp_eq_int, cmp_ne_int, cmp_lt_int, cmp_gt_int, cmp_le_int, cmp_ge_int, bi_len_str, bi_len_tup, bi_len_lst, bi_tuple_lst, bi_list_lst, bi_max_int, items_lst, items_tup, items_itr, items_str, putT_one, isi_str, eq_str, beq_self_eq_true]
theorem text_refused (n : Nat) (x : List Nat) (M : Sto) (h : textB x = false) (hz : x.length ≤ 1000) : Ev.run sub Γ (n + 4) 17 [.str x] M = .ok (.bl true, M) := by
  rw [call_of (F := f__law_text_refused) rfl rfl]
  simp only [f__law_text_refused, b__law_text_refused, startE, ev_var, ev_bor, ev_con, ev_neg, ev_bin, ev_cmp, ev_chain, ev_and, ev_or, ev_not, ev_ite, ev_join, ev_call, ev_bi, ev_tup, ev_lst, ev_sub, ev_slc, ev_alloc, evs_nil, evs_cons, es_set, es_own, es_unp, es_ex, es_ret, es_reto, es_retn, es_ite, es_whl, es_for, es_brk, es_cnt, es_pass, es_raise, es_try, es_sto, es_oput, ess_nil, ess_cons, Ev.get, Ev.put, map1, map2, map3, List.length_cons, List.length_nil, List.replicate, List.cons_append, List.nil_append, List.getElem?_cons_zero, List.getElem?_cons_succ, List.set_cons_zero, List.set_cons_succ, Option.bind_some, id, Option.map_some, r_bind_ok, r_of_some, r_toS_ok, rs_nx, rs_rt, rs_exc, r_bind_exc, r_toS_exc, out_rt, out_nx, out_exc, nrm_int, nrm_bl, nrm_non, nrm_str, nrm_lst, nrm_tup, nrm_scr, nrm_ty, nrm_obj0, bin_mul_int, bin_add_int, bin_sub_int, bin_mod_int, bin_fdiv_int, bi_int_int, Nat.sub_self, w_sub0, w_sub1, w_sub2, w_sub3, w_put1, w_put2, w_put3, cmp_eq_int, cmp_ne_int, cmp_lt_int, cmp_gt_int, cmp_le_int, cmp_ge_int, bi_len_str, bi_len_tup, bi_len_lst, bi_tuple_lst, bi_list_lst, bi_max_int, items_lst, items_tup, items_itr, items_str, putT_one, chopped_no n x M h hz]
  rfl
theorem pieces_refused {n : Nat} {d : D} {M : Sto} (h : Ev.run sub Γ (n + 3) 4 [d] M = .exc ⟨2, []⟩ M) : Ev.run sub Γ (n + 4) 18 [d] M = .ok (.bl true, M) := by
  rw [call_of (F := f__law_pieces_refused) rfl rfl]
  simp only [f__law_pieces_refused, b__law_pieces_refused, startE, ev_var, ev_bor, ev_con, ev_neg, ev_bin, ev_cmp, ev_chain, ev_and, ev_or, ev_not, ev_ite, ev_join, ev_call, ev_bi, ev_tup, ev_lst, ev_sub, ev_slc, ev_alloc, evs_nil, evs_cons, es_set, es_own, es_unp, es_ex, es_ret, es_reto, es_retn, es_ite, es_whl, es_for, es_brk, es_cnt, es_pass, es_raise, es_try, es_sto, es_oput, ess_nil, ess_cons, Ev.get, Ev.put, map1, map2, map3, List.length_cons, List.length_nil, List.replicate, List.cons_append, List.nil_append, List.getElem?_cons_zero, List.getElem?_cons_succ, List.set_cons_zero, List.set_cons_succ, Option.bind_some, id, Option.map_some, r_bind_ok, r_of_some, r_toS_ok, rs_nx, rs_rt, rs_exc, r_bind_exc, r_toS_exc, out_rt, out_nx, out_exc, nrm_int, nrm_bl, nrm_non, nrm_str, nrm_lst, nrm_tup, nrm_scr, nrm_ty, nrm_obj0, bin_mul_int, bin_add_int, bin_sub_int, bin_mod_int, bin_fdiv_int, bi_int_int, Nat.sub_self, w_sub0, w_sub1, w_sub2, w_sub3, w_put1, w_put2, w_put3, cmp_eq_int, cmp_ne_int, cmp_lt_int, cmp_gt_int, cmp_le_int, cmp_ge_int, bi_len_str, bi_len_tup, bi_len_lst, bi_tuple_lst, bi_list_lst, bi_max_int, items_lst, items_tup, items_itr, items_str, putT_one, h]
  rfl
theorem chop_len (x : List Nat) : (chop x).length = (x.length + 7) / 8 := by
  unfold chop
  rw [List.length_map, List.length_range]
theorem chop_get (x : List Nat) {k : Nat} (h : k < (chop x).length) : (chop x)[k] = (x.drop (8 * k)).take 8 := by
  show ((List.range ((x.length + 7) / 8)).map fun k => (x.drop (8 * k)).take 8)[k]'(by rw [List.length_map, List.length_range, ← chop_len]; exact h) = _
  rw [List.getElem_map, List.getElem_range]
theorem fits_body (c : Call) (x : List Nat) (M : Sto) (o : Option D) (k : Nat) (h : k < (chop x).length) :
    evSs c sub [.ite (.or (.not (.bi .isinst [.sub (.var 1) (.var 2), .con (.ty "str")])) (.cmp .ne (.sub (.var 1) (.var 2)) (.slc (.var 0) (.bin .mul (.con (.int 8)) (.var 2)) (.bin .add (.bin .mul (.con (.int 8)) (.var 2)) (.con (.int 8)))))) [.ret (.con (.bl false))] []]
      [some (.str x), some (.tup ((chop x).map D.str)), some (.int (k : Int))] M = .ok .nx [some (.str x), some (.tup ((chop x).map D.str)), some (.int (k : Int))] M := by
  have e1 : subD (.tup ((chop x).map D.str)) (.int (k : Int)) = some (.str ((x.drop (8 * k)).take 8)) := by
    rw [sub_tup (by rw [List.length_map]; exact h), List.getElem_map, chop_get x h]
  have e2 : slcD (.str x) (some (8 * (k : Int))) (some (8 * (k : Int) + 8)) = some (.str ((x.drop (8 * k)).take 8)) := by
    have q := slc8 x k
    rw [show (0 : Int) + (k : Int) * 8 = 8 * (k : Int) by omega] at q
    exact q
  have e3 : mulOk 8 (k : Int) = true := mulOk_l (by decide)
  simp only [startE, ev_var, ev_bor, ev_con, ev_neg, ev_bin, ev_cmp, ev_chain, ev_and, ev_or, ev_not, ev_ite, ev_join, ev_call, ev_bi, ev_tup, ev_lst, ev_sub, ev_slc, ev_alloc, evs_nil, evs_cons, es_set, es_own, es_unp, es_ex, es_ret, es_reto, es_retn, es_ite, es_whl, es_for, es_brk, es_cnt, es_pass, es_raise, es_try, es_sto, es_oput, ess_nil, ess_cons, Ev.get, Ev.put, map1, map2, map3, List.length_cons, List.length_nil, List.replicate, List.cons_append, List.nil_append, List.getElem?_cons_zero, List.getElem?_cons_succ, List.set_cons_zero, List.set_cons_succ, Option.bind_some, id, Option.map_some, r_bind_ok, r_of_some, r_toS_ok, rs_nx, rs_rt, rs_exc, r_bind_exc, r_toS_exc, out_rt, out_nx, out_exc, nrm_int, nrm_bl, nrm_non, nrm_str, nrm_lst, nrm_tup, nrm_scr, nrm_ty, nrm_obj0, bin_mul_int, bin_add_int, bin_sub_int, bin_mod_int, bin_fdiv_int, bi_int_int, Nat.sub_self, w_sub0, w_sub1, w_sub2, w_sub3, w_put1, w_put2, w_put3, cmp_eq_int, cmp_ne_int, cmp_lt_int, cmp_gt_int, cmp_le_int, cmp_ge_int, bi_len_str, bi_len_tup, bi_len_lst, bi_tuple_lst, bi_list_lst, bi_max_int, items_lst, items_tup, items_itr, items_str, putT_one, e1, isi_str, Bool.not_true, e3, isNon, bnd, e2, ne_str, beq_self_eq_true]
theorem range1 {L : Nat} (h : L ≤ 1000) : biD .range [.int (L : Int)] = some (.itr ((List.range L).map fun (i : Nat) => D.int (i : Int))) := by
  rw [bi_range1 (okRange_of (by omega) (by omega)), intsFrom_map]
  congr 2
  rw [show (L : Int).toNat = L by omega]
  refine List.map_congr_left fun k _ => ?_
  congr 1
  omega
theorem fits_for (c : Call) (x : List Nat) (M : Sto) (hz : x.length ≤ 1000) : ∃ o, evS c sub (.for (.one 2) (.bi .range [.bi .len [.var 1]]) [.ite (.or (.not (.bi .isinst [.sub (.var 1) (.var 2), .con (.ty "str")])) (.cmp .ne (.sub (.var 1) (.var 2)) (.slc (.var 0) (.bin .mul (.con (.int 8)) (.var 2)) (.bin .add (.bin .mul (.con (.int 8)) (.var 2)) (.con (.int 8)))))) [.ret (.con (.bl false))] []])
      [some (.str x), some (.tup ((chop x).map D.str)), none] M = .ok .nx [some (.str x), some (.tup ((chop x).map D.str)), o] M := by
  have hl : ((chop x).map D.str).length ≤ 1000 := by rw [List.length_map, chop_len]; omega
  obtain ⟨ρ', M', h1, hM, o, rfl⟩ := forL_st (body := evSs c sub [.ite (.or (.not (.bi .isinst [.sub (.var 1) (.var 2), .con (.ty "str")])) (.cmp .ne (.sub (.var 1) (.var 2)) (.slc (.var 0) (.bin .mul (.con (.int 8)) (.var 2)) (.bin .add (.bin .mul (.con (.int 8)) (.var 2)) (.con (.int 8)))))) [.ret (.con (.bl false))] []]) (t := .one 2)
    (I := fun ρ M' => M' = M ∧ ∃ o, ρ = [some (.str x), some (.tup ((chop x).map D.str)), o]) (ds := (List.range ((chop x).map D.str).length).map fun (i : Nat) => D.int (i : Int)) (ρ := [some (.str x), some (.tup ((chop x).map D.str)), none]) (M := M) ⟨rfl, none, rfl⟩ (by
      rintro d hd ρ M2 ⟨rfl, o, rfl⟩
      obtain ⟨k, hk, rfl⟩ := List.mem_map.mp hd
      refine ⟨_, rfl, _, _, fits_body c x M2 o k ?_, rfl, _, rfl⟩
      rw [List.mem_range, List.length_map] at hk
      exact hk)
  rw [hM] at h1
  refine ⟨o, ?_⟩
  rw [es_for]
  have hr : evE c (.bi .range [.bi .len [.var 1]]) [some (.str x), some (.tup ((chop x).map D.str)), none] M = .ok (.itr ((List.range ((chop x).map D.str).length).map fun (i : Nat) => D.int (i : Int)), M) := by
    simp only [startE, ev_var, ev_bor, ev_con, ev_neg, ev_bin, ev_cmp, ev_chain, ev_and, ev_or, ev_not, ev_ite, ev_join, ev_call, ev_bi, ev_tup, ev_lst, ev_sub, ev_slc, ev_alloc, evs_nil, evs_cons, es_set, es_own, es_unp, es_ex, es_ret, es_reto, es_retn, es_ite, es_whl, es_for, es_brk, es_cnt, es_pass, es_raise, es_try, es_sto, es_oput, ess_nil, ess_cons, Ev.get, Ev.put, map1, map2, map3, List.length_cons, List.length_nil, List.replicate, List.cons_append, List.nil_append, List.getElem?_cons_zero, List.getElem?_cons_succ, List.set_cons_zero, List.set_cons_succ, Option.bind_some, id, Option.map_some, r_bind_ok, r_of_some, r_toS_ok, rs_nx, rs_rt, rs_exc, r_bind_exc, r_toS_exc, out_rt, out_nx, out_exc, nrm_int, nrm_bl, nrm_non, nrm_str, nrm_lst, nrm_tup, nrm_scr, nrm_ty, nrm_obj0, bin_mul_int, bin_add_int, bin_sub_int, bin_mod_int, bin_fdiv_int, bi_int_int, Nat.sub_self, w_sub0, w_sub1, w_sub2, w_sub3, w_put1, w_put2, w_put3, cmp_eq_int, cmp_ne_int, cmp_lt_int, cmp_gt_int, cmp_le_int, cmp_ge_int, bi_len_str, bi_len_tup, bi_len_lst, bi_tuple_lst, bi_list_lst, bi_max_int, items_lst, items_tup, items_itr, items_str, putT_one, range1 hl]
  rw [hr, R.toS_ok]
  exact h1
theorem fits_sp (n : Nat) (x : List Nat) (M : Sto) (hz : x.length ≤ 1000) : Ev.run sub Γ (n + 1) 15 [.str x, .tup ((chop x).map D.str)] M = .ok (.bl true, M) := by
  rw [call_of (F := f__law_fits) rfl rfl]
  obtain ⟨o, hf⟩ := fits_for (Ev.run sub Γ n) x M hz
  have d1 : divOk 8 = true := by decide
  have e1 : ((((chop x).map D.str).length : Int) == ((x.length : Int) + 7) / 8) = true := by
    rw [List.length_map, chop_len]
    exact beq_iff_eq.mpr (by omega)
  simp only [f__law_fits, b__law_fits, startE, ev_var, ev_bor, ev_con, ev_neg, ev_bin, ev_cmp, ev_chain, ev_and, ev_or, ev_not, ev_ite, ev_join, ev_call, ev_bi, ev_tup, ev_lst, ev_sub, ev_slc, ev_alloc, evs_nil, evs_cons, es_set, es_own, es_unp, es_ex, es_ret, es_reto, es_retn, es_ite, es_whl, es_brk, es_cnt, es_pass, es_raise, es_try, es_sto, es_oput, ess_nil, ess_cons, Ev.get, Ev.put, map1, map2, map3, List.length_cons, List.length_nil, List.replicate, List.cons_append, List.nil_append, List.getElem?_cons_zero, List.getElem?_cons_succ, List.set_cons_zero, List.set_cons_succ, Option.bind_some, id, Option.map_some, r_bind_ok, r_of_some, r_toS_ok, rs_nx, rs_rt, rs_exc, r_bind_exc, r_toS_exc, out_rt, out_nx, out_exc, nrm_int, nrm_bl, nrm_non, nrm_str, nrm_lst, nrm_tup, nrm_scr, nrm_ty, nrm_obj0, bin_mul_int, bin_add_int, bin_sub_int, bin_mod_int, bin_fdiv_int, bi_int_int, Nat.sub_self, w_sub0, w_sub1, w_sub2, w_sub3, w_put1, w_put2, w_put3, cmp_eq_int, cmp_ne_int, cmp_lt_int, cmp_gt_int, cmp_le_int, cmp_ge_int, bi_len_str, bi_len_tup, bi_len_lst, bi_tuple_lst, bi_list_lst, bi_max_int, items_lst, items_tup, items_itr, items_str, putT_one, isi_tup_tup, Bool.not_true, d1, e1, hf]
theorem bin_add_str {x y : List Nat} (h : x.length + y.length ≤ SZ) : binD .add (.str x) (.str y) = some (.str (x ++ y)) := by
  show (if x.length + y.length ≤ SZ then some (D.str (x ++ y)) else none) = _
  rw [if_pos h]
theorem bin_add_lst {x y : List D} (h : x.length + y.length ≤ SZ) : binD .add (.lst x) (.lst y) = some (.lst (x ++ y)) := by
  show (if x.length + y.length ≤ SZ then some (D.lst (x ++ y)) else none) = _
  rw [if_pos h]
theorem bin_add_tup {x y : List D} (h : x.length + y.length ≤ SZ) : binD .add (.tup x) (.tup y) = some (.tup (x ++ y)) := by
  show (if x.length + y.length ≤ SZ then some (D.tup (x ++ y)) else none) = _
  rw [if_pos h]
theorem strs_form {Q : List Nat → Prop} : ∀ {ys : List D}, (∀ y ∈ ys, ∃ x, y = .str x ∧ Q x) → ∃ xs : List (List Nat), ys = xs.map D.str ∧ ∀ x ∈ xs, Q x
  | [], _ => ⟨[], rfl, fun _ h => by cases h⟩
  | y :: ys, h => by
    obtain ⟨x, rfl, hx⟩ := h y List.mem_cons_self
    obtain ⟨xs, rfl, hs⟩ := strs_form (ys := ys) fun z hz => h z (List.mem_cons_of_mem _ hz)
    refine ⟨x :: xs, rfl, fun z hz => ?_⟩
    rcases List.mem_cons.mp hz with rfl | hz
    · exact hx
    · exact hs z hz
theorem sing_form {Q : Nat → Prop} : ∀ {xs : List (List Nat)}, (∀ x ∈ xs, ∃ c, x = [c] ∧ Q c) → xs.flatten.length = xs.length ∧ ∀ c ∈ xs.flatten, Q c
  | [], _ => ⟨rfl, fun _ h => by simp at h⟩
  | x :: xs, h => by
    obtain ⟨c, rfl, hc⟩ := h x List.mem_cons_self
    obtain ⟨h1, h2⟩ := sing_form (xs := xs) fun z hz => h z (List.mem_cons_of_mem _ hz)
    refine ⟨by rw [List.flatten_cons, List.length_append, List.length_singleton, List.length_cons, h1]; omega, fun z hz => ?_⟩
    rw [List.flatten_cons] at hz
    rcases List.mem_append.mp hz with hz | hz
    · rw [List.mem_singleton.mp hz]; exact hc
    · exact h2 z hz
def SG : List Nat := [32, 33, 34, 35, 36, 38, 39, 40, 41, 42, 43, 44, 45, 46, 47, 48, 49, 50, 51, 52, 53, 54, 55, 56, 57, 58, 59, 60, 61, 62, 63, 64, 65, 66, 67, 68, 69, 70, 71, 72, 73, 74, 75, 76, 77, 78, 79, 80, 81, 82, 83, 84, 85, 86, 87, 88, 89, 90, 91, 92, 93, 94, 95, 96] ++ [97, 98, 99, 100, 101, 102, 103, 104, 105, 106, 107, 108, 109, 110, 111, 112, 113, 114, 115, 116, 117, 118, 119, 120, 121, 122, 123, 124, 125, 126]
theorem SG_good : SG.length = 94 ∧ ∀ c ∈ SG, good c = true := by decide +kernel
theorem sg_sp (n : Nat) (M : Sto) : Ev.run sub Γ (n + 1) 10 [] M = .ok (.str SG, M) := by
  rw [call_of (F := f__law_signs) rfl rfl]
  rfl
theorem ints_len {m : Int} : (intsFrom 0 1 m.toNat).length = m.toNat := by
  rw [intsFrom_map, List.length_map, List.length_range]
theorem range_ev {c : Call} {e : E} {ρ : Env} {M M' : Sto} {m : Int} (h : evE c e ρ M = .ok (.int m, M')) (h1 : -1000000 ≤ m) (h2 : m ≤ 1000000) : evE c (.bi .range [e]) ρ M = .ok (.itr (intsFrom 0 1 m.toNat), M') := by
  simp only [ev_bi, evs_cons, evs_nil, h, r_bind_ok, map1, nrm_int, bi_range1 (okRange_of h1 h2), Option.map_some, r_of_some]
theorem string_sp (n : Nat) (M : Sto) (m : Int) (h : WellM M) (h0 : 0 ≤ m) (h1 : m ≤ 500) : ∃ x M', Ev.run sub Γ (n + 4) 11 [.obj 0, .int m] M = .ok (.str x, M') ∧ WellM M' ∧ x.length = m.toNat ∧ ∀ c ∈ x, good c = true := by
  have hr : evE (Ev.run sub Γ (n + 3)) (.bi .range [.var 1]) [some (.obj 0), some (.int m), some (.str SG), none] M = .ok (.itr (intsFrom 0 1 m.toNat), M) := range_ev rfl (by omega) (by omega)
  obtain ⟨ys, M', hc, hw, hl, hq⟩ := compL_st (c := Ev.run sub Γ (n + 3)) (el := evE (Ev.run sub Γ (n + 3)) (.sub (.var 2) (.call 8 [.var 0, .con (.int 94)]))) (t := .one 3) (ρ := [some (.obj 0), some (.int m), some (.str SG), none]) (I := WellM) (Q := fun y => ∃ x, y = .str x ∧ ∃ c, x = [c] ∧ good c = true) (ds := intsFrom 0 1 m.toNat) (M := M) h (fun d hd M2 hM2 => by
      obtain ⟨j, M3, hj, hw, j0, j1⟩ := draw_sp n M2 94 hM2 (by decide) (by decide)
      have hj2 : j.toNat < SG.length := by rw [SG_good.1]; omega
      have es : subD (.str SG) (.int j) = some (.str [SG[j.toNat]]) := by
        have := sub_str (xs := SG) (i := j.toNat) hj2
        rw [show ((j.toNat : Nat) : Int) = j by omega] at this
        exact this
      refine ⟨_, rfl, .str [SG[j.toNat]], M3, ?_, hw, _, rfl, _, rfl, SG_good.2 _ (List.getElem_mem _)⟩
      show evE (Ev.run sub Γ (n + 3)) (.sub (.var 2) (.call 8 [.var 0, .con (.int 94)])) [some (.obj 0), some (.int m), some (.str SG), some d] M2 = _
      simp only [startE, ev_var, ev_bor, ev_con, ev_neg, ev_bin, ev_cmp, ev_chain, ev_and, ev_or, ev_not, ev_ite, ev_join, ev_call, ev_bi, ev_tup, ev_lst, ev_sub, ev_slc, ev_alloc, evs_nil, evs_cons, es_set, es_own, es_unp, es_ex, es_ret, es_reto, es_retn, es_ite, es_whl, es_for, es_brk, es_cnt, es_pass, es_raise, es_try, es_sto, es_oput, ess_nil, ess_cons, Ev.get, Ev.put, map1, map2, map3, List.length_cons, List.length_nil, List.replicate, List.cons_append, List.nil_append, List.getElem?_cons_zero, List.getElem?_cons_succ, List.set_cons_zero, List.set_cons_succ, Option.bind_some, id, Option.map_some, r_bind_ok, r_of_some, r_toS_ok, rs_nx, rs_rt, rs_exc, r_bind_exc, r_toS_exc, out_rt, out_nx, out_exc, nrm_int, nrm_bl, nrm_non, nrm_str, nrm_lst, nrm_tup, nrm_scr, nrm_ty, nrm_obj0, bin_mul_int, bin_add_int, bin_sub_int, bin_mod_int, bin_fdiv_int, bi_int_int, Nat.sub_self, w_sub0, w_sub1, w_sub2, w_sub3, w_put1, w_put2, w_put3, cmp_eq_int, cmp_ne_int, cmp_lt_int, cmp_gt_int, cmp_le_int, cmp_ge_int, bi_len_str, bi_len_tup, bi_len_lst, bi_tuple_lst, bi_list_lst, bi_max_int, items_lst, items_tup, items_itr, items_str, putT_one, hj, es])
  have hz : (intsFrom 0 1 m.toNat).length ≤ SZ := by
    rw [ints_len]
    have : (1000 : Nat) ≤ SZ := by decide
    omega
  have he := ev_comp_of hr rfl hz hc
  obtain ⟨xs, rfl, hx⟩ := strs_form hq
  obtain ⟨f1, f2⟩ := sing_form hx
  rw [List.length_map, ints_len] at hl
  have hs : (xs.map List.length).sum ≤ SZ := by
    rw [← List.length_flatten, f1, hl]
    have : (1000 : Nat) ≤ SZ := by decide
    omega
  refine ⟨xs.flatten, M', ?_, hw, by rw [f1, hl], f2⟩
  rw [call_of (F := f__law_string) rfl rfl]
  simp only [f__law_string, b__law_string, startE, ev_var, ev_bor, ev_con, ev_neg, ev_bin, ev_cmp, ev_chain, ev_and, ev_or, ev_not, ev_ite, ev_join, ev_call, ev_bi, ev_tup, ev_lst, ev_sub, ev_slc, ev_alloc, evs_nil, evs_cons, es_set, es_own, es_unp, es_ex, es_ret, es_reto, es_retn, es_ite, es_whl, es_for, es_brk, es_cnt, es_pass, es_raise, es_try, es_sto, es_oput, ess_nil, ess_cons, Ev.get, Ev.put, map1, map2, map3, List.length_cons, List.length_nil, List.replicate, List.cons_append, List.nil_append, List.getElem?_cons_zero, List.getElem?_cons_succ, List.set_cons_zero, List.set_cons_succ, Option.bind_some, id, Option.map_some, r_bind_ok, r_of_some, r_toS_ok, rs_nx, rs_rt, rs_exc, r_bind_exc, r_toS_exc, out_rt, out_nx, out_exc, nrm_int, nrm_bl, nrm_non, nrm_str, nrm_lst, nrm_tup, nrm_scr, nrm_ty, nrm_obj0, bin_mul_int, bin_add_int, bin_sub_int, bin_mod_int, bin_fdiv_int, bi_int_int, Nat.sub_self, w_sub0, w_sub1, w_sub2, w_sub3, w_put1, w_put2, w_put3, cmp_eq_int, cmp_ne_int, cmp_lt_int, cmp_gt_int, cmp_le_int, cmp_ge_int, bi_len_str, bi_len_tup, bi_len_lst, bi_tuple_lst, bi_list_lst, bi_max_int, items_lst, items_tup, items_itr, items_str, putT_one, sg_sp, he, join_spl xs hs]
theorem piece_of {x : List Nat} (h1 : 1 ≤ x.length) (h2 : x.length ≤ 8) (h : ∀ c ∈ x, good c = true) : pieceB x = true := by
  unfold pieceB signsB
  rw [decide_eq_false (by omega), decide_eq_false (by omega), List.all_eq_true.mpr h]
  rfl
theorem text_of {x : List Nat} (h2 : x.length ≤ 96) (h : ∀ c ∈ x, good c = true) : textB x = true := by
  unfold textB signsB
  rw [decide_eq_false (by omega), decide_eq_false (by omega), List.all_eq_true.mpr h]
  rfl
theorem pieces_el {n : Nat} {k : E} {ρ : Env} {h0 : Ev.get ρ 0 = some (.obj 0)} (hk : ∀ d M, WellM M → ∃ m M', evE (Ev.run sub Γ (n + 4)) k (Ev.put ρ 3 d) M = .ok (.int m, M') ∧ WellM M' ∧ 1 ≤ m ∧ m ≤ 8) :
    ∀ d M, WellM M → ∃ ρ', putT ρ (.one 3) d = some ρ' ∧ ∃ y M', evE (Ev.run sub Γ (n + 4)) (.call 11 [.var 0, k]) ρ' M = .ok (y, M') ∧ WellM M' ∧ ∃ x, y = .str x ∧ pieceB x = true := fun d M hM => by
  obtain ⟨m, M1, e1, hw1, m1, m2⟩ := hk d M hM
  obtain ⟨x, M2, e2, hw2, l2, g2⟩ := string_sp n M1 m hw1 (by omega) (by omega)
  refine ⟨_, rfl, .str x, M2, ?_, hw2, x, rfl, piece_of (by omega) (by omega) g2⟩
  have g0 : Ev.get (Ev.put ρ 3 d) 0 = some (.obj 0) := by rw [get_put_ne (by decide)]; exact h0
  simp only [ev_call, evs_cons, evs_nil, ev_var, g0, Option.map_some, r_of_some, r_bind_ok, e1, e2]
theorem pieces_sp (n : Nat) (M : Sto) (h : WellM M) : ∃ (xs : List (List Nat)) (M' : Sto), Ev.run sub Γ (n + 5) 12 [.obj 0] M = .ok (.lst (xs.map D.str), M') ∧ WellM M' ∧ xs.length ≤ 12 ∧ ∀ x ∈ xs, pieceB x = true := by
  obtain ⟨m, M1, e1, hw1, m0, m1⟩ := draw_sp (n + 1) M 13 h (by decide) (by decide)
  obtain ⟨f, M2, e2, hw2, f0, f1⟩ := draw_sp (n + 1) M1 4 hw1 (by decide) (by decide)
  have S1000 : (1000 : Nat) ≤ SZ := by decide
  by_cases hf : f = 0
  · subst hf
    obtain ⟨ys, M3, hc, hw, hl, hq⟩ := compL_st (c := Ev.run sub Γ (n + 4)) (el := evE (Ev.run sub Γ (n + 4)) (.call 11 [.var 0, .con (.int 8)])) (t := .one 3) (ρ := [some (.obj 0), some (.int m), some (.bl true), none]) (I := WellM) (Q := fun y => ∃ x, y = .str x ∧ pieceB x = true) (ds := intsFrom 0 1 (12 : Int).toNat) (M := M2) hw2 (fun d _ => pieces_el (h0 := rfl) (fun d M hM => ⟨8, M, ev_con, hM, by decide, by decide⟩) d)
    have he := ev_comp_of (range_ev (c := Ev.run sub Γ (n + 4)) (e := .con (.int 12)) (ρ := [some (.obj 0), some (.int m), some (.bl true), none]) (M := M2) (M' := M2) (m := 12) ev_con (by decide) (by decide)) rfl (by rw [ints_len]; exact Nat.le_trans (by decide) S1000) hc
    obtain ⟨xs, rfl, hx⟩ := strs_form hq
    rw [List.length_map, ints_len] at hl
    refine ⟨xs, M3, ?_, hw, by rw [hl]; decide, hx⟩
    rw [call_of (F := f__law_pieces) rfl rfl]
    simp only [f__law_pieces, b__law_pieces, startE, ev_var, ev_bor, ev_con, ev_neg, ev_bin, ev_cmp, ev_chain, ev_and, ev_or, ev_not, ev_ite, ev_join, ev_call, ev_bi, ev_tup, ev_lst, ev_sub, ev_slc, ev_alloc, evs_nil, evs_cons, es_set, es_own, es_unp, es_ex, es_ret, es_reto, es_retn, es_ite, es_whl, es_for, es_brk, es_cnt, es_pass, es_raise, es_try, es_sto, es_oput, ess_nil, ess_cons, Ev.get, Ev.put, map1, map2, map3, List.length_cons, List.length_nil, List.replicate, List.cons_append, List.nil_append, List.getElem?_cons_zero, List.getElem?_cons_succ, List.set_cons_zero, List.set_cons_succ, Option.bind_some, id, Option.map_some, r_bind_ok, r_of_some, r_toS_ok, rs_nx, rs_rt, rs_exc, r_bind_exc, r_toS_exc, out_rt, out_nx, out_exc, nrm_int, nrm_bl, nrm_non, nrm_str, nrm_lst, nrm_tup, nrm_scr, nrm_ty, nrm_obj0, bin_mul_int, bin_add_int, bin_sub_int, bin_mod_int, bin_fdiv_int, bi_int_int, Nat.sub_self, w_sub0, w_sub1, w_sub2, w_sub3, w_put1, w_put2, w_put3, cmp_eq_int, cmp_ne_int, cmp_lt_int, cmp_gt_int, cmp_le_int, cmp_ge_int, bi_len_str, bi_len_tup, bi_len_lst, bi_tuple_lst, bi_list_lst, bi_max_int, items_lst, items_tup, items_itr, items_str, putT_one, e1, e2, beq_self_eq_true, he]
  · have nf : (f == 0) = false := by rw [beq_eq_false_iff_ne]; exact hf
    obtain ⟨ys, M3, hc, hw, hl, hq⟩ := compL_st (c := Ev.run sub Γ (n + 4)) (el := evE (Ev.run sub Γ (n + 4)) (.call 11 [.var 0, .bin .add (.con (.int 1)) (.call 8 [.var 0, .con (.int 8)])])) (t := .one 3) (ρ := [some (.obj 0), some (.int m), some (.bl false), none]) (I := WellM) (Q := fun y => ∃ x, y = .str x ∧ pieceB x = true) (ds := intsFrom 0 1 m.toNat) (M := M2) hw2 (fun d _ => pieces_el (h0 := rfl) (fun d M hM => by
        obtain ⟨j, M', ej, hw', j0, j1⟩ := draw_sp (n + 1) M 8 hM (by decide) (by decide)
        refine ⟨1 + j, M', ?_, hw', by omega, by omega⟩
        have g0 : Ev.get (Ev.put [some (.obj 0), some (.int m), some (.bl false), none] 3 d) 0 = some (.obj 0) := rfl
        simp only [ev_bin, ev_con, ev_call, evs_cons, evs_nil, ev_var, g0, Option.map_some, r_of_some, r_bind_ok, ej, nrm_int, bin_add_int]) d)
    have he := ev_comp_of (range_ev (c := Ev.run sub Γ (n + 4)) (e := .var 1) (ρ := [some (.obj 0), some (.int m), some (.bl false), none]) (M := M2) (M' := M2) (m := m) rfl (by omega) (by omega)) rfl (by rw [ints_len]; omega) hc
    obtain ⟨xs, rfl, hx⟩ := strs_form hq
    rw [List.length_map, ints_len] at hl
    refine ⟨xs, M3, ?_, hw, by omega, hx⟩
    rw [call_of (F := f__law_pieces) rfl rfl]
    simp only [f__law_pieces, b__law_pieces, startE, ev_var, ev_bor, ev_con, ev_neg, ev_bin, ev_cmp, ev_chain, ev_and, ev_or, ev_not, ev_ite, ev_join, ev_call, ev_bi, ev_tup, ev_lst, ev_sub, ev_slc, ev_alloc, evs_nil, evs_cons, es_set, es_own, es_unp, es_ex, es_ret, es_reto, es_retn, es_ite, es_whl, es_for, es_brk, es_cnt, es_pass, es_raise, es_try, es_sto, es_oput, ess_nil, ess_cons, Ev.get, Ev.put, map1, map2, map3, List.length_cons, List.length_nil, List.replicate, List.cons_append, List.nil_append, List.getElem?_cons_zero, List.getElem?_cons_succ, List.set_cons_zero, List.set_cons_succ, Option.bind_some, id, Option.map_some, r_bind_ok, r_of_some, r_toS_ok, rs_nx, rs_rt, rs_exc, r_bind_exc, r_toS_exc, out_rt, out_nx, out_exc, nrm_int, nrm_bl, nrm_non, nrm_str, nrm_lst, nrm_tup, nrm_scr, nrm_ty, nrm_obj0, bin_mul_int, bin_add_int, bin_sub_int, bin_mod_int, bin_fdiv_int, bi_int_int, Nat.sub_self, w_sub0, w_sub1, w_sub2, w_sub3, w_put1, w_put2, w_put3, cmp_eq_int, cmp_ne_int, cmp_lt_int, cmp_gt_int, cmp_le_int, cmp_ge_int, bi_len_str, bi_len_tup, bi_len_lst, bi_tuple_lst, bi_list_lst, bi_max_int, items_lst, items_tup, items_itr, items_str, putT_one, e1, e2, nf, he]
theorem not_text {y : List Nat} (h : ∃ c ∈ y, good c = false) : textB y = false := by
  obtain ⟨c, hc, hg⟩ := h
  have : y.all good = false := by
    rw [List.all_eq_false]
    exact ⟨c, hc, by rw [hg]; decide⟩
  unfold textB signsB
  rw [this, Bool.and_false, Bool.and_false]
theorem long_text {y : List Nat} (h : 96 < y.length) : textB y = false := by
  unfold textB signsB
  rw [decide_eq_true (show (96 : Int) < (y.length : Int) by omega), Bool.not_true, Bool.false_and, Bool.and_false]
theorem spoilt_text_sp (n : Nat) (x : List Nat) (M : Sto) (h : WellM M) (hx : x.length ≤ 96) : ∃ (y : List Nat) (M' : Sto), Ev.run sub Γ (n + 5) 13 [.str x, .obj 0] M = .ok (.str y, M') ∧ WellM M' ∧ textB y = false ∧ y.length ≤ 1000 := by
  obtain ⟨k, M1, e1, hw1, k0, k1⟩ := draw_sp (n + 1) M 2 h (by decide) (by decide)
  have S1000 : (1000 : Nat) ≤ SZ := by decide
  rw [call_of (F := f__law_spoilt_text) rfl rfl]
  by_cases hk : k = 0
  · subst hk
    obtain ⟨j, M2, e2, hw2, j0, j1⟩ := draw_sp (n + 1) M1 34 hw1 (by decide) (by decide)
    obtain ⟨s, M3, e3, hw3, l3, g3⟩ := string_sp n M2 (97 - (x.length : Int) + j) hw2 (by omega) (by omega)
    have e4 : binD .add (.str x) (.str s) = some (.str (x ++ s)) := bin_add_str (by omega)
    refine ⟨x ++ s, M3, ?_, hw3, long_text (by rw [List.length_append]; omega), by rw [List.length_append]; omega⟩
    simp only [f__law_spoilt_text, b__law_spoilt_text, startE, ev_var, ev_bor, ev_con, ev_neg, ev_bin, ev_cmp, ev_chain, ev_and, ev_or, ev_not, ev_ite, ev_join, ev_call, ev_bi, ev_tup, ev_lst, ev_sub, ev_slc, ev_alloc, evs_nil, evs_cons, es_set, es_own, es_unp, es_ex, es_ret, es_reto, es_retn, es_ite, es_whl, es_for, es_brk, es_cnt, es_pass, es_raise, es_try, es_sto, es_oput, ess_nil, ess_cons, Ev.get, Ev.put, map1, map2, map3, List.length_cons, List.length_nil, List.replicate, List.cons_append, List.nil_append, List.getElem?_cons_zero, List.getElem?_cons_succ, List.set_cons_zero, List.set_cons_succ, Option.bind_some, id, Option.map_some, r_bind_ok, r_of_some, r_toS_ok, rs_nx, rs_rt, rs_exc, r_bind_exc, r_toS_exc, out_rt, out_nx, out_exc, nrm_int, nrm_bl, nrm_non, nrm_str, nrm_lst, nrm_tup, nrm_scr, nrm_ty, nrm_obj0, bin_mul_int, bin_add_int, bin_sub_int, bin_mod_int, bin_fdiv_int, bi_int_int, Nat.sub_self, w_sub0, w_sub1, w_sub2, w_sub3, w_put1, w_put2, w_put3, cmp_eq_int, cmp_ne_int, cmp_lt_int, cmp_gt_int, cmp_le_int, cmp_ge_int, bi_len_str, bi_len_tup, bi_len_lst, bi_tuple_lst, bi_list_lst, bi_max_int, items_lst, items_tup, items_itr, items_str, putT_one, e1, beq_self_eq_true, e2, e3, e4]
  · have nk : (k == 0) = false := by rw [beq_eq_false_iff_ne]; exact hk
    obtain ⟨at', M2, e2, hw2, a0, a1⟩ := draw_sp (n + 1) M1 ((x.length : Int) + 1) hw1 (by omega) (by omega)
    have c1 := cut_len x none (some at')
    have c2 := cut_len x (some (at' + 1)) none
    have e4 : binD .add (.str (cut x none (some at'))) (.str [10]) = some (.str (cut x none (some at') ++ [10])) := bin_add_str (by simp only [List.length_singleton]; omega)
    have e5 : binD .add (.str (cut x none (some at') ++ [10])) (.str (cut x (some (at' + 1)) none)) = some (.str (cut x none (some at') ++ [10] ++ cut x (some (at' + 1)) none)) := bin_add_str (by simp only [List.length_append, List.length_singleton]; omega)
    have s1 : slcD (.str x) none (some at') = some (.str (cut x none (some at'))) := rfl
    have s2 : slcD (.str x) (some (at' + 1)) none = some (.str (cut x (some (at' + 1)) none)) := rfl
    refine ⟨cut x none (some at') ++ [10] ++ cut x (some (at' + 1)) none, M2, ?_, hw2, not_text ⟨10, List.mem_append_left _ (List.mem_append_right _ List.mem_cons_self), rfl⟩, ?_⟩
    · simp only [f__law_spoilt_text, b__law_spoilt_text, startE, ev_var, ev_bor, ev_con, ev_neg, ev_bin, ev_cmp, ev_chain, ev_and, ev_or, ev_not, ev_ite, ev_join, ev_call, ev_bi, ev_tup, ev_lst, ev_sub, ev_slc, ev_alloc, evs_nil, evs_cons, es_set, es_own, es_unp, es_ex, es_ret, es_reto, es_retn, es_ite, es_whl, es_for, es_brk, es_cnt, es_pass, es_raise, es_try, es_sto, es_oput, ess_nil, ess_cons, Ev.get, Ev.put, map1, map2, map3, List.length_cons, List.length_nil, List.replicate, List.cons_append, List.nil_append, List.getElem?_cons_zero, List.getElem?_cons_succ, List.set_cons_zero, List.set_cons_succ, Option.bind_some, id, Option.map_some, r_bind_ok, r_of_some, r_toS_ok, rs_nx, rs_rt, rs_exc, r_bind_exc, r_toS_exc, out_rt, out_nx, out_exc, nrm_int, nrm_bl, nrm_non, nrm_str, nrm_lst, nrm_tup, nrm_scr, nrm_ty, nrm_obj0, bin_mul_int, bin_add_int, bin_sub_int, bin_mod_int, bin_fdiv_int, bi_int_int, Nat.sub_self, w_sub0, w_sub1, w_sub2, w_sub3, w_put1, w_put2, w_put3, cmp_eq_int, cmp_ne_int, cmp_lt_int, cmp_gt_int, cmp_le_int, cmp_ge_int, bi_len_str, bi_len_tup, bi_len_lst, bi_tuple_lst, bi_list_lst, bi_max_int, items_lst, items_tup, items_itr, items_str, putT_one, e1, nk, e2, isNon, bnd, s1, s2, e4, e5]
    · simp only [List.length_append, List.length_singleton]; omega
theorem piecesB_no {ds : List D} (h : ∃ d ∈ ds, pieceD d = false) : piecesB ds = false := by
  obtain ⟨d, hd, hg⟩ := h
  have : ds.all pieceD = false := by
    rw [List.all_eq_false]
    exact ⟨d, hd, by rw [hg]; decide⟩
  unfold piecesB
  rw [this, Bool.and_false]
theorem piecesB_long {ds : List D} (h : 12 < ds.length) : piecesB ds = false := by
  unfold piecesB
  rw [decide_eq_true (show (12 : Int) < (ds.length : Int) by omega), Bool.not_true, Bool.false_and]
theorem all_str {xs : List (List Nat)} (h : ∀ x ∈ xs, pieceB x = true) : ∀ d ∈ xs.map D.str, d = .non ∨ ∃ x, d = .str x ∧ x.length ≤ 1000 := fun d hd => by
  obtain ⟨x, hx, rfl⟩ := List.mem_map.mp hd
  exact .inr ⟨x, rfl, Nat.le_trans (pieceB_len (h x hx)).2.1 (by decide)⟩
theorem cut13 {α : Type} {l : List α} (h : 13 ≤ l.length) : (cut l none (some 13)).length = 13 := by
  have e : sIx l.length l.length (some 13) = 13 := by
    show (if (13 : Int) < 0 then ((13 : Int) + (l.length : Int)).toNat else min (13 : Int).toNat l.length) = 13
    rw [if_neg (by decide)]
    exact Nat.min_eq_left h
  unfold cut
  rw [e]
  show ((l.drop 0).take (13 - 0)).length = 13
  rw [List.drop_zero, Nat.sub_zero, List.length_take]
  omega
def Refused (d : D) : Prop := ∀ (n : Nat) (M : Sto), Ev.run sub Γ (n + 3) 4 [d] M = .exc ⟨2, []⟩ M
theorem one_el {n : Nat} {ρ : Env} {h0 : Ev.get ρ 1 = some (.obj 0)} : ∀ d M, WellM M → ∃ ρ', putT ρ (.one 5) d = some ρ' ∧ ∃ y M', evE (Ev.run sub Γ (n + 4)) (.call 11 [.var 1, .con (.int 1)]) ρ' M = .ok (y, M') ∧ WellM M' ∧ ∃ x, y = .str x ∧ pieceB x = true := fun d M hM => by
  obtain ⟨x, M2, e2, hw2, l2, g2⟩ := string_sp n M 1 hM (by decide) (by decide)
  refine ⟨_, rfl, .str x, M2, ?_, hw2, x, rfl, piece_of (by omega) (by omega) g2⟩
  have g0 : Ev.get (Ev.put ρ 5 d) 1 = some (.obj 0) := by rw [get_put_ne (by decide)]; exact h0
  simp only [ev_call, ev_con, evs_cons, evs_nil, ev_var, g0, Option.map_some, r_of_some, r_bind_ok, e2]
theorem spoilt_pieces_sp (n : Nat) (xs : List (List Nat)) (M : Sto) (h : WellM M) (hl : xs.length ≤ 12) (hx : ∀ x ∈ xs, pieceB x = true) : ∃ (d : D) (M' : Sto), Ev.run sub Γ (n + 5) 14 [.lst (xs.map D.str), .obj 0] M = .ok (d, M') ∧ WellM M' ∧ Refused d := by
  obtain ⟨k, M1, e1, hw1, k0, k1⟩ := draw_sp (n + 1) M 6 h (by decide) (by decide)
  have S1000 : (1000 : Nat) ≤ SZ := by decide
  have lm : ((xs.map D.str).length : Int) = (xs.length : Int) := by rw [List.length_map]
  obtain ⟨mx, hmx, m0, m1⟩ : ∃ m : Int, (if ((xs.map D.str).length : Int) > 1 then ((xs.map D.str).length : Int) else 1) = m ∧ 0 < m ∧ m < 100 := by
    split
    · exact ⟨_, rfl, by omega, by omega⟩
    · exact ⟨_, rfl, by omega, by omega⟩
  obtain ⟨at', M2, e2, hw2, a0, a1⟩ := draw_sp (n + 1) M1 mx hw1 m0 (by omega)
  rw [call_of (F := f__law_spoilt_pieces) rfl rfl]
  by_cases hk0 : k = 0
  · subst hk0
    refine ⟨.lst (xs.map D.str), M2, ?_, hw2, fun n M => joined_lst n _ M⟩
    simp only [f__law_spoilt_pieces, b__law_spoilt_pieces, startE, ev_var, ev_bor, ev_con, ev_neg, ev_bin, ev_cmp, ev_chain, ev_and, ev_or, ev_not, ev_ite, ev_join, ev_call, ev_bi, ev_tup, ev_lst, ev_sub, ev_slc, ev_alloc, evs_nil, evs_cons, es_set, es_own, es_unp, es_ex, es_ret, es_reto, es_retn, es_ite, es_whl, es_for, es_brk, es_cnt, es_pass, es_raise, es_try, es_sto, es_oput, ess_nil, ess_cons, Ev.get, Ev.put, map1, map2, map3, List.length_cons, List.length_nil, List.replicate, List.cons_append, List.nil_append, List.getElem?_cons_zero, List.getElem?_cons_succ, List.set_cons_zero, List.set_cons_succ, Option.bind_some, id, Option.map_some, r_bind_ok, r_of_some, r_toS_ok, rs_nx, rs_rt, rs_exc, r_bind_exc, r_toS_exc, out_rt, out_nx, out_exc, nrm_int, nrm_bl, nrm_non, nrm_str, nrm_lst, nrm_tup, nrm_scr, nrm_ty, nrm_obj0, bin_mul_int, bin_add_int, bin_sub_int, bin_mod_int, bin_fdiv_int, bi_int_int, Nat.sub_self, w_sub0, w_sub1, w_sub2, w_sub3, w_put1, w_put2, w_put3, cmp_eq_int, cmp_ne_int, cmp_lt_int, cmp_gt_int, cmp_le_int, cmp_ge_int, bi_len_str, bi_len_tup, bi_len_lst, bi_tuple_lst, bi_list_lst, bi_max_int, items_lst, items_tup, items_itr, items_str, putT_one, e1, hmx, e2, beq_self_eq_true]
  · have nk0 : (k == 0) = false := by rw [beq_eq_false_iff_ne]; exact hk0
    by_cases hk1 : k = 1
    · subst hk1
      obtain ⟨ys, M3, hc, hw, hly, hq⟩ := compL_st (c := Ev.run sub Γ (n + 4)) (el := evE (Ev.run sub Γ (n + 4)) (.call 11 [.var 1, .con (.int 1)])) (t := .one 5) (ρ := [some (.lst (xs.map D.str)), some (.obj 0), some (.int 1), some (.int at'), none, none]) (I := WellM) (Q := fun y => ∃ x, y = .str x ∧ pieceB x = true) (ds := intsFrom 0 1 (13 : Int).toNat) (M := M2) hw2 (fun d _ => one_el (h0 := rfl) d)
      have he := ev_comp_of (range_ev (c := Ev.run sub Γ (n + 4)) (e := .con (.int 13)) (ρ := [some (.lst (xs.map D.str)), some (.obj 0), some (.int 1), some (.int at'), none, none]) (M := M2) (M' := M2) (m := 13) ev_con (by decide) (by decide)) rfl (by rw [ints_len]; exact Nat.le_trans (by decide) S1000) hc
      obtain ⟨zs, rfl, hz⟩ := strs_form hq
      rw [List.length_map, ints_len] at hly
      have hly : zs.length = 13 := hly
      have e3 : binD .add (.lst (xs.map D.str)) (.lst (zs.map D.str)) = some (.lst (xs.map D.str ++ zs.map D.str)) := bin_add_lst (by rw [List.length_map, List.length_map]; omega)
      have s1 : slcD (.lst (xs.map D.str ++ zs.map D.str)) none (some 13) = some (.lst (cut (xs.map D.str ++ zs.map D.str) none (some 13))) := rfl
      refine ⟨.tup (cut (xs.map D.str ++ zs.map D.str) none (some 13)), M3, ?_, hw, fun n M => joined_no n _ M (fun d hd => ?_) (piecesB_long ?_)⟩
      · simp only [f__law_spoilt_pieces, b__law_spoilt_pieces, startE, ev_var, ev_bor, ev_con, ev_neg, ev_bin, ev_cmp, ev_chain, ev_and, ev_or, ev_not, ev_ite, ev_join, ev_call, ev_bi, ev_tup, ev_lst, ev_sub, ev_slc, ev_alloc, evs_nil, evs_cons, es_set, es_own, es_unp, es_ex, es_ret, es_reto, es_retn, es_ite, es_whl, es_for, es_brk, es_cnt, es_pass, es_raise, es_try, es_sto, es_oput, ess_nil, ess_cons, Ev.get, Ev.put, map1, map2, map3, List.length_cons, List.length_nil, List.replicate, List.cons_append, List.nil_append, List.getElem?_cons_zero, List.getElem?_cons_succ, List.set_cons_zero, List.set_cons_succ, Option.bind_some, id, Option.map_some, r_bind_ok, r_of_some, r_toS_ok, rs_nx, rs_rt, rs_exc, r_bind_exc, r_toS_exc, out_rt, out_nx, out_exc, nrm_int, nrm_bl, nrm_non, nrm_str, nrm_lst, nrm_tup, nrm_scr, nrm_ty, nrm_obj0, bin_mul_int, bin_add_int, bin_sub_int, bin_mod_int, bin_fdiv_int, bi_int_int, Nat.sub_self, w_sub0, w_sub1, w_sub2, w_sub3, w_put1, w_put2, w_put3, cmp_eq_int, cmp_ne_int, cmp_lt_int, cmp_gt_int, cmp_le_int, cmp_ge_int, bi_len_str, bi_len_tup, bi_len_lst, bi_tuple_lst, bi_list_lst, bi_max_int, items_lst, items_tup, items_itr, items_str, putT_one, e1, hmx, e2, nk0, show ((1 : Int) == 0) = false from rfl, beq_self_eq_true, he, e3, isNon, bnd, s1]
      · rcases List.mem_append.mp (cut_mem hd) with hd | hd
        · exact all_str hx d hd
        · exact all_str hz d hd
      · rw [cut13 (by rw [List.length_append, List.length_map, List.length_map]; omega)]
        decide
    · have nk1 : (k == 1) = false := by rw [beq_eq_false_iff_ne]; exact hk1
      obtain ⟨j, M3, e3, hw3, j0, j1⟩ := draw_sp (n + 1) M2 4 hw2 (by decide) (by decide)
      obtain ⟨s, M4, e4, hw4, l4, g4⟩ := string_sp n M3 (9 + j) hw3 (by omega) (by omega)
      obtain ⟨bad, eb, hb, hs⟩ : ∃ bad, subD (.lst [.str [], .str s, .str [97, 10], .non]) (.int (k - 2)) = some bad ∧ pieceD bad = false ∧ (bad = .non ∨ ∃ x, bad = .str x ∧ x.length ≤ 1000) := by
        have hk : k = 2 ∨ k = 3 ∨ k = 4 ∨ k = 5 := by omega
        rcases hk with rfl | rfl | rfl | rfl
        · exact ⟨_, rfl, rfl, .inr ⟨_, rfl, by decide⟩⟩
        · refine ⟨_, rfl, ?_, .inr ⟨_, rfl, by omega⟩⟩
          show signsB s 1 8 = false
          unfold signsB
          rw [decide_eq_true (show (8 : Int) < (s.length : Int) by omega), Bool.not_true, Bool.false_and, Bool.and_false]
        · exact ⟨_, rfl, by decide +kernel, .inr ⟨_, rfl, by decide⟩⟩
        · exact ⟨_, rfl, rfl, .inl rfl⟩
      have c1 := cut_len (xs.map D.str) none (some at')
      have c2 := cut_len (xs.map D.str) (some (at' + 1)) none
      rw [List.length_map] at c1 c2
      have e5 : binD .add (.lst (cut (xs.map D.str) none (some at'))) (.lst [bad]) = some (.lst (cut (xs.map D.str) none (some at') ++ [bad])) := bin_add_lst (by simp only [List.length_singleton]; omega)
      have e6 : binD .add (.lst (cut (xs.map D.str) none (some at') ++ [bad])) (.lst (cut (xs.map D.str) (some (at' + 1)) none)) = some (.lst (cut (xs.map D.str) none (some at') ++ [bad] ++ cut (xs.map D.str) (some (at' + 1)) none)) := bin_add_lst (by simp only [List.length_append, List.length_singleton]; omega)
      have s1 : slcD (.lst (xs.map D.str)) none (some at') = some (.lst (cut (xs.map D.str) none (some at'))) := rfl
      have s2 : slcD (.lst (xs.map D.str)) (some (at' + 1)) none = some (.lst (cut (xs.map D.str) (some (at' + 1)) none)) := rfl
      refine ⟨.tup (cut (xs.map D.str) none (some at') ++ [bad] ++ cut (xs.map D.str) (some (at' + 1)) none), M4, ?_, hw4, fun n M => joined_no n _ M (fun d hd => ?_) (piecesB_no ⟨bad, List.mem_append_left _ (List.mem_append_right _ List.mem_cons_self), hb⟩)⟩
      · simp only [f__law_spoilt_pieces, b__law_spoilt_pieces, startE, ev_var, ev_bor, ev_con, ev_neg, ev_bin, ev_cmp, ev_chain, ev_and, ev_or, ev_not, ev_ite, ev_join, ev_call, ev_bi, ev_tup, ev_lst, ev_sub, ev_slc, ev_alloc, evs_nil, evs_cons, es_set, es_own, es_unp, es_ex, es_ret, es_reto, es_retn, es_ite, es_whl, es_for, es_brk, es_cnt, es_pass, es_raise, es_try, es_sto, es_oput, ess_nil, ess_cons, Ev.get, Ev.put, map1, map2, map3, List.length_cons, List.length_nil, List.replicate, List.cons_append, List.nil_append, List.getElem?_cons_zero, List.getElem?_cons_succ, List.set_cons_zero, List.set_cons_succ, Option.bind_some, id, Option.map_some, r_bind_ok, r_of_some, r_toS_ok, rs_nx, rs_rt, rs_exc, r_bind_exc, r_toS_exc, out_rt, out_nx, out_exc, nrm_int, nrm_bl, nrm_non, nrm_str, nrm_lst, nrm_tup, nrm_scr, nrm_ty, nrm_obj0, bin_mul_int, bin_add_int, bin_sub_int, bin_mod_int, bin_fdiv_int, bi_int_int, Nat.sub_self, w_sub0, w_sub1, w_sub2, w_sub3, w_put1, w_put2, w_put3, cmp_eq_int, cmp_ne_int, cmp_lt_int, cmp_gt_int, cmp_le_int, cmp_ge_int, bi_len_str, bi_len_tup, bi_len_lst, bi_tuple_lst, bi_list_lst, bi_max_int, items_lst, items_tup, items_itr, items_str, putT_one, e1, hmx, e2, nk0, nk1, e3, e4, eb, isNon, bnd, s1, s2, e5, e6]
      · rcases List.mem_append.mp hd with hd | hd
        · rcases List.mem_append.mp hd with hd | hd
          · exact all_str hx d (cut_mem hd)
          · rw [List.mem_singleton.mp hd]; exact hs
        · exact all_str hx d (cut_mem hd)
theorem chop_app {a b : List Nat} (h : 8 ∣ a.length) : chop (a ++ b) = chop a ++ chop b := by
  obtain ⟨q, hq⟩ := h
  refine List.ext_getElem ?_ fun i h1 h2 => ?_
  · rw [List.length_append, chop_len, chop_len, chop_len, List.length_append, hq]
    omega
  · rw [chop_get]
    rw [List.getElem_append]
    split
    · rename_i h3
      rw [chop_get]
      rw [chop_len, hq] at h3
      have hd : 8 * i + 8 ≤ a.length := by omega
      rw [List.drop_append_of_le_length (by omega), List.take_append_of_le_length (by rw [List.length_drop]; omega)]
    · rename_i h3
      rw [chop_get]
      rw [chop_len, hq] at h3
      have e : (chop a).length = q := by rw [chop_len, hq]; omega
      have e8 : 8 * i = a.length + 8 * (i - (chop a).length) := by rw [e, hq]; omega
      rw [e8, List.drop_length_add_append]
theorem chop_flat (x : List Nat) : (chop x).flatten = x := by
  have key : ∀ n (x : List Nat), x.length ≤ n → (chop x).flatten = x := by
    intro n
    induction n with
    | zero =>
      intro x h
      have : x = [] := List.length_eq_zero_iff.mp (by omega)
      subst this
      rfl
    | succ n ih =>
      intro x h
      by_cases h8 : x.length ≤ 8
      · by_cases h0 : x.length = 0
        · have : x = [] := List.length_eq_zero_iff.mp h0
          subst this
          rfl
        · have e : (x.length + 7) / 8 = 1 := by omega
          unfold chop
          rw [e]
          show ((x.drop (8 * 0)).take 8 :: []).flatten = x
          simp [List.take_of_length_le h8]
      · have e : chop x = chop (x.take 8) ++ chop (x.drop 8) := by
          conv => lhs; rw [← List.take_append_drop 8 x]
          exact chop_app (by rw [List.length_take]; exact ⟨1, by omega⟩)
        have e1 : (chop (x.take 8)).flatten = x.take 8 := by
          have l8 : (x.take 8).length = 8 := by rw [List.length_take]; omega
          unfold chop
          rw [l8]
          show (((x.take 8).drop (8 * 0)).take 8 :: []).flatten = x.take 8
          simp [List.take_of_length_le (Nat.le_of_eq l8)]
        rw [e, List.flatten_append, e1, ih (x.drop 8) (by rw [List.length_drop]; omega), List.take_append_drop]
  exact key x.length x (Nat.le_refl _)
theorem chop_piece {x : List Nat} (h : ∀ c ∈ x, good c = true) : ∀ y ∈ chop x, pieceB y = true := fun y hy => by
  unfold chop at hy
  obtain ⟨k, hk, rfl⟩ := List.mem_map.mp hy
  have hk := List.mem_range.mp hk
  refine piece_of ?_ ?_ fun c hc => h c (List.mem_of_mem_drop (List.mem_of_mem_take hc))
  · rw [List.length_take, List.length_drop]; omega
  · rw [List.length_take]; omega
theorem flat_good {xs : List (List Nat)} (h : ∀ x ∈ xs, pieceB x = true) (hl : xs.length ≤ 12) : xs.flatten.length ≤ 96 ∧ ∀ c ∈ xs.flatten, good c = true := by
  refine ⟨?_, fun c hc => ?_⟩
  · rw [List.length_flatten]
    have := sum_le (xs := xs) fun x hx => (pieceB_len (h x hx)).2.1
    omega
  · obtain ⟨x, hx, hc⟩ := List.mem_flatten.mp hc
    exact (pieceB_len (h x hx)).2.2 c hc
def turnB : List S := match b_law with
  | [_, .for _ _ b, _] => b
  | _ => []
theorem eq_tup (xs : List (List Nat)) (h : plains (xs.map D.str) = true) (hd : depths (xs.map D.str) ≤ 60) (he : deqs (xs.map D.str) (xs.map D.str) = true) : cmpD .ne (.tup (xs.map D.str)) (.tup (xs.map D.str)) = some false := by
  show (if eqOk (.tup (xs.map D.str)) (.tup (xs.map D.str)) then some (!deqs (xs.map D.str) (xs.map D.str)) else none) = _
  have e : eqOk (.tup (xs.map D.str)) (.tup (xs.map D.str)) = true := by
    unfold eqOk
    rw [plain, h, depth, decide_eq_true (show depths (xs.map D.str) + 1 ≤ 64 by omega)]
    rfl
  rw [if_pos e, he]
  rfl
theorem strs_facts : ∀ xs : List (List Nat), plains (xs.map D.str) = true ∧ depths (xs.map D.str) = 0 ∧ deqs (xs.map D.str) (xs.map D.str) = true
  | [] => ⟨rfl, rfl, rfl⟩
  | x :: xs => by
    obtain ⟨h1, h2, h3⟩ := strs_facts xs
    refine ⟨?_, ?_, ?_⟩
    · show (plain (.str x) && plains (xs.map D.str)) = true
      rw [h1]; rfl
    · show max (depth (.str x)) (depths (xs.map D.str)) = 0
      rw [h2]; rfl
    · show (deq (.str x) (.str x) && deqs (xs.map D.str) (xs.map D.str)) = true
      rw [h3, Bool.and_true]
      show (x == x) = true
      exact beq_self_eq_true x
theorem ne_tup (xs : List (List Nat)) : cmpD .ne (.tup (xs.map D.str)) (.tup (xs.map D.str)) = some false :=
  let ⟨h1, h2, h3⟩ := strs_facts xs
  eq_tup xs h1 (by rw [h2]; decide) h3
theorem isnt_tt : cmpD .isnt (.bl true) (.bl true) = some false := by decide +kernel
theorem turn_sp (n : Nat) (M : Sto) (h : WellM M) (a o2 : D) (o3 o4 o5 o6 o7 o8 o9 : Option D) : ∃ ρ M', evSs (Ev.run sub Γ (n + 9)) sub turnB [some a, some (.obj 0), some o2, o3, o4, o5, o6, o7, o8, o9] M = .ok .nx ρ M' ∧ WellM M' ∧ ∃ b3 b4 b5 b6 b7 b8 b9, ρ = [some a, some (.obj 0), some o2, b3, b4, b5, b6, b7, b8, b9] := by
  obtain ⟨j1, M1, e1, w1, p1, q1⟩ := draw_sp (n + 6) M 7 h (by decide) (by decide)
  obtain ⟨hd, M2, e2, w2, l2, g2⟩ := string_sp (n + 5) M1 (8 * j1) w1 (by omega) (by omega)
  obtain ⟨j3, M3, e3, w3, p3, q3⟩ := draw_sp (n + 6) M2 49 w2 (by decide) (by decide)
  obtain ⟨tl, M4, e4, w4, l4, g4⟩ := string_sp (n + 5) M3 j3 w3 (by omega) (by omega)
  have gw : ∀ c ∈ hd ++ tl, good c = true := fun c hc => (List.mem_append.mp hc).elim (g2 c) (g4 c)
  have lw : (hd ++ tl).length ≤ 96 := by rw [List.length_append]; omega
  have lh : hd.length ≤ 96 := by omega
  have lt : tl.length ≤ 96 := by omega
  have c5 := chopped_sp (n + 6) hd M4 (text_of lh g2) (by omega)
  have c6 := chopped_sp (n + 6) tl M4 (text_of lt g4) (by omega)
  have c7 := chopped_sp (n + 6) (hd ++ tl) M4 (text_of lw gw) (by omega)
  have f1 := fits_sp (n + 8) hd M4 (by omega)
  have f2 := fits_sp (n + 8) tl M4 (by omega)
  have f3 := fits_sp (n + 8) (hd ++ tl) M4 (by omega)
  have S1000 : (1000 : Nat) ≤ SZ := by decide
  have a1 : binD .add (.str hd) (.str tl) = some (.str (hd ++ tl)) := bin_add_str (by omega)
  have ca : chop (hd ++ tl) = chop hd ++ chop tl := chop_app (by rw [l2]; exact ⟨j1.toNat, by omega⟩)
  have a2 : binD .add (.tup ((chop hd).map D.str)) (.tup ((chop tl).map D.str)) = some (.tup ((chop (hd ++ tl)).map D.str)) := by
    rw [ca, List.map_append]
    exact bin_add_tup (by rw [List.length_map, List.length_map, chop_len, chop_len]; omega)
  have n1 := ne_tup (chop (hd ++ tl))
  have jw := joined_sp (n + 6) (chop (hd ++ tl)) M4 (by rw [chop_len]; omega) (chop_piece gw)
  rw [chop_flat] at jw
  have jt := joined_sp (n + 6) (chop tl) M4 (by rw [chop_len]; omega) (chop_piece g4)
  rw [chop_flat] at jt
  have i1 := is_sp (n + 8) (hd ++ tl) M4
  have i2 := is_sp (n + 8) tl M4
  obtain ⟨ps, M5, e5, w5, l5, g5⟩ := pieces_sp (n + 4) M4 w4
  have jp := joined_sp (n + 6) ps M5 l5 g5
  obtain ⟨lp, gp⟩ := flat_good g5 l5
  have js : meD .join (.str []) [.lst (ps.map D.str)] = some (.str ps.flatten) := join_spl ps (Nat.le_trans (sum_le fun x hx => (pieceB_len (g5 x hx)).2.1) (by omega))
  have i3 := is_sp (n + 8) ps.flatten M5
  have t3 := text_t (n + 7) ps.flatten M5 (text_of lp gp) (by omega)
  have c8 := chopped_sp (n + 6) ps.flatten M5 (text_of lp gp) (by omega)
  have f4 := fits_sp (n + 8) ps.flatten M5 (by omega)
  obtain ⟨y, M6, e6, w6, ty, ly⟩ := spoilt_text_sp (n + 4) (hd ++ tl) M5 w5 lw
  have r6 := text_refused (n + 5) y M6 ty ly
  obtain ⟨d, M7, e7, w7, rf⟩ := spoilt_pieces_sp (n + 4) ps M6 w6 l5 g5
  have r7 := pieces_refused (n := n + 5) (rf (n + 5) M7)
  have m8 : mulOk 8 j1 = true := mulOk_l (by decide)
  refine ⟨[some a, some (.obj 0), some o2, some (.str hd), some (.str tl), some (.tup ((chop hd).map D.str)), some (.tup ((chop tl).map D.str)), some (.tup ((chop (hd ++ tl)).map D.str)), some (.lst (ps.map D.str)), some (.str ps.flatten)], M7, ?_, w7, _, _, _, _, _, _, _, rfl⟩
  simp only [turnB, b_law]
  simp only [startE, ev_var, ev_bor, ev_con, ev_neg, ev_bin, ev_cmp, ev_chain, ev_and, ev_or, ev_not, ev_ite, ev_join, ev_call, ev_bi, ev_tup, ev_lst, ev_sub, ev_slc, ev_alloc, evs_nil, evs_cons, es_set, es_own, es_unp, es_ex, es_ret, es_reto, es_retn, es_ite, es_whl, es_for, es_brk, es_cnt, es_pass, es_raise, es_try, es_sto, es_oput, ess_nil, ess_cons, Ev.get, Ev.put, map1, map2, map3, List.length_cons, List.length_nil, List.replicate, List.cons_append, List.nil_append, List.getElem?_cons_zero, List.getElem?_cons_succ, List.set_cons_zero, List.set_cons_succ, Option.bind_some, id, Option.map_some, r_bind_ok, r_of_some, r_toS_ok, rs_nx, rs_rt, rs_exc, r_bind_exc, r_toS_exc, out_rt, out_nx, out_exc, nrm_int, nrm_bl, nrm_non, nrm_str, nrm_lst, nrm_tup, nrm_scr, nrm_ty, nrm_obj0, bin_mul_int, bin_add_int, bin_sub_int, bin_mod_int, bin_fdiv_int, bi_int_int, Nat.sub_self, w_sub0, w_sub1, w_sub2, w_sub3, w_put1, w_put2, w_put3, cmp_eq_int, cmp_ne_int, cmp_lt_int, cmp_gt_int, cmp_le_int, cmp_ge_int, bi_len_str, bi_len_tup, bi_len_lst, bi_tuple_lst, bi_list_lst, bi_max_int, items_lst, items_tup, items_itr, items_str, putT_one, e1, m8, e2, e3, e4, c5, c6, a1, c7, f1, f2, f3, Bool.not_true, a2, n1, jw, i1, jt, i2, e5, bi_tuple_lst, jp, js, i3, t3, isnt_tt, c8, f4, e6, r6, e7, r7]
theorem well_sp (n : Nat) (ns : List Int) (hl : ns.length ≤ 63) : ∃ M, Ev.run sub Γ (n + 1) 6 [.scr (ns.map D.int)] [] = .ok (.obj 0, M) ∧ WellM M := by
  have S1000 : (1000 : Nat) ≤ SZ := by decide
  have c1 := cut_len ns none (some 63)
  have ec : cut (ns.map D.int) none (some 63) = (cut ns none (some 63)).map D.int := by
    unfold cut
    rw [List.length_map, List.map_take, List.map_drop]
  have hs : evE (Ev.run sub Γ n) (.slc (.var 0) (.con .non) (.con (.int 63))) [some (.scr (ns.map D.int)), none] [] = .ok (.lst ((cut ns none (some 63)).map D.int), []) := by
    have s1 : slcD (.scr (ns.map D.int)) none (some 63) = some (.lst ((cut ns none (some 63)).map D.int)) := by
      show some (D.lst (cut (ns.map D.int) none (some 63))) = _
      rw [ec]
    simp only [startE, ev_var, ev_bor, ev_con, ev_neg, ev_bin, ev_cmp, ev_chain, ev_and, ev_or, ev_not, ev_ite, ev_join, ev_call, ev_bi, ev_tup, ev_lst, ev_sub, ev_slc, ev_alloc, evs_nil, evs_cons, es_set, es_own, es_unp, es_ex, es_ret, es_reto, es_retn, es_ite, es_whl, es_for, es_brk, es_cnt, es_pass, es_raise, es_try, es_sto, es_oput, ess_nil, ess_cons, Ev.get, Ev.put, map1, map2, map3, List.length_cons, List.length_nil, List.replicate, List.cons_append, List.nil_append, List.getElem?_cons_zero, List.getElem?_cons_succ, List.set_cons_zero, List.set_cons_succ, Option.bind_some, id, Option.map_some, r_bind_ok, r_of_some, r_toS_ok, rs_nx, rs_rt, rs_exc, r_bind_exc, r_toS_exc, out_rt, out_nx, out_exc, nrm_int, nrm_bl, nrm_non, nrm_str, nrm_lst, nrm_tup, nrm_scr, nrm_ty, nrm_obj0, bin_mul_int, bin_add_int, bin_sub_int, bin_mod_int, bin_fdiv_int, bi_int_int, Nat.sub_self, w_sub0, w_sub1, w_sub2, w_sub3, w_put1, w_put2, w_put3, cmp_eq_int, cmp_ne_int, cmp_lt_int, cmp_gt_int, cmp_le_int, cmp_ge_int, bi_len_str, bi_len_tup, bi_len_lst, bi_tuple_lst, bi_list_lst, bi_max_int, items_lst, items_tup, items_itr, items_str, putT_one, isNon, bnd, s1]
  have hc : compL (evCs (Ev.run sub Γ n) []) (evE (Ev.run sub Γ n) (.bi .int [.var 1])) (.one 1) ((cut ns none (some 63)).map D.int) [some (.scr (ns.map D.int)), none] [] = .ok (((cut ns none (some 63)).map D.int).map (fun d => d), []) := compL_pure fun d hd => by
    obtain ⟨i, _, rfl⟩ := List.mem_map.mp hd
    refine ⟨_, rfl, ?_⟩
    show evE (Ev.run sub Γ n) (.bi .int [.var 1]) [some (.scr (ns.map D.int)), some (.int i)] [] = _
    simp only [startE, ev_var, ev_bor, ev_con, ev_neg, ev_bin, ev_cmp, ev_chain, ev_and, ev_or, ev_not, ev_ite, ev_join, ev_call, ev_bi, ev_tup, ev_lst, ev_sub, ev_slc, ev_alloc, evs_nil, evs_cons, es_set, es_own, es_unp, es_ex, es_ret, es_reto, es_retn, es_ite, es_whl, es_for, es_brk, es_cnt, es_pass, es_raise, es_try, es_sto, es_oput, ess_nil, ess_cons, Ev.get, Ev.put, map1, map2, map3, List.length_cons, List.length_nil, List.replicate, List.cons_append, List.nil_append, List.getElem?_cons_zero, List.getElem?_cons_succ, List.set_cons_zero, List.set_cons_succ, Option.bind_some, id, Option.map_some, r_bind_ok, r_of_some, r_toS_ok, rs_nx, rs_rt, rs_exc, r_bind_exc, r_toS_exc, out_rt, out_nx, out_exc, nrm_int, nrm_bl, nrm_non, nrm_str, nrm_lst, nrm_tup, nrm_scr, nrm_ty, nrm_obj0, bin_mul_int, bin_add_int, bin_sub_int, bin_mod_int, bin_fdiv_int, bi_int_int, Nat.sub_self, w_sub0, w_sub1, w_sub2, w_sub3, w_put1, w_put2, w_put3, cmp_eq_int, cmp_ne_int, cmp_lt_int, cmp_gt_int, cmp_le_int, cmp_ge_int, bi_len_str, bi_len_tup, bi_len_lst, bi_tuple_lst, bi_list_lst, bi_max_int, items_lst, items_tup, items_itr, items_str, putT_one]
  rw [List.map_id'] at hc
  have he := ev_comp_of hs rfl (by rw [List.length_map]; omega) hc
  refine ⟨[.val (.lst [.lst ((cut ns none (some 63)).map D.int), .int 0, .int 0, .int 1])], ?_, cut ns none (some 63), 0, 0, 1, rfl, Int.le_refl 0⟩
  rw [call_of (F := f__law_well) rfl rfl]
  have ib : ∀ xs : List D, isBox (.lst xs) = true := fun _ => rfl
  simp only [f__law_well, b__law_well, startE, ev_var, ev_bor, ev_con, ev_neg, ev_bin, ev_cmp, ev_chain, ev_and, ev_or, ev_not, ev_ite, ev_join, ev_call, ev_bi, ev_tup, ev_lst, ev_sub, ev_slc, ev_alloc, evs_nil, evs_cons, es_set, es_own, es_unp, es_ex, es_ret, es_reto, es_retn, es_ite, es_whl, es_for, es_brk, es_cnt, es_pass, es_raise, es_try, es_sto, es_oput, ess_nil, ess_cons, Ev.get, Ev.put, map1, map2, map3, List.length_cons, List.length_nil, List.replicate, List.cons_append, List.nil_append, List.getElem?_cons_zero, List.getElem?_cons_succ, List.set_cons_zero, List.set_cons_succ, Option.bind_some, id, Option.map_some, r_bind_ok, r_of_some, r_toS_ok, rs_nx, rs_rt, rs_exc, r_bind_exc, r_toS_exc, out_rt, out_nx, out_exc, nrm_int, nrm_bl, nrm_non, nrm_str, nrm_lst, nrm_tup, nrm_scr, nrm_ty, nrm_obj0, bin_mul_int, bin_add_int, bin_sub_int, bin_mod_int, bin_fdiv_int, bi_int_int, Nat.sub_self, w_sub0, w_sub1, w_sub2, w_sub3, w_put1, w_put2, w_put3, cmp_eq_int, cmp_ne_int, cmp_lt_int, cmp_gt_int, cmp_le_int, cmp_ge_int, bi_len_str, bi_len_tup, bi_len_lst, bi_tuple_lst, bi_list_lst, bi_max_int, items_lst, items_tup, items_itr, items_str, putT_one, he, ib, if_true]
theorem plain (ns : List Int) (hl : ns.length ≤ 63) : ∃ M, Ev.run sub Γ 40 19 [.scr (ns.map D.int)] [] = .ok (.bl true, M) := by
  obtain ⟨M1, e1, w1⟩ := well_sp 38 ns hl
  obtain ⟨j, M2, e2, w2, j0, j1⟩ := draw_sp 36 M1 5 w1 (by decide) (by decide)
  have S1000 : (1000 : Nat) ≤ SZ := by decide
  have hr : evE (Ev.run sub Γ 39) (.bi .range [.bin .add (.con (.int 1)) (.call 8 [.var 1, .con (.int 5)])]) [some (.scr (ns.map D.int)), some (.obj 0), none, none, none, none, none, none, none, none] M1 = .ok (.itr (intsFrom 0 1 (1 + j).toNat), M2) :=
    range_ev (by simp only [startE, ev_var, ev_bor, ev_con, ev_neg, ev_bin, ev_cmp, ev_chain, ev_and, ev_or, ev_not, ev_ite, ev_join, ev_call, ev_bi, ev_tup, ev_lst, ev_sub, ev_slc, ev_alloc, evs_nil, evs_cons, es_set, es_own, es_unp, es_ex, es_ret, es_reto, es_retn, es_ite, es_whl, es_for, es_brk, es_cnt, es_pass, es_raise, es_try, es_sto, es_oput, ess_nil, ess_cons, Ev.get, Ev.put, map1, map2, map3, List.length_cons, List.length_nil, List.replicate, List.cons_append, List.nil_append, List.getElem?_cons_zero, List.getElem?_cons_succ, List.set_cons_zero, List.set_cons_succ, Option.bind_some, id, Option.map_some, r_bind_ok, r_of_some, r_toS_ok, rs_nx, rs_rt, rs_exc, r_bind_exc, r_toS_exc, out_rt, out_nx, out_exc, nrm_int, nrm_bl, nrm_non, nrm_str, nrm_lst, nrm_tup, nrm_scr, nrm_ty, nrm_obj0, bin_mul_int, bin_add_int, bin_sub_int, bin_mod_int, bin_fdiv_int, bi_int_int, Nat.sub_self, w_sub0, w_sub1, w_sub2, w_sub3, w_put1, w_put2, w_put3, cmp_eq_int, cmp_ne_int, cmp_lt_int, cmp_gt_int, cmp_le_int, cmp_ge_int, bi_len_str, bi_len_tup, bi_len_lst, bi_tuple_lst, bi_list_lst, bi_max_int, items_lst, items_tup, items_itr, items_str, putT_one, e2]) (by omega) (by omega)
  obtain ⟨ρ', M3, e3, w3, b2, b3, b4, b5, b6, b7, b8, b9, rfl⟩ := forL_st (body := evSs (Ev.run sub Γ 39) sub turnB) (t := .one 2) (I := fun ρ M => WellM M ∧ ∃ b2 b3 b4 b5 b6 b7 b8 b9, ρ = [some (.scr (ns.map D.int)), some (.obj 0), b2, b3, b4, b5, b6, b7, b8, b9])
    (ds := intsFrom 0 1 (1 + j).toNat) (ρ := [some (.scr (ns.map D.int)), some (.obj 0), none, none, none, none, none, none, none, none]) (M := M2) ⟨w2, _, _, _, _, _, _, _, _, rfl⟩ (by
      rintro d _ ρ M ⟨w, b2, b3, b4, b5, b6, b7, b8, b9, rfl⟩
      obtain ⟨ρ2, M', e, w', c3, c4, c5, c6, c7, c8, c9, rfl⟩ := turn_sp 30 M w (.scr (ns.map D.int)) d b3 b4 b5 b6 b7 b8 b9
      exact ⟨_, rfl, _, M', e, w', _, _, _, _, _, _, _, _, rfl⟩)
  have hf : evS (Ev.run sub Γ 39) sub (.for (.one 2) (.bi .range [.bin .add (.con (.int 1)) (.call 8 [.var 1, .con (.int 5)])]) turnB) [some (.scr (ns.map D.int)), some (.obj 0), none, none, none, none, none, none, none, none] M1 = .ok .nx [some (.scr (ns.map D.int)), some (.obj 0), b2, b3, b4, b5, b6, b7, b8, b9] M3 := by
    rw [es_for, hr, r_toS_ok]
    exact e3
  refine ⟨M3, ?_⟩
  rw [call_of (F := f_law) rfl rfl]
  have eb : b_law = [.set 1 (.call 6 [.var 0]), .for (.one 2) (.bi .range [.bin .add (.con (.int 1)) (.call 8 [.var 1, .con (.int 5)])]) turnB, .ret (.con (.bl true))] := rfl
  simp only [f_law, eb, startE, ev_var, ev_bor, ev_con, ev_neg, ev_bin, ev_cmp, ev_chain, ev_and, ev_or, ev_not, ev_ite, ev_join, ev_call, ev_bi, ev_tup, ev_lst, ev_sub, ev_slc, ev_alloc, evs_nil, evs_cons, es_set, es_own, es_unp, es_ex, es_ret, es_reto, es_retn, es_ite, es_whl, es_brk, es_cnt, es_pass, es_raise, es_try, es_sto, es_oput, ess_nil, ess_cons, Ev.get, Ev.put, map1, map2, map3, List.length_cons, List.length_nil, List.replicate, List.cons_append, List.nil_append, List.getElem?_cons_zero, List.getElem?_cons_succ, List.set_cons_zero, List.set_cons_succ, Option.bind_some, id, Option.map_some, r_bind_ok, r_of_some, r_toS_ok, rs_nx, rs_rt, rs_exc, r_bind_exc, r_toS_exc, out_rt, out_nx, out_exc, nrm_int, nrm_bl, nrm_non, nrm_str, nrm_lst, nrm_tup, nrm_scr, nrm_ty, nrm_obj0, bin_mul_int, bin_add_int, bin_sub_int, bin_mod_int, bin_fdiv_int, bi_int_int, Nat.sub_self, w_sub0, w_sub1, w_sub2, w_sub3, w_put1, w_put2, w_put3, cmp_eq_int, cmp_ne_int, cmp_lt_int, cmp_gt_int, cmp_le_int, cmp_ge_int, bi_len_str, bi_len_tup, bi_len_lst, bi_tuple_lst, bi_list_lst, bi_max_int, items_lst, items_tup, items_itr, items_str, putT_one, e1, hf]
end K02
set_option Elab.async false
set_option linter.all false
set_option autoImplicit false
set_option maxRecDepth 1000000
set_option maxHeartbeats 0
open PySem PySem.W PySem.Calls PyProof.Rows
theorem PySem.Challenge.cw_homeshold_k02_whole_texts_chopped_and_jo_holds : PySem.Challenge.rw_homeshold_k02_whole_texts_chopped_and_jo.Holds := by
  w_on; o_law
  refine HandSHeadRun.head_any (r := OpenLaw.row PySem.Challenge.rw_homeshold_k02_whole_texts_chopped_and_jo) (q := view (OpenLaw.row PySem.Challenge.rw_homeshold_k02_whole_texts_chopped_and_jo).prog [28]) (H := K02.hk) (ob := K02.ob) (M := 6000) (loose := K02.loose) (d := HandSHeadRun.topDef (OpenLaw.row PySem.Challenge.rw_homeshold_k02_whole_texts_chopped_and_jo).prog 28) (kwd := []) K02.ob_eq
    (by kernel_rfl) (fun s => by kernel_rfl) K02.run (by kernel_rfl) (by kernel_rfl) (by kernel_rfl) (by rfl) (by first | assumption | decide +kernel) (by decide +kernel) ⟨rfl, rfl, rfl, rfl, rfl, by decide +kernel⟩ ?hw ?hc
  case hw => w_witness2
  case hc =>
    refine L2.walk_ofE (l := PySem.Challenge.rw_homeshold_k02_whole_texts_chopped_and_jo) (n := 63) (k := 40) (x := "_law_script") (CX := Ev.CXe (PySem.Challenge.rw_homeshold_k02_whole_texts_chopped_and_jo).prog) rfl (by decide) (by kernel_rfl) ⟨rfl, by decide, by decide⟩ ?F (Ev.cxe0 (PySem.Challenge.rw_homeshold_k02_whole_texts_chopped_and_jo).prog)
    intro w mg fa h Y G hmg0
    obtain ⟨K, KX, c⟩ := Y
    have hmg : mg ("law" : PySem.Str) = some (.ref fa) := by
      have e : (HandSHeadRun.topDef (OpenLaw.row PySem.Challenge.rw_homeshold_k02_whole_texts_chopped_and_jo).prog 28).name = ("law" : PySem.Str) := by kernel_rfl
      rw [← e]
      exact hmg0
    obtain ⟨fd, hb, hF⟩ := Ev.law_facts (n := 40) (il := 19) (dl := K02.d_law) (x := "_law_script") K02.Γ_eq (P := (PySem.Challenge.rw_homeshold_k02_whole_texts_chopped_and_jo).prog) (w := w) KX G hmg c K02.glb K02.ck K02.bnds rfl rfl rfl
    exact ⟨K, fd, _, KX, hb, fun H a ns hl _ hS => Ev.law_sp hS hl (K02.plain ns hl), hF⟩
